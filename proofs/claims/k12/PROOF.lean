import PyProof.Rows.All
import Wide.All
import OpenK.AllK
import Wide.FinOn
import HandS.ForMost
import HandS.Flow
import HandS.IsInst
import HandS.TupAny
import HandS.Replace
import HandS.Style
import HandS.StrMore
import HandS.WideBits
import HandS.Wide
import HandS.TupMul
import KE.DataEq
import KE.DataCmp
import HandS.TupLe
import HandS.Walk
import PyProof.Draws
import PyProof.EnumMake
import HandS.Iter
import HandS.Words
import HandS.Ends
import HandS.Head0
import HandS.Head1
import HandS.Head2
import HandS.HeadEnd
import HandS.HeadHook1
import HandS.HeadHook2
import PySem.Challenge.RW_tellindex_k12_whole_reading
set_option linter.all false
set_option Elab.async false
set_option maxRecDepth 100000
set_option maxHeartbeats 4000000
namespace Pv

/-- values as trees; ref i: the object that slot i of the running frame owns -/
inductive D where
  | non
  | bl (b : Bool)
  | int (i : Int)
  | str (s : List Nat)
  | tup (xs : List D)
  | lst (xs : List D)
  | dic (ks vs : List D)
  | sset (xs : List D)
  | ins (c : Nat) (fs : List Nat) (vs : List D)
  | fn (f : Nat)
  | clo (l : Nat) (ds : List D)
  | exn (c : Nat) (ds : List D)
  | ref (i : Nat)
  | scr (xs : List D)
  | dead
  deriving Inhabited

/-- a slot: empty; a value; an object that the frame owns (may be changed); the same while it is walked -/
inductive Sl where
  | e
  | v (d : D)
  | o (d : D)
  | l (d : D)
  deriving Inhabited
abbrev Env := List Sl

inductive Res (α : Type) where
  | ok (a : α) (r : Env)
  | exc (x : D) (r : Env)
  | no
def Res.bind {α β : Type} (r : Res α) (f : α → Env → Res β) : Res β :=
  match r with
  | .ok a s => f a s
  | .exc x s => .exc x s
  | .no => .no
@[simp] theorem Res.bind_ok {α β : Type} (a : α) (r : Env) (f : α → Env → Res β) : (Res.ok a r).bind f = f a r := rfl
@[simp] theorem Res.bind_exc {α β : Type} (x : D) (r : Env) (f : α → Env → Res β) : (Res.exc x r : Res α).bind f = .exc x r := rfl
@[simp] theorem Res.bind_no {α β : Type} (f : α → Env → Res β) : (Res.no : Res α).bind f = .no := rfl
/-- a partial plain step -/
def opt {α β : Type} (o : Option α) (f : α → Res β) : Res β :=
  match o with
  | some a => f a
  | none => .no
@[simp] theorem opt_some {α β : Type} (a : α) (f : α → Res β) : opt (some a) f = f a := rfl
@[simp] theorem opt_none {α β : Type} (f : α → Res β) : opt none f = .no := rfl

inductive Op2 where | add | sub | mul | fdiv | mod | pow deriving DecidableEq
inductive Cm where | eq | ne | lt | le | gt | ge | is | isnot | isin | notin deriving DecidableEq
inductive Ty where | int | str | bool | tuple | list | dict | set | cls (c : Nat) deriving DecidableEq
/-- built-ins called by name -/
inductive Bi where | len | abs | int | bool | repr | str | sum | any | all | list | tuple | dict | set | sorted | min | max | min2 | max2 | divmod | range1 | range2 | reprl deriving DecidableEq
/-- methods of built-in types -/
inductive Mt where | join | index | count | startswith | endswith | items | keys | values | get | get2 | split | copy deriving DecidableEq
/-- methods that change what a slot owns -/
inductive Mu where | append | extend | pop | popat | clear | update | setdefault | insert | sort | reverse deriving DecidableEq
/-- what is walked -/
inductive Wk where | seq | range | enum | zip | rev | items | values deriving DecidableEq

inductive Tg where
  | nm (i : Nat)
  | tp (ts : List Tg)

inductive ME where
  | c (d : D)
  | v (i : Nat)
  | g (k : Nat) (d : D)
  | tup (es : List ME)
  | lst (es : List ME)
  | dic (ks vs : List ME)
  | bin (o : Op2) (a b : ME)
  | neg (a : ME)
  | not (a : ME)
  | cmp (o : Cm) (a b : ME)
  | cmp2 (o p : Cm) (a b c : ME)
  | and (es : List ME)
  | or (es : List ME)
  | ife (t a b : ME)
  | ix (a b : ME)
  | sl (a : ME) (lo hi : Option ME)
  | rev (a : ME)
  | at (a : ME) (f : Nat)
  | call (f : Nat) (es : List ME) (ix : List Nat) (ds : List (Nat × D))
  | bi (b : Bi) (es : List ME)
  | isi (a : ME) (ts : List Ty)
  | mt (m : Mt) (a : ME) (es : List ME)
  | mu (m : Mu) (i : Nat) (es : List ME)
  | lc (e : ME) (t : Tg) (w : Wk) (es : List ME) (ifs : List ME) (own : List Nat)
  | dc (k e : ME) (t : Tg) (w : Wk) (es : List ME) (ifs : List ME) (own : List Nat)

inductive MT where
  | nm (i : Nat)
  | tp (ts : List MT)
  | sb (i : Nat) (x : ME)
  | at (i : Nat) (f : Nat)
inductive MS where
  | expr (e : ME)
  | set (i : Nat) (e : ME)
  | asg (t : MT) (e : ME)
  | par (ts : List Nat) (es : List ME)
  | ret (e : ME)
  | retn
  | ife (c : ME) (a b : List MS)
  | for (t : Tg) (w : Wk) (es : List ME) (b : List MS)
  | while (c : ME) (b : List MS)
  | brk
  | cont
  | pass
  | raise (c : Nat) (es : List ME)

mutual
def eqD : D → D → Bool
  | .non, .non => true
  | .bl a, .bl b => a == b
  | .bl a, .int j => (if a then 1 else 0) == j
  | .int i, .bl b => i == (if b then 1 else 0)
  | .int i, .int j => i == j
  | .str x, .str y => x == y
  | .lst xs, .lst ys => eqL xs ys
  | .tup xs, .tup ys => eqL xs ys
  | _, _ => false
def eqL : List D → List D → Bool
  | [], [] => true
  | x :: xs, y :: ys => eqD x y && eqL xs ys
  | _, _ => false
end
/-- plain data to a depth: none, bools, ints, texts, lists, tuples -/
def plain : Nat → D → Bool
  | _, .non => true
  | _, .bl _ => true
  | _, .int _ => true
  | _, .str _ => true
  | n + 1, .tup xs => xs.all (plain n)
  | n + 1, .lst xs => xs.all (plain n)
  | _, _ => false
/-- none, bools, ints, texts -/
def flat : D → Bool
  | .non => true
  | .bl _ => true
  | .int _ => true
  | .str _ => true
  | _ => false
def LIM : Nat := 16777216
def BIG : Int := 18446744073709551616
def DEEP : Nat := 40

def rd (r : Env) : D → Option D
  | .ref i =>
    match r[i]? with
    | some (.o d) => some d
    | some (.l d) => some d
    | some (.v d) => some d
    | _ => none
  | d => some d
/-- made a plain value: what a slot owns stays as it is from here on -/
def fz (r : Env) : D → Option (D × Env)
  | .ref i =>
    match r[i]? with
    | some (.o d) => some (d, r.set i (.v d))
    | some (.v d) => some (d, r)
    | _ => none
  | d => some (d, r)

def six (n d : Nat) : Option Int → Nat
  | none => d
  | some v => if v < 0 then (v + (n : Int)).toNat else min v.toNat n
def cut {α : Type} (xs : List α) (lo hi : Option Int) : List α :=
  (xs.drop (six xs.length 0 lo)).take (six xs.length xs.length hi - six xs.length 0 lo)
def ixn (n : Nat) (i : Int) : Option Nat :=
  if 0 ≤ i then (if i < n then some i.toNat else none) else if -(n : Int) ≤ i then some (i + n).toNat else none
def ati {α : Type} (xs : List α) (i : Int) : Option α := (ixn xs.length i).bind fun j => xs[j]?

def truth : D → Option Bool
  | .non => some false
  | .bl b => some b
  | .int i => some (i != 0)
  | .str s => if s.length ≤ LIM then some (!s.isEmpty) else none
  | .tup xs => some (!xs.isEmpty)
  | .lst xs => some (!xs.isEmpty)
  | _ => none

def mulOk (i j : Int) : Bool := (decide (-BIG < i) && decide (i < BIG)) || (decide (-BIG < j) && decide (j < BIG))
/-- a value and whether it is an object made right now that nobody else holds -/
def op2 : Op2 → D → D → Option (D × Bool)
  | .add, .int i, .int j => some (.int (i + j), false)
  | .add, .str x, .str y => if x.length + y.length ≤ LIM then some (.str (x ++ y), false) else none
  | .add, .lst x, .lst y => if x.length + y.length ≤ LIM then some (.lst (x ++ y), true) else none
  | .add, .tup x, .tup y => if x.length + y.length ≤ LIM then some (.tup (x ++ y), false) else none
  | .sub, .int i, .int j => some (.int (i - j), false)
  | .mul, .int i, .int j => if mulOk i j then some (.int (i * j), false) else none
  | .mul, .str x, .int k => if x.length * k.toNat ≤ LIM && decide (k < 1000000) && decide (-1000000 < k) then some (.str (List.replicate k.toNat x).flatten, false) else none
  | .mul, .lst x, .int k => if x.length * k.toNat ≤ LIM && decide (k < 1000000) && decide (-1000000 < k) then some (.lst (List.replicate k.toNat x).flatten, true) else none
  | .mul, .tup x, .int k => if !x.isEmpty && decide (2 ≤ k) && decide (k ≤ 1000) && decide (x.length ≤ 1000) then some (.tup (List.replicate k.toNat x).flatten, false)
    else if !x.isEmpty && decide (k = 1) then some (.tup x, false)
    else if !x.isEmpty && decide (k ≤ 0) && decide (-1000000 < k) then some (.tup [], false) else none
  | .fdiv, .int i, .int j => if 0 < j && decide (j < 1073741824) then some (.int (i / j), false) else none
  | .mod, .int i, .int j => if 0 < j then some (.int (i % j), false) else none
  | .pow, .int i, .int j => if 0 ≤ j && decide (j ≤ 1000000) && decide (i.natAbs < 18446744073709551616) then some (.int (i ^ j.toNat), false) else none
  | _, _, _ => none

def lexLt : List Nat → List Nat → Bool
  | _, [] => false
  | [], _ :: _ => true
  | x :: xs, y :: ys => decide (x < y) || (x == y && lexLt xs ys)

/-- does the row x stand in y -/
def stands : List Nat → List Nat → Bool
  | x, y => (List.range (y.length + 1)).any fun i => (y.drop i).take x.length == x

def inL (x : D) : List D → Bool
  | [] => false
  | y :: ys => eqD y x || inL x ys

def cmpD (inS : List Nat → List Nat → Bool) : Cm → D → D → Option Bool
  | .eq, a, b => if plain DEEP a && plain DEEP b then some (eqD a b) else none
  | .ne, a, b => if plain DEEP a && plain DEEP b then some (!eqD a b) else none
  | .lt, .int i, .int j => some (decide (i < j))
  | .le, .int i, .int j => some (decide (i ≤ j))
  | .gt, .int i, .int j => some (decide (j < i))
  | .ge, .int i, .int j => some (decide (j ≤ i))
  | .is, .dead, _ => none
  | .isnot, .dead, _ => none
  | .is, a, .non => some (match a with | .non => true | _ => false)
  | .isnot, a, .non => some (!(match a with | .non => true | _ => false))
  | .is, .bl a, .bl b => some (a == b)
  | .isnot, .bl a, .bl b => some (a != b)
  | .isin, .str x, .str y => some (inS x y)
  | .notin, .str x, .str y => some (!inS x y)
  | .isin, a, .lst xs => if plain DEEP a && xs.all (plain DEEP) then some (inL a xs) else none
  | .isin, a, .tup xs => if plain DEEP a && xs.all (plain DEEP) then some (inL a xs) else none
  | .notin, a, .lst xs => if plain DEEP a && xs.all (plain DEEP) then some (!inL a xs) else none
  | .notin, a, .tup xs => if plain DEEP a && xs.all (plain DEEP) then some (!inL a xs) else none
  | _, _, _ => none

def isTy : D → Ty → Bool
  | .int _, .int => true
  | .bl _, .int => true
  | .bl _, .bool => true
  | .str _, .str => true
  | .tup _, .tuple => true
  | .lst _, .list => true
  | .scr _, .list => true
  | .dic _ _, .dict => true
  | .sset _, .set => true
  | .ins c _ _, .cls d => c == d
  | .exn c _, .cls d => c == d
  | _, _ => false
def isiOk : D → Bool
  | .ref _ => false
  | .dead => false
  | .clo _ _ => false
  | .fn _ => false
  | _ => true


mutual
def ltD : D → D → Bool
  | .int i, .int j => decide (i < j)
  | .str x, .str y => lexLt x y
  | .tup xs, .tup ys => ltL xs ys
  | .lst xs, .lst ys => ltL xs ys
  | _, _ => false
def ltL : List D → List D → Bool
  | [], [] => false
  | [], _ :: _ => true
  | _ :: _, [] => false
  | x :: xs, y :: ys => if eqD x y then ltL xs ys else ltD x y
end
-- two values of one shape, made of ints, texts and tuples
mutual
def alikeD : D → D → Bool
  | .int _, .int _ => true
  | .str _, .str _ => true
  | .tup xs, .tup ys => alikeL xs ys
  | _, _ => false
def alikeL : List D → List D → Bool
  | [], [] => true
  | x :: xs, y :: ys => alikeD x y && alikeL xs ys
  | _, _ => false
end
def sortD (xs : List D) : List D := xs.mergeSort fun a b => !ltD b a

def boolsOf : List D → Option (List Bool)
  | [] => some []
  | .bl b :: r => (boolsOf r).map (b :: ·)
  | _ :: _ => none
def intsOf : List D → Option (List Int)
  | [] => some []
  | .int i :: r => (intsOf r).map (i :: ·)
  | _ :: _ => none
def strsOf : List D → Option (List (List Nat))
  | [] => some []
  | .str s :: r => (strsOf r).map (s :: ·)
  | _ :: _ => none
def sumI (xs : List Int) : Int := xs.foldl (· + ·) 0
def minI : List Int → Option Int
  | [] => none
  | x :: r => some (r.foldl (fun a b => if b < a then b else a) x)
def maxI : List Int → Option Int
  | [] => none
  | x :: r => some (r.foldl (fun a b => if a < b then b else a) x)
def joinS (sep : List Nat) : List (List Nat) → List Nat
  | [] => []
  | [x] => x
  | x :: y :: r => x ++ sep ++ joinS sep (y :: r)
def idxL (x : D) : List D → Option Nat
  | [] => none
  | y :: ys => if eqD x y then some 0 else (idxL x ys).map (· + 1)
def chars (s : List Nat) : List D := s.map fun c => .str [c]
/-- at how many places a row stands, from the left, without overlap -/
def countS (x : List Nat) : Nat → List Nat → Nat
  | 0, _ => 0
  | n + 1, y => if y.length < x.length then 0 else if y.take x.length == x then countS x n (y.drop x.length) + 1 else countS x n (y.drop 1)

mutual
def wtD : D → Nat
  | .str s => 10 * s.length + 2
  | .tup xs => wtL xs + 3
  | .lst xs => wtL xs + 3
  | _ => 2000
def wtL : List D → Nat
  | [] => 0
  | x :: xs => wtD x + 2 + wtL xs
end
mutual
/-- ints of less than 1,900 bits, texts of signs -/
def leafOk : D → Bool
  | .int i => decide (i.natAbs < 2 ^ 1900)
  | .str s => s.all fun c => decide (c < 4294967296)
  | .tup xs => leafL xs
  | .lst xs => leafL xs
  | _ => true
def leafL : List D → Bool
  | [] => true
  | x :: xs => leafOk x && leafL xs
end
def showOk (d : D) : Bool := plain DEEP d && leafOk d && decide (wtD d ≤ LIM)

structure Fn where
  np : Nat
  ns : Nat
  keep : List Bool
  body : List MS
structure Sys where
  rp : D → List Nat
  inS : List Nat → List Nat → Bool
  cnt : List Nat → List Nat → Nat
  fns : List Fn
  fuel : Nat
inductive Rc where
  | ok (d : D) (fr : Bool) (outs : Env)
  | exc (x : D) (outs : Env)
  | no
abbrev CL := Nat → List Sl → Rc
def fkeep (P : Sys) (f i : Nat) : Bool :=
  match P.fns[f]? with
  | some F => F.keep.getD i false
  | none => false

def isBox : D → Bool
  | .lst _ => true
  | .dic _ _ => true
  | .ins _ _ _ => true
  | _ => false

/-- what is walked: the items -/
def itemsOf : D → Option (List D)
  | .lst xs => some xs
  | .tup xs => some xs
  | .str s => if s.length ≤ LIM then some (chars s) else none
  | .scr xs => some xs
  | _ => none
def ranged (a b : Int) : List D := (List.range (b - a).toNat).map fun (k : Nat) => .int (a + k)
def rngOk (i : Int) : Bool := decide (-1000000000 < i) && decide (i < 1000000000)
def enumFrom : Nat → List D → List D
  | _, [] => []
  | k, x :: r => .tup [.int k, x] :: enumFrom (k + 1) r
def zipD : List D → List D → List D
  | x :: xs, y :: ys => .tup [x, y] :: zipD xs ys
  | _, _ => []
def walk : Wk → List D → Option (List D)
  | .seq, [d] => itemsOf d
  | .range, [.int b] => if rngOk b then some (ranged 0 b) else none
  | .range, [.int a, .int b] => if rngOk a && rngOk b then some (ranged a b) else none
  | .enum, [.lst xs] => some (enumFrom 0 xs)
  | .enum, [.str s] => if s.length ≤ LIM then some (enumFrom 0 (chars s)) else none
  | .zip, [.lst xs, .lst ys] => some (zipD xs ys)
  | _, _ => none

/-- names stored from a walk -/
def putV (i : Nat) (d : D) (r : Env) : Option Env :=
  match r[i]? with
  | none => none
  | some (.l _) => none
  | some _ => some (r.set i (.v d))
def bindT : Tg → D → Env → Option Env
  | .nm i, d, r => putV i d r
  | .tp [.nm i, .nm j], .tup [x, y], r => (putV i x r).bind (putV j y)
  | .tp [.nm i, .nm j, .nm k], .tup [x, y, z], r => ((putV i x r).bind (putV j y)).bind (putV k z)
  | _, _, _ => none
def tgIx : Tg → List Nat
  | .nm i => [i]
  | .tp [.nm i, .nm j] => [i, j]
  | .tp [.nm i, .nm j, .nm k] => [i, j, k]
  | _ => []
/-- the slots whose objects are walked: borrowed while they are -/
def refsOf (as : List (D × Bool)) : List Nat := as.filterMap fun x => match x.1 with | .ref j => some j | _ => none
def lock1 (js : List Nat) (i : Nat) (s : Sl) : Sl :=
  if js.contains i then
    match s with
    | .o d => .l d
    | s => s
  else s
def lockE (js : List Nat) (r : Env) : Env := if js.isEmpty then r else r.mapIdx (lock1 js)
/-- behind the walk: what was owned ahead of it (r0) is so again -/
def unlk1 : Sl → Sl → Sl
  | .o _, .l d => .o d
  | _, s => s
def unlkE (js : List Nat) (r0 r : Env) : Env := if js.isEmpty then r else List.zipWith unlk1 r0 r
def wipeE (own : List Nat) (r : Env) : Env := own.foldl (fun r i => r.set i .e) r
def back (own : List Nat) (r0 r : Env) : Env := own.foldl (fun r i => r.set i (r0.getD i .e)) r
def ownless (own : List Nat) (r : Env) : Bool := own.all fun i => match r[i]? with | some (.v _) => true | some .e => true | _ => false

def rdAll (r : Env) : List (D × Bool) → Option (List D)
  | [] => some []
  | (d, _) :: ds => (rd r d).bind fun x => (rdAll r ds).map (x :: ·)

/-- an argument's slot -/
def argOf (kp : Bool) (r : Env) (x : D × Bool) : Option Sl :=
  match x.1 with
  | .ref j =>
    if kp then
      match r[j]? with
      | some (.o d) => some (.o d)
      | some (.l d) => some (.l d)
      | some (.v d) => some (.v d)
      | _ => none
    else none
  | d => if x.2 then (if kp && isBox d then some (.o d) else none) else some (.v d)
/-- the slots for a call -/
def argSl (kp : Nat → Bool) (r : Env) (np : Nat) (ix : List Nat) (as : List (D × Bool)) (ds : List (Nat × D)) : Option (List Sl) :=
  (List.range np).mapM fun p =>
    match ix.findIdx? (· == p) with
    | some k => (as[k]?).bind (argOf (kp p) r)
    | none => (ds.lookup p).map Sl.v
def moved (ix : List Nat) (as : List (D × Bool)) : List (Nat × Nat) :=
  (ix.zip as).filterMap fun x => match x.2.1 with | .ref j => some (x.1, j) | _ => none
def wback (outs : Env) : List (Nat × Nat) → Env → Env
  | [], r => r
  | m :: ms, r => wback outs ms (match outs[m.1]? with | some s => r.set m.2 s | none => r)
def isRef : D → Bool
  | .ref _ => true
  | _ => false
def callOk (F : Fn) (ix : List Nat) (as : List (D × Bool)) : Bool :=
  decide ((moved ix as).map (·.2)).Nodup && decide ((as.filter (·.2)).length ≤ 1) && decide ix.Nodup && ix.all (fun p => decide (p < F.np)) && decide (ix.length = as.length)
def callE (P : Sys) (cl : CL) (f : Nat) (ix : List Nat) (ds : List (Nat × D)) (as : List (D × Bool)) (r : Env) : Res (D × Bool) :=
  match P.fns[f]? with
  | none => .no
  | some F =>
    if callOk F ix as then
      opt (argSl (fkeep P f) r F.np ix as ds) fun sl =>
        match cl f sl with
        | .ok d fr outs => if isRef d then .no else .ok (d, fr) (wback outs (moved ix as) r)
        | .exc x outs => .exc x (wback outs (moved ix as) r)
        | .no => .no
    else .no

def lenD : D → Option Nat
  | .str s => if s.length ≤ LIM then some s.length else none
  | .lst xs => some xs.length
  | .scr xs => some xs.length
  | .tup xs => some xs.length
  | .dic ks _ => some ks.length
  | .sset xs => some xs.length
  | _ => none
/-- built-ins by name, on values -/
def biD (P : Sys) : Bi → List D → Option (D × Bool)
  | .len, [d] => (lenD d).map fun (n : Nat) => (D.int (n : Int), false)
  | .abs, [.int i] => some (.int (if i < 0 then -i else i), false)
  | .int, [.int i] => some (.int i, false)
  | .int, [.bl b] => some (.int (if b then 1 else 0), false)
  | .bool, [.bl b] => some (.bl b, false)
  | .repr, [.dic ks vs] => if ks.isEmpty && vs.isEmpty then some (.str [123, 125], false) else none
  | .repr, [d] => if showOk d then some (.str (P.rp d), false) else none
  | .reprl, ds => if showOk (.lst ds) then some (.str (P.rp (.lst ds)), false) else none
  | .sum, [.lst xs] => (intsOf xs).map fun ns => (.int (sumI ns), false)
  | .any, [.lst xs] => (boolsOf xs).map fun bs => (.bl (bs.any id), false)
  | .all, [.lst xs] => (boolsOf xs).map fun bs => (.bl (bs.all id), false)
  | .list, [.lst xs] => some (.lst xs, true)
  | .list, [.tup xs] => some (.lst xs, true)
  | .list, [.str s] => if s.length ≤ LIM then some (.lst (chars s), true) else none
  | .tuple, [.lst xs] => some (.tup xs, false)
  | .tuple, [.tup xs] => some (.tup xs, false)
  | .tuple, [.str s] => if s.length ≤ LIM then some (.tup (chars s), false) else none
  | .max, [.lst xs] => (intsOf xs).bind fun ns => (maxI ns).map fun m => (.int m, false)
  | .min, [.lst xs] => (intsOf xs).bind fun ns => (minI ns).map fun m => (.int m, false)
  | .max2, [.int i, .int j] => some (.int (if i < j then j else i), false)
  | .min2, [.int i, .int j] => some (.int (if j < i then j else i), false)
  | .divmod, [.int i, .int j] => if 0 < j && decide (j < 1073741824) then some (.tup [.int (i / j), .int (i % j)], false) else none
  | _, _ => none
/-- methods that change nothing -/
def mtD (P : Sys) : Mt → D → List D → Option (D × Bool)
  | .join, .str s, [.lst xs] => (strsOf xs).bind fun ts => if (ts.map (·.length)).sum + ts.length * s.length ≤ LIM then some (.str (joinS s ts), false) else none
  | .index, .lst xs, [x] => if flat x && xs.all flat then (idxL x xs).map fun (k : Nat) => (D.int (k : Int), false) else none
  | .count, .str s, [.str x] => some (.int (P.cnt x s), false)
  | .startswith, .str s, [.str x] => some (.bl (decide (x.length ≤ s.length) && (s.take x.length == x)), false)
  | .endswith, .str s, [.str x] => some (.bl (decide (x.length ≤ s.length) && ((s.drop (s.length - x.length)).take x.length == x)), false)
  | _, _, _ => none
/-- methods that change an object: what it is then, what is handed back -/
def muD : Mu → D → List D → Option (D × D)
  | .append, .lst xs, [x] => if xs.length + 1 ≤ LIM then some (.lst (xs ++ [x]), .non) else none
  | .extend, .lst xs, [.lst ys] => if xs.length + ys.length ≤ LIM then some (.lst (xs ++ ys), .non) else none
  | .pop, .lst xs, [] => match xs.getLast? with | some x => some (.lst xs.dropLast, x) | none => none
  | _, _, _ => none
def ixD : D → D → Option D
  | .scr xs, .int i => ati xs i
  | .lst xs, .int i => ati xs i
  | .tup xs, .int i => ati xs i
  | .str s, .int i => if s.length ≤ LIM then (ati s i).map fun c => .str [c] else none
  | _, _ => none
def optI : Option D → Option (Option Int)
  | none => some none
  | some (.int i) => some (some i)
  | _ => none
def slD : D → Option Int → Option Int → Option (D × Bool)
  | .lst xs, lo, hi => some (.lst (cut xs lo hi), true)
  | .tup xs, lo, hi => some (.tup (cut xs lo hi), false)
  | .str s, lo, hi => if s.length ≤ LIM then some (.str (cut s lo hi), false) else none
  | _, _, _ => none
def revD : D → Option (D × Bool)
  | .str s => if s.length ≤ LIM then some (.str s.reverse, false) else none
  | .lst xs => some (.lst xs.reverse, true)
  | _ => none

/-- an own object changed -/
def putO (i : Nat) (f : D → Option (D × D)) (r : Env) : Option (D × Env) :=
  match r[i]? with
  | some (.o d) => (f d).map fun (d', x) => (x, r.set i (.o d'))
  | _ => none

/-- the kind of a value -/
def kindN : D → Nat
  | .str _ => 1
  | .lst _ => 2
  | .tup _ => 3
  | .dic _ _ => 4
  | _ => 0
def ownsL (r : Env) (i : Nat) : Bool :=
  match r[i]? with
  | some (.o (.lst _)) => true
  | _ => false
/-- a comprehension's turns -/
def compI (own : List Nat) (tg : Tg) (tests : Env → Res Bool) (elt : Env → Res (D × Bool)) : List D → Env → Res (List D)
  | [], r => .ok [] r
  | x :: xs, r =>
    opt (bindT tg x (wipeE own r)) fun r1 =>
      (tests r1).bind fun b r2 =>
        if b then (elt r2).bind fun d r3 => opt (fz r3 d.1) fun y => (compI own tg tests elt xs y.2).bind fun ds r5 => .ok (y.1 :: ds) r5
        else compI own tg tests elt xs r2

/-- truth -/
def tru (x : Res (D × Bool)) : Res Bool := x.bind fun d r1 => opt (rd r1 d.1) fun y => opt (truth y) fun b => .ok b r1

mutual
def evE (P : Sys) (cl : CL) : ME → Env → Res (D × Bool)
  | .c d, r => .ok (d, false) r
  | .g _ d, r => .ok (d, false) r
  | .v i, r =>
    match r[i]? with
    | some (.v d) => .ok (d, false) r
    | some (.o _) => .ok (.ref i, false) r
    | some (.l _) => .ok (.ref i, false) r
    | _ => .no
  | .tup es, r => (evF P cl es r).bind fun ds r1 => .ok (.tup ds, false) r1
  | .lst es, r => (evF P cl es r).bind fun ds r1 => .ok (.lst ds, true) r1
  | .dic ks vs, r => if ks.isEmpty && vs.isEmpty then .ok (.dic [] [], true) r else .no
  | .bin o a b, r => (evE P cl a r).bind fun x r1 => (evE P cl b r1).bind fun y r2 => opt (rd r2 x.1) fun x' => opt (rd r2 y.1) fun y' => opt (op2 o x' y') fun z => .ok z r2
  | .neg a, r => (evE P cl a r).bind fun x r1 => match x.1 with | .int i => .ok (.int (-i), false) r1 | _ => .no
  | .not a, r => (tru (evE P cl a r)).bind fun b r1 => .ok (.bl (!b), false) r1
  | .cmp o a b, r => (evE P cl a r).bind fun x r1 => (evE P cl b r1).bind fun y r2 => opt (rd r2 x.1) fun x' => opt (rd r2 y.1) fun y' => opt (cmpD P.inS o x' y') fun z => .ok (.bl z, false) r2
  | .cmp2 o p a b c, r => (evE P cl a r).bind fun x r1 => (evE P cl b r1).bind fun y r2 => opt (rd r2 x.1) fun x' => opt (rd r2 y.1) fun y' => opt (cmpD P.inS o x' y') fun k =>
      if k then (evE P cl c r2).bind fun z r3 => opt (rd r3 y.1) fun y2 => opt (rd r3 z.1) fun z' => opt (cmpD P.inS p y2 z') fun k2 => .ok (.bl k2, false) r3 else .ok (.bl false, false) r2
  | .and es, r => evAnd P cl es r
  | .or es, r => evOr P cl es r
  | .ife t a b, r => (tru (evE P cl t r)).bind fun k r1 => if k then evE P cl a r1 else evE P cl b r1
  | .ix a b, r => (evE P cl a r).bind fun x r1 => (evE P cl b r1).bind fun y r2 => opt (rd r2 x.1) fun x' => opt (ixD x' y.1) fun z => .ok (z, false) r2
  | .sl a lo hi, r => (evE P cl a r).bind fun x r1 => (evO P cl lo r1).bind fun u r2 => (evO P cl hi r2).bind fun w r3 => opt (rd r3 x.1) fun x' => opt (slD x' u w) fun z => .ok z r3
  | .rev a, r => (evE P cl a r).bind fun x r1 => opt (rd r1 x.1) fun x' => opt (revD x') fun z => .ok z r1
  | .at _ _, _ => .no
  | .call f es ix ds, r => (evA P cl (fkeep P f) ix es r).bind fun as r1 => callE P cl f ix ds as r1
  | .bi b es, r => (evL P cl es r).bind fun as r1 => opt (rdAll r1 as) fun ds => opt (biD P b ds) fun z => .ok z r1
  | .isi a ts, r => (evE P cl a r).bind fun x r1 => opt (rd r1 x.1) fun x' => if isiOk x' then .ok (.bl (ts.any (isTy x')), false) r1 else .no
  | .mt m a es, r => (evE P cl a r).bind fun x r1 => opt (rd r1 x.1) fun x0 => (evL P cl es r1).bind fun as r2 => opt (rd r2 x.1) fun x' => opt (rdAll r2 as) fun ds => opt (mtD P m x' ds) fun z =>
      if kindN x0 == kindN x' then .ok z r2 else .no
  | .mu m i es, r => if ownsL r i then
      match m with
      | .append => (evF P cl es r).bind fun ds r1 => opt (putO i (fun d => muD .append d ds) r1) fun (x, r2) => .ok (x, false) r2
      | m => (evL P cl es r).bind fun as r1 => opt (rdAll r1 as) fun ds => opt (putO i (fun d => muD m d ds) r1) fun (x, r2) => .ok (x, false) r2
      else .no
  | .lc e t w es ifs own, r => (evL P cl es r).bind fun as r1 => opt (rdAll r1 as) fun ds => opt (walk w ds) fun xs =>
      if ownless own r1 then
        (compI own t (evI P cl ifs) (evE P cl e) xs (lockE (refsOf as) r1)).bind fun ys r3 =>
          if ys.length ≤ LIM then .ok (.lst ys, true) (unlkE (refsOf as) r1 (back own r1 r3)) else .no
      else .no
  | .dc _ _ _ _ _ _ _, _ => .no
/-- raw values -/
def evL (P : Sys) (cl : CL) : List ME → Env → Res (List (D × Bool))
  | [], r => .ok [] r
  | e :: es, r => (evE P cl e r).bind fun x r1 => (evL P cl es r1).bind fun xs r2 => .ok (x :: xs) r2
/-- plain values -/
def evF (P : Sys) (cl : CL) : List ME → Env → Res (List D)
  | [], r => .ok [] r
  | e :: es, r => (evE P cl e r).bind fun d r1 => opt (fz r1 d.1) fun x => (evF P cl es x.2).bind fun xs r3 => .ok (x.1 :: xs) r3
/-- arguments: raw where the parameter keeps -/
def evA (P : Sys) (cl : CL) (k : Nat → Bool) : List Nat → List ME → Env → Res (List (D × Bool))
  | _, [], r => .ok [] r
  | [], _ :: _, _ => .no
  | p :: ps, e :: es, r => (evE P cl e r).bind fun d r1 =>
      if k p then (evA P cl k ps es r1).bind fun xs r2 => .ok (d :: xs) r2
      else opt (fz r1 d.1) fun x => (evA P cl k ps es x.2).bind fun xs r3 => .ok ((x.1, false) :: xs) r3
def evO (P : Sys) (cl : CL) : Option ME → Env → Res (Option Int)
  | none, r => .ok none r
  | some e, r => (evE P cl e r).bind fun d r1 => match d.1 with | .int i => .ok (some i) r1 | _ => .no
def evAnd (P : Sys) (cl : CL) : List ME → Env → Res (D × Bool)
  | [], _ => .no
  | [e], r => evE P cl e r
  | e :: es, r => (evE P cl e r).bind fun d r1 => opt (rd r1 d.1) fun x => opt (truth x) fun b => if b then evAnd P cl es r1 else .ok (d.1, false) r1
def evOr (P : Sys) (cl : CL) : List ME → Env → Res (D × Bool)
  | [], _ => .no
  | [e], r => evE P cl e r
  | e :: es, r => (evE P cl e r).bind fun d r1 => opt (rd r1 d.1) fun x => opt (truth x) fun b => if b then .ok (d.1, false) r1 else evOr P cl es r1
/-- a comprehension's tests -/
def evI (P : Sys) (cl : CL) : List ME → Env → Res Bool
  | [], r => .ok true r
  | e :: es, r => (tru (evE P cl e r)).bind fun b r1 => if b then evI P cl es r1 else .ok false r1
end

inductive Fl where
  | nx
  | bk
  | ct
  | rt (d : D) (fr : Bool)
/-- d stored in slot i; k: 0 the slot holds values, 1 it may own an object, 2 never stored -/
def setSl (k : Nat) (i : Nat) (d : D) (fr : Bool) (r : Env) : Option Env :=
  if k = 2 then none
  else match r[i]? with
    | none => none
    | some (.l _) => none
    | some _ =>
      if k == 1 && fr && isBox d then some (r.set i (.o d))
      else (fz r d).map fun (x, r') => r'.set i (.v x)
def sbD : D → D → D → Option (D × D)
  | .lst xs, .int i, x => (ixn xs.length i).map fun j => (.lst (xs.set j x), .non)
  | _, _, _ => none

/-- a for's turns -/
def forI (tg : Tg) (body : Env → Res Fl) : List D → Env → Res Fl
  | [], r => .ok .nx r
  | x :: xs, r =>
    opt (bindT tg x r) fun r1 =>
      (body r1).bind fun f r2 =>
        match f with
        | .nx => forI tg body xs r2
        | .ct => forI tg body xs r2
        | .bk => .ok .nx r2
        | .rt d fr => .ok (.rt d fr) r2
def whileI (test : Env → Res Bool) (body : Env → Res Fl) : Nat → Env → Res Fl
  | 0, _ => .no
  | n + 1, r =>
    (test r).bind fun b r1 =>
      if b then (body r1).bind fun f r2 =>
        match f with
        | .nx => whileI test body n r2
        | .ct => whileI test body n r2
        | .bk => .ok .nx r2
        | .rt d fr => .ok (.rt d fr) r2
      else .ok .nx r1
/-- several names stored at once, the last one first -/
def setAll (k : Nat → Nat) : List Nat → List (D × Bool) → Env → Option Env
  | [], [], r => some r
  | i :: is, (d, fr) :: ds, r => (setAll k is ds r).bind fun r' => setSl (k i) i d fr r'
  | _, _, _ => none
mutual
/-- a value stored -/
def stT (P : Sys) (cl : CL) (k : Nat → Nat) : MT → D → Env → Res Unit
  | .nm i, d, r => if k i = 2 then .no else opt (putV i d r) fun r' => .ok () r'
  | .sb i x, d, r => if ownsL r i then (evE P cl x r).bind fun y r2 => opt (putO i (fun o => sbD o y.1 d) r2) fun z => .ok () z.2 else .no
  | .at _ _, _, _ => .no
  | .tp ts, d, r =>
    match d with
    | .tup xs => if ts.length = xs.length then stTs P cl k ts xs r else .no
    | _ => .no
def stTs (P : Sys) (cl : CL) (k : Nat → Nat) : List MT → List D → Env → Res Unit
  | [], [], r => .ok () r
  | [], _ :: _, _ => .no
  | t :: ts, x :: xs, r => (stT P cl k t x r).bind fun _ r1 => stTs P cl k ts xs r1
  | _ :: _, [], _ => .no
end
mutual
def exS (P : Sys) (cl : CL) (k : Nat → Nat) : MS → Env → Res Fl
  | .expr e, r => (evE P cl e r).bind fun _ r1 => .ok .nx r1
  | .set i e, r => (evE P cl e r).bind fun x r1 => opt (setSl (k i) i x.1 x.2 r1) fun r2 => .ok .nx r2
  | .asg t e, r => (evE P cl e r).bind fun x r1 => opt (fz r1 x.1) fun y => (stT P cl k t y.1 y.2).bind fun _ r2 => .ok .nx r2
  | .par is es, r => (evA P cl (fun i => k i == 1) is es r).bind fun as r1 =>
      if (as.filter (·.2)).length ≤ 1 ∧ as.all (fun x => !isRef x.1) then opt (setAll k is as r1) fun r2 => .ok .nx r2 else .no
  | .ret e, r => (evE P cl e r).bind fun x r1 => .ok (.rt x.1 x.2) r1
  | .retn, r => .ok (.rt .non false) r
  | .ife c a b, r => (tru (evE P cl c r)).bind fun t r1 => if t then exB P cl k a r1 else exB P cl k b r1
  | .for t w es b, r => (evL P cl es r).bind fun as r1 => opt (rdAll r1 as) fun ds => opt (walk w ds) fun xs => if (tgIx t).all (fun i => k i != 2) then
      (forI t (exB P cl k b) xs (lockE (refsOf as) r1)).bind fun f r => .ok f (unlkE (refsOf as) r1 r) else .no
  | .while c b, r => whileI (fun r => tru (evE P cl c r)) (exB P cl k b) P.fuel r
  | .brk, r => .ok .bk r
  | .cont, r => .ok .ct r
  | .pass, r => .ok .nx r
  | .raise _ _, _ => .no
def exB (P : Sys) (cl : CL) (k : Nat → Nat) : List MS → Env → Res Fl
  | [], r => .ok .nx r
  | s :: ss, r => (exS P cl k s r).bind fun f r1 => match f with | .nx => exB P cl k ss r1 | f => .ok f r1
end

/-- what is handed back: an object of the frame's own goes out as new -/
def outD (np : Nat) (d : D) (fr : Bool) (r : Env) : Option (D × Bool × Env) :=
  match d with
  | .ref i =>
    match r[i]? with
    | some (.o x) => if i < np then some (x, false, r.set i (.v x)) else some (x, true, r.set i .e)
    | some (.v x) => some (x, false, r)
    | _ => none
  | d => some (d, fr, r)
def keepK (F : Fn) (i : Nat) : Nat := if F.keep.getD i false then (if i < F.np then 2 else 1) else 0
def outs (F : Fn) (r : Env) : Env := (List.range F.np).map fun i => if F.keep.getD i false then r.getD i .e else .e
/-- only kept parameters hold objects -/
def slOk (F : Fn) (sl : List Sl) : Bool := (List.range F.np).all fun i => F.keep.getD i false || (match sl.getD i .e with | .o _ => false | .l _ => false | _ => true)
def callN (P : Sys) : Nat → CL
  | 0, _, _ => .no
  | n + 1, f, sl =>
    match P.fns[f]? with
    | none => .no
    | some F =>
      if sl.length = F.np ∧ slOk F sl then
        match exB P (callN P n) (keepK F) F.body (sl ++ List.replicate (F.ns - F.np) .e) with
        | .ok (.rt d fr) r =>
          match outD F.np d fr r with
          | some (x, fr', r') => .ok x fr' (outs F r')
          | none => .no
        | .ok .nx r => .ok .non false (outs F r)
        | .ok _ _ => .no
        | .exc x r => .exc x (outs F r)
        | .no => .no
      else .no
end Pv
namespace Pv
open PySem PySem.Spec PyProof.Rows L2

theorem lim_line : LIM = sizeLine := by rw [sizeLine_eq]; rfl
abbrev sS (s : List Nat) : Str := ⟨s.toArray⟩
theorem sS_len (s : List Nat) : (sS s).length = s.length := by simp [sS, Str.length]
theorem sS_inj {s t : List Nat} (h : sS s = sS t) : s = t := by
  have h1 : s.toArray = t.toArray := congrArg Str.cps h
  simpa using congrArg Array.toList h1

section
variable (K : PySem.W.Frag) (H : Hp) (W : Addr → Prop)
/-- a list at a that nobody changes any more -/
def LsR (a : Addr) (vs : List V) : Prop := H a = some (.lst vs) ∧ ¬ W a
/-- one of the module's own lists -/
def KL (K : PySem.W.Frag) (a : Addr) (vs : List V) : Prop :=
  ∃ (o : Obj) (its : Array Value) (n : Nat), K.lookup a = some o ∧ o.cls = .type "list" ∧ o.dict = none ∧ o.data = .seq its n ∧ its.size ≤ sizeLine ∧ Vals vs its.toList
def TpR (a : Addr) (vs : List V) : Prop :=
  (Rd H a (.tup vs) ∧ ¬ W a) ∨
    ∃ (o : Obj) (its : Array Value) (n : Nat), K.lookup a = some o ∧ o.cls = .type "tuple" ∧ o.data = .seq its n ∧ its.size ≤ sizeLine ∧ Vals vs its.toList
def keyD : Key → D
  | .inl i => .int i
  | .inr s => .str s.cps.toList
mutual
/-- v is the tree d, and stays it -/
def Rp : D → V → Prop
  | .non, v => v = .non
  | .bl b, v => v = .bl b
  | .int i, v => v = .int i
  | .str s, v => v = .str (sS s)
  | .tup xs, v => ∃ a vs, v = .ref a ∧ TpR K H W a vs ∧ RpL xs vs
  | .lst xs, v => ∃ a vs, v = .ref a ∧ LsR H W a vs ∧ RpL xs vs
  | .dic ks ws, v => ∃ a kvs, v = .ref a ∧ (Rd H a (.dK kvs) ∧ ¬ W a) ∧ ks = kvs.map (fun p => keyD p.1) ∧ RpL ws (kvs.map (·.2))
  | .scr xs, v => ∃ a vs, v = .ref a ∧ ((Rd H a (.lst vs) ∧ ¬ W a) ∨ KL K a vs) ∧ RpL xs vs
  | .dead, _ => True
  | _, _ => False
def RpL : List D → List V → Prop
  | [], [] => True
  | x :: xs, v :: vs => Rp x v ∧ RpL xs vs
  | _, _ => False
end
end

section
variable {K : PySem.W.Frag} {H H' : Hp} {W W' : Addr → Prop}
/-- what is not owned stays; nothing goes away -/
structure Evo (H : Hp) (W : Addr → Prop) (H' : Hp) (W' : Addr → Prop) : Prop where
  keep : ∀ b o, H b = some o → ¬ W b → H' b = some o ∧ ¬ W' b
  dom : ∀ b, H b ≠ none → H' b ≠ none
theorem Evo.refl : Evo H W H W := ⟨fun _ _ h n => ⟨h, n⟩, fun _ h => h⟩
theorem Evo.trans {H1 : Hp} {W1 : Addr → Prop} (a : Evo H W H1 W1) (b : Evo H1 W1 H' W') : Evo H W H' W' :=
  ⟨fun c o h n => let ⟨h1, n1⟩ := a.keep c o h n; b.keep c o h1 n1, fun c h => b.dom c (a.dom c h)⟩
/-- fewer owned -/
theorem Evo.less (a : Evo H W H' W') {W2 : Addr → Prop} (h : ∀ b, W2 b → W' b) : Evo H W H' W2 := ⟨fun c o e n => let ⟨h1, n1⟩ := a.keep c o e n; ⟨h1, fun z => n1 (h c z)⟩, a.dom⟩
theorem Evo.rd (e : Evo H W H' W') {a : Addr} {u : HO} (h : Rd H a u) (n : ¬ W a) : Rd H' a u ∧ ¬ W' a := by
  rcases h with h | ⟨o, h⟩
  · exact ⟨.inl (e.keep a _ h n).1, (e.keep a _ h n).2⟩
  · exact ⟨.inr ⟨o, (e.keep a _ h n).1⟩, (e.keep a _ h n).2⟩
theorem LsR.evo (e : Evo H W H' W') {a : Addr} {vs : List V} (h : LsR H W a vs) : LsR H' W' a vs := e.keep a _ h.1 h.2
theorem TpR.evo (e : Evo H W H' W') {a : Addr} {vs : List V} (h : TpR K H W a vs) : TpR K H' W' a vs := by
  rcases h with ⟨h, n⟩ | h
  · exact .inl (e.rd h n)
  · exact .inr h
mutual
theorem Rp.evo (e : Evo H W H' W') : ∀ {d : D} {v : V}, Rp K H W d v → Rp K H' W' d v
  | .non, _, h => h
  | .bl _, _, h => h
  | .int _, _, h => h
  | .str _, _, h => h
  | .tup xs, v, h => by
    simp only [Rp] at h ⊢
    obtain ⟨a, vs, h1, h2, h3⟩ := h
    exact ⟨a, vs, h1, h2.evo e, RpL.evo e h3⟩
  | .lst xs, v, h => by
    simp only [Rp] at h ⊢
    obtain ⟨a, vs, h1, h2, h3⟩ := h
    exact ⟨a, vs, h1, h2.evo e, RpL.evo e h3⟩
  | .dic ks ws, v, h => by
    simp only [Rp] at h ⊢
    obtain ⟨a, kvs, h1, h2, h3, h4⟩ := h
    exact ⟨a, kvs, h1, e.rd h2.1 h2.2, h3, RpL.evo e h4⟩
  | .scr xs, v, h => by
    simp only [Rp] at h ⊢
    obtain ⟨a, vs, h1, h2, h3⟩ := h
    exact ⟨a, vs, h1, h2.imp (fun z => e.rd z.1 z.2) id, RpL.evo e h3⟩
  | .dead, _, _ => by simp only [Rp]
  | .sset _, _, h => by simp only [Rp] at h
  | .ins _ _ _, _, h => by simp only [Rp] at h
  | .fn _, _, h => by simp only [Rp] at h
  | .clo _ _, _, h => by simp only [Rp] at h
  | .exn _ _, _, h => by simp only [Rp] at h
  | .ref _, _, h => by simp only [Rp] at h
theorem RpL.evo (e : Evo H W H' W') : ∀ {xs : List D} {vs : List V}, RpL K H W xs vs → RpL K H' W' xs vs
  | [], [], _ => by simp only [RpL]
  | [], _ :: _, h => by simp only [RpL] at h
  | _ :: _, [], h => by simp only [RpL] at h
  | x :: xs, v :: vs, h => by
    simp only [RpL] at h ⊢
    exact ⟨Rp.evo e h.1, RpL.evo e h.2⟩
end
theorem RpL.length : ∀ {xs : List D} {vs : List V}, RpL K H W xs vs → xs.length = vs.length
  | [], [], _ => rfl
  | [], _ :: _, h => by simp only [RpL] at h
  | _ :: _, [], h => by simp only [RpL] at h
  | x :: xs, v :: vs, h => by
    simp only [RpL] at h
    simp [RpL.length h.2]
theorem RpL.get : ∀ {xs : List D} {vs : List V} {i : Nat} {x : D}, RpL K H W xs vs → xs[i]? = some x → ∃ v, vs[i]? = some v ∧ Rp K H W x v
  | [], [], _, _, _, e => by simp at e
  | [], _ :: _, _, _, h, _ => by simp only [RpL] at h
  | _ :: _, [], _, _, h, _ => by simp only [RpL] at h
  | y :: xs, v :: vs, 0, x, h, e => by
    simp only [RpL] at h
    simp at e
    subst e
    exact ⟨v, rfl, h.1⟩
  | y :: xs, v :: vs, i + 1, x, h, e => by
    simp only [RpL] at h
    simpa using RpL.get (i := i) h.2 (by simpa using e)
theorem RpL.getv {xs : List D} {vs : List V} {i : Nat} {v : V} (h : RpL K H W xs vs) (e : vs[i]? = some v) : ∃ x, xs[i]? = some x ∧ Rp K H W x v := by
  have hi : i < vs.length := (List.getElem?_eq_some_iff.mp e).1
  have hi' : i < xs.length := by rw [h.length]; exact hi
  have hx : xs[i]? = some xs[i] := List.getElem?_eq_getElem hi'
  obtain ⟨w, h1, h2⟩ := h.get hx
  rw [e] at h1
  cases h1
  exact ⟨_, hx, h2⟩
theorem RpL.nil : RpL K H W [] [] := by simp only [RpL]
theorem RpL.cons {x : D} {xs : List D} {v : V} {vs : List V} (h : Rp K H W x v) (t : RpL K H W xs vs) : RpL K H W (x :: xs) (v :: vs) := by
  simp only [RpL]
  exact ⟨h, t⟩
theorem RpL.nil_inv {vs : List V} (h : RpL K H W [] vs) : vs = [] := by
  cases vs with
  | nil => rfl
  | cons v vs => simp only [RpL] at h
theorem RpL.cons_inv {x : D} {xs : List D} {us : List V} (h : RpL K H W (x :: xs) us) : ∃ v vs, us = v :: vs ∧ Rp K H W x v ∧ RpL K H W xs vs := by
  cases us with
  | nil => simp only [RpL] at h
  | cons v vs =>
    simp only [RpL] at h
    exact ⟨v, vs, rfl, h.1, h.2⟩
theorem RpL.append : ∀ {xs ys : List D} {us vs : List V}, RpL K H W xs us → RpL K H W ys vs → RpL K H W (xs ++ ys) (us ++ vs)
  | [], ys, us, vs, h, g => by
    cases h.nil_inv
    exact g
  | x :: xs, ys, us, vs, h, g => by
    obtain ⟨v, us', rfl, h1, h2⟩ := h.cons_inv
    exact .cons h1 (RpL.append h2 g)
theorem RpL.drop : ∀ (n : Nat) {xs : List D} {vs : List V}, RpL K H W xs vs → RpL K H W (xs.drop n) (vs.drop n)
  | 0, _, _, h => by simpa using h
  | n + 1, [], vs, h => by
    cases h.nil_inv
    simpa using RpL.nil
  | n + 1, x :: xs, vs, h => by
    obtain ⟨v, us, rfl, _, h2⟩ := h.cons_inv
    simpa using RpL.drop n h2
theorem RpL.take : ∀ (n : Nat) {xs : List D} {vs : List V}, RpL K H W xs vs → RpL K H W (xs.take n) (vs.take n)
  | 0, _, _, _ => by simpa using RpL.nil
  | n + 1, [], vs, h => by
    cases h.nil_inv
    simpa using RpL.nil
  | n + 1, x :: xs, vs, h => by
    obtain ⟨v, us, rfl, h1, h2⟩ := h.cons_inv
    simpa using RpL.cons h1 (RpL.take n h2)
theorem RpL.reverse : ∀ {xs : List D} {vs : List V}, RpL K H W xs vs → RpL K H W xs.reverse vs.reverse
  | [], vs, h => by
    cases h.nil_inv
    exact .nil
  | x :: xs, vs, h => by
    obtain ⟨v, us, rfl, h1, h2⟩ := h.cons_inv
    rw [List.reverse_cons, List.reverse_cons]
    exact .append (RpL.reverse h2) (.cons h1 .nil)
theorem RpL.set {x : D} {v : V} (hx : Rp K H W x v) : ∀ (i : Nat) {xs : List D} {vs : List V}, RpL K H W xs vs → RpL K H W (xs.set i x) (vs.set i v)
  | _, [], vs, h => by
    cases h.nil_inv
    simpa using RpL.nil
  | 0, y :: xs, vs, h => by
    obtain ⟨u, us, rfl, _, h2⟩ := h.cons_inv
    simpa using RpL.cons hx h2
  | i + 1, y :: xs, vs, h => by
    obtain ⟨u, us, rfl, h1, h2⟩ := h.cons_inv
    simpa using RpL.cons h1 (RpL.set hx i h2)
end

/-- the content of v, as it is now -/
def Cn (K : PySem.W.Frag) (H : Hp) (W : Addr → Prop) (d : D) (v : V) : Prop :=
  match d with
  | .lst xs => ∃ a vs, v = .ref a ∧ H a = some (.lst vs) ∧ RpL K H W xs vs
  | .dic ks ws => ∃ a kvs, v = .ref a ∧ Rd H a (.dK kvs) ∧ ks = kvs.map (fun p => keyD p.1) ∧ RpL K H W ws (kvs.map (·.2))
  | d => Rp K H W d v
/-- an owned object -/
def Ob (K : PySem.W.Frag) (H : Hp) (W : Addr → Prop) (d : D) (a : Addr) : Prop :=
  match d with
  | .lst xs => ∃ vs, H a = some (.lst vs) ∧ RpL K H W xs vs
  | .dic ks ws => ∃ kvs, H a = some (.dK kvs) ∧ ks = kvs.map (fun p => keyD p.1) ∧ RpL K H W ws (kvs.map (·.2))
  | _ => False
section
variable {K : PySem.W.Frag} {H H' : Hp} {W W' : Addr → Prop} {d : D} {v : V} {a : Addr}
theorem TpR.sq {vs : List V} (h : TpR K H W a vs) : SqT K H a vs := h.elim (fun h => .inl h.1) .inr
theorem Rp.cn (h : Rp K H W d v) : Cn K H W d v := by
  cases d with
  | lst xs => simp only [Rp] at h; obtain ⟨a, vs, h1, h2, h3⟩ := h; exact ⟨a, vs, h1, h2.1, h3⟩
  | dic ks ws => simp only [Rp] at h; obtain ⟨a, vs, h1, h2, h3⟩ := h; exact ⟨a, vs, h1, h2.1, h3⟩
  | _ => exact h
theorem Ob.cn (h : Ob K H W d a) : Cn K H W d (.ref a) := by
  cases d with
  | lst xs => obtain ⟨vs, h1, h2⟩ := h; exact ⟨a, vs, rfl, h1, h2⟩
  | dic ks ws => obtain ⟨vs, h1, h2⟩ := h; exact ⟨a, vs, rfl, .inl h1, h2⟩
  | _ => exact h.elim
/-- an owned object that nobody changes any more -/
theorem Ob.rp (h : Ob K H W d a) (n : ¬ W a) : Rp K H W d (.ref a) := by
  cases d with
  | lst xs => obtain ⟨vs, h1, h2⟩ := h; simp only [Rp]; exact ⟨a, vs, rfl, ⟨h1, n⟩, h2⟩
  | dic ks ws => obtain ⟨vs, h1, h2⟩ := h; simp only [Rp]; exact ⟨a, vs, rfl, ⟨.inl h1, n⟩, h2⟩
  | _ => exact h.elim
theorem Ob.evo (e : Evo H W H' W') (k : H' a = H a) (h : Ob K H W d a) : Ob K H' W' d a := by
  cases d <;> first
    | exact h.elim
    | (obtain ⟨vs, h1, h2⟩ := h; exact ⟨vs, k.trans h1, h2.evo e⟩)
    | (obtain ⟨vs, h1, h2, h3⟩ := h; exact ⟨vs, k.trans h1, h2, h3.evo e⟩)
theorem Ob.some (h : Ob K H W d a) : H a ≠ none := by
  cases d <;> first
    | exact h.elim
    | (obtain ⟨vs, h1, _⟩ := h; rw [h1]; exact fun z => nomatch z)
theorem Rp.lst_of {xs : List D} {vs : List V} (h : H a = some (.lst vs)) (n : ¬ W a) (r : RpL K H W xs vs) : Rp K H W (.lst xs) (.ref a) := by
  simp only [Rp]
  exact ⟨a, vs, rfl, ⟨h, n⟩, r⟩
theorem Rp.tup_of {xs : List D} {vs : List V} (h : H a = some (.tup vs)) (n : ¬ W a) (r : RpL K H W xs vs) : Rp K H W (.tup xs) (.ref a) := by
  simp only [Rp]
  exact ⟨a, vs, rfl, .inl ⟨.inl h, n⟩, r⟩
/-- a new object that nobody knows -/
theorem Evo.new {p : Addr} {o : HO} (hp : H p = none) : Evo H W (upd H p o) W :=
  ⟨fun b u e n => ⟨by rw [upd_ne (ne_of_none e hp)]; exact e, n⟩, fun b h => by
    by_cases e : b = p
    · rw [e, upd_same]; exact fun z => nomatch z
    · rw [upd_ne e]; exact h⟩
end

/-- what is owned: by the frames around and pending (O), by this frame's slots (B) -/
def OW (O : List Addr) (B : List (Option Addr)) : Addr → Prop := fun a => a ∈ O ∨ some a ∈ B
structure SR (K : PySem.W.Frag) (H : Hp) (O : List Addr) (B : List (Option Addr)) (r : Env) (σ : L2.St) : Prop where
  lenB : B.length = r.length
  lenS : σ.length = r.length
  dis : ∀ a ∈ O, some a ∉ B
  inj : ∀ (i j : Nat) a, B[i]? = some (some a) → B[j]? = some (some a) → i = j
  dom : ∀ a, OW O B a → H a ≠ none
  val : ∀ (i : Nat) d, r[i]? = some (.v d) → B[i]? = some none ∧ ∃ v, σ[i]? = some (some v) ∧ Rp K H (OW O B) d v
  own : ∀ (i : Nat) d, r[i]? = some (.o d) → ∃ a, B[i]? = some (some a) ∧ σ[i]? = some (some (.ref a)) ∧ Ob K H (OW O B) d a
  lck : ∀ (i : Nat) d, r[i]? = some (.l d) → B[i]? = some none ∧ ∃ a, a ∈ O ∧ σ[i]? = some (some (.ref a)) ∧ Ob K H (OW O B) d a
  emp : ∀ (i : Nat), r[i]? = some .e → B[i]? = some none
/-- a step: from (H, O, B, r) to (H', O', B', r') -/
structure Tr (K : PySem.W.Frag) (σ : L2.St) (H : Hp) (O : List Addr) (B : List (Option Addr)) (r : Env) (H' : Hp) (O' : List Addr) (B' : List (Option Addr)) (r' : Env) : Prop where
  sr : SR K H' O' B' r' σ
  evo : Evo H (OW O B) H' (OW O' B')
  ko : ∀ b ∈ O, H' b = H b ∧ b ∈ O'
  lk : ∀ (i : Nat) d, r'[i]? = some (.l d) ↔ r[i]? = some (.l d)
/-- the value of a result; O' has the new object ahead -/
def VR (K : PySem.W.Frag) (σ : L2.St) (O : List Addr) (H' : Hp) (O' : List Addr) (B' : List (Option Addr)) (x : D × Bool) (v : V) : Prop :=
  if x.2 = true then ∃ a, v = .ref a ∧ O' = a :: O ∧ a ∉ O ∧ Ob K H' (OW O' B') x.1 a
  else O' = O ∧ match x.1 with
    | .ref i => σ[i]? = some (some v)
    | d => Rp K H' (OW O' B') d v
/-- .. later on -/
def LV (K : PySem.W.Frag) (σ : L2.St) (O : List Addr) (H' : Hp) (O' : List Addr) (B' : List (Option Addr)) (x : D × Bool) (v : V) : Prop :=
  (x.2 = true ∧ ∃ a, v = .ref a ∧ a ∈ O' ∧ a ∉ O ∧ Ob K H' (OW O' B') x.1 a) ∨ (x.2 = false ∧ ((∃ i, x.1 = .ref i ∧ σ[i]? = some (some v)) ∨ ((∀ i, x.1 ≠ .ref i) ∧ Rp K H' (OW O' B') x.1 v)))

section
variable {K : PySem.W.Frag} {σ : L2.St} {H H1 H2 : Hp} {O O1 O2 : List Addr} {B B1 B2 : List (Option Addr)} {r r1 r2 : Env}
theorem Tr.refl (h : SR K H O B r σ) : Tr K σ H O B r H O B r := ⟨h, .refl, fun _ hb => ⟨rfl, hb⟩, fun _ _ => .rfl⟩
theorem Tr.trans (a : Tr K σ H O B r H1 O1 B1 r1) (b : Tr K σ H1 O1 B1 r1 H2 O2 B2 r2) : Tr K σ H O B r H2 O2 B2 r2 :=
  ⟨b.sr, a.evo.trans b.evo, fun c hc => let ⟨e1, m1⟩ := a.ko c hc; let ⟨e2, m2⟩ := b.ko c m1; ⟨e2.trans e1, m2⟩, fun i d => (b.lk i d).trans (a.lk i d)⟩
theorem getO {α : Type} {l : List α} {i : Nat} {x : α} (h : l[i]? = some x) : i < l.length := (List.getElem?_eq_some_iff.mp h).1
/-- fewer are held: pending objects forgotten; those that slots borrow stay -/
theorem SR.less (h : SR K H O1 B r σ) (hs : ∀ a ∈ O, a ∈ O1) (hl : ∀ (i : Nat) d a, r[i]? = some (.l d) → σ[i]? = some (some (.ref a)) → a ∈ O1 → a ∈ O) : SR K H O B r σ := by
  have w : ∀ b, OW O B b → OW O1 B b := fun b hb => hb.imp (hs b) id
  have e : Evo H (OW O1 B) H (OW O B) := Evo.refl.less w
  refine ⟨h.lenB, h.lenS, fun a ha => h.dis a (hs a ha), h.inj, fun a ha => h.dom a (w a ha), fun i d hd => ?_, fun i d hd => ?_, fun i d hd => ?_, h.emp⟩
  · obtain ⟨h1, v, h2, h3⟩ := h.val i d hd
    exact ⟨h1, v, h2, h3.evo e⟩
  · obtain ⟨a, h1, h2, h3⟩ := h.own i d hd
    exact ⟨a, h1, h2, h3.evo e rfl⟩
  · obtain ⟨h1, a, h2, h3, h4⟩ := h.lck i d hd
    exact ⟨h1, a, hl i d a hd h3 h2, h3, h4.evo e rfl⟩
theorem Tr.less (h0 : SR K H O B r σ) (a : Tr K σ H O B r H1 O1 B1 r1) (hs : ∀ b ∈ O, b ∈ O2) (hs2 : ∀ b ∈ O2, b ∈ O1) : Tr K σ H O B r H1 O2 B1 r1 := by
  refine ⟨a.sr.less hs2 fun i d c e1 e2 _ => ?_, a.evo.less fun b hb => hb.imp (hs2 b) id, fun b hb => ⟨(a.ko b hb).1, hs b hb⟩, a.lk⟩
  obtain ⟨_, c', m, e, _⟩ := h0.lck i d ((a.lk i d).mp e1)
  rw [e2] at e
  cases e
  exact hs c m
theorem Tr.back (h0 : SR K H O B r σ) (a : Tr K σ H O B r H1 O1 B1 r1) : Tr K σ H O B r H1 O B1 r1 := a.less h0 (fun _ h => h) fun b hb => (a.ko b hb).2
theorem SR.notW {p : Addr} (h : SR K H O B r σ) (hp : H p = none) : ¬ OW O B p := fun z => h.dom p z hp
/-- a step of the heap under which what is owned stays as it is -/
theorem SR.grow (h : SR K H O B r σ) {p : Addr} {o : HO} (hp : H p = none) (hs : ∀ a ∈ O, a ∈ O1) (h1 : ∀ a ∈ O1, a ∈ O ∨ a = p) : SR K (upd H p o) O1 B r σ ∧ Evo H (OW O B) (upd H p o) (OW O1 B) := by
  have np := h.notW hp
  have ev : Evo H (OW O B) (upd H p o) (OW O1 B) := by
    refine ⟨fun b u e n => ⟨((Evo.new (W := OW O B) hp).keep b u e n).1, fun z => ?_⟩, (Evo.new (W := OW O B) hp).dom⟩
    rcases z with z | z
    · rcases h1 b z with z | z
      · exact n (.inl z)
      · rw [z, hp] at e
        cases e
    · exact n (.inr z)
  have keep : ∀ {d a}, Ob K H (OW O B) d a → Ob K (upd H p o) (OW O1 B) d a := fun {d a} ob => ob.evo ev (upd_ne fun e => ob.some (by rw [e]; exact hp))
  refine ⟨⟨h.lenB, h.lenS, fun a ha => ?_, h.inj, fun a ha => ?_, fun i d hd => ?_, fun i d hd => ?_, fun i d hd => ?_, h.emp⟩, ev⟩
  · rcases h1 a ha with e | e
    · exact h.dis a e
    · subst e
      exact fun z => np (.inr z)
  · by_cases e : a = p
    · rw [e, upd_same]; exact fun z => nomatch z
    · rw [upd_ne e]
      rcases ha with ha | ha
      · exact h.dom a (.inl ((h1 a ha).resolve_right e))
      · exact h.dom a (.inr ha)
  · obtain ⟨h1, v, h2, h3⟩ := h.val i d hd
    exact ⟨h1, v, h2, h3.evo ev⟩
  · obtain ⟨a, h1, h2, h3⟩ := h.own i d hd
    exact ⟨a, h1, h2, keep h3⟩
  · obtain ⟨h1, a, h2, h3, h4⟩ := h.lck i d hd
    exact ⟨h1, a, hs a h2, h3, keep h4⟩
/-- the heap grows by an object nobody knows -/
theorem Tr.new {p : Addr} {o : HO} (h : SR K H O B r σ) (hp : H p = none) : Tr K σ H O B r (upd H p o) O B r :=
  let ⟨a, b⟩ := h.grow (o := o) (O1 := O) hp (fun _ h => h) fun _ h => .inl h
  ⟨a, b, fun c hc => ⟨upd_ne fun e => h.dom c (.inl hc) (by rw [e]; exact hp), hc⟩, fun _ _ => .rfl⟩
/-- .. and is kept as pending -/
theorem Tr.newO {p : Addr} {o : HO} (h : SR K H O B r σ) (hp : H p = none) : Tr K σ H O B r (upd H p o) (p :: O) B r :=
  let ⟨a, b⟩ := h.grow (o := o) (O1 := p :: O) hp (fun _ h => List.mem_cons_of_mem _ h) fun _ h => (List.mem_cons.mp h).symm
  ⟨a, b, fun c hc => ⟨upd_ne fun e => h.dom c (.inl hc) (by rw [e]; exact hp), List.mem_cons_of_mem _ hc⟩, fun _ _ => .rfl⟩
/-- what a slot reads -/
theorem SR.slot (h : SR K H O B r σ) {i : Nat} {d : D} {s : Sl} (e : r[i]? = some s) (hs : s = .v d ∨ s = .o d ∨ s = .l d) : ∃ v, σ[i]? = some (some v) ∧ Cn K H (OW O B) d v := by
  rcases hs with rfl | rfl | rfl
  · obtain ⟨_, v, h2, h3⟩ := h.val i d e
    exact ⟨v, h2, h3.cn⟩
  · obtain ⟨a, _, h2, h3⟩ := h.own i d e
    exact ⟨_, h2, h3.cn⟩
  · obtain ⟨_, a, _, h2, h3⟩ := h.lck i d e
    exact ⟨_, h2, h3.cn⟩
theorem VR.lv {x : D × Bool} {v : V} (h : VR K σ O H1 O1 B1 x v) : LV K σ O H1 O1 B1 x v := by
  obtain ⟨d, f⟩ := x
  unfold VR at h
  cases f with
  | true =>
    obtain ⟨a, h1, h2, h3, h4⟩ := h
    exact .inl ⟨rfl, a, h1, by rw [h2]; exact List.mem_cons_self, h3, h4⟩
  | false =>
    rw [if_neg (fun z => nomatch z)] at h
    refine .inr ⟨rfl, ?_⟩
    obtain ⟨_, h⟩ := h
    cases d <;> first
      | exact .inl ⟨_, rfl, h⟩
      | exact .inr ⟨fun _ z => (nomatch z), h⟩
theorem LV.step {x : D × Bool} {v : V} (h : LV K σ O H1 O1 B1 x v) (t : Tr K σ H1 O1 B1 r1 H2 O2 B2 r2) : LV K σ O H2 O2 B2 x v := by
  rcases h with ⟨h0, a, h1, h2, h3, h4⟩ | ⟨h0, h1 | ⟨h1, h2⟩⟩
  · exact .inl ⟨h0, a, h1, (t.ko a h2).2, h3, h4.evo t.evo (t.ko a h2).1⟩
  · exact .inr ⟨h0, .inl h1⟩
  · exact .inr ⟨h0, .inr ⟨h1, h2.evo t.evo⟩⟩
theorem LV.old {x : D × Bool} {v : V} (h : LV K σ O1 H2 O2 B2 x v) (hs : ∀ a ∈ O, a ∈ O1) : LV K σ O H2 O2 B2 x v := by
  rcases h with ⟨h0, a, h1, h2, h3, h4⟩ | h
  · exact .inl ⟨h0, a, h1, h2, fun z => h3 (hs a z), h4⟩
  · exact .inr h
theorem rd_plain {r : Env} {x : D} (h : ∀ i, x ≠ .ref i) : rd r x = some x := by
  cases x <;> first
    | rfl
    | exact absurd rfl (h _)
theorem rd_slot {r : Env} {i : Nat} {d : D} (e : rd r (.ref i) = some d) : ∃ s, r[i]? = some s ∧ (s = .v d ∨ s = .o d ∨ s = .l d) := by
  unfold rd at e
  dsimp only at e
  split at e
  · cases e; exact ⟨_, by assumption, .inr (.inl rfl)⟩
  · cases e; exact ⟨_, by assumption, .inr (.inr rfl)⟩
  · cases e; exact ⟨_, by assumption, .inl rfl⟩
  · cases e
/-- what a result reads -/
theorem LV.cn {x : D × Bool} {v : V} {d : D} (s : SR K H2 O2 B2 r2 σ) (h : LV K σ O H2 O2 B2 x v) (e : rd r2 x.1 = some d) : Cn K H2 (OW O2 B2) d v := by
  rcases h with ⟨_, a, h1, _, _, h4⟩ | ⟨_, ⟨i, h1, h2⟩ | ⟨h1, h2⟩⟩
  · subst h1
    rw [rd_plain fun i z => by rw [z] at h4; exact h4] at e
    cases e
    exact h4.cn
  · rw [h1] at e
    obtain ⟨sl, e1, e2⟩ := rd_slot e
    obtain ⟨w, g1, g2⟩ := s.slot e1 e2
    rw [h2] at g1
    cases g1
    exact g2
  · rw [rd_plain h1] at e
    cases e
    exact h2.cn
theorem VR.cn {x : D × Bool} {v : V} {d : D} (h : VR K σ O H1 O1 B1 x v) (t : Tr K σ H1 O1 B1 r1 H2 O2 B2 r2) (e : rd r2 x.1 = some d) : Cn K H2 (OW O2 B2) d v := LV.cn t.sr (h.lv.step t) e
/-- a slot's own object changed, or nobody's from here on: how the states go along -/
theorem SR.chg (h : SR K H O B r σ) {i : Nat} {s : Sl} {b : Option Addr} (hi : i < r.length) (nl : ∀ d, r[i]? ≠ some (.l d))
    (hb : b = none ∨ (∃ a, b = some a ∧ B[i]? = some (some a)))
    (hv : ∀ d, s = .v d → b = none ∧ ∃ v, σ[i]? = some (some v) ∧ Rp K H (OW O (B.set i b)) d v)
    (ho : ∀ d, s = .o d → ∃ a, b = some a ∧ σ[i]? = some (some (.ref a)) ∧ Ob K H (OW O (B.set i b)) d a)
    (hl : ∀ d, s ≠ .l d) (he : s = .e → b = none) :
    Tr K σ H O B r H O (B.set i b) (r.set i s) := by
  have hib : i < B.length := by rw [h.lenB]; exact hi
  have mem : ∀ c, some c ∈ B.set i b → some c ∈ B := fun c z => by
    obtain ⟨j, hj⟩ := List.getElem?_of_mem z
    by_cases q : i = j
    · subst q
      rw [List.getElem?_set_self hib] at hj
      rcases hb with e | ⟨a, e, e2⟩
      · rw [e] at hj; cases hj
      · rw [e] at hj; cases hj
        exact List.mem_of_getElem? e2
    · rw [List.getElem?_set_ne q] at hj
      exact List.mem_of_getElem? hj
  have old : ∀ j c, (B.set i b)[j]? = some (some c) → B[j]? = some (some c) := fun j c hj => by
    by_cases q : i = j
    · subst q
      rw [List.getElem?_set_self hib] at hj
      rcases hb with e | ⟨a, e, e2⟩
      · rw [e] at hj; cases hj
      · rw [e] at hj; cases hj
        exact e2
    · rw [List.getElem?_set_ne q] at hj
      exact hj
  have w : ∀ c, OW O (B.set i b) c → OW O B c := fun c hc => hc.imp id (mem c)
  have ev : Evo H (OW O B) H (OW O (B.set i b)) := Evo.refl.less w
  refine ⟨⟨by rw [List.length_set, List.length_set]; exact h.lenB, by rw [List.length_set]; exact h.lenS, fun c hc z => h.dis c hc (mem c z), fun j k c hj hk => h.inj j k c (old j c hj) (old k c hk), fun c hc => h.dom c (w c hc), fun j x hj => ?_, fun j x hj => ?_, fun j x hj => ?_, fun j hj => ?_⟩, ev, fun b hb => ⟨rfl, hb⟩, fun j x => ?_⟩
  · by_cases q : i = j
    · subst q
      rw [List.getElem?_set_self hi] at hj
      obtain ⟨e1, v, e2, e3⟩ := hv x (Option.some.inj hj)
      exact ⟨by rw [List.getElem?_set_self hib, e1], v, e2, e3⟩
    · rw [List.getElem?_set_ne q] at hj ⊢
      obtain ⟨h1, v, h2, h3⟩ := h.val j x hj
      exact ⟨h1, v, h2, h3.evo ev⟩
  · by_cases q : i = j
    · subst q
      rw [List.getElem?_set_self hi] at hj
      obtain ⟨a, e1, e2, e3⟩ := ho x (Option.some.inj hj)
      exact ⟨a, by rw [List.getElem?_set_self hib, e1], e2, e3⟩
    · rw [List.getElem?_set_ne q] at hj ⊢
      obtain ⟨a, h1, h2, h3⟩ := h.own j x hj
      exact ⟨a, h1, h2, h3.evo ev rfl⟩
  · by_cases q : i = j
    · subst q
      rw [List.getElem?_set_self hi] at hj
      exact absurd (Option.some.inj hj) (hl x)
    · rw [List.getElem?_set_ne q] at hj ⊢
      obtain ⟨h1, a, h2, h3, h4⟩ := h.lck j x hj
      exact ⟨h1, a, h2, h3, h4.evo ev rfl⟩
  · by_cases q : i = j
    · subst q
      rw [List.getElem?_set_self hi] at hj
      rw [List.getElem?_set_self hib, he (Option.some.inj hj)]
    · rw [List.getElem?_set_ne q] at hj ⊢
      exact h.emp j hj
  · by_cases q : i = j
    · subst q
      rw [List.getElem?_set_self hi]
      exact ⟨fun z => absurd (Option.some.inj z) (hl x), fun z => absurd z (nl x)⟩
    · rw [List.getElem?_set_ne q]
theorem SR.ownNot (h : SR K H O B r σ) {i : Nat} {a : Addr} (b1 : B[i]? = some (some a)) : ¬ OW O (B.set i none) a := fun z => by
  have hb : i < B.length := getO b1
  rcases z with z | z
  · exact h.dis a z (List.mem_of_getElem? b1)
  · obtain ⟨j, hj⟩ := List.getElem?_of_mem z
    by_cases q : i = j
    · subst q
      rw [List.getElem?_set_self hb] at hj
      cases hj
    · rw [List.getElem?_set_ne q] at hj
      exact q (h.inj i j a b1 hj)
theorem ow_set {i : Nat} : ∀ b, OW O (B.set i none) b → OW O B b := fun b hb => hb.imp id fun z => by
  obtain ⟨j, hj⟩ := List.getElem?_of_mem z
  by_cases q : i = j
  · subst q
    by_cases hi : i < B.length
    · rw [List.getElem?_set_self hi] at hj
      cases hj
    · rw [List.set_eq_of_length_le (by omega)] at hj
      exact List.mem_of_getElem? hj
  · rw [List.getElem?_set_ne q] at hj
    exact List.mem_of_getElem? hj
/-- a slot's object is nobody's from here on -/
theorem SR.frz (h : SR K H O B r σ) {i : Nat} {d : D} (e : r[i]? = some (.o d)) :
    ∃ a, σ[i]? = some (some (.ref a)) ∧ Tr K σ H O B r H O (B.set i none) (r.set i (.v d)) ∧ Rp K H (OW O (B.set i none)) d (.ref a) := by
  obtain ⟨a, b1, b2, b3⟩ := h.own i d e
  have na := h.ownNot b1
  have rp : Rp K H (OW O (B.set i none)) d (.ref a) := (b3.evo (Evo.refl.less ow_set) rfl).rp na
  refine ⟨a, b2, h.chg (getO e) (fun d z => by rw [e] at z; cases z) (.inl rfl) (fun x z => ?_) (fun x z => nomatch z) (fun x z => nomatch z) (fun z => nomatch z), rp⟩
  cases z
  exact ⟨rfl, _, b2, rp⟩
theorem fz_plain {r : Env} {x : D} (h : ∀ i, x ≠ .ref i) : fz r x = some (x, r) := by
  cases x <;> first
    | rfl
    | exact absurd rfl (h _)
/-- a result made a plain value -/
theorem LV.plain {x : D × Bool} {v : V} {d : D} (s : SR K H1 O1 B1 r1 σ) (h : LV K σ O H1 O1 B1 x v) (hs : ∀ a ∈ O, a ∈ O1) (hl : ∀ (i : Nat) d a, r1[i]? = some (.l d) → σ[i]? = some (some (.ref a)) → a ∈ O1 → a ∈ O) (e : fz r1 x.1 = some (d, r2)) :
    ∃ B2, (∀ b ∈ O, b ∈ O1) ∧ SR K H1 O B2 r2 σ ∧ Evo H1 (OW O1 B1) H1 (OW O B2) ∧ (∀ (i : Nat) d, r2[i]? = some (.l d) ↔ r1[i]? = some (.l d)) ∧ Rp K H1 (OW O B2) d v := by
  have sb := s.less hs hl
  have eb : Evo H1 (OW O1 B1) H1 (OW O B1) := Evo.refl.less fun b hb => hb.imp (hs b) id
  rcases h with ⟨_, a, h1, h2, h3, h4⟩ | ⟨_, ⟨i, h1, h2⟩ | ⟨h1, h2⟩⟩
  · subst h1
    rw [fz_plain fun i z => by rw [z] at h4; exact h4] at e
    cases e
    have na : ¬ OW O B1 a := fun z => by
      rcases z with z | z
      · exact h3 z
      · exact s.dis a h2 z
    exact ⟨B1, hs, sb, eb, fun _ _ => .rfl, (h4.evo eb rfl).rp na⟩
  · rw [h1] at e
    unfold fz at e
    dsimp only at e
    split at e
    · rename_i w hw
      cases e
      obtain ⟨a, b1, b2, b3⟩ := sb.frz hw
      rw [h2] at b1
      cases b1
      exact ⟨_, hs, b2.sr, eb.trans b2.evo, b2.lk, b3⟩
    · rename_i w hw
      cases e
      obtain ⟨_, u, b1, b2⟩ := sb.val i _ hw
      rw [h2] at b1
      cases b1
      exact ⟨B1, hs, sb, eb, fun _ _ => .rfl, b2⟩
    · cases e
  · rw [fz_plain h1] at e
    cases e
    exact ⟨B1, hs, sb, eb, fun _ _ => .rfl, h2.evo eb⟩
theorem VR.plain {x : D × Bool} {v : V} {d : D} (h0 : SR K H O B r σ) (t : Tr K σ H O B r H1 O1 B1 r1) (h : LV K σ O H1 O1 B1 x v) (e : fz r1 x.1 = some (d, r2)) :
    ∃ B2, Tr K σ H O B r H1 O B2 r2 ∧ Rp K H1 (OW O B2) d v := by
  obtain ⟨B2, _, s2, e2, l2, rp⟩ := h.plain t.sr (fun b hb => (t.ko b hb).2) (fun i d a e1 e2 _ => by
    obtain ⟨_, c', m, e', _⟩ := h0.lck i d ((t.lk i d).mp e1)
    rw [e2] at e'
    cases e'
    exact m) e
  exact ⟨B2, ⟨s2, t.evo.trans e2, fun b hb => ⟨(t.ko b hb).1, hb⟩, fun i d => (l2 i d).trans (t.lk i d)⟩, rp⟩
end
end Pv
namespace Pv
open PySem PySem.Spec PyProof.Rows L2
theorem tuple_mul1 (l : Addr) (items : Array Value) (n : Nat) (dd : Option Addr) (sl : Array (Option Value)) (u : Tok) :
    Meets (Builtin.«tuple.__mul__» ⟨[.ref l, .int 1 u], []⟩) (fun _ R s => s.heap.get? l = some { cls := .type "tuple", dict := dd, data := .seq items n, slots := sl } ∧ R (.ok (.ret (Value.ref l))) s) :=
  .of_wp fun prog w A R s h => by
    obtain ⟨hp, g, d, tk, os⟩ := s
    obtain ⟨hl, h⟩ := h
    have f1 := AutoSeq1.idx_int
    wp_walk using wpAny_loadPart' hl
    exact ⟨_, rfl, h⟩
theorem tuple_mul0 (l : Addr) (items : Array Value) (n : Nat) (dd : Option Addr) (sl : Array (Option Value)) (x : Int) (u : Tok) (c0 : (decide (x < -(2 ^ 63)) || decide (x ≥ 2 ^ 63)) = false) (c1 : (items.isEmpty || x == 1) = false) (c2 : (decide (x ≤ 0) || items.isEmpty) = true) :
    Meets (Builtin.«tuple.__mul__» ⟨[.ref l, .int x u], []⟩) (fun _ R s => s.heap.get? l = some { cls := .type "tuple", dict := dd, data := .seq items n, slots := sl } ∧
      R (.ok (.ret (Value.ref s.heap.objs.size))) { s with heap := s.heap.push { cls := Value.type "tuple", data := Data.seq #[] }, toks := s.toks }) :=
  .of_wp fun prog w A R s h => by
    obtain ⟨hp, g, d, tk, os⟩ := s
    obtain ⟨hl, h⟩ := h
    have f1 := AutoSeq1.idx_int
    wp_walk using wpAny_loadPart' hl
    repeat (first
      | (refine wpAny_ite_false (decide_eq_false (by rw [c0]; exact Bool.false_ne_true)) ?_; wp_walk using wpAny_loadPart' hl)
      | (refine wpAny_ite_false (decide_eq_false (by rw [c1]; exact Bool.false_ne_true)) ?_; wp_walk using wpAny_loadPart' hl)
      | (refine wpAny_ite_true (decide_eq_true c2) ?_; wp_walk using wpAny_loadPart' hl))
    exact ⟨_, rfl, h⟩
def rMulT1 (K : PySem.W.Frag) : R2 := fun x y H Q => ∃ l k xs, x = .ref l ∧ y = .int k ∧ SqT K H l xs ∧ xs ≠ [] ∧ k = 1 ∧ Q (.ref l) H
def rMulT0 (K : PySem.W.Frag) : R2 := fun x y H Q => ∃ l k xs, x = .ref l ∧ y = .int k ∧ SqT K H l xs ∧ xs ≠ [] ∧ k ≤ 0 ∧ -1000000 < k ∧ ∀ p, H p = none → Q (.ref p) (upd H p (.tup []))
section
variable {X : Cx}
theorem op_mulT1 : OpR X (binaryOp .Mult) (rMulT1 X.K) := by
  intro pins s σ H x y v u Q I rx ry h
  obtain ⟨l, k, xs, rfl, rfl, hT, hne, rfl, q⟩ := h
  cases rx
  obtain ⟨t, rfl⟩ := ry
  obtain ⟨its, r, ⟨⟨cls, dd, data, sl⟩, ho, hc, n, hd⟩, hs⟩ := I.tuple hT
  simp only at hc hd
  subst hc hd
  refine wpAny_binaryOp_repeat_ref (T := "tuple") (U := "int") (by decide) ⟨_, ho, rfl⟩ (fun s' => typeIs_int s' 1 t) noFill_tuple_mul F.fills_int_mul F.slot_int_rmul repeat_tuple F.slot_int_index.lookup ?_
  refine call_meets F.slot_int_rmul (typeIs_int s 1 t) F.entry_int_rmul (F.args_int_rmul_2 _ _) (int_rmul_tuple 1 t l its.toArray n dd sl) ⟨ho, rfl, ⟨_, ho, rfl⟩, ?_⟩
  refine call_meets F.slot_tuple_mul ⟨_, ho, rfl⟩ F.entry_tuple_mul (F.args_tuple_mul_2 _ _) (tuple_mul1 l its.toArray n dd sl t) ⟨ho, ?_⟩
  exact ⟨.ref l, H, I, rfl, q⟩
theorem op_mulT0 : OpR X (binaryOp .Mult) (rMulT0 X.K) := by
  intro pins s σ H x y v u Q I rx ry h
  obtain ⟨l, k, xs, rfl, rfl, hT, hne, h1, h2, q⟩ := h
  cases rx
  obtain ⟨t, rfl⟩ := ry
  obtain ⟨its, r, ⟨⟨cls, dd, data, sl⟩, ho, hc, n, hd⟩, hs⟩ := I.tuple hT
  simp only at hc hd
  subst hc hd
  have hi : its.toArray.isEmpty = false := by
    cases its with
    | nil => exact absurd (List.eq_nil_of_length_eq_zero r.length) hne
    | cons a b => rfl
  have c0 : (decide (k < -(2 ^ 63)) || decide (k ≥ 2 ^ 63)) = false := by
    rw [decide_eq_false (by omega), decide_eq_false (by omega)] <;> rfl
  have c1 : (its.toArray.isEmpty || k == 1) = false := by
    rw [hi, Bool.false_or]
    exact beq_eq_false_iff_ne.mpr (by omega)
  have c2 : (decide (k ≤ 0) || its.toArray.isEmpty) = true := by
    rw [decide_eq_true h1]; rfl
  refine wpAny_binaryOp_repeat_ref (T := "tuple") (U := "int") (by decide) ⟨_, ho, rfl⟩ (fun s' => typeIs_int s' k t) noFill_tuple_mul F.fills_int_mul F.slot_int_rmul repeat_tuple F.slot_int_index.lookup ?_
  refine call_meets F.slot_int_rmul (typeIs_int s k t) F.entry_int_rmul (F.args_int_rmul_2 _ _) (int_rmul_tuple k t l its.toArray n dd sl) ⟨ho, rfl, ⟨_, ho, rfl⟩, ?_⟩
  refine call_meets F.slot_tuple_mul ⟨_, ho, rfl⟩ F.entry_tuple_mul (F.args_tuple_mul_2 _ _) (tuple_mul0 l its.toArray n dd sl k t c0 c1 c2) ⟨ho, ?_⟩
  refine ⟨.ref s.heap.objs.size, _, I.laid (t' := s.toks) (o := .tup []) (fun b ob q => Heap.get?_push_of_some _ q) (Nat.le_refl _) ?_, rfl, q _ (I.hok.fresh (Nat.le_refl _))⟩
  exact ⟨Nat.zero_le _, [], .nil, IsTup.new _ _⟩
end

mutual
def toPy : D → PyData
  | .non => .none
  | .bl b => .bool b
  | .int i => .int i
  | .str s => .str (sS s)
  | .tup xs => .tuple (toPyL xs)
  | .lst xs => .list (toPyL xs)
  | _ => .none
def toPyL : List D → List PyData
  | [] => []
  | x :: xs => toPy x :: toPyL xs
end
theorem toPyL_map : ∀ xs : List D, toPyL xs = xs.map toPy
  | [] => by simp only [toPyL, List.map_nil]
  | x :: xs => by simp only [toPyL, List.map_cons, toPyL_map xs]
theorem sS_beq (s t : List Nat) : (sS s == sS t) = (s == t) := by
  rw [Bool.eq_iff_iff, beq_iff_eq, beq_iff_eq]
  exact ⟨sS_inj, fun e => by rw [e]⟩
mutual
theorem eqv_toPy : ∀ (n : Nat) (a b : D), plain n a = true → plain n b = true → PyData.eqv (toPy a) (toPy b) = eqD a b
  | n, a, b, ha, hb => by
    cases a with
    | tup xs =>
      cases n with
      | zero => simp [plain] at ha
      | succ n =>
        cases b with
        | tup ys => simp only [toPy, PyData.eqv, eqD]; exact eqv_toPyL n xs ys (by simpa [plain] using ha) (by simpa [plain] using hb)
        | _ => first
          | (simp [plain] at hb; done)
          | simp only [toPy, PyData.eqv, eqD]
    | lst xs =>
      cases n with
      | zero => simp [plain] at ha
      | succ n =>
        cases b with
        | lst ys => simp only [toPy, PyData.eqv, eqD]; exact eqv_toPyL n xs ys (by simpa [plain] using ha) (by simpa [plain] using hb)
        | _ => first
          | (simp [plain] at hb; done)
          | simp only [toPy, PyData.eqv, eqD]
    | str x =>
      cases b with
      | str y => simp only [toPy, PyData.eqv, eqD, sS_beq]
      | _ => first
        | (cases n <;> simp [plain] at hb; done)
        | simp only [toPy, PyData.eqv, eqD]
    | non => cases b <;> first
      | (cases n <;> simp [plain] at hb; done)
      | simp only [toPy, PyData.eqv, eqD]
    | bl x => cases b <;> first
      | (cases n <;> simp [plain] at hb; done)
      | simp only [toPy, PyData.eqv, eqD]
    | int x => cases b <;> first
      | (cases n <;> simp [plain] at hb; done)
      | simp only [toPy, PyData.eqv, eqD]
    | _ => cases n <;> simp [plain] at ha
theorem eqv_toPyL : ∀ (n : Nat) (xs ys : List D), (∀ x ∈ xs, plain n x = true) → (∀ y ∈ ys, plain n y = true) → PyData.eqvAll (toPyL xs) (toPyL ys) = eqL xs ys
  | _, [], [], _, _ => by simp only [toPyL, PyData.eqvAll, eqL]
  | _, [], _ :: _, _, _ => by simp only [toPyL, PyData.eqvAll, eqL]
  | _, _ :: _, [], _, _ => by simp only [toPyL, PyData.eqvAll, eqL]
  | n, x :: xs, y :: ys, ha, hb => by
    simp only [toPyL, PyData.eqvAll, eqL]
    rw [eqv_toPy n x y (ha x List.mem_cons_self) (hb y List.mem_cons_self), eqv_toPyL n xs ys (fun z hz => ha z (List.mem_cons_of_mem _ hz)) (fun z hz => hb z (List.mem_cons_of_mem _ hz))]
end
mutual
theorem plain_toPy : ∀ (n : Nat) (a : D), plain n a = true → (toPy a).plain = true ∧ (toPy a).depth ≤ n
  | n, a, ha => by
    cases a with
    | tup xs =>
      cases n with
      | zero => simp [plain] at ha
      | succ n =>
        obtain ⟨h1, h2⟩ := plain_toPyL n xs (by simpa [plain] using ha)
        simp only [toPy, PyData.plain, PyData.depth]
        exact ⟨h1, by omega⟩
    | lst xs =>
      cases n with
      | zero => simp [plain] at ha
      | succ n =>
        obtain ⟨h1, h2⟩ := plain_toPyL n xs (by simpa [plain] using ha)
        simp only [toPy, PyData.plain, PyData.depth]
        exact ⟨h1, by omega⟩
    | non => simp [toPy, PyData.plain, PyData.depth]
    | bl x => simp [toPy, PyData.plain, PyData.depth]
    | int x => simp [toPy, PyData.plain, PyData.depth]
    | str x => simp [toPy, PyData.plain, PyData.depth]
    | _ => cases n <;> simp [plain] at ha
theorem plain_toPyL : ∀ (n : Nat) (xs : List D), (∀ x ∈ xs, plain n x = true) → PyData.plainAll (toPyL xs) = true ∧ PyData.depthAll (toPyL xs) ≤ n
  | _, [], _ => by simp [toPyL, PyData.plainAll, PyData.depthAll]
  | n, x :: xs, ha => by
    obtain ⟨h1, h2⟩ := plain_toPy n x (ha x List.mem_cons_self)
    obtain ⟨h3, h4⟩ := plain_toPyL n xs fun z hz => ha z (List.mem_cons_of_mem _ hz)
    simp only [toPyL, PyData.plainAll, PyData.depthAll, h1, h3, Bool.and_self, true_and]
    omega
end
section
variable {K : PySem.W.Frag} {H : Hp} {W : Addr → Prop}
mutual
theorem Rp.dp : ∀ (n : Nat) (d : D) (v : V), plain n d = true → Rp K H W d v → Dp K H v (toPy d)
  | n, d, v, hp, h => by
    cases d with
    | tup xs =>
      cases n with
      | zero => simp [plain] at hp
      | succ n =>
        simp only [Rp] at h
        obtain ⟨a, vs, rfl, h2, h3⟩ := h
        simp only [toPy]
        exact .tup h2.sq (RpL.dp n xs vs (by simpa [plain] using hp) h3)
    | lst xs =>
      cases n with
      | zero => simp [plain] at hp
      | succ n =>
        simp only [Rp] at h
        obtain ⟨a, vs, rfl, h2, h3⟩ := h
        simp only [toPy]
        exact .lst (.inl (.inl h2.1)) (RpL.dp n xs vs (by simpa [plain] using hp) h3)
    | non => simp only [Rp] at h; subst h; simp only [toPy]; exact .non
    | bl x => simp only [Rp] at h; subst h; simp only [toPy]; exact .bl _
    | int x => simp only [Rp] at h; subst h; simp only [toPy]; exact .int _
    | str x => simp only [Rp] at h; subst h; simp only [toPy]; exact .str _
    | _ => cases n <;> simp [plain] at hp
theorem RpL.dp : ∀ (n : Nat) (xs : List D) (vs : List V), (∀ x ∈ xs, plain n x = true) → RpL K H W xs vs → DpAll K H vs (toPyL xs)
  | _, [], vs, _, h => by
    cases h.nil_inv
    simp only [toPyL]
    exact .nil
  | n, x :: xs, vs, hp, h => by
    obtain ⟨v, us, rfl, h1, h2⟩ := h.cons_inv
    simp only [toPyL]
    exact .cons (Rp.dp n x v (hp x List.mem_cons_self) h1) (RpL.dp n xs us (fun z hz => hp z (List.mem_cons_of_mem _ hz)) h2)
end
theorem Cn.dp {n : Nat} {d : D} {v : V} (hp : plain n d = true) (h : Cn K H W d v) : Dp K H v (toPy d) := by
  cases d with
  | lst xs =>
    cases n with
    | zero => simp [plain] at hp
    | succ n =>
      obtain ⟨a, vs, rfl, h2, h3⟩ := h
      simp only [toPy]
      exact .lst (.inl (.inl h2)) (RpL.dp n xs vs (by simpa [plain] using hp) h3)
  | dic _ _ => cases n <;> simp [plain] at hp
  | _ => exact Rp.dp (W := W) n _ v hp h

def CnL (K : PySem.W.Frag) (H : Hp) (W : Addr → Prop) : List D → List V → Prop
  | [], [] => True
  | d :: ds, v :: vs => Cn K H W d v ∧ CnL K H W ds vs
  | _, _ => False
/-- a new object's content -/
def Ob1 (K : PySem.W.Frag) (H : Hp) (W : Addr → Prop) (d : D) (o : HO) : Prop :=
  match d, o with
  | .lst xs, .lst vs => RpL K H W xs vs
  | .dic ks ws, .dK kvs => ks = kvs.map (fun p => keyD p.1) ∧ RpL K H W ws (kvs.map (·.2))
  | _, _ => False
/-- what an operation hands back: as it stands, or with a new object -/
def NewR (K : PySem.W.Frag) (H : Hp) (W : Addr → Prop) (H' : Hp) (v : V) (z : D × Bool) : Prop :=
  (z.2 = false ∧ H' = H ∧ Rp K H W z.1 v) ∨ (z.2 = false ∧ ∃ p o, H p = none ∧ H' = upd H p o ∧ Rp K H' W z.1 v) ∨
    (z.2 = true ∧ ∃ p o, H p = none ∧ H' = upd H p o ∧ v = .ref p ∧ Ob1 K H W z.1 o)
def rVal (K : PySem.W.Frag) (f : List D → Option (D × Bool)) : List V → Hp → VK → Prop := fun xs H Q =>
  ∃ (W : Addr → Prop) (ds : List D) (z : D × Bool), (∀ b, W b → H b ≠ none) ∧ CnL K H W ds xs ∧ f ds = some z ∧ ∀ H' v, NewR K H W H' v z → Q v H'
theorem CnL.nil_inv {vs : List V} (h : CnL K H W [] vs) : vs = [] := by
  cases vs with
  | nil => rfl
  | cons v vs => simp only [CnL] at h
theorem CnL.cons_inv {d : D} {ds : List D} {us : List V} (h : CnL K H W (d :: ds) us) : ∃ v vs, us = v :: vs ∧ Cn K H W d v ∧ CnL K H W ds vs := by
  cases us with
  | nil => simp only [CnL] at h
  | cons v vs =>
    simp only [CnL] at h
    exact ⟨v, vs, rfl, h.1, h.2⟩
theorem CnL.vnil {ds : List D} (h : CnL K H W ds []) : ds = [] := by
  cases ds with
  | nil => rfl
  | cons v vs => simp only [CnL] at h
theorem CnL.vcons {ds : List D} {v : V} {vs : List V} (h : CnL K H W ds (v :: vs)) : ∃ d es, ds = d :: es ∧ Cn K H W d v ∧ CnL K H W es vs := by
  cases ds with
  | nil => simp only [CnL] at h
  | cons d es =>
    simp only [CnL] at h
    exact ⟨d, es, rfl, h.1, h.2⟩
theorem CnL.one {ds : List D} {v : V} (h : CnL K H W ds [v]) : ∃ d, ds = [d] ∧ Cn K H W d v := by
  obtain ⟨d, es, rfl, h1, h2⟩ := h.vcons
  cases h2.vnil
  exact ⟨d, rfl, h1⟩
theorem CnL.two {ds : List D} {v w : V} (h : CnL K H W ds [v, w]) : ∃ d e, ds = [d, e] ∧ Cn K H W d v ∧ Cn K H W e w := by
  obtain ⟨d, es, rfl, h1, h2⟩ := h.vcons
  obtain ⟨e, rfl, h3⟩ := h2.one
  exact ⟨d, e, rfl, h1, h3⟩
theorem NewR.same {z : D} {v : V} (h : Rp K H W z v) : NewR K H W H v (z, false) := .inl ⟨rfl, rfl, h⟩
theorem notW {p : Addr} (hW : ∀ b, W b → H b ≠ none) (hp : H p = none) : ¬ W p := fun z => hW p z hp
theorem NewR.list {xs : List D} {vs : List V} {p : Addr} (hp : H p = none) (h : RpL K H W xs vs) : NewR K H W (upd H p (.lst vs)) (.ref p) (.lst xs, true) :=
  .inr (.inr ⟨rfl, p, .lst vs, hp, rfl, rfl, h⟩)
theorem NewR.tuple {xs : List D} {vs : List V} {p : Addr} (hW : ∀ b, W b → H b ≠ none) (hp : H p = none) (h : RpL K H W xs vs) : NewR K H W (upd H p (.tup vs)) (.ref p) (.tup xs, false) :=
  .inr (.inl ⟨rfl, p, .tup vs, hp, rfl, Rp.tup_of upd_same (notW hW hp) (h.evo (.new hp))⟩)
end

def two (f : D → D → Option (D × Bool)) : List D → Option (D × Bool)
  | [a, b] => f a b
  | _ => none
/-- the value of a comparison -/
def cmpZ (inS : List Nat → List Nat → Bool) (o : Cm) (a b : D) : Option (D × Bool) := (cmpD inS o a b).map fun k => (.bl k, false)
section
variable {X : Cx}
/-- one rule for each form of values -/
theorem OpR.by {f : Value → Value → Sem Value} {g : D → D → Option (D × Bool)}
    (h : ∀ (H : Hp) (W : Addr → Prop) (x y : V) (a b : D) (z : D × Bool), (∀ b, W b → H b ≠ none) → Cn X.K H W a x → Cn X.K H W b y → g a b = some z →
      ∃ r : R2, OpR X f r ∧ ∀ Q : VK, (∀ H' v, NewR X.K H W H' v z → Q v H') → r x y H Q) : OpR X f (fun x y => rVal X.K (two g) [x, y]) := by
  intro pins s σ H x y v u Q I rx ry q
  obtain ⟨W, ds, z, hW, hc, hf, q⟩ := q
  obtain ⟨a, b, rfl, h1, h2⟩ := hc.two
  obtain ⟨r, hr, hq⟩ := h H W x y a b z hW h1 h2 hf
  exact hr pins s σ H x y v u Q I rx ry (hq Q q)
end
theorem sS_app (x y : List Nat) : sS x ++ sS y = sS (x ++ y) := by
  show (Str.mk (x.toArray ++ y.toArray)) = _
  simp [sS]
theorem rpl_rep {K : PySem.W.Frag} {H : Hp} {W : Addr → Prop} {xs : List D} {vs : List V} (h : RpL K H W xs vs) : ∀ n : Nat, RpL K H W (List.replicate n xs).flatten (List.replicate n vs).flatten
  | 0 => by simpa using RpL.nil
  | n + 1 => by simpa [List.replicate_succ] using h.append (rpl_rep h n)
theorem foldl_rep_app (x : List Nat) : ∀ (n : Nat) (acc : Array Nat), (List.replicate n x.toArray).foldl (· ++ ·) acc = acc ++ (List.replicate n x).flatten.toArray
  | 0, acc => by simp
  | n + 1, acc => by
    rw [List.replicate_succ, List.foldl_cons, foldl_rep_app x n, List.replicate_succ, List.flatten_cons]
    simp [Array.append_assoc]
theorem txt_mul (x : List Nat) (k : Int) : Txt.mul (sS x) k = sS (List.replicate k.toNat x).flatten := by
  unfold Txt.mul
  by_cases h1 : k < 1
  · rw [if_pos h1, show k.toNat = 0 by omega]
    rfl
  · rw [if_neg h1]
    by_cases h2 : (k == 1 || (sS x).length == 0) = true
    · rw [if_pos h2]
      rw [Bool.or_eq_true, beq_iff_eq, beq_iff_eq] at h2
      rcases h2 with h2 | h2
      · subst h2
        show sS x = sS ((List.replicate 1 x).flatten)
        simp
      · rw [sS_len] at h2
        have e : x = [] := List.eq_nil_of_length_eq_zero h2
        subst e
        simp [sS]
    · rw [if_neg h2]
      show Str.mk _ = Str.mk _
      have e := foldl_rep_app x k.toNat #[]
      simp only [Array.empty_append] at e
      exact congrArg Str.mk e
theorem op2_none_l {o : Op2} {a b : D} (h : ∀ i j, ¬ (a = .int i ∧ b = .int j)) (h2 : ∀ x y, ¬ (a = .str x ∧ b = .str y)) : True := trivial
section
variable {X : Cx}
theorem opv_add (hu : X.A.units < cLine) : OpR X (binaryOp .Add) (fun x y => rVal X.K (two (op2 .add)) [x, y]) := by
  refine OpR.by fun H W x y a b z hW h1 h2 hz => ?_
  cases a with
  | int i =>
    cases b with
    | int j =>
      cases hz; cases h1; cases h2
      exact ⟨_, op_add, fun Q q => ⟨_, _, rfl, rfl, q _ _ (.same (by simp only [Rp]))⟩⟩
    | _ => cases hz
  | str i =>
    cases b with
    | str j =>
      simp only [op2] at hz
      split at hz
      · rename_i hl
        cases hz; cases h1; cases h2
        refine ⟨_, op_add_str, fun Q q => ⟨_, _, rfl, rfl, ?_, ?_⟩⟩
        · rw [sS_len, sS_len, ← lim_line]; exact hl
        · rw [sS_app]
          exact q _ _ (.same (by simp only [Rp]))
      · cases hz
    | _ => cases hz
  | lst i =>
    cases b with
    | lst j =>
      simp only [op2] at hz
      split at hz
      · rename_i hl
        cases hz
        obtain ⟨l, vs, rfl, e1, r1⟩ := h1
        obtain ⟨m, ws, rfl, e2, r2⟩ := h2
        refine ⟨_, op_cat, fun Q q => ⟨l, m, vs, ws, rfl, rfl, e1, e2, ?_, fun p hp => q _ _ (.list hp (r1.append r2))⟩⟩
        rw [← r1.length, ← r2.length, ← lim_line]; exact hl
      · cases hz
    | _ => cases hz
  | tup i =>
    cases b with
    | tup j =>
      simp only [op2] at hz
      split at hz
      · rename_i hl
        cases hz
        have g1 := h1
        have g2 := h2
        simp only [Cn, Rp] at h1 h2
        obtain ⟨l, vs, rfl, e1, r1⟩ := h1
        obtain ⟨m, ws, rfl, e2, r2⟩ := h2
        refine ⟨_, op_catA, fun Q q => ⟨l, m, vs, ws, rfl, rfl, e1.sq, e2.sq, ?_, fun e => ?_, fun e e' => ?_, fun e e' p hp => q _ _ (.tuple hW hp (r1.append r2))⟩⟩
        · rw [← r1.length, ← r2.length, ← lim_line]; exact hl
        · subst e
          have ei : i = [] := List.eq_nil_of_length_eq_zero r1.length
          subst ei
          exact q _ _ (.same g2)
        · subst e'
          have ei : j = [] := List.eq_nil_of_length_eq_zero r2.length
          subst ei
          refine q _ _ (.same ?_)
          rw [List.append_nil]
          exact g1
      · cases hz
    | _ => cases hz
  | _ => cases hz

theorem opv_sub : OpR X (binaryOp .Sub) (fun x y => rVal X.K (two (op2 .sub)) [x, y]) := by
  refine OpR.by fun H W x y a b z hW h1 h2 hz => ?_
  cases a with
  | int i =>
    cases b with
    | int j =>
      cases hz; cases h1; cases h2
      exact ⟨_, op_sub, fun Q q => ⟨_, _, rfl, rfl, q _ _ (.same (by simp only [Rp]))⟩⟩
    | _ => cases hz
  | _ => cases hz
theorem mulOk_c {i j : Int} (h : mulOk i j = true) : CMul i j := by
  unfold mulOk BIG at h
  simp only [Bool.or_eq_true, Bool.and_eq_true, decide_eq_true_eq] at h
  unfold CMul
  omega
theorem txtmul_ok {x : List Nat} {k : Int} (h1 : x.length * k.toNat ≤ LIM) (h2 : k < 1000000) (h3 : -1000000 < k) : MulOk (sS x) k := by
  refine ⟨?_, fun a b => ?_, fun a b => ?_⟩
  · rw [Bool.or_eq_false_iff, decide_eq_false_iff_not, decide_eq_false_iff_not]
    omega
  · rw [sS_len]
    intro q
    have hk : 0 < k := by omega
    have e2 : ((x.length * k.toNat : Nat) : Int) ≤ (LIM : Int) := Int.ofNat_le.mpr h1
    have e3 : ((x.length * k.toNat : Nat) : Int) = (x.length : Int) * k := by
      rw [Int.natCast_mul, Int.toNat_of_nonneg (by omega)]
    have e4 : ((2 ^ 63 - 1) / k) * k < (x.length : Int) * k := Int.mul_lt_mul_of_pos_right q hk
    have e5 : (2 ^ 63 - 1 : Int) < ((2 ^ 63 - 1) / k) * k + k := Int.lt_ediv_add_one_mul_self _ hk |> fun z => by rw [Int.add_mul, Int.one_mul] at z; exact z
    have e6 : (LIM : Int) = 16777216 := rfl
    omega
  · rw [sS_len]
    have e : x.length * k.toNat ≤ sizeLine := by rw [← lim_line]; exact h1
    exact decide_eq_false (Nat.not_lt.mpr e)
theorem opv_mul : OpR X (binaryOp .Mult) (fun x y => rVal X.K (two (op2 .mul)) [x, y]) := by
  refine OpR.by fun H W x y a b z hW h1 h2 hz => ?_
  cases a with
  | int i =>
    cases b with
    | int j =>
      simp only [op2] at hz
      split at hz
      · rename_i hl
        cases hz; cases h1; cases h2
        exact ⟨_, op_mul, fun Q q => ⟨_, _, rfl, rfl, mulOk_c hl, q _ _ (.same (by simp only [Rp]))⟩⟩
      · cases hz
    | _ => cases hz
  | str i =>
    cases b with
    | int k =>
      simp only [op2] at hz
      split at hz
      · rename_i hl
        simp only [Bool.and_eq_true, decide_eq_true_eq] at hl
        cases hz; cases h1; cases h2
        refine ⟨fun x y H Q => ∃ i k, x = .str (sS i) ∧ y = .int k ∧ MulOk (sS i) k ∧ Q (.str (Txt.mul (sS i) k)) H, ?_, fun Q q => ⟨_, _, rfl, rfl, txtmul_ok hl.1.1 hl.1.2 hl.2, ?_⟩⟩
        · intro pins s σ H x y v u Q I rx ry h
          obtain ⟨i, k, rfl, rfl, ok, q⟩ := h
          obtain ⟨t, rfl⟩ := rx
          obtain ⟨t', rfl⟩ := ry
          exact SB.mul ok fun t' tk => ⟨.str (Txt.mul (sS i) k), H, I.tok _, ⟨_, rfl⟩, q⟩
        · rw [txt_mul]
          exact q _ _ (.same (by simp only [Rp]))
      · cases hz
    | _ => cases hz
  | lst i =>
    cases b with
    | int k =>
      simp only [op2] at hz
      split at hz
      · rename_i hl
        simp only [Bool.and_eq_true, decide_eq_true_eq] at hl
        cases hz
        obtain ⟨l, vs, rfl, e1, r1⟩ := h1
        cases h2
        refine ⟨_, op_rep, fun Q q => ⟨l, k, vs, rfl, rfl, e1, by omega, by omega, ?_, fun p hp => q _ _ (.list hp (rpl_rep r1 _))⟩⟩
        rw [← r1.length, ← lim_line]; exact hl.1.1
      · cases hz
    | _ => cases hz
  | tup i =>
    cases b with
    | int k =>
      simp only [op2] at hz
      split at hz
      · rename_i hl
        simp only [Bool.and_eq_true, decide_eq_true_eq, Bool.not_eq_true'] at hl
        cases hz
        simp only [Cn, Rp] at h1
        obtain ⟨l, vs, rfl, e1, r1⟩ := h1
        cases h2
        refine ⟨_, op_repT, fun Q q => ⟨l, k, vs, rfl, rfl, e1.sq, fun e => ?_, by omega, by omega, by rw [← r1.length]; exact hl.2, fun p hp => q _ _ (.tuple hW hp (rpl_rep r1 _))⟩⟩
        subst e
        have ei : i = [] := List.eq_nil_of_length_eq_zero r1.length
        subst ei
        exact absurd hl.1.1.1 (by decide)
      · split at hz
        · rename_i hl
          simp only [Bool.and_eq_true, decide_eq_true_eq, Bool.not_eq_true'] at hl
          cases hz
          simp only [Cn, Rp] at h1
          obtain ⟨l, vs, rfl, e1, r1⟩ := h1
          cases h2
          refine ⟨_, op_mulT1, fun Q q => ⟨l, k, vs, rfl, rfl, e1.sq, fun e => ?_, hl.2, q _ _ (.same (by simp only [Rp]; exact ⟨l, vs, rfl, e1, r1⟩))⟩⟩
          subst e
          have ei : i = [] := List.eq_nil_of_length_eq_zero r1.length
          subst ei
          exact absurd hl.1 (by decide)
        · split at hz
          · rename_i hl
            simp only [Bool.and_eq_true, decide_eq_true_eq, Bool.not_eq_true'] at hl
            cases hz
            simp only [Cn, Rp] at h1
            obtain ⟨l, vs, rfl, e1, r1⟩ := h1
            cases h2
            refine ⟨_, op_mulT0, fun Q q => ⟨l, k, vs, rfl, rfl, e1.sq, fun e => ?_, hl.1.2, hl.2, fun p hp => q _ _ (.tuple hW hp .nil)⟩⟩
            subst e
            have ei : i = [] := List.eq_nil_of_length_eq_zero r1.length
            subst ei
            exact absurd hl.1.1 (by decide)
          · cases hz
    | _ => cases hz
  | _ => cases hz
theorem opv_fdiv : OpR X (binaryOp .FloorDiv) (fun x y => rVal X.K (two (op2 .fdiv)) [x, y]) := by
  refine OpR.by fun H W x y a b z hW h1 h2 hz => ?_
  cases a with
  | int i =>
    cases b with
    | int j =>
      simp only [op2] at hz
      split at hz
      · rename_i hl
        simp only [Bool.and_eq_true, decide_eq_true_eq] at hl
        cases hz; cases h1; cases h2
        exact ⟨_, op_fdiv, fun Q q => ⟨_, _, rfl, rfl, hl, q _ _ (.same (by simp only [Rp]))⟩⟩
      · cases hz
    | _ => cases hz
  | _ => cases hz
theorem opv_mod : OpR X (binaryOp .Mod) (fun x y => rVal X.K (two (op2 .mod)) [x, y]) := by
  refine OpR.by fun H W x y a b z hW h1 h2 hz => ?_
  cases a with
  | int i =>
    cases b with
    | int j =>
      simp only [op2] at hz
      split at hz
      · rename_i hl
        cases hz; cases h1; cases h2
        exact ⟨_, op_mod, fun Q q => ⟨_, _, rfl, rfl, hl, q _ _ (.same (by simp only [Rp]))⟩⟩
      · cases hz
    | _ => cases hz
  | _ => cases hz
theorem opv_pow : OpR X (binaryOp .Pow) (fun x y => rVal X.K (two (op2 .pow)) [x, y]) := by
  refine OpR.by fun H W x y a b z hW h1 h2 hz => ?_
  cases a with
  | int i =>
    cases b with
    | int j =>
      simp only [op2] at hz
      split at hz
      · rename_i hl
        simp only [Bool.and_eq_true, decide_eq_true_eq] at hl
        cases hz; cases h1; cases h2
        exact ⟨_, op_pow, fun Q q => ⟨_, _, rfl, rfl, ⟨hl.1.1, hl.1.2, by simpa using hl.2⟩, q _ _ (.same (by simp only [Rp]))⟩⟩
      · cases hz
    | _ => cases hz
  | _ => cases hz
def Op2.py : Op2 → Operator
  | .add => .Add
  | .sub => .Sub
  | .mul => .Mult
  | .fdiv => .FloorDiv
  | .mod => .Mod
  | .pow => .Pow
theorem opv (hu : X.A.units < cLine) (o : Op2) : OpR X (binaryOp o.py) (fun x y => rVal X.K (two (op2 o)) [x, y]) := by
  cases o
  · exact opv_add hu
  · exact opv_sub
  · exact opv_mul
  · exact opv_fdiv
  · exact opv_mod
  · exact opv_pow

def Cm.py : Cm → CmpOp
  | .eq => .Eq
  | .ne => .NotEq
  | .lt => .Lt
  | .le => .LtE
  | .gt => .Gt
  | .ge => .GtE
  | .is => .Is
  | .isnot => .IsNot
  | .isin => .In
  | .notin => .NotIn
/-- does the row x stand in y, as the library has it -/
def inStr (x y : List Nat) : Bool := !(Builtin.Str.occurrences (sS y) (sS x) 0 (sS y).length 1).isEmpty
theorem any_inL (n : Nat) (d : D) (hd : plain n d = true) : ∀ xs : List D, (∀ x ∈ xs, plain n x = true) → ((toPyL xs).any fun y => PyData.eqv y (toPy d)) = inL d xs
  | [], _ => rfl
  | x :: xs, h => by
    simp only [toPyL, List.any_cons, inL]
    rw [eqv_toPy n x d (h x List.mem_cons_self) hd, any_inL n d hd xs fun z hz => h z (List.mem_cons_of_mem _ hz)]
theorem bl_rp {K : PySem.W.Frag} {H : Hp} {W : Addr → Prop} (k : Bool) : Rp K H W (.bl k) (.bl k) := by simp only [Rp]
/-- == and != of data -/
def rDat (K : PySem.W.Frag) (g : PyData → PyData → Bool) : R2 := fun x y H Q => ∃ n a b W V', (plain n a = true ∧ Cn K H W a x) ∧ (plain n b = true ∧ Cn K H V' b y) ∧ n ≤ 40 ∧ Q (.bl (g (toPy a) (toPy b))) H
theorem op_eqDat (hu : X.A.units + 64 < cLine) : OpR X (compareOp .Eq) (rDat X.K PyData.eqv) := by
  intro pins s σ H x y v u Q I rx ry h
  obtain ⟨n, a, b, W, W', ⟨ha, ca⟩, ⟨hb, cb⟩, hn, q⟩ := h
  obtain ⟨as, r1⟩ := Dp.reads I _ x v (ca.dp ha) rx
  obtain ⟨bs, r2⟩ := Dp.reads I _ y u (cb.dp hb) ry
  have d1 := (plain_toPy n a ha).2
  exact SeqAt.eq_plain r1 r2 (plain_toPy n a ha).1 (plain_toPy n b hb).1 (by omega) ⟨.bl _, H, I, rfl, q⟩
theorem op_neDat (hu : X.A.units + 64 < cLine) : OpR X (compareOp .NotEq) (rDat X.K fun a b => !PyData.eqv a b) := by
  intro pins s σ H x y v u Q I rx ry h
  obtain ⟨n, a, b, W, W', ⟨ha, ca⟩, ⟨hb, cb⟩, hn, q⟩ := h
  obtain ⟨as, r1⟩ := Dp.reads I _ x v (ca.dp ha) rx
  obtain ⟨bs, r2⟩ := Dp.reads I _ y u (cb.dp hb) ry
  have d1 := (plain_toPy n a ha).2
  exact SeqAt.ne_plain r1 r2 (plain_toPy n a ha).1 (plain_toPy n b hb).1 (by omega) ⟨.bl _, H, I, rfl, q⟩
def isSeq : D → Bool
  | .lst _ => true
  | .tup _ => true
  | _ => false
def itemsD : D → List D
  | .lst xs => xs
  | .tup xs => xs
  | _ => []
/-- in, not in of a list, a tuple -/
def rInD (K : PySem.W.Frag) (neg : Bool) : R2 := fun x y H Q => ∃ n a b W W', (plain n a = true ∧ Cn K H W a x) ∧ (plain (n + 1) b = true ∧ isSeq b = true ∧ Cn K H W' b y) ∧ n ≤ 40 ∧ Q (.bl (if neg then !inL a (itemsD b) else inL a (itemsD b))) H
theorem op_inD (hu : X.A.units + 65 < cLine) : OpR X (compareOp .In) (rInD X.K false) := by
  intro pins s σ H x y v u Q I rx ry h
  obtain ⟨n, a, b, W, W', ⟨ha, ca⟩, ⟨hb, hs, cb⟩, hn, q⟩ := h
  obtain ⟨as, r1⟩ := Dp.reads I _ x v (ca.dp ha) rx
  obtain ⟨bs, r2⟩ := Dp.reads I _ y u (cb.dp hb) ry
  have d1 := (plain_toPy n a ha).2
  cases b with
  | lst xs =>
    have hb : ∀ x ∈ xs, plain n x = true := by simpa [plain] using hb
    exact SeqAt.in_list_data (xs := toPyL xs) (by simpa only [toPy] using r2) r1 (plain_toPyL n xs hb).1 (plain_toPy n a ha).1 (by omega) ⟨.bl _, H, I, rfl, by rw [any_inL n a ha xs hb]; exact q⟩
  | tup xs =>
    have hb : ∀ x ∈ xs, plain n x = true := by simpa [plain] using hb
    exact SeqAt.in_tuple_data (xs := toPyL xs) (by simpa only [toPy] using r2) r1 (plain_toPyL n xs hb).1 (plain_toPy n a ha).1 (by omega) ⟨.bl _, H, I, rfl, by rw [any_inL n a ha xs hb]; exact q⟩
  | _ => cases hs
theorem op_notinD (hu : X.A.units + 65 < cLine) : OpR X (compareOp .NotIn) (rInD X.K true) := by
  intro pins s σ H x y v u Q I rx ry h
  obtain ⟨n, a, b, W, W', ⟨ha, ca⟩, ⟨hb, hs, cb⟩, hn, q⟩ := h
  obtain ⟨as, r1⟩ := Dp.reads I _ x v (ca.dp ha) rx
  obtain ⟨bs, r2⟩ := Dp.reads I _ y u (cb.dp hb) ry
  have d1 := (plain_toPy n a ha).2
  cases b with
  | lst xs =>
    have hb : ∀ x ∈ xs, plain n x = true := by simpa [plain] using hb
    exact SeqAt.notIn_list_data (xs := toPyL xs) (by simpa only [toPy] using r2) r1 (plain_toPyL n xs hb).1 (plain_toPy n a ha).1 (by omega) ⟨.bl _, H, I, rfl, by rw [any_inL n a ha xs hb]; exact q⟩
  | tup xs =>
    have hb : ∀ x ∈ xs, plain n x = true := by simpa [plain] using hb
    exact SeqAt.notIn_tuple_data (xs := toPyL xs) (by simpa only [toPy] using r2) r1 (plain_toPyL n xs hb).1 (plain_toPy n a ha).1 (by omega) ⟨.bl _, H, I, rfl, by rw [any_inL n a ha xs hb]; exact q⟩
  | _ => cases hs
theorem cmpv_int (o : Cm) (p : Int → Int → Bool) (hr : OpR X (compareOp o.py) (rI0 fun i j => .bl (p i j))) (inS : List Nat → List Nat → Bool)
    (hf : ∀ a b z, cmpZ inS o a b = some z → ∃ i j, a = .int i ∧ b = .int j ∧ z = (.bl (p i j), false)) : OpR X (compareOp o.py) (fun x y => rVal X.K (two (cmpZ inS o)) [x, y]) := by
  refine OpR.by fun H W x y a b z hW h1 h2 hz => ?_
  obtain ⟨i, j, rfl, rfl, rfl⟩ := hf a b z hz
  cases h1; cases h2
  exact ⟨_, hr, fun Q q => ⟨i, j, rfl, rfl, q _ _ (.same (bl_rp _))⟩⟩
theorem int_none_iff {K : PySem.W.Frag} {H : Hp} {W : Addr → Prop} {a : D} {x : V} (h : Cn K H W a x) (hd : a ≠ .dead) : decide (x = V.non) = (match a with | .non => true | _ => false) := by
  cases a with
  | non => cases h; rfl
  | bl _ => cases h; rfl
  | int _ => cases h; rfl
  | str _ => cases h; rfl
  | tup _ => simp only [Cn, Rp] at h; obtain ⟨_, _, rfl, _⟩ := h; rfl
  | lst _ => obtain ⟨_, _, rfl, _⟩ := h; rfl
  | dic _ _ => obtain ⟨_, _, rfl, _⟩ := h; rfl
  | scr _ => simp only [Cn, Rp] at h; obtain ⟨_, _, rfl, _⟩ := h; rfl
  | dead => exact absurd rfl hd
  | _ => simp only [Cn, Rp] at h
theorem cmpv (hu : X.A.units + 100 < cLine) (o : Cm) : OpR X (compareOp o.py) (fun x y => rVal X.K (two (cmpZ inStr o)) [x, y]) := by
  cases o with
  | eq =>
    refine OpR.by fun H W x y a b z hW h1 h2 hz => ?_
    simp only [cmpZ, cmpD] at hz
    split at hz
    · rename_i hl
      simp only [Bool.and_eq_true] at hl
      cases hz
      exact ⟨_, op_eqDat (by omega), fun Q q => ⟨DEEP, a, b, W, W, ⟨hl.1, h1⟩, ⟨hl.2, h2⟩, by decide, by rw [eqv_toPy _ a b hl.1 hl.2]; exact q _ _ (.same (bl_rp _))⟩⟩
    · cases hz
  | ne =>
    refine OpR.by fun H W x y a b z hW h1 h2 hz => ?_
    simp only [cmpZ, cmpD] at hz
    split at hz
    · rename_i hl
      simp only [Bool.and_eq_true] at hl
      cases hz
      exact ⟨_, op_neDat (by omega), fun Q q => ⟨DEEP, a, b, W, W, ⟨hl.1, h1⟩, ⟨hl.2, h2⟩, by decide, by show Q (.bl (!PyData.eqv (toPy a) (toPy b))) H; rw [eqv_toPy _ a b hl.1 hl.2]; exact q _ _ (.same (bl_rp _))⟩⟩
    · cases hz
  | lt => exact cmpv_int .lt (fun i j => decide (i < j)) op_lt _ fun a b z hz => by cases a <;> cases b <;> simp only [cmpZ, cmpD, Option.map_some, Option.map_none, reduceCtorEq, Option.some.injEq] at hz <;> exact ⟨_, _, rfl, rfl, hz.symm⟩
  | le => exact cmpv_int .le (fun i j => decide (i ≤ j)) op_le _ fun a b z hz => by cases a <;> cases b <;> simp only [cmpZ, cmpD, Option.map_some, Option.map_none, reduceCtorEq, Option.some.injEq] at hz <;> exact ⟨_, _, rfl, rfl, hz.symm⟩
  | gt => exact cmpv_int .gt (fun i j => decide (j < i)) op_gt _ fun a b z hz => by cases a <;> cases b <;> simp only [cmpZ, cmpD, Option.map_some, Option.map_none, reduceCtorEq, Option.some.injEq] at hz <;> exact ⟨_, _, rfl, rfl, hz.symm⟩
  | ge => exact cmpv_int .ge (fun i j => decide (j ≤ i)) op_ge _ fun a b z hz => by cases a <;> cases b <;> simp only [cmpZ, cmpD, Option.map_some, Option.map_none, reduceCtorEq, Option.some.injEq] at hz <;> exact ⟨_, _, rfl, rfl, hz.symm⟩
  | is =>
    refine OpR.by fun H W x y a b z hW h1 h2 hz => ?_
    by_cases hd : a = .dead
    · subst hd; cases b <;> cases hz
    · cases b with
      | non =>
        cases h2
        have e := int_none_iff h1 hd
        refine ⟨_, op_isN, fun Q q => ⟨rfl, ?_⟩⟩
        rw [e]
        cases a <;> first
          | exact absurd rfl hd
          | (cases hz; exact q _ _ (.same (bl_rp _)))
      | bl k =>
        cases a with
        | bl j =>
          cases hz; cases h1; cases h2
          exact ⟨_, op_is_bl, fun Q q => ⟨j, k, rfl, rfl, by rw [← Bool.beq_eq_decide_eq]; exact q _ _ (.same (bl_rp _))⟩⟩
        | _ => cases hz
      | _ => cases a <;> cases hz
  | isnot =>
    refine OpR.by fun H W x y a b z hW h1 h2 hz => ?_
    by_cases hd : a = .dead
    · subst hd; cases b <;> cases hz
    · cases b with
      | non =>
        cases h2
        have e := int_none_iff h1 hd
        refine ⟨_, op_notN, fun Q q => ⟨rfl, ?_⟩⟩
        rw [e]
        cases a <;> first
          | exact absurd rfl hd
          | (cases hz; exact q _ _ (.same (bl_rp _)))
      | bl k =>
        cases a with
        | bl j =>
          cases hz; cases h1; cases h2
          exact ⟨_, op_isnot_bl, fun Q q => ⟨j, k, rfl, rfl, by rw [← Bool.beq_eq_decide_eq]; exact q _ _ (.same (bl_rp _))⟩⟩
        | _ => cases hz
      | _ => cases a <;> cases hz
  | isin =>
    refine OpR.by fun H W x y a b z hW h1 h2 hz => ?_
    have seq : isSeq b = true → ∀ xs, itemsD b = xs → (if (plain DEEP a && xs.all (plain DEEP)) = true then some ((D.bl (inL a xs), false) : D × Bool) else none) = some z → plain (DEEP + 1) b = (itemsD b).all (plain DEEP) →
        ∃ r : R2, OpR X (compareOp .In) r ∧ ∀ Q : VK, (∀ H' v, NewR X.K H W H' v z → Q v H') → r x y H Q := fun hs xs e hz hp => by
      split at hz
      · rename_i hl
        simp only [Bool.and_eq_true] at hl
        cases hz
        exact ⟨_, op_inD (by omega), fun Q q => ⟨DEEP, a, b, W, W, ⟨hl.1, h1⟩, ⟨by rw [hp, e]; exact hl.2, hs, h2⟩, by decide, by rw [e]; exact q _ _ (.same (bl_rp _))⟩⟩
      · cases hz
    cases b with
    | str t =>
      cases a with
      | str s =>
        cases hz; cases h1; cases h2
        exact ⟨_, op_in_str, fun Q q => ⟨_, _, rfl, rfl, q _ _ (.same (bl_rp _))⟩⟩
      | _ => cases hz
    | lst xs => exact seq rfl xs rfl (by cases a <;> simpa [cmpZ, cmpD] using hz) (by simp only [plain, itemsD])
    | tup xs => exact seq rfl xs rfl (by cases a <;> simpa [cmpZ, cmpD] using hz) (by simp only [plain, itemsD])
    | _ => cases a <;> cases hz
  | notin =>
    refine OpR.by fun H W x y a b z hW h1 h2 hz => ?_
    have seq : isSeq b = true → ∀ xs, itemsD b = xs → (if (plain DEEP a && xs.all (plain DEEP)) = true then some ((D.bl (!inL a xs), false) : D × Bool) else none) = some z → plain (DEEP + 1) b = (itemsD b).all (plain DEEP) →
        ∃ r : R2, OpR X (compareOp .NotIn) r ∧ ∀ Q : VK, (∀ H' v, NewR X.K H W H' v z → Q v H') → r x y H Q := fun hs xs e hz hp => by
      split at hz
      · rename_i hl
        simp only [Bool.and_eq_true] at hl
        cases hz
        exact ⟨_, op_notinD (by omega), fun Q q => ⟨DEEP, a, b, W, W, ⟨hl.1, h1⟩, ⟨by rw [hp, e]; exact hl.2, hs, h2⟩, by decide, by rw [e]; exact q _ _ (.same (bl_rp _))⟩⟩
      · cases hz
    cases b with
    | str t =>
      cases a with
      | str s =>
        cases hz; cases h1; cases h2
        exact ⟨_, op_notin_str, fun Q q => ⟨_, _, rfl, rfl, q _ _ (.same (bl_rp _))⟩⟩
      | _ => cases hz
    | lst xs => exact seq rfl xs rfl (by cases a <;> simpa [cmpZ, cmpD] using hz) (by simp only [plain, itemsD])
    | tup xs => exact seq rfl xs rfl (by cases a <;> simpa [cmpZ, cmpD] using hz) (by simp only [plain, itemsD])
    | _ => cases a <;> cases hz
end
end Pv
namespace Pv
open PySem PySem.Spec PyProof.Rows L2

theorem int_wt {i : Int} (h : i.natAbs < 2 ^ 1900) : i.natAbs.log2 < 1920 ∧ (Str.ofString (toString i)).length ≤ 2000 := by
  have h1 : i.natAbs.log2 < 1900 := by
    by_cases e : i.natAbs = 0
    · rw [e]; decide
    · exact (Nat.log2_lt e).mpr h
  refine ⟨by omega, ?_⟩
  have e := int_text_length_le (k := 1900) (by decide) h1
  rw [PySem.ofString_length]
  omega
theorem showable_toPy_aux : ∀ (n : Nat), (∀ d : D, plain n d = true → leafOk d = true → (toPy d).showable = true ∧ (toPy d).shown.length ≤ wtD d) := by
  intro n
  induction n with
  | zero =>
    intro d hp hl
    cases d with
    | non => exact ⟨by simp only [toPy, PyData.showable], by simp only [toPy, PyData.shown, wtD]; decide⟩
    | bl b => exact ⟨by simp only [toPy, PyData.showable], by simp only [toPy, PyData.shown, wtD]; cases b <;> decide⟩
    | int i =>
      have h := int_wt (of_decide_eq_true (by simpa only [leafOk] using hl))
      exact ⟨by simp only [toPy, PyData.showable, decide_eq_true_eq]; exact h.1, by simp only [toPy, PyData.shown, wtD]; exact h.2⟩
    | str s =>
      refine ⟨by simp only [toPy, PyData.showable], ?_⟩
      simp only [toPy, PyData.shown, wtD]
      have h := StrLaws.reprText_len (sS s) fun c hc => by
        have h1 : ∀ c ∈ s, c < 4294967296 := by simpa only [leafOk, List.all_eq_true, decide_eq_true_eq] using hl
        exact h1 c (by simpa using hc)
      rw [sS_len] at h
      exact h
    | _ => simp [plain] at hp
  | succ n ih =>
    have all : ∀ xs : List D, (∀ x ∈ xs, plain n x = true) → leafL xs = true → PyData.showableAll (toPyL xs) = true ∧ ((PyData.shownAll (toPyL xs)).map (·.length)).sum + 2 * (PyData.shownAll (toPyL xs)).length ≤ wtL xs := by
      intro xs
      induction xs with
      | nil => intro _ _; exact ⟨by simp only [toPyL, PyData.showableAll], by simp [toPyL, PyData.shownAll, wtL]⟩
      | cons x xs ih2 =>
        intro h1 h2
        simp only [leafL, Bool.and_eq_true] at h2
        obtain ⟨a1, a2⟩ := ih x (h1 x List.mem_cons_self) h2.1
        obtain ⟨b1, b2⟩ := ih2 (fun y hy => h1 y (List.mem_cons_of_mem _ hy)) h2.2
        refine ⟨by simp only [toPyL, PyData.showableAll, a1, b1, Bool.and_self], ?_⟩
        simp only [toPyL, PyData.shownAll, List.map_cons, List.sum_cons, List.length_cons, wtL]
        omega
    intro d hp hl
    cases d with
    | non => exact ⟨by simp only [toPy, PyData.showable], by simp only [toPy, PyData.shown, wtD]; decide⟩
    | bl b => exact ⟨by simp only [toPy, PyData.showable], by simp only [toPy, PyData.shown, wtD]; cases b <;> decide⟩
    | int i =>
      have h := int_wt (of_decide_eq_true (by simpa only [leafOk] using hl))
      exact ⟨by simp only [toPy, PyData.showable, decide_eq_true_eq]; exact h.1, by simp only [toPy, PyData.shown, wtD]; exact h.2⟩
    | str s =>
      refine ⟨by simp only [toPy, PyData.showable], ?_⟩
      simp only [toPy, PyData.shown, wtD]
      have h := StrLaws.reprText_len (sS s) fun c hc => by
        have h1 : ∀ c ∈ s, c < 4294967296 := by simpa only [leafOk, List.all_eq_true, decide_eq_true_eq] using hl
        exact h1 c (by simpa using hc)
      rw [sS_len] at h
      exact h
    | tup xs =>
      obtain ⟨a1, a2⟩ := all xs (by simpa [plain] using hp) (by simpa only [leafOk] using hl)
      refine ⟨by simp only [toPy, PyData.showable]; exact a1, ?_⟩
      simp only [toPy, PyData.shown, wtD]
      have h := tupleText_len_le (PyData.shownAll (toPyL xs))
      omega
    | lst xs =>
      obtain ⟨a1, a2⟩ := all xs (by simpa [plain] using hp) (by simpa only [leafOk] using hl)
      refine ⟨by simp only [toPy, PyData.showable]; exact a1, ?_⟩
      simp only [toPy, PyData.shown, wtD]
      have h := listText_len_le (PyData.shownAll (toPyL xs))
      omega
    | _ => simp [plain] at hp
theorem showOk_of {d : D} (h : showOk d = true) : plain DEEP d = true ∧ (toPy d).showable = true ∧ (toPy d).shown.length ≤ sizeLine := by
  unfold showOk at h
  simp only [Bool.and_eq_true, decide_eq_true_eq] at h
  obtain ⟨a, b⟩ := showable_toPy_aux DEEP d h.1.1 h.1.2
  exact ⟨h.1.1, a, by rw [← lim_line]; omega⟩
/-- the written form, as the library has it -/
def reprS (d : D) : List Nat := (PyData.shown (toPy d)).cps.toList
theorem hasDict_plain : ∀ d : PyData, d.plain = true → d.hasDict = false
  | .none, _ => by simp only [PyData.hasDict]
  | .bool _, _ => by simp only [PyData.hasDict]
  | .int _, _ => by simp only [PyData.hasDict]
  | .str _, _ => by simp only [PyData.hasDict]
  | .list xs, h => by
    simp only [PyData.hasDict]
    exact go xs (by simpa only [PyData.plain] using h)
  | .tuple xs, h => by
    simp only [PyData.hasDict]
    exact go xs (by simpa only [PyData.plain] using h)
  | .dict _, h => by simp only [PyData.plain] at h; cases h
where
  go : ∀ xs : List PyData, PyData.plainAll xs = true → PyData.hasDictAll xs = false
  | [], _ => by simp only [PyData.hasDictAll]
  | x :: xs, h => by
    simp only [PyData.plainAll, Bool.and_eq_true] at h
    simp only [PyData.hasDictAll, hasDict_plain x h.1, go xs h.2, Bool.or_self]

section
variable {X : Cx}
theorem CallR.by {fv : Value} {g : List D → Option (D × Bool)}
    (h : ∀ (H : Hp) (W : Addr → Prop) (xs : List V) (ds : List D) (z : D × Bool), (∀ b, W b → H b ≠ none) → CnL X.K H W ds xs → g ds = some z →
      ∃ r, CallR X fv r ∧ ∀ Q : VK, (∀ H' v, NewR X.K H W H' v z → Q v H') → r xs H Q) : CallR X fv (rVal X.K g) := by
  intro pins s σ H xs us Q I r q
  obtain ⟨W, ds, z, hW, hc, hf, q⟩ := q
  obtain ⟨r', hr, hq⟩ := h H W xs ds z hW hc hf
  exact hr pins s σ H xs us Q I r (hq Q q)
theorem CallR.or {fv : Value} {r r' : List V → Hp → VK → Prop} (h : CallR X fv r) (h' : CallR X fv r') : CallR X fv (fun xs H Q => r xs H Q ∨ r' xs H Q) := by
  intro pins s σ H xs us Q I rx q
  rcases q with q | q
  · exact h pins s σ H xs us Q I rx q
  · exact h' pins s σ H xs us Q I rx q
theorem call_repr (hu : X.A.units + 64 < cLine) (hg : X.A.guards = some []) : CallR X (.builtin "repr") (fun xs H Q => ∃ d W x, xs = [x] ∧ showOk d = true ∧ Cn X.K H W d x ∧ Q (.str (sS (reprS d))) H) := by
  intro pins s σ H xs us Q I r h
  obtain ⟨d, W, x, rfl, hs, hc, q⟩ := h
  obtain ⟨u, rfl, rx⟩ := vals1 r
  obtain ⟨h1, h2, h3⟩ := showOk_of hs
  obtain ⟨as, hr⟩ := Dp.reads I _ x u (hc.dp h1) rx
  have hd := (plain_toPy DEEP d h1).2
  have hp := (plain_toPy DEEP d h1).1
  have e : sS (reprS d) = (toPy d).shown := by
    unfold reprS sS
    simp
  have q' : ∀ t : Str, t = (toPy d).shown → Q (.str t) H := fun t ht => by
    rw [ht, ← e]; exact q
  have ref : ∀ a, u = .ref a → wpAny (model X.prog X.w) X.A (call (.builtin "repr") [u]) (EP X pins σ Q) X.xe s := fun a ha => by
    subst ha
    exact repr_of_reads' (h₀ := s.heap) hr h2 (fun z => by rw [hasDict_plain _ hp] at z; cases z) hg (by have : DEEP = 40 := rfl; omega) (fun _ _ e => e) (fun h' t tk hk => ⟨.str (toPy d).shown, H, I.kept hk, ⟨t, rfl⟩, q' _ rfl⟩) h3
  cases d with
  | non => cases hc; cases rx; exact PySem.P.repr_of_none ⟨.str "None", H, I.tok _, ⟨_, rfl⟩, q' _ (by simp only [toPy, PyData.shown])⟩
  | bl b => cases hc; cases rx; exact PySem.P.repr_of_bool ⟨.str (if b then "True" else "False"), H, I.tok _, ⟨_, rfl⟩, q' _ (by simp only [toPy, PyData.shown])⟩
  | int i =>
    cases hc
    obtain ⟨t, rfl⟩ := rx
    exact PySem.P.repr_of_int (by simpa only [toPy, PyData.showable, decide_eq_true_eq] using h2) ⟨.str (toString i), H, I.tok _, ⟨_, rfl⟩, q' _ (by simp only [toPy, PyData.shown])⟩
  | str z =>
    cases hc
    obtain ⟨t, rfl⟩ := rx
    exact PySem.P.repr_of_str ⟨.str (reprText (sS z)), H, I.tok _, ⟨_, rfl⟩, q' _ (by simp only [toPy, PyData.shown])⟩ (by simpa only [toPy, PyData.shown] using h3)
  | tup xs =>
    simp only [Cn, Rp] at hc
    obtain ⟨a, vs, rfl, _⟩ := hc
    cases rx
    exact ref a rfl
  | lst xs =>
    obtain ⟨a, vs, rfl, _⟩ := hc
    cases rx
    exact ref a rfl
  | _ => simp [plain, DEEP] at h1

theorem int_rp {K : PySem.W.Frag} {H : Hp} {W : Addr → Prop} (k : Int) : Rp K H W (.int k) (.int k) := by simp only [Rp]
theorem str_rp {K : PySem.W.Frag} {H : Hp} {W : Addr → Prop} (k : List Nat) : Rp K H W (.str k) (.str (sS k)) := by simp only [Rp]
theorem one_of {ds : List D} {vs : List V} {K : PySem.W.Frag} {H : Hp} {W : Addr → Prop} {d : D} (h : CnL K H W [d] vs) : ∃ v, vs = [v] ∧ Cn K H W d v := by
  obtain ⟨v, vs', rfl, h1, h2⟩ := h.cons_inv
  cases h2.nil_inv
  exact ⟨v, rfl, h1⟩
theorem two_of {vs : List V} {K : PySem.W.Frag} {H : Hp} {W : Addr → Prop} {d e : D} (h : CnL K H W [d, e] vs) : ∃ v w, vs = [v, w] ∧ Cn K H W d v ∧ Cn K H W e w := by
  obtain ⟨v, vs', rfl, h1, h2⟩ := h.cons_inv
  obtain ⟨w, rfl, h3⟩ := one_of (ds := []) h2
  exact ⟨v, w, rfl, h1, h3⟩
theorem len_dic {K : PySem.W.Frag} {H : Hp} {W : Addr → Prop} {a : Addr} {kvs : List (Key × V)} {ks ws : List D} (h2 : ks = kvs.map (fun p => keyD p.1)) : ks.length = kvs.length := by rw [h2, List.length_map]
/-- len of a dict, walked or not -/
theorem call_lenDR : CallR X (.builtin "len") (fun xs H Q => ∃ a kvs, xs = [V.ref a] ∧ Rd H a (.dK kvs) ∧ Q (.int kvs.length) H) := by
  intro pins s σ H xs us Q I r h
  obtain ⟨a, kvs, rfl, ha, q⟩ := h
  obtain ⟨u, rfl, ru⟩ := vals1 r
  cases ru
  exact d_len I ha fun t s' I' => ⟨.int kvs.length, H, I', ⟨t, rfl⟩, q⟩
theorem biv_len (P : Sys) : CallR X (.builtin "len") (rVal X.K (biD P .len)) := by
  refine CallR.by fun H W xs ds z hW h hz => ?_
  match ds, hz, h with
  | [d], hz, h =>
    obtain ⟨v, rfl, hc⟩ := one_of (ds := []) h
    simp only [biD] at hz
    cases d with
    | str s =>
      simp only [lenD] at hz
      split at hz
      · rename_i hl
        cases hz; cases hc
        refine ⟨_, call_len, fun Q q => ⟨_, s.length, rfl, ⟨by rw [sS_len, ← lim_line]; exact hl, (sS_len s).symm⟩, q _ _ (.same (int_rp _))⟩⟩
      · cases hz
    | lst s =>
      cases hz
      obtain ⟨a, vs, rfl, e, rr⟩ := hc
      exact ⟨_, call_len_seq, fun Q q => ⟨a, vs, rfl, .inl (.inl (.inl e)), by rw [← rr.length]; exact q _ _ (.same (int_rp _))⟩⟩
    | tup s =>
      cases hz
      simp only [Cn, Rp] at hc
      obtain ⟨a, vs, rfl, e, rr⟩ := hc
      exact ⟨_, call_len_seq, fun Q q => ⟨a, vs, rfl, .inr e.sq, by rw [← rr.length]; exact q _ _ (.same (int_rp _))⟩⟩
    | scr s =>
      cases hz
      simp only [Cn, Rp] at hc
      obtain ⟨a, vs, rfl, e, rr⟩ := hc
      exact ⟨_, call_len_seq, fun Q q => ⟨a, vs, rfl, .inl (e.elim (fun z => .inl z.1) .inr), by rw [← rr.length]; exact q _ _ (.same (int_rp _))⟩⟩
    | dic s t =>
      cases hz
      obtain ⟨a, kvs, rfl, e, e2, rr⟩ := hc
      exact ⟨_, call_lenDR, fun Q q => ⟨a, kvs, rfl, e, by rw [← len_dic (a := a) (K := X.K) (H := H) (W := W) (ws := t) e2]; exact q _ _ (.same (int_rp _))⟩⟩
    | sset s => simp only [Cn, Rp] at hc
    | _ => cases hz
  | [], hz, _ => simp [biD] at hz
  | _ :: _ :: _, hz, _ => simp [biD] at hz
theorem biv_abs (P : Sys) : CallR X (.builtin "abs") (rVal X.K (biD P .abs)) := by
  refine CallR.by fun H W xs ds z hW h hz => ?_
  match ds, hz, h with
  | [.int i], hz, h =>
    obtain ⟨v, rfl, hc⟩ := one_of (ds := []) h
    cases hz; cases hc
    exact ⟨_, call_abs, fun Q q => ⟨i, rfl, q _ _ (.same (int_rp _))⟩⟩
theorem biv_int (P : Sys) : CallR X (.type "int") (rVal X.K (biD P .int)) := by
  refine CallR.by fun H W xs ds z hW h hz => ?_
  match ds, hz, h with
  | [.int i], hz, h =>
    obtain ⟨v, rfl, hc⟩ := one_of (ds := []) h
    cases hz; cases hc
    exact ⟨_, call_int1, fun Q q => .inl ⟨i, rfl, q _ _ (.same (int_rp _))⟩⟩
  | [.bl i], hz, h =>
    obtain ⟨v, rfl, hc⟩ := one_of (ds := []) h
    cases hz; cases hc
    exact ⟨_, call_int1, fun Q q => .inr ⟨i, rfl, q _ _ (.same (int_rp _))⟩⟩
theorem biv_bool (P : Sys) : CallR X (.type "bool") (rVal X.K (biD P .bool)) := by
  refine CallR.by fun H W xs ds z hW h hz => ?_
  match ds, hz, h with
  | [.bl i], hz, h =>
    obtain ⟨v, rfl, hc⟩ := one_of (ds := []) h
    cases hz; cases hc
    exact ⟨_, call_bool1, fun Q q => .inr ⟨i, rfl, q _ _ (.same (bl_rp _))⟩⟩
theorem call_repr_d0 (hu : X.A.units + 64 < cLine) (hg : X.A.guards = some []) : CallR X (.builtin "repr") (fun xs H Q => ∃ a, xs = [V.ref a] ∧ Rd H a (.dK []) ∧ Q (.str (sS [123, 125])) H) := by
  intro pins s σ H xs us Q I r h
  obtain ⟨a, rfl, ha, q⟩ := h
  obtain ⟨u, rfl, ru⟩ := vals1 r
  cases ru
  obtain ⟨_, hS, vs, kv, o, es, ep, e1, e2, e3, e4⟩ := dk_rd I.hok ha
  cases kv
  have hes : es.toList = [] := by
    have e5 := e4.2.1
    generalize es.toList = l at e5
    cases e5
    rfl
  have rd : Reads s.heap (.ref a) (.dict []) (a :: ([] ++ [])) := .dict e1 e2.1 e3 (by rw [hes]; exact .nil) (by rw [hes]; exact .nil)
  refine repr_of_reads' (h₀ := s.heap) rd (by decide) (fun _ z => ?_) hg (by show X.A.units + (_ + 1) < cLine; simp [PyData.depth, PyData.depthKv]; omega) (fun _ _ e => e) (fun h' t tk hk => ⟨.str (sS [123, 125]), H, I.kept hk, ⟨t, rfl⟩, q⟩) (by decide)
  have z' : sysModules = a := by simpa using z
  rw [← z'] at hS
  simp at hS
theorem biv_repr (hu : X.A.units + 64 < cLine) (hg : X.A.guards = some []) (P : Sys) (hP : P.rp = reprS) : CallR X (.builtin "repr") (rVal X.K (biD P .repr)) := by
  refine CallR.by fun H W xs ds z hW h hz => ?_
  match ds, hz, h with
  | [d], hz, h =>
    obtain ⟨v, rfl, hc⟩ := one_of (ds := []) h
    have gen : (if showOk d then some ((D.str (P.rp d), false) : D × Bool) else none) = some z → ∃ r, CallR X (.builtin "repr") r ∧ ∀ Q : VK, (∀ H' v, NewR X.K H W H' v z → Q v H') → r [v] H Q := fun hz => by
      split at hz
      · rename_i hl
        cases hz
        exact ⟨_, call_repr hu hg, fun Q q => ⟨d, W, v, rfl, hl, hc, by rw [hP] at q; exact q _ _ (.same (str_rp _))⟩⟩
      · cases hz
    cases d with
    | dic ks vs =>
      simp only [biD] at hz
      split at hz
      · rename_i he
        cases hz
        simp only [Bool.and_eq_true, List.isEmpty_iff] at he
        obtain ⟨a, kvs, rfl, e, e2, rr⟩ := hc
        have hk : kvs = [] := by
          have := congrArg List.length e2
          rw [he.1, List.length_map] at this
          exact List.eq_nil_of_length_eq_zero this.symm
        subst hk
        exact ⟨_, call_repr_d0 hu hg, fun Q q => ⟨a, rfl, e, q _ _ (.same (str_rp _))⟩⟩
      · cases hz
    | _ => exact gen (by simpa only [biD] using hz)
  | [], hz, _ => simp [biD] at hz
  | _ :: _ :: _, hz, _ => simp [biD] at hz
theorem boolsOf_rp {K : PySem.W.Frag} {H : Hp} {W : Addr → Prop} : ∀ {xs : List D} {vs : List V} {bs : List Bool}, RpL K H W xs vs → boolsOf xs = some bs → vs = bs.map V.bl
  | [], vs, bs, h, e => by
    cases e
    cases h.nil_inv
    rfl
  | x :: xs, us, bs, h, e => by
    obtain ⟨v, vs, rfl, h1, h2⟩ := h.cons_inv
    cases x <;> first
      | (simp [boolsOf] at e; done)
      | skip
    rename_i b
    simp only [boolsOf] at e
    cases q : boolsOf xs with
    | none => rw [q] at e; cases e
    | some bs' =>
      rw [q] at e
      cases e
      cases h1
      rw [List.map_cons, boolsOf_rp h2 q]
theorem intsOf_rp {K : PySem.W.Frag} {H : Hp} {W : Addr → Prop} : ∀ {xs : List D} {vs : List V} {bs : List Int}, RpL K H W xs vs → intsOf xs = some bs → vs = bs.map V.int
  | [], vs, bs, h, e => by
    cases e
    cases h.nil_inv
    rfl
  | x :: xs, us, bs, h, e => by
    obtain ⟨v, vs, rfl, h1, h2⟩ := h.cons_inv
    cases x <;> first
      | (simp [intsOf] at e; done)
      | skip
    rename_i b
    simp only [intsOf] at e
    cases q : intsOf xs with
    | none => rw [q] at e; cases e
    | some bs' =>
      rw [q] at e
      cases e
      cases h1
      rw [List.map_cons, intsOf_rp h2 q]
theorem strsOf_rp {K : PySem.W.Frag} {H : Hp} {W : Addr → Prop} : ∀ {xs : List D} {vs : List V} {bs : List (List Nat)}, RpL K H W xs vs → strsOf xs = some bs → vs = (bs.map sS).map V.str
  | [], vs, bs, h, e => by
    cases e
    cases h.nil_inv
    rfl
  | x :: xs, us, bs, h, e => by
    obtain ⟨v, vs, rfl, h1, h2⟩ := h.cons_inv
    cases x <;> first
      | (simp [strsOf] at e; done)
      | skip
    rename_i b
    simp only [strsOf] at e
    cases q : strsOf xs with
    | none => rw [q] at e; cases e
    | some bs' =>
      rw [q] at e
      cases e
      cases h1
      rw [List.map_cons, List.map_cons, strsOf_rp h2 q]
theorem foldl_add (xs : List Int) : ∀ a : Int, xs.foldl (· + ·) a = a + xs.sum := by
  induction xs with
  | nil => intro a; simp
  | cons x xs ih => intro a; rw [List.foldl_cons, ih, List.sum_cons]; omega
theorem biv_sum (hc : X.calm = true) (P : Sys) : CallR X (.builtin "sum") (rVal X.K (biD P .sum)) := by
  refine CallR.by fun H W xs ds z hW h hz => ?_
  match ds, hz, h with
  | [.lst ys], hz, h =>
    obtain ⟨v, rfl, hc2⟩ := one_of (ds := []) h
    obtain ⟨a, vs, rfl, e, rr⟩ := hc2
    simp only [biD] at hz
    cases q : intsOf ys with
    | none => rw [q] at hz; cases hz
    | some bs =>
      rw [q] at hz
      cases hz
      have ev := intsOf_rp rr q
      refine ⟨_, cr_sum hc, fun Q q => ⟨a, bs, rfl, by rw [← ev]; exact .inl (.inl e), ?_⟩⟩
      have es : bs.sum = sumI bs := by unfold sumI; rw [foldl_add]; omega
      rw [es]
      exact q _ _ (.same (int_rp _))
theorem biv_any (hc : X.calm = true) (P : Sys) : CallR X (.builtin "any") (rVal X.K (biD P .any)) := by
  refine CallR.by fun H W xs ds z hW h hz => ?_
  match ds, hz, h with
  | [.lst ys], hz, h =>
    obtain ⟨v, rfl, hc2⟩ := one_of (ds := []) h
    obtain ⟨a, vs, rfl, e, rr⟩ := hc2
    simp only [biD] at hz
    cases q : boolsOf ys with
    | none => rw [q] at hz; cases hz
    | some bs =>
      rw [q] at hz
      cases hz
      have ev := boolsOf_rp rr q
      exact ⟨_, cr_any hc, fun Q q => ⟨a, bs, rfl, by rw [← ev]; exact .inl (.inl e), q _ _ (.same (bl_rp _))⟩⟩
theorem biv_all (hc : X.calm = true) (P : Sys) : CallR X (.builtin "all") (rVal X.K (biD P .all)) := by
  refine CallR.by fun H W xs ds z hW h hz => ?_
  match ds, hz, h with
  | [.lst ys], hz, h =>
    obtain ⟨v, rfl, hc2⟩ := one_of (ds := []) h
    obtain ⟨a, vs, rfl, e, rr⟩ := hc2
    simp only [biD] at hz
    cases q : boolsOf ys with
    | none => rw [q] at hz; cases hz
    | some bs =>
      rw [q] at hz
      cases hz
      have ev := boolsOf_rp rr q
      exact ⟨_, cr_all hc, fun Q q => ⟨a, bs, rfl, by rw [← ev]; exact .inl (.inl e), q _ _ (.same (bl_rp _))⟩⟩
theorem maxI_the {bs : List Int} {k : Int} (h : maxI bs = some k) : k ∈ bs ∧ ∀ y ∈ bs, y ≤ k := by
  cases bs with
  | nil => cases h
  | cons x r =>
    cases h
    have go : ∀ (r : List Int) (x : Int), (r.foldl (fun a b => if a < b then b else a) x) ∈ x :: r ∧ ∀ y ∈ x :: r, y ≤ r.foldl (fun a b => if a < b then b else a) x := by
      intro r
      induction r with
      | nil => intro x; simp
      | cons y r ih =>
        intro x
        rw [List.foldl_cons]
        obtain ⟨h1, h2⟩ := ih (if x < y then y else x)
        constructor
        · rcases List.mem_cons.mp h1 with e | e
          · rw [e]; split <;> simp
          · simp [e]
        · intro z hz
          have hx := h2 _ List.mem_cons_self
          rcases List.mem_cons.mp hz with rfl | hz
          · exact Int.le_trans (by split <;> omega) hx
          · rcases List.mem_cons.mp hz with rfl | hz
            · exact Int.le_trans (by split <;> omega) hx
            · exact h2 z (List.mem_cons_of_mem _ hz)
    exact go r x
theorem minI_the {bs : List Int} {k : Int} (h : minI bs = some k) : k ∈ bs ∧ ∀ y ∈ bs, k ≤ y := by
  cases bs with
  | nil => cases h
  | cons x r =>
    cases h
    have go : ∀ (r : List Int) (x : Int), (r.foldl (fun a b => if b < a then b else a) x) ∈ x :: r ∧ ∀ y ∈ x :: r, r.foldl (fun a b => if b < a then b else a) x ≤ y := by
      intro r
      induction r with
      | nil => intro x; simp
      | cons y r ih =>
        intro x
        rw [List.foldl_cons]
        obtain ⟨h1, h2⟩ := ih (if y < x then y else x)
        constructor
        · rcases List.mem_cons.mp h1 with e | e
          · rw [e]; split <;> simp
          · simp [e]
        · intro z hz
          have hx := h2 _ List.mem_cons_self
          rcases List.mem_cons.mp hz with rfl | hz
          · exact Int.le_trans hx (by split <;> omega)
          · rcases List.mem_cons.mp hz with rfl | hz
            · exact Int.le_trans hx (by split <;> omega)
            · exact h2 z (List.mem_cons_of_mem _ hz)
    exact go r x
theorem biv_max (hc : X.calm = true) (P : Sys) : CallR X (.builtin "max") (rVal X.K (biD P .max)) := by
  refine CallR.by fun H W xs ds z hW h hz => ?_
  match ds, hz, h with
  | [.lst ys], hz, h =>
    obtain ⟨v, rfl, hc2⟩ := one_of (ds := []) h
    obtain ⟨a, vs, rfl, e, rr⟩ := hc2
    simp only [biD] at hz
    cases q : intsOf ys with
    | none => rw [q] at hz; cases hz
    | some bs =>
      rw [q] at hz
      cases q2 : maxI bs with
      | none => rw [Option.bind_some, q2] at hz; cases hz
      | some k =>
        rw [Option.bind_some, q2] at hz
        cases hz
        have ev := intsOf_rp rr q
        obtain ⟨k1, k2⟩ := maxI_the q2
        refine ⟨_, cr_max hc, fun Q q => ⟨a, bs, rfl, by rw [← ev]; exact .inl (.inl e), List.length_pos_of_mem k1, fun m hm hle => ?_⟩⟩
        have : m = k := Int.le_antisymm (k2 m hm) (hle k k1)
        rw [this]
        exact q _ _ (.same (int_rp _))
theorem biv_min (hc : X.calm = true) (P : Sys) : CallR X (.builtin "min") (rVal X.K (biD P .min)) := by
  refine CallR.by fun H W xs ds z hW h hz => ?_
  match ds, hz, h with
  | [.lst ys], hz, h =>
    obtain ⟨v, rfl, hc2⟩ := one_of (ds := []) h
    obtain ⟨a, vs, rfl, e, rr⟩ := hc2
    simp only [biD] at hz
    cases q : intsOf ys with
    | none => rw [q] at hz; cases hz
    | some bs =>
      rw [q] at hz
      cases q2 : minI bs with
      | none => rw [Option.bind_some, q2] at hz; cases hz
      | some k =>
        rw [Option.bind_some, q2] at hz
        cases hz
        have ev := intsOf_rp rr q
        obtain ⟨k1, k2⟩ := minI_the q2
        refine ⟨_, cr_min hc, fun Q q => ⟨a, bs, rfl, by rw [← ev]; exact .inl (.inl e), List.length_pos_of_mem k1, fun m hm hle => ?_⟩⟩
        have : m = k := Int.le_antisymm (hle k k1) (k2 m hm)
        rw [this]
        exact q _ _ (.same (int_rp _))
theorem biv_max2 (hc : X.calm = true) (P : Sys) : CallR X (.builtin "max") (rVal X.K (biD P .max2)) := by
  refine CallR.by fun H W xs ds z hW h hz => ?_
  match ds, hz, h with
  | [.int i, .int j], hz, h =>
    obtain ⟨v, w, rfl, h1, h2⟩ := two_of h
    cases hz; cases h1; cases h2
    exact ⟨_, call_max2 hc, fun Q q => ⟨i, j, rfl, q _ _ (.same (int_rp _))⟩⟩
theorem biv_min2 (hc : X.calm = true) (P : Sys) : CallR X (.builtin "min") (rVal X.K (biD P .min2)) := by
  refine CallR.by fun H W xs ds z hW h hz => ?_
  match ds, hz, h with
  | [.int i, .int j], hz, h =>
    obtain ⟨v, w, rfl, h1, h2⟩ := two_of h
    cases hz; cases h1; cases h2
    exact ⟨_, call_min2 hc, fun Q q => ⟨i, j, rfl, q _ _ (.same (int_rp _))⟩⟩
theorem biv_divmod (P : Sys) : CallR X (.builtin "divmod") (rVal X.K (biD P .divmod)) := by
  refine CallR.by fun H W xs ds z hW h hz => ?_
  match ds, hz, h with
  | [.int i, .int j], hz, h =>
    obtain ⟨v, w, rfl, h1, h2⟩ := two_of h
    simp only [biD] at hz
    split at hz
    · rename_i hl
      simp only [Bool.and_eq_true, decide_eq_true_eq] at hl
      cases hz; cases h1; cases h2
      exact ⟨_, call_divmod, fun Q q => ⟨i, j, rfl, hl, fun p hp => q _ _ (.tuple hW hp (.cons (int_rp _) (.cons (int_rp _) .nil)))⟩⟩
    · cases hz

theorem chars_rp {K : PySem.W.Frag} {H : Hp} {W : Addr → Prop} : ∀ s : List Nat, RpL K H W (chars s) (s.map fun c => V.str (sS [c]))
  | [] => .nil
  | c :: s => .cons (by simp only [Rp]) (chars_rp s)
theorem signs_vals {s : List Nat} {acc : Array Value} (h : PySem.ItemsOf (PySem.SignAt (sS s)) acc (sS s).cps.size) : Vals (s.map fun c => V.str (sS [c])) acc.toList := by
  have e : acc.size = s.length := by
    have := h.1
    simpa [sS] using this
  have hj : ∀ j v, acc.toList[j]? = some v → ∃ c u, s[j]? = some c ∧ v = Value.str ⟨#[c]⟩ u := fun j v hv => by
    obtain ⟨c, u, h1, h2⟩ := h.2 j v (by rw [← Array.getElem?_toList]; exact hv)
    exact ⟨c, u, by simpa [sS] using h1, h2⟩
  have el : acc.toList.length = s.length := by simpa using e
  revert hj el
  generalize acc.toList = l
  clear h e
  induction s generalizing l with
  | nil =>
    intro _ el
    cases l with
    | nil => exact .nil
    | cons x l => simp at el
  | cons c s ih =>
    intro hj el
    cases l with
    | nil => simp at el
    | cons x l =>
      obtain ⟨c', u, h1, h2⟩ := hj 0 x rfl
      simp at h1
      subst h1
      refine .cons ⟨u, h2⟩ (ih l (fun j v hv => ?_) (by simpa using el))
      simpa using hj (j + 1) v (by simpa using hv)
theorem call_listS (hc : X.calm = true) : CallR X (.type "list") (fun xs H Q => ∃ s, xs = [V.str (sS s)] ∧ s.length ≤ LIM ∧ ∀ p, H p = none → Q (.ref p) (upd H p (.lst (s.map fun c => V.str (sS [c]))))) := by
  intro pins st σ H xs us Q I r h
  obtain ⟨s, rfl, hl, q⟩ := h
  obtain ⟨u, rfl, t, rfl⟩ := vals1 r
  have hz : s.length ≤ sizeLine := by rw [← lim_line]; exact hl
  refine PySem.call_list_str (I.ok.hd hc) _ t (fun h' tk acc c' hk hS hacc => ?_) (by simpa [sS] using hz)
  exact ⟨.ref st.heap.objs.size, _, I.laid (t' := tk) (o := .lst (s.map fun c => V.str (sS [c]))) hk (Nat.le_refl _) ⟨by rw [List.length_map]; exact hz, acc.toList, c', signs_vals hacc, by simpa using hS⟩, rfl, q _ (I.hok.fresh (Nat.le_refl _))⟩
theorem call_tupleS (hc : X.calm = true) : CallR X (.type "tuple") (fun xs H Q => ∃ s, xs = [V.str (sS s)] ∧ s.length ≤ LIM ∧ ∀ p, H p = none → Q (.ref p) (upd H p (.tup (s.map fun c => V.str (sS [c]))))) := by
  intro pins st σ H xs us Q I r h
  obtain ⟨s, rfl, hl, q⟩ := h
  obtain ⟨u, rfl, t, rfl⟩ := vals1 r
  have hz : s.length ≤ sizeLine := by rw [← lim_line]; exact hl
  refine PySem.call_tuple_str (I.ok.hd hc) _ t (fun h' tk acc hk hacc => ?_) (by simpa [sS] using hz)
  have I' := I.kept (h' := h') (t' := tk) hk
  exact ⟨.ref h'.objs.size, _, I'.laid (t' := tk) (o := .tup (s.map fun c => V.str (sS [c]))) (fun b u e => Heap.get?_push_of_some _ e) (Nat.le_refl _) ⟨by rw [List.length_map]; exact hz, acc.toList, signs_vals hacc, ⟨_, Heap.get?_push_size _ rfl, rfl, _, rfl⟩⟩, rfl, q _ (I'.hok.fresh (Nat.le_refl _))⟩
theorem biv_list (hc : X.calm = true) (P : Sys) : CallR X (.type "list") (rVal X.K (biD P .list)) := by
  refine CallR.by fun H W xs ds z hW h hz => ?_
  match ds, hz, h with
  | [.lst ys], hz, h =>
    obtain ⟨v, rfl, hc2⟩ := one_of (ds := []) h
    obtain ⟨a, vs, rfl, e, rr⟩ := hc2
    cases hz
    exact ⟨_, call_list_of, fun Q q => ⟨a, vs, rfl, .inl (.inl (.inl e)), fun p hp => q _ _ (.list hp rr)⟩⟩
  | [.tup ys], hz, h =>
    obtain ⟨v, rfl, hc2⟩ := one_of (ds := []) h
    cases hz
    simp only [Cn, Rp] at hc2
    obtain ⟨a, vs, rfl, e, rr⟩ := hc2
    exact ⟨_, call_list_of, fun Q q => ⟨a, vs, rfl, .inr e.sq, fun p hp => q _ _ (.list hp rr)⟩⟩
  | [.str s], hz, h =>
    obtain ⟨v, rfl, hc2⟩ := one_of (ds := []) h
    simp only [biD] at hz
    split at hz
    · rename_i hl
      cases hz; cases hc2
      exact ⟨_, call_listS hc, fun Q q => ⟨s, rfl, hl, fun p hp => q _ _ (.list hp (chars_rp s))⟩⟩
    · cases hz
theorem biv_tuple (hc : X.calm = true) (P : Sys) : CallR X (.type "tuple") (rVal X.K (biD P .tuple)) := by
  refine CallR.by fun H W xs ds z hW h hz => ?_
  match ds, hz, h with
  | [.str s], hz, h =>
    obtain ⟨v, rfl, hc2⟩ := one_of (ds := []) h
    simp only [biD] at hz
    split at hz
    · rename_i hl
      cases hz; cases hc2
      exact ⟨_, call_tupleS hc, fun Q q => ⟨s, rfl, hl, fun p hp => q _ _ (.tuple hW hp (chars_rp s))⟩⟩
    · cases hz
  | [.lst ys], hz, h =>
    obtain ⟨v, rfl, hc⟩ := one_of (ds := []) h
    obtain ⟨a, vs, rfl, e, rr⟩ := hc
    cases hz
    exact ⟨_, call_tuple_of, fun Q q => ⟨a, vs, rfl, .inl ⟨.inl (.inl e), fun p hp => q _ _ (.tuple hW hp rr)⟩⟩⟩
  | [.tup ys], hz, h =>
    obtain ⟨v, rfl, hc⟩ := one_of (ds := []) h
    cases hz
    have g := hc
    simp only [Cn, Rp] at hc
    obtain ⟨a, vs, rfl, e, rr⟩ := hc
    exact ⟨_, call_tuple_of, fun Q q => ⟨a, vs, rfl, .inr ⟨e.sq, q _ _ (.same g)⟩⟩⟩
end
end Pv
namespace Pv
open PySem PySem.Spec PyProof.Rows L2
section
variable {X : Cx}
theorem MtR.by {id : String} {g : D → List D → Option (D × Bool)}
    (h : ∀ (H : Hp) (W : Addr → Prop) (x : V) (xs : List V) (d : D) (ds : List D) (z : D × Bool), (∀ b, W b → H b ≠ none) → Cn X.K H W d x → CnL X.K H W ds xs → g d ds = some z →
      ∃ r, MtR X id r ∧ ∀ Q : VK, (∀ H' v, NewR X.K H W H' v z → Q v H') → r x xs H Q) : MtR X id (fun x xs H Q => rVal X.K (fun ds => match ds with | d :: ds => g d ds | [] => none) (x :: xs) H Q) := by
  intro pins s σ H x xs v us Q I rx rs q
  obtain ⟨W, ds, z, hW, hc, hf, q⟩ := q
  obtain ⟨d, es, rfl, h1, h2⟩ := hc.vcons
  obtain ⟨r', hr, hq⟩ := h H W x xs d es z hW h1 h2 hf
  exact hr pins s σ H x xs v us Q I rx rs (hq Q q)
theorem foldl_join (sep : List Nat) : ∀ (r : List (List Nat)) (acc : Array Nat), ((r.map sS).foldl (fun acc p => acc ++ (sS sep).cps ++ p.cps) acc) = acc ++ ((r.map fun t => sep ++ t).flatten).toArray
  | [], acc => by simp
  | t :: r, acc => by
    rw [List.map_cons, List.foldl_cons, foldl_join sep r]
    simp [sS, Array.append_assoc]
theorem joinS_eq (sep : List Nat) : ∀ (t : List Nat) (r : List (List Nat)), joinS sep (t :: r) = t ++ (r.map fun t => sep ++ t).flatten
  | t, [] => by simp [joinS]
  | t, u :: r => by
    rw [joinS, joinS_eq sep u r]
    simp
theorem txt_join (sep : List Nat) (ts : List (List Nat)) : Txt.join (sS sep) (ts.map sS) = sS (joinS sep ts) := by
  unfold Txt.join Builtin.Str.glued
  cases ts with
  | nil => rfl
  | cons t r =>
    show Str.mk _ = Str.mk _
    congr 1
    rw [List.map_cons, List.drop_succ_cons, List.drop_zero, foldl_join, joinS_eq]
    simp [sS]
theorem mtv_join (P : Sys) : MtR X "str.join" (fun x xs H Q => rVal X.K (fun ds => match ds with | d :: ds => mtD P .join d ds | [] => none) (x :: xs) H Q) := by
  refine MtR.by fun H W x xs d ds z hW h1 h2 hz => ?_
  match d, ds, hz, h1, h2 with
  | .str s, [.lst ys], hz, h1, h2 =>
    cases h1
    obtain ⟨v, rfl, a, vs, rfl, e, rr⟩ := one_of (ds := []) h2
    simp only [mtD] at hz
    cases q : strsOf ys with
    | none => rw [q] at hz; cases hz
    | some ts =>
      rw [q, Option.bind_some] at hz
      split at hz
      · rename_i hl
        cases hz
        refine ⟨_, mt_join, fun Q q' => ⟨sS s, a, ts.map sS, rfl, rfl, .inl (.inl (.inl ?_)), ?_, ?_⟩⟩
        · rw [← strsOf_rp rr q]; exact e
        · rw [List.map_map, List.length_map, sS_len]
          have ef : ((fun x : Str => x.length) ∘ sS) = fun t : List Nat => t.length := funext fun t => sS_len t
          rw [ef]
          exact hl
        · rw [txt_join]
          exact q' _ _ (.same (str_rp _))
      · cases hz
theorem sub_at (s x : List Nat) (i : Nat) : Builtin.Str.subAt (sS s) (sS x) i = ((s.drop i).take x.length == x) := by
  rw [PySem.StrLaws.subAt_eq, sS_len]
theorem mtv_startswith (P : Sys) : MtR X "str.startswith" (fun x xs H Q => rVal X.K (fun ds => match ds with | d :: ds => mtD P .startswith d ds | [] => none) (x :: xs) H Q) := by
  refine MtR.by fun H W x xs d ds z hW h1 h2 hz => ?_
  match d, ds, hz, h1, h2 with
  | .str s, [.str t], hz, h1, h2 =>
    cases h1
    obtain ⟨v, rfl, hc⟩ := one_of (ds := []) h2
    cases hc; cases hz
    refine ⟨_, mt_startswith, fun Q q' => ⟨sS s, sS t, rfl, rfl, ?_⟩⟩
    have e : Txt.startswith (sS s) (sS t) = (decide (t.length ≤ s.length) && (s.take t.length == t)) := by
      unfold Txt.startswith
      rw [sub_at, sS_len, sS_len, Nat.zero_add, List.drop_zero]
    rw [e]
    exact q' _ _ (.same (bl_rp _))
theorem mtv_endswith (P : Sys) : MtR X "str.endswith" (fun x xs H Q => rVal X.K (fun ds => match ds with | d :: ds => mtD P .endswith d ds | [] => none) (x :: xs) H Q) := by
  refine MtR.by fun H W x xs d ds z hW h1 h2 hz => ?_
  match d, ds, hz, h1, h2 with
  | .str s, [.str t], hz, h1, h2 =>
    cases h1
    obtain ⟨v, rfl, hc⟩ := one_of (ds := []) h2
    cases hc; cases hz
    refine ⟨_, mt_endswith, fun Q q' => ⟨sS s, sS t, rfl, rfl, ?_⟩⟩
    have e : Txt.endswith (sS s) (sS t) = (decide (t.length ≤ s.length) && ((s.drop (s.length - t.length)).take t.length == t)) := by
      unfold Txt.endswith
      rw [sub_at, sS_len, sS_len, Nat.zero_add]
    rw [e]
    exact q' _ _ (.same (bl_rp _))
/-- how often a row stands in a text, as the library has it -/
def cntStr (x s : List Nat) : Nat := (Builtin.Str.occurrences (sS s) (sS x) 0 (sS s).length ((sS s).length + 1)).length
theorem mtv_count (P : Sys) (hP : P.cnt = cntStr) : MtR X "str.count" (fun x xs H Q => rVal X.K (fun ds => match ds with | d :: ds => mtD P .count d ds | [] => none) (x :: xs) H Q) := by
  refine MtR.by fun H W x xs d ds z hW h1 h2 hz => ?_
  match d, ds, hz, h1, h2 with
  | .str s, [.str t], hz, h1, h2 =>
    cases h1
    obtain ⟨v, rfl, hc⟩ := one_of (ds := []) h2
    cases hc; cases hz
    refine ⟨_, mt_count, fun Q q' => ⟨sS s, sS t, rfl, rfl, ?_⟩⟩
    rw [hP] at q'
    exact q' _ _ (.same (int_rp _))
theorem flat_v {K : PySem.W.Frag} {H : Hp} {W : Addr → Prop} {d : D} {v : V} (h : flat d = true) (r : Rp K H W d v) : flatV v = true := by
  cases d <;> first
    | (simp [flat] at h; done)
    | (cases r; rfl)
theorem flat_eq {K : PySem.W.Frag} {H : Hp} {W : Addr → Prop} {d e : D} {v u : V} (h : flat d = true) (g : flat e = true) (r : Rp K H W d v) (s : Rp K H W e u) : eqV v u = eqD d e := by
  cases d <;> first
    | (simp [flat] at h; done)
    | (cases e <;> first
        | (simp [flat] at g; done)
        | (cases r; cases s; simp only [eqV, eqD, sS_beq]; done)
        | (cases r; cases s; simp [eqV, eqD]; done))
theorem flats_v {K : PySem.W.Frag} {H : Hp} {W : Addr → Prop} : ∀ {xs : List D} {vs : List V}, xs.all flat = true → RpL K H W xs vs → vs.all flatV = true
  | [], vs, _, r => by cases r.nil_inv; rfl
  | x :: xs, us, h, r => by
    obtain ⟨v, vs, rfl, r1, r2⟩ := r.cons_inv
    simp only [List.all_cons, Bool.and_eq_true] at h ⊢
    exact ⟨flat_v h.1 r1, flats_v h.2 r2⟩

theorem IxR.by {g : D → D → Option D}
    (h : ∀ (H : Hp) (W : Addr → Prop) (x y : V) (a b : D) (z : D), (∀ b, W b → H b ≠ none) → Cn X.K H W a x → Cn X.K H W b y → g a b = some z →
      ∃ r : R2, IxR X r ∧ ∀ Q : VK, (∀ H' v, NewR X.K H W H' v (z, false) → Q v H') → r x y H Q) : IxR X (fun x y => rVal X.K (two fun a b => (g a b).map fun z => (z, false)) [x, y]) := by
  intro value slice pins s σ H x y v u Q I rx ry q hs
  obtain ⟨W, ds, z, hW, hc, hf, q⟩ := q
  obtain ⟨a, b, rfl, h1, h2⟩ := hc.two
  cases e : g a b with
  | none => simp only [two, e] at hf; cases hf
  | some z' =>
    simp only [two, e, Option.map_some, Option.some.injEq] at hf
    subst hf
    obtain ⟨r, hr, hq⟩ := h H W x y a b z' hW h1 h2 e
    exact hr value slice pins s σ H x y v u Q I rx ry (hq Q q) hs
theorem ixn_N (n : Nat) (i : Int) : ixn n i = ixN n i := by
  unfold ixn ixN
  split
  · split <;> rfl
  · split <;> rfl
theorem ati_I {α : Type} (xs : List α) (i : Int) : ati xs i = atI xs i := by
  unfold ati atI
  rw [ixn_N]
theorem RpL.ati {K : PySem.W.Frag} {H : Hp} {W : Addr → Prop} {xs : List D} {vs : List V} {i : Int} {x : D} (r : RpL K H W xs vs) (e : Pv.ati xs i = some x) : ∃ v, atI vs i = some v ∧ Rp K H W x v := by
  rw [ati_I] at e
  unfold atI at e ⊢
  rw [r.length] at e
  cases q : ixN vs.length i with
  | none => rw [q] at e; cases e
  | some j =>
    rw [q, Option.bind_some] at e
    obtain ⟨v, h1, h2⟩ := r.get e
    exact ⟨v, h1, h2⟩
/-- the script, as a list that stands -/
theorem ixv : IxR X (fun x y => rVal X.K (two fun a b => (ixD a b).map fun z => (z, false)) [x, y]) := by
  refine IxR.by fun H W x y a b z hW h1 h2 hz => ?_
  match a, b, hz, h1, h2 with
  | .scr xs, .int i, hz, h1, h2 =>
    cases h2
    simp only [Cn, Rp] at h1
    obtain ⟨p, vs, rfl, hp, r⟩ := h1
    obtain ⟨v, e, rv⟩ := r.ati hz
    exact ⟨_, ix_list, fun Q q => ⟨p, vs, i, v, rfl, rfl, hp.elim (fun z => .inl z.1) .inr, e, q _ _ (.same rv)⟩⟩
  | .lst xs, .int i, hz, h1, h2 =>
    cases h2
    obtain ⟨p, vs, rfl, hp, r⟩ := h1
    obtain ⟨v, e, rv⟩ := r.ati hz
    exact ⟨_, ix_list, fun Q q => ⟨p, vs, i, v, rfl, rfl, .inl (.inl hp), e, q _ _ (.same rv)⟩⟩
  | .tup xs, .int i, hz, h1, h2 =>
    cases h2
    simp only [Cn, Rp] at h1
    obtain ⟨p, vs, rfl, hp, r⟩ := h1
    obtain ⟨v, e, rv⟩ := r.ati hz
    exact ⟨_, ix_tup, fun Q q => ⟨p, vs, i, v, rfl, rfl, hp.sq, e, q _ _ (.same rv)⟩⟩
  | .str s, .int i, hz, h1, h2 =>
    cases h1; cases h2
    simp only [ixD] at hz
    split at hz
    · rename_i hl
      cases e : ati s i with
      | none => rw [e] at hz; cases hz
      | some c =>
        rw [e] at hz
        cases hz
        exact ⟨_, ix_str, fun Q q => ⟨sS s, i, c, rfl, rfl, by rw [sS_len, ← lim_line]; exact hl, by rw [← ati_I]; exact e, q _ _ (.same (str_rp _))⟩⟩
    · cases hz
def notSlice : Expr → Bool
  | .Slice _ _ _ _ => false
  | _ => true
theorem plainIx {b : Expr} (h : notSlice b = true) : PlainIx b := by
  intro o i
  cases b <;> first
    | rfl
    | (simp [notSlice] at h; done)

theorem six_eq (n d : Nat) (o : Option Int) : six n d o = HT.sIx n d o := by
  cases o <;> rfl
theorem rpl_cut {K : PySem.W.Frag} {H : Hp} {W : Addr → Prop} {xs : List D} {vs : List V} (r : RpL K H W xs vs) (lo hi : Option Int) : RpL K H W (cut xs lo hi) (cutV vs lo hi) := by
  unfold cut cutV
  rw [six_eq, six_eq, r.length]
  exact (r.drop _).take _
theorem cut_whole {xs : List D} {lo hi : Option Int} (h1 : HT.sIx xs.length 0 lo = 0) (h2 : HT.sIx xs.length xs.length hi = xs.length) : cut xs lo hi = xs := by
  unfold cut
  rw [six_eq, six_eq, h1, h2]
  simp
/-- a slice by values -/
def rSlV (K : PySem.W.Frag) : V → Option Int → Option Int → Hp → VK → Prop := fun x lo hi H Q =>
  ∃ (W : Addr → Prop) (d : D) (z : D × Bool), (∀ b, W b → H b ≠ none) ∧ Cn K H W d x ∧ slD d lo hi = some z ∧ ∀ H' v, NewR K H W H' v z → Q v H'
theorem slv : SlR X (rSlV X.K) := by
  intro pins s σ H x v vl vu lo hi sl Q I rx hs pl pu h
  obtain ⟨W, d, z, hW, hc, hf, q⟩ := h
  cases d with
  | lst xs =>
    cases hf
    obtain ⟨a, vs, rfl, e, r⟩ := hc
    exact sl_list pins s σ H _ v vl vu lo hi sl Q I rx hs pl pu ⟨a, vs, rfl, .inl (.inl e), fun p hp => q _ _ (.list hp (rpl_cut r lo hi))⟩
  | tup xs =>
    cases hf
    have g := hc
    simp only [Cn, Rp] at hc
    obtain ⟨a, vs, rfl, e, r⟩ := hc
    refine sl_tupA pins s σ H _ v vl vu lo hi sl Q I rx hs pl pu ⟨a, vs, rfl, e.sq, fun hw => q _ _ (.same ?_), fun _ p hp => q _ _ (.tuple hW hp (rpl_cut r lo hi))⟩
    rw [← r.length] at hw
    rw [cut_whole hw.1 hw.2]
    exact g
  | str t =>
    simp only [slD] at hf
    split at hf
    · rename_i hl
      cases hf; cases hc
      refine sl_str pins s σ H _ v vl vu lo hi sl Q I rx hs pl pu ⟨sS t, rfl, by rw [sS_len, ← lim_line]; exact hl, ?_⟩
      have e : cutS (sS t) lo hi = sS (cut t lo hi) := by
        unfold cutS cut
        rw [sS_len, six_eq, six_eq]
      rw [e]
      exact q _ _ (.same (str_rp _))
    · cases hf
  | _ => cases hf

theorem tru_v {K : PySem.W.Frag} {H : Hp} {W : Addr → Prop} {d : D} {v : V} {b : Bool} (h : Cn K H W d v) (e : truth d = some b) : TruV K v H b := by
  cases d with
  | non => cases h; cases e; rfl
  | bl x => cases h; cases e; rfl
  | int i => cases h; cases e; rfl
  | str s =>
    cases h
    simp only [truth] at e
    split at e
    · rename_i hl
      cases e
      refine ⟨by rw [sS_len, ← lim_line]; exact hl, ?_⟩
      rw [sS_len]
      cases s with
      | nil => rfl
      | cons x r =>
        simp
        omega
    · cases e
  | tup xs =>
    simp only [Cn, Rp] at h
    obtain ⟨a, vs, rfl, hp, r⟩ := h
    cases e
    refine .inr (.inl ⟨vs, hp.sq, ?_⟩)
    cases xs with
    | nil => cases r.nil_inv; rfl
    | cons x xs => obtain ⟨v, us, rfl, _, _⟩ := r.cons_inv; rfl
  | lst xs =>
    obtain ⟨a, vs, rfl, hp, r⟩ := h
    cases e
    refine .inl ⟨vs, .inl (.inl hp), ?_⟩
    cases xs with
    | nil => cases r.nil_inv; rfl
    | cons x xs => obtain ⟨v, us, rfl, _, _⟩ := r.cons_inv; rfl
  | _ => cases e

def Ty.name : Ty → String
  | .int => "int"
  | .str => "str"
  | .bool => "bool"
  | .tuple => "tuple"
  | .list => "list"
  | .dict => "dict"
  | .set => "set"
  | .cls _ => "object"
def Ty.blt : Ty → Bool
  | .cls _ => false
  | _ => true
def tyName : D → Option String
  | .non => some "NoneType"
  | .bl _ => some "bool"
  | .int _ => some "int"
  | .str _ => some "str"
  | .tup _ => some "tuple"
  | .lst _ => some "list"
  | .dic _ _ => some "dict"
  | .scr _ => some "list"
  | _ => none
theorem tyX_of {K : PySem.W.Frag} {H : Hp} {W : Addr → Prop} {d : D} {v : V} (h : Cn K H W d v) (n : String) (e : tyName d = some n) : TyX K H v (.type n) := by
  cases d <;> first
    | (cases e; done)
    | skip
  · cases h; cases e; exact .base .non
  · cases h; cases e; exact .base (.bl _)
  · cases h; cases e; exact .base (.int _)
  · cases h; cases e; exact .base (.str _)
  · simp only [Cn, Rp] at h
    obtain ⟨a, vs, rfl, hp, r⟩ := h
    cases e
    rcases hp with ⟨hp | ⟨o, hp⟩, _⟩ | ⟨o, its, n, hp, hc, _⟩
    · exact .base (.tup hp)
    · exact .fTuple hp
    · exact .kTuple hp hc
  · obtain ⟨a, vs, rfl, hp, r⟩ := h
    cases e
    exact .base (.lst hp)
  · obtain ⟨a, kvs, rfl, hp, _, r⟩ := h
    cases e
    rcases hp with hp | ⟨o, hp⟩
    · exact .base (.dK hp)
    · exact .fDict hp
  · simp only [Cn, Rp] at h
    obtain ⟨a, vs, rfl, hp, r⟩ := h
    cases e
    rcases hp with ⟨hp | ⟨o, hp⟩, _⟩ | ⟨o, its, n, hp, hc, _⟩
    · exact .base (.lst hp)
    · exact .base (.frz hp)
    · exact .kList hp hc
def kitR (a : String) (t : Ty) : Bool :=
  match t with
  | .int => a == "int" || a == "bool"
  | t => a == t.name
theorem kit_all : (["NoneType", "bool", "int", "str", "tuple", "list", "dict"].all fun a => [Ty.int, .str, .bool, .tuple, .list, .dict, .set].all fun t => kitB a t.name == some (kitR a t)) = true := by decide +kernel
theorem kit_d {K : PySem.W.Frag} {d : D} {n : String} (e : tyName d = some n) (t : Ty) (ht : t.blt = true) : PySem.W.kitOne K (.type n) (.type t.name) = some (isTy d t) := by
  have hn : n ∈ ["NoneType", "bool", "int", "str", "tuple", "list", "dict"] := by
    cases d <;> first
      | (cases e; done)
      | (cases e; decide)
  have k : kitB n t.name = some (kitR n t) := by
    have h1 := List.all_eq_true.mp kit_all n hn
    have h2 := List.all_eq_true.mp h1 t (by cases t <;> first | (cases ht; done) | decide)
    simpa using h2
  refine kit_ty (k.trans ?_)
  cases d <;> first
    | (cases e; done)
    | (cases e; cases t <;> first | (cases ht; done) | rfl | decide)
end
end Pv
namespace Pv
open PySem PySem.Spec PyProof.Rows L2

theorem Res.bind_ok_iff {α β : Type} {x : Res α} {f : α → Env → Res β} {b : β} {r : Env} : x.bind f = .ok b r ↔ ∃ a r1, x = .ok a r1 ∧ f a r1 = .ok b r := by
  cases x with
  | ok a r1 => exact ⟨fun h => ⟨a, r1, rfl, h⟩, fun ⟨_, _, e, h⟩ => by cases e; exact h⟩
  | exc x r1 => exact ⟨fun h => (nomatch h), fun ⟨_, _, e, _⟩ => nomatch e⟩
  | no => exact ⟨fun h => (nomatch h), fun ⟨_, _, e, _⟩ => nomatch e⟩
theorem opt_ok_iff {α β : Type} {x : Option α} {f : α → Res β} {b : β} {r : Env} : opt x f = .ok b r ↔ ∃ a, x = some a ∧ f a = .ok b r := by
  cases x with
  | some a => exact ⟨fun h => ⟨a, rfl, h⟩, fun ⟨_, e, h⟩ => by cases e; exact h⟩
  | none => exact ⟨fun h => (nomatch h), fun ⟨_, e, _⟩ => nomatch e⟩

section
variable {K : PySem.W.Frag} {σ : L2.St} {H H1 H2 H' : Hp} {O O1 O2 : List Addr} {B B1 B2 : List (Option Addr)} {r r1 r2 : Env}
/-- an operation's end -/
theorem Tr.fin {z : D × Bool} {v : V} (h0 : SR K H O B r σ) (t : Tr K σ H O B r H2 O2 B2 r2) (hn : NewR K H2 (OW O2 B2) H' v z) : ∃ O', Tr K σ H O B r H' O' B2 r2 ∧ VR K σ O H' O' B2 z v := by
  have t' := t.back h0
  have le : ∀ b, OW O B2 b → OW O2 B2 b := fun b hb => hb.imp (fun m => (t.ko b m).2) id
  have nref : ∀ {H3 : Hp} {W}, Rp K H3 W z.1 v → ∀ i, z.1 ≠ .ref i := fun {H3 W} rp i e => by
    rw [e] at rp
    simp only [Rp] at rp
  have plainV : ∀ {H3 : Hp}, z.2 = false → Rp K H3 (OW O2 B2) z.1 v → VR K σ O H3 O B2 z v := fun {H3} hf rp => by
    have rp' : Rp K H3 (OW O B2) z.1 v := rp.evo (Evo.refl.less le)
    unfold VR
    rw [if_neg (by rw [hf]; exact fun z => nomatch z)]
    refine ⟨rfl, ?_⟩
    obtain ⟨d, f⟩ := z
    cases d <;> first
      | exact rp'
      | exact absurd rfl (nref rp _)
  rcases hn with ⟨hf, rfl, rp⟩ | ⟨hf, p, o, hp, rfl, rp⟩ | ⟨hf, p, o, hp, rfl, rfl, ob⟩
  · exact ⟨O, t', plainV hf rp⟩
  · exact ⟨O, t'.trans (Tr.new t'.sr hp), plainV hf rp⟩
  · have tn := Tr.newO (o := o) t'.sr hp
    refine ⟨p :: O, t'.trans tn, ?_⟩
    unfold VR
    rw [if_pos hf]
    refine ⟨p, rfl, rfl, fun m => t'.sr.dom p (.inl m) hp, ?_⟩
    obtain ⟨d, f⟩ := z
    have ev : Evo H2 (OW O2 B2) (upd H2 p o) (OW (p :: O) B2) := (Evo.refl.less le).trans tn.evo
    cases d <;> cases o <;> first
      | exact ob.elim
      | (refine ⟨_, upd_same, RpL.evo ev ob⟩; done)
      | (refine ⟨_, upd_same, ob.1, RpL.evo ev ob.2⟩; done)
/-- a plain value as it stands -/
theorem Tr.val {d : D} {v : V} (h0 : SR K H O B r σ) (t : Tr K σ H O B r H2 O2 B2 r2) (rp : Rp K H2 (OW O2 B2) d v) : ∃ O', Tr K σ H O B r H2 O' B2 r2 ∧ VR K σ O H2 O' B2 (d, false) v :=
  t.fin h0 (.same rp)

def rdE (K : PySem.W.Frag) (F : Env → Res (D × Bool)) : TE := fun σ H Q => ∃ O B r x r', SR K H O B r σ ∧ F r = .ok x r' ∧ ∀ v H' O' B', Tr K σ H O B r H' O' B' r' → VR K σ O H' O' B' x v → Q v H'
def rdT (K : PySem.W.Frag) (F : Env → Res Bool) : TT := fun σ H Q => ∃ O B r b r', SR K H O B r σ ∧ F r = .ok b r' ∧ ∀ H' B', Tr K σ H O B r H' O B' r' → Q b H'
def rdO (K : PySem.W.Frag) (F : Env → Res (Option Int)) : TO := fun σ H Q => ∃ O B r b r', SR K H O B r σ ∧ F r = .ok b r' ∧ ∀ H' B', Tr K σ H O B r H' O B' r' → Q b H'
def LVL (K : PySem.W.Frag) (σ : L2.St) (O : List Addr) (H' : Hp) (O' : List Addr) (B' : List (Option Addr)) : List (D × Bool) → List V → Prop
  | [], [] => True
  | x :: xs, v :: vs => LV K σ O H' O' B' x v ∧ LVL K σ O H' O' B' xs vs
  | _, _ => False
def rdA (K : PySem.W.Frag) (F : Env → Res (List (D × Bool))) : TA := fun σ H Q => ∃ O B r x r', SR K H O B r σ ∧ F r = .ok x r' ∧ ∀ v H' O' B', Tr K σ H O B r H' O' B' r' → LVL K σ O H' O' B' x v → Q v H'
def rdF (K : PySem.W.Frag) (F : Env → Res (List D)) : TA := fun σ H Q => ∃ O B r x r', SR K H O B r σ ∧ F r = .ok x r' ∧ ∀ v H' B', Tr K σ H O B r H' O B' r' → RpL K H' (OW O B') x v → Q v H'

theorem rdE.go {F : Env → Res (D × Bool)} {x : D × Bool} {Q : VK} (h0 : SR K H O B r σ) (e : F r = .ok x r1) (h : ∀ v H' O' B', Tr K σ H O B r H' O' B' r1 → VR K σ O H' O' B' x v → Q v H') : rdE K F σ H Q := ⟨O, B, r, x, r1, h0, e, h⟩
theorem LVL.step : ∀ {xs : List (D × Bool)} {vs : List V}, LVL K σ O H1 O1 B1 xs vs → Tr K σ H1 O1 B1 r1 H2 O2 B2 r2 → LVL K σ O H2 O2 B2 xs vs
  | [], [], _, _ => trivial
  | x :: xs, v :: vs, h, t => ⟨h.1.step t, LVL.step h.2 t⟩
  | [], _ :: _, h, _ => h.elim
  | _ :: _, [], h, _ => h.elim
theorem LVL.old : ∀ {xs : List (D × Bool)} {vs : List V}, LVL K σ O1 H2 O2 B2 xs vs → (∀ a ∈ O, a ∈ O1) → LVL K σ O H2 O2 B2 xs vs
  | [], [], _, _ => trivial
  | x :: xs, v :: vs, h, t => ⟨h.1.old t, LVL.old h.2 t⟩
  | [], _ :: _, h, _ => h.elim
  | _ :: _, [], h, _ => h.elim
theorem LVL.cn (s : SR K H2 O2 B2 r2 σ) : ∀ {xs : List (D × Bool)} {vs : List V} {ds : List D}, LVL K σ O H2 O2 B2 xs vs → rdAll r2 xs = some ds → CnL K H2 (OW O2 B2) ds vs
  | [], [], ds, _, e => by cases e; trivial
  | (d, f) :: xs, v :: vs, ds, h, e => by
    unfold rdAll at e
    obtain ⟨y, e1, e2⟩ := Option.bind_eq_some_iff.mp e
    obtain ⟨ys, e3, e4⟩ := Option.map_eq_some_iff.mp e2
    subst e4
    exact ⟨h.1.cn s e1, LVL.cn s h.2 e3⟩
  | [], _ :: _, _, h, _ => h.elim
  | _ :: _, [], _, h, _ => h.elim
theorem SR.domW (h : SR K H O B r σ) : ∀ b, OW O B b → H b ≠ none := h.dom
/-- an int is never an object -/
theorem VR.int {i : Int} {f : Bool} {v : V} (h : VR K σ O H1 O1 B1 (.int i, f) v) : v = .int i ∧ O1 = O := by
  unfold VR at h
  cases f with
  | true =>
    obtain ⟨_, _, _, _, ob⟩ := h
    exact ob.elim
  | false => exact ⟨h.2, h.1⟩
/-- what is read at the end of a step from O: all pending ones forgotten -/
theorem Tr.end_ (h0 : SR K H O B r σ) (t : Tr K σ H O B r H2 O2 B2 r2) : Tr K σ H O B r H2 O B2 r2 := t.back h0
end

theorem _root_.L2.PE.imp {X : Cx} {e : Expr} {t t' : TE} (h : PE X e t) (f : ∀ σ H Q, t' σ H Q → t σ H Q) : PE X e t' := ⟨fun pins s σ H Q I q => h.run pins s σ H Q I (f σ H Q q)⟩
theorem _root_.L2.PT.imp {X : Cx} {e : Expr} {t t' : TT} (h : PT X e t) (f : ∀ σ H Q, t' σ H Q → t σ H Q) : PT X e t' := ⟨fun pins s σ H Q I q => h.run pins s σ H Q I (f σ H Q q)⟩
theorem _root_.L2.PW.imp {X : Cx} {e : Expr} {t t' : TT} (h : PW X e t) (f : ∀ σ H Q, t' σ H Q → t σ H Q) : PW X e t' := ⟨fun wh pins s σ H Q I q => h.run wh pins s σ H Q I (f σ H Q q)⟩
theorem _root_.L2.PA.imp {X : Cx} {e : List Expr} {t t' : TA} (h : PA X e t) (f : ∀ σ H Q, t' σ H Q → t σ H Q) : PA X e t' := ⟨fun pos pins s σ H Q I q => h.run pos pins s σ H Q I (f σ H Q q)⟩
theorem _root_.L2.PO.imp {X : Cx} {e : Option Expr} {t t' : TO} (h : PO X e t) (f : ∀ σ H Q, t' σ H Q → t σ H Q) : PO X e t' := ⟨fun pins s σ H Q I q => h.run pins s σ H Q I (f σ H Q q)⟩
theorem _root_.L2.PS.imp {X : Cx} {e : Stmt} {t t' : TS} (h : PS X e t) (f : ∀ D σ H, t' D σ H → t D σ H) : PS X e t' := ⟨fun pins s σ H D I q => h.run pins s σ H D I (f D σ H q)⟩
theorem _root_.L2.PSs.imp {X : Cx} {e : List Stmt} {t t' : TS} (h : PSs X e t) (f : ∀ D σ H, t' D σ H → t D σ H) : PSs X e t' := ⟨fun pins s σ H D I q => h.run pins s σ H D I (f D σ H q)⟩
theorem _root_.L2.PE.never {X : Cx} {e : Expr} {t : TE} (h : ∀ σ H Q, ¬ t σ H Q) : PE X e t := ⟨fun _ _ σ H Q _ q => (h σ H Q q).elim⟩
theorem _root_.L2.PT.never {X : Cx} {e : Expr} {t : TT} (h : ∀ σ H Q, ¬ t σ H Q) : PT X e t := ⟨fun _ _ σ H Q _ q => (h σ H Q q).elim⟩
theorem _root_.L2.PS.never {X : Cx} {e : Stmt} {t : TS} (h : ∀ D σ H, ¬ t D σ H) : PS X e t := ⟨fun _ _ σ H D _ q => (h D σ H q).elim⟩
theorem rdE.no {K : PySem.W.Frag} {F : Env → Res (D × Bool)} (h : ∀ r, F r = .no) : ∀ σ H Q, ¬ rdE K F σ H Q := fun σ H Q ⟨_, _, r, _, _, _, e, _⟩ => by rw [h r] at e; cases e

section
variable {X : Cx} {a b c : Expr} {pos : Pos} {Fa Fb Fc : Env → Res (D × Bool)}
theorem se_var {i : Nat} {x : Str} (hN : X.N[i]? = some x) (hv : Vis X.env.scope x) (hd : (x == ("__debug__" : Str)) = false) (hcd : (x == ("__classdict__" : Str)) = false) (P : Sys) (cl : CL) : PE X (.Name x pos) (rdE X.K (evE P cl (.v i))) := by
  refine (pe_var hN hv hd hcd).imp fun σ H Q h => ?_
  obtain ⟨O, B, r, z, r', h0, e, q⟩ := h
  simp only [evE] at e
  have fin : ∀ {v d}, σ[i]? = some (some v) → (∀ j, d ≠ D.ref j) → Rp X.K H (OW O B) d v → z = (d, false) → r = r' → tVar i σ H Q := fun {v d} hs hn rp ez er => by
    subst ez er
    obtain ⟨O', t, vr⟩ := (Tr.refl h0).val h0 rp
    exact ⟨v, hs, q _ _ _ _ t vr⟩
  split at e
  · rename_i d hd
    cases e
    obtain ⟨_, v, hs, rp⟩ := h0.val i d hd
    exact fin hs (fun j e => by rw [e] at rp; simp only [Rp] at rp) rp rfl rfl
  · rename_i d hd
    cases e
    obtain ⟨a, _, hs, _⟩ := h0.own i d hd
    exact ⟨_, hs, q _ _ _ _ (Tr.refl h0) ⟨rfl, hs⟩⟩
  · rename_i d hd
    cases e
    obtain ⟨_, a, _, hs, _⟩ := h0.lck i d hd
    exact ⟨_, hs, q _ _ _ _ (Tr.refl h0) ⟨rfl, hs⟩⟩
  · cases e
/-- a value that stands whatever the heap -/
theorem se_const {e : Expr} {v : V} {d : D} (hp : PE X e (tC v)) (hr : ∀ (H : Hp) (W : Addr → Prop), Rp X.K H W d v) {F : Env → Res (D × Bool)} (hF : ∀ r, F r = .ok (d, false) r) : PE X e (rdE X.K F) := by
  refine hp.imp fun σ H Q h => ?_
  obtain ⟨O, B, r, z, r', h0, e, q⟩ := h
  rw [hF] at e
  cases e
  obtain ⟨O', t, vr⟩ := (Tr.refl h0).val h0 (hr H (OW O B))
  exact q _ _ _ _ t vr

theorem se_bin (hu : X.A.units < cLine) (o : Op2) (ha : PE X a (rdE X.K Fa)) (hb : PE X b (rdE X.K Fb)) :
    PE X (.BinOp a o.py b pos) (rdE X.K fun r => (Fa r).bind fun x r1 => (Fb r1).bind fun y r2 => opt (rd r2 x.1) fun x' => opt (rd r2 y.1) fun y' => opt (op2 o x' y') fun z => .ok z r2) := by
  refine (pe_op (opv hu o) ha hb).imp fun σ H Q h => ?_
  obtain ⟨O, B, r, z, r', h0, e, q⟩ := h
  obtain ⟨x, r1, e1, e⟩ := Res.bind_ok_iff.mp e
  obtain ⟨y, r2, e2, e⟩ := Res.bind_ok_iff.mp e
  obtain ⟨x', e3, e⟩ := opt_ok_iff.mp e
  obtain ⟨y', e4, e⟩ := opt_ok_iff.mp e
  obtain ⟨z', e5, e⟩ := opt_ok_iff.mp e
  cases e
  refine rdE.go h0 e1 fun v H1 O1 B1 t1 vr1 => rdE.go t1.sr e2 fun u H2 O2 B2 t2 vr2 => ?_
  refine ⟨OW O2 B2, [x', y'], z, t2.sr.dom, ⟨vr1.cn t2 e3, LV.cn t2.sr vr2.lv e4, trivial⟩, e5, fun H' w hn => ?_⟩
  obtain ⟨O', t, vr⟩ := (t1.trans t2).fin h0 hn
  exact q _ _ _ _ t vr
theorem se_neg (ha : PE X a (rdE X.K Fa)) : PE X (.UnaryOp .USub a pos) (rdE X.K fun r => (Fa r).bind fun x r1 => match x.1 with | .int i => .ok (.int (-i), false) r1 | _ => .no) := by
  refine (pe_un un_neg ha).imp fun σ H Q h => ?_
  obtain ⟨O, B, r, z, r', h0, e, q⟩ := h
  obtain ⟨⟨x, fx⟩, r1, e1, e⟩ := Res.bind_ok_iff.mp e
  cases x with
  | int i =>
    cases e
    refine rdE.go h0 e1 fun v H1 O1 B1 t1 vr1 => ?_
    obtain ⟨rfl, _⟩ := vr1.int
    obtain ⟨O', t, vr⟩ := t1.val (d := .int (-i)) (v := .int (-i)) h0 (int_rp _)
    exact ⟨i, rfl, q _ _ _ _ t vr⟩
  | _ => cases e
theorem se_not (ha : PE X a (rdE X.K Fa)) : PE X (.UnaryOp .Not a pos) (rdE X.K fun r => (tru (Fa r)).bind fun b r1 => .ok (.bl (!b), false) r1) := by
  refine (pe_notT ha).imp fun σ H Q h => ?_
  obtain ⟨O, B, r, z, r', h0, e, q⟩ := h
  obtain ⟨k, r1, e1, e⟩ := Res.bind_ok_iff.mp e
  cases e
  obtain ⟨x, r1, e1, e⟩ := Res.bind_ok_iff.mp e1
  obtain ⟨d, e2, e⟩ := opt_ok_iff.mp e
  obtain ⟨k', e3, e⟩ := opt_ok_iff.mp e
  cases e
  refine rdE.go h0 e1 fun v H1 O1 B1 t1 vr1 => ⟨k, tru_v (LV.cn t1.sr vr1.lv e2) e3, ?_⟩
  obtain ⟨O', t, vr⟩ := t1.val (d := .bl (!k)) (v := .bl (!k)) h0 (bl_rp _)
  exact q _ _ _ _ t vr
theorem cmp_z {inS : List Nat → List Nat → Bool} {o : Cm} {x y : D} {k : Bool} (e : cmpD inS o x y = some k) : two (cmpZ inS o) [x, y] = some (.bl k, false) := by
  show (cmpD inS o x y).map _ = _
  rw [e]
  rfl
theorem se_cmp (hu : X.A.units + 100 < cLine) (o : Cm) (ha : PE X a (rdE X.K Fa)) (hb : PE X b (rdE X.K Fb)) (hm : behindInMarks o.py b = false) :
    PE X (.Compare a [o.py] [b] pos) (rdE X.K fun r => (Fa r).bind fun x r1 => (Fb r1).bind fun y r2 => opt (rd r2 x.1) fun x' => opt (rd r2 y.1) fun y' => opt (cmpD inStr o x' y') fun z => .ok (.bl z, false) r2) := by
  refine (pe_cmpR (cmpv hu o) ha hb hm).imp fun σ H Q h => ?_
  obtain ⟨O, B, r, z, r', h0, e, q⟩ := h
  obtain ⟨x, r1, e1, e⟩ := Res.bind_ok_iff.mp e
  obtain ⟨y, r2, e2, e⟩ := Res.bind_ok_iff.mp e
  obtain ⟨x', e3, e⟩ := opt_ok_iff.mp e
  obtain ⟨y', e4, e⟩ := opt_ok_iff.mp e
  obtain ⟨z', e5, e⟩ := opt_ok_iff.mp e
  cases e
  refine rdE.go h0 e1 fun v H1 O1 B1 t1 vr1 => rdE.go t1.sr e2 fun u H2 O2 B2 t2 vr2 => ?_
  refine ⟨OW O2 B2, [x', y'], (.bl z', false), t2.sr.dom, ⟨vr1.cn t2 e3, LV.cn t2.sr vr2.lv e4, trivial⟩, cmp_z e5, fun H' w hn => ?_⟩
  obtain ⟨O', t, vr⟩ := (t1.trans t2).fin h0 hn
  exact q _ _ _ _ t vr
theorem st_cmp (hu : X.A.units + 100 < cLine) (o : Cm) (ha : PE X a (rdE X.K Fa)) (hb : PE X b (rdE X.K Fb)) (hm : behindInMarks o.py b = false) :
    PT X (.Compare a [o.py] [b] pos) (rdT X.K fun r => (Fa r).bind fun x r1 => (Fb r1).bind fun y r2 => opt (rd r2 x.1) fun x' => opt (rd r2 y.1) fun y' => opt (cmpD inStr o x' y') fun z => .ok z r2) := by
  refine (pt_cmpR (cmpv hu o) ha hb hm).imp fun σ H Q h => ?_
  obtain ⟨O, B, r, z, r', h0, e, q⟩ := h
  obtain ⟨x, r1, e1, e⟩ := Res.bind_ok_iff.mp e
  obtain ⟨y, r2, e2, e⟩ := Res.bind_ok_iff.mp e
  obtain ⟨x', e3, e⟩ := opt_ok_iff.mp e
  obtain ⟨y', e4, e⟩ := opt_ok_iff.mp e
  obtain ⟨z', e5, e⟩ := opt_ok_iff.mp e
  cases e
  refine rdE.go h0 e1 fun v H1 O1 B1 t1 vr1 => rdE.go t1.sr e2 fun u H2 O2 B2 t2 vr2 => ?_
  refine ⟨OW O2 B2, [x', y'], (.bl z, false), t2.sr.dom, ⟨vr1.cn t2 e3, LV.cn t2.sr vr2.lv e4, trivial⟩, cmp_z e5, fun H' w hn => ?_⟩
  obtain ⟨O', t, vr⟩ := (t1.trans t2).fin h0 hn
  unfold VR at vr
  rw [if_neg (fun z => nomatch z)] at vr
  obtain ⟨rfl, vr⟩ := vr
  exact ⟨z, vr, q _ _ t⟩
/-- a op b op' c -/
def cmp2F (o p : Cm) (Fa Fb Fc : Env → Res (D × Bool)) : Env → Res (D × Bool) := fun r =>
  (Fa r).bind fun x r1 => (Fb r1).bind fun y r2 => opt (rd r2 x.1) fun x' => opt (rd r2 y.1) fun y' => opt (cmpD inStr o x' y') fun k =>
      if k then (Fc r2).bind fun z r3 => opt (rd r3 y.1) fun y2 => opt (rd r3 z.1) fun z' => opt (cmpD inStr p y2 z') fun k2 => .ok (.bl k2, false) r3 else .ok (.bl false, false) r2
end
end Pv
namespace Pv
open PySem PySem.Spec PyProof.Rows L2
section
variable {K : PySem.W.Frag} {σ : L2.St} {H H1 H2 H' : Hp} {O O1 O2 : List Addr} {B B1 B2 : List (Option Addr)} {r r1 r2 : Env}
/-- a result as a value that is let go on -/
theorem VR.keep {x : D × Bool} {v : V} (h0 : SR K H O B r σ) (t : Tr K σ H O B r H1 O1 B1 r1) (h : VR K σ O H1 O1 B1 x v) : ∃ O', Tr K σ H O B r H1 O' B1 r1 ∧ VR K σ O H1 O' B1 (x.1, false) v := by
  obtain ⟨d, f⟩ := x
  cases f with
  | false => exact ⟨O1, t, h⟩
  | true =>
    unfold VR at h
    rw [if_pos rfl] at h
    obtain ⟨a, rfl, e, na, ob⟩ := h
    have t' := t.back h0
    have ev : Evo H1 (OW O1 B1) H1 (OW O B1) := Evo.refl.less fun b hb => hb.imp (fun m => (t.ko b m).2) id
    have nw : ¬ OW O B1 a := fun z => by
      rcases z with z | z
      · exact na z
      · exact t.sr.dis a (by rw [e]; exact List.mem_cons_self) z
    have rp : Rp K H1 (OW O B1) d (.ref a) := (ob.evo ev rfl).rp nw
    exact Tr.val h0 t' rp
theorem VR.bl {k : Bool} {f : Bool} {v : V} (h : VR K σ O H1 O1 B1 (.bl k, f) v) : v = .bl k ∧ O1 = O := by
  unfold VR at h
  cases f with
  | true =>
    obtain ⟨_, _, _, _, ob⟩ := h
    exact ob.elim
  | false => exact ⟨h.2, h.1⟩
end
section
variable {X : Cx} {a b c : Expr} {pos : Pos} {Fa Fb Fc : Env → Res (D × Bool)}
theorem tru_at {F : Env → Res (D × Bool)} {r r1 : Env} {k : Bool} (e : tru (F r) = .ok k r1) : ∃ x d, F r = .ok x r1 ∧ rd r1 x.1 = some d ∧ truth d = some k := by
  obtain ⟨x, r2, e1, e⟩ := Res.bind_ok_iff.mp e
  obtain ⟨d, e2, e⟩ := opt_ok_iff.mp e
  obtain ⟨k', e3, e⟩ := opt_ok_iff.mp e
  cases e
  exact ⟨x, d, e1, e2, e3⟩
theorem st_val (ha : PE X a (rdE X.K Fa)) (he : ∀ whole, isTrue a X.env whole = (do let v ← whole; standAt a.pos; holding [v] (truthy v))) : PT X a (rdT X.K fun r => tru (Fa r)) := by
  refine (pt_truth ha he).imp fun σ H Q h => ?_
  obtain ⟨O, B, r, k, r', h0, e, q⟩ := h
  obtain ⟨x, d, e1, e2, e3⟩ := tru_at e
  exact rdE.go h0 e1 fun v H1 O1 B1 t1 vr1 => ⟨k, tru_v (LV.cn t1.sr vr1.lv e2) e3, q _ _ (t1.back h0)⟩
theorem st_not {Ta : Env → Res Bool} (ha : PT X a (rdT X.K Ta)) : PT X (.UnaryOp .Not a pos) (rdT X.K fun r => (Ta r).bind fun b r1 => .ok (!b) r1) := by
  refine (pt_not ha).imp fun σ H Q h => ?_
  obtain ⟨O, B, r, k, r', h0, e, q⟩ := h
  obtain ⟨k', r1, e1, e⟩ := Res.bind_ok_iff.mp e
  cases e
  exact ⟨O, B, r, k', r', h0, e1, fun H' B' t => q _ _ t⟩
def andF (Fa Fb : Env → Res (D × Bool)) : Env → Res (D × Bool) := fun r => (Fa r).bind fun d r1 => opt (rd r1 d.1) fun x => opt (truth x) fun b => if b then Fb r1 else .ok (d.1, false) r1
def orF (Fa Fb : Env → Res (D × Bool)) : Env → Res (D × Bool) := fun r => (Fa r).bind fun d r1 => opt (rd r1 d.1) fun x => opt (truth x) fun b => if b then .ok (d.1, false) r1 else Fb r1
def andT (Ta Tb : Env → Res Bool) : Env → Res Bool := fun r => (Ta r).bind fun b r1 => if b then Tb r1 else .ok false r1
def orT (Ta Tb : Env → Res Bool) : Env → Res Bool := fun r => (Ta r).bind fun b r1 => if b then .ok true r1 else Tb r1
variable {es : List Expr}
theorem se_and (ha : PE X a (rdE X.K Fa)) (hb : PE X (.BoolOp .And (b :: es) pos) (rdE X.K Fb)) : PE X (.BoolOp .And (a :: b :: es) pos) (rdE X.K (andF Fa Fb)) := by
  refine (pe_andT ha hb).imp fun σ H Q h => ?_
  obtain ⟨O, B, r, z, r', h0, e, q⟩ := h
  obtain ⟨x, r1, e1, e⟩ := Res.bind_ok_iff.mp e
  obtain ⟨d, e2, e⟩ := opt_ok_iff.mp e
  obtain ⟨k, e3, e⟩ := opt_ok_iff.mp e
  refine rdE.go h0 e1 fun v H1 O1 B1 t1 vr1 => ⟨k, tru_v (LV.cn t1.sr vr1.lv e2) e3, ?_⟩
  cases k with
  | true =>
    rw [if_pos rfl] at e ⊢
    have t1' := t1.back h0
    exact rdE.go t1'.sr e fun v H2 O2 B2 t2 vr2 => q _ _ _ _ (t1'.trans t2) vr2
  | false =>
    rw [if_neg Bool.false_ne_true] at e ⊢
    cases e
    obtain ⟨O', t, vr⟩ := vr1.keep h0 t1
    exact q _ _ _ _ t vr
theorem se_or (ha : PE X a (rdE X.K Fa)) (hb : PE X (.BoolOp .Or (b :: es) pos) (rdE X.K Fb)) : PE X (.BoolOp .Or (a :: b :: es) pos) (rdE X.K (orF Fa Fb)) := by
  refine (pe_orT ha hb).imp fun σ H Q h => ?_
  obtain ⟨O, B, r, z, r', h0, e, q⟩ := h
  obtain ⟨x, r1, e1, e⟩ := Res.bind_ok_iff.mp e
  obtain ⟨d, e2, e⟩ := opt_ok_iff.mp e
  obtain ⟨k, e3, e⟩ := opt_ok_iff.mp e
  refine rdE.go h0 e1 fun v H1 O1 B1 t1 vr1 => ⟨k, tru_v (LV.cn t1.sr vr1.lv e2) e3, ?_⟩
  cases k with
  | false =>
    rw [if_neg Bool.false_ne_true] at e ⊢
    have t1' := t1.back h0
    exact rdE.go t1'.sr e fun v H2 O2 B2 t2 vr2 => q _ _ _ _ (t1'.trans t2) vr2
  | true =>
    rw [if_pos rfl] at e ⊢
    cases e
    obtain ⟨O', t, vr⟩ := vr1.keep h0 t1
    exact q _ _ _ _ t vr
variable {Ta Tb Tc : Env → Res Bool}
theorem st_and (ha : PT X a (rdT X.K Ta)) (hb : PW X (.BoolOp .And (b :: es) pos) (rdT X.K Tb)) : PW X (.BoolOp .And (a :: b :: es) pos) (rdT X.K (andT Ta Tb)) := by
  refine (pw_and ha hb).imp fun σ H Q h => ?_
  obtain ⟨O, B, r, z, r', h0, e, q⟩ := h
  obtain ⟨k, r1, e1, e⟩ := Res.bind_ok_iff.mp e
  refine ⟨O, B, r, k, r1, h0, e1, fun H1 B1 t1 => ?_⟩
  cases k with
  | true =>
    rw [if_pos rfl] at e ⊢
    exact ⟨O, B1, r1, z, r', t1.sr, e, fun H2 B2 t2 => q _ _ (t1.trans t2)⟩
  | false =>
    rw [if_neg Bool.false_ne_true] at e ⊢
    cases e
    exact q _ _ t1
theorem st_or (ha : PT X a (rdT X.K Ta)) (hb : PW X (.BoolOp .Or (b :: es) pos) (rdT X.K Tb)) : PW X (.BoolOp .Or (a :: b :: es) pos) (rdT X.K (orT Ta Tb)) := by
  refine (pw_or ha hb).imp fun σ H Q h => ?_
  obtain ⟨O, B, r, z, r', h0, e, q⟩ := h
  obtain ⟨k, r1, e1, e⟩ := Res.bind_ok_iff.mp e
  refine ⟨O, B, r, k, r1, h0, e1, fun H1 B1 t1 => ?_⟩
  cases k with
  | false =>
    rw [if_neg Bool.false_ne_true] at e ⊢
    exact ⟨O, B1, r1, z, r', t1.sr, e, fun H2 B2 t2 => q _ _ (t1.trans t2)⟩
  | true =>
    rw [if_pos rfl] at e ⊢
    cases e
    exact q _ _ t1
theorem se_ife (hc : PT X c (rdT X.K Tc)) (ha : PE X a (rdE X.K Fa)) (hb : PE X b (rdE X.K Fb)) : PE X (.IfExp c a b pos) (rdE X.K fun r => (Tc r).bind fun k r1 => if k then Fa r1 else Fb r1) := by
  refine (pe_ifExp hc ha hb).imp fun σ H Q h => ?_
  obtain ⟨O, B, r, z, r', h0, e, q⟩ := h
  obtain ⟨k, r1, e1, e⟩ := Res.bind_ok_iff.mp e
  refine ⟨O, B, r, k, r1, h0, e1, fun H1 B1 t1 => ?_⟩
  cases k with
  | true =>
    rw [if_pos rfl] at e ⊢
    exact rdE.go t1.sr e fun v H2 O2 B2 t2 vr2 => q _ _ _ _ (t1.trans t2) vr2
  | false =>
    rw [if_neg Bool.false_ne_true] at e ⊢
    exact rdE.go t1.sr e fun v H2 O2 B2 t2 vr2 => q _ _ _ _ (t1.trans t2) vr2
/-- the test of a if c else b -/
theorem pt_ifExp {tc ta tb : TT} (hc : PT X c tc) (ha : PT X a ta) (hb : PT X b tb) : PT X (.IfExp c a b pos) (fun σ H Q => tc σ H fun k H1 => if k = true then ta σ H1 Q else tb σ H1 Q) := by
  refine ⟨fun pins s σ H Q I h => ?_⟩
  show wpAny _ _ (do if ← isTrue c X.env (eval c X.env) then isTrue a X.env (eval a X.env) else isTrue b X.env (eval b X.env)) _ _ s
  refine wpAny_bind (thn (hc.run pins s σ H _ I h) fun k s1 ⟨H1, I1, q1⟩ => ?_)
  cases k with
  | true =>
    rw [if_pos rfl] at q1
    exact ha.run pins s1 σ H1 Q I1 q1
  | false =>
    rw [if_neg Bool.false_ne_true] at q1
    exact hb.run pins s1 σ H1 Q I1 q1
theorem st_ife (hc : PT X c (rdT X.K Tc)) (ha : PT X a (rdT X.K Ta)) (hb : PT X b (rdT X.K Tb)) : PT X (.IfExp c a b pos) (rdT X.K fun r => (Tc r).bind fun k r1 => if k then Ta r1 else Tb r1) := by
  refine (pt_ifExp hc ha hb).imp fun σ H Q h => ?_
  obtain ⟨O, B, r, z, r', h0, e, q⟩ := h
  obtain ⟨k, r1, e1, e⟩ := Res.bind_ok_iff.mp e
  refine ⟨O, B, r, k, r1, h0, e1, fun H1 B1 t1 => ?_⟩
  cases k with
  | true =>
    rw [if_pos rfl] at e ⊢
    exact ⟨O, B1, r1, z, r', t1.sr, e, fun H2 B2 t2 => q _ _ (t1.trans t2)⟩
  | false =>
    rw [if_neg Bool.false_ne_true] at e ⊢
    exact ⟨O, B1, r1, z, r', t1.sr, e, fun H2 B2 t2 => q _ _ (t1.trans t2)⟩

theorem chain_red {o p : Cm} {Q : VK} {σ : L2.St} {H : Hp} {O : List Addr} {B : List (Option Addr)} {r r' : Env} {k : Bool} (h0 : SR X.K H O B r σ)
    (e : cmp2F o p Fa Fb Fc r = .ok (.bl k, false) r') (q : ∀ H' B', Tr X.K σ H O B r H' O B' r' → Q (.bl k) H') :
    tChain (fun x y => rVal X.K (two (cmpZ inStr o)) [x, y]) (fun x y => rVal X.K (two (cmpZ inStr p)) [x, y]) (rdE X.K Fa) (rdE X.K Fb) (rdE X.K Fc) σ H Q := by
  obtain ⟨x, r1, e1, e⟩ := Res.bind_ok_iff.mp e
  obtain ⟨y, r2, e2, e⟩ := Res.bind_ok_iff.mp e
  obtain ⟨x', e3, e⟩ := opt_ok_iff.mp e
  obtain ⟨y', e4, e⟩ := opt_ok_iff.mp e
  obtain ⟨k1, e5, e⟩ := opt_ok_iff.mp e
  refine rdE.go h0 e1 fun v H1 O1 B1 t1 vr1 => rdE.go t1.sr e2 fun u H2 O2 B2 t2 vr2 => ?_
  refine ⟨OW O2 B2, [x', y'], (.bl k1, false), t2.sr.dom, ⟨vr1.cn t2 e3, LV.cn t2.sr vr2.lv e4, trivial⟩, cmp_z e5, fun H3 w hn => ?_⟩
  obtain ⟨O3, t3, vr3⟩ := Tr.fin t2.sr (Tr.refl t2.sr) hn
  obtain ⟨rfl, rfl⟩ := vr3.bl
  refine ⟨k1, rfl, ?_⟩
  cases k1 with
  | false =>
    rw [if_neg Bool.false_ne_true] at e ⊢
    cases e
    exact q _ _ (((t1.trans t2).trans t3).back h0)
  | true =>
    rw [if_pos rfl] at e ⊢
    obtain ⟨z, r3, e6, e⟩ := Res.bind_ok_iff.mp e
    obtain ⟨y2, e7, e⟩ := opt_ok_iff.mp e
    obtain ⟨z', e8, e⟩ := opt_ok_iff.mp e
    obtain ⟨k2, e9, e⟩ := opt_ok_iff.mp e
    cases e
    refine rdE.go t3.sr e6 fun w H4 O4 B4 t4 vr4 => ?_
    have ly := (vr2.lv.step t3).step t4
    refine ⟨OW O4 B4, [y2, z'], (.bl k, false), t4.sr.dom, ⟨ly.cn t4.sr e7, LV.cn t4.sr vr4.lv e8, trivial⟩, cmp_z e9, fun H5 w5 hn5 => ?_⟩
    obtain ⟨O5, t5, vr5⟩ := Tr.fin t4.sr (Tr.refl t4.sr) hn5
    obtain ⟨rfl, rfl⟩ := vr5.bl
    exact q _ _ (((((t1.trans t2).trans t3).trans t4).trans t5).back h0)
theorem cmp2_bl {o p : Cm} {r r' : Env} {z : D × Bool} (e : cmp2F o p Fa Fb Fc r = .ok z r') : ∃ k, z = (.bl k, false) := by
  obtain ⟨x, r1, e1, e⟩ := Res.bind_ok_iff.mp e
  obtain ⟨y, r2, e2, e⟩ := Res.bind_ok_iff.mp e
  obtain ⟨x', e3, e⟩ := opt_ok_iff.mp e
  obtain ⟨y', e4, e⟩ := opt_ok_iff.mp e
  obtain ⟨k1, e5, e⟩ := opt_ok_iff.mp e
  cases k1 with
  | false =>
    rw [if_neg Bool.false_ne_true] at e
    cases e
    exact ⟨_, rfl⟩
  | true =>
    rw [if_pos rfl] at e
    obtain ⟨z, r3, e6, e⟩ := Res.bind_ok_iff.mp e
    obtain ⟨y2, e7, e⟩ := opt_ok_iff.mp e
    obtain ⟨z', e8, e⟩ := opt_ok_iff.mp e
    obtain ⟨k2, e9, e⟩ := opt_ok_iff.mp e
    cases e
    exact ⟨_, rfl⟩
theorem marks2 {o p : Cm} {b c : Expr} (h1 : behindInMarks o.py b = false) (h2 : behindInMarks p.py c = false) : lastMarks [o.py, p.py] [b, c] = false := by
  with_unfolding_all
    show behindInMarks p.py c = false
  exact h2
theorem se_cmp2 (hu : X.A.units + 100 < cLine) (o p : Cm) (ha : PE X a (rdE X.K Fa)) (hb : PE X b (rdE X.K Fb)) (hc : PE X c (rdE X.K Fc)) (hm : lastMarks [o.py, p.py] [b, c] = false) :
    PE X (.Compare a [o.py, p.py] [b, c] pos) (rdE X.K (cmp2F o p Fa Fb Fc)) := by
  refine (pe_chain (cmpv hu o) (cmpv hu p) ha hb hc hm).imp fun σ H Q h => ?_
  obtain ⟨O, B, r, z, r', h0, e, q⟩ := h
  obtain ⟨k, rfl⟩ := cmp2_bl e
  exact chain_red h0 e fun H' B' t => q _ _ _ _ t ⟨rfl, bl_rp _⟩
theorem st_cmp2 (hu : X.A.units + 100 < cLine) (o p : Cm) (ha : PE X a (rdE X.K Fa)) (hb : PE X b (rdE X.K Fb)) (hc : PE X c (rdE X.K Fc)) (hm : lastMarks [o.py, p.py] [b, c] = false) :
    PT X (.Compare a [o.py, p.py] [b, c] pos) (rdT X.K fun r => tru (cmp2F o p Fa Fb Fc r)) := by
  refine (pt_chain (cmpv hu o) (cmpv hu p) ha hb hc hm).imp fun σ H Q h => ?_
  obtain ⟨O, B, r, k, r', h0, e, q⟩ := h
  obtain ⟨x, d, e1, e2, e3⟩ := tru_at e
  obtain ⟨k', rfl⟩ := cmp2_bl e1
  cases e2
  cases e3
  exact chain_red h0 e1 fun H' B' t => ⟨k, rfl, q _ _ t⟩

theorem se_ix (ha : PE X a (rdE X.K Fa)) (hb : PE X b (rdE X.K Fb)) (hs : notSlice b = true) :
    PE X (.Subscript a b pos) (rdE X.K fun r => (Fa r).bind fun x r1 => (Fb r1).bind fun y r2 => opt (rd r2 x.1) fun x' => opt (ixD x' y.1) fun z => .ok (z, false) r2) := by
  refine (pe_ix ixv ha hb (plainIx hs)).imp fun σ H Q h => ?_
  obtain ⟨O, B, r, z, r', h0, e, q⟩ := h
  obtain ⟨x, r1, e1, e⟩ := Res.bind_ok_iff.mp e
  obtain ⟨y, r2, e2, e⟩ := Res.bind_ok_iff.mp e
  obtain ⟨x', e3, e⟩ := opt_ok_iff.mp e
  obtain ⟨z', e5, e⟩ := opt_ok_iff.mp e
  cases e
  refine rdE.go h0 e1 fun v H1 O1 B1 t1 vr1 => rdE.go t1.sr e2 fun u H2 O2 B2 t2 vr2 => ?_
  have ey : rd r' y.1 = some y.1 := rd_plain fun i e => by
    rw [e] at e5
    cases x' <;> cases e5
  refine ⟨OW O2 B2, [x', y.1], (z', false), t2.sr.dom, ⟨vr1.cn t2 e3, LV.cn t2.sr vr2.lv ey, trivial⟩, by show (ixD x' y.1).map _ = _; rw [e5]; rfl, fun H' w hn => ?_⟩
  obtain ⟨O', t, vr⟩ := (t1.trans t2).fin h0 hn
  exact q _ _ _ _ t vr
theorem so_none : PO X none (rdO X.K fun r => .ok none r) := by
  refine po_none.imp fun σ H Q h => ?_
  obtain ⟨O, B, r, k, r', h0, e, q⟩ := h
  cases e
  exact q _ _ (Tr.refl h0)
theorem so_some (ha : PE X a (rdE X.K Fa)) : PO X (some a) (rdO X.K fun r => (Fa r).bind fun d r1 => match d.1 with | .int i => .ok (some i) r1 | _ => .no) := by
  refine (po_some ha).imp fun σ H Q h => ?_
  obtain ⟨O, B, r, k, r', h0, e, q⟩ := h
  obtain ⟨⟨x, fx⟩, r1, e1, e⟩ := Res.bind_ok_iff.mp e
  cases x with
  | int i =>
    cases e
    refine rdE.go h0 e1 fun v H1 O1 B1 t1 vr1 => ?_
    obtain ⟨rfl, _⟩ := vr1.int
    exact ⟨i, rfl, q _ _ (t1.back h0)⟩
  | _ => cases e
theorem se_sl {lo hi : Option Expr} {Fl Fh : Env → Res (Option Int)} {p2 : Pos} (ha : PE X a (rdE X.K Fa)) (hl : PO X lo (rdO X.K Fl)) (hh : PO X hi (rdO X.K Fh)) :
    PE X (.Subscript a (.Slice lo hi none p2) pos) (rdE X.K fun r => (Fa r).bind fun x r1 => (Fl r1).bind fun u r2 => (Fh r2).bind fun w r3 => opt (rd r3 x.1) fun x' => opt (slD x' u w) fun z => .ok z r3) := by
  refine (pe_slice slv ha hl hh).imp fun σ H Q h => ?_
  obtain ⟨O, B, r, z, r', h0, e, q⟩ := h
  obtain ⟨x, r1, e1, e⟩ := Res.bind_ok_iff.mp e
  obtain ⟨u, r2, e2, e⟩ := Res.bind_ok_iff.mp e
  obtain ⟨w, r3, e3, e⟩ := Res.bind_ok_iff.mp e
  obtain ⟨x', e4, e⟩ := opt_ok_iff.mp e
  obtain ⟨z', e5, e⟩ := opt_ok_iff.mp e
  cases e
  refine rdE.go h0 e1 fun v H1 O1 B1 t1 vr1 => ⟨O1, B1, r1, u, r2, t1.sr, e2, fun H2 B2 t2 => ⟨O1, B2, r2, w, r', t2.sr, e3, fun H3 B3 t3 => ?_⟩⟩
  refine ⟨OW O1 B3, x', z, t3.sr.dom, vr1.cn (t2.trans t3) e4, e5, fun H' w hn => ?_⟩
  obtain ⟨O', t, vr⟩ := (t1.trans (t2.trans t3)).fin h0 hn
  exact q _ _ _ _ t vr
/-- a list turned round -/
theorem se_rev {k : Nat} {p1 p2 p3 : Pos} (ha : PE X a (rdE X.K Fa)) :
    PE X (.Subscript a (.Slice none none (some (.UnaryOp .USub (.Constant (.int 1) k p1) p2)) p3) pos) (rdE X.K fun r => (Fa r).bind fun x r1 => opt (rd r1 x.1) fun x' => match x' with | .lst xs => .ok (.lst xs.reverse, true) r1 | _ => .no) := by
  refine (pe_revL ha).imp fun σ H Q h => ?_
  obtain ⟨O, B, r, z, r', h0, e, q⟩ := h
  obtain ⟨x, r1, e1, e⟩ := Res.bind_ok_iff.mp e
  obtain ⟨x', e2, e⟩ := opt_ok_iff.mp e
  cases x' with
  | lst xs =>
    cases e
    refine rdE.go h0 e1 fun v H1 O1 B1 t1 vr1 => ?_
    obtain ⟨l, vs, rfl, hl, rr⟩ := LV.cn t1.sr vr1.lv e2
    refine ⟨l, vs, rfl, .inl (.inl hl), fun p hp => ?_⟩
    obtain ⟨O', t, vr⟩ := t1.fin h0 (NewR.list hp rr.reverse)
    exact q _ _ _ _ t vr
  | _ => cases e

def notStar : Expr → Bool
  | .Starred _ _ => false
  | _ => true
theorem star_cons {e : Expr} (es : List Expr) (env : PySem.Env) (h : notStar e = true) : starEach (e :: es) env = (false, eval e env) :: starEach es env := by
  cases e <;> first
    | rfl
    | (cases h; done)
theorem star_none : ∀ (es : List Expr) (env : PySem.Env), es.all notStar = true → (starEach es env).any (·.1) = false
  | [], _, _ => rfl
  | e :: es, env, h => by
    simp only [List.all_cons, Bool.and_eq_true] at h
    rw [star_cons es env h.1, List.any_cons, star_none es env h.2]
    rfl
theorem back_any (pos : Pos) : ∀ l : List (Bool × Sem Value), (backTo pos l).any (·.1) = l.any (·.1)
  | [] => rfl
  | x :: l => by
    have ih := back_any pos l
    show (x.1 || (backTo pos l).any (·.1)) = _
    rw [ih]
    rfl
theorem plain_args {pos : Pos} {es : List Expr} {env : PySem.Env} (h : es.all notStar = true) : (backTo pos (starEach es env)).any (·.1) = false := by
  rw [back_any]
  exact star_none es env h
variable {Fs : Env → Res (List (D × Bool))} {Gs : Env → Res (List D)}
theorem sa_nil : PA X [] (rdA X.K fun r => .ok [] r) := by
  refine pa_nil.imp fun σ H Q h => ?_
  obtain ⟨O, B, r, k, r', h0, e, q⟩ := h
  cases e
  exact q _ _ _ _ (Tr.refl h0) trivial
theorem sa_cons (ha : PE X a (rdE X.K Fa)) (hs : PA X es (rdA X.K Fs)) (n : notStar a = true) : PA X (a :: es) (rdA X.K fun r => (Fa r).bind fun x r1 => (Fs r1).bind fun xs r2 => .ok (x :: xs) r2) := by
  refine (pa_cons ha hs (star_cons _ _ n)).imp fun σ H Q h => ?_
  obtain ⟨O, B, r, k, r', h0, e, q⟩ := h
  obtain ⟨x, r1, e1, e⟩ := Res.bind_ok_iff.mp e
  obtain ⟨xs, r2, e2, e⟩ := Res.bind_ok_iff.mp e
  cases e
  refine rdE.go h0 e1 fun v H1 O1 B1 t1 vr1 => ⟨O1, B1, r1, xs, r', t1.sr, e2, fun vs H2 O2 B2 t2 l2 => ?_⟩
  exact q _ _ _ _ (t1.trans t2) ⟨vr1.lv.step t2, l2.old fun b hb => (t1.ko b hb).2⟩
theorem sf_nil : PA X [] (rdF X.K fun r => .ok [] r) := by
  refine pa_nil.imp fun σ H Q h => ?_
  obtain ⟨O, B, r, k, r', h0, e, q⟩ := h
  cases e
  exact q _ _ _ (Tr.refl h0) .nil
theorem sf_cons (ha : PE X a (rdE X.K Fa)) (hs : PA X es (rdF X.K Gs)) (n : notStar a = true) : PA X (a :: es) (rdF X.K fun r => (Fa r).bind fun d r1 => opt (fz r1 d.1) fun x => (Gs x.2).bind fun xs r3 => .ok (x.1 :: xs) r3) := by
  refine (pa_cons ha hs (star_cons _ _ n)).imp fun σ H Q h => ?_
  obtain ⟨O, B, r, k, r', h0, e, q⟩ := h
  obtain ⟨x, r1, e1, e⟩ := Res.bind_ok_iff.mp e
  obtain ⟨⟨y, r2⟩, e2, e⟩ := opt_ok_iff.mp e
  obtain ⟨xs, r3, e3, e⟩ := Res.bind_ok_iff.mp e
  cases e
  refine rdE.go h0 e1 fun v H1 O1 B1 t1 vr1 => ?_
  obtain ⟨B2, t2, rp⟩ := VR.plain h0 t1 vr1.lv e2
  exact ⟨O, B2, r2, xs, r', t2.sr, e3, fun vs H3 B3 t3 l3 => q _ _ _ (t2.trans t3) (.cons (rp.evo t3.evo) l3)⟩
theorem se_tup {kk : Nat} (h : PA X es (rdF X.K Gs)) (hl : ∀ r ds r', Gs r = .ok ds r' → ds.length ≤ sizeLine) : PE X (.Tuple es kk pos) (rdE X.K fun r => (Gs r).bind fun ds r1 => .ok (.tup ds, false) r1) := by
  refine (pe_tup h).imp fun σ H Q h => ?_
  obtain ⟨O, B, r, k, r', h0, e, q⟩ := h
  obtain ⟨xs, r1, e1, e⟩ := Res.bind_ok_iff.mp e
  cases e
  refine ⟨O, B, r, xs, r', h0, e1, fun vs H1 B1 t1 l1 => ⟨by rw [← l1.length]; exact hl _ _ _ e1, fun p hp => ?_⟩⟩
  obtain ⟨O', t, vr⟩ := t1.fin h0 (NewR.tuple t1.sr.dom hp l1)
  exact q _ _ _ _ t vr
theorem se_lst (h : PA X es (rdF X.K Gs)) (hl : ∀ r ds r', Gs r = .ok ds r' → ds.length ≤ sizeLine) : PE X (.List es pos) (rdE X.K fun r => (Gs r).bind fun ds r1 => .ok (.lst ds, true) r1) := by
  refine (pe_lst h).imp fun σ H Q h => ?_
  obtain ⟨O, B, r, k, r', h0, e, q⟩ := h
  obtain ⟨xs, r1, e1, e⟩ := Res.bind_ok_iff.mp e
  cases e
  refine ⟨O, B, r, xs, r', h0, e1, fun vs H1 B1 t1 l1 => ⟨by rw [← l1.length]; exact hl _ _ _ e1, fun p hp => ?_⟩⟩
  obtain ⟨O', t, vr⟩ := t1.fin h0 (NewR.list hp l1)
  exact q _ _ _ _ t vr

theorem LVL.len {K : PySem.W.Frag} {σ : L2.St} {O : List Addr} {H1 : Hp} {O1 : List Addr} {B1 : List (Option Addr)} : ∀ {xs : List (D × Bool)} {vs : List V}, LVL K σ O H1 O1 B1 xs vs → vs.length = xs.length
  | [], [], _ => rfl
  | x :: xs, v :: vs, h => by rw [List.length_cons, List.length_cons, LVL.len h.2]
  | [], _ :: _, h => h.elim
  | _ :: _, [], h => h.elim
theorem Rp.free {W : Addr → Prop} {K : PySem.W.Frag} {H : Hp} {d : D} {v : V} (h : Rp K H W d v) : Rp K H (fun _ => False) d v := h.evo (Evo.refl.less fun _ z => z.elim)
theorem Cn.free {W : Addr → Prop} {K : PySem.W.Frag} {H : Hp} {d : D} {v : V} (h : Cn K H W d v) : Rp K H (fun _ => False) d v := by
  have e : Evo H W H (fun _ => False) := Evo.refl.less fun _ z => z.elim
  cases d with
  | lst xs => obtain ⟨a, vs, rfl, h1, h2⟩ := h; simp only [Rp]; exact ⟨a, vs, rfl, ⟨h1, fun z => z⟩, h2.evo e⟩
  | dic ks ws => obtain ⟨a, vs, rfl, h1, h2, h3⟩ := h; simp only [Rp]; exact ⟨a, vs, rfl, ⟨h1, fun z => z⟩, h2, h3.evo e⟩
  | _ => exact Rp.free (W := W) h
theorem CnL.free {W : Addr → Prop} {K : PySem.W.Frag} {H : Hp} : ∀ {ds : List D} {vs : List V}, CnL K H W ds vs → RpL K H (fun _ => False) ds vs
  | [], [], _ => .nil
  | d :: ds, v :: vs, h => .cons h.1.free (CnL.free h.2)
  | [], _ :: _, h => by simp only [CnL] at h
  | _ :: _, [], h => by simp only [CnL] at h
/-- repr of a display: its parts as they stand now -/
theorem se_reprl {P : Sys} {x : Str} {p lp : Pos} (hu : X.A.units + 64 < cLine) (hgd : X.A.guards = some []) (hP : P.rp = reprS) (hg : Gl X x) (hm : X.mg x = none) (hv : bootBuiltins x = some (.builtin "repr")) (ha : PA X es (rdA X.K Fs))
    (hl : ∀ r as r', Fs r = .ok as r' → as.length ≤ sizeLine) (hn : x ≠ "__name__") (hdb : (x == ("__debug__" : Str)) = false) :
    PE X (.Call (.Name x p) [.List es lp] [] pos) (rdE X.K fun r => (Fs r).bind fun as r1 => opt (rdAll r1 as) fun ds => opt (biD P .reprl ds) fun z => .ok z r1) := by
  refine (pe_callB (call_repr hu hgd) hg hm hv (pa_cons (pe_lst (pos := lp) ha) pa_nil) hn hdb (by rfl) (by rfl)).imp fun σ H Q h => ?_
  obtain ⟨O, B, r, k, r', h0, e, q⟩ := h
  obtain ⟨as, r1, e1, e⟩ := Res.bind_ok_iff.mp e
  obtain ⟨ds, e2, e⟩ := opt_ok_iff.mp e
  obtain ⟨z, e3, e⟩ := opt_ok_iff.mp e
  cases e
  simp only [biD] at e3
  split at e3
  · rename_i hs
    cases e3
    refine ⟨O, B, r, as, r', h0, e1, fun vs H1 O1 B1 t1 l1 => ⟨?_, fun a ha => ?_⟩⟩
    · have : vs.length = as.length := l1.len
      rw [this]
      exact hl _ _ _ e1
    · have hc := (l1.cn t1.sr e2).free
      refine ⟨.lst ds, fun _ => False, .ref a, rfl, hs, ⟨a, vs, rfl, upd_same, hc.evo (.new ha)⟩, ?_⟩
      obtain ⟨O', t, vr⟩ := t1.fin (z := (.str (P.rp (.lst ds)), false)) (v := .str (sS (reprS (.lst ds)))) h0 (.inr (.inl ⟨rfl, a, _, ha, rfl, by rw [hP]; simp only [Rp]⟩))
      exact q _ _ _ _ t vr
  · cases e3
theorem call_red {g : List D → Option (D × Bool)} {σ : L2.St} {H : Hp} {Q : VK} (h : rdE X.K (fun r => (Fs r).bind fun as r1 => opt (rdAll r1 as) fun ds => opt (g ds) fun z => .ok z r1) σ H Q) : tCB (rVal X.K g) (rdA X.K Fs) σ H Q := by
  obtain ⟨O, B, r, k, r', h0, e, q⟩ := h
  obtain ⟨xs, r1, e1, e⟩ := Res.bind_ok_iff.mp e
  obtain ⟨ds, e2, e⟩ := opt_ok_iff.mp e
  obtain ⟨z, e3, e⟩ := opt_ok_iff.mp e
  cases e
  refine ⟨O, B, r, xs, r', h0, e1, fun vs H1 O1 B1 t1 l1 => ⟨OW O1 B1, ds, _, t1.sr.dom, l1.cn t1.sr e2, e3, fun H' v hn => ?_⟩⟩
  obtain ⟨O', t, vr⟩ := t1.fin h0 hn
  exact q _ _ _ _ t vr
theorem se_biB {id : String} {x : Str} {p : Pos} {g : List D → Option (D × Bool)} (hc : CallR X (.builtin id) (rVal X.K g)) (hg : Gl X x) (hm : X.mg x = none) (hv : bootBuiltins x = some (.builtin id)) (ha : PA X (a :: es) (rdA X.K Fs))
    (hn : x ≠ "__name__") (hdb : (x == ("__debug__" : Str)) = false) (n : (a :: es).all notStar = true) :
    PE X (.Call (.Name x p) (a :: es) [] pos) (rdE X.K fun r => (Fs r).bind fun as r1 => opt (rdAll r1 as) fun ds => opt (g ds) fun z => .ok z r1) := by
  simp only [List.all_cons, Bool.and_eq_true] at n
  exact (pe_callB hc hg hm hv ha hn hdb (star_cons _ _ n.1) (plain_args n.2)).imp fun σ H Q h => call_red h
theorem se_biT {id : String} {x : Str} {p : Pos} {g : List D → Option (D × Bool)} (hc : CallR X (.type id) (rVal X.K g)) (hg : Gl X x) (hm : X.mg x = none) (hv : bootBuiltins x = some (.type id)) (ha : PA X (a :: es) (rdA X.K Fs))
    (hn : x ≠ "__name__") (hdb : (x == ("__debug__" : Str)) = false) (n : (a :: es).all notStar = true) :
    PE X (.Call (.Name x p) (a :: es) [] pos) (rdE X.K fun r => (Fs r).bind fun as r1 => opt (rdAll r1 as) fun ds => opt (g ds) fun z => .ok z r1) := by
  simp only [List.all_cons, Bool.and_eq_true] at n
  exact (pe_callTy hc hg hm hv ha hn hdb (star_cons _ _ n.1) (plain_args n.2)).imp fun σ H Q h => call_red h
end
end Pv
namespace Pv
open PySem PySem.Spec PyProof.Rows L2
section
variable {X : Cx} {a b c : Expr} {es : List Expr} {pos : Pos} {Fa Fb Fc : Env → Res (D × Bool)} {Fs : Env → Res (List (D × Bool))} {Gs : Env → Res (List D)}
def isiF (ts : List Ty) (Fa : Env → Res (D × Bool)) : Env → Res (D × Bool) := fun r => (Fa r).bind fun x r1 => opt (rd r1 x.1) fun x' => if isiOk x' then .ok (.bl (ts.any (isTy x')), false) r1 else .no
theorem tyName_of {K : PySem.W.Frag} {H : Hp} {W : Addr → Prop} {d : D} {v : V} (h : Cn K H W d v) (e : isiOk d = true) : ∃ n, tyName d = some n := by
  cases d <;> first
    | exact ⟨_, rfl⟩
    | (cases e; done)
    | (simp only [Cn, Rp] at h; done)
theorem se_isi1 {x y : Str} {p p2 : Pos} (t : Ty) (ht : t.blt = true) (hx : x = ("isinstance" : Str)) (hg : Gl X x) (hm : X.mg x = none) (hv : bootBuiltins x = some (.builtin "isinstance")) (hn : x ≠ "__name__") (hdb : (x == ("__debug__" : Str)) = false)
    (ha : PE X a (rdE X.K Fa)) (n : notStar a = true) (hgy : Gl X y) (hmy : X.mg y = none) (hvy : bootBuiltins y = some (.type t.name)) (hny : y ≠ "__name__") (hdy : (y == ("__debug__" : Str)) = false) :
    PE X (.Call (.Name x p) [a, .Name y p2] [] pos) (rdE X.K (isiF [t] Fa)) := by
  have hpa : PA X [a, .Name y p2] (tCons (rdE X.K Fa) (tCons (tC (.ty t.name)) tNil)) := pa_cons ha (pa_cons (pe_bltn hgy hmy hvy rfl hny hdy) pa_nil) (star_cons _ _ n)
  refine (pe_callB call_isi hg hm hv hpa hn hdb (star_cons _ _ n) (by rfl)).imp fun σ H Q h => ?_
  obtain ⟨O, B, r, z, r', h0, e, q⟩ := h
  obtain ⟨xx, r1, e1, e⟩ := Res.bind_ok_iff.mp e
  obtain ⟨x', e2, e⟩ := opt_ok_iff.mp e
  split at e
  · rename_i hk
    cases e
    refine rdE.go h0 e1 fun v H1 O1 B1 t1 vr1 => ?_
    have hc := LV.cn t1.sr vr1.lv e2
    obtain ⟨nm, hnm⟩ := tyName_of hc hk
    refine ⟨v, .ty t.name, .type nm, .type t.name, isTy x' t, rfl, .ty _, tyX_of hc nm hnm, kit_d hnm t ht, ?_⟩
    obtain ⟨O', tt, vr⟩ := t1.val (d := .bl ([t].any (isTy x'))) (v := .bl (isTy x' t)) h0 (by simp [Rp])
    exact q _ _ _ _ tt vr
  · cases e
theorem kit_list {K : PySem.W.Frag} {d : D} {n : String} (e : tyName d = some n) : ∀ ts : List Ty, (∀ t ∈ ts, t.blt = true) → PySem.W.kitAny K (.type n) (ts.map fun (t : Ty) => Value.type t.name) = some (ts.any (isTy d))
  | [], _ => rfl
  | t :: ts, h => by
    have h1 := kit_d (K := K) e t (h t List.mem_cons_self)
    refine kitAny_cons h1 (fun hb => ?_) fun hb => ?_
    · rw [List.any_cons, hb, Bool.false_or]
      exact kit_list e ts fun t' ht' => h t' (List.mem_cons_of_mem _ ht')
    · rw [List.any_cons, hb, Bool.true_or]
theorem cls_list : ∀ ts : List Ty, Paired ClsV (ts.map fun (t : Ty) => V.ty t.name) (ts.map fun (t : Ty) => Value.type t.name)
  | [] => .nil
  | t :: ts => .cons (.ty _) (cls_list ts)
/-- names of built-in types, as an argument list -/
theorem pa_types : ∀ (ts : List Ty) (es : List Expr), es.length = ts.length → (∀ (i : Nat) (t : Ty) (e : Expr), ts[i]? = some t → es[i]? = some e → PE X e (tC (.ty t.name)) ∧ notStar e = true) → PA X es (fun _ H Q => Q (ts.map fun (t : Ty) => V.ty t.name) H)
  | [], [], _, _ => pa_nil
  | t :: ts, e :: es, hl, h => by
    obtain ⟨h1, h2⟩ := h 0 t e rfl rfl
    exact (pa_cons h1 (pa_types ts es (by simpa using hl) fun i t e e1 e2 => h (i + 1) t e (by simpa using e1) (by simpa using e2)) (star_cons _ _ h2)).imp fun _ _ _ q => q
  | [], _ :: _, h, _ => by simp at h
  | _ :: _, [], h, _ => by simp at h
theorem se_isiT {x : Str} {p p2 : Pos} {kk : Nat} (ts : List Ty) (hts : ∀ t ∈ ts, t.blt = true) (hx : x = ("isinstance" : Str)) (hg : Gl X x) (hm : X.mg x = none) (hv : bootBuiltins x = some (.builtin "isinstance")) (hn : x ≠ "__name__") (hdb : (x == ("__debug__" : Str)) = false)
    (ha : PE X a (rdE X.K Fa)) (n : notStar a = true) (hes : PA X es (fun _ H Q => Q (ts.map fun (t : Ty) => V.ty t.name) H)) (hl : ts.length ≤ sizeLine) :
    PE X (.Call (.Name x p) [a, .Tuple es kk p2] [] pos) (rdE X.K (isiF ts Fa)) := by
  have hpa : PA X [a, .Tuple es kk p2] (tCons (rdE X.K Fa) (tCons (tTup (fun _ H Q => Q (ts.map fun (t : Ty) => V.ty t.name) H)) tNil)) := pa_cons ha (pa_cons (pe_tup hes) pa_nil) (star_cons _ _ n)
  refine (pe_callB call_isiT hg hm hv hpa hn hdb (star_cons _ _ n) (by rfl)).imp fun σ H Q h => ?_
  obtain ⟨O, B, r, z, r', h0, e, q⟩ := h
  obtain ⟨xx, r1, e1, e⟩ := Res.bind_ok_iff.mp e
  obtain ⟨x', e2, e⟩ := opt_ok_iff.mp e
  split at e
  · rename_i hk
    cases e
    refine rdE.go h0 e1 fun v H1 O1 B1 t1 vr1 => ⟨by rw [List.length_map]; exact hl, fun tp hp => ?_⟩
    have tn := Tr.new (o := .tup (ts.map fun (t : Ty) => V.ty t.name)) t1.sr hp
    have hc := LV.cn tn.sr (vr1.lv.step tn) e2
    obtain ⟨nm, hnm⟩ := tyName_of hc hk
    refine ⟨v, tp, ts.map fun (t : Ty) => V.ty t.name, .type nm, ts.map fun (t : Ty) => Value.type t.name, ts.any (isTy x'), rfl, upd_same, ?_, tyX_of hc nm hnm, kit_list hnm ts hts, ?_⟩
    · exact cls_list ts
    · obtain ⟨O', tt, vr⟩ := (t1.trans tn).val (d := .bl (ts.any (isTy x'))) (v := .bl (ts.any (isTy x'))) h0 (bl_rp _)
      exact q _ _ _ _ tt vr
  · cases e

def Mt.kind : Mt → Nat
  | .index => 2
  | _ => 1
def mtF (P : Sys) (m : Mt) (Fa : Env → Res (D × Bool)) (Fs : Env → Res (List (D × Bool))) : Env → Res (D × Bool) := fun r =>
  (Fa r).bind fun x r1 => opt (rd r1 x.1) fun x0 => (Fs r1).bind fun as r2 => opt (rd r2 x.1) fun x' => opt (rdAll r2 as) fun ds => opt (mtD P m x' ds) fun z => if kindN x0 == kindN x' then .ok z r2 else .no
theorem kind_ty {K : PySem.W.Frag} {H : Hp} {W : Addr → Prop} {d : D} {v : V} (h : Cn K H W d v) : (kindN d = 1 → tyV K "str" v H) ∧ (kindN d = 2 → tyV K "list" v H) := by
  refine ⟨fun e => ?_, fun e => ?_⟩
  · cases d <;> first
      | (cases e; done)
      | (cases h; rfl)
  · cases d <;> first
      | (cases e; done)
      | (obtain ⟨a, vs, rfl, hp, _⟩ := h; exact .inl ⟨rfl, vs, .inl (.inl hp)⟩)
theorem all_not (pos : Pos) : ∀ (es : List Expr) (env : PySem.Env), es.all notStar = true → (backTo pos (starEach es env)).all (fun x => !x.1) = true
  | [], _, _ => rfl
  | e :: es, env, h => by
    simp only [List.all_cons, Bool.and_eq_true] at h
    rw [star_cons es env h.1]
    show (!false && (backTo pos (starEach es env)).all (fun x => !x.1)) = true
    rw [all_not pos es env h.2]
    rfl
def notCall0 : Expr → Bool
  | .Call (.Name _ _) [] [] _ => false
  | _ => true
theorem base_ok {o : Expr} {name : Str} {env : PySem.Env} {wh : Sem Value} (h : notCall0 o = true) : attributeBase o name env wh = wh := by
  unfold attributeBase
  split
  · simp [notCall0] at h
  · rfl
theorem se_mt {P : Sys} {m : Mt} {T id : String} {name : Str} {apos : Pos} (hT : (T = "str" ∧ m.kind = 1) ∨ (T = "list" ∧ m.kind = 2)) (pa : PlainAttrs T) (slot : Slot T name id) (hty : typeOf (.builtin id) = pure (.type "method_descriptor"))
    (hm : MtR X id (fun x xs H Q => rVal X.K (fun ds => match ds with | d :: ds => mtD P m d ds | [] => none) (x :: xs) H Q)) (hk : ∀ d ds z, mtD P m d ds = some z → kindN d = m.kind)
    (ho : PE X a (rdE X.K Fa)) (ha : PA X (b :: es) (rdA X.K Fs)) (h0 : notCall0 a = true) (n : (b :: es).all notStar = true) (hlen : (b :: es).length < 30) (hline : (apos.endLine == pos.line) = true) :
    PE X (.Call (.Attribute a name apos) (b :: es) [] pos) (rdE X.K (mtF P m Fa Fs)) := by
  have n' := n
  simp only [List.all_cons, Bool.and_eq_true] at n'
  refine (pe_bm pa slot hty hm ho ha (base_ok h0) (by rw [all_not pos (b :: es) X.env n]; simp only [Bool.true_and]; exact decide_eq_true (by simpa using hlen)) hline (star_cons _ _ n'.1) (plain_args n'.2)).imp fun σ H Q h => ?_
  obtain ⟨O, B, r, z, r', h0, e, q⟩ := h
  obtain ⟨x, r1, e1, e⟩ := Res.bind_ok_iff.mp e
  obtain ⟨x0, e2, e⟩ := opt_ok_iff.mp e
  obtain ⟨as, r2, e3, e⟩ := Res.bind_ok_iff.mp e
  obtain ⟨x', e4, e⟩ := opt_ok_iff.mp e
  obtain ⟨ds, e5, e⟩ := opt_ok_iff.mp e
  obtain ⟨z', e6, e⟩ := opt_ok_iff.mp e
  split at e
  · rename_i hkk
    cases e
    have k0 : kindN x0 = m.kind := by rw [← hk _ _ _ e6]; exact beq_iff_eq.mp hkk
    refine rdE.go h0 e1 fun v H1 O1 B1 t1 vr1 => ⟨?_, O1, B1, r1, as, r', t1.sr, e3, fun vs H2 O2 B2 t2 l2 => ?_⟩
    · have ty := kind_ty (LV.cn t1.sr vr1.lv e2)
      rcases hT with ⟨rfl, e⟩ | ⟨rfl, e⟩
      · exact ty.1 (k0.trans e)
      · exact ty.2 (k0.trans e)
    · refine ⟨OW O2 B2, x' :: ds, z, t2.sr.dom, ⟨vr1.cn t2 e4, l2.cn t2.sr e5⟩, e6, fun H' w hn => ?_⟩
      obtain ⟨O', t, vr⟩ := (t1.trans t2).fin h0 hn
      exact q _ _ _ _ t vr
  · cases e
theorem mtk_join {P : Sys} : ∀ d ds z, mtD P .join d ds = some z → kindN d = Mt.kind .join := fun d ds z h => by
  match d, ds, h with
  | .str _, [.lst _], _ => rfl
theorem mtk_startswith {P : Sys} : ∀ d ds z, mtD P .startswith d ds = some z → kindN d = Mt.kind .startswith := fun d ds z h => by
  match d, ds, h with
  | .str _, [.str _], _ => rfl
theorem mtk_endswith {P : Sys} : ∀ d ds z, mtD P .endswith d ds = some z → kindN d = Mt.kind .endswith := fun d ds z h => by
  match d, ds, h with
  | .str _, [.str _], _ => rfl
theorem mtk_count {P : Sys} : ∀ d ds z, mtD P .count d ds = some z → kindN d = Mt.kind .count := fun d ds z h => by
  match d, ds, h with
  | .str _, [.str _], _ => rfl
end

section
variable {K : PySem.W.Frag} {σ : L2.St} {H H1 H2 H' : Hp} {O O1 O2 : List Addr} {B B1 B2 : List (Option Addr)} {r r1 r2 : Env}
theorem SR.mut (h : SR K H O B r σ) {i : Nat} {a : Addr} {d d' : D} {o : HO} (e : r[i]? = some (.o d)) (b1 : B[i]? = some (some a)) (hs : σ[i]? = some (some (.ref a))) (ob : Ob1 K H (OW O B) d' o) :
    Tr K σ H O B r (upd H a o) O B (r.set i (.o d')) := by
  have hW : OW O B a := .inr (List.mem_of_getElem? b1)
  have ev : Evo H (OW O B) (upd H a o) (OW O B) := ⟨fun b u e1 n => ⟨by rw [upd_ne (fun z => n (by rw [z]; exact hW))]; exact e1, n⟩, fun b hb => by
    by_cases z : b = a
    · rw [z, upd_same]; exact fun z => nomatch z
    · rw [upd_ne z]; exact hb⟩
  have aO : a ∉ O := fun z => h.dis a z (List.mem_of_getElem? b1)
  have hi := getO e
  refine ⟨⟨by rw [List.length_set]; exact h.lenB, by rw [List.length_set]; exact h.lenS, h.dis, h.inj, fun c hc => ev.dom c (h.dom c hc), fun j x hj => ?_, fun j x hj => ?_, fun j x hj => ?_, fun j hj => ?_⟩, ev, fun b hb => ⟨upd_ne fun z => aO (by rw [← z]; exact hb), hb⟩, fun j x => ?_⟩
  · by_cases q : i = j
    · subst q
      rw [List.getElem?_set_self hi] at hj
      cases hj
    · rw [List.getElem?_set_ne q] at hj
      obtain ⟨h1, v, h2, h3⟩ := h.val j x hj
      exact ⟨h1, v, h2, h3.evo ev⟩
  · by_cases q : i = j
    · subst q
      rw [List.getElem?_set_self hi] at hj
      cases hj
      refine ⟨a, b1, hs, ?_⟩
      cases d' <;> cases o <;> first
        | exact ob.elim
        | (refine ⟨_, upd_same, RpL.evo ev ob⟩; done)
        | (refine ⟨_, upd_same, ob.1, RpL.evo ev ob.2⟩; done)
    · rw [List.getElem?_set_ne q] at hj
      obtain ⟨c, h1, h2, h3⟩ := h.own j x hj
      exact ⟨c, h1, h2, h3.evo ev (upd_ne fun z => q (h.inj i j c (by rw [z]; exact b1) h1))⟩
  · by_cases q : i = j
    · subst q
      rw [List.getElem?_set_self hi] at hj
      cases hj
    · rw [List.getElem?_set_ne q] at hj
      obtain ⟨h1, c, h2, h3, h4⟩ := h.lck j x hj
      exact ⟨h1, c, h2, h3, h4.evo ev (upd_ne fun z => aO (by rw [← z]; exact h2))⟩
  · by_cases q : i = j
    · subst q
      rw [List.getElem?_set_self hi] at hj
      cases hj
    · rw [List.getElem?_set_ne q] at hj
      exact h.emp j hj
  · by_cases q : i = j
    · subst q
      rw [List.getElem?_set_self hi, e]
      exact ⟨fun z => (nomatch z), fun z => nomatch z⟩
    · rw [List.getElem?_set_ne q]
theorem putO_at {i : Nat} {f : D → Option (D × D)} {z : D × Env} (e : putO i f r = some z) : ∃ d d' x, r[i]? = some (.o d) ∧ f d = some (d', x) ∧ z = (x, r.set i (.o d')) := by
  unfold putO at e
  split at e
  · rename_i d hd
    obtain ⟨⟨d', x⟩, e1, e2⟩ := Option.map_eq_some_iff.mp e
    exact ⟨d, d', x, hd, e1, e2.symm⟩
  · cases e
theorem ownsL_at {i : Nat} (e : ownsL r i = true) : ∃ xs, r[i]? = some (.o (.lst xs)) := by
  unfold ownsL at e
  split at e
  · exact ⟨_, by assumption⟩
  · cases e
/-- the list that a slot owns -/
theorem SR.ownL (h : SR K H O B r σ) {i : Nat} {xs : List D} (e : r[i]? = some (.o (.lst xs))) : ∃ a vs, B[i]? = some (some a) ∧ σ[i]? = some (some (.ref a)) ∧ H a = some (.lst vs) ∧ RpL K H (OW O B) xs vs := by
  obtain ⟨a, h1, h2, vs, h3, h4⟩ := h.own i _ e
  exact ⟨a, vs, h1, h2, h3, h4⟩
end
section
variable {X : Cx} {a b c : Expr} {es : List Expr} {pos apos p : Pos} {Fa Fb Fc : Env → Res (D × Bool)} {Fs : Env → Res (List (D × Bool))} {Gs : Env → Res (List D)}
theorem se_append {i : Nat} {x : Str} (hN : X.N[i]? = some x) (hv : Vis X.env.scope x) (hd : (x == ("__debug__" : Str)) = false) (hcd : (x == ("__classdict__" : Str)) = false) (ha : PA X [b] (rdF X.K Gs)) (n : notStar b = true) (hline : (apos.endLine == pos.line) = true) :
    PE X (.Call (.Attribute (.Name x p) "append" apos) [b] [] pos) (rdE X.K fun r => if ownsL r i then (Gs r).bind fun ds r1 => opt (putO i (fun d => muD .append d ds) r1) fun y => .ok (y.1, false) y.2 else .no) := by
  refine (pe_bm PySem.F.plainAttrs_list PySem.F.slot_list_append PySem.F.type_list_append mt_append (pe_var hN hv hd hcd) ha (base_ok rfl) (by rw [all_not pos [b] X.env (by simp [n])]; rfl) hline (star_cons _ _ n) (by rfl)).imp fun σ H Q h => ?_
  obtain ⟨O, B, r, z, r', h0, e, q⟩ := h
  dsimp only at e
  split at e
  · rename_i ho
    obtain ⟨xs, e0⟩ := ownsL_at ho
    obtain ⟨ds, r1, e1, e⟩ := Res.bind_ok_iff.mp e
    obtain ⟨y, e2, e⟩ := opt_ok_iff.mp e
    obtain ⟨d, d', w, e3, e4, rfl⟩ := putO_at e2
    cases e
    obtain ⟨l, vs, _, s1, s2, _⟩ := h0.ownL e0
    refine ⟨.ref l, s1, .inl ⟨rfl, vs, .inl (.inl s2)⟩, O, B, r, ds, r1, h0, e1, fun us H1 B1 t1 l1 => ?_⟩
    match d, ds, us, e3, e4, l1 with
    | .lst ys, [y], us, e3, e4, l1 =>
      obtain ⟨u, us', rfl, ru, rn⟩ := l1.cons_inv
      cases rn.nil_inv
      simp only [muD] at e4
      split at e4
      · rename_i hl
        cases e4
        obtain ⟨l', ws, b1, s1', s2', rr⟩ := t1.sr.ownL e3
        rw [s1] at s1'
        cases s1'
        refine ⟨l, ws, u, rfl, rfl, s2', ?_, ?_⟩
        · have := rr.length
          have e6 : LIM = sizeLine := lim_line
          omega
        · have tm := t1.sr.mut (d' := .lst (ys ++ [y])) (o := .lst (ws ++ [u])) e3 b1 s1 (rr.append (.cons ru .nil))
          exact q _ _ _ _ (t1.trans tm) ⟨rfl, rfl⟩
      · cases e4
  · cases e
theorem se_extend {i : Nat} {x : Str} (hN : X.N[i]? = some x) (hv : Vis X.env.scope x) (hd : (x == ("__debug__" : Str)) = false) (hcd : (x == ("__classdict__" : Str)) = false) (ha : PA X [b] (rdA X.K Fs)) (n : notStar b = true) (hline : (apos.endLine == pos.line) = true) :
    PE X (.Call (.Attribute (.Name x p) "extend" apos) [b] [] pos) (rdE X.K fun r => if ownsL r i then (Fs r).bind fun as r1 => opt (rdAll r1 as) fun ds => opt (putO i (fun d => muD .extend d ds) r1) fun y => .ok (y.1, false) y.2 else .no) := by
  refine (pe_bm PySem.F.plainAttrs_list PySem.F.slot_list_extend PySem.F.type_list_extend mt_extend (pe_var hN hv hd hcd) ha (base_ok rfl) (by rw [all_not pos [b] X.env (by simp [n])]; rfl) hline (star_cons _ _ n) (by rfl)).imp fun σ H Q h => ?_
  obtain ⟨O, B, r, z, r', h0, e, q⟩ := h
  dsimp only at e
  split at e
  · rename_i ho
    obtain ⟨xs, e0⟩ := ownsL_at ho
    obtain ⟨as, r1, e1, e⟩ := Res.bind_ok_iff.mp e
    obtain ⟨ds, e5, e⟩ := opt_ok_iff.mp e
    obtain ⟨y, e2, e⟩ := opt_ok_iff.mp e
    obtain ⟨d, d', w, e3, e4, rfl⟩ := putO_at e2
    cases e
    obtain ⟨l, vs, _, s1, s2, _⟩ := h0.ownL e0
    refine ⟨.ref l, s1, .inl ⟨rfl, vs, .inl (.inl s2)⟩, O, B, r, as, r1, h0, e1, fun us H1 O1 B1 t1 l1 => ?_⟩
    have lc := l1.cn t1.sr e5
    match d, ds, us, e3, e4, lc with
    | .lst ys, [.lst zs], us, e3, e4, lc =>
      obtain ⟨u, rfl, l2, ws2, rfl, h2, rr2⟩ := one_of (ds := []) lc
      simp only [muD] at e4
      split at e4
      · rename_i hl
        cases e4
        obtain ⟨l', ws, b1, s1', s2', rr⟩ := t1.sr.ownL e3
        rw [s1] at s1'
        cases s1'
        refine ⟨l, l2, ws, ws2, rfl, rfl, s2', h2, ?_, ?_⟩
        · have := rr.length
          have := rr2.length
          have e6 : LIM = sizeLine := lim_line
          omega
        · have tm := t1.sr.mut (d' := .lst (ys ++ zs)) (o := .lst (ws ++ ws2)) e3 b1 s1 (rr.append rr2)
          have tb := (t1.trans tm).back h0
          exact q _ _ _ _ tb ⟨rfl, rfl⟩
      · cases e4
  · cases e
theorem se_pop {i : Nat} {x : Str} (hN : X.N[i]? = some x) (hv : Vis X.env.scope x) (hd : (x == ("__debug__" : Str)) = false) (hcd : (x == ("__classdict__" : Str)) = false) (hline : (apos.endLine == pos.line) = true) :
    PE X (.Call (.Attribute (.Name x p) "pop" apos) [] [] pos) (rdE X.K fun r => if ownsL r i then opt (putO i (fun d => muD .pop d []) r) fun y => .ok (y.1, false) y.2 else .no) := by
  refine (pe_bm0 PySem.F.plainAttrs_list PySem.F.slot_list_pop PySem.F.type_list_pop mt_pop (pe_var hN hv hd hcd) (base_ok rfl) hline).imp fun σ H Q h => ?_
  obtain ⟨O, B, r, z, r', h0, e, q⟩ := h
  dsimp only at e
  split at e
  · rename_i ho
    obtain ⟨y, e2, e⟩ := opt_ok_iff.mp e
    obtain ⟨d, d', w, e3, e4, rfl⟩ := putO_at e2
    cases e
    cases d with
    | lst ys =>
      simp only [muD] at e4
      split at e4
      · rename_i y hy
        cases e4
        obtain ⟨l, ws, b1, s1, s2, rr⟩ := h0.ownL e3
        have hg : ys[ys.length - 1]? = some w := by rw [← List.getLast?_eq_getElem?]; exact hy
        obtain ⟨u, hu, ru⟩ := rr.get hg
        refine ⟨.ref l, s1, .inl ⟨rfl, ws, .inl (.inl s2)⟩, l, ws, u, rfl, rfl, s2, by rw [← rr.length]; exact hu, ?_⟩
        have rd : RpL X.K H (OW O B) ys.dropLast ws.dropLast := by
          rw [List.dropLast_eq_take, List.dropLast_eq_take, rr.length]
          exact rr.take _
        have tm := h0.mut (d' := .lst ys.dropLast) (o := .lst ws.dropLast) e3 b1 s1 rd
        have ru' := ru.evo tm.evo
        obtain ⟨O', t, vr⟩ := tm.val h0 ru'
        exact q _ _ _ _ t vr
      · cases e4
    | _ => cases e4
  · cases e
end
end Pv
namespace Pv
open PySem PySem.Spec PyProof.Rows L2
def lkB (js : List Nat) (r : Env) (i : Nat) : Bool := js.contains i && (match r[i]? with | some (.o _) => true | _ => false)
theorem lkB_at {js : List Nat} {r : Env} {i : Nat} (h : lkB js r i = true) : js.contains i = true ∧ ∃ d, r[i]? = some (.o d) := by
  unfold lkB at h
  rw [Bool.and_eq_true] at h
  refine ⟨h.1, ?_⟩
  have h2 := h.2
  split at h2
  · exact ⟨_, by assumption⟩
  · cases h2
theorem lockE_get (js : List Nat) (r : Env) (i : Nat) : (lockE js r)[i]? = r[i]?.map (lock1 js i) := by
  unfold lockE
  split
  · rename_i h
    have e : js = [] := by cases js with | nil => rfl | cons _ _ => cases h
    subst e
    cases r[i]? with
    | none => rfl
    | some s => rfl
  · rw [List.getElem?_mapIdx]
theorem lockE_length (js : List Nat) (r : Env) : (lockE js r).length = r.length := by
  unfold lockE
  split
  · rfl
  · rw [List.length_mapIdx]
theorem lock_l {js : List Nat} {r : Env} {i : Nat} {d : D} : (lockE js r)[i]? = some (.l d) ↔ r[i]? = some (.l d) ∨ (r[i]? = some (.o d) ∧ js.contains i = true) := by
  rw [lockE_get]
  constructor
  · intro h
    obtain ⟨s, e, h⟩ := Option.map_eq_some_iff.mp h
    unfold lock1 at h
    split at h
    · rename_i hc
      cases s with
      | o x => cases h; exact .inr ⟨e, hc⟩
      | _ => cases h; first | exact .inl e | skip
    · subst h; exact .inl e
  · rintro (e | ⟨e, hc⟩)
    · rw [e]
      show some (lock1 js i (.l d)) = _
      unfold lock1
      split <;> rfl
    · rw [e]
      show some (lock1 js i (.o d)) = _
      unfold lock1
      rw [if_pos hc]
theorem lock_o {js : List Nat} {r : Env} {i : Nat} {d : D} : (lockE js r)[i]? = some (.o d) ↔ r[i]? = some (.o d) ∧ js.contains i = false := by
  rw [lockE_get]
  constructor
  · intro h
    obtain ⟨s, e, h⟩ := Option.map_eq_some_iff.mp h
    unfold lock1 at h
    split at h
    · rename_i hc
      cases s <;> cases h
    · rename_i hc
      subst h
      exact ⟨e, by simpa using hc⟩
  · rintro ⟨e, hc⟩
    rw [e]
    show some (lock1 js i (.o d)) = _
    unfold lock1
    rw [if_neg (by rw [hc]; exact Bool.false_ne_true)]
theorem lock_v {js : List Nat} {r : Env} {i : Nat} {d : D} : (lockE js r)[i]? = some (.v d) ↔ r[i]? = some (.v d) := by
  rw [lockE_get]
  constructor
  · intro h
    obtain ⟨s, e, h⟩ := Option.map_eq_some_iff.mp h
    unfold lock1 at h
    split at h
    · cases s <;> first | (cases h; exact e) | cases h
    · subst h; exact e
  · intro e
    rw [e]
    show some (lock1 js i (.v d)) = _
    unfold lock1
    split <;> rfl
theorem lock_e {js : List Nat} {r : Env} {i : Nat} : (lockE js r)[i]? = some .e ↔ r[i]? = some .e := by
  rw [lockE_get]
  constructor
  · intro h
    obtain ⟨s, e, h⟩ := Option.map_eq_some_iff.mp h
    unfold lock1 at h
    split at h
    · cases s <;> first | (cases h; exact e) | cases h
    · subst h; exact e
  · intro e
    rw [e]
    show some (lock1 js i .e) = _
    unfold lock1
    split <;> rfl
theorem lkB_false {js : List Nat} {r : Env} {i : Nat} (h : js.contains i = false) : lkB js r i = false := by unfold lkB; rw [h]; rfl
section
variable {K : PySem.W.Frag} {σ σ' : L2.St} {H H1 H2 H' : Hp} {O O1 O2 O3 O' : List Addr} {B B1 B2 B3 B' : List (Option Addr)} {r r1 r2 r' : Env}
/-- locked: L the addresses, B3 the slots -/
structure Lk (js : List Nat) (r1 : Env) (O1 : List Addr) (B1 : List (Option Addr)) (L : List Addr) (B3 : List (Option Addr)) : Prop where
  mem : ∀ a, a ∈ L ↔ ∃ i, lkB js r1 i = true ∧ B1[i]? = some (some a)
  len : B3.length = B1.length
  get : ∀ i, B3[i]? = if lkB js r1 i then (B1[i]?.map fun _ => none) else B1[i]?
theorem Lk.of (js : List Nat) (r1 : Env) (O1 : List Addr) (B1 : List (Option Addr)) : ∃ L B3, Lk js r1 O1 B1 L B3 := by
  refine ⟨(List.range B1.length).filterMap fun i => if lkB js r1 i then B1.getD i none else none, B1.mapIdx fun i b => if lkB js r1 i then none else b, fun a => ?_, List.length_mapIdx, fun i => ?_⟩
  · rw [List.mem_filterMap]
    constructor
    · rintro ⟨i, _, h⟩
      split at h
      · rename_i hk
        refine ⟨i, hk, ?_⟩
        rw [List.getD_eq_getElem?_getD] at h
        cases e : B1[i]? with
        | none => rw [e] at h; cases h
        | some b => rw [e] at h; exact congrArg some h
      · cases h
    · rintro ⟨i, hk, e⟩
      refine ⟨i, List.mem_range.mpr (getO e), ?_⟩
      rw [if_pos hk, List.getD_eq_getElem?_getD, e]
      rfl
  · rw [List.getElem?_mapIdx]
    by_cases hk : lkB js r1 i = true
    · rw [if_pos hk]
      cases B1[i]? with
      | none => rfl
      | some b => show some (if lkB js r1 i = true then none else b) = _; rw [if_pos hk]; rfl
    · rw [if_neg hk]
      cases B1[i]? with
      | none => rfl
      | some b => show some (if lkB js r1 i = true then none else b) = _; rw [if_neg hk]
theorem Lk.sm {js : List Nat} {L : List Addr} (k : Lk js r1 O1 B1 L B3) {i : Nat} {a : Addr} (h : B3[i]? = some (some a)) : B1[i]? = some (some a) ∧ lkB js r1 i = false := by
  rw [k.get] at h
  split at h
  · cases e : B1[i]? with
    | none => rw [e] at h; cases h
    | some b => rw [e] at h; cases h
  · rename_i hk
    exact ⟨h, by simpa using hk⟩
theorem Lk.nn {js : List Nat} {L : List Addr} (k : Lk js r1 O1 B1 L B3) {i : Nat} (h : B1[i]? = some none) : B3[i]? = some none := by
  rw [k.get]
  split
  · rw [h]; rfl
  · exact h
theorem Lk.ow {js : List Nat} {L : List Addr} (k : Lk js r1 O1 B1 L B3) : ∀ b, OW (L ++ O1) B3 b ↔ OW O1 B1 b := fun b => by
  constructor
  · rintro (h | h)
    · rcases List.mem_append.mp h with h | h
      · obtain ⟨i, _, e⟩ := (k.mem b).mp h
        exact .inr (List.mem_of_getElem? e)
      · exact .inl h
    · obtain ⟨i, hi⟩ := List.getElem?_of_mem h
      exact .inr (List.mem_of_getElem? (k.sm hi).1)
  · rintro (h | h)
    · exact .inl (List.mem_append_right _ h)
    · obtain ⟨i, hi⟩ := List.getElem?_of_mem h
      by_cases hk : lkB js r1 i = true
      · exact .inl (List.mem_append_left _ ((k.mem b).mpr ⟨i, hk, hi⟩))
      · refine .inr (List.mem_of_getElem? (i := i) ?_)
        rw [k.get, if_neg hk]
        exact hi
theorem Lk.notO {js : List Nat} {L : List Addr} (k : Lk js r1 O1 B1 L B3) (h : SR K H O1 B1 r1 σ) : ∀ a ∈ L, a ∉ O1 := fun a ha m => by
  obtain ⟨i, _, e⟩ := (k.mem a).mp ha
  exact h.dis a m (List.mem_of_getElem? e)
theorem SR.lock {js : List Nat} {L : List Addr} (h : SR K H O1 B1 r1 σ) (k : Lk js r1 O1 B1 L B3) : SR K H (L ++ O1) B3 (lockE js r1) σ := by
  have ev : Evo H (OW O1 B1) H (OW (L ++ O1) B3) := Evo.refl.less fun b hb => (k.ow b).mp hb
  refine ⟨by rw [k.len, lockE_length]; exact h.lenB, by rw [lockE_length]; exact h.lenS, fun a ha z => ?_, fun i j a hi hj => h.inj i j a (k.sm hi).1 (k.sm hj).1, fun a ha => h.dom a ((k.ow a).mp ha), fun i d hd => ?_, fun i d hd => ?_, fun i d hd => ?_, fun i hi => k.nn (h.emp i (lock_e.mp hi))⟩
  · obtain ⟨j, hj⟩ := List.getElem?_of_mem z
    obtain ⟨e1, e2⟩ := k.sm hj
    rcases List.mem_append.mp ha with m | m
    · obtain ⟨i, e3, e4⟩ := (k.mem a).mp m
      have := h.inj i j a e4 e1
      subst this
      rw [e2] at e3
      cases e3
    · exact h.dis a m (List.mem_of_getElem? e1)
  · obtain ⟨e1, v, e2, e3⟩ := h.val i d (lock_v.mp hd)
    exact ⟨k.nn e1, v, e2, e3.evo ev⟩
  · obtain ⟨e, hc⟩ := lock_o.mp hd
    obtain ⟨a, e1, e2, e3⟩ := h.own i d e
    refine ⟨a, ?_, e2, e3.evo ev rfl⟩
    rw [k.get, if_neg (by rw [lkB_false hc]; exact Bool.false_ne_true)]
    exact e1
  · rcases lock_l.mp hd with e | ⟨e, hc⟩
    · obtain ⟨e1, a, e2, e3, e4⟩ := h.lck i d e
      exact ⟨k.nn e1, a, List.mem_append_right _ e2, e3, e4.evo ev rfl⟩
    · obtain ⟨a, e1, e2, e3⟩ := h.own i d e
      have hk : lkB js r1 i = true := by unfold lkB; rw [hc, e]; rfl
      refine ⟨?_, a, List.mem_append_left _ ((k.mem a).mpr ⟨i, hk, e1⟩), e2, e3.evo ev rfl⟩
      rw [k.get, if_pos hk, e1]
      rfl
theorem unlkE_get {js : List Nat} (hl : r'.length = r1.length) (hk : ∀ (i : Nat) d, r'[i]? = some (.l d) ↔ (lockE js r1)[i]? = some (.l d)) (i : Nat) :
    (unlkE js r1 r')[i]? = if lkB js r1 i then r1[i]? else r'[i]? := by
  unfold unlkE
  split
  · rename_i h
    have e : js = [] := by cases js with | nil => rfl | cons _ _ => cases h
    subst e
    rw [if_neg (by rw [lkB_false (by rfl)]; exact Bool.false_ne_true)]
  · rw [List.getElem?_zipWith]
    by_cases hb : lkB js r1 i = true
    · obtain ⟨hc, d, e⟩ := lkB_at hb
      have e2 := (hk i d).mpr (lock_l.mpr (.inr ⟨e, hc⟩))
      rw [if_pos hb, e, e2]
      rfl
    · rw [if_neg hb]
      cases e1 : r1[i]? with
      | none =>
        have : r'[i]? = none := by rw [List.getElem?_eq_none_iff, hl]; exact List.getElem?_eq_none_iff.mp e1
        rw [this]
      | some s =>
        cases e2 : r'[i]? with
        | none => rfl
        | some s' =>
          show some (unlk1 s s') = _
          cases s <;> first
            | rfl
            | (cases s' <;> first
                | rfl
                | (exfalso
                   rename_i x y
                   rcases lock_l.mp ((hk i _).mp e2) with z | ⟨z, hc⟩
                   · rw [e1] at z; cases z
                   · exact hb (by unfold lkB; rw [hc, e1]; rfl)))
/-- the walk is over: what was owned is so again -/
theorem SR.unlock {js : List Nat} {L O'' : List Addr} (h1 : SR K H1 O1 B1 r1 σ) (k : Lk js r1 O1 B1 L B3) (h : SR K H' O' B' r' σ') (hl : σ'.length = σ.length)
    (hk : ∀ (i : Nat) d, r'[i]? = some (.l d) ↔ (lockE js r1)[i]? = some (.l d)) (hσ : ∀ (i : Nat) d, (lockE js r1)[i]? = some (.l d) → σ'[i]? = σ[i]?)
    (o1 : ∀ b ∈ L, b ∈ O') (o2 : ∀ b ∈ O'', b ∈ O') (o3 : ∀ b ∈ O'', b ∉ L) (o4 : ∀ b ∈ O1, b ∈ O'') :
    ∃ B'', SR K H' O'' B'' (unlkE js r1 r') σ' ∧ (∀ b, OW O'' B'' b → OW O' B' b) ∧ ∀ (i : Nat) d, (unlkE js r1 r')[i]? = some (.l d) ↔ r1[i]? = some (.l d) := by
  have hr : r'.length = r1.length := by rw [← h.lenS, hl, h1.lenS]
  have lB : B'.length = B1.length := by rw [h.lenB, hr, h1.lenB]
  have gu := unlkE_get (js := js) hr hk
  have lkat : ∀ {i : Nat}, lkB js r1 i = true → ∃ d a, r1[i]? = some (.o d) ∧ B1[i]? = some (some a) ∧ σ'[i]? = some (some (.ref a)) ∧ Ob K H' (OW O' B') d a ∧ a ∈ L := fun {i} hb => by
    obtain ⟨hc, d, e⟩ := lkB_at hb
    have e1 := lock_l.mpr (.inr ⟨e, hc⟩)
    obtain ⟨a, e2, e3, e4⟩ := h1.own i d e
    obtain ⟨_, a', m, e5, e6⟩ := h.lck i d ((hk i d).mpr e1)
    have e7 := hσ i d e1
    rw [e5, e3] at e7
    cases e7
    exact ⟨d, a, e, e2, e5, e6, (k.mem a).mpr ⟨i, hb, e2⟩⟩
  obtain ⟨B'', lB2, gB⟩ : ∃ B'' : List (Option Addr), B''.length = B1.length ∧ ∀ i, B''[i]? = if lkB js r1 i then B1[i]? else B'[i]? := by
    refine ⟨B'.mapIdx fun i b => if lkB js r1 i then B1.getD i none else b, by rw [List.length_mapIdx, lB], fun i => ?_⟩
    rw [List.getElem?_mapIdx]
    by_cases hb : lkB js r1 i = true
    · rw [if_pos hb]
      obtain ⟨d, a, _, e, _⟩ := lkat hb
      have hi : i < B'.length := by rw [lB]; exact getO e
      rw [List.getElem?_eq_getElem hi, e]
      show some (if lkB js r1 i = true then B1.getD i none else B'[i]) = _
      rw [if_pos hb, List.getD_eq_getElem?_getD, e]
      rfl
    · rw [if_neg hb]
      cases B'[i]? with
      | none => rfl
      | some b => show some (if lkB js r1 i = true then _ else b) = _; rw [if_neg hb]
  have memB : ∀ {a : Addr} {i : Nat}, B''[i]? = some (some a) → (lkB js r1 i = true ∧ B1[i]? = some (some a) ∧ a ∈ L) ∨ (lkB js r1 i = false ∧ B'[i]? = some (some a)) := fun {a i} e => by
    rw [gB] at e
    split at e
    · rename_i hb
      exact .inl ⟨hb, e, (k.mem a).mpr ⟨i, hb, e⟩⟩
    · rename_i hb
      exact .inr ⟨by simpa using hb, e⟩
  have w : ∀ b, OW O'' B'' b → OW O' B' b := fun b hb => by
    rcases hb with m | m
    · exact .inl (o2 b m)
    · obtain ⟨i, hi⟩ := List.getElem?_of_mem m
      rcases memB hi with ⟨_, _, m2⟩ | ⟨_, e⟩
      · exact .inl (o1 b m2)
      · exact .inr (List.mem_of_getElem? e)
  have ev : Evo H' (OW O' B') H' (OW O'' B'') := Evo.refl.less w
  have lu : (unlkE js r1 r').length = r1.length := by
    unfold unlkE
    split
    · exact hr
    · rw [List.length_zipWith, hr]; omega
  have nlk : ∀ {i : Nat} {s : Sl}, (unlkE js r1 r')[i]? = some s → (lkB js r1 i = true ∧ r1[i]? = some s) ∨ (lkB js r1 i = false ∧ r'[i]? = some s) := fun {i s} e => by
    rw [gu] at e
    split at e
    · exact .inl ⟨by assumption, e⟩
    · rename_i hb; exact .inr ⟨by simpa using hb, e⟩
  refine ⟨B'', ⟨by rw [lB2, lu]; exact h1.lenB, by rw [lu, hl]; exact h1.lenS, fun a ha z => ?_, fun i j a hi hj => ?_, fun a ha => h.dom a (w a ha), fun i d hd => ?_, fun i d hd => ?_, fun i d hd => ?_, fun i hi => ?_⟩, w, fun i d => ?_⟩
  · obtain ⟨i, hi⟩ := List.getElem?_of_mem z
    rcases memB hi with ⟨_, _, m⟩ | ⟨_, e⟩
    · exact o3 a ha m
    · exact h.dis a (o2 a ha) (List.mem_of_getElem? e)
  · rcases memB hi with ⟨_, e1, m1⟩ | ⟨_, e1⟩ <;> rcases memB hj with ⟨_, e2, m2⟩ | ⟨_, e2⟩
    · exact h1.inj i j a e1 e2
    · exact absurd (List.mem_of_getElem? e2) (h.dis a (o1 a m1))
    · exact absurd (List.mem_of_getElem? e1) (h.dis a (o1 a m2))
    · exact h.inj i j a e1 e2
  · rcases nlk hd with ⟨hb, e⟩ | ⟨hb, e⟩
    · obtain ⟨d', a, e1, _⟩ := lkat hb
      rw [e] at e1
      cases e1
    · obtain ⟨e1, v, e2, e3⟩ := h.val i d e
      refine ⟨?_, v, e2, e3.evo ev⟩
      rw [gB, if_neg (by rw [hb]; exact Bool.false_ne_true)]
      exact e1
  · rcases nlk hd with ⟨hb, e⟩ | ⟨hb, e⟩
    · obtain ⟨d', a, e1, e2, e3, e4, _⟩ := lkat hb
      rw [e] at e1
      cases e1
      refine ⟨a, ?_, e3, e4.evo ev rfl⟩
      rw [gB, if_pos hb]
      exact e2
    · obtain ⟨a, e1, e2, e3⟩ := h.own i d e
      refine ⟨a, ?_, e2, e3.evo ev rfl⟩
      rw [gB, if_neg (by rw [hb]; exact Bool.false_ne_true)]
      exact e1
  · rcases nlk hd with ⟨hb, e⟩ | ⟨hb, e⟩
    · obtain ⟨d', a, e1, _⟩ := lkat hb
      rw [e] at e1
      cases e1
    · obtain ⟨e1, a, e2, e3, e4⟩ := h.lck i d e
      have e5 := (hk i d).mp e
      rcases lock_l.mp e5 with z | ⟨z, hc⟩
      · obtain ⟨_, a', m, e6, _⟩ := h1.lck i d z
        have e7 := hσ i d e5
        rw [e3, e6] at e7
        cases e7
        refine ⟨?_, a, o4 a m, e3, e4.evo ev rfl⟩
        rw [gB, if_neg (by rw [hb]; exact Bool.false_ne_true)]
        exact e1
      · have : lkB js r1 i = true := by unfold lkB; rw [hc, z]; rfl
        rw [hb] at this
        cases this
  · rcases nlk hi with ⟨hb, e⟩ | ⟨hb, e⟩
    · obtain ⟨d', a, e1, _⟩ := lkat hb
      rw [e] at e1
      cases e1
    · rw [gB, if_neg (by rw [hb]; exact Bool.false_ne_true)]
      exact h.emp i e
  · constructor
    · intro hd
      rcases nlk hd with ⟨hb, e⟩ | ⟨hb, e⟩
      · exact e
      · rcases lock_l.mp ((hk i d).mp e) with z | ⟨z, hc⟩
        · exact z
        · have : lkB js r1 i = true := by unfold lkB; rw [hc, z]; rfl
          rw [hb] at this
          cases this
    · intro e
      have hb : lkB js r1 i = false := by
        unfold lkB
        rw [e, Bool.and_false]
      rw [gu, if_neg (by rw [hb]; exact Bool.false_ne_true)]
      exact (hk i d).mpr (lock_l.mpr (.inl e))
end

structure Src (K : PySem.W.Frag) (J : It) (ys : List D) (S : Hp → List Addr → List (Option Addr) → Prop) : Prop where
  keep : ∀ {H O B H' O' B'}, S H O B → Evo H (OW O B) H' (OW O' B') → (∀ b ∈ O, H' b = H b ∧ b ∈ O') → S H' O' B'
  go : ∀ {i : Nat} {H O B}, S H O B → i < ys.length → J.go i H
  stop : ∀ {H O B}, S H O B → J.stop ys.length H
  item : ∀ {i : Nat} {H O B x H' d}, S H O B → (∀ b, OW O B b → H b ≠ none) → ys[i]? = some d → J.yld i H x H' → NewR K H (OW O B) H' x (d, false)
section
variable {K : PySem.W.Frag} {σ : L2.St} {H H1 H' : Hp} {O O1 O' : List Addr} {B B1 B' : List (Option Addr)}
/-- a list that stands while it is walked -/
def LsS (K : PySem.W.Frag) (H : Hp) (O : List Addr) (B : List (Option Addr)) (a : Addr) (vs : List V) : Prop :=
  (H a = some (.lst vs) ∧ (a ∈ O ∨ ¬ OW O B a)) ∨ (Rd H a (.lst vs) ∧ ¬ OW O B a) ∨ KL K a vs
theorem LsS.sq {a : Addr} {vs : List V} (h : LsS K H O B a vs) : SqL K H a vs := by
  rcases h with ⟨h, _⟩ | ⟨h, _⟩ | h
  · exact .inl (.inl h)
  · exact .inl h
  · exact .inr h
theorem LsS.keep {a : Addr} {vs : List V} (h : LsS K H O B a vs) (e : Evo H (OW O B) H' (OW O' B')) (k : ∀ b ∈ O, H' b = H b ∧ b ∈ O') : LsS K H' O' B' a vs := by
  rcases h with ⟨h, m | m⟩ | ⟨h, m⟩ | h
  · exact .inl ⟨(k a m).1.trans h, .inl (k a m).2⟩
  · exact .inl ⟨(e.keep a _ h m).1, .inr (e.keep a _ h m).2⟩
  · exact .inr (.inl (e.rd h m))
  · exact .inr (.inr h)
theorem src_list {a : Addr} {xs : List D} {vs : List V} : Src K (Itl K a) xs (fun H O B => LsS K H O B a vs ∧ RpL K H (OW O B) xs vs) where
  keep := fun h e k => ⟨h.1.keep e k, h.2.evo e⟩
  go := fun {i H O B} h hi => by
    have hi' : i < vs.length := by rw [← h.2.length]; exact hi
    exact ⟨vs, vs[i], h.1.sq, List.getElem?_eq_getElem hi'⟩
  stop := fun h => ⟨vs, h.1.sq, by rw [h.2.length]; exact Nat.le_refl _⟩
  item := fun {i H O B x H' d} h hW e y => by
    obtain ⟨rfl, y⟩ := y
    obtain ⟨v, e1, rv⟩ := h.2.get e
    have e2 := y vs h.1.sq
    rw [e1] at e2
    cases e2
    exact .same rv
theorem src_tup {a : Addr} {xs : List D} {vs : List V} : Src K (Itt K a) xs (fun H O B => TpR K H (OW O B) a vs ∧ RpL K H (OW O B) xs vs) where
  keep := fun h e k => ⟨h.1.evo e, h.2.evo e⟩
  go := fun {i H O B} h hi => by
    have hi' : i < vs.length := by rw [← h.2.length]; exact hi
    exact ⟨vs, vs[i], h.1.sq, List.getElem?_eq_getElem hi'⟩
  stop := fun h => ⟨vs, h.1.sq, by rw [h.2.length]; exact Nat.le_refl _⟩
  item := fun {i H O B x H' d} h hW e y => by
    obtain ⟨rfl, y⟩ := y
    obtain ⟨v, e1, rv⟩ := h.2.get e
    have e2 := y vs h.1.sq
    rw [e1] at e2
    cases e2
    exact .same rv
theorem src_str {s : List Nat} : Src K (Its (sS s)) (chars s) (fun _ _ _ => True) where
  keep := fun _ _ _ => trivial
  go := fun {i H O B} _ hi => by
    show i < (sS s).cps.size
    simpa [chars, sS] using hi
  stop := fun _ => by
    show (sS s).cps.size ≤ (chars s).length
    simp [chars, sS]
  item := fun {i H O B x H' d} h hW e y => by
    obtain ⟨rfl, c, e1, rfl⟩ := y
    have e2 : s[i]? = some c := by simpa [sS] using e1
    have e3 : d = .str [c] := by
      unfold chars at e
      rw [List.getElem?_map, e2] at e
      exact (Option.some.inj e).symm
    subst e3
    exact .same (str_rp _)
theorem src_range {lo : Int} {n : Nat} {ys : List D} (hy : ys = (List.range n).map fun (k : Nat) => .int (lo + k)) : Src K (Itr lo n) ys (fun _ _ _ => True) where
  keep := fun _ _ _ => trivial
  go := fun {i H O B} _ hi => by
    subst hy
    show i < n
    simpa using hi
  stop := fun _ => by
    subst hy
    show n ≤ _
    simp
  item := fun {i H O B x H' d} h hW e y => by
    subst hy
    obtain ⟨rfl, rfl⟩ := y
    rw [List.getElem?_map] at e
    cases e1 : (List.range n)[i]? with
    | none => rw [e1] at e; cases e
    | some k =>
      rw [e1] at e
      cases e
      have hi : i < n := by simpa using getO e1
      have : k = i := by
        rw [List.getElem?_range hi] at e1
        exact (Option.some.inj e1).symm
      subst this
      exact .same (int_rp _)
theorem enum_get : ∀ (xs : List D) (k i : Nat), (enumFrom k xs)[i]? = xs[i]?.map fun x => .tup [.int ((k + i : Nat) : Int), x]
  | [], k, i => by simp [enumFrom]
  | x :: xs, k, 0 => by simp [enumFrom]
  | x :: xs, k, i + 1 => by
    simp only [enumFrom, List.getElem?_cons_succ]
    rw [enum_get xs (k + 1) i]
    have : k + 1 + i = k + (i + 1) := by omega
    rw [this]
theorem enum_length (xs : List D) (k : Nat) : (enumFrom k xs).length = xs.length := by
  induction xs generalizing k with
  | nil => rfl
  | cons x xs ih => simp [enumFrom, ih]
theorem src_enum {a : Addr} {xs : List D} {vs : List V} : Src K (Ite K a) (enumFrom 0 xs) (fun H O B => LsS K H O B a vs ∧ RpL K H (OW O B) xs vs) where
  keep := fun h e k => ⟨h.1.keep e k, h.2.evo e⟩
  go := fun {i H O B} h hi => by
    rw [enum_length] at hi
    have hi' : i < vs.length := by rw [← h.2.length]; exact hi
    exact ⟨vs, vs[i], h.1.sq, List.getElem?_eq_getElem hi'⟩
  stop := fun h => ⟨vs, h.1.sq, by rw [enum_length, h.2.length]; exact Nat.le_refl _⟩
  item := fun {i H O B x H' d} h hW e y => by
    obtain ⟨T, w, rfl, nT, rfl, y⟩ := y
    rw [enum_get, Nat.zero_add] at e
    obtain ⟨x0, e0, rfl⟩ := Option.map_eq_some_iff.mp e
    obtain ⟨v, e1, rv⟩ := h.2.get e0
    have e2 := y vs h.1.sq
    rw [e1] at e2
    cases e2
    exact .tuple hW nT (.cons (int_rp _) (.cons rv .nil))
theorem zip_get : ∀ (xs ys : List D) (i : Nat) (d : D), (zipD xs ys)[i]? = some d → ∃ x y, xs[i]? = some x ∧ ys[i]? = some y ∧ d = .tup [x, y]
  | [], _, i, d, h => by simp [zipD] at h
  | _ :: _, [], i, d, h => by simp [zipD] at h
  | x :: xs, y :: ys, 0, d, h => by
    simp [zipD] at h
    exact ⟨x, y, rfl, rfl, h.symm⟩
  | x :: xs, y :: ys, i + 1, d, h => by
    simp only [zipD, List.getElem?_cons_succ] at h
    obtain ⟨a, b, h1, h2, h3⟩ := zip_get xs ys i d h
    exact ⟨a, b, by simpa using h1, by simpa using h2, h3⟩
theorem zip_length : ∀ xs ys : List D, (zipD xs ys).length = min xs.length ys.length
  | [], _ => by simp [zipD]
  | _ :: _, [] => by simp [zipD]
  | x :: xs, y :: ys => by simp [zipD, zip_length xs ys]
theorem src_zip {a b : Addr} {xs ys : List D} {vs us : List V} : Src K (Itz K a b) (zipD xs ys) (fun H O B => (LsS K H O B a vs ∧ RpL K H (OW O B) xs vs) ∧ LsS K H O B b us ∧ RpL K H (OW O B) ys us) where
  keep := fun h e k => ⟨⟨h.1.1.keep e k, h.1.2.evo e⟩, h.2.1.keep e k, h.2.2.evo e⟩
  go := fun {i H O B} h hi => by
    rw [zip_length] at hi
    have hi1 : i < vs.length := by rw [← h.1.2.length]; omega
    have hi2 : i < us.length := by rw [← h.2.2.length]; omega
    exact ⟨vs, us, vs[i], us[i], h.1.1.sq, h.2.1.sq, List.getElem?_eq_getElem hi1, List.getElem?_eq_getElem hi2⟩
  stop := fun h => ⟨vs, us, h.1.1.sq, h.2.1.sq, by
    have := h.1.2.length
    have := h.2.2.length
    rw [zip_length]
    omega⟩
  item := fun {i H O B x H' d} h hW e y => by
    obtain ⟨T, w, z, rfl, nT, rfl, y1, y2⟩ := y
    obtain ⟨x0, y0, e1, e2, rfl⟩ := zip_get xs ys i d e
    obtain ⟨v, e3, rv⟩ := h.1.2.get e1
    obtain ⟨u, e4, ru⟩ := h.2.2.get e2
    have e5 := y1 vs h.1.1.sq
    have e6 := y2 us h.2.1.sq
    rw [e3] at e5
    rw [e4] at e6
    cases e5
    cases e6
    exact .tuple hW nT (.cons rv (.cons ru .nil))
end
end Pv
namespace Pv
open PySem PySem.Spec PyProof.Rows L2
/-- the signs of a text, each in a new pair behind its place -/
def Ites (x : Str) : It :=
  ⟨fun i _ => i < x.cps.size, fun i H v H' => ∃ T c, v = .ref T ∧ H T = none ∧ H' = upd H T (.tup [.int (i : Nat), .str ⟨#[c]⟩]) ∧ x.cps[i]? = some c, fun i _ => x.cps.size ≤ i⟩
theorem draws_str {P : Program} {w : World} {A : Around} (hh : A.handled = none) (it : Addr) (x : Str) (t : Tok) :
    Draws P w A it [it] x.cps.size (fun i v => ∃ c u, x.cps[i]? = some c ∧ v = .str ⟨#[c]⟩ u) (fun i h => h.IsStrIter it (strIterType x) x t i) := by
  unfold strIterType
  split
  · exact Draws.strAscii hh it x t
  · exact Draws.strWide hh it x t
theorem turn_enumS {P : Program} {w : World} {K : PySem.W.Frag} {elts : List Expr} {kk : Nat} {tpos : Pos} (x : Str) (tt : Tok) (e it : Addr) :
    Turn P w K (.Tuple elts kk tpos) (Ites x) [e, it] e (fun i h => (∃ old, IsEnum h e it ((i : Nat) : Int) old) ∧ h.IsStrIter it (strIterType x) x tt i ∧ e ≠ it) where
  mem := by simp
  obj := fun i h st b hb => by
    obtain ⟨⟨old, he⟩, ⟨o, ho, hc, hd⟩, _⟩ := st
    have e' : b = e ∨ b = it := by simpa using hb
    rcases e' with z | z
    · rw [z]; exact ⟨_, he, fun v q => nomatch q⟩
    · rw [z]; exact ⟨o, ho, fun v q => by rw [hd] at q; cases q⟩
  keep := fun i h h' st k => let ⟨⟨old, he⟩, ⟨o, ho, r⟩, hne⟩ := st; ⟨⟨old, k e (by simp) _ he⟩, ⟨o, k it (by simp) o ho, r⟩, hne⟩
  item := by
    intro X hP hw hK hc i pins s σ H E I hf st hg
    subst hP hw hK
    obtain ⟨⟨old, he⟩, hit, hne⟩ := st
    have hel : e < s.heap.objs.size := Heap.lt_size he
    have hil : it < s.heap.objs.size := by obtain ⟨_, q, _⟩ := hit; exact Heap.lt_size q
    have D := draws_str (P := X.prog) (w := X.w) (A := X.A.in1) (I.ok.hd hc) it x tt
    refine wpAny_pyNext_enum_itemD D he hit hg hne (by simpa using hne) fun u h' tk hu ho hit' hT hsz hk => ?_
    obtain ⟨c, u', hcx, rfl⟩ := hu
    refine ⟨_, rfl, wpAny_letOwnedTupleGo_enum (s := { s with heap := h', toks := tk + 1 }) ho fun h'' he' sb => ?_⟩
    have hT2 : h''.get? s.heap.objs.size = some { cls := .type "tuple", data := .seq #[.int i tk, .str ⟨#[c]⟩ u'] } := (sb.2 _ (Nat.ne_of_gt hel)).trans hT
    have new : ObjOk X.prog X.w (upd H s.heap.objs.size (.tup [.int (i : Nat), .str ⟨#[c]⟩])) h'' s.heap.objs.size (.tup [.int (i : Nat), .str ⟨#[c]⟩]) :=
      ⟨by show 2 ≤ sizeLine; decide, [.int i tk, .str ⟨#[c]⟩ u'], .cons ⟨_, rfl⟩ (.cons ⟨_, rfl⟩ .nil), ⟨_, hT2, rfl, _, rfl⟩⟩
    have I1 : Inv X pins σ (upd H s.heap.objs.size (.tup [.int (i : Nat), .str ⟨#[c]⟩])) { s with heap := h'', toks := tk + 1 } :=
      I.turnedNew (ch := [e, it]) (fun b ob hb q => (sb.2 b (fun z => hb (by simp [z]))).trans (hk b ob (fun z => hb (by simp [z])) (fun z => hb (by simp [z])) q)) hf (Nat.le_refl _) new
    refine ⟨.ref s.heap.objs.size, _, I1, rfl, ⟨_, c, rfl, I.hok.fresh (Nat.le_refl _), rfl, hcx⟩, ⟨⟨.str ⟨#[c]⟩ u', ?_⟩, ?_, hne⟩, fun b hb => ?_⟩
    · have e1 : ((i + 1 : Nat) : Int) = (i : Int) + 1 := by omega
      rw [e1]; exact he'
    · obtain ⟨o, ho2, r⟩ := hit'
      exact ⟨o, (sb.2 it (Ne.symm hne)).trans ho2, r⟩
    · have hb' : b < s.heap.objs.size := by
        have e' : b = e ∨ b = it := by simpa using hb
        rcases e' with z | z
        · rw [z]; exact hel
        · rw [z]; exact hil
      rw [upd_ne (Nat.ne_of_lt hb')]
      exact (hf b hb).1
  done := by
    intro X hP hw hK hc i pins s σ H E I hf st hg
    subst hP hw hK
    obtain ⟨⟨old, he⟩, hit, hne⟩ := st
    obtain ⟨f0, f1, f2, f3, f4, f5⟩ := hf it (by simp)
    have D : Draws X.prog X.w X.A.in1 it [it] i (fun _ _ => True) (fun j h => j = i ∧ h.IsStrIter it (strIterType x) x tt i) :=
      { live := fun _ _ st => let ⟨_, o, ho, _⟩ := st; ⟨o, ho⟩
        frame := fun _ _ _ st hk => let ⟨e, o, ho, r⟩ := st; ⟨e, o, hk it (by simp) o ho, r⟩
        item := fun j s Q E hi st _ => absurd st.1 (Nat.ne_of_lt hi)
        done := fun s Q E st hE => by
          have hx : x.cps[i]? = none := Array.getElem?_eq_none hg
          have st2 := st.2
          unfold strIterType at st2
          split at st2
          · exact wpAny_nextOf_ascii_end (I.ok.hd hc) st2 hx hE
          · exact wpAny_nextOf_wide_end (I.ok.hd hc) st2 hx hE }
    exact wpAny_pyNext_enum_endD D he ⟨rfl, hit⟩ fun h' eb => ⟨rfl, I.turned (t' := s.toks) (fun b o hb q => eb b o hb q) f0 f1 f3 f4 f5⟩
  self := fun A i s Q E st h => let ⟨⟨_, he⟩, _⟩ := st; wpAny_pyIter_enum he h
def iEnumS (K : PySem.W.Frag) (ta : TA) : TI := fun σ H R => ta σ H fun vs H1 => ∃ x, vs = [.str x] ∧ R (Ites x) H1
theorem pi_enumS {X : Cx} {e : Expr} {ta : TA} {p pos tpos : Pos} {elts : List Expr} {kk : Nat} (hg : Gl X "enumerate") (hm : X.mg "enumerate" = none) (ha : PA X [e] ta) (hs : starEach [e] X.env = [(false, eval e X.env)] := by rfl) :
    PI X (.Tuple elts kk tpos) (.Call (.Name "enumerate" p) [e] [] pos) (iEnumS X.K ta) := by
  refine ⟨fun pins s σ H R I h => ?_⟩
  refine Call_ (ld_blt I hg hm boot_enumerate (PyProof.Rows.callWith_type1 (thn (ha.run pos pins s σ H _ I h) fun us s1 ⟨vs, H1, I1, r1, q1⟩ => ?_) hs rfl))
  obtain ⟨x, ex, q⟩ := q1
  subst ex
  cases r1 with
  | cons r rr =>
    cases rr
    obtain ⟨t, rfl⟩ := r
    refine call_enumerate_str fun h' he hit hsz hk => wpAny_pyIter_enum he ?_
    have I2 : Inv X pins σ H1 { s1 with heap := h' } := I1.kept (t' := s1.toks) hk
    refine ⟨s1.heap.objs.size + 1, [s1.heap.objs.size + 1, s1.heap.objs.size], _, _, H1, rfl, I2, turn_enumS x t (s1.heap.objs.size + 1) s1.heap.objs.size, ⟨⟨.none, he⟩, hit, Nat.succ_ne_self _⟩, fun b hb => ?_, q⟩
    have e' : b = s1.heap.objs.size + 1 ∨ b = s1.heap.objs.size := by simpa using hb
    have hle : s1.heap.objs.size ≤ b := by
      rcases e' with z | z
      · rw [z]; exact Nat.le_add_right _ _
      · rw [z]; exact Nat.le_refl _
    exact I1.fpOk hle (I1.hok.fresh hle)
end Pv
namespace Pv
open PySem PySem.Spec PyProof.Rows L2
section
variable {K : PySem.W.Frag} {σ σ' : L2.St} {H H1 H2 H' : Hp} {O O1 O2 O3 O' : List Addr} {B B1 B2 B3 B' : List (Option Addr)} {r r1 r2 r' : Env}
/-- a step that stores at the places ix -/
structure Sto (K : PySem.W.Frag) (ix : List Nat) (σ : L2.St) (H : Hp) (O : List Addr) (B : List (Option Addr)) (r : Env) (σ' : L2.St) (H' : Hp) (O' : List Addr) (B' : List (Option Addr)) (r' : Env) : Prop where
  sr : SR K H' O' B' r' σ'
  evo : Evo H (OW O B) H' (OW O' B')
  ko : ∀ b ∈ O, H' b = H b ∧ b ∈ O'
  lk : ∀ (i : Nat) d, r'[i]? = some (.l d) ↔ r[i]? = some (.l d)
  sl : ∀ (i : Nat) d, r[i]? = some (.l d) → σ'[i]? = σ[i]?
  out : ∀ i, i ∉ ix → σ'[i]? = σ[i]?
  len : σ'.length = σ.length
theorem Sto.refl {ix : List Nat} (h : SR K H O B r σ) : Sto K ix σ H O B r σ H O B r := ⟨h, .refl, fun _ hb => ⟨rfl, hb⟩, fun _ _ => .rfl, fun _ _ _ => rfl, fun _ _ => rfl, rfl⟩
theorem Sto.trans {ix : List Nat} {σ1 σ2 : L2.St} (a : Sto K ix σ H O B r σ1 H1 O1 B1 r1) (b : Sto K ix σ1 H1 O1 B1 r1 σ2 H2 O2 B2 r2) : Sto K ix σ H O B r σ2 H2 O2 B2 r2 :=
  ⟨b.sr, a.evo.trans b.evo, fun c hc => let ⟨e1, m1⟩ := a.ko c hc; let ⟨e2, m2⟩ := b.ko c m1; ⟨e2.trans e1, m2⟩, fun i d => (b.lk i d).trans (a.lk i d),
    fun i d e => (b.sl i d ((a.lk i d).mpr e)).trans (a.sl i d e), fun i hi => (b.out i hi).trans (a.out i hi), b.len.trans a.len⟩
theorem Tr.sto {ix : List Nat} (t : Tr K σ H O B r H' O' B' r') : Sto K ix σ H O B r σ H' O' B' r' := ⟨t.sr, t.evo, t.ko, t.lk, fun _ _ _ => rfl, fun _ _ => rfl, rfl⟩
theorem Sto.mono {ix jx : List Nat} (a : Sto K ix σ H O B r σ' H' O' B' r') (h : ∀ i ∈ ix, i ∈ jx) : Sto K jx σ H O B r σ' H' O' B' r' := ⟨a.sr, a.evo, a.ko, a.lk, a.sl, fun i hi => a.out i fun z => hi (h i z), a.len⟩
theorem Sto.less {ix : List Nat} {O'' : List Addr} (h0 : SR K H O B r σ) (a : Sto K ix σ H O B r σ' H' O' B' r') (hs : ∀ b ∈ O, b ∈ O'') (hs2 : ∀ b ∈ O'', b ∈ O') : Sto K ix σ H O B r σ' H' O'' B' r' := by
  refine ⟨a.sr.less hs2 fun i d c e1 e2 _ => ?_, a.evo.less fun b hb => hb.imp (hs2 b) id, fun b hb => ⟨(a.ko b hb).1, hs b hb⟩, a.lk, a.sl, a.out, a.len⟩
  have e3 := (a.lk i d).mp e1
  obtain ⟨_, c', m, e, _⟩ := h0.lck i d e3
  rw [a.sl i d e3, e] at e2
  cases e2
  exact hs c m
theorem Sto.back {ix : List Nat} (h0 : SR K H O B r σ) (a : Sto K ix σ H O B r σ' H' O' B' r') : Sto K ix σ H O B r σ' H' O B' r' := a.less h0 (fun _ h => h) fun b hb => (a.ko b hb).2
/-- a slot gets s, its state x: b its own object -/
theorem SR.put {i : Nat} {s : Sl} {x : Option V} {b : Option Addr} (h : SR K H O1 B r σ) (hi : i < r.length) (nl : ∀ d, r[i]? ≠ some (.l d)) (hO : ∀ c ∈ O, c ∈ O1) (hL : ∀ (j : Nat) d a, r[j]? = some (.l d) → σ[j]? = some (some (.ref a)) → a ∈ O1 → a ∈ O)
    (hb : ∀ a, b = some a → a ∈ O1 ∧ a ∉ O)
    (hv : ∀ d, s = .v d → b = none ∧ ∃ v, x = some v ∧ Rp K H (OW O (B.set i b)) d v)
    (ho : ∀ d, s = .o d → ∃ a, b = some a ∧ x = some (.ref a) ∧ Ob K H (OW O (B.set i b)) d a)
    (hl : ∀ d, s ≠ .l d) (he : s = .e → b = none) :
    SR K H O (B.set i b) (r.set i s) (σ.set i x) ∧ Evo H (OW O1 B) H (OW O (B.set i b)) ∧ (∀ (j : Nat) d, (r.set i s)[j]? = some (.l d) ↔ r[j]? = some (.l d)) ∧ (∀ (j : Nat) d, r[j]? = some (.l d) → (σ.set i x)[j]? = σ[j]?) := by
  have hib : i < B.length := by rw [h.lenB]; exact hi
  have his : i < σ.length := by rw [h.lenS]; exact hi
  have old : ∀ j c, (B.set i b)[j]? = some (some c) → (j = i ∧ b = some c) ∨ (j ≠ i ∧ B[j]? = some (some c)) := fun j c hj => by
    by_cases q : i = j
    · subst q
      rw [List.getElem?_set_self hib] at hj
      exact .inl ⟨rfl, Option.some.inj hj⟩
    · rw [List.getElem?_set_ne q] at hj
      exact .inr ⟨fun e => q e.symm, hj⟩
  have w : ∀ c, OW O (B.set i b) c → OW O1 B c := fun c hc => by
    rcases hc with m | m
    · exact .inl (hO c m)
    · obtain ⟨j, hj⟩ := List.getElem?_of_mem m
      rcases old j c hj with ⟨_, e⟩ | ⟨_, e⟩
      · exact .inl (hb c e).1
      · exact .inr (List.mem_of_getElem? e)
  have ev : Evo H (OW O1 B) H (OW O (B.set i b)) := Evo.refl.less w
  refine ⟨⟨by rw [List.length_set, List.length_set]; exact h.lenB, by rw [List.length_set, List.length_set]; exact h.lenS, fun c hc z => ?_, fun j k c hj hk => ?_, fun c hc => h.dom c (w c hc), fun j x' hj => ?_, fun j x' hj => ?_, fun j x' hj => ?_, fun j hj => ?_⟩, ev, fun j d => ?_, fun j d hj => ?_⟩
  · obtain ⟨j, hj⟩ := List.getElem?_of_mem z
    rcases old j c hj with ⟨_, e⟩ | ⟨_, e⟩
    · exact (hb c e).2 hc
    · exact h.dis c (hO c hc) (List.mem_of_getElem? e)
  · rcases old j c hj with ⟨e1, e2⟩ | ⟨e1, e2⟩ <;> rcases old k c hk with ⟨e3, e4⟩ | ⟨e3, e4⟩
    · rw [e1, e3]
    · exact absurd (List.mem_of_getElem? e4) (h.dis c (hb c e2).1)
    · exact absurd (List.mem_of_getElem? e2) (h.dis c (hb c e4).1)
    · exact h.inj j k c e2 e4
  · by_cases q : i = j
    · subst q
      rw [List.getElem?_set_self hi] at hj
      obtain ⟨e1, v, e2, e3⟩ := hv x' (Option.some.inj hj)
      exact ⟨by rw [List.getElem?_set_self hib, e1], v, by rw [List.getElem?_set_self his, e2], e3⟩
    · rw [List.getElem?_set_ne q] at hj ⊢
      rw [List.getElem?_set_ne q]
      obtain ⟨h1, v, h2, h3⟩ := h.val j x' hj
      exact ⟨h1, v, h2, h3.evo ev⟩
  · by_cases q : i = j
    · subst q
      rw [List.getElem?_set_self hi] at hj
      obtain ⟨a, e1, e2, e3⟩ := ho x' (Option.some.inj hj)
      exact ⟨a, by rw [List.getElem?_set_self hib, e1], by rw [List.getElem?_set_self his, e2], e3⟩
    · rw [List.getElem?_set_ne q] at hj ⊢
      rw [List.getElem?_set_ne q]
      obtain ⟨a, h1, h2, h3⟩ := h.own j x' hj
      exact ⟨a, h1, h2, h3.evo ev rfl⟩
  · by_cases q : i = j
    · subst q
      rw [List.getElem?_set_self hi] at hj
      exact absurd (Option.some.inj hj) (hl x')
    · rw [List.getElem?_set_ne q] at hj ⊢
      rw [List.getElem?_set_ne q]
      obtain ⟨h1, a, h2, h3, h4⟩ := h.lck j x' hj
      exact ⟨h1, a, hL j x' a hj h3 h2, h3, h4.evo ev rfl⟩
  · by_cases q : i = j
    · subst q
      rw [List.getElem?_set_self hi] at hj
      rw [List.getElem?_set_self hib, he (Option.some.inj hj)]
    · rw [List.getElem?_set_ne q] at hj ⊢
      exact h.emp j hj
  · by_cases q : i = j
    · subst q
      rw [List.getElem?_set_self hi]
      exact ⟨fun z => absurd (Option.some.inj z) (hl d), fun z => absurd z (nl d)⟩
    · rw [List.getElem?_set_ne q]
  · by_cases q : i = j
    · subst q
      exact absurd hj (nl d)
    · rw [List.getElem?_set_ne q]
/-- a value stored -/
theorem SR.putV {i : Nat} {d : D} {v : V} (h : SR K H O B r σ) (rp : Rp K H (OW O B) d v) (e : putV i d r = some r') : ∃ B', Sto K [i] σ H O B r (σ.set i (some v)) H O B' r' := by
  unfold Pv.putV at e
  have go : ∀ s, r[i]? = some s → (∀ d, s ≠ .l d) → some (r.set i (.v d)) = some r' → ∃ B', Sto K [i] σ H O B r (σ.set i (some v)) H O B' r' := fun s e1 nl e2 => by
    cases e2
    have hi := getO e1
    have w : ∀ b, OW O (B.set i none) b → OW O B b := ow_set
    obtain ⟨h1, h2, h3, h4⟩ := h.put (O := O) (s := .v d) (x := some v) (b := none) hi (fun d z => by rw [e1] at z; cases z; exact nl d rfl) (fun _ h => h) (fun _ _ _ _ _ h => h) (fun a z => nomatch z)
      (fun d' z => by cases z; exact ⟨rfl, v, rfl, rp.evo (Evo.refl.less w)⟩) (fun d' z => nomatch z) (fun d' z => nomatch z) (fun _ => rfl)
    exact ⟨_, h1, h2, fun b hb => ⟨rfl, hb⟩, h3, h4, fun j hj => by rw [List.getElem?_set_ne (fun z => hj (by rw [z]; exact List.mem_singleton.mpr rfl))], List.length_set⟩
  cases e1 : r[i]? with
  | none => rw [e1] at e; cases e
  | some s =>
    rw [e1] at e
    cases s with
    | l d' => cases e
    | e => exact go _ e1 (fun _ z => nomatch z) e
    | v d' => exact go _ e1 (fun _ z => nomatch z) e
    | o d' => exact go _ e1 (fun _ z => nomatch z) e
/-- a target's reading -/
def gOf (K : PySem.W.Frag) : Tg → TG
  | .nm i => gName i
  | .tp [.nm i, .nm j] => gTup K 2 (gCons (gName i) (gCons (gName j) gNil))
  | .tp [.nm i, .nm j, .nm k] => gTup K 3 (gCons (gName i) (gCons (gName j) (gCons (gName k) gNil)))
  | _ => fun _ _ _ _ => False
theorem gOf_run {t : Tg} {d : D} {v : V} (h : SR K H O B r σ) (rp : Rp K H (OW O B) d v) (e : bindT t d r = some r') {Q : L2.St → Hp → Prop} (q : ∀ σ' B', Sto K (tgIx t) σ H O B r σ' H O B' r' → Q σ' H) : gOf K t v σ H Q := by
  match t, d, e with
  | .nm i, d, e =>
    obtain ⟨B', s⟩ := h.putV rp e
    exact q _ _ s
  | .tp [.nm i, .nm j], .tup [x, y], e =>
    simp only [Rp] at rp
    obtain ⟨a, vs, rfl, hT, rr⟩ := rp
    obtain ⟨u, us, rfl, ru, rr⟩ := rr.cons_inv
    obtain ⟨w, ws, rfl, rw', rr⟩ := rr.cons_inv
    cases rr.nil_inv
    obtain ⟨r1, e1, e2⟩ := Option.bind_eq_some_iff.mp e
    obtain ⟨B1, s1⟩ := h.putV ru e1
    obtain ⟨B2, s2⟩ := s1.sr.putV (rw'.evo s1.evo) e2
    refine ⟨a, _, rfl, hT.sq, rfl, u, [w], rfl, w, [], rfl, rfl, ?_⟩
    exact q _ _ ((s1.mono (jx := [i, j]) (by simp)).trans (s2.mono (by simp)))
  | .tp [.nm i, .nm j, .nm k], .tup [x, y, z], e =>
    simp only [Rp] at rp
    obtain ⟨a, vs, rfl, hT, rr⟩ := rp
    obtain ⟨u, us, rfl, ru, rr⟩ := rr.cons_inv
    obtain ⟨w, ws, rfl, rw', rr⟩ := rr.cons_inv
    obtain ⟨p, ps, rfl, rp', rr⟩ := rr.cons_inv
    cases rr.nil_inv
    obtain ⟨r2, e0, e3⟩ := Option.bind_eq_some_iff.mp e
    obtain ⟨r1, e1, e2⟩ := Option.bind_eq_some_iff.mp e0
    obtain ⟨B1, s1⟩ := h.putV ru e1
    obtain ⟨B2, s2⟩ := s1.sr.putV (rw'.evo s1.evo) e2
    obtain ⟨B3, s3⟩ := s2.sr.putV ((rp'.evo s1.evo).evo s2.evo) e3
    refine ⟨a, _, rfl, hT.sq, rfl, u, [w, p], rfl, w, [p], rfl, p, [], rfl, rfl, ?_⟩
    exact q _ _ (((s1.mono (jx := [i, j, k]) (by simp)).trans (s2.mono (by simp))).trans (s3.mono (by simp)))

theorem LV.stand {x : D × Bool} {v : V} {xs : List D} {js : List Nat} {L : List Addr} (s : SR K H O1 B1 r1 σ) (h : LV K σ O H O1 B1 x v) (e : rd r1 x.1 = some (.lst xs)) (k : Lk js r1 O1 B1 L B3) (hj : ∀ j, x.1 = .ref j → js.contains j = true) :
    ∃ a vs, v = .ref a ∧ LsS K H (L ++ O1) B3 a vs ∧ RpL K H (OW (L ++ O1) B3) xs vs := by
  have ev : Evo H (OW O1 B1) H (OW (L ++ O1) B3) := Evo.refl.less fun b hb => (k.ow b).mp hb
  have plain : ∀ {v}, Rp K H (OW O1 B1) (.lst xs) v → ∃ a vs, v = .ref a ∧ LsS K H (L ++ O1) B3 a vs ∧ RpL K H (OW (L ++ O1) B3) xs vs := fun {v} rp => by
    simp only [Rp] at rp
    obtain ⟨a, vs, rfl, h1, h2⟩ := rp
    exact ⟨a, vs, rfl, .inl ⟨h1.1, .inr fun z => h1.2 ((k.ow a).mp z)⟩, h2.evo ev⟩
  rcases h with ⟨_, a, rfl, m, _, ob⟩ | ⟨_, ⟨i, e1, e2⟩ | ⟨h1, h2⟩⟩
  · rw [rd_plain fun i z => by rw [z] at ob; exact ob] at e
    obtain ⟨d, f⟩ := x
    have e' : d = .lst xs := Option.some.inj e
    subst e'
    obtain ⟨vs, h1, h2⟩ := ob
    exact ⟨a, vs, rfl, .inl ⟨h1, .inl (List.mem_append_right _ m)⟩, h2.evo ev⟩
  · rw [e1] at e
    obtain ⟨sl, e3, e4⟩ := rd_slot e
    rcases e4 with rfl | rfl | rfl
    · obtain ⟨_, u, g1, g2⟩ := s.val i _ e3
      rw [e2] at g1
      cases g1
      exact plain g2
    · obtain ⟨a, b1, g1, vs, g2, g3⟩ := s.own i _ e3
      rw [e2] at g1
      cases g1
      have hk : lkB js r1 i = true := by unfold lkB; rw [hj i e1, e3]; rfl
      exact ⟨a, vs, rfl, .inl ⟨g2, .inl (List.mem_append_left _ ((k.mem a).mpr ⟨i, hk, b1⟩))⟩, g3.evo ev⟩
    · obtain ⟨_, a, m, g1, vs, g2, g3⟩ := s.lck i _ e3
      rw [e2] at g1
      cases g1
      exact ⟨a, vs, rfl, .inl ⟨g2, .inl (List.mem_append_right _ m)⟩, g3.evo ev⟩
  · rw [rd_plain h1] at e
    have e' : x.1 = .lst xs := Option.some.inj e
    rw [e'] at h2
    exact plain h2
theorem refs_mem {as : List (D × Bool)} {x : D × Bool} {j : Nat} (h : x ∈ as) (e : x.1 = .ref j) : (refsOf as).contains j = true := by
  rw [List.contains_iff_mem]
  refine List.mem_filterMap.mpr ⟨x, h, ?_⟩
  rw [e]
end
/-- a walk's reading -/
def rdW (K : PySem.W.Frag) (w : Wk) (Fs : Env → Res (List (D × Bool))) : TI := fun σ H R =>
  ∃ O B r as r1 ds ys, SR K H O B r σ ∧ Fs r = .ok as r1 ∧ rdAll r1 as = some ds ∧ walk w ds = some ys ∧ ∀ H1 O1 B1, Tr K σ H O B r H1 O1 B1 r1 →
    ∀ L B3, Lk (refsOf as) r1 O1 B1 L B3 → ∀ J S, Src K J ys S → S H1 (L ++ O1) B3 → R J H1
theorem _root_.L2.PI.imp {X : Cx} {tg e : Expr} {t t' : TI} (h : PI X tg e t) (f : ∀ σ H Q, t' σ H Q → t σ H Q) : PI X tg e t' := ⟨fun pins s σ H Q I q => h.run pins s σ H Q I (f σ H Q q)⟩
def oneF (Fa : Env → Res (D × Bool)) : Env → Res (List (D × Bool)) := fun r => (Fa r).bind fun x r1 => (Res.ok ([] : List (D × Bool)) r1).bind fun xs r2 => .ok (x :: xs) r2
section
variable {X : Cx} {tg a b : Expr} {p pos : Pos} {Fa Fb : Env → Res (D × Bool)} {Fs : Env → Res (List (D × Bool))}
theorem sw_seq (ha : PE X a (rdE X.K Fa)) : PI X tg a (rdW X.K .seq (oneF Fa)) := by
  refine ⟨fun pins s σ H R I h => ?_⟩
  obtain ⟨O, B, r, as, r1, ds, ys, h0, e1, e2, e3, q⟩ := h
  obtain ⟨x, r1', e4, e5⟩ := Res.bind_ok_iff.mp e1
  cases e5
  obtain ⟨d, e6, e7⟩ := Option.bind_eq_some_iff.mp e2
  obtain ⟨ds', e8, e9⟩ := Option.map_eq_some_iff.mp e7
  cases e8
  subst e9
  have e6' : rd r1 x.1 = some d := e6
  have hj : ∀ j, x.1 = .ref j → (refsOf [x]).contains j = true := fun j e => refs_mem List.mem_cons_self e
  cases d with
  | lst xs =>
    cases e3
    refine (pi_list ha).run pins s σ H R I (rdE.go h0 e4 fun v H1 O1 B1 t1 vr1 => ?_)
    obtain ⟨L, B3, k⟩ := Lk.of (refsOf [x]) r1 O1 B1
    obtain ⟨l, vs, rfl, ls, rr⟩ := LV.stand t1.sr vr1.lv e6' k hj
    exact ⟨l, rfl, ⟨vs, ls.sq⟩, q _ _ _ t1 _ _ k _ _ src_list ⟨ls, rr⟩⟩
  | tup xs =>
    cases e3
    refine (pi_tup ha).run pins s σ H R I (rdE.go h0 e4 fun v H1 O1 B1 t1 vr1 => ?_)
    obtain ⟨L, B3, k⟩ := Lk.of (refsOf [x]) r1 O1 B1
    have hc := LV.cn t1.sr vr1.lv e6'
    simp only [Cn, Rp] at hc
    obtain ⟨l, vs, rfl, hT, rr⟩ := hc
    have ev : Evo H1 (OW O1 B1) H1 (OW (L ++ O1) B3) := Evo.refl.less fun b hb => (k.ow b).mp hb
    exact ⟨l, rfl, ⟨vs, hT.sq⟩, q _ _ _ t1 _ _ k _ _ src_tup ⟨hT.evo ev, rr.evo ev⟩⟩
  | str t =>
    simp only [walk, itemsOf] at e3
    split at e3
    · cases e3
      refine (pi_str ha).run pins s σ H R I (rdE.go h0 e4 fun v H1 O1 B1 t1 vr1 => ?_)
      obtain ⟨L, B3, k⟩ := Lk.of (refsOf [x]) r1 O1 B1
      have hc := LV.cn t1.sr vr1.lv e6'
      cases hc
      exact ⟨sS t, rfl, q _ _ _ t1 _ _ k _ _ src_str trivial⟩
    · cases e3
  | scr xs =>
    cases e3
    refine (pi_list ha).run pins s σ H R I (rdE.go h0 e4 fun v H1 O1 B1 t1 vr1 => ?_)
    obtain ⟨L, B3, k⟩ := Lk.of (refsOf [x]) r1 O1 B1
    have hc := LV.cn t1.sr vr1.lv e6'
    simp only [Cn, Rp] at hc
    obtain ⟨l, vs, rfl, hT, rr⟩ := hc
    have ev : Evo H1 (OW O1 B1) H1 (OW (L ++ O1) B3) := Evo.refl.less fun b hb => (k.ow b).mp hb
    have ls : LsS X.K H1 (L ++ O1) B3 l vs := by
      rcases hT with ⟨h1, h2⟩ | h1
      · exact .inr (.inl ⟨h1, fun z => h2 ((k.ow l).mp z)⟩)
      · exact .inr (.inr h1)
    exact ⟨l, rfl, ⟨vs, ls.sq⟩, q _ _ _ t1 _ _ k _ _ src_list ⟨ls, rr.evo ev⟩⟩
  | _ => cases e3
theorem one_star {a : Expr} {env : PySem.Env} (h : notStar a = true) : starEach [a] env = [(false, eval a env)] := star_cons [] env h
theorem int_cn {K : PySem.W.Frag} {H : Hp} {W : Addr → Prop} {i : Int} {vs : List V} (h : CnL K H W [.int i] vs) : vs = [.int i] := by
  obtain ⟨v, rfl, hc⟩ := one_of (ds := []) h
  cases hc
  rfl
theorem rng_ok {i : Int} (h : rngOk i = true) : -(2 ^ 62) ≤ i ∧ i < 2 ^ 62 := by
  unfold rngOk at h
  simp only [Bool.and_eq_true, decide_eq_true_eq] at h
  omega
def twoF (Fa Fb : Env → Res (D × Bool)) : Env → Res (List (D × Bool)) := fun r => (Fa r).bind fun x r1 => (oneF Fb r1).bind fun xs r2 => .ok (x :: xs) r2
theorem oneF_at {r r1 : Env} {as : List (D × Bool)} {ds : List D} (e : oneF Fa r = .ok as r1) (e2 : rdAll r1 as = some ds) : ∃ x d, as = [x] ∧ ds = [d] ∧ rd r1 x.1 = some d := by
  obtain ⟨x, r1', e4, e5⟩ := Res.bind_ok_iff.mp e
  cases e5
  obtain ⟨d, e6, e7⟩ := Option.bind_eq_some_iff.mp e2
  obtain ⟨ds', e8, e9⟩ := Option.map_eq_some_iff.mp e7
  cases e8
  subst e9
  exact ⟨x, d, rfl, rfl, e6⟩
theorem twoF_at {r r1 : Env} {as : List (D × Bool)} {ds : List D} (e : twoF Fa Fb r = .ok as r1) (e2 : rdAll r1 as = some ds) : ∃ x y d c, as = [x, y] ∧ ds = [d, c] ∧ rd r1 x.1 = some d ∧ rd r1 y.1 = some c := by
  obtain ⟨x, r1', e4, e5⟩ := Res.bind_ok_iff.mp e
  obtain ⟨xs, r2', e6, e7⟩ := Res.bind_ok_iff.mp e5
  cases e7
  obtain ⟨d, e8, e9⟩ := Option.bind_eq_some_iff.mp e2
  obtain ⟨ds', e10, e11⟩ := Option.map_eq_some_iff.mp e9
  subst e11
  obtain ⟨y, c, rfl, rfl, e12⟩ := oneF_at e6 e10
  exact ⟨x, y, d, c, rfl, rfl, e8, e12⟩
theorem sw_range1 {x : Str} (hx : x = ("range" : Str)) (hg : Gl X x) (hm : X.mg x = none) (ha : PE X a (rdE X.K Fa)) (n : notStar a = true) : PI X tg (.Call (.Name x p) [a] [] pos) (rdW X.K .range (oneF Fa)) := by
  subst hx
  have pa : PA X [a] (rdA X.K (oneF Fa)) := sa_cons ha sa_nil n
  refine ⟨fun pins s σ H R I h => ?_⟩
  obtain ⟨O, B, r, as, r1, ds, ys, h0, e1, e2, e3, q⟩ := h
  obtain ⟨x, d, rfl, rfl, e4⟩ := oneF_at e1 e2
  cases d with
  | int j =>
    simp only [walk] at e3
    split at e3
    · rename_i hr
      cases e3
      refine (pi_range1 hg hm pa (one_star n)).run pins s σ H R I ⟨O, B, r, [x], r1, h0, e1, fun vs H1 O1 B1 t1 l1 => ?_⟩
      have e5 := int_cn (l1.cn t1.sr e2)
      obtain ⟨L, B3, k⟩ := Lk.of (refsOf [x]) r1 O1 B1
      refine ⟨j, e5, (rng_ok hr).1, (rng_ok hr).2, q _ _ _ t1 _ _ k _ _ (src_range ?_) trivial⟩
      unfold ranged
      simp
    · cases e3
  | _ => cases e3
theorem sw_range2 {x : Str} (hx : x = ("range" : Str)) (hg : Gl X x) (hm : X.mg x = none) (ha : PE X a (rdE X.K Fa)) (hb : PE X b (rdE X.K Fb)) (n : notStar a = true) (n2 : notStar b = true) : PI X tg (.Call (.Name x p) [a, b] [] pos) (rdW X.K .range (twoF Fa Fb)) := by
  subst hx
  have pa : PA X [a, b] (rdA X.K (twoF Fa Fb)) := sa_cons ha (sa_cons hb sa_nil n2) n
  refine ⟨fun pins s σ H R I h => ?_⟩
  obtain ⟨O, B, r, as, r1, ds, ys, h0, e1, e2, e3, q⟩ := h
  obtain ⟨x, y, d, c, rfl, rfl, e4, e5⟩ := twoF_at e1 e2
  cases d with
  | int i =>
    cases c with
    | int j =>
      simp only [walk] at e3
      split at e3
      · rename_i hr
        simp only [Bool.and_eq_true] at hr
        cases e3
        refine (pi_range2 hg hm pa (by rw [star_cons _ _ n, one_star n2]) (one_star n2)).run pins s σ H R I ⟨O, B, r, [x, y], r1, h0, e1, fun vs H1 O1 B1 t1 l1 => ?_⟩
        obtain ⟨v, w, rfl, h1, h2⟩ := two_of (l1.cn t1.sr e2)
        cases h1; cases h2
        obtain ⟨L, B3, k⟩ := Lk.of (refsOf [x, y]) r1 O1 B1
        refine ⟨i, j, rfl, ⟨(rng_ok hr.1).1, (rng_ok hr.1).2, (rng_ok hr.2).1, (rng_ok hr.2).2⟩, q _ _ _ t1 _ _ k _ _ (src_range rfl) trivial⟩
      · cases e3
    | _ => cases e3
  | _ => cases e3
theorem src_enumS {K : PySem.W.Frag} {s : List Nat} : Src K (Ites (sS s)) (enumFrom 0 (chars s)) (fun _ _ _ => True) where
  keep := fun _ _ _ => trivial
  go := fun {i H O B} _ hi => by
    rw [enum_length] at hi
    show i < (sS s).cps.size
    simpa [chars, sS] using hi
  stop := fun _ => by
    show (sS s).cps.size ≤ (enumFrom 0 (chars s)).length
    rw [enum_length]
    simp [chars, sS]
  item := fun {i H O B x H' d} h hW e y => by
    obtain ⟨T, c, rfl, nT, rfl, e1⟩ := y
    have e2 : s[i]? = some c := by simpa [sS] using e1
    rw [enum_get, Nat.zero_add] at e
    unfold chars at e
    rw [List.getElem?_map, e2] at e
    have e3 : d = .tup [.int (i : Nat), .str [c]] := (Option.some.inj e).symm
    subst e3
    refine NewR.tuple hW nT (.cons (by simp only [Rp]) (.cons ?_ .nil))
    simp only [Rp]
theorem str_cn {K : PySem.W.Frag} {H : Hp} {W : Addr → Prop} {s : List Nat} {vs : List V} (h : CnL K H W [.str s] vs) : vs = [.str (sS s)] := by
  match vs, h with
  | [v], h =>
    have h1 := h.1
    simp only [Cn, Rp] at h1
    rw [h1]
  | [], h => simp only [CnL] at h
  | _ :: _ :: _, h => simp only [CnL, and_false] at h
theorem sw_enum {x : Str} {elts : List Expr} {kk : Nat} {tpos : Pos} (hx : x = ("enumerate" : Str)) (hg : Gl X x) (hm : X.mg x = none) (ha : PE X a (rdE X.K Fa)) (n : notStar a = true) : PI X (.Tuple elts kk tpos) (.Call (.Name x p) [a] [] pos) (rdW X.K .enum (oneF Fa)) := by
  subst hx
  have pa : PA X [a] (rdA X.K (oneF Fa)) := sa_cons ha sa_nil n
  refine ⟨fun pins s σ H R I h => ?_⟩
  obtain ⟨O, B, r, as, r1, ds, ys, h0, e1, e2, e3, q⟩ := h
  obtain ⟨x, d, rfl, rfl, e4⟩ := oneF_at e1 e2
  cases d with
  | lst xs =>
    cases e3
    refine (pi_enum hg hm pa (one_star n)).run pins s σ H R I ⟨O, B, r, [x], r1, h0, e1, fun vs H1 O1 B1 t1 l1 => ?_⟩
    obtain ⟨L, B3, k⟩ := Lk.of (refsOf [x]) r1 O1 B1
    match vs, l1 with
    | [v], l1 =>
      obtain ⟨l, us, rfl, ls, rr⟩ := LV.stand t1.sr l1.1 e4 k fun j e => refs_mem List.mem_cons_self e
      have hc := LV.cn t1.sr l1.1 e4
      exact ⟨l, us, rfl, ls.sq, q _ _ _ t1 _ _ k _ _ src_enum ⟨ls, rr⟩⟩
  | str st =>
    simp only [walk] at e3
    split at e3
    · cases e3
      refine (pi_enumS hg hm pa (one_star n)).run pins s σ H R I ⟨O, B, r, [x], r1, h0, e1, fun vs H1 O1 B1 t1 l1 => ?_⟩
      have e5 := str_cn (l1.cn t1.sr e2)
      obtain ⟨L, B3, k⟩ := Lk.of (refsOf [x]) r1 O1 B1
      exact ⟨sS st, e5, q _ _ _ t1 _ _ k _ _ src_enumS trivial⟩
    · cases e3
  | _ => cases e3
theorem sw_zip {x : Str} {elts : List Expr} {kk : Nat} {tpos : Pos} (hx : x = ("zip" : Str)) (hg : Gl X x) (hm : X.mg x = none) (ha : PE X a (rdE X.K Fa)) (hb : PE X b (rdE X.K Fb)) (n : notStar a = true) (n2 : notStar b = true) :
    PI X (.Tuple elts kk tpos) (.Call (.Name x p) [a, b] [] pos) (rdW X.K .zip (twoF Fa Fb)) := by
  subst hx
  have pa : PA X [a, b] (rdA X.K (twoF Fa Fb)) := sa_cons ha (sa_cons hb sa_nil n2) n
  refine ⟨fun pins s σ H R I h => ?_⟩
  obtain ⟨O, B, r, as, r1, ds, ys, h0, e1, e2, e3, q⟩ := h
  obtain ⟨x, y, d, c, rfl, rfl, e4, e5⟩ := twoF_at e1 e2
  cases d with
  | lst xs =>
    cases c with
    | lst zs =>
      cases e3
      refine (pi_zip hg hm pa (star_cons _ _ n) (plain_args (by simp [n2]))).run pins s σ H R I ⟨O, B, r, [x, y], r1, h0, e1, fun vs H1 O1 B1 t1 l1 => ?_⟩
      obtain ⟨L, B3, k⟩ := Lk.of (refsOf [x, y]) r1 O1 B1
      match vs, l1 with
      | [v, w], l1 =>
        obtain ⟨l, us, rfl, ls, rr⟩ := LV.stand t1.sr l1.1 e4 k fun j e => refs_mem List.mem_cons_self e
        obtain ⟨l2, us2, rfl, ls2, rr2⟩ := LV.stand t1.sr l1.2.1 e5 k fun j e => refs_mem (List.mem_cons_of_mem _ List.mem_cons_self) e
        have g1 : SqL X.K H1 l us := ls.sq
        exact ⟨l, l2, us, us2, rfl, ls.sq, ls2.sq, q _ _ _ t1 _ _ k _ _ src_zip ⟨⟨ls, rr⟩, ls2, rr2⟩⟩
    | _ => cases e3
  | _ => cases e3
end
end Pv
namespace Pv
open PySem PySem.Spec PyProof.Rows L2
theorem wipe_get (σ : L2.St) : ∀ (vs : List Nat) (i : Nat), (wipe σ vs)[i]? = if i ∈ vs then σ[i]?.map (fun _ => none) else σ[i]?
  | [], i => by simp [wipe]
  | v :: vs, i => by
    unfold wipe
    by_cases e : v = i
    · subst e
      rw [if_pos List.mem_cons_self]
      by_cases hv : v < σ.length
      · rw [List.getElem?_set_self (by rw [wipe_length]; exact hv), List.getElem?_eq_getElem hv]
        rfl
      · rw [List.getElem?_eq_none (by rw [List.length_set, wipe_length]; omega), List.getElem?_eq_none (by omega)]
        rfl
    · rw [List.getElem?_set_ne e, wipe_get σ vs i]
      have : i ∈ v :: vs ↔ i ∈ vs := by simp [Ne.symm e]
      by_cases hi : i ∈ vs
      · rw [if_pos hi, if_pos (this.mpr hi)]
      · rw [if_neg hi, if_neg (fun z => hi (this.mp z))]
theorem foldset_length {α : Type} (f : Nat → α) : ∀ (ow : List Nat) (r : List α), (ow.foldl (fun r i => r.set i (f i)) r).length = r.length
  | [], r => rfl
  | v :: vs, r => by rw [List.foldl_cons, foldset_length f vs, List.length_set]
theorem foldset_get {α : Type} (f : Nat → α) : ∀ (ow : List Nat) (r : List α) (i : Nat), (ow.foldl (fun r i => r.set i (f i)) r)[i]? = if i ∈ ow then r[i]?.map (fun _ => f i) else r[i]?
  | [], r, i => by simp
  | v :: vs, r, i => by
    rw [List.foldl_cons, foldset_get f vs]
    by_cases e : v = i
    · subst e
      rw [if_pos (show v ∈ v :: vs from List.mem_cons_self)]
      by_cases hv : v < r.length
      · rw [List.getElem?_set_self hv, List.getElem?_eq_getElem hv]
        split <;> rfl
      · rw [List.getElem?_eq_none (by rw [List.length_set]; omega), List.getElem?_eq_none (by omega)]
        split <;> rfl
    · rw [List.getElem?_set_ne e]
      have : i ∈ v :: vs ↔ i ∈ vs := by simp [Ne.symm e]
      by_cases hi : i ∈ vs
      · rw [if_pos hi, if_pos (this.mpr hi)]
      · rw [if_neg hi, if_neg (fun z => hi (this.mp z))]
theorem wipeE_get (ow : List Nat) (r : Env) (i : Nat) : (wipeE ow r)[i]? = if i ∈ ow then r[i]?.map (fun _ => .e) else r[i]? := foldset_get (α := Sl) (fun _ => Sl.e) ow r i
theorem wipeE_length (ow : List Nat) (r : Env) : (wipeE ow r).length = r.length := foldset_length (α := Sl) (fun _ => Sl.e) ow r
theorem back_get (ow : List Nat) (r0 r : Env) (i : Nat) : (back ow r0 r)[i]? = if i ∈ ow then r[i]?.map (fun _ => r0.getD i .e) else r[i]? := foldset_get (α := Sl) (fun i => r0.getD i Sl.e) ow r i
theorem back_length (ow : List Nat) (r0 r : Env) : (back ow r0 r).length = r.length := foldset_length (α := Sl) (fun i => r0.getD i Sl.e) ow r
section
variable {K : PySem.W.Frag} {σ σ' : L2.St} {H H1 H2 H' : Hp} {O O1 O2 O3 O' : List Addr} {B B1 B2 B3 B' : List (Option Addr)} {r r1 r2 r' : Env}
theorem wipeE_at {ow : List Nat} {i : Nat} {s : Sl} (h : (wipeE ow r)[i]? = some s) : (i ∈ ow ∧ s = .e) ∨ (i ∉ ow ∧ r[i]? = some s) := by
  rw [wipeE_get] at h
  split at h
  · rename_i hi
    obtain ⟨x, _, e⟩ := Option.map_eq_some_iff.mp h
    exact .inl ⟨hi, e.symm⟩
  · exact .inr ⟨by assumption, h⟩
/-- slots forgotten -/
theorem SR.wiped (ow : List Nat) (h : SR K H O B r σ) : ∃ B', SR K H O B' (wipeE ow r) (wipe σ ow) ∧ ∀ b, OW O B' b → OW O B b := by
  obtain ⟨B', lB, gB⟩ : ∃ B' : List (Option Addr), B'.length = B.length ∧ ∀ i : Nat, B'[i]? = if i ∈ ow then B[i]?.map (fun _ => none) else B[i]? := by
    refine ⟨B.mapIdx fun i b => if i ∈ ow then none else b, List.length_mapIdx, fun i => ?_⟩
    rw [List.getElem?_mapIdx]
    by_cases hi : i ∈ ow
    · rw [if_pos hi]
      cases B[i]? with
      | none => rfl
      | some b => show some (if i ∈ ow then none else b) = _; rw [if_pos hi]; rfl
    · rw [if_neg hi]
      cases B[i]? with
      | none => rfl
      | some b => show some (if i ∈ ow then none else b) = _; rw [if_neg hi]
  have old : ∀ {j : Nat} {c : Addr}, B'[j]? = some (some c) → B[j]? = some (some c) := fun {j c} hj => by
    rw [gB] at hj
    split at hj
    · cases e : B[j]? with
      | none => rw [e] at hj; cases hj
      | some b => rw [e] at hj; cases hj
    · exact hj
  have w : ∀ b, OW O B' b → OW O B b := fun b hb => hb.imp id fun z => by
    obtain ⟨j, hj⟩ := List.getElem?_of_mem z
    exact List.mem_of_getElem? (old hj)
  have ev : Evo H (OW O B) H (OW O B') := Evo.refl.less w
  have nn : ∀ {i : Nat}, B[i]? = some none → B'[i]? = some none := fun {i} e => by
    rw [gB, e]
    split <;> rfl
  have sg : ∀ {i : Nat}, i ∉ ow → (wipe σ ow)[i]? = σ[i]? := fun {i} hi => by rw [wipe_get, if_neg hi]
  refine ⟨B', ⟨by rw [lB, wipeE_length]; exact h.lenB, by rw [wipe_length, wipeE_length]; exact h.lenS, fun a ha z => ?_, fun i j a hi hj => h.inj i j a (old hi) (old hj), fun a ha => h.dom a (w a ha), fun i d hd => ?_, fun i d hd => ?_, fun i d hd => ?_, fun i hi => ?_⟩, w⟩
  · obtain ⟨j, hj⟩ := List.getElem?_of_mem z
    exact h.dis a ha (List.mem_of_getElem? (old hj))
  · rcases wipeE_at hd with ⟨_, e⟩ | ⟨hi, e⟩
    · cases e
    · obtain ⟨e1, v, e2, e3⟩ := h.val i d e
      exact ⟨nn e1, v, by rw [sg hi]; exact e2, e3.evo ev⟩
  · rcases wipeE_at hd with ⟨_, e⟩ | ⟨hi, e⟩
    · cases e
    · obtain ⟨a, e1, e2, e3⟩ := h.own i d e
      exact ⟨a, by rw [gB, if_neg hi]; exact e1, by rw [sg hi]; exact e2, e3.evo ev rfl⟩
  · rcases wipeE_at hd with ⟨_, e⟩ | ⟨hi, e⟩
    · cases e
    · obtain ⟨e1, a, e2, e3, e4⟩ := h.lck i d e
      exact ⟨nn e1, a, e2, by rw [sg hi]; exact e3, e4.evo ev rfl⟩
  · have hlt : i < (wipeE ow r).length := getO hi
    have hb : i < B.length := by rw [h.lenB]; rw [wipeE_length] at hlt; exact hlt
    rcases wipeE_at hi with ⟨hm, _⟩ | ⟨hm, e⟩
    · rw [gB, if_pos hm, List.getElem?_eq_getElem hb]
      rfl
    · exact nn (h.emp i e)
theorem ownless_at {ow : List Nat} {i : Nat} (h : ownless ow r = true) (hi : i ∈ ow) : (∃ d, r[i]? = some (.v d)) ∨ r[i]? = some .e := by
  have h1 := List.all_eq_true.mp h i hi
  split at h1
  · exact .inl ⟨_, by assumption⟩
  · exact .inr (by assumption)
  · cases h1
/-- .. and as they were again -/
theorem SR.backed {ow : List Nat} (h1 : SR K H1 O1 B1 r1 σ) (ho : ownless ow r1 = true) (h : SR K H O B (wipeE ow r) (wipe σ ow)) (ev : Evo H1 (OW O1 B1) H (OW O B)) : SR K H O B (back ow r1 r) σ := by
  have ls : σ.length = r.length := by have := h.lenS; rw [wipe_length, wipeE_length] at this; exact this
  have lb : B.length = r.length := by have := h.lenB; rw [wipeE_length] at this; exact this
  have lr : r1.length = r.length := by rw [← h1.lenS, ls]
  have sg : ∀ {i : Nat}, i ∉ ow → (wipe σ ow)[i]? = σ[i]? := fun {i} hi => by rw [wipe_get, if_neg hi]
  have at_ : ∀ {i : Nat} {s : Sl}, (back ow r1 r)[i]? = some s → (i ∈ ow ∧ r1[i]? = some s ∧ B[i]? = some none) ∨ (i ∉ ow ∧ (wipeE ow r)[i]? = some s) := fun {i s} e => by
    rw [back_get] at e
    split at e
    · rename_i hi
      obtain ⟨x, e1, e2⟩ := Option.map_eq_some_iff.mp e
      have hlt : i < r1.length := by rw [lr]; exact getO e1
      refine .inl ⟨hi, ?_, h.emp i ?_⟩
      · rw [List.getD_eq_getElem?_getD, List.getElem?_eq_getElem hlt] at e2
        rw [List.getElem?_eq_getElem hlt]
        exact congrArg some e2
      · rw [wipeE_get, if_pos hi, e1]
        rfl
    · rename_i hi
      exact .inr ⟨hi, by rw [wipeE_get, if_neg hi]; exact e⟩
  refine ⟨by rw [back_length]; exact lb, by rw [back_length]; exact ls, h.dis, h.inj, h.dom, fun i d hd => ?_, fun i d hd => ?_, fun i d hd => ?_, fun i hi => ?_⟩
  · rcases at_ hd with ⟨hi, e, eb⟩ | ⟨hi, e⟩
    · obtain ⟨_, v, e2, e3⟩ := h1.val i d e
      exact ⟨eb, v, e2, e3.evo ev⟩
    · obtain ⟨e1, v, e2, e3⟩ := h.val i d e
      exact ⟨e1, v, by rw [← sg hi]; exact e2, e3⟩
  · rcases at_ hd with ⟨hi, e, eb⟩ | ⟨hi, e⟩
    · rcases ownless_at ho hi with ⟨x, z⟩ | z <;> (rw [e] at z; cases z)
    · obtain ⟨a, e1, e2, e3⟩ := h.own i d e
      exact ⟨a, e1, by rw [← sg hi]; exact e2, e3⟩
  · rcases at_ hd with ⟨hi, e, eb⟩ | ⟨hi, e⟩
    · rcases ownless_at ho hi with ⟨x, z⟩ | z <;> (rw [e] at z; cases z)
    · obtain ⟨e1, a, e2, e3, e4⟩ := h.lck i d e
      exact ⟨e1, a, e2, by rw [← sg hi]; exact e3, e4⟩
  · rcases at_ hi with ⟨hm, e, eb⟩ | ⟨hm, e⟩
    · exact eb
    · exact h.emp i e
/-- a pending object that no slot borrows is changed -/
theorem SR.pend {D : Addr} {o : HO} (h : SR K H O B r σ) (hD : D ∈ O) (hl : ∀ (i : Nat) d, r[i]? = some (.l d) → σ[i]? ≠ some (some (.ref D))) : SR K (upd H D o) O B r σ ∧ Evo H (OW O B) (upd H D o) (OW O B) := by
  have hW : OW O B D := .inl hD
  have ev : Evo H (OW O B) (upd H D o) (OW O B) := ⟨fun b u e1 n => ⟨by rw [upd_ne (fun z => n (by rw [z]; exact hW))]; exact e1, n⟩, fun b hb => by
    by_cases z : b = D
    · rw [z, upd_same]; exact fun z => nomatch z
    · rw [upd_ne z]; exact hb⟩
  refine ⟨⟨h.lenB, h.lenS, h.dis, h.inj, fun c hc => ev.dom c (h.dom c hc), fun j x hj => ?_, fun j x hj => ?_, fun j x hj => ?_, h.emp⟩, ev⟩
  · obtain ⟨h1, v, h2, h3⟩ := h.val j x hj
    exact ⟨h1, v, h2, h3.evo ev⟩
  · obtain ⟨c, h1, h2, h3⟩ := h.own j x hj
    exact ⟨c, h1, h2, h3.evo ev (upd_ne fun z => h.dis D hD (by rw [← z]; exact List.mem_of_getElem? h1))⟩
  · obtain ⟨h1, c, h2, h3, h4⟩ := h.lck j x hj
    exact ⟨h1, c, h2, h3, h4.evo ev (upd_ne fun z => hl j x hj (by rw [← z]; exact h3))⟩
end
theorem Src.walkOf {K : PySem.W.Frag} {J : It} {ys : List D} {S : Hp → List Addr → List (Option Addr) → Prop} (s : Src K J ys S) :
    Walk J ys.length (fun H => ∃ O B, S H O B) (fun i H x H' => ∀ O B d, S H O B → (∀ b, OW O B b → H b ≠ none) → ys[i]? = some d → NewR K H (OW O B) H' x (d, false)) :=
  ⟨fun i H hi ⟨O, B, h⟩ => s.go h hi, fun H ⟨O, B, h⟩ => s.stop h, fun i H x H' hi _ y O B d h hW e => s.item h hW e y⟩
/-- a new item of a walk: the heap as it is, or with a new tuple -/
theorem NewR.grown {K : PySem.W.Frag} {H H' : Hp} {O : List Addr} {B : List (Option Addr)} {r : Env} {σ : L2.St} {x : V} {d : D} (h : SR K H O B r σ) (n : NewR K H (OW O B) H' x (d, false)) : Tr K σ H O B r H' O B r ∧ Rp K H' (OW O B) d x := by
  rcases n with ⟨_, rfl, rp⟩ | ⟨_, p, o, hp, rfl, rp⟩ | ⟨z, _⟩
  · exact ⟨Tr.refl h, rp⟩
  · exact ⟨Tr.new h hp, rp⟩
  · cases z
def lcF (ow : List Nat) (t : Tg) (Ti : Env → Res Bool) (Fe : Env → Res (D × Bool)) (w : Wk) (Fs : Env → Res (List (D × Bool))) : Env → Res (D × Bool) := fun r =>
  (Fs r).bind fun as r1 => opt (rdAll r1 as) fun ds => opt (walk w ds) fun xs =>
      if ownless ow r1 then
        (compI ow t Ti Fe xs (lockE (refsOf as) r1)).bind fun ys r3 =>
          if ys.length ≤ LIM then .ok (.lst ys, true) (unlkE (refsOf as) r1 (back ow r1 r3)) else .no
      else .no
theorem comp_red {K : PySem.W.Frag} {ow : List Nat} {t : Tg} {Ti : Env → Res Bool} {Fe : Env → Res (D × Bool)} {w : Wk} {Fs : Env → Res (List (D × Bool))} {σ : L2.St} {H : Hp} {Q : VK} (htg : ∀ i ∈ tgIx t, i ∈ ow)
    (h : rdE K (lcF ow t Ti Fe w Fs) σ H Q) : tLc (rdW K w Fs) (gOf K t) (rdT K Ti) (rdE K Fe) ow σ H Q := by
  obtain ⟨O, B, r, z, r', h0, e, q⟩ := h
  obtain ⟨as, r1, e1, e⟩ := Res.bind_ok_iff.mp e
  obtain ⟨ds, e2, e⟩ := opt_ok_iff.mp e
  obtain ⟨ys, e3, e⟩ := opt_ok_iff.mp e
  split at e
  · rename_i how
    obtain ⟨zs, r3, e4, e⟩ := Res.bind_ok_iff.mp e
    split at e
    · rename_i hlim
      cases e
      refine ⟨O, B, r, as, r1, ds, ys, h0, e1, e2, e3, fun H1 O1 B1 t1 L B3 k J S src hS dl hD => ?_⟩
      -- what the block holds
      have sL : SR K H1 (L ++ O1) B3 (lockE (refsOf as) r1) σ := t1.sr.lock k
      have evL : Evo H1 (OW O1 B1) H1 (OW (L ++ O1) B3) := Evo.refl.less fun b hb => (k.ow b).mp hb
      have nl : dl ∉ L ++ O1 := fun m => sL.dom dl (.inl m) hD
      have nls : ∀ (i : Nat) d, (lockE (refsOf as) r1)[i]? = some (.l d) → σ[i]? ≠ some (some (.ref dl)) := fun i d e z => by
        obtain ⟨_, a, m, e5, _⟩ := sL.lck i d e
        rw [e5] at z
        cases z
        exact nl m
      have hSi : ∀ {Hi : Hp} {Bi : List (Option Addr)}, Evo H1 (OW O1 B1) Hi (OW (dl :: (L ++ O1)) Bi) → (∀ b ∈ L ++ O1, Hi b = H1 b) → S Hi (dl :: (L ++ O1)) Bi := fun {Hi Bi} e1 e2 =>
        src.keep hS ((Evo.refl.less fun b hb => (k.ow b).mpr hb).trans e1) fun b hb => ⟨e2 b hb, List.mem_cons_of_mem _ hb⟩
      let Pv : Nat → Hp → Prop := fun i Hi => ∃ (Bi : List (Option Addr)) (ri : Env) (acc : List V) (dn rest : List D),
        SR K Hi (dl :: (L ++ O1)) Bi (wipeE ow ri) (wipe σ ow) ∧ Evo H1 (OW O1 B1) Hi (OW (dl :: (L ++ O1)) Bi) ∧ (∀ b ∈ L ++ O1, Hi b = H1 b) ∧ Hi dl = some (.lst acc) ∧ RpL K Hi (OW (dl :: (L ++ O1)) Bi) dn acc ∧
        compI ow t Ti Fe (ys.drop i) ri = .ok rest r3 ∧ dn ++ rest = zs ∧ (∀ (j : Nat) d, (wipeE ow ri)[j]? = some (.l d) ↔ (lockE (refsOf as) r1)[j]? = some (.l d) ∧ j ∉ ow)
      have lkw : ∀ (ri : Env), (∀ (j : Nat) d, j ∉ ow → (ri[j]? = some (.l d) ↔ (lockE (refsOf as) r1)[j]? = some (.l d))) → ∀ (j : Nat) d, (wipeE ow ri)[j]? = some (.l d) ↔ (lockE (refsOf as) r1)[j]? = some (.l d) ∧ j ∉ ow := fun ri hr j d => by
        rw [wipeE_get]
        by_cases hj : j ∈ ow
        · rw [if_pos hj]
          refine ⟨fun z => ?_, fun z => absurd hj z.2⟩
          obtain ⟨x, _, z2⟩ := Option.map_eq_some_iff.mp z
          cases z2
        · rw [if_neg hj]
          exact ⟨fun z => ⟨(hr j d hj).mp z, hj⟩, fun z => (hr j d hj).mpr z.1⟩
      refine lc_it src.walkOf Pv ?_ (fun i Hi _ hp => ?_) (fun i x Hi H' hi hp y => ?_) (fun Hi hp => ?_)
      · -- at the start
        obtain ⟨Bw, sw, ww⟩ := sL.wiped ow
        obtain ⟨sg, eg⟩ := sw.grow (o := .lst []) (O1 := dl :: (L ++ O1)) hD (fun _ h => List.mem_cons_of_mem _ h) fun _ h => (List.mem_cons.mp h).symm
        have ev2 : Evo H1 (OW O1 B1) (upd H1 dl (.lst [])) (OW (dl :: (L ++ O1)) Bw) := (evL.less ww).trans eg
        have keep : ∀ b ∈ L ++ O1, (upd H1 dl (.lst [])) b = H1 b := fun b hb => upd_ne fun z => nl (by rw [← z]; exact hb)
        exact ⟨Bw, lockE (refsOf as) r1, [], [], zs, sg, ev2, keep, upd_same, .nil, e4, rfl, lkw _ fun _ _ _ => .rfl⟩
      · obtain ⟨Bi, ri, acc, dn, rest, s1, s2, s3, s4, s5, s6, s7, s8⟩ := hp
        exact ⟨_, _, hSi s2 s3⟩
      · -- a turn
        obtain ⟨Bi, ri, acc, dn, rest, s1, s2, s3, s4, s5, s6, s7, s8⟩ := hp
        have hdrop : ys.drop i = ys[i] :: ys.drop (i + 1) := (List.drop_eq_getElem_cons hi)
        rw [hdrop] at s6
        unfold compI at s6
        obtain ⟨ra, e5, s6⟩ := opt_ok_iff.mp s6
        obtain ⟨b, rb, e6, s6⟩ := Res.bind_ok_iff.mp s6
        obtain ⟨tg, rpx⟩ := NewR.grown s1 (y _ _ _ (hSi s2 s3) s1.dom (List.getElem?_eq_getElem hi))
        refine gOf_run tg.sr rpx e5 fun σ' Ba sto => ⟨?_, ?_⟩
        · apply List.ext_getElem?
          intro j
          rw [wipe_get, wipe_get]
          by_cases hj : j ∈ ow
          · rw [if_pos hj, if_pos hj]
            by_cases hlt : j < σ.length
            · have hlt' : j < σ'.length := by rw [sto.len, wipe_length]; exact hlt
              rw [List.getElem?_eq_getElem hlt, List.getElem?_eq_getElem hlt']
              rfl
            · have hlt' : ¬ j < σ'.length := by rw [sto.len, wipe_length]; exact hlt
              rw [List.getElem?_eq_none (by omega), List.getElem?_eq_none (by omega)]
          · rw [if_neg hj, if_neg hj, sto.out j (fun z => hj (htg j z)), wipe_get, if_neg hj]
        · -- the state behind a turn's steps
          have sgw : ∀ j, j ∉ ow → σ'[j]? = σ[j]? := fun j hj => by rw [sto.out j (fun z => hj (htg j z)), wipe_get, if_neg hj]
          have wσ : wipe σ' ow = wipe σ ow := by
            apply List.ext_getElem?
            intro j
            rw [wipe_get, wipe_get]
            by_cases hj : j ∈ ow
            · rw [if_pos hj, if_pos hj]
              by_cases hlt : j < σ.length
              · have hlt' : j < σ'.length := by rw [sto.len, wipe_length]; exact hlt
                rw [List.getElem?_eq_getElem hlt, List.getElem?_eq_getElem hlt']
                rfl
              · have hlt' : ¬ j < σ'.length := by rw [sto.len, wipe_length]; exact hlt
                rw [List.getElem?_eq_none (by omega), List.getElem?_eq_none (by omega)]
            · rw [if_neg hj, if_neg hj, sgw j hj]
          have nlw : ∀ (ri' : Env), (∀ (j : Nat) d, ri'[j]? = some (.l d) ↔ (wipeE ow ri)[j]? = some (.l d)) → ∀ (j : Nat) d, ri'[j]? = some (.l d) → σ'[j]? ≠ some (some (.ref dl)) := fun ri' hr j d z => by
            obtain ⟨z1, z2⟩ := (s8 j d).mp ((hr j d).mp z)
            rw [sgw j z2]
            exact nls j d z1
          have lkn : ∀ (ri' : Env), (∀ (j : Nat) d, ri'[j]? = some (.l d) ↔ (wipeE ow ri)[j]? = some (.l d)) → ∀ (j : Nat) d, j ∉ ow → (ri'[j]? = some (.l d) ↔ (lockE (refsOf as) r1)[j]? = some (.l d)) := fun ri' hr j d hj =>
            (hr j d).trans ⟨fun z => ((s8 j d).mp z).1, fun z => (s8 j d).mpr ⟨z, hj⟩⟩
          have ev0 := tg.evo.trans sto.evo
          have lk0 : ∀ (j : Nat) d, ra[j]? = some (.l d) ↔ (wipeE ow ri)[j]? = some (.l d) := fun j d => (sto.lk j d).trans (tg.lk j d)
          have ko0 : ∀ c ∈ dl :: (L ++ O1), H' c = Hi c := fun c hc => (tg.ko c hc).1
          refine ⟨dl :: (L ++ O1), Ba, ra, b, rb, sto.sr, e6, fun H3 Bb t3 => ?_⟩
          have ev3 := ev0.trans t3.evo
          have ko3 : ∀ c ∈ dl :: (L ++ O1), H3 c = Hi c := fun c hc => (t3.ko c hc).1.trans (ko0 c hc)
          have lk3 : ∀ (j : Nat) d, rb[j]? = some (.l d) ↔ (wipeE ow ri)[j]? = some (.l d) := fun j d => (t3.lk j d).trans (lk0 j d)
          cases b with
          | false =>
            rw [if_neg Bool.false_ne_true] at s6
            show Pv (i + 1) H3
            obtain ⟨Bw, sw, ww⟩ := t3.sr.wiped ow
            rw [wσ] at sw
            have evw := ev3.less ww
            exact ⟨Bw, rb, acc, dn, rest, sw, s2.trans evw, fun c hc => (ko3 c (List.mem_cons_of_mem _ hc)).trans (s3 c hc), (ko3 dl List.mem_cons_self).trans s4, s5.evo evw, s6, s7, lkw _ (lkn _ lk3)⟩
          | true =>
            rw [if_pos rfl] at s6
            show rdE K Fe σ' H3 _
            obtain ⟨xd, rc, e7, s6⟩ := Res.bind_ok_iff.mp s6
            obtain ⟨⟨yd, rd⟩, e8, s6⟩ := opt_ok_iff.mp s6
            obtain ⟨rest', re, e9, s6⟩ := Res.bind_ok_iff.mp s6
            cases s6
            refine rdE.go t3.sr e7 fun v H4 O4 B4 t4 vr4 => ?_
            obtain ⟨B5, t5, rp5⟩ := VR.plain t3.sr t4 vr4.lv e8
            have ev5 := ev3.trans t5.evo
            have ko5 : ∀ c ∈ dl :: (L ++ O1), H4 c = Hi c := fun c hc => (t5.ko c hc).1.trans (ko3 c hc)
            have lk5 : ∀ (j : Nat) d, rd[j]? = some (.l d) ↔ (wipeE ow ri)[j]? = some (.l d) := fun j d => (t5.lk j d).trans (lk3 j d)
            have hacc : acc.length = dn.length := s5.length.symm
            have hz : acc.length < sizeLine := by
              have h1 : (dn ++ yd :: rest').length ≤ LIM := by rw [s7]; exact hlim
              rw [List.length_append, List.length_cons] at h1
              have := lim_line
              omega
            refine ⟨acc, (ko5 dl List.mem_cons_self).trans s4, hz, ?_⟩
            obtain ⟨sp, evp⟩ := t5.sr.pend (o := .lst (acc ++ [v])) List.mem_cons_self (nlw _ lk5)
            obtain ⟨Bw, sw, ww⟩ := sp.wiped ow
            rw [wσ] at sw
            have evq := evp.less ww
            have evw := ev5.trans evq
            have keep : ∀ c ∈ L ++ O1, upd H4 dl (.lst (acc ++ [v])) c = Hi c := fun c hc => (upd_ne fun z => nl (by rw [← z]; exact hc)).trans (ko5 c (List.mem_cons_of_mem _ hc))
            refine ⟨Bw, rd, acc ++ [v], dn ++ [yd], rest', sw, s2.trans evw, fun c hc => (keep c hc).trans (s3 c hc), upd_same, (s5.evo evw).append (.cons (rp5.evo evq) .nil), e9, ?_, lkw _ (lkn _ lk5)⟩
            rw [← s7, List.append_assoc]
            rfl
      · -- at the end
        obtain ⟨Bi, ri, acc, dn, rest, s1, s2, s3, s4, s5, s6, s7, s8⟩ := hp
        rw [List.drop_length] at s6
        cases s6
        rw [List.append_nil] at s7
        subst s7
        have sb := t1.sr.backed how s1 s2
        have hk : ∀ (j : Nat) d, (back ow r1 r3)[j]? = some (.l d) ↔ (lockE (refsOf as) r1)[j]? = some (.l d) := fun j d => by
          rw [back_get]
          by_cases hj : j ∈ ow
          · rw [if_pos hj]
            constructor
            · intro z
              obtain ⟨x, _, z2⟩ := Option.map_eq_some_iff.mp z
              rw [List.getD_eq_getElem?_getD] at z2
              rcases ownless_at how hj with ⟨y, z3⟩ | z3 <;> (rw [z3] at z2; cases z2)
            · intro z
              rcases ownless_at how hj with ⟨y, z3⟩ | z3 <;> rcases lock_l.mp z with z4 | ⟨z4, _⟩ <;> (rw [z3] at z4; cases z4)
          · rw [if_neg hj]
            have := s8 j d
            rw [wipeE_get, if_neg hj] at this
            exact this.trans ⟨fun z => z.1, fun z => ⟨z, hj⟩⟩
        obtain ⟨B2, su, wu, lu⟩ := t1.sr.unlock (O'' := dl :: O1) k sb rfl hk (fun _ _ _ => rfl) (fun b hb => List.mem_cons_of_mem _ (List.mem_append_left _ hb))
          (fun b hb => (List.mem_cons.mp hb).elim (fun z => by rw [z]; exact List.mem_cons_self) fun z => List.mem_cons_of_mem _ (List.mem_append_right _ z))
          (fun b hb => (List.mem_cons.mp hb).elim (fun z => by rw [z]; exact fun m => nl (List.mem_append_left _ m)) fun z m => k.notO t1.sr b m z) (fun b hb => List.mem_cons_of_mem _ hb)
        have tt : Tr K σ H O B r Hi (dl :: O1) B2 (unlkE (refsOf as) r1 (back ow r1 r3)) :=
          ⟨su, t1.evo.trans (s2.less wu), fun b hb => ⟨(s3 b (List.mem_append_right _ (t1.ko b hb).2)).trans (t1.ko b hb).1, List.mem_cons_of_mem _ (t1.ko b hb).2⟩, fun j d => (lu j d).trans (t1.lk j d)⟩
        have tf := tt.less (O2 := dl :: O) h0 (fun b hb => List.mem_cons_of_mem _ hb) fun b hb => (List.mem_cons.mp hb).elim (fun z => by rw [z]; exact List.mem_cons_self) fun z => List.mem_cons_of_mem _ (t1.ko b z).2
        refine q _ _ _ _ tf ?_
        unfold VR
        rw [if_pos rfl]
        refine ⟨dl, rfl, rfl, fun m => nl (List.mem_append_right _ (t1.ko dl m).2), acc, s4, s5.evo (Evo.refl.less fun b hb => wu b ?_)⟩
        exact hb.imp (fun m => (List.mem_cons.mp m).elim (fun z => by rw [z]; exact List.mem_cons_self) fun z => List.mem_cons_of_mem _ (t1.ko b z).2) id
    · cases e
  · cases e
end Pv
namespace Pv
open PySem PySem.Spec PyProof.Rows L2
section
variable {K : PySem.W.Frag} {k : Nat → Nat} {σ σ' σ1 σ2 : L2.St} {H H1 H2 H' : Hp} {O O1 O2 O3 O' : List Addr} {B B1 B2 B3 B' : List (Option Addr)} {r r1 r2 r' : Env}
/-- a step that stores at places that may be stored -/
def SSt (K : PySem.W.Frag) (k : Nat → Nat) (σ : L2.St) (H : Hp) (O : List Addr) (B : List (Option Addr)) (r : Env) (σ' : L2.St) (H' : Hp) (O' : List Addr) (B' : List (Option Addr)) (r' : Env) : Prop :=
  ∃ ix, (∀ i ∈ ix, k i ≠ 2) ∧ Sto K ix σ H O B r σ' H' O' B' r'
theorem SSt.of (h : SR K H O B r σ) : SSt K k σ H O B r σ H O B r := ⟨[], fun _ h => (nomatch h), Sto.refl h⟩
theorem Tr.sst (t : Tr K σ H O B r H' O' B' r') : SSt K k σ H O B r σ H' O' B' r' := ⟨[], fun _ h => (nomatch h), t.sto⟩
theorem SSt.trans (a : SSt K k σ H O B r σ1 H1 O1 B1 r1) (b : SSt K k σ1 H1 O1 B1 r1 σ2 H2 O2 B2 r2) : SSt K k σ H O B r σ2 H2 O2 B2 r2 := by
  obtain ⟨ix, h1, a⟩ := a
  obtain ⟨jx, h2, b⟩ := b
  refine ⟨ix ++ jx, fun i hi => (List.mem_append.mp hi).elim (h1 i) (h2 i), (a.mono fun i hi => List.mem_append_left _ hi).trans (b.mono fun i hi => List.mem_append_right _ hi)⟩
theorem SSt.sr (a : SSt K k σ H O B r σ1 H1 O1 B1 r1) : SR K H1 O1 B1 r1 σ1 := let ⟨_, _, a⟩ := a; a.sr
theorem SSt.evo (a : SSt K k σ H O B r σ1 H1 O1 B1 r1) : Evo H (OW O B) H1 (OW O1 B1) := let ⟨_, _, a⟩ := a; a.evo
theorem SSt.ko (a : SSt K k σ H O B r σ1 H1 O1 B1 r1) : ∀ b ∈ O, H1 b = H b ∧ b ∈ O1 := let ⟨_, _, a⟩ := a; a.ko
theorem SSt.lk (a : SSt K k σ H O B r σ1 H1 O1 B1 r1) : ∀ (i : Nat) d, r1[i]? = some (.l d) ↔ r[i]? = some (.l d) := let ⟨_, _, a⟩ := a; a.lk
theorem SSt.sl (a : SSt K k σ H O B r σ1 H1 O1 B1 r1) : ∀ (i : Nat) d, r[i]? = some (.l d) → σ1[i]? = σ[i]? := let ⟨_, _, a⟩ := a; a.sl
theorem SSt.len (a : SSt K k σ H O B r σ1 H1 O1 B1 r1) : σ1.length = σ.length := let ⟨_, _, a⟩ := a; a.len
theorem SSt.pr (a : SSt K k σ H O B r σ1 H1 O1 B1 r1) {i : Nat} (h : k i = 2) : σ1[i]? = σ[i]? := let ⟨_, h1, a⟩ := a; a.out i fun z => h1 i z h
theorem SSt.back (h0 : SR K H O B r σ) (a : SSt K k σ H O B r σ' H' O' B' r') : SSt K k σ H O B r σ' H' O B' r' := let ⟨ix, h1, a⟩ := a; ⟨ix, h1, a.back h0⟩

/-- a statement's reading -/
def rdS (K : PySem.W.Frag) (k : Nat → Nat) (F : Env → Res Fl) : TS := fun D σ H => ∃ O B r f r', SR K H O B r σ ∧ F r = .ok f r' ∧
  match f with
  | .nx => ∀ σ' H' B', SSt K k σ H O B r σ' H' O B' r' → D.nx σ' H'
  | .bk => ∀ σ' H' B', SSt K k σ H O B r σ' H' O B' r' → D.bk σ' H'
  | .ct => ∀ σ' H' B', SSt K k σ H O B r σ' H' O B' r' → D.ct σ' H'
  | .rt d fr => ∀ σ' v H' O' B', SSt K k σ H O B r σ' H' O' B' r' → VR K σ' O H' O' B' (d, fr) v → D.rt v H'
/-- a plain value's store, read -/
def rdG (K : PySem.W.Frag) (k : Nat → Nat) (F : D → Env → Res Unit) : TG := fun v σ H Q => ∃ O B r d r', SR K H O B r σ ∧ Rp K H (OW O B) d v ∧ F d r = .ok () r' ∧ ∀ σ' H' B', SSt K k σ H O B r σ' H' O B' r' → Q σ' H'

/-- a result stored in a slot that may own it -/
theorem SR.setSl {i : Nat} {x : D × Bool} {v : V} (h0 : SR K H O B r σ) (t : SSt K k σ H O B r σ1 H1 O1 B1 r1) (lv : LV K σ1 O H1 O1 B1 x v) (e : setSl (k i) i x.1 x.2 r1 = some r2) : ∃ B2, SSt K k σ H O B r (σ1.set i (some v)) H1 O B2 r2 ∧ Evo H1 (OW O1 B1) H1 (OW O B2) := by
  unfold Pv.setSl at e
  split at e
  · cases e
  · rename_i hc
    have inO : ∀ (j : Nat) d a, r1[j]? = some (.l d) → σ1[j]? = some (some (.ref a)) → a ∈ O1 → a ∈ O := fun j d a e1 e2 _ => by
      have e3 := (t.lk j d).mp e1
      obtain ⟨_, c', m, e', _⟩ := h0.lck j d e3
      rw [t.sl j d e3, e'] at e2
      cases e2
      exact m
    have fin : ∀ {B2 : List (Option Addr)} {r2 : Env}, SR K H1 O B2 r2 (σ1.set i (some v)) → Evo H1 (OW O1 B1) H1 (OW O B2) → (∀ (j : Nat) d, r2[j]? = some (.l d) ↔ r1[j]? = some (.l d)) → (∀ (j : Nat) d, r1[j]? = some (.l d) → (σ1.set i (some v))[j]? = σ1[j]?) →
        SSt K k σ H O B r (σ1.set i (some v)) H1 O B2 r2 ∧ Evo H1 (OW O1 B1) H1 (OW O B2) := fun {B2 r2} s ev l1 l2 => by
      obtain ⟨ix, hk, t⟩ := t
      refine ⟨⟨i :: ix, fun j hj => (List.mem_cons.mp hj).elim (fun z => by rw [z]; exact hc) (hk j), s, t.evo.trans ev, fun b hb => ⟨(t.ko b hb).1, hb⟩, fun j d => (l1 j d).trans (t.lk j d), fun j d e => (l2 j d ((t.lk j d).mpr e)).trans (t.sl j d e), fun j hj => ?_, by rw [List.length_set]; exact t.len⟩, ev⟩
      rw [List.getElem?_set_ne (fun z => hj (by rw [z]; exact List.mem_cons_self))]
      exact t.out j fun z => hj (List.mem_cons_of_mem _ z)
    have go : ∀ s, r1[i]? = some s → (∀ d, s ≠ .l d) → (if k i == 1 && x.2 && isBox x.1 then some (r1.set i (.o x.1)) else (fz r1 x.1).map fun y => y.2.set i (.v y.1)) = some r2 →
        ∃ B2, SSt K k σ H O B r (σ1.set i (some v)) H1 O B2 r2 ∧ Evo H1 (OW O1 B1) H1 (OW O B2) := fun s e1 nl e2 => by
      have hi := getO e1
      have nl' : ∀ d, r1[i]? ≠ some (.l d) := fun d z => by rw [e1] at z; cases z; exact nl d rfl
      split at e2
      · rename_i hb
        simp only [Bool.and_eq_true] at hb
        cases e2
        rcases lv with ⟨_, a, rfl, m, na, ob⟩ | ⟨hf, _⟩
        · have w : ∀ b, OW O (B1.set i (some a)) b → OW O1 B1 b := fun b hb => by
            rcases hb with z | z
            · exact .inl (t.ko b z).2
            · obtain ⟨j, hj⟩ := List.getElem?_of_mem z
              by_cases q : i = j
              · subst q
                rw [List.getElem?_set_self (by rw [t.sr.lenB]; exact hi)] at hj
                cases hj
                exact .inl m
              · rw [List.getElem?_set_ne q] at hj
                exact .inr (List.mem_of_getElem? hj)
          obtain ⟨h1, h2, h3, h4⟩ := t.sr.put (O := O) (s := .o x.1) (x := some (.ref a)) (b := some a) hi nl' (fun b hb => (t.ko b hb).2) inO (fun a' z => by cases z; exact ⟨m, na⟩)
            (fun d' z => nomatch z) (fun d' z => by cases z; exact ⟨a, rfl, rfl, ob.evo (Evo.refl.less w) rfl⟩) (fun d' z => nomatch z) (fun z => nomatch z)
          exact ⟨_, fin h1 h2 h3 h4⟩
        · rw [hf] at hb
          exact absurd hb.1.2 Bool.false_ne_true
      · obtain ⟨⟨y, r3⟩, e3, e4⟩ := Option.map_eq_some_iff.mp e2
        subst e4
        obtain ⟨B2, _, s2, ev2, l2, rp⟩ := lv.plain t.sr (fun b hb => (t.ko b hb).2) inO e3
        have hi3 : i < r3.length := by rw [← s2.lenS, t.sr.lenS]; exact hi
        obtain ⟨h1, h2, h3, h4⟩ := s2.put (O := O) (s := .v y) (x := some v) (b := none) hi3 (fun d z => nl' d ((l2 i d).mp z)) (fun _ h => h) (fun _ _ _ _ _ h => h) (fun a z => nomatch z)
          (fun d' z => by cases z; exact ⟨rfl, v, rfl, rp.evo (Evo.refl.less ow_set)⟩) (fun d' z => nomatch z) (fun d' z => nomatch z) (fun _ => rfl)
        exact ⟨_, fin h1 (ev2.trans h2) (fun j d => (h3 j d).trans (l2 j d)) fun j d e => h4 j d ((l2 j d).mpr e)⟩
    cases e1 : r1[i]? with
    | none => rw [e1] at e; cases e
    | some s =>
      rw [e1] at e
      cases s with
      | l d' => cases e
      | e => exact go _ e1 (fun _ z => nomatch z) e
      | v d' => exact go _ e1 (fun _ z => nomatch z) e
      | o d' => exact go _ e1 (fun _ z => nomatch z) e
/-- a plain value stored: what is pending stays so -/
theorem SR.setV {i : Nat} {d : D} {v : V} (t : SR K H1 O1 B1 r1 σ1) (rp : Rp K H1 (OW O1 B1) d v) (e : Pv.setSl (k i) i d false r1 = some r2) : ∃ B2, SSt K k σ1 H1 O1 B1 r1 (σ1.set i (some v)) H1 O1 B2 r2 := by
  unfold Pv.setSl at e
  split at e
  · cases e
  · rename_i hc
    have nr : ∀ j, d ≠ .ref j := fun j z => by rw [z] at rp; simp only [Rp] at rp
    have e' : Pv.putV i d r1 = some r2 := by
      unfold Pv.putV
      revert e
      cases r1[i]? with
      | none => exact id
      | some s => cases s <;> first
        | exact id
        | (intro e
           rw [if_neg (by rw [Bool.and_false, Bool.false_and]; exact Bool.false_ne_true), fz_plain nr] at e
           exact e)
    obtain ⟨B2, s⟩ := t.putV rp e'
    exact ⟨B2, [i], fun j hj => by rw [List.mem_singleton.mp hj]; exact hc, s⟩
/-- several values stored, the last one first -/
def sets : List Nat → List V → L2.St → L2.St
  | i :: is, v :: vs, σ => (sets is vs σ).set i (some v)
  | _, _, σ => σ
def LVn (K : PySem.W.Frag) (O : List Addr) (H' : Hp) (O' : List Addr) (B' : List (Option Addr)) (x : D × Bool) (v : V) : Prop :=
  (x.2 = true ∧ ∃ a, v = .ref a ∧ a ∈ O' ∧ a ∉ O ∧ Ob K H' (OW O' B') x.1 a) ∨ (x.2 = false ∧ (∀ i, x.1 ≠ .ref i) ∧ Rp K H' (OW O' B') x.1 v)
theorem LVn.step {x : D × Bool} {v : V} (h : LVn K O H1 O1 B1 x v) (e : Evo H1 (OW O1 B1) H2 (OW O2 B2)) (k : ∀ b ∈ O1, H2 b = H1 b ∧ b ∈ O2) : LVn K O H2 O2 B2 x v := by
  rcases h with ⟨h0, a, h1, h2, h3, h4⟩ | ⟨h0, h1, h2⟩
  · exact .inl ⟨h0, a, h1, (k a h2).2, h3, h4.evo e (k a h2).1⟩
  · exact .inr ⟨h0, h1, h2.evo e⟩
theorem LV.n {x : D × Bool} {v : V} (h : LV K σ O H1 O1 B1 x v) (nr : isRef x.1 = false) : LVn K O H1 O1 B1 x v := by
  rcases h with h | ⟨h0, ⟨i, h1, _⟩ | h1⟩
  · exact .inl h
  · rw [h1] at nr; cases nr
  · exact .inr ⟨h0, h1.1, h1.2⟩
theorem LVn.lv {x : D × Bool} {v : V} (h : LVn K O H1 O1 B1 x v) : LV K σ O H1 O1 B1 x v := by
  rcases h with h | ⟨h0, h1⟩
  · exact .inl h
  · exact .inr ⟨h0, .inr h1⟩
def LVnL (K : PySem.W.Frag) (O : List Addr) (H' : Hp) (O' : List Addr) (B' : List (Option Addr)) : List (D × Bool) → List V → Prop
  | [], [] => True
  | x :: xs, v :: vs => LVn K O H' O' B' x v ∧ LVnL K O H' O' B' xs vs
  | _, _ => False
theorem LVL.n : ∀ {xs : List (D × Bool)} {vs : List V}, LVL K σ O H1 O1 B1 xs vs → xs.all (fun x => !isRef x.1) = true → LVnL K O H1 O1 B1 xs vs
  | [], [], _, _ => trivial
  | x :: xs, v :: vs, h, n => by
    simp only [List.all_cons, Bool.and_eq_true, Bool.not_eq_true'] at n
    exact ⟨h.1.n n.1, LVL.n h.2 (by simpa using n.2)⟩
  | [], _ :: _, h, _ => h.elim
  | _ :: _, [], h, _ => h.elim
theorem setAll_ok (h0 : SR K H O B r σ) : ∀ (is : List Nat) (xs : List (D × Bool)) (vs : List V) {σ1 : L2.St} {O1 : List Addr} {B1 : List (Option Addr)} {r1 r2 : Env}, SSt K k σ H O B r σ1 H1 O1 B1 r1 → LVnL K O H1 O1 B1 xs vs → (xs.filter (·.2)).length ≤ 1 →
    setAll k is xs r1 = some r2 → ∃ O2 B2, SSt K k σ H O B r (sets is vs σ1) H1 O2 B2 r2 ∧ (xs.filter (·.2) = [] → O2 = O1) ∧ (xs.filter (·.2) ≠ [] → O2 = O) ∧ Evo H1 (OW O1 B1) H1 (OW O2 B2) := by
  intro is
  induction is with
  | nil =>
    intro xs vs σ1 O1 B1 r1 r2 s l hc e
    cases xs with
    | nil =>
      cases e
      exact ⟨O1, B1, by cases vs <;> exact s, fun _ => rfl, fun z => absurd rfl z, .refl⟩
    | cons x xs => cases e
  | cons i is ih =>
    intro xs vs σ1 O1 B1 r1 r2 s l hc e
    cases xs with
    | nil => cases e
    | cons x xs =>
      obtain ⟨d, f⟩ := x
      cases vs with
      | nil => exact l.elim
      | cons v vs =>
        obtain ⟨r3, e1, e2⟩ := Option.bind_eq_some_iff.mp e
        cases f with
        | true =>
          rw [List.filter_cons_of_pos rfl, List.length_cons] at hc
          have hn : xs.filter (·.2) = [] := List.eq_nil_of_length_eq_zero (by omega)
          obtain ⟨O2, B2, s2, hO, _, ev2⟩ := ih xs vs s l.2 (by rw [hn]; exact Nat.zero_le _) e1
          have hO := hO hn
          subst hO
          obtain ⟨B3, s3, ev3⟩ := h0.setSl (x := (d, true)) s2 ((l.1.step ev2 fun b hb => ⟨rfl, hb⟩).lv) e2
          refine ⟨O, B3, s3, fun z => ?_, fun _ => rfl, ev2.trans ev3⟩
          rw [List.filter_cons_of_pos rfl] at z
          cases z
        | false =>
          rw [List.filter_cons_of_neg Bool.false_ne_true] at hc
          obtain ⟨O2, B2, s2, hO1, hO2, ev2⟩ := ih xs vs s l.2 hc e1
          rcases l.1 with ⟨z, _⟩ | ⟨_, _, rp⟩
          · cases z
          · obtain ⟨B3, s3⟩ := s2.sr.setV (k := k) (rp.evo ev2) e2
            rw [List.filter_cons_of_neg Bool.false_ne_true]
            exact ⟨O2, B3, s2.trans s3, hO1, hO2, ev2.trans s3.evo⟩
end
section
variable {X : Cx} {a b c e : Expr} {pos p : Pos} {k : Nat → Nat} {Fa Fb Fe : Env → Res (D × Bool)} {Tc : Env → Res Bool} {st : Stmt} {rest sa sb : List Stmt} {S1 S2 : Env → Res Fl}
theorem ss_expr (he : PE X e (rdE X.K Fe)) (hs : swapsWith e none pos.line X.env = pure false) : PS X (.Expr e pos) (rdS X.K k fun r => (Fe r).bind fun _ r1 => .ok .nx r1) := by
  refine (ps_expr he hs).imp fun D σ H h => ?_
  obtain ⟨O, B, r, f, r', h0, e1, q⟩ := h
  obtain ⟨x, r1, e2, e1⟩ := Res.bind_ok_iff.mp e1
  cases e1
  exact rdE.go h0 e2 fun v H1 O1 B1 t1 _ => q _ _ _ (t1.back h0).sst
theorem ss_pass : PS X (.Pass pos) (rdS X.K k fun r => .ok .nx r) := by
  refine ps_pass.imp fun D σ H h => ?_
  obtain ⟨O, B, r, f, r', h0, e1, q⟩ := h
  cases e1
  exact q _ _ _ (.of h0)
theorem ss_doc {x : Str} {j : Nat} {p2 : Pos} : PS X (.Expr (.Constant (.str x) j pos) p2) (rdS X.K k fun r => .ok .nx r) := by
  refine ps_doc.imp fun D σ H h => ?_
  obtain ⟨O, B, r, f, r', h0, e1, q⟩ := h
  cases e1
  exact q _ _ _ (.of h0)
theorem ss_brk : PS X (.Break pos) (rdS X.K k fun r => .ok .bk r) := by
  refine ps_break.imp fun D σ H h => ?_
  obtain ⟨O, B, r, f, r', h0, e1, q⟩ := h
  cases e1
  exact q _ _ _ (.of h0)
theorem ss_cont : PS X (.Continue pos) (rdS X.K k fun r => .ok .ct r) := by
  refine ps_continue.imp fun D σ H h => ?_
  obtain ⟨O, B, r, f, r', h0, e1, q⟩ := h
  cases e1
  exact q _ _ _ (.of h0)
theorem ss_ret (he : PE X e (rdE X.K Fe)) : PS X (.Return (some e) pos) (rdS X.K k fun r => (Fe r).bind fun x r1 => .ok (.rt x.1 x.2) r1) := by
  refine (ps_ret he).imp fun D σ H h => ?_
  obtain ⟨O, B, r, f, r', h0, e1, q⟩ := h
  obtain ⟨x, r1, e2, e1⟩ := Res.bind_ok_iff.mp e1
  cases e1
  exact rdE.go h0 e2 fun v H1 O1 B1 t1 vr1 => q _ _ _ _ _ t1.sst vr1
theorem ss_retn : PS X (.Return none pos) (rdS X.K k fun r => .ok (.rt .non false) r) := by
  refine ps_retN.imp fun D σ H h => ?_
  obtain ⟨O, B, r, f, r', h0, e1, q⟩ := h
  cases e1
  exact q _ _ _ _ _ (.of h0) ⟨rfl, by simp [Rp]⟩
theorem ss_set {i : Nat} {x : Str} {p2 : Pos} (hN : X.N.Nodup) (hi : X.N[i]? = some x) (hx : Loc X.env.scope x) (he : PE X e (rdE X.K Fe)) (hs : swapsWith e (some (.Name x p2)) pos.line X.env = pure false) (hf : X.fn x = true ∨ X.env.scope.names.lookup x = some .local) :
    PS X (.Assign [.Name x p2] e pos) (rdS X.K k fun r => (Fe r).bind fun x r1 => opt (setSl (k i) i x.1 x.2 r1) fun r2 => .ok .nx r2) := by
  refine (ps_set hN hi hx he hs hf).imp fun D σ H h => ?_
  obtain ⟨O, B, r, f, r', h0, e1, q⟩ := h
  obtain ⟨y, r1, e2, e1⟩ := Res.bind_ok_iff.mp e1
  obtain ⟨r2, e3, e1⟩ := opt_ok_iff.mp e1
  cases e1
  refine rdE.go h0 e2 fun v H1 O1 B1 t1 vr1 => ?_
  obtain ⟨B2, s, _⟩ := h0.setSl t1.sst vr1.lv e3
  exact q _ _ _ s
theorem ss_asg {tg : Expr} {F : D → Env → Res Unit} (he : PE X e (rdE X.K Fe)) (hg : PG X tg (rdG X.K k F)) (hs : swapsWithSole [tg] e pos.line X.env = pure false) (hw : swappedStores [tg] e X.env = pure none) (h1 : (assignEach [tg] X.env).map (·.2) = [assign tg X.env]) :
    PS X (.Assign [tg] e pos) (rdS X.K k fun r => (Fe r).bind fun x r1 => opt (fz r1 x.1) fun y => (F y.1 y.2).bind fun _ r2 => .ok .nx r2) := by
  refine (ps_asg he hg hs hw h1).imp fun D σ H h => ?_
  obtain ⟨O, B, r, f, r', h0, e1, q⟩ := h
  obtain ⟨x, r1, e2, e1⟩ := Res.bind_ok_iff.mp e1
  obtain ⟨⟨y, r2⟩, e3, e1⟩ := opt_ok_iff.mp e1
  obtain ⟨_, r3, e4, e1⟩ := Res.bind_ok_iff.mp e1
  cases e1
  refine rdE.go h0 e2 fun v H1 O1 B1 t1 vr1 => ?_
  obtain ⟨B2, t2, rp⟩ := VR.plain h0 t1 vr1.lv e3
  exact ⟨O, B2, r2, y, r', t2.sr, rp, e4, fun σ' H' B' s => q _ _ _ (t2.sst.trans s)⟩
theorem sg_name {i : Nat} {x : Str} (hN : X.N.Nodup) (hi : X.N[i]? = some x) (hx : Loc X.env.scope x) (hf : X.fn x = true ∨ X.env.scope.names.lookup x = some .local) : PG X (.Name x pos) (rdG X.K k fun d r => if k i = 2 then .no else opt (putV i d r) fun r' => .ok () r') := by
  refine ⟨fun pins s σ H v u Q I rv0 h => (pg_name hN hi hx hf).run pins s σ H v u Q I rv0 ?_⟩
  obtain ⟨O, B, r, d, r', h0, rp, e1, q⟩ := h
  split at e1
  · cases e1
  · rename_i hk
    obtain ⟨r2, e2, e1⟩ := opt_ok_iff.mp e1
    cases e1
    obtain ⟨B', s⟩ := h0.putV rp e2
    exact q _ _ _ ⟨[i], fun j hj => by rw [List.mem_singleton.mp hj]; exact hk, s⟩
theorem sg_sub {i : Nat} {x : Str} {p2 : Pos} (hN : X.N[i]? = some x) (hv : Vis X.env.scope x) (hd : (x == ("__debug__" : Str)) = false) (hcd : (x == ("__classdict__" : Str)) = false) (ha : PE X a (rdE X.K Fa))
    (has : ∀ v, assign (.Subscript (.Name x p2) a pos) X.env v = (do
      let ov ← holding [v] (eval (.Name x p2) X.env)
      let iv ← holding [v, ov] (eval a X.env)
      standAt pos
      holding [v, ov, iv] (setItem ov iv v)
      release [v, ov, iv] [])) :
    PG X (.Subscript (.Name x p2) a pos) (rdG X.K k fun d r => if ownsL r i then (Fa r).bind fun y r2 => opt (putO i (fun o => sbD o y.1 d) r2) fun z => .ok () z.2 else .no) := by
  refine ⟨fun pins s σ H v u Q I rv0 h => (pg_sub (pe_var hN hv hd hcd) ha set_list has).run pins s σ H v u Q I rv0 ?_⟩
  obtain ⟨O, B, r, d, r', h0, rp, e1, q⟩ := h
  dsimp only at e1
  split at e1
  · rename_i ho
    obtain ⟨xs, e0⟩ := ownsL_at ho
    obtain ⟨y, r1, e2, e1⟩ := Res.bind_ok_iff.mp e1
    obtain ⟨z, e3, e1⟩ := opt_ok_iff.mp e1
    obtain ⟨o, o', w, e4, e5, rfl⟩ := putO_at e3
    cases e1
    obtain ⟨l, vs, _, s1, s2, _⟩ := h0.ownL e0
    refine ⟨.ref l, s1, rdE.go h0 e2 fun iv H1 O1 B1 t1 vr1 => ?_⟩
    obtain ⟨y, fy⟩ := y
    match o, y, e4, e5, vr1 with
    | .lst ys, .int j, e4, e5, vr1 =>
      obtain ⟨rfl, rfl⟩ := vr1.int
      simp only [sbD] at e5
      obtain ⟨jj, e6, e7⟩ := Option.map_eq_some_iff.mp e5
      cases e7
      obtain ⟨l', ws, b1, s1', s2', rr⟩ := t1.sr.ownL e4
      rw [s1] at s1'
      cases s1'
      refine ⟨l, ws, j, jj, rfl, rfl, s2', by rw [← ixn_N, ← rr.length]; exact e6, ?_⟩
      have tm := t1.sr.mut (d' := .lst (ys.set jj d)) (o := .lst (ws.set jj v)) e4 b1 s1 (rr.set (rp.evo t1.evo) jj)
      exact q _ _ _ (t1.trans tm).sst
  · cases e1
/-- several targets, each from its value -/
def rdGs (K : PySem.W.Frag) (k : Nat → Nat) (F : List D → Env → Res Unit) : TGs := fun vs σ H Q => ∃ O B r ds r', SR K H O B r σ ∧ RpL K H (OW O B) ds vs ∧ F ds r = .ok () r' ∧ ∀ σ' H' B', SSt K k σ H O B r σ' H' O B' r' → Q σ' H'
theorem sgs_nil' {F : List D → Env → Res Unit} (hF : ∀ (d : D) (ds : List D) (r r' : Env), F (d :: ds) r = .ok () r' → False) (hF0 : ∀ r, F [] r = .ok () r) : PGs X [] (rdGs X.K k F) := by
  refine ⟨fun pins s σ H vs us Q I rv0 h => pgs_nil.run pins s σ H vs us Q I rv0 ?_⟩
  obtain ⟨O, B, r, ds, r', h0, rp, e, q⟩ := h
  cases ds with
  | nil =>
    rw [hF0] at e
    cases e
    exact ⟨rp.nil_inv, q _ _ _ (.of h0)⟩
  | cons d ds => exact (hF d ds r r' e).elim
theorem sgs_cons {tg : Expr} {ts : List Expr} {F : D → Env → Res Unit} {G GG : List D → Env → Res Unit} (h1 : PG X tg (rdG X.K k F)) (h2 : PGs X ts (rdGs X.K k G)) (hs : (assignEach (tg :: ts) X.env).map (·.2) = assign tg X.env :: (assignEach ts X.env).map (·.2))
    (hG : ∀ (d : D) (ds : List D) (r : Env), GG (d :: ds) r = (F d r).bind fun _ r1 => G ds r1) (hG0 : ∀ r r', GG [] r ≠ .ok () r') : PGs X (tg :: ts) (rdGs X.K k GG) := by
  refine ⟨fun pins s σ H vs us Q I rv0 h => (pgs_cons h1 h2 hs).run pins s σ H vs us Q I rv0 ?_⟩
  obtain ⟨O, B, r, ds, r', h0, rp, e, q⟩ := h
  cases ds with
  | nil => exact absurd e (hG0 r r')
  | cons d ds =>
    obtain ⟨v, ws, rfl, rv, rw'⟩ := rp.cons_inv
    rw [hG] at e
    obtain ⟨_, r1, e1, e2⟩ := Res.bind_ok_iff.mp e
    refine ⟨v, ws, rfl, O, B, r, d, r1, h0, rv, e1, fun σ1 H1 B1 s1 => ⟨O, B1, r1, ds, r', s1.sr, rw'.evo s1.evo, e2, fun σ2 H2 B2 s2 => q _ _ _ (s1.trans s2)⟩⟩
theorem sg_tup {ts : List Expr} {kk n : Nat} {G : List D → Env → Res Unit} (hc : X.calm = true) (h : PGs X ts (rdGs X.K k G)) (hn : (assignEach ts X.env).length = n) (hst : (assignEach ts X.env).findIdx? (·.1) = none) :
    PG X (.Tuple ts kk pos) (rdG X.K k fun d r => match d with | .tup xs => if n = xs.length then G xs r else .no | _ => .no) := by
  refine ⟨fun pins s σ H v u Q I rv0 hw => (pg_tup hc h hn hst).run pins s σ H v u Q I rv0 ?_⟩
  obtain ⟨O, B, r, d, r', h0, rp, e, q⟩ := hw
  cases d with
  | tup xs =>
    dsimp only at e
    split at e
    · rename_i hl
      simp only [Rp] at rp
      obtain ⟨a, vs, rfl, hT, rr⟩ := rp
      exact ⟨a, vs, rfl, hT.sq, by rw [← rr.length]; exact hl.symm, O, B, r, xs, r', h0, rr, e, q⟩
    · cases e
  | _ => cases e
theorem ss_nil : PSs X [] (rdS X.K k fun r => .ok .nx r) := by
  refine pss_nil.imp fun D σ H h => ?_
  obtain ⟨O, B, r, f, r', h0, e1, q⟩ := h
  cases e1
  exact q _ _ _ (.of h0)
def seqF (S1 S2 : Env → Res Fl) : Env → Res Fl := fun r => (S1 r).bind fun f r1 => match f with | .nx => S2 r1 | f => .ok f r1
theorem ss_seq (h1 : PS X st (rdS X.K k S1)) (h2 : PSs X rest (rdS X.K k S2)) : PSs X (st :: rest) (rdS X.K k (seqF S1 S2)) := by
  refine (pss_cons h1 h2).imp fun D σ H h => ?_
  obtain ⟨O, B, r, f, r', h0, e, q⟩ := h
  obtain ⟨g, r1, e1, e⟩ := Res.bind_ok_iff.mp e
  refine ⟨O, B, r, g, r1, h0, e1, ?_⟩
  cases g with
  | nx =>
    intro σ1 H1 B1 s1
    refine ⟨O, B1, r1, f, r', s1.sr, e, ?_⟩
    cases f with
    | nx => exact fun σ' H' B' s => q _ _ _ (s1.trans s)
    | bk => exact fun σ' H' B' s => q _ _ _ (s1.trans s)
    | ct => exact fun σ' H' B' s => q _ _ _ (s1.trans s)
    | rt d fr => exact fun σ' v H' O' B' s vr => q _ _ _ _ _ (s1.trans s) vr
  | bk => cases e; exact q
  | ct => cases e; exact q
  | rt d fr => cases e; exact q
theorem ss_if (hc : PT X c (rdT X.K Tc)) (ha : PSs X sa (rdS X.K k S1)) (hb : PSs X sb (rdS X.K k S2)) : PS X (.If c sa sb pos) (rdS X.K k fun r => (Tc r).bind fun t r1 => if t then S1 r1 else S2 r1) := by
  refine (ps_if hc ha hb).imp fun D σ H h => ?_
  obtain ⟨O, B, r, f, r', h0, e, q⟩ := h
  obtain ⟨t, r1, e1, e⟩ := Res.bind_ok_iff.mp e
  refine ⟨O, B, r, t, r1, h0, e1, fun H1 B1 t1 => ?_⟩
  have go : ∀ {S : Env → Res Fl}, S r1 = .ok f r' → rdS X.K k S D σ H1 := fun {S} es => by
    refine ⟨O, B1, r1, f, r', t1.sr, es, ?_⟩
    cases f with
    | nx => exact fun σ' H' B' s => q _ _ _ (t1.sst.trans s)
    | bk => exact fun σ' H' B' s => q _ _ _ (t1.sst.trans s)
    | ct => exact fun σ' H' B' s => q _ _ _ (t1.sst.trans s)
    | rt d fr => exact fun σ' v H' O' B' s vr => q _ _ _ _ _ (t1.sst.trans s) vr
  cases t with
  | true =>
    rw [if_pos rfl] at e
    show rdS X.K k S1 D σ H1
    exact go e
  | false =>
    rw [if_neg Bool.false_ne_true] at e
    show rdS X.K k S2 D σ H1
    exact go e
theorem ss_while (hp : PassesOwn (model X.prog X.w) X.A X.env X.xe) (hc : PT X c (rdT X.K Tc)) (ha : PSs X sa (rdS X.K k S1)) (fuel : Nat) : PS X (.While c sa [] pos) (rdS X.K k fun r => whileI Tc S1 fuel r) := by
  refine (ps_while hp hc ha).imp fun D σ H h => ?_
  obtain ⟨O, B, r, f, r', h0, e, q⟩ := h
  -- the invariant: what is left to run
  refine ⟨fun m σ1 H1 => ∃ B1 r1, SSt X.K k σ H O B r σ1 H1 O B1 r1 ∧ whileI Tc S1 m r1 = .ok f r', ⟨fuel, B, r, .of h0, e⟩, fun m σ1 H1 hw => ?_⟩
  obtain ⟨B1, r1, s1, e1⟩ := hw
  cases m with
  | zero => cases e1
  | succ m =>
    unfold whileI at e1
    obtain ⟨t, r2, e2, e1⟩ := Res.bind_ok_iff.mp e1
    refine ⟨O, B1, r1, t, r2, s1.sr, e2, fun H2 B2 t2 => ?_⟩
    have s2 := s1.trans t2.sst
    cases t with
    | false =>
      rw [if_neg Bool.false_ne_true] at e1
      show (if false = true then _ else D.nx σ1 H2)
      rw [if_neg Bool.false_ne_true]
      cases e1
      exact q _ _ _ s2
    | true =>
      rw [if_pos rfl] at e1
      show (if true = true then _ else _)
      rw [if_pos rfl]
      obtain ⟨g, r3, e3, e1⟩ := Res.bind_ok_iff.mp e1
      refine ⟨fun σ3 H3 => ∃ B3 r4, SSt X.K k σ H O B r σ3 H3 O B3 r4 ∧ whileI Tc S1 m r4 = .ok f r', fun σ3 H3 hn => ⟨m, Nat.lt_succ_self m, hn⟩, O, B2, r2, g, r3, t2.sr, e3, ?_⟩
      cases g with
      | nx => exact fun σ' H' B' s => ⟨B', r3, s2.trans s, e1⟩
      | ct => exact fun σ' H' B' s => ⟨B', r3, s2.trans s, e1⟩
      | bk =>
        cases e1
        exact fun σ' H' B' s => q _ _ _ (s2.trans s)
      | rt d fr =>
        cases e1
        exact fun σ' v H' O' B' s vr => q _ _ _ _ _ (s2.trans s) vr
end
end Pv
namespace Pv
open PySem PySem.Spec PyProof.Rows L2
section
variable {K : PySem.W.Frag} {k : Nat → Nat} {σ σ' σ1 σ2 : L2.St} {H H1 H2 H' : Hp} {O O1 O2 O3 O' : List Addr} {B B1 B2 B3 B' : List (Option Addr)} {r r1 r2 r3 r' : Env}
theorem SSt.less (h0 : SR K H O B r σ) (a : SSt K k σ H O B r σ' H' O' B' r') (hs : ∀ b ∈ O, b ∈ O2) (hs2 : ∀ b ∈ O2, b ∈ O') : SSt K k σ H O B r σ' H' O2 B' r' := let ⟨ix, h1, a⟩ := a; ⟨ix, h1, a.less h0 hs hs2⟩
/-- behind a walk -/
theorem SSt.unlock {js : List Nat} {L : List Addr} (h0 : SR K H O B r σ) (t1 : Tr K σ H O B r H1 O1 B1 r1) (lk : Lk js r1 O1 B1 L B3) (s : SSt K k σ H1 (L ++ O1) B3 (lockE js r1) σ' H' O' B' r3)
    (hO : ∀ b ∈ O, b ∈ O2) (h2 : ∀ b ∈ O2, b ∈ O' ∧ b ∉ L) : ∃ B2, SSt K k σ H O B r σ' H' O2 B2 (unlkE js r1 r3) ∧ ∀ b, OW O2 B2 b → OW O' B' b := by
  obtain ⟨B2, su, wu, lu⟩ := t1.sr.unlock (O'' := O2 ++ O1) lk s.sr s.len s.lk s.sl (fun b hb => (s.ko b (List.mem_append_left _ hb)).2)
    (fun b hb => (List.mem_append.mp hb).elim (fun m => (h2 b m).1) fun m => (s.ko b (List.mem_append_right _ m)).2)
    (fun b hb => (List.mem_append.mp hb).elim (fun m => (h2 b m).2) fun m z => lk.notO t1.sr b z m) (fun b hb => List.mem_append_right _ hb)
  have evL : Evo H1 (OW O1 B1) H1 (OW (L ++ O1) B3) := Evo.refl.less fun b hb => (lk.ow b).mp hb
  have ll : ∀ (i : Nat) d, r[i]? = some (.l d) → (lockE js r1)[i]? = some (.l d) := fun i d e => lock_l.mpr (.inl ((t1.lk i d).mpr e))
  have a : SSt K k σ H O B r σ' H' (O2 ++ O1) B2 (unlkE js r1 r3) := by
    obtain ⟨ix, hk, s⟩ := s
    exact ⟨ix, hk, su, t1.evo.trans (evL.trans (s.evo.less wu)), fun b hb => ⟨(s.ko b (List.mem_append_right _ (t1.ko b hb).2)).1.trans (t1.ko b hb).1, List.mem_append_left _ (hO b hb)⟩, fun i d => (lu i d).trans (t1.lk i d), fun i d e => s.sl i d (ll i d e), s.out, s.len⟩
  exact ⟨B2, a.less h0 hO fun b hb => List.mem_append_left _ hb, fun b hb => wu b (hb.imp (fun m => List.mem_append_left _ m) id)⟩
end
section
variable {X : Cx} {a b c e iter tg : Expr} {pos p : Pos} {k : Nat → Nat} {Fa Fb Fe : Env → Res (D × Bool)} {Fs : Env → Res (List (D × Bool))} {body : List Stmt} {S1 : Env → Res Fl} {w : Wk} {t : Tg}
def forF (k : Nat → Nat) (t : Tg) (w : Wk) (Fs : Env → Res (List (D × Bool))) (S1 : Env → Res Fl) : Env → Res Fl := fun r =>
  (Fs r).bind fun as r1 => opt (rdAll r1 as) fun ds => opt (walk w ds) fun xs => if (tgIx t).all (fun i => k i != 2) then
      (forI t S1 xs (lockE (refsOf as) r1)).bind fun f r => .ok f (unlkE (refsOf as) r1 r) else .no
theorem ss_for (hp : PassesOwn (model X.prog X.w) X.A X.env X.xe) (hc : X.calm = true) (hi : PI X tg iter (rdW X.K w Fs)) (hg : PG X tg (gOf X.K t)) (hb : PSs X body (rdS X.K k S1)) (hs : ∀ x, foldedSetIterable iter X.env x = pure x) :
    PS X (.For tg iter body [] pos) (rdS X.K k (forF k t w Fs S1)) := by
  refine (ps_for hp hc hi hg hb hs).imp fun D σ H h => ?_
  obtain ⟨O, B, r, f, r', h0, e, q⟩ := h
  obtain ⟨as, r1, e1, e⟩ := Res.bind_ok_iff.mp e
  obtain ⟨ds, e2, e⟩ := opt_ok_iff.mp e
  obtain ⟨ys, e3, e⟩ := opt_ok_iff.mp e
  split at e
  · rename_i hk
    obtain ⟨f', r3, e4, e⟩ := Res.bind_ok_iff.mp e
    cases e
    have hk2 : ∀ i ∈ tgIx t, k i ≠ 2 := fun i hi => by
      have := List.all_eq_true.mp hk i hi
      simpa using this
    refine ⟨O, B, r, as, r1, ds, ys, h0, e1, e2, e3, fun H1 O1 B1 t1 L B3 lk J S src hS => ?_⟩
    have sL : SR X.K H1 (L ++ O1) B3 (lockE (refsOf as) r1) σ := t1.sr.lock lk
    have nl : ∀ b ∈ O, b ∉ L := fun b hb z => lk.notO t1.sr b z (t1.ko b hb).2
    have endP : ∀ {σ' H' B'}, SSt X.K k σ H1 (L ++ O1) B3 (lockE (refsOf as) r1) σ' H' (L ++ O1) B' r3 → ∃ B2, SSt X.K k σ H O B r σ' H' O B2 (unlkE (refsOf as) r1 r3) := fun {σ' H' B'} s => by
      obtain ⟨B2, s2, _⟩ := SSt.unlock (O2 := O) h0 t1 lk s (fun _ h => h) fun b hb => ⟨List.mem_append_right _ (t1.ko b hb).2, nl b hb⟩
      exact ⟨B2, s2⟩
    refine for_it src.walkOf (fun i σi Hi => ∃ Bi ri, SSt X.K k σ H1 (L ++ O1) B3 (lockE (refsOf as) r1) σi Hi (L ++ O1) Bi ri ∧ forI t S1 (ys.drop i) ri = .ok f r3)
      ⟨B3, _, .of sL, e4⟩ (fun i σi Hi _ hp => ?_) (fun i x σi Hi H' hi hp y => ?_) (fun σi Hi hp => ?_)
    · obtain ⟨Bi, ri, s, _⟩ := hp
      exact ⟨_, _, src.keep hS s.evo s.ko⟩
    · obtain ⟨Bi, ri, s, e5⟩ := hp
      rw [List.drop_eq_getElem_cons hi] at e5
      unfold forI at e5
      obtain ⟨ra, e6, e5⟩ := opt_ok_iff.mp e5
      obtain ⟨g, rb, e7, e5⟩ := Res.bind_ok_iff.mp e5
      obtain ⟨tg, rpx⟩ := NewR.grown s.sr (y _ _ _ (src.keep hS s.evo s.ko) s.sr.dom (List.getElem?_eq_getElem hi))
      refine gOf_run tg.sr rpx e6 fun σa Ba sto => ?_
      have s2 : SSt X.K k σ H1 (L ++ O1) B3 (lockE (refsOf as) r1) σa H' (L ++ O1) Ba ra := (s.trans tg.sst).trans ⟨_, hk2, sto⟩
      refine ⟨L ++ O1, Ba, ra, g, rb, sto.sr, e7, ?_⟩
      cases g with
      | nx => exact fun σ' H' B' s3 => ⟨B', rb, s2.trans s3, e5⟩
      | ct => exact fun σ' H' B' s3 => ⟨B', rb, s2.trans s3, e5⟩
      | bk =>
        cases e5
        intro σ' H' B' s3
        obtain ⟨B2, s4⟩ := endP (s2.trans s3)
        exact q _ _ _ s4
      | rt d fr =>
        cases e5
        intro σ' v H' O' B' s3 vr
        have s4 := s2.trans s3
        unfold VR at vr
        cases fr with
        | true =>
          rw [if_pos rfl] at vr
          obtain ⟨a, rfl, rfl, na, ob⟩ := vr
          obtain ⟨B2, s5, w5⟩ := SSt.unlock (O2 := a :: O) h0 t1 lk s4 (fun b hb => List.mem_cons_of_mem _ hb) fun b hb => by
            rcases List.mem_cons.mp hb with z | z
            · rw [z]; exact ⟨List.mem_cons_self, fun m => na (List.mem_append_left _ m)⟩
            · exact ⟨List.mem_cons_of_mem _ (List.mem_append_right _ (t1.ko b z).2), nl b z⟩
          refine q _ _ _ _ _ s5 ?_
          unfold VR
          rw [if_pos rfl]
          exact ⟨a, rfl, rfl, fun m => na (List.mem_append_right _ (t1.ko a m).2), ob.evo (Evo.refl.less w5) rfl⟩
        | false =>
          rw [if_neg Bool.false_ne_true] at vr
          obtain ⟨rfl, vr⟩ := vr
          obtain ⟨B2, s5, w5⟩ := SSt.unlock (O2 := O) h0 t1 lk s4 (fun _ h => h) fun b hb => ⟨List.mem_append_right _ (t1.ko b hb).2, nl b hb⟩
          refine q _ _ _ _ _ s5 ?_
          unfold VR
          rw [if_neg Bool.false_ne_true]
          refine ⟨rfl, ?_⟩
          cases d <;> first
            | exact vr
            | exact Rp.evo (Evo.refl.less w5) vr
    · obtain ⟨Bi, ri, s, e5⟩ := hp
      rw [List.drop_length] at e5
      cases e5
      obtain ⟨B2, s4⟩ := endP s
      exact q _ _ _ s4
  · cases e

variable {es : List Expr}
def keepF (kp : Bool) (Fa : Env → Res (D × Bool)) (Fs : Env → Res (List (D × Bool))) : Env → Res (List (D × Bool)) := fun r => (Fa r).bind fun d r1 =>
      if kp then (Fs r1).bind fun xs r2 => .ok (d :: xs) r2
      else opt (fz r1 d.1) fun x => (Fs x.2).bind fun xs r3 => .ok ((x.1, false) :: xs) r3
theorem keepF_red {kp : Bool} {σ : L2.St} {H : Hp} {Q : List V → Hp → Prop} (h : rdA X.K (keepF kp Fa Fs) σ H Q) : tCons (rdE X.K Fa) (rdA X.K Fs) σ H Q := by
  obtain ⟨O, B, r, x, r', h0, e, q⟩ := h
  obtain ⟨x, r1, e1, e⟩ := Res.bind_ok_iff.mp e
  cases kp with
  | true =>
    rw [if_pos rfl] at e
    obtain ⟨xs, r2, e2, e⟩ := Res.bind_ok_iff.mp e
    cases e
    refine rdE.go h0 e1 fun v H1 O1 B1 t1 vr1 => ⟨O1, B1, r1, xs, r', t1.sr, e2, fun vs H2 O2 B2 t2 l2 => ?_⟩
    exact q _ _ _ _ (t1.trans t2) ⟨vr1.lv.step t2, l2.old fun b hb => (t1.ko b hb).2⟩
  | false =>
    rw [if_neg Bool.false_ne_true] at e
    obtain ⟨⟨y, r2⟩, e2, e⟩ := opt_ok_iff.mp e
    obtain ⟨xs, r3, e3, e⟩ := Res.bind_ok_iff.mp e
    cases e
    refine rdE.go h0 e1 fun v H1 O1 B1 t1 vr1 => ?_
    obtain ⟨B2, t2, rp⟩ := VR.plain h0 t1 vr1.lv e2
    refine ⟨O, B2, r2, xs, r', t2.sr, e3, fun vs H3 O3 B3 t3 l3 => q _ _ _ _ (t2.trans t3) ⟨.inr ⟨rfl, .inr ⟨fun i z => ?_, rp.evo t3.evo⟩⟩, l3⟩⟩
    have z' : y = .ref i := z
    rw [z'] at rp
    simp only [Rp] at rp
theorem sa_keep {kp : Bool} (ha : PE X a (rdE X.K Fa)) (hs : PA X es (rdA X.K Fs)) (n : notStar a = true) : PA X (a :: es) (rdA X.K (keepF kp Fa Fs)) :=
  (pa_cons ha hs (star_cons _ _ n)).imp fun σ H Q h => keepF_red h
theorem sk_keep {kp : Bool} {nm : Option Str} {kws : List Keyword} (ha : PE X a (rdE X.K Fa)) (hs : PK X kws (rdA X.K Fs)) : PK X (⟨nm, a, p⟩ :: kws) (rdA X.K (keepF kp Fa Fs)) := by
  have h := pk_cons (nm := nm) (kpos := p) ha hs
  exact ⟨fun pos pins s σ H Q I q => h.run pos pins s σ H Q I (keepF_red q)⟩
theorem sk_nil : PK X [] (rdA X.K fun r => .ok [] r) := by
  refine ⟨fun pos pins s σ H Q I h => pk_nil.run pos pins s σ H Q I ?_⟩
  obtain ⟨O, B, r, k, r', h0, e, q⟩ := h
  cases e
  exact q _ _ _ _ (Tr.refl h0) trivial
theorem LVL.length {K : PySem.W.Frag} {σ : L2.St} {O : List Addr} {H1 : Hp} {O1 : List Addr} {B1 : List (Option Addr)} : ∀ {xs : List (D × Bool)} {vs : List V}, LVL K σ O H1 O1 B1 xs vs → xs.length = vs.length
  | [], [], _ => rfl
  | x :: xs, v :: vs, h => by rw [List.length_cons, List.length_cons, LVL.length h.2]
  | [], _ :: _, h => h.elim
  | _ :: _, [], h => h.elim
/-- several names at once -/
def parF (k : Nat → Nat) (is : List Nat) (Fs : Env → Res (List (D × Bool))) : Env → Res Fl := fun r => (Fs r).bind fun as r1 =>
      if (as.filter (·.2)).length ≤ 1 ∧ as.all (fun x => !isRef x.1) then opt (setAll k is as r1) fun r2 => .ok .nx r2 else .no
theorem setAll_len : ∀ (is : List Nat) (as : List (D × Bool)) (r1 r2 : Env), setAll k is as r1 = some r2 → as.length = is.length := by
  intro is
  induction is with
  | nil =>
    intro as r1 r2 e
    cases as with
    | nil => rfl
    | cons x xs => cases e
  | cons i is ih =>
    intro as r1 r2 e
    cases as with
    | nil => cases e
    | cons x xs =>
      obtain ⟨d, f⟩ := x
      obtain ⟨r3, e1, _⟩ := Option.bind_eq_some_iff.mp e
      rw [List.length_cons, List.length_cons, ih xs r1 r3 e1]
theorem par_red {is : List Nat} {D : Ends} {σ : L2.St} {H : Hp} (h : rdS X.K k (parF k is Fs) D σ H) : rdA X.K Fs σ H fun vs H1 => vs.length = is.length ∧ D.nx (sets is vs σ) H1 := by
  obtain ⟨O, B, r, f, r', h0, e, q⟩ := h
  obtain ⟨as, r1, e1, e⟩ := Res.bind_ok_iff.mp e
  split at e
  · rename_i hc
    obtain ⟨r2, e2, e⟩ := opt_ok_iff.mp e
    cases e
    refine ⟨O, B, r, as, r1, h0, e1, fun vs H1 O1 B1 t1 l1 => ?_⟩
    obtain ⟨O2, B2, s, ho1, ho2, _⟩ := setAll_ok h0 is as vs t1.sst (l1.n hc.2) hc.1 e2
    exact ⟨by rw [← l1.length]; exact setAll_len is as r1 _ e2, q _ _ _ (s.back h0)⟩
  · cases e
theorem ss_par {i j : Nat} {x y : Str} {px py pt : Pos} {kt k2 : Nat} {pt2 : Pos} (hc : X.calm = true) (hN : X.N.Nodup) (hi : X.N[i]? = some x) (hj : X.N[j]? = some y) (hij : i ≠ j)
    (hx : X.env.scope.names.lookup x = some .local) (hy : X.env.scope.names.lookup y = some .local) (ha : PA X [a, b] (rdA X.K Fs))
    (hw : swappedStores [.Tuple [.Name x px, .Name y py] kt pt] (.Tuple [a, b] k2 pt2) X.env = pure (some [x, y]))
    (hs : swapsWithSole [.Tuple [.Name x px, .Name y py] kt pt] (.Tuple [a, b] k2 pt2) pos.line X.env = pure false) :
    PS X (.Assign [.Tuple [.Name x px, .Name y py] kt pt] (.Tuple [a, b] k2 pt2) pos) (rdS X.K k (parF k [i, j] Fs)) := by
  refine (ps_par hc hN hi hj hij hx hy ha hw hs).imp fun D σ H h => ?_
  obtain ⟨O, B, r, as, r1, h0, e1, q⟩ := par_red h
  refine ⟨O, B, r, as, r1, h0, e1, fun vs H1 O1 B1 t1 l1 => ?_⟩
  obtain ⟨hl, q⟩ := q vs H1 O1 B1 t1 l1
  match vs, hl, q with
  | [v, w], _, q =>
    refine ⟨v, w, rfl, ?_⟩
    have e : sets [i, j] [v, w] σ = (σ.set j (some w)).set i (some v) := rfl
    rw [e, List.set_comm _ _ (Ne.symm hij)] at q
    exact q
theorem ss_par3 {i j l : Nat} {x y z : Str} {px py pz pt : Pos} {kt k2 : Nat} {pt2 : Pos} (hc : X.calm = true) (hN : X.N.Nodup) (hi : X.N[i]? = some x) (hj : X.N[j]? = some y) (hl : X.N[l]? = some z) (hij : i ≠ j) (hil : i ≠ l) (hjl : j ≠ l)
    (hx : X.env.scope.names.lookup x = some .local) (hy : X.env.scope.names.lookup y = some .local) (hz : X.env.scope.names.lookup z = some .local) (ha : PA X [a, b, c] (rdA X.K Fs))
    (hw : swappedStores [.Tuple [.Name x px, .Name y py, .Name z pz] kt pt] (.Tuple [a, b, c] k2 pt2) X.env = pure (some [x, y, z]))
    (hs : swapsWithSole [.Tuple [.Name x px, .Name y py, .Name z pz] kt pt] (.Tuple [a, b, c] k2 pt2) pos.line X.env = pure false) :
    PS X (.Assign [.Tuple [.Name x px, .Name y py, .Name z pz] kt pt] (.Tuple [a, b, c] k2 pt2) pos) (rdS X.K k (parF k [i, j, l] Fs)) := by
  refine (ps_par3 hc hN hi hj hl hij hil hjl hx hy hz ha hw hs).imp fun D σ H h => ?_
  obtain ⟨O, B, r, as, r1, h0, e1, q⟩ := par_red h
  refine ⟨O, B, r, as, r1, h0, e1, fun vs H1 O1 B1 t1 l1 => ?_⟩
  obtain ⟨hl, q⟩ := q vs H1 O1 B1 t1 l1
  match vs, hl, q with
  | [u, v, w], _, q =>
    refine ⟨u, v, w, rfl, ?_⟩
    have e : sets [i, j, l] [u, v, w] σ = ((σ.set l (some w)).set j (some v)).set i (some u) := rfl
    rw [e, List.set_comm _ _ (Ne.symm hjl), List.set_comm _ _ (Ne.symm hil), List.set_comm _ _ (Ne.symm hij)] at q
    exact q
end
end Pv
namespace Pv
open PySem PySem.Spec PyProof.Rows L2
theorem mapM_some {α β : Type} {f : α → Option β} : ∀ {xs : List α} {ys : List β}, xs.mapM f = some ys → ys.length = xs.length ∧ ∀ (i : Nat) x, xs[i]? = some x → ∃ y, f x = some y ∧ ys[i]? = some y
  | [], ys, h => by
    rw [List.mapM_nil] at h
    cases h
    exact ⟨rfl, fun i x e => by simp at e⟩
  | x :: xs, ys, h => by
    rw [List.mapM_cons] at h
    obtain ⟨y, e1, h⟩ := Option.bind_eq_some_iff.mp h
    obtain ⟨zs, e2, h⟩ := Option.bind_eq_some_iff.mp h
    cases h
    obtain ⟨h1, h2⟩ := mapM_some e2
    refine ⟨by rw [List.length_cons, List.length_cons, h1], fun i w e => ?_⟩
    cases i with
    | zero => cases e; exact ⟨y, e1, rfl⟩
    | succ i => exact h2 i w e
theorem nodup_snd {α : Type} {l : List (α × Nat)} {x y : α × Nat} (hn : (l.map (·.2)).Nodup) (hx : x ∈ l) (hy : y ∈ l) (e : x.2 = y.2) : x = y := by
  induction l with
  | nil => cases hx
  | cons z l ih =>
    rw [List.map_cons, List.nodup_cons] at hn
    rcases List.mem_cons.mp hx with hx | hx
    · rcases List.mem_cons.mp hy with hy | hy
      · rw [hx, hy]
      · rw [hx] at e
        exact absurd (List.mem_map.mpr ⟨y, hy, e.symm⟩) hn.1
    · rcases List.mem_cons.mp hy with hy | hy
      · rw [hy] at e
        exact absurd (List.mem_map.mpr ⟨x, hx, e⟩) hn.1
      · exact ih hn.2 hx hy
theorem filter_one {α : Type} {p : α → Bool} : ∀ {l : List α} {i j : Nat} {x y : α}, (l.filter p).length ≤ 1 → l[i]? = some x → l[j]? = some y → p x = true → p y = true → i = j
  | [], i, _, x, _, _, h, _, _, _ => by simp at h
  | z :: l, i, j, x, y, hl, hi, hj, hx, hy => by
    have pos : ∀ {k : Nat} {w : α}, l[k]? = some w → p w = true → 0 < (l.filter p).length := fun {k w} e hw => List.length_pos_of_mem (List.mem_filter.mpr ⟨List.mem_of_getElem? e, hw⟩)
    cases i with
    | zero =>
      cases hi
      cases j with
      | zero => rfl
      | succ j =>
        rw [List.filter_cons_of_pos hx, List.length_cons] at hl
        have := pos (k := j) (by simpa using hj) hy
        omega
    | succ i =>
      cases j with
      | zero =>
        cases hj
        rw [List.filter_cons_of_pos hy, List.length_cons] at hl
        have := pos (k := i) (by simpa using hi) hx
        omega
      | succ j =>
        have hl' : (l.filter p).length ≤ 1 := by
          by_cases hz : p z = true
          · rw [List.filter_cons_of_pos hz, List.length_cons] at hl; omega
          · rw [List.filter_cons_of_neg hz] at hl; exact hl
        have := filter_one (i := i) (j := j) hl' (by simpa using hi) (by simpa using hj) hx hy
        rw [this]
theorem find_ix {ix : List Nat} {p k : Nat} (h : ix.findIdx? (· == p) = some k) : ix[k]? = some p := by
  obtain ⟨hk, e, _⟩ := List.findIdx?_eq_some_iff_getElem.mp h
  rw [List.getElem?_eq_getElem hk]
  exact congrArg some (beq_iff_eq.mp e)
theorem ix_find {ix : List Nat} {p k : Nat} (hn : ix.Nodup) (h : ix[k]? = some p) : ix.findIdx? (· == p) = some k := by
  cases e : ix.findIdx? (· == p) with
  | none =>
    have := List.findIdx?_eq_none_iff.mp e p (List.mem_of_getElem? h)
    simp at this
  | some j =>
    have hj := find_ix e
    have h1 : j < ix.length := getO hj
    have h2 : k < ix.length := getO h
    rw [List.getElem?_eq_getElem h1] at hj
    rw [List.getElem?_eq_getElem h2] at h
    have e3 : ix[j] = ix[k] := by rw [Option.some.inj hj, Option.some.inj h]
    have e4 : j = k := (List.getElem_inj (h₀ := h1) (h₁ := h2) hn).mp e3
    rw [e4]
theorem mem_moved {ix : List Nat} {as : List (D × Bool)} {p j : Nat} : (p, j) ∈ moved ix as ↔ ∃ (k : Nat) (f : Bool), ix[k]? = some p ∧ as[k]? = some (D.ref j, f) := by
  unfold moved
  rw [List.mem_filterMap]
  constructor
  · rintro ⟨⟨p', d, f⟩, hm, h⟩
    obtain ⟨k, hk⟩ := List.getElem?_of_mem hm
    rw [List.getElem?_zip_eq_some] at hk
    cases d with
    | ref i =>
      cases h
      exact ⟨k, f, hk.1, hk.2⟩
    | _ => cases h
  · rintro ⟨k, f, h1, h2⟩
    exact ⟨(p, D.ref j, f), List.mem_of_getElem? (i := k) (List.getElem?_zip_eq_some.mpr ⟨h1, h2⟩), rfl⟩
theorem wback_length (outs : Env) : ∀ (ms : List (Nat × Nat)) (r : Env), (wback outs ms r).length = r.length
  | [], r => rfl
  | m :: ms, r => by
    unfold wback
    rw [wback_length outs ms]
    split
    · rw [List.length_set]
    · rfl
theorem wback_out (outs : Env) : ∀ (ms : List (Nat × Nat)) (r : Env) (i : Nat), (∀ m ∈ ms, m.2 ≠ i) → (wback outs ms r)[i]? = r[i]?
  | [], r, i, _ => rfl
  | m :: ms, r, i, h => by
    unfold wback
    rw [wback_out outs ms _ i fun m' hm => h m' (List.mem_cons_of_mem _ hm)]
    split
    · rw [List.getElem?_set_ne (h m List.mem_cons_self)]
    · rfl
theorem wback_in (outs : Env) : ∀ (ms : List (Nat × Nat)) (r : Env) (p i : Nat) (s : Sl), (ms.map (·.2)).Nodup → (p, i) ∈ ms → outs[p]? = some s → i < r.length → (wback outs ms r)[i]? = some s
  | [], _, _, _, _, _, h, _, _ => by cases h
  | m :: ms, r, p, i, s, hn, hm, ho, hi => by
    rw [List.map_cons, List.nodup_cons] at hn
    unfold wback
    rcases List.mem_cons.mp hm with e | hm
    · subst e
      rw [ho]
      dsimp only
      rw [wback_out outs ms _ i fun m' hm' z => hn.1 (List.mem_map.mpr ⟨m', hm', z⟩)]
      exact List.getElem?_set_self hi
    · refine wback_in outs ms _ p i s hn.2 hm ho ?_
      split
      · rw [List.length_set]; exact hi
      · exact hi
theorem choose_list {β : Type} : ∀ (n : Nat) (R : Nat → β → Prop), (∀ p, p < n → ∃ b, R p b) → ∃ l : List β, l.length = n ∧ ∀ p, p < n → ∃ b, l[p]? = some b ∧ R p b
  | 0, _, _ => ⟨[], rfl, fun p hp => absurd hp (Nat.not_lt_zero p)⟩
  | n + 1, R, h => by
    obtain ⟨l, hl, hr⟩ := choose_list n R fun p hp => h p (Nat.lt_succ_of_lt hp)
    obtain ⟨b, hb⟩ := h n (Nat.lt_succ_self n)
    refine ⟨l ++ [b], by rw [List.length_append, hl]; rfl, fun p hp => ?_⟩
    by_cases e : p < n
    · obtain ⟨c, h1, h2⟩ := hr p e
      exact ⟨c, by rw [List.getElem?_append_left (by rw [hl]; exact e)]; exact h1, h2⟩
    · have : p = n := by omega
      subst this
      refine ⟨b, ?_, hb⟩
      rw [List.getElem?_append_right (by rw [hl]; exact Nat.le_refl _), hl, Nat.sub_self]
      rfl
theorem back_slots {ms : List (Nat × Nat)} {B1 Bn : List (Option Addr)} (hn : (ms.map (·.2)).Nodup) : ∃ B2 : List (Option Addr), B2.length = B1.length ∧ (∀ p i, (p, i) ∈ ms → i < B1.length → B2[i]? = some (Bn.getD p none)) ∧ ∀ i, (∀ p, (p, i) ∉ ms) → B2[i]? = B1[i]? := by
  refine ⟨B1.mapIdx fun i b => match ms.find? (fun m => m.2 == i) with | some m => Bn.getD m.1 none | none => b, List.length_mapIdx, fun p i hm hi => ?_, fun i h => ?_⟩
  · rw [List.getElem?_mapIdx, List.getElem?_eq_getElem hi]
    cases e : ms.find? (fun m => m.2 == i) with
    | none =>
      have := List.find?_eq_none.mp e (p, i) hm
      simp at this
    | some m =>
      have h1 := List.mem_of_find?_eq_some e
      have h2 : m.2 = i := by simpa using List.find?_some e
      have h3 := nodup_snd hn h1 hm h2
      subst h3
      rfl
  · rw [List.getElem?_mapIdx]
    cases B1[i]? with
    | none => rfl
    | some b =>
      cases e : ms.find? (fun m => m.2 == i) with
      | none => rfl
      | some m =>
        have h1 := List.mem_of_find?_eq_some e
        have h2 : m.2 = i := by simpa using List.find?_some e
        exact absurd (by rw [← h2]; exact h1) (h m.1)
/-- the values in the parameters' order -/
def ordV (np : Nat) (ix : List Nat) (vs : List V) (dv : List (Nat × V)) : List V := (List.range np).map fun p => match ix.findIdx? (· == p) with | some k => vs.getD k .non | none => (dv.lookup p).getD .non
/-- what a def does, by slots -/
def spG (K : PySem.W.Frag) (cl : CL) (f : Nat) : List V → Hp → VK → Prop := fun vs H Q => ∃ O B sl d fr outs, SR K H O B sl (vs.map some) ∧ cl f sl = .ok d fr outs ∧ isRef d = false ∧
  ∀ v H' O' B', Tr K (vs.map some) H O B sl H' O' B' outs → VR K (vs.map some) O H' O' B' (d, fr) v → Q v H'
section
variable {K : PySem.W.Frag} {σ : L2.St} {H H1 : Hp} {O O1 : List Addr} {B B1 : List (Option Addr)} {r r1 r' : Env}
theorem LVL.get : ∀ {as : List (D × Bool)} {vs : List V} {k : Nat} {x : D × Bool}, LVL K σ O H1 O1 B1 as vs → as[k]? = some x → ∃ v, vs[k]? = some v ∧ LV K σ O H1 O1 B1 x v
  | [], _, _, _, _, e => by simp at e
  | _ :: _, [], _, _, h, _ => h.elim
  | a :: as, v :: vs, 0, x, h, e => by
    cases e
    exact ⟨v, rfl, h.1⟩
  | a :: as, v :: vs, k + 1, x, h, e => by
    obtain ⟨w, h1, h2⟩ := LVL.get (k := k) h.2 (by simpa using e)
    exact ⟨w, by simpa using h1, h2⟩
/-- a parameter's slot, its owner, its value -/
inductive PC (K : PySem.W.Frag) (σ : L2.St) (H1 : Hp) (O O1 : List Addr) (B1 : List (Option Addr)) (r1 : Env) (ms : List (Nat × Nat)) (p : Nat) : Sl → Option Addr → V → Prop where
  | val {d : D} {v : V} (nm : ∀ j, (p, j) ∉ ms) (rp : Rp K H1 (OW O1 B1) d v) : PC K σ H1 O O1 B1 r1 ms p (.v d) none v
  | frs {d : D} {a : Addr} (nm : ∀ j, (p, j) ∉ ms) (m : a ∈ O1) (na : a ∉ O) (ob : Ob K H1 (OW O1 B1) d a) : PC K σ H1 O O1 B1 r1 ms p (.o d) (some a) (.ref a)
  | rv {j : Nat} {d : D} {v : V} (m : (p, j) ∈ ms) (s : σ[j]? = some (some v)) (e : r1[j]? = some (.v d)) (rp : Rp K H1 (OW O1 B1) d v) : PC K σ H1 O O1 B1 r1 ms p (.v d) none v
  | ro {j : Nat} {d : D} {a : Addr} (m : (p, j) ∈ ms) (s : σ[j]? = some (some (.ref a))) (e : r1[j]? = some (.o d)) (b : B1[j]? = some (some a)) (ob : Ob K H1 (OW O1 B1) d a) : PC K σ H1 O O1 B1 r1 ms p (.o d) (some a) (.ref a)
  | rl {j : Nat} {d : D} {a : Addr} (m : (p, j) ∈ ms) (s : σ[j]? = some (some (.ref a))) (e : r1[j]? = some (.l d)) (mo : a ∈ O) (ob : Ob K H1 (OW O1 B1) d a) : PC K σ H1 O O1 B1 r1 ms p (.l d) none (.ref a)
theorem callE_red {P : Sys} {cl : CL} {f : Nat} {F : Fn} {ix : List Nat} {as : List (D × Bool)} {ds : List (Nat × D)} {dv : List (Nat × V)} {vs : List V} {z : D × Bool} {Q : VK} (hF : P.fns[f]? = some F)
    (h0 : SR K H O B r σ) (t1 : Tr K σ H O B r H1 O1 B1 r1) (l1 : LVL K σ O H1 O1 B1 as vs) (e : callE P cl f ix ds as r1 = .ok z r') (hdv : ∀ p d, ds.lookup p = some d → ∃ v, dv.lookup p = some v ∧ ∀ H W, Rp K H W d v)
    (q : ∀ v H' O' B', Tr K σ H O B r H' O' B' r' → VR K σ O H' O' B' z v → Q v H') : spG K cl f (ordV F.np ix vs dv) H1 Q := by
  unfold callE at e
  rw [hF] at e
  dsimp only at e
  split at e
  · rename_i hok
    unfold callOk at hok
    simp only [Bool.and_eq_true, decide_eq_true_eq, List.all_eq_true] at hok
    obtain ⟨⟨⟨⟨hms, hfr⟩, hix⟩, hnp⟩, hlen⟩ := hok
    obtain ⟨sl, e1, e⟩ := opt_ok_iff.mp e
    obtain ⟨hsl, hpt⟩ := mapM_some e1
    rw [List.length_range] at hsl
    have sr1 := t1.sr
    -- each parameter's case
    have pc : ∀ p, p < F.np → ∃ s b v, sl[p]? = some s ∧ (ordV F.np ix vs dv)[p]? = some v ∧ PC K σ H1 O O1 B1 r1 (moved ix as) p s b v ∧ (∀ a, b = some a → (∃ (j : Nat) (d : D), (p, j) ∈ moved ix as ∧ r1[j]? = some (.o d) ∧ B1[j]? = some (some a)) ∨ (∃ (k : Nat) (d : D), ix[k]? = some p ∧ as[k]? = some (d, true) ∧ vs[k]? = some (V.ref a) ∧ a ∈ O1 ∧ a ∉ O)) := fun p hp => by
      obtain ⟨s, e2, e3⟩ := hpt p p (List.getElem?_range hp)
      have ov : (ordV F.np ix vs dv)[p]? = some (match ix.findIdx? (· == p) with | some k => vs.getD k .non | none => (dv.lookup p).getD .non) := by
        unfold ordV
        rw [List.getElem?_map, List.getElem?_range hp]
        rfl
      cases hk : ix.findIdx? (· == p) with
      | none =>
        rw [hk] at e2 ov
        obtain ⟨d, e4, e5⟩ := Option.map_eq_some_iff.mp e2
        obtain ⟨v, e6, rp⟩ := hdv p d e4
        subst e5
        dsimp only at ov
        rw [e6] at ov
        refine ⟨_, none, v, e3, ov, .val (fun j hm => ?_) (rp _ _), fun a z => nomatch z⟩
        obtain ⟨k, f', h1, _⟩ := mem_moved.mp hm
        rw [ix_find hix h1] at hk
        cases hk
      | some k =>
        rw [hk] at e2 ov
        obtain ⟨x, e4, e5⟩ := Option.bind_eq_some_iff.mp e2
        obtain ⟨v, e6, lv⟩ := l1.get e4
        have ix1 := find_ix hk
        dsimp only at ov
        rw [List.getD_eq_getElem?_getD, e6] at ov
        obtain ⟨d, fr⟩ := x
        have nmv : ∀ {d : D}, as[k]? = some (d, fr) → (∀ j, d ≠ .ref j) → ∀ j, (p, j) ∉ moved ix as := fun {d} e7 hn j hm => by
          obtain ⟨k', f', h1, h2⟩ := mem_moved.mp hm
          have := ix_find hix h1
          rw [hk] at this
          cases this
          rw [e7] at h2
          cases h2
          exact hn j rfl
        rcases lv with ⟨hf, a, rfl, m, na, ob⟩ | ⟨hf, ⟨i, h1, h2⟩ | ⟨h1, h2⟩⟩
        · -- fresh
          have hf' : fr = true := hf
          subst hf'
          have hn : ∀ j, d ≠ .ref j := fun j z => by
            have ob' : Ob K H1 (OW O1 B1) d a := ob
            rw [z] at ob'
            exact ob'
          have e5' : (if fkeep P f p && isBox d then some (Sl.o d) else none) = some s := by
            unfold argOf at e5
            cases d <;> first
              | exact e5
              | exact absurd rfl (hn _)
          split at e5'
          · cases e5'
            exact ⟨_, some a, _, e3, ov, .frs (nmv e4 hn) m na ob, fun a' z => by cases z; exact .inr ⟨k, d, ix1, e4, e6, m, na⟩⟩
          · cases e5'
        · -- a slot
          have h1' : d = .ref i := h1
          subst h1'
          have hm : (p, i) ∈ moved ix as := mem_moved.mpr ⟨k, fr, ix1, e4⟩
          unfold argOf at e5
          dsimp only at e5
          split at e5
          · split at e5
            · rename_i d' e7
              cases e5
              obtain ⟨a, b1, s1, ob⟩ := sr1.own i d' e7
              rw [h2] at s1
              cases s1
              exact ⟨_, some a, _, e3, ov, .ro hm h2 e7 b1 ob, fun a' z => by cases z; exact .inl ⟨i, d', hm, e7, b1⟩⟩
            · rename_i d' e7
              cases e5
              obtain ⟨_, a, m, s1, ob⟩ := sr1.lck i d' e7
              obtain ⟨_, a2, m2, s2, _⟩ := h0.lck i d' ((t1.lk i d').mp e7)
              rw [h2] at s1 s2
              cases s1
              cases s2
              exact ⟨_, none, _, e3, ov, .rl hm h2 e7 m2 ob, fun a' z => nomatch z⟩
            · rename_i d' e7
              cases e5
              obtain ⟨_, w, s1, rp⟩ := sr1.val i d' e7
              rw [h2] at s1
              cases s1
              exact ⟨_, none, _, e3, ov, .rv hm h2 e7 rp, fun a' z => nomatch z⟩
            · cases e5
          · cases e5
        · -- plain
          have hf' : fr = false := hf
          subst hf'
          have e5' : some (Sl.v d) = some s := by
            unfold argOf at e5
            cases d <;> first
              | exact e5
              | exact absurd rfl (h1 _)
          cases e5'
          exact ⟨_, none, v, e3, ov, .val (nmv e4 h1) h2, fun a z => nomatch z⟩
    obtain ⟨Bc, lBc, gBc⟩ := choose_list F.np (fun p b => ∃ s v, sl[p]? = some s ∧ (ordV F.np ix vs dv)[p]? = some v ∧ PC K σ H1 O O1 B1 r1 (moved ix as) p s b v ∧ (∀ a, b = some a → (∃ (j : Nat) (d : D), (p, j) ∈ moved ix as ∧ r1[j]? = some (.o d) ∧ B1[j]? = some (some a)) ∨ (∃ (k : Nat) (d : D), ix[k]? = some p ∧ as[k]? = some (d, true) ∧ vs[k]? = some (V.ref a) ∧ a ∈ O1 ∧ a ∉ O)))
      fun p hp => let ⟨s, b, v, h1, h2, h3, h4⟩ := pc p hp; ⟨b, s, v, h1, h2, h3, h4⟩
    have lV : (ordV F.np ix vs dv).length = F.np := by
      unfold ordV
      rw [List.length_map, List.length_range]
    -- where a parameter's object comes from
    have src : ∀ {p : Nat} {a : Addr}, Bc[p]? = some (some a) → (∃ (j : Nat) (d : D), (p, j) ∈ moved ix as ∧ r1[j]? = some (.o d) ∧ B1[j]? = some (some a)) ∨ (∃ (k : Nat) (d : D), ix[k]? = some p ∧ as[k]? = some (d, true) ∧ vs[k]? = some (V.ref a) ∧ a ∈ O1 ∧ a ∉ O) := fun {p a} hp => by
      obtain ⟨b, e2, s, v, _, _, _, h4⟩ := gBc p (by rw [← lBc]; exact getO hp)
      rw [hp] at e2
      cases e2
      exact h4 a rfl
    have notO : ∀ a ∈ O, some a ∉ Bc := fun a ha hm => by
      obtain ⟨p, hp⟩ := List.getElem?_of_mem hm
      rcases src hp with ⟨j, d, _, _, b1⟩ | ⟨_, _, _, _, _, _, na⟩
      · exact sr1.dis a (t1.ko a ha).2 (List.mem_of_getElem? b1)
      · exact na ha
    have owBc : ∀ a, some a ∈ Bc → OW O1 B1 a := fun a hm => by
      obtain ⟨p, hp⟩ := List.getElem?_of_mem hm
      rcases src hp with ⟨j, d, _, _, b1⟩ | ⟨_, _, _, _, _, m, _⟩
      · exact .inr (List.mem_of_getElem? b1)
      · exact .inl m
    obtain ⟨Oc, mOc⟩ : ∃ Oc : List Addr, ∀ a, a ∈ Oc ↔ OW O1 B1 a ∧ some a ∉ Bc := by
      refine ⟨(O1 ++ B1.filterMap id).filter fun a => !(Bc.contains (some a)), fun a => ?_⟩
      rw [List.mem_filter, List.mem_append, List.mem_filterMap]
      constructor
      · rintro ⟨h1, h2⟩
        refine ⟨?_, fun hm => ?_⟩
        · rcases h1 with h1 | ⟨b, hb, eb⟩
          · exact .inl h1
          · have eb' : b = some a := eb
            rw [eb'] at hb
            exact .inr hb
        · rw [List.contains_iff_mem.mpr hm] at h2
          cases h2
      · rintro ⟨h1, h2⟩
        refine ⟨h1.imp id fun hb => ⟨some a, hb, rfl⟩, ?_⟩
        have : Bc.contains (some a) = false := by
          cases hc : Bc.contains (some a) with
          | false => rfl
          | true => exact absurd (List.contains_iff_mem.mp hc) h2
        rw [this]
        rfl
    have wc : ∀ b, OW Oc Bc b ↔ OW O1 B1 b := fun b => by
      constructor
      · rintro (m | m)
        · exact ((mOc b).mp m).1
        · exact owBc b m
      · intro h
        by_cases hb : some b ∈ Bc
        · exact .inr hb
        · exact .inl ((mOc b).mpr ⟨h, hb⟩)
    have evc : Evo H1 (OW O1 B1) H1 (OW Oc Bc) := Evo.refl.less fun b hb => (wc b).mp hb
    have OOc : ∀ a ∈ O, a ∈ Oc := fun a ha => (mOc a).mpr ⟨.inl (t1.ko a ha).2, notO a ha⟩
    have pcs : ∀ {p : Nat} {s : Sl}, sl[p]? = some s → ∃ b v, Bc[p]? = some b ∧ (ordV F.np ix vs dv)[p]? = some v ∧ PC K σ H1 O O1 B1 r1 (moved ix as) p s b v := fun {p s} hs => by
      obtain ⟨b, e2, s', v, h1, h2, h3, _⟩ := gBc p (by rw [← hsl]; exact getO hs)
      rw [hs] at h1
      cases h1
      exact ⟨b, v, e2, h2, h3⟩
    have vget : ∀ {p : Nat} {v : V}, (ordV F.np ix vs dv)[p]? = some v → ((ordV F.np ix vs dv).map some)[p]? = some (some v) := fun {p v} h => by rw [List.getElem?_map, h]; rfl
    have src_ : SR K H1 Oc Bc sl ((ordV F.np ix vs dv).map some) := by
      refine ⟨by rw [lBc, hsl], by rw [List.length_map, lV, hsl], fun a ha => ((mOc a).mp ha).2, fun p p' a hp hp' => ?_, fun a ha => sr1.dom a ((wc a).mp ha), fun p d hd => ?_, fun p d hd => ?_, fun p d hd => ?_, fun p hd => ?_⟩
      · rcases src hp with ⟨j, d, m, _, b1⟩ | ⟨k, d, i1, a1, v1, m, na⟩ <;> rcases src hp' with ⟨j', d', m', _, b1'⟩ | ⟨k', d', i1', a1', v1', m', na'⟩
        · have := sr1.inj j j' a b1 b1'
          subst this
          exact congrArg Prod.fst (nodup_snd hms m m' rfl)
        · exact absurd (List.mem_of_getElem? b1) (sr1.dis a m')
        · exact absurd (List.mem_of_getElem? b1') (sr1.dis a m)
        · have := filter_one hfr a1 a1' rfl rfl
          subst this
          rw [i1] at i1'
          exact Option.some.inj i1'
      · obtain ⟨b, v, e2, e3, h⟩ := pcs hd
        cases h with
        | val _ rp => exact ⟨e2, v, vget e3, rp.evo evc⟩
        | rv _ _ _ rp => exact ⟨e2, v, vget e3, rp.evo evc⟩
      · obtain ⟨b, v, e2, e3, h⟩ := pcs hd
        cases h with
        | frs _ _ _ ob => exact ⟨_, e2, vget e3, ob.evo evc rfl⟩
        | ro _ _ _ _ ob => exact ⟨_, e2, vget e3, ob.evo evc rfl⟩
      · obtain ⟨b, v, e2, e3, h⟩ := pcs hd
        cases h with
        | rl _ _ _ mo ob => exact ⟨e2, _, OOc _ mo, vget e3, ob.evo evc rfl⟩
      · obtain ⟨b, v, e2, e3, h⟩ := pcs hd
        cases h
    cases hcl : cl f sl with
    | no => rw [hcl] at e; cases e
    | exc x o => rw [hcl] at e; cases e
    | ok d fr outs =>
      rw [hcl] at e
      dsimp only at e
      split at e
      · cases e
      · rename_i hnr
        cases e
        refine ⟨Oc, Bc, sl, d, fr, outs, src_, hcl, by simpa using hnr, fun v H' O' B' t vr => ?_⟩
        have lo : outs.length = F.np := by rw [← t.sr.lenS, List.length_map, lV]
        -- a moved slot
        have mvd : ∀ {p i : Nat}, (p, i) ∈ moved ix as → ∃ s v, sl[p]? = some s ∧ r1[i]? = some s ∧ σ[i]? = some (some v) ∧ (ordV F.np ix vs dv)[p]? = some v ∧ p < F.np := fun {p i} hm => by
          obtain ⟨k, f', h1, h2⟩ := mem_moved.mp hm
          have hp : p < F.np := hnp p (List.mem_of_getElem? h1)
          obtain ⟨b, e2, s, v, h3, h4, h5, _⟩ := gBc p hp
          have same : ∀ {j}, (p, j) ∈ moved ix as → j = i := fun {j} hj => by
            obtain ⟨k', f'', g1, g2⟩ := mem_moved.mp hj
            have z1 := ix_find hix h1
            rw [ix_find hix g1] at z1
            cases z1
            rw [h2] at g2
            cases g2
            rfl
          cases h5 with
          | val nm _ => exact absurd hm (nm i)
          | frs nm _ _ _ => exact absurd hm (nm i)
          | rv m s e _ =>
            have := same m
            subst this
            exact ⟨_, _, h3, e, s, h4, hp⟩
          | ro m s e _ _ =>
            have := same m
            subst this
            exact ⟨_, _, h3, e, s, h4, hp⟩
          | rl m s e _ _ =>
            have := same m
            subst this
            exact ⟨_, _, h3, e, s, h4, hp⟩
        obtain ⟨B2, lB2, gIn, gOut⟩ := back_slots (ms := moved ix as) (B1 := B1) (Bn := B') hms
        have rIn : ∀ {p i : Nat}, (p, i) ∈ moved ix as → ∃ s, outs[p]? = some s ∧ (wback outs (moved ix as) r1)[i]? = some s := fun {p i} hm => by
          obtain ⟨s, v, _, h2, _, _, hp⟩ := mvd hm
          have ho : outs[p]? = some outs[p] := List.getElem?_eq_getElem (by rw [lo]; exact hp)
          exact ⟨_, ho, wback_in outs _ r1 p i _ hms hm ho (getO h2)⟩
        have rOut : ∀ {i : Nat}, (∀ p, (p, i) ∉ moved ix as) → (wback outs (moved ix as) r1)[i]? = r1[i]? := fun {i} hn => wback_out outs _ r1 i fun m hm z => hn m.1 (by rw [← z]; exact hm)
        have unO : ∀ {i : Nat} {c : Addr}, (∀ p, (p, i) ∉ moved ix as) → B1[i]? = some (some c) → c ∈ Oc := fun {i c} hn hb => by
          refine (mOc c).mpr ⟨.inr (List.mem_of_getElem? hb), fun hm => ?_⟩
          obtain ⟨p, hp⟩ := List.getElem?_of_mem hm
          rcases src hp with ⟨j, d, m, _, b1⟩ | ⟨_, _, _, _, _, m, _⟩
          · have := sr1.inj i j c hb b1
            subst this
            exact hn p m
          · exact sr1.dis c m (List.mem_of_getElem? hb)
        -- the state behind the call, for what is held then
        have main : ∀ O2 : List Addr, (∀ b ∈ O, b ∈ O2) → (∀ b ∈ O2, b ∈ O') → (∀ b ∈ O2, b ∈ O ∨ b ∉ Oc) → Tr K σ H O B r H' O2 B2 (wback outs (moved ix as) r1) ∧ ∀ b, OW O2 B2 b → OW O' B' b := by
          intro O2 s1 s2 s3
          have cas : ∀ i : Nat, (∃ p, (p, i) ∈ moved ix as) ∨ ∀ p, (p, i) ∉ moved ix as := fun i => by
            by_cases h : ∃ p, (p, i) ∈ moved ix as
            · exact .inl h
            · exact .inr fun p hp => h ⟨p, hp⟩
          have bAt : ∀ {i : Nat} {c : Addr}, B2[i]? = some (some c) → (∃ p, (p, i) ∈ moved ix as ∧ B'[p]? = some (some c)) ∨ ((∀ p, (p, i) ∉ moved ix as) ∧ B1[i]? = some (some c) ∧ c ∈ Oc) := fun {i c} hb => by
            rcases cas i with ⟨p, hm⟩ | hn
            · refine .inl ⟨p, hm, ?_⟩
              obtain ⟨s, v, _, h2, _, _, hp⟩ := mvd hm
              have hi : i < B1.length := by rw [sr1.lenB]; exact getO h2
              have hb' : p < B'.length := by rw [t.sr.lenB, lo]; exact hp
              rw [gIn p i hm hi, List.getD_eq_getElem?_getD, List.getElem?_eq_getElem hb'] at hb
              rw [List.getElem?_eq_getElem hb']
              exact hb
            · rw [gOut i hn] at hb
              exact .inr ⟨hn, hb, unO hn hb⟩
          have w : ∀ b, OW O2 B2 b → OW O' B' b := fun b hb => by
            rcases hb with m | m
            · exact .inl (s2 b m)
            · obtain ⟨i, hi⟩ := List.getElem?_of_mem m
              rcases bAt hi with ⟨p, _, e⟩ | ⟨_, _, m⟩
              · exact .inr (List.mem_of_getElem? e)
              · exact .inl (t.ko b m).2
          have lessE : Evo H' (OW O' B') H' (OW O2 B2) := Evo.refl.less w
          have ev : Evo H1 (OW O1 B1) H' (OW O2 B2) := evc.trans (t.evo.less w)
          have inB : ∀ {p i : Nat} {b : Option Addr}, (p, i) ∈ moved ix as → B'[p]? = some b → B2[i]? = some b := fun {p i b} hm hb => by
            obtain ⟨s, v, _, h2, _, _, hp⟩ := mvd hm
            have hi : i < B1.length := by rw [sr1.lenB]; exact getO h2
            rw [gIn p i hm hi, List.getD_eq_getElem?_getD, hb]
            rfl
          have inV : ∀ {p i : Nat} {v : V}, (p, i) ∈ moved ix as → ((ordV F.np ix vs dv).map some)[p]? = some (some v) → σ[i]? = some (some v) := fun {p i v} hm hv => by
            obtain ⟨s, v', _, _, h3, h4, _⟩ := mvd hm
            rw [vget h4] at hv
            cases hv
            exact h3
          refine ⟨⟨⟨by rw [lB2, wback_length]; exact sr1.lenB, by rw [wback_length]; exact sr1.lenS, fun c hc z => ?_, fun i j c hi hj => ?_, fun c hc => t.sr.dom c (w c hc), fun i d hd => ?_, fun i d hd => ?_, fun i d hd => ?_, fun i hd => ?_⟩, t1.evo.trans ev, fun b hb => ⟨(t.ko b (OOc b hb)).1.trans (t1.ko b hb).1, s1 b hb⟩, fun i d => ?_⟩, w⟩
          · obtain ⟨i, hi⟩ := List.getElem?_of_mem z
            rcases bAt hi with ⟨p, _, e⟩ | ⟨_, e, m⟩
            · exact t.sr.dis c (s2 c hc) (List.mem_of_getElem? e)
            · rcases s3 c hc with m2 | m2
              · exact sr1.dis c (t1.ko c m2).2 (List.mem_of_getElem? e)
              · exact m2 m
          · rcases bAt hi with ⟨p, hm, e⟩ | ⟨hn, e, m⟩ <;> rcases bAt hj with ⟨p', hm', e'⟩ | ⟨hn', e', m'⟩
            · have := t.sr.inj p p' c e e'
              subst this
              obtain ⟨k1, f1, g1, g2⟩ := mem_moved.mp hm
              obtain ⟨k2, f2, g3, g4⟩ := mem_moved.mp hm'
              have z1 := ix_find hix g1
              rw [ix_find hix g3] at z1
              cases z1
              rw [g2] at g4
              cases g4
              rfl
            · exact absurd (List.mem_of_getElem? e) (t.sr.dis c (t.ko c m').2)
            · exact absurd (List.mem_of_getElem? e') (t.sr.dis c (t.ko c m).2)
            · exact sr1.inj i j c e e'
          · rcases cas i with ⟨p, hm⟩ | hn
            · obtain ⟨s, ho, hr⟩ := rIn hm
              rw [hr] at hd
              cases hd
              obtain ⟨b1, v', e2, rp⟩ := t.sr.val p d ho
              exact ⟨inB hm b1, v', inV hm e2, rp.evo lessE⟩
            · rw [rOut hn] at hd
              obtain ⟨b1, v', e2, rp⟩ := sr1.val i d hd
              exact ⟨by rw [gOut i hn]; exact b1, v', e2, rp.evo ev⟩
          · rcases cas i with ⟨p, hm⟩ | hn
            · obtain ⟨s, ho, hr⟩ := rIn hm
              rw [hr] at hd
              cases hd
              obtain ⟨a, b1, e2, ob⟩ := t.sr.own p d ho
              exact ⟨a, inB hm b1, inV hm e2, ob.evo lessE rfl⟩
            · rw [rOut hn] at hd
              obtain ⟨a, b1, e2, ob⟩ := sr1.own i d hd
              exact ⟨a, by rw [gOut i hn]; exact b1, e2, ob.evo ev (t.ko a (unO hn b1)).1⟩
          · rcases cas i with ⟨p, hm⟩ | hn
            · obtain ⟨s, ho, hr⟩ := rIn hm
              rw [hr] at hd
              cases hd
              obtain ⟨b1, a, m, e2, ob⟩ := t.sr.lck p d ho
              obtain ⟨s', v', g1, g2, g3, g4, _⟩ := mvd hm
              have hs : sl[p]? = some (.l d) := (t.lk p d).mp ho
              rw [hs] at g1
              cases g1
              obtain ⟨_, a0, m0, e0, _⟩ := h0.lck i d ((t1.lk i d).mp g2)
              have e3 := inV hm e2
              rw [e0] at e3
              cases e3
              exact ⟨inB hm b1, _, s1 _ m0, e0, ob.evo lessE rfl⟩
            · rw [rOut hn] at hd
              obtain ⟨b1, a, m, e2, ob⟩ := sr1.lck i d hd
              obtain ⟨_, a0, m0, e0, _⟩ := h0.lck i d ((t1.lk i d).mp hd)
              rw [e2] at e0
              cases e0
              exact ⟨by rw [gOut i hn]; exact b1, a, s1 a m0, e2, ob.evo ev (t.ko a (OOc a m0)).1⟩
          · rcases cas i with ⟨p, hm⟩ | hn
            · obtain ⟨s, ho, hr⟩ := rIn hm
              rw [hr] at hd
              cases hd
              exact inB hm (t.sr.emp p ho)
            · rw [rOut hn] at hd
              rw [gOut i hn]
              exact sr1.emp i hd
          · rcases cas i with ⟨p, hm⟩ | hn
            · obtain ⟨s, ho, hr⟩ := rIn hm
              obtain ⟨s', v', g1, g2, _, _, _⟩ := mvd hm
              rw [hr, ← ho, t.lk p d, g1, ← g2]
              exact t1.lk i d
            · rw [rOut hn]
              exact t1.lk i d
        unfold VR at vr
        cases fr with
        | true =>
          rw [if_pos rfl] at vr
          obtain ⟨a, rfl, rfl, na, ob⟩ := vr
          obtain ⟨tt, w⟩ := main (a :: O) (fun b hb => List.mem_cons_of_mem _ hb) (fun b hb => (List.mem_cons.mp hb).elim (fun z => by rw [z]; exact List.mem_cons_self) fun z => List.mem_cons_of_mem _ (OOc b z))
            fun b hb => (List.mem_cons.mp hb).elim (fun z => .inr (by rw [z]; exact na)) .inl
          refine q _ _ _ _ tt ?_
          unfold VR
          rw [if_pos rfl]
          exact ⟨a, rfl, rfl, fun m => na (OOc a m), ob.evo (Evo.refl.less w) rfl⟩
        | false =>
          rw [if_neg Bool.false_ne_true] at vr
          obtain ⟨rfl, vr⟩ := vr
          obtain ⟨tt, w⟩ := main O (fun b hb => hb) (fun b hb => OOc b hb) fun b hb => .inl hb
          refine q _ _ _ _ tt ?_
          unfold VR
          rw [if_neg Bool.false_ne_true]
          refine ⟨rfl, ?_⟩
          cases d <;> first
            | exact Rp.evo (Evo.refl.less w) vr
            | exact absurd rfl hnr
  · cases e
end
end Pv
namespace Pv
open PySem PySem.Spec PyProof.Rows L2
/-- a def's promise, where nothing is being written out -/
structure FnG (Pg : Program) (w : World) (K : PySem.W.Frag) (mg : Str → Option Value) (base : Heap) (n : Nat) (f : Addr) (fd : FuncData) (ps : List Str) (sp : List V → Hp → VK → Prop) : Prop where
  run : ∀ (A : Around) (outer : List PySem.Env) (s : Shared) (H : Hp) (args : Args) (us : List Value) (vs : List V) (Q : VK), Room n A → A.guards = some [] → Env0 Pg w K mg base A outer s H → BindsTo s fd args (ps.zip us) → Vals vs us → vs.length = ps.length → sp vs H Q →
    codeAny (model Pg w) A (.call (.ref f) args) (CR CX0 outer Pg w H s Q E0) s
/-- one way to call it: n values by place, names ks; ix: the parameters they go to; ds: the defaults of the others -/
structure Pat where
  f : Nat
  n : Nat
  ks : List Str
  ix : List Nat
  ds : List (Nat × D)
  deriving Inhabited
def PatOk (K : PySem.W.Frag) (fd : FuncData) (ps : List Str) (pt : Pat) : Prop :=
  ∃ dv : List (Nat × V), (∀ p d, pt.ds.lookup p = some d → ∃ v, dv.lookup p = some v ∧ ∀ H W, Rp K H W d v) ∧
    ∀ (s : Shared) (us ws : List Value) (vs zs : List V), K.In s.heap → us.length = pt.n → ws.length = pt.ks.length → Vals vs us → Vals zs ws →
      ∃ bs : List Value, Vals (ordV ps.length pt.ix (vs ++ zs) dv) bs ∧ BindsTo s fd ⟨us, pt.ks.zip ws⟩ (ps.zip bs)
def ordU (np : Nat) (ix : List Nat) (us : List Value) : List Value := (List.range np).map fun p => match ix.findIdx? (· == p) with | some k => us.getD k .none | none => .none
theorem vals_map {α : Type} {f : α → V} {g : α → Value} : ∀ l : List α, (∀ x ∈ l, RelV (f x) (g x)) → Vals (l.map f) (l.map g)
  | [], _ => .nil
  | x :: l, h => .cons (h x List.mem_cons_self) (vals_map l fun y hy => h y (List.mem_cons_of_mem _ hy))
theorem vals_getD {vs : List V} {us : List Value} (r : Vals vs us) (k : Nat) : RelV (vs.getD k .non) (us.getD k .none) := by
  rw [List.getD_eq_getElem?_getD, List.getD_eq_getElem?_getD]
  cases e : vs[k]? with
  | none =>
    rw [r.none_of e]
    rfl
  | some v =>
    obtain ⟨u, h1, h2⟩ := r.get e
    rw [h1]
    exact h2
theorem ord_vals {np : Nat} {ix : List Nat} {vs : List V} {us : List Value} (r : Vals vs us) : Vals (ordV np ix vs []) (ordU np ix us) := by
  unfold ordV ordU
  refine vals_map _ fun p _ => ?_
  cases ix.findIdx? (· == p) with
  | none => exact rfl
  | some k => exact vals_getD r k
/-- no defaults: h by destructing the two lists -/
theorem PatOk.plain {K : PySem.W.Frag} {fd : FuncData} {ps : List Str} {pt : Pat} (hd : pt.ds = []) (h : ∀ us ws : List Value, us.length = pt.n → ws.length = pt.ks.length → bindArgs fd ⟨us, pt.ks.zip ws⟩ = pure (ps.zip (ordU ps.length pt.ix (us ++ ws)))) : PatOk K fd ps pt := by
  refine ⟨[], ⟨fun p d e => ?_, fun s us ws vs zs _ h1 h2 r1 r2 => ⟨_, ord_vals (r1.append r2), .of_eq (h us ws h1 h2)⟩⟩⟩
  rw [hd] at e
  cases e
theorem kw_names (pos : Pos) (env : PySem.Env) : ∀ kws : List Keyword, (backToKw pos (keywordEach kws env)).filterMap (·.1) = kws.filterMap (·.arg)
  | [] => rfl
  | ⟨nm, v, p⟩ :: kws => by
    have ih := kw_names pos env kws
    show ((nm, _) :: backToKw pos (keywordEach kws env)).filterMap (·.1) = _
    rw [List.filterMap_cons, List.filterMap_cons, ih]
theorem kw_all (pos : Pos) (env : PySem.Env) : ∀ kws : List Keyword, kws.all (·.arg.isSome) = true → (backToKw pos (keywordEach kws env)).all (·.1.isSome) = true ∧ (backToKw pos (keywordEach kws env)).any (·.1.isNone) = false
  | [], _ => ⟨rfl, rfl⟩
  | ⟨nm, v, p⟩ :: kws, h => by
    simp only [List.all_cons, Bool.and_eq_true] at h
    obtain ⟨h1, h2⟩ := kw_all pos env kws h.2
    cases nm with
    | none => cases h.1
    | some nm => exact ⟨by show (true && _) = true; rw [Bool.true_and]; exact h1, by show (false || _) = false; rw [Bool.false_or]; exact h2⟩
section
variable {X : Cx} {n f : Nat} {fa : Addr} {fd : FuncData} {ps : List Str} {x : Str} {p pos : Pos} {es : List Expr} {kws : List Keyword} {F1 F2 : Env → Res (List (D × Bool))} {cl : CL} {P : Sys} {F : Fn}
theorem run_g {sp : List V → Hp → VK → Prop} {pins : List (Addr × Obj)} {σ : L2.St} {H : Hp} {s : Shared} {Q : VK} {args : Args} {bs : List Value} {vs : List V} (G : FnG X.prog X.w X.K X.mg X.base n fa fd ps sp) (hr : Room n X.A) (hg : X.A.guards = some [])
    (I : Inv X pins σ H s) (hb : BindsTo s fd args (ps.zip bs)) (r : Vals vs bs) (hl : vs.length = ps.length) (h : sp vs H Q) : codeAny (model X.prog X.w) X.A (.call (.ref fa) args) (fun r s' => match r with | .ok (.ret u) => EP X pins σ Q u s' | _ => False) s := by
  refine codeAny_mono (G.run X.A X.stack s H args bs vs Q hr hg I.env0 hb r hl h) fun r s' hq => ?_
  cases r with
  | error e => exact False.elim hq
  | ok fl =>
    cases fl with
    | ret u => exact I.after hq
    | next => exact False.elim hq
    | brk => exact False.elim hq
    | cont => exact False.elim hq
def catF (F1 F2 : Env → Res (List (D × Bool))) : Env → Res (List (D × Bool)) := fun r => (F1 r).bind fun as r1 => (F2 r1).bind fun bs r2 => .ok (as ++ bs) r2
theorem LVL.append {K : PySem.W.Frag} {σ : L2.St} {O : List Addr} {H1 : Hp} {O1 : List Addr} {B1 : List (Option Addr)} : ∀ {xs ys : List (D × Bool)} {vs zs : List V}, LVL K σ O H1 O1 B1 xs vs → LVL K σ O H1 O1 B1 ys zs → LVL K σ O H1 O1 B1 (xs ++ ys) (vs ++ zs)
  | [], _, [], _, _, h => h
  | x :: xs, ys, v :: vs, zs, h, g => ⟨h.1, LVL.append h.2 g⟩
  | [], _, _ :: _, _, h, _ => h.elim
  | _ :: _, _, [], _, h, _ => h.elim
theorem se_call (pt : Pat) (G : FnG X.prog X.w X.K X.mg X.base n fa fd ps (spG X.K cl pt.f)) (hr : Room n X.A) (hgd : X.A.guards = some []) (hg : Gl X x) (hm : X.mg x = some (.ref fa)) (hk : PySem.W.keepIn X.K (.ref fa) = true) (hF : P.fns[pt.f]? = some F) (hps : ps.length = F.np) (hpt : PatOk X.K fd ps pt)
    (hn : es.length = pt.n) (hks : kws.filterMap (·.arg) = pt.ks) (hkl : kws.length = pt.ks.length) (hka : kws.all (·.arg.isSome) = true) (ha : PA X es (rdA X.K F1)) (hkw : PK X kws (rdA X.K F2)) (hdb : (x == ("__debug__" : Str)) = false) (ns : es.all notStar = true)
    (l0 : es = [] → ∀ r, F1 r = .ok [] r) (l1 : ∀ r as r', F1 r = .ok as r' → as.length = es.length) (l2 : ∀ r as r', F2 r = .ok as r' → as.length = kws.length) :
    PE X (.Call (.Name x p) es kws pos) (rdE X.K fun r => (catF F1 F2 r).bind fun as r1 => callE P cl pt.f pt.ix pt.ds as r1) := by
  refine ⟨fun pins s σ H Q I h => ?_⟩
  obtain ⟨dv, hdv, hbind⟩ := hpt
  obtain ⟨O, B, r, z, r', h0, e, q⟩ := h
  obtain ⟨as, r1, e1, e⟩ := Res.bind_ok_iff.mp e
  obtain ⟨as1, r2, e2, e1⟩ := Res.bind_ok_iff.mp e1
  obtain ⟨as2, r3, e3, e1⟩ := Res.bind_ok_iff.mp e1
  cases e1
  have fin : ∀ {us ws : List Value} {vs zs : List V} {s2 : Shared} {H2 : Hp}, Inv X pins σ H2 s2 → Vals vs us → Vals zs ws → (∃ H1 O1 B1 O2 B2, Tr X.K σ H O B r H1 O1 B1 r2 ∧ LVL X.K σ O H1 O1 B1 as1 vs ∧ Tr X.K σ H1 O1 B1 r2 H2 O2 B2 r1 ∧ LVL X.K σ O1 H2 O2 B2 as2 zs) →
      wpAny (model X.prog X.w) X.A (call (.ref fa) us (pt.ks.zip ws)) (EP X pins σ Q) X.xe s2 := fun {us ws vs zs s2 H2} I2 ru rw' ⟨H1, O1, B1, O2, B2, t1, g1, t2, g2⟩ => by
    have lu : us.length = pt.n := by rw [← ru.length, ← g1.length, l1 _ _ _ e2, hn]
    have lw : ws.length = pt.ks.length := by rw [← rw'.length, ← g2.length, l2 _ _ _ e3, hkl]
    obtain ⟨bs, rb, hb⟩ := hbind s2 us ws vs zs I2.kIn lu lw ru rw'
    have lv : LVL X.K σ O H2 O2 B2 (as1 ++ as2) (vs ++ zs) := (g1.step t2).append (g2.old fun b hb => (t1.ko b hb).2)
    have hs := callE_red (dv := dv) hF h0 (t1.trans t2) lv e hdv q
    rw [← hps] at hs
    refine wpAny_call (codeAny_mono (run_g G hr hgd I2 hb rb ?_ hs) fun rr s' hq => ?_)
    · unfold ordV
      rw [List.length_map, List.length_range]
    · cases rr with
      | error e => exact False.elim hq
      | ok fl =>
        cases fl with
        | ret u => exact hq
        | next => exact False.elim hq
        | brk => exact False.elim hq
        | cont => exact False.elim hq
  have hkw2 := kw_all pos X.env kws hka
  have hnm := (kw_names pos X.env kws).trans hks
  refine wpAny_Call_Name_kw (ld_glob I hg hm ?_ hdb)
  cases es with
  | nil =>
    refine PySem.W.callWith_KW0 (h₀ := X.base) I.ok.mod.kin hk hkw2.1 ?_ (by rw [hkw2.2]; rfl)
    rw [l0 rfl] at e2
    cases e2
    refine thn (hkw.run pos pins s σ H (fun zs H2 => ∃ O2 B2, Tr X.K σ H O B r H2 O2 B2 r1 ∧ LVL X.K σ O H2 O2 B2 as2 zs) I ⟨O, B, r, as2, r1, h0, e3, fun v H' O' B' t l => ⟨O', B', t, l⟩⟩) fun ws s2 ⟨zs, H2, I2, rz, O2, B2, t2, g2⟩ => ⟨I2.kIn, ?_⟩
    rw [hnm]
    exact fin (us := []) (vs := []) I2 .nil rz ⟨H, O, B, O2, B2, Tr.refl h0, trivial, t2, g2⟩
  | cons e0 es =>
    simp only [List.all_cons, Bool.and_eq_true] at ns
    refine PySem.W.callWith_KW (h₀ := X.base) I.ok.mod.kin hk hkw2.1 (thn (ha.run pos pins s σ H (fun vs H1 => ∃ O1 B1, Tr X.K σ H O B r H1 O1 B1 r2 ∧ LVL X.K σ O H1 O1 B1 as1 vs) I ⟨O, B, r, as1, r2, h0, e2, fun v H' O' B' t l => ⟨O', B', t, l⟩⟩)
      fun us s1 ⟨vs, H1, I1, ru, O1, B1, t1, g1⟩ => ?_) (by rw [plain_args (by simp [ns.1, ns.2]), hkw2.2]; rfl) (star_cons _ _ ns.1)
    refine thn (hkw.run pos pins s1 σ H1 (fun zs H2 => ∃ O2 B2, Tr X.K σ H1 O1 B1 r2 H2 O2 B2 r1 ∧ LVL X.K σ O1 H2 O2 B2 as2 zs) I1 ⟨O1, B1, r2, as2, r1, t1.sr, e3, fun v H' O' B' t l => ⟨O', B', t, l⟩⟩)
      fun ws s2 ⟨zs, H2, I2, rz, O2, B2, t2, g2⟩ => ⟨I2.kIn, ?_⟩
    rw [hnm]
    exact fin I2 ru rz ⟨H1, O1, B1, O2, B2, t1, g1, t2, g2⟩
end
end Pv
namespace Pv
open PySem PySem.Spec PyProof.Rows L2
/-- what a module holds -/
structure Tab where
  N : List Str
  gl : List (Str × D)
  fn : List (Str × Nat)
  bl : List Str
  pt : List Pat
def bad : ME := .at (.c .non) 0
def opC : Operator → Option Op2
  | .Add => some .add
  | .Sub => some .sub
  | .Mult => some .mul
  | .FloorDiv => some .fdiv
  | .Mod => some .mod
  | .Pow => some .pow
  | _ => none
theorem opC_ok {op : Operator} {o : Op2} (h : opC op = some o) : op = o.py := by cases op <;> cases h <;> rfl
def cmC : CmpOp → Option Cm
  | .Eq => some .eq
  | .NotEq => some .ne
  | .Lt => some .lt
  | .LtE => some .le
  | .Gt => some .gt
  | .GtE => some .ge
  | .Is => some .is
  | .IsNot => some .isnot
  | .In => some .isin
  | .NotIn => some .notin
theorem cmC_ok {op : CmpOp} {o : Cm} (h : cmC op = some o) : op = o.py := by cases op <;> cases h <;> rfl
def plainNm (x : Str) : Bool := !(x == ("__debug__" : Str)) && !(x == ("__classdict__" : Str)) && !(x == ("__name__" : Str))
theorem plainNm_ok {x : Str} (h : plainNm x = true) : (x == ("__debug__" : Str)) = false ∧ (x == ("__classdict__" : Str)) = false ∧ x ≠ "__name__" := by
  unfold plainNm at h
  simp only [Bool.and_eq_true, Bool.not_eq_true'] at h
  refine ⟨h.1.1, h.1.2, fun e => ?_⟩
  have := h.2
  rw [e] at this
  revert this
  decide
def visB (sc : Scope) (x : Str) : Bool := match sc.names.lookup x with | some .local => true | some .cell => true | some .free => true | _ => false
theorem visB_ok {sc : Scope} {x : Str} (h : visB sc x = true) : Vis sc x := by
  unfold visB at h
  split at h
  · exact .inl (by assumption)
  · exact .inr (.inl (by assumption))
  · exact .inr (.inr (by assumption))
  · cases h
def locB (sc : Scope) (x : Str) : Bool := match sc.names.lookup x with | some .local => true | some .cell => true | _ => false
theorem locB_ok {sc : Scope} {x : Str} (h : locB sc x = true) : Loc sc x := by
  unfold locB at h
  split at h
  · exact .inl (by assumption)
  · exact .inr (by assumption)
  · cases h
def lcB (sc : Scope) (x : Str) : Bool := match sc.names.lookup x with | some .local => true | _ => false
theorem lcB_ok {sc : Scope} {x : Str} (h : lcB sc x = true) : sc.names.lookup x = some .local := by
  unfold lcB at h
  split at h
  · assumption
  · cases h
/-- a block's own name: a local one, or a cell of the block's -/
def lccB (scope sc : Scope) (x : Str) : Bool := lcB sc x || (decide (scope.names.lookup x = some .cell) && locB sc x)
def glB (sc : Scope) (x : Str) : Bool := match sc.names.lookup x with | some .globalImplicit => true | _ => false
theorem glB_ok {X : Cx} {x : Str} (h : glB X.env.scope x = true) : Gl X x := by
  unfold glB at h
  split at h
  · assumption
  · cases h
def vix (N : List Str) (x : Str) : Option Nat := N.findIdx? (· == x)
theorem vix_ok {N : List Str} {x : Str} {i : Nat} (h : vix N x = some i) : N[i]? = some x := by
  obtain ⟨hk, e, _⟩ := List.findIdx?_eq_some_iff_getElem.mp h
  rw [List.getElem?_eq_getElem hk]
  exact congrArg some (beq_iff_eq.mp e)
def tyT : List (Str × Ty) := [("int", .int), ("str", .str), ("bool", .bool), ("tuple", .tuple), ("list", .list), ("dict", .dict), ("set", .set)]
def tyC (T : Tab) (sc : Scope) : Expr → Option Ty
  | .Name y _ => if glB sc y && plainNm y && T.bl.contains y then (tyT.find? fun t => t.1 == y).map (·.2) else none
  | _ => none
theorem tyT_ok {y : Str} {t : Ty} (h : (tyT.find? fun t => t.1 == y).map (·.2) = some t) : t.blt = true ∧ bootBuiltins y = some (.type t.name) := by
  obtain ⟨t, e1, e2⟩ := Option.map_eq_some_iff.mp h
  have hm := List.mem_of_find?_eq_some e1
  have hx := List.find?_some e1
  simp only [beq_iff_eq] at hx
  subst hx e2
  simp only [tyT, List.mem_cons, List.not_mem_nil, or_false] at hm
  rcases hm with rfl | rfl | rfl | rfl | rfl | rfl | rfl
  · exact ⟨rfl, boot_int⟩
  · exact ⟨rfl, boot_str⟩
  · exact ⟨rfl, boot_bool⟩
  · exact ⟨rfl, boot_tuple⟩
  · exact ⟨rfl, boot_list⟩
  · exact ⟨rfl, boot_dict⟩
  · exact ⟨rfl, boot_set⟩
theorem tyC_ok {T : Tab} {sc : Scope} {e : Expr} {t : Ty} (h : tyC T sc e = some t) : ∃ y p, e = .Name y p ∧ glB sc y = true ∧ plainNm y = true ∧ T.bl.contains y = true ∧ t.blt = true ∧ bootBuiltins y = some (.type t.name) := by
  cases e with
  | Name y p =>
    by_cases hc : (glB sc y && plainNm y && T.bl.contains y) = true
    · have h' : (tyT.find? fun t => t.1 == y).map (·.2) = some t := (if_pos hc).symm.trans h
      simp only [Bool.and_eq_true] at hc
      exact ⟨y, p, rfl, hc.1.1, hc.1.2, hc.2, tyT_ok h'⟩
    · have h' : (none : Option Ty) = some t := (if_neg hc).symm.trans h
      cases h'
  | _ => cases h
def biT : List (Str × Nat × Bi) := [("len", 1, .len), ("abs", 1, .abs), ("int", 1, .int), ("bool", 1, .bool), ("repr", 1, .repr), ("sum", 1, .sum), ("any", 1, .any), ("all", 1, .all), ("list", 1, .list), ("tuple", 1, .tuple),
  ("max", 1, .max), ("max", 2, .max2), ("min", 1, .min), ("min", 2, .min2), ("divmod", 2, .divmod)]
def biC (x : Str) (n : Nat) : Option Bi := (biT.find? fun t => t.1 == x && t.2.1 == n).map (·.2.2)
theorem boot_abs' : bootBuiltins "abs" = some (.builtin "abs") := by decide +kernel
theorem boot_any' : bootBuiltins "any" = some (.builtin "any") := by decide +kernel
theorem boot_all' : bootBuiltins "all" = some (.builtin "all") := by decide +kernel
theorem biC_ok {X : Cx} {P : Sys} {x : Str} {n : Nat} {b : Bi} (hc : X.calm = true) (hu : X.A.units + 100 < cLine) (hg : X.A.guards = some []) (hP : P.rp = reprS) (h : biC x n = some b) :
    (∃ id, CallR X (.builtin id) (rVal X.K (biD P b)) ∧ bootBuiltins x = some (.builtin id)) ∨ (∃ id, CallR X (.type id) (rVal X.K (biD P b)) ∧ bootBuiltins x = some (.type id)) := by
  obtain ⟨t, e1, e2⟩ := Option.map_eq_some_iff.mp h
  have hm := List.mem_of_find?_eq_some e1
  have hx := List.find?_some e1
  simp only [Bool.and_eq_true, beq_iff_eq] at hx
  obtain ⟨hx1, hx2⟩ := hx
  subst hx1 hx2 e2
  simp only [biT, List.mem_cons, List.not_mem_nil, or_false] at hm
  rcases hm with rfl | rfl | rfl | rfl | rfl | rfl | rfl | rfl | rfl | rfl | rfl | rfl | rfl | rfl | rfl
  · exact .inl ⟨_, biv_len P, PySem.boot_len⟩
  · exact .inl ⟨_, biv_abs P, boot_abs'⟩
  · exact .inr ⟨_, biv_int P, boot_int⟩
  · exact .inr ⟨_, biv_bool P, boot_bool⟩
  · exact .inl ⟨_, biv_repr (by omega) hg P hP, boot_repr⟩
  · exact .inl ⟨_, biv_sum hc P, boot_sum⟩
  · exact .inl ⟨_, biv_any hc P, boot_any'⟩
  · exact .inl ⟨_, biv_all hc P, boot_all'⟩
  · exact .inr ⟨_, biv_list hc P, boot_list⟩
  · exact .inr ⟨_, biv_tuple hc P, boot_tuple⟩
  · exact .inl ⟨_, biv_max hc P, boot_max⟩
  · exact .inl ⟨_, biv_max2 hc P, boot_max⟩
  · exact .inl ⟨_, biv_min hc P, boot_min⟩
  · exact .inl ⟨_, biv_min2 hc P, boot_min⟩
  · exact .inl ⟨_, biv_divmod P, boot_divmod⟩
def mtC (x : Str) : Option Mt := if x = ("join" : Str) then some .join else if x = ("startswith" : Str) then some .startswith else if x = ("endswith" : Str) then some .endswith else if x = ("count" : Str) then some .count else none
/-- several -/
def allSome {α β : Type} (f : α → Option β) : List α → Option (List β)
  | [] => some []
  | x :: xs => (f x).bind fun y => (allSome f xs).map (y :: ·)
theorem allSome_get {α β : Type} {f : α → Option β} : ∀ {xs : List α} {ys : List β}, allSome f xs = some ys → ys.length = xs.length ∧ ∀ (i : Nat) x y, xs[i]? = some x → ys[i]? = some y → f x = some y
  | [], ys, h => by
    cases h
    exact ⟨rfl, fun i x y e => by simp at e⟩
  | x :: xs, ys, h => by
    obtain ⟨y, e1, h⟩ := Option.bind_eq_some_iff.mp h
    obtain ⟨zs, e2, h⟩ := Option.map_eq_some_iff.mp h
    subst h
    obtain ⟨h1, h2⟩ := allSome_get e2
    refine ⟨by rw [List.length_cons, List.length_cons, h1], fun i a b ea eb => ?_⟩
    cases i with
    | zero => cases ea; cases eb; exact e1
    | succ i => exact h2 i a b (by simpa using ea) (by simpa using eb)
def notSet : Expr → Bool
  | .Set _ _ _ => false
  | _ => true
theorem folded_ok {e : Expr} {env : PySem.Env} (h : notSet e = true) (x : Value) : foldedSetIterable e env x = pure x := by
  unfold foldedSetIterable
  cases e <;> first
    | rfl
    | (cases h; done)
/-- names that are stored -/
def tgC (N : List Str) (sc : Scope) (ok : Str → Bool) : Expr → Option Tg
  | .Name x _ => if ok x then (vix N x).map .nm else none
  | .Tuple [.Name x _, .Name y _] _ _ => if ok x && ok y then (vix N x).bind fun i => (vix N y).map fun j => .tp [.nm i, .nm j] else none
  | .Tuple [.Name x _, .Name y _, .Name z _] _ _ => if ok x && ok y && ok z then (vix N x).bind fun i => (vix N y).bind fun j => (vix N z).map fun k => .tp [.nm i, .nm j, .nm k] else none
  | _ => none
theorem tgC_ok {X : Cx} {N : List Str} {sc : Scope} {ok : Str → Bool} {e : Expr} {t : Tg} (hc : X.calm = true) (hN : X.N = N) (hn : N.Nodup) (hx : ∀ x, ok x = true → Loc X.env.scope x ∧ (X.fn x = true ∨ X.env.scope.names.lookup x = some .local))
    (h : tgC N sc ok e = some t) : PG X e (gOf X.K t) := by
  have nm : ∀ {x : Str} {i : Nat} {p : Pos}, ok x = true → vix N x = some i → PG X (.Name x p) (gName i) := fun {x i p} h1 h2 =>
    pg_name (by rw [hN]; exact hn) (by rw [hN]; exact vix_ok h2) (hx x h1).1 (hx x h1).2
  unfold tgC at h
  split at h
  · split at h
    · rename_i h1
      obtain ⟨i, e1, rfl⟩ := Option.map_eq_some_iff.mp h
      exact nm h1 e1
    · cases h
  · split at h
    · rename_i h1
      simp only [Bool.and_eq_true] at h1
      obtain ⟨i, e1, h⟩ := Option.bind_eq_some_iff.mp h
      obtain ⟨j, e2, rfl⟩ := Option.map_eq_some_iff.mp h
      exact pg_tup hc (pgs_cons (nm h1.1 e1) (pgs_cons (nm h1.2 e2) pgs_nil))
    · cases h
  · split at h
    · rename_i h1
      simp only [Bool.and_eq_true] at h1
      obtain ⟨i, e1, h⟩ := Option.bind_eq_some_iff.mp h
      obtain ⟨j, e2, h⟩ := Option.bind_eq_some_iff.mp h
      obtain ⟨k, e3, rfl⟩ := Option.map_eq_some_iff.mp h
      exact pg_tup hc (pgs_cons (nm h1.1.1 e1) (pgs_cons (nm h1.1.2 e2) (pgs_cons (nm h1.2 e3) pgs_nil)))
    · cases h
  · cases h
def isTuple : Expr → Bool
  | .Tuple _ _ _ => true
  | _ => false
/-- what is walked -/
def wkC (T : Tab) (sc : Scope) (tg iter : Expr) : Wk × List Expr :=
  match iter with
  | .Call (.Name x _) args [] _ =>
    if glB sc x && T.bl.contains x && args.all notStar then
      (if x = ("range" : Str) && (args.length == 1 || args.length == 2) then (.range, args)
       else if x = ("enumerate" : Str) && args.length == 1 && isTuple tg then (.enum, args)
       else if x = ("zip" : Str) && args.length == 2 && isTuple tg then (.zip, args)
       else (.seq, [iter]))
    else (.seq, [iter])
  | _ => (.seq, [iter])
def ownC (N : List Str) : Expr → List (Str × Nat)
  | .Name x _ => [(x, (vix N x).getD 0)]
  | .Tuple es _ _ => es.filterMap fun e => match e with | .Name x _ => some (x, (vix N x).getD 0) | _ => none
  | _ => []
def mulC (x : Str) (n : Nat) : Option Mu := if x = ("append" : Str) && n == 1 then some .append else if x = ("extend" : Str) && n == 1 then some .extend else if x = ("pop" : Str) && n == 0 then some .pop else none
/-- a built-in called; repr of a display: its parts as they stand -/
def biE (x : Str) (es : List Expr) (f : Expr → ME) : ME :=
  match es with
  | [.List fs p] => if x = ("repr" : Str) then (if fs.all notStar && decide (fs.length ≤ 1000) then .bi .reprl (fs.map f) else bad) else (match biC x 1 with | some b => .bi b [f (.List fs p)] | none => bad)
  | es => (match biC x es.length with | some b => .bi b (es.map f) | none => bad)
def cE (T : Tab) : Nat → Scope → Expr → ME
  | 0, _, _ => bad
  | n + 1, sc, e =>
    match e with
    | .Constant c _ _ =>
      match c with
      | .int i => .c (.int i)
      | .str s => .c (.str s.cps.toList)
      | .bool b => .c (.bl b)
      | .none => .c .non
      | _ => bad
    | .Name x _ =>
      if plainNm x then
        (if visB sc x then (match vix T.N x with | some i => .v i | none => bad)
         else if glB sc x then (match T.gl.lookup x with | some d => .g 0 d | none => bad) else bad)
      else bad
    | .Tuple es _ _ => if es.all notStar && decide (es.length ≤ 1000) then .tup (es.map (cE T n sc)) else bad
    | .List es _ => if es.all notStar && decide (es.length ≤ 1000) then .lst (es.map (cE T n sc)) else bad
    | .Dict ks vs _ => if ks.isEmpty && vs.isEmpty then .dic [] [] else bad
    | .BinOp a op b _ => match opC op with | some o => .bin o (cE T n sc a) (cE T n sc b) | none => bad
    | .UnaryOp op a _ => match op with | .USub => .neg (cE T n sc a) | .Not => .not (cE T n sc a) | _ => bad
    | .Compare a ops bs _ =>
      match ops, bs with
      | [op], [b] => match cmC op with | some o => if behindInMarks op b then bad else .cmp o (cE T n sc a) (cE T n sc b) | none => bad
      | [op, op2], [b, c] => match cmC op, cmC op2 with | some o, some p => if lastMarks [op, op2] [b, c] then bad else .cmp2 o p (cE T n sc a) (cE T n sc b) (cE T n sc c) | _, _ => bad
      | _, _ => bad
    | .BoolOp op es _ => if es.isEmpty then bad else (match op with | .And => .and (es.map (cE T n sc)) | .Or => .or (es.map (cE T n sc)))
    | .IfExp c a b _ => .ife (cE T n sc c) (cE T n sc a) (cE T n sc b)
    | .Subscript a s _ =>
      match s with
      | .Slice lo hi none _ => .sl (cE T n sc a) (lo.map (cE T n sc)) (hi.map (cE T n sc))
      | s => if notSlice s then .ix (cE T n sc a) (cE T n sc s) else bad
    | .Call f args kws pos =>
      match f with
      | .Name x _ =>
        if glB sc x && plainNm x && args.all notStar then
          match T.fn.lookup x with
          | some f =>
            (match T.pt.find? (fun pt => pt.f == f && pt.n == args.length && decide (pt.ks = kws.filterMap (·.arg)) && pt.ks.length == kws.length && kws.all (·.arg.isSome)) with
             | some pt => .call f ((args ++ kws.map (·.value)).map (cE T n sc)) pt.ix pt.ds
             | none => bad)
          | none =>
            if T.bl.contains x && kws.isEmpty then
              (if x = ("isinstance" : Str) then
                (match args with
                 | [a, t] =>
                   (match t with
                    | .Tuple ts _ _ => if decide (ts.length ≤ 1000) then (match allSome (tyC T sc) ts with | some tys => .isi (cE T n sc a) tys | none => bad) else bad
                    | t => (match tyC T sc t with | some ty => .isi (cE T n sc a) [ty] | none => bad))
                 | _ => bad)
               else biE x args (cE T n sc))
            else bad
        else bad
      | .Attribute o name apos =>
        if args.all notStar && kws.isEmpty && apos.endLine == pos.line then
          (match o, mulC name args.length with
           | .Name x _, some m => if plainNm x && visB sc x then (match vix T.N x with | some i => .mu m i (args.map (cE T n sc)) | none => bad) else bad
           | o, _ => (match mtC name with | some m => if notCall0 o && decide (0 < args.length) && decide (args.length < 30) then .mt m (cE T n sc o) (args.map (cE T n sc)) else bad | none => bad))
        else bad
      | _ => bad
    | .ListComp elt gs scope _ =>
      match gs with
      | [⟨tg, iter, ifs, k⟩] =>
        let own := ownC T.N tg
        let sc' := relS scope sc
        match tgC T.N sc' (lccB scope sc') tg with
        | some t =>
          if k == 0 && blkC T.N sc scope own && notSet iter && decide (ifs.length ≤ 1) && (tgIx t).all (fun i => (own.map (·.2)).contains i) then
            .lc (cE T n sc' elt) t (wkC T sc tg iter).1 ((wkC T sc tg iter).2.map (cE T n sc)) (ifs.map (cE T n sc')) (own.map (·.2))
          else bad
        | none => bad
      | _ => bad
    | _ => bad
structure XOk (T : Tab) (P : Sys) (cl : CL) (n0 : Nat) (X : Cx) : Prop where
  N : X.N = T.N
  nd : T.N.Nodup
  calm : X.calm = true
  un : X.A.units + 100 < cLine
  gd : X.A.guards = some []
  rm : Room n0 X.A
  bl : ∀ x, T.bl.contains x = true → X.mg x = none
  gl : ∀ x d, T.gl.lookup x = some d → ∃ v u, X.mg x = some u ∧ RelV v u ∧ ∀ H W, Rp X.K H W d v
  fn : ∀ x f, T.fn.lookup x = some f → ∃ fa fd ps F, X.mg x = some (.ref fa) ∧ PySem.W.keepIn X.K (.ref fa) = true ∧ P.fns[f]? = some F ∧ ps.length = F.np ∧ (∀ pt ∈ T.pt, pt.f = f → PatOk X.K fd ps pt) ∧ FnG X.prog X.w X.K X.mg X.base n0 fa fd ps (spG X.K cl f)
  rp : P.rp = reprS
  inS : P.inS = inStr
  cnt : P.cnt = cntStr
end Pv
namespace Pv
open PySem PySem.Spec PyProof.Rows L2
theorem Res.bind_pure {α : Type} (x : Res α) : (x.bind fun a r => .ok a r) = x := by cases x <;> rfl
theorem Res.bind_assoc {α β γ : Type} (x : Res α) (f : α → Env → Res β) (g : β → Env → Res γ) : (x.bind f).bind g = x.bind fun a r => (f a r).bind g := by cases x <;> rfl
theorem PEc {X : Cx} {e : Expr} {F G : Env → Res (D × Bool)} (h : PE X e (rdE X.K F)) (g : ∀ r, G r = F r) : PE X e (rdE X.K G) := by rw [show G = F from funext g]; exact h
theorem PTc {X : Cx} {e : Expr} {F G : Env → Res Bool} (h : PT X e (rdT X.K F)) (g : ∀ r, G r = F r) : PT X e (rdT X.K G) := by rw [show G = F from funext g]; exact h
theorem PWc {X : Cx} {e : Expr} {F G : Env → Res Bool} (h : PW X e (rdT X.K F)) (g : ∀ r, G r = F r) : PW X e (rdT X.K G) := by rw [show G = F from funext g]; exact h
theorem PAc {X : Cx} {e : List Expr} {F G : Env → Res (List (D × Bool))} (h : PA X e (rdA X.K F)) (g : ∀ r, G r = F r) : PA X e (rdA X.K G) := by rw [show G = F from funext g]; exact h
theorem PFc {X : Cx} {e : List Expr} {F G : Env → Res (List D)} (h : PA X e (rdF X.K F)) (g : ∀ r, G r = F r) : PA X e (rdF X.K G) := by rw [show G = F from funext g]; exact h
theorem POc {X : Cx} {e : Option Expr} {F G : Env → Res (Option Int)} (h : PO X e (rdO X.K F)) (g : ∀ r, G r = F r) : PO X e (rdO X.K G) := by rw [show G = F from funext g]; exact h
section
variable {X : Cx} {P : Sys} {cl : CL} {pos : Pos} {e : Expr}
/-- an expression and its own syntax -/
structure Snd (X : Cx) (P : Sys) (cl : CL) (e : Expr) (m : ME) : Prop where
  v : PE X e (rdE X.K (evE P cl m))
  t : PT X e (rdT X.K fun r => tru (evE P cl m r))
theorem ev_bad (r : Env) : evE P cl bad r = .no := by simp only [bad, evE]
theorem Snd.bad : Snd X P cl e bad := ⟨PE.never (rdE.no ev_bad), PT.never fun σ H Q ⟨_, _, r, _, _, _, h, _⟩ => by dsimp only at h; rw [ev_bad] at h; cases h⟩
theorem Snd.val {m : ME} (h : PE X e (rdE X.K (evE P cl m))) (he : ∀ whole, isTrue e X.env whole = (do let v ← whole; standAt e.pos; holding [v] (truthy v))) : Snd X P cl e m := ⟨h, st_val h he⟩
variable {f : Expr → ME} {es : List Expr}
theorem pa_map (ih : ∀ e, Snd X P cl e (f e)) : ∀ es : List Expr, es.all notStar = true → PA X es (rdA X.K (evL P cl (es.map f)))
  | [], _ => PAc sa_nil fun r => by simp only [List.map_nil, evL]
  | e :: es, h => by
    simp only [List.all_cons, Bool.and_eq_true] at h
    exact PAc (sa_cons (ih e).v (pa_map ih es h.2) h.1) fun r => by simp only [List.map_cons, evL]
theorem pf_map (ih : ∀ e, Snd X P cl e (f e)) : ∀ es : List Expr, es.all notStar = true → PA X es (rdF X.K (evF P cl (es.map f)))
  | [], _ => PFc sf_nil fun r => by simp only [List.map_nil, evF]
  | e :: es, h => by
    simp only [List.all_cons, Bool.and_eq_true] at h
    exact PFc (sf_cons (ih e).v (pf_map ih es h.2) h.1) fun r => by simp only [List.map_cons, evF]
theorem evF_len : ∀ (ms : List ME) (r : Env) (ds : List D) (r' : Env), evF P cl ms r = .ok ds r' → ds.length = ms.length
  | [], r, ds, r', h => by
    simp only [evF] at h
    cases h
    rfl
  | m :: ms, r, ds, r', h => by
    simp only [evF] at h
    obtain ⟨d, r1, e1, h⟩ := Res.bind_ok_iff.mp h
    obtain ⟨x, e2, h⟩ := opt_ok_iff.mp h
    obtain ⟨xs, r3, e3, h⟩ := Res.bind_ok_iff.mp h
    cases h
    rw [List.length_cons, List.length_cons, evF_len ms _ _ _ e3]
theorem pka_map {k : Nat → Bool} (ih : ∀ e, Snd X P cl e (f e)) : ∀ (es : List Expr) (ix : List Nat), es.all notStar = true → PA X es (rdA X.K (evA P cl k ix (es.map f)))
  | [], ix, _ => PAc sa_nil fun r => by cases ix <;> simp only [List.map_nil, evA]
  | e :: es, [], h => by
    refine ⟨fun pos pins s σ H Q I q => ?_⟩
    obtain ⟨_, _, r, _, _, _, h, _⟩ := q
    simp only [List.map_cons, evA] at h
    cases h
  | e :: es, p :: ps, h => by
    simp only [List.all_cons, Bool.and_eq_true] at h
    exact PAc (sa_keep (kp := k p) (ih e).v (pka_map (k := k) ih es ps h.2) h.1) fun r => by simp only [List.map_cons, evA, keepF]
theorem pkk_map {k : Nat → Bool} (ih : ∀ e, Snd X P cl e (f e)) : ∀ (kws : List Keyword) (ix : List Nat), PK X kws (rdA X.K (evA P cl k ix ((kws.map (·.value)).map f)))
  | [], ix => by
    have := sk_nil (X := X)
    rw [show (evA P cl k ix (([] : List Keyword).map (·.value) |>.map f)) = (fun r => .ok [] r) from funext fun r => by cases ix <;> simp only [List.map_nil, evA]]
    exact this
  | ⟨nm, v, p⟩ :: kws, [] => by
    refine ⟨fun pos pins s σ H Q I q => ?_⟩
    obtain ⟨_, _, r, _, _, _, h, _⟩ := q
    simp only [List.map_cons, evA] at h
    cases h
  | ⟨nm, v, p⟩ :: kws, q :: qs => by
    have := sk_keep (kp := k q) (nm := nm) (p := p) (ih v).v (pkk_map (k := k) ih kws qs)
    rw [show (evA P cl k (q :: qs) (((⟨nm, v, p⟩ : Keyword) :: kws).map (·.value) |>.map f)) = keepF (k q) (evE P cl (f v)) (evA P cl k qs ((kws.map (·.value)).map f)) from funext fun r => by simp only [List.map_cons, evA, keepF]]
    exact this
theorem evA_len {k : Nat → Bool} : ∀ (ms : List ME) (ix : List Nat) (r : Env) (ds : List (D × Bool)) (r' : Env), evA P cl k ix ms r = .ok ds r' → ds.length = ms.length
  | [], ix, r, ds, r', h => by
    have h' : Res.ok ([] : List (D × Bool)) r = .ok ds r' := by cases ix <;> simpa only [evA] using h
    cases h'
    rfl
  | m :: ms, [], r, ds, r', h => by simp only [evA] at h; cases h
  | m :: ms, p :: ps, r, ds, r', h => by
    simp only [evA] at h
    obtain ⟨d, r1, e1, h⟩ := Res.bind_ok_iff.mp h
    split at h
    · obtain ⟨xs, r2, e2, h⟩ := Res.bind_ok_iff.mp h
      cases h
      rw [List.length_cons, List.length_cons, evA_len ms _ _ _ _ e2]
    · obtain ⟨x, e2, h⟩ := opt_ok_iff.mp h
      obtain ⟨xs, r3, e3, h⟩ := Res.bind_ok_iff.mp h
      cases h
      rw [List.length_cons, List.length_cons, evA_len ms _ _ _ _ e3]
theorem evA_app {k : Nat → Bool} : ∀ (xs ys : List ME) (ix : List Nat) (r : Env), evA P cl k ix (xs ++ ys) r = catF (evA P cl k (ix.take xs.length) xs) (evA P cl k (ix.drop xs.length) ys) r
  | [], ys, ix, r => by
    show evA P cl k ix ys r = catF (evA P cl k (ix.take 0) []) (evA P cl k (ix.drop 0) ys) r
    unfold catF
    rw [List.drop_zero, List.take_zero]
    simp only [evA, Res.bind_ok, List.nil_append]
    exact (Res.bind_pure _).symm
  | x :: xs, ys, [], r => by simp only [List.cons_append, evA, catF, List.take_nil, Res.bind_no]
  | x :: xs, ys, p :: ps, r => by
    have ih := fun r => evA_app (k := k) xs ys ps r
    unfold catF at ih ⊢
    simp only [List.cons_append, List.length_cons, List.take_succ_cons, List.drop_succ_cons, evA]
    cases evE P cl x r with
    | no => rfl
    | exc _ _ => rfl
    | ok d r1 =>
      simp only [Res.bind_ok]
      cases k p with
      | true =>
        simp only [if_true, ih, Res.bind_assoc, Res.bind_ok, List.cons_append]
      | false =>
        simp only [Bool.false_eq_true, if_false]
        cases fz r1 d.1 with
        | none => rfl
        | some z => simp only [opt_some, ih, Res.bind_assoc, Res.bind_ok, List.cons_append]
theorem tru_and (Fa Fb : Env → Res (D × Bool)) (r : Env) : tru (andF Fa Fb r) = andT (fun r => tru (Fa r)) (fun r => tru (Fb r)) r := by
  unfold andF andT tru
  dsimp only
  cases Fa r with
  | no => rfl
  | exc _ _ => rfl
  | ok d r1 =>
    simp only [Res.bind_ok]
    cases e1 : rd r1 d.1 with
    | none => rfl
    | some x =>
      simp only [opt_some]
      cases e2 : truth x with
      | none => rfl
      | some b =>
        cases b with
        | true => simp only [opt_some, Res.bind_ok, if_true]
        | false => simp only [opt_some, Res.bind_ok, Bool.false_eq_true, if_false, e1, e2]
theorem tru_or (Fa Fb : Env → Res (D × Bool)) (r : Env) : tru (orF Fa Fb r) = orT (fun r => tru (Fa r)) (fun r => tru (Fb r)) r := by
  unfold orF orT tru
  dsimp only
  cases Fa r with
  | no => rfl
  | exc _ _ => rfl
  | ok d r1 =>
    simp only [Res.bind_ok]
    cases e1 : rd r1 d.1 with
    | none => rfl
    | some x =>
      simp only [opt_some]
      cases e2 : truth x with
      | none => rfl
      | some b =>
        cases b with
        | true => simp only [opt_some, Res.bind_ok, if_true, e1, e2]
        | false => simp only [opt_some, Res.bind_ok, Bool.false_eq_true, if_false]
theorem ands (ih : ∀ e, Snd X P cl e (f e)) : ∀ (e : Expr) (es : List Expr), PE X (.BoolOp .And (e :: es) pos) (rdE X.K (evAnd P cl ((e :: es).map f))) ∧ PW X (.BoolOp .And (e :: es) pos) (rdT X.K fun r => tru (evAnd P cl ((e :: es).map f) r))
  | e, [] => by
    refine ⟨PEc (pe_one (ih e).v) fun r => by simp only [List.map_cons, List.map_nil, evAnd], PWc (pw_and1 (ih e).t) fun r => by simp only [List.map_cons, List.map_nil, evAnd]⟩
  | e, e2 :: es => by
    obtain ⟨h1, h2⟩ := ands ih e2 es
    have eq : ∀ r, evAnd P cl ((e :: e2 :: es).map f) r = andF (evE P cl (f e)) (evAnd P cl ((e2 :: es).map f)) r := fun r => by simp only [List.map_cons, evAnd, andF]
    exact ⟨PEc (se_and (ih e).v h1) eq, PWc (st_and (ih e).t h2) fun r => by rw [eq]; exact tru_and _ _ r⟩
theorem ors (ih : ∀ e, Snd X P cl e (f e)) : ∀ (e : Expr) (es : List Expr), PE X (.BoolOp .Or (e :: es) pos) (rdE X.K (evOr P cl ((e :: es).map f))) ∧ PW X (.BoolOp .Or (e :: es) pos) (rdT X.K fun r => tru (evOr P cl ((e :: es).map f) r))
  | e, [] => by
    refine ⟨PEc (pe_one (ih e).v) fun r => by simp only [List.map_cons, List.map_nil, evOr], PWc (pw_or1 (ih e).t) fun r => by simp only [List.map_cons, List.map_nil, evOr]⟩
  | e, e2 :: es => by
    obtain ⟨h1, h2⟩ := ors ih e2 es
    have eq : ∀ r, evOr P cl ((e :: e2 :: es).map f) r = orF (evE P cl (f e)) (evOr P cl ((e2 :: es).map f)) r := fun r => by simp only [List.map_cons, evOr, orF]
    exact ⟨PEc (se_or (ih e).v h1) eq, PWc (st_or (ih e).t h2) fun r => by rw [eq]; exact tru_or _ _ r⟩
end
end Pv
namespace Pv
open PySem PySem.Spec PyProof.Rows L2
theorem sS_back (s : Str) : sS s.cps.toList = s := by
  unfold sS
  simp
theorem XOk.blk {T : Tab} {P : Sys} {cl : CL} {n0 : Nat} {X : Cx} (h : XOk T P cl n0 X) (s : Shared) (H : Hp) (scope : Scope) (cenv : PySem.Env) (fp : List Addr) : XOk T P cl n0 (X.blk s H scope cenv fp) :=
  ⟨h.N, h.nd, h.calm, h.un, h.gd, h.rm, h.bl, h.gl, h.fn, h.rp, h.inS, h.cnt⟩
section
variable {T : Tab} {P : Sys} {cl : CL} {n0 : Nat} {X : Cx} {pos p : Pos} {e a b c : Expr} {es : List Expr} {f : Expr → ME}
theorem snd_const (hX : XOk T P cl n0 X) (n : Nat) (k : Const) (j : Nat) : Snd X P cl (.Constant k j pos) (cE T (n + 1) X.env.scope (.Constant k j pos)) := by
  cases k with
  | int i => exact Snd.val (se_const (d := .int i) pe_int (fun H W => int_rp _) (fun r => by simp only [cE, evE])) fun _ => rfl
  | str s => exact Snd.val (se_const (d := .str s.cps.toList) pe_str (fun H W => by simp only [Rp, sS_back]) (fun r => by simp only [cE, evE])) fun _ => rfl
  | bool b => exact Snd.val (se_const (d := .bl b) pe_bl (fun H W => bl_rp _) (fun r => by simp only [cE, evE])) fun _ => rfl
  | none => exact Snd.val (se_const (d := .non) pe_non (fun H W => by simp only [Rp]) (fun r => by simp only [cE, evE])) fun _ => rfl
  | _ => exact Snd.bad
theorem snd_name (hX : XOk T P cl n0 X) (x : Str) : Snd X P cl (.Name x pos) (if plainNm x then
        (if visB X.env.scope x then (match vix T.N x with | some i => .v i | none => bad)
         else if glB X.env.scope x then (match T.gl.lookup x with | some d => .g 0 d | none => bad) else bad)
      else bad) := by
  by_cases hp : plainNm x = true
  · rw [if_pos hp]
    obtain ⟨d1, d2, d3⟩ := plainNm_ok hp
    by_cases hv : visB X.env.scope x = true
    · rw [if_pos hv]
      cases e1 : vix T.N x with
      | none => exact Snd.bad
      | some i => exact Snd.val (se_var (by rw [hX.N]; exact vix_ok e1) (visB_ok hv) d1 d2 P cl) fun _ => rfl
    · rw [if_neg hv]
      by_cases hg : glB X.env.scope x = true
      · rw [if_pos hg]
        cases e1 : T.gl.lookup x with
        | none => exact Snd.bad
        | some d =>
          obtain ⟨v, u, hm, r, rp⟩ := hX.gl x d e1
          exact Snd.val (se_const (d := d) (pe_glob (glB_ok hg) hm r d1) rp fun r => by simp only [evE]) fun _ => rfl
      · rw [if_neg hg]
        exact Snd.bad
  · rw [if_neg hp]
    exact Snd.bad
theorem sz1000 {n : Nat} (h : n ≤ 1000) : n ≤ sizeLine := by
  have := lim_line
  unfold LIM at this
  omega
theorem snd_tup (ih : ∀ e, Snd X P cl e (f e)) {kk : Nat} : Snd X P cl (.Tuple es kk pos) (if es.all notStar && decide (es.length ≤ 1000) then .tup (es.map f) else bad) := by
  split
  · rename_i h
    simp only [Bool.and_eq_true, decide_eq_true_eq] at h
    refine Snd.val (PEc (se_tup (pf_map ih es h.1) fun r ds r' e => ?_) fun r => by simp only [evE]) fun _ => rfl
    rw [evF_len _ _ _ _ e, List.length_map]
    exact sz1000 h.2
  · exact Snd.bad
theorem snd_lst (ih : ∀ e, Snd X P cl e (f e)) : Snd X P cl (.List es pos) (if es.all notStar && decide (es.length ≤ 1000) then .lst (es.map f) else bad) := by
  split
  · rename_i h
    simp only [Bool.and_eq_true, decide_eq_true_eq] at h
    refine Snd.val (PEc (se_lst (pf_map ih es h.1) fun r ds r' e => ?_) fun r => by simp only [evE]) fun _ => rfl
    rw [evF_len _ _ _ _ e, List.length_map]
    exact sz1000 h.2
  · exact Snd.bad
theorem tru_bl {x : Res Bool} : (tru (x.bind fun b r1 => .ok (.bl b, false) r1)) = x := by
  unfold tru
  cases x with
  | no => rfl
  | exc _ _ => rfl
  | ok b r => rfl
theorem snd_cmp (hX : XOk T P cl n0 X) (ih : ∀ e, Snd X P cl e (f e)) {op : CmpOp} : Snd X P cl (.Compare a [op] [b] pos) (match cmC op with | some o => if behindInMarks op b then bad else .cmp o (f a) (f b) | none => bad) := by
  cases e1 : cmC op with
  | none => exact Snd.bad
  | some o =>
    dsimp only
    split
    · exact Snd.bad
    · rename_i hm
      have hm' : behindInMarks op b = false := by simpa using hm
      rw [cmC_ok e1] at hm' ⊢
      refine ⟨PEc (se_cmp hX.un o (ih a).v (ih b).v hm') fun r => by simp only [evE, hX.inS], PTc (st_cmp hX.un o (ih a).v (ih b).v hm') fun r => ?_⟩
      simp only [evE, hX.inS]
      unfold tru
      cases evE P cl (f a) r with
      | no => rfl
      | exc _ _ => rfl
      | ok x r1 =>
        simp only [Res.bind_ok]
        cases evE P cl (f b) r1 with
        | no => rfl
        | exc _ _ => rfl
        | ok y r2 =>
          simp only [Res.bind_ok]
          cases rd r2 x.1 with
          | none => rfl
          | some x' =>
            simp only [opt_some]
            cases rd r2 y.1 with
            | none => rfl
            | some y' =>
              simp only [opt_some]
              cases cmpD inStr o x' y' with
              | none => rfl
              | some z => rfl
theorem snd_cmp2 (hX : XOk T P cl n0 X) (ih : ∀ e, Snd X P cl e (f e)) {op op2 : CmpOp} : Snd X P cl (.Compare a [op, op2] [b, c] pos)
    (match cmC op, cmC op2 with | some o, some p => if lastMarks [op, op2] [b, c] then bad else .cmp2 o p (f a) (f b) (f c) | _, _ => bad) := by
  cases e1 : cmC op with
  | none => exact Snd.bad
  | some o =>
    cases e2 : cmC op2 with
    | none => exact Snd.bad
    | some p =>
      dsimp only
      split
      · exact Snd.bad
      · rename_i hm
        have hm' : lastMarks [op, op2] [b, c] = false := by simpa using hm
        rw [cmC_ok e1, cmC_ok e2] at hm' ⊢
        have eq : ∀ r, evE P cl (.cmp2 o p (f a) (f b) (f c)) r = cmp2F o p (evE P cl (f a)) (evE P cl (f b)) (evE P cl (f c)) r := fun r => by simp only [evE, hX.inS, cmp2F]
        exact ⟨PEc (se_cmp2 hX.un o p (ih a).v (ih b).v (ih c).v hm') eq, PTc (st_cmp2 hX.un o p (ih a).v (ih b).v (ih c).v hm') fun r => by rw [eq]⟩
theorem snd_ife (ih : ∀ e, Snd X P cl e (f e)) : Snd X P cl (.IfExp c a b pos) (.ife (f c) (f a) (f b)) := by
  refine ⟨PEc (se_ife (ih c).t (ih a).v (ih b).v) fun r => by simp only [evE], PTc (st_ife (ih c).t (ih a).t (ih b).t) fun r => ?_⟩
  simp only [evE]
  cases tru (evE P cl (f c) r) with
  | no => rfl
  | exc _ _ => rfl
  | ok k r1 => cases k <;> rfl
theorem snd_not (ih : ∀ e, Snd X P cl e (f e)) : Snd X P cl (.UnaryOp .Not a pos) (.not (f a)) := by
  refine ⟨PEc (se_not (ih a).v) fun r => by simp only [evE], PTc (st_not (ih a).t) fun r => ?_⟩
  simp only [evE]
  cases tru (evE P cl (f a) r) with
  | no => rfl
  | exc _ _ => rfl
  | ok k r1 => rfl
theorem snd_slice (ih : ∀ e, Snd X P cl e (f e)) {lo hi : Option Expr} {p2 : Pos} : Snd X P cl (.Subscript a (.Slice lo hi none p2) pos) (.sl (f a) (lo.map f) (hi.map f)) := by
  have part : ∀ o : Option Expr, PO X o (rdO X.K (evO P cl (o.map f))) := fun o => by
    cases o with
    | none => exact POc so_none fun r => by simp only [Option.map_none, evO]
    | some e => exact POc (so_some (ih e).v) fun r => by simp only [Option.map_some, evO]; try rfl
  exact Snd.val (PEc (se_sl (ih a).v (part lo) (part hi)) fun r => by simp only [evE]) fun _ => rfl
/-- a def called -/
theorem snd_call (hX : XOk T P cl n0 X) (ih : ∀ e, Snd X P cl e (f e)) {x : Str} {kws : List Keyword} {g : Nat} (h1 : glB X.env.scope x = true) (h2 : plainNm x = true) (h3 : es.all notStar = true) (hf : T.fn.lookup x = some g) :
    Snd X P cl (.Call (.Name x p) es kws pos) (match T.pt.find? (fun pt => pt.f == g && pt.n == es.length && decide (pt.ks = kws.filterMap (·.arg)) && pt.ks.length == kws.length && kws.all (·.arg.isSome)) with
             | some pt => .call g ((es ++ kws.map (·.value)).map f) pt.ix pt.ds
             | none => bad) := by
  cases e1 : T.pt.find? (fun pt => pt.f == g && pt.n == es.length && decide (pt.ks = kws.filterMap (·.arg)) && pt.ks.length == kws.length && kws.all (·.arg.isSome)) with
  | none => exact Snd.bad
  | some pt =>
    dsimp only
    have hm := List.mem_of_find?_eq_some e1
    have hc := List.find?_some e1
    simp only [Bool.and_eq_true, beq_iff_eq, decide_eq_true_eq] at hc
    obtain ⟨⟨⟨⟨c1, c2⟩, c3⟩, c4⟩, c5⟩ := hc
    obtain ⟨fa, fd, ps, F, m1, m2, m3, m4, m5, m6⟩ := hX.fn x g hf
    obtain ⟨d1, d2, d3⟩ := plainNm_ok h2
    subst c1
    refine Snd.val (PEc (se_call (F := F) pt m6 hX.rm hX.gd (glB_ok h1) m1 m2 m3 m4 (m5 pt hm rfl) c2.symm c3.symm c4.symm c5 (pka_map (k := fkeep P pt.f) ih es (pt.ix.take es.length) h3) (pkk_map (k := fkeep P pt.f) ih kws (pt.ix.drop es.length)) d1 h3 ?_ ?_ ?_) fun r => ?_) fun _ => rfl
    · intro e r
      subst e
      cases pt.ix <;> simp only [List.map_nil, evA, List.take_nil, List.length_nil, List.take_zero]
    · intro r as r' e
      rw [evA_len _ _ _ _ _ e, List.length_map]
    · intro r as r' e
      rw [evA_len _ _ _ _ _ e, List.length_map, List.length_map]
    · simp only [evE, List.map_append]
      rw [evA_app, List.length_map]
/-- a built-in called -/
theorem snd_bi (hX : XOk T P cl n0 X) (ih : ∀ e, Snd X P cl e (f e)) {x : Str} (h1 : glB X.env.scope x = true) (h2 : plainNm x = true) (h3 : es.all notStar = true) (hb : T.bl.contains x = true) :
    Snd X P cl (.Call (.Name x p) es [] pos) (match biC x es.length with | some b => .bi b (es.map f) | none => bad) := by
  cases e1 : biC x es.length with
  | none => exact Snd.bad
  | some b =>
    dsimp only
    obtain ⟨d1, d2, d3⟩ := plainNm_ok h2
    cases es with
    | nil =>
      exfalso
      obtain ⟨t, e2, _⟩ := Option.map_eq_some_iff.mp e1
      have hm := List.mem_of_find?_eq_some e2
      have hc := List.find?_some e2
      simp only [Bool.and_eq_true, beq_iff_eq, List.length_nil] at hc
      have h0 : biT.all (fun t => t.2.1 != 0) = true := by decide
      have h4 := List.all_eq_true.mp h0 t hm
      rw [hc.2] at h4
      cases h4
    | cons e es =>
      rcases biC_ok (X := X) (P := P) hX.calm hX.un hX.gd hX.rp e1 with ⟨id, hc, hv⟩ | ⟨id, hc, hv⟩
      · exact Snd.val (PEc (se_biB hc (glB_ok h1) (hX.bl x hb) hv (pa_map ih (e :: es) h3) d3 d1 h3) fun r => by simp only [evE]) fun _ => rfl
      · exact Snd.val (PEc (se_biT hc (glB_ok h1) (hX.bl x hb) hv (pa_map ih (e :: es) h3) d3 d1 h3) fun r => by simp only [evE]) fun _ => rfl
theorem evL_len {P : Sys} {cl : CL} : ∀ (ms : List ME) (r : Env) (ds : List (D × Bool)) (r' : Env), evL P cl ms r = .ok ds r' → ds.length = ms.length
  | [], r, ds, r', e => by simp only [evL] at e; cases e; rfl
  | m :: ms, r, ds, r', e => by
    simp only [evL] at e
    obtain ⟨x, r1, e1, e⟩ := Res.bind_ok_iff.mp e
    obtain ⟨xs, r2, e2, e⟩ := Res.bind_ok_iff.mp e
    cases e
    rw [List.length_cons, List.length_cons, evL_len ms _ _ _ e2]
theorem snd_reprl (hX : XOk T P cl n0 X) (ih : ∀ e, Snd X P cl e (f e)) {x : Str} {lp : Pos} (hx : x = ("repr" : Str)) (h1 : glB X.env.scope x = true) (h2 : plainNm x = true) (hb : T.bl.contains x = true) (h4 : es.all notStar = true) (h5 : es.length ≤ 1000) :
    Snd X P cl (.Call (.Name x p) [.List es lp] [] pos) (.bi .reprl (es.map f)) := by
  obtain ⟨d1, d2, d3⟩ := plainNm_ok h2
  have hv : bootBuiltins x = some (.builtin "repr") := by rw [hx]; exact boot_repr
  exact Snd.val (PEc (se_reprl (by have := hX.un; omega) hX.gd hX.rp (glB_ok h1) (hX.bl x hb) hv (pa_map ih es h4) (fun r ds r' e => by rw [evL_len _ _ _ _ e, List.length_map]; exact sz1000 h5) d3 d1) fun r => by simp only [evE]) fun _ => rfl
theorem snd_biE (hX : XOk T P cl n0 X) (ih : ∀ e, Snd X P cl e (f e)) {x : Str} (h1 : glB X.env.scope x = true) (h2 : plainNm x = true) (h3 : es.all notStar = true) (hb : T.bl.contains x = true) :
    Snd X P cl (.Call (.Name x p) es [] pos) (biE x es f) := by
  have gen := snd_bi (p := p) (pos := pos) hX ih h1 h2 h3 hb
  cases es with
  | nil => exact gen
  | cons e tl =>
    cases tl with
    | cons _ _ => cases e <;> exact gen
    | nil =>
      cases e with
      | List fs lp =>
        show Snd X P cl _ (if x = ("repr" : Str) then (if fs.all notStar && decide (fs.length ≤ 1000) then .bi .reprl (fs.map f) else bad) else (match biC x 1 with | some b => .bi b [f (.List fs lp)] | none => bad))
        by_cases hx : x = ("repr" : Str)
        · rw [if_pos hx]
          split
          · rename_i hc
            simp only [Bool.and_eq_true, decide_eq_true_eq] at hc
            exact snd_reprl hX ih hx h1 h2 hb hc.1 hc.2
          · exact Snd.bad
        · rw [if_neg hx]
          exact gen
      | _ => exact gen
theorem snd_isi1 (hX : XOk T P cl n0 X) (ih : ∀ e, Snd X P cl e (f e)) {x : Str} (hx : x = ("isinstance" : Str)) (h1 : glB X.env.scope x = true) (h2 : plainNm x = true) (h3 : notStar a = true) (hb : T.bl.contains x = true) {t : Expr} {ty : Ty} (ht : tyC T X.env.scope t = some ty) :
    Snd X P cl (.Call (.Name x p) [a, t] [] pos) (.isi (f a) [ty]) := by
  obtain ⟨d1, d2, d3⟩ := plainNm_ok h2
  obtain ⟨y, p2, rfl, g1, g2, g3, g4, g5⟩ := tyC_ok ht
  obtain ⟨e1, e2, e3⟩ := plainNm_ok g2
  have hv : bootBuiltins x = some (.builtin "isinstance") := by rw [hx]; exact boot_isinstance
  exact Snd.val (PEc (se_isi1 ty g4 hx (glB_ok h1) (hX.bl x hb) hv d3 d1 (ih a).v h3 (glB_ok g1) (hX.bl y g3) g5 e3 e1) fun r => by simp only [evE, isiF]) fun _ => rfl
theorem snd_isiT (hX : XOk T P cl n0 X) (ih : ∀ e, Snd X P cl e (f e)) {x : Str} (hx : x = ("isinstance" : Str)) (h1 : glB X.env.scope x = true) (h2 : plainNm x = true) (h3 : notStar a = true) (hb : T.bl.contains x = true) {ts : List Expr} {kk : Nat} {p2 : Pos} {tys : List Ty} (ht : allSome (tyC T X.env.scope) ts = some tys) (hl : ts.length ≤ 1000) :
    Snd X P cl (.Call (.Name x p) [a, .Tuple ts kk p2] [] pos) (.isi (f a) tys) := by
  obtain ⟨d1, d2, d3⟩ := plainNm_ok h2
  have hv : bootBuiltins x = some (.builtin "isinstance") := by rw [hx]; exact boot_isinstance
  obtain ⟨l1, l2⟩ := allSome_get ht
  have each : ∀ (i : Nat) (t : Ty) (e : Expr), tys[i]? = some t → ts[i]? = some e → PE X e (tC (.ty t.name)) ∧ notStar e = true ∧ t.blt = true := fun i t e h5 h6 => by
    obtain ⟨y, p2, rfl, g1, g2, g3, g4, g5⟩ := tyC_ok (l2 i e t h6 h5)
    obtain ⟨e1, e2, e3⟩ := plainNm_ok g2
    exact ⟨pe_bltn (glB_ok g1) (hX.bl y g3) g5 rfl e3 e1, rfl, g4⟩
  have hts : ∀ t ∈ tys, t.blt = true := fun t ht => by
    obtain ⟨i, hi⟩ := List.getElem?_of_mem ht
    have hlt : i < ts.length := by rw [← l1]; exact getO hi
    exact (each i t _ hi (List.getElem?_eq_getElem hlt)).2.2
  exact Snd.val (PEc (se_isiT tys hts hx (glB_ok h1) (hX.bl x hb) hv d3 d1 (ih a).v h3 (pa_types tys ts l1.symm fun i t e h5 h6 => ⟨(each i t e h5 h6).1, (each i t e h5 h6).2.1⟩) (by rw [l1]; exact sz1000 hl)) fun r => by simp only [evE, isiF]) fun _ => rfl
theorem snd_mt (hX : XOk T P cl n0 X) (ih : ∀ e, Snd X P cl e (f e)) {name : Str} {apos : Pos} (h3 : es.all notStar = true) (hline : (apos.endLine == pos.line) = true) :
    Snd X P cl (.Call (.Attribute a name apos) es [] pos) (match mtC name with | some m => if notCall0 a && decide (0 < es.length) && decide (es.length < 30) then .mt m (f a) (es.map f) else bad | none => bad) := by
  cases e1 : mtC name with
  | none => exact Snd.bad
  | some m =>
    dsimp only
    split
    · rename_i hc
      simp only [Bool.and_eq_true, decide_eq_true_eq] at hc
      cases es with
      | nil => exact absurd hc.1.2 (Nat.lt_irrefl 0)
      | cons e es =>
        have pa := pa_map (P := P) (cl := cl) ih (e :: es) h3
        unfold mtC at e1
        split at e1
        · rename_i he
          cases e1
          subst he
          exact Snd.val (PEc (se_mt (.inl ⟨rfl, rfl⟩) PySem.F.plainAttrs_str PySem.F.slot_str_join PySem.F.type_str_join (mtv_join P) mtk_join (ih a).v pa hc.1.1 h3 hc.2 hline) fun r => by simp only [evE, mtF]) fun _ => rfl
        · split at e1
          · rename_i he
            cases e1
            subst he
            exact Snd.val (PEc (se_mt (.inl ⟨rfl, rfl⟩) PySem.F.plainAttrs_str PySem.F.slot_str_startswith PySem.F.type_str_startswith (mtv_startswith P) mtk_startswith (ih a).v pa hc.1.1 h3 hc.2 hline) fun r => by simp only [evE, mtF]) fun _ => rfl
          · split at e1
            · rename_i he
              cases e1
              subst he
              exact Snd.val (PEc (se_mt (.inl ⟨rfl, rfl⟩) PySem.F.plainAttrs_str PySem.F.slot_str_endswith PySem.F.type_str_endswith (mtv_endswith P) mtk_endswith (ih a).v pa hc.1.1 h3 hc.2 hline) fun r => by simp only [evE, mtF]) fun _ => rfl
            · split at e1
              · rename_i he
                cases e1
                subst he
                exact Snd.val (PEc (se_mt (.inl ⟨rfl, rfl⟩) PySem.F.plainAttrs_str PySem.F.slot_str_count PySem.F.type_str_count (mtv_count P hX.cnt) mtk_count (ih a).v pa hc.1.1 h3 hc.2 hline) fun r => by simp only [evE, mtF]) fun _ => rfl
              · cases e1
    · exact Snd.bad
theorem snd_dic {ks : List (Option Expr)} {vs : List Expr} : Snd X P cl (.Dict ks vs pos) (if ks.isEmpty && vs.isEmpty then .dic [] [] else bad) := by
  cases ks with
  | cons _ _ => exact Snd.bad
  | nil =>
    cases vs with
    | cons _ _ => exact Snd.bad
    | nil =>
      refine Snd.val (pe_dnewK.imp fun σ H Q h => ?_) fun _ => rfl
      obtain ⟨O, B, r, z, r', h0, e, q⟩ := h
      have e' : evE P cl (.dic [] []) r = .ok z r' := e
      simp only [evE, List.isEmpty_nil, Bool.and_self, if_true] at e'
      cases e'
      intro p hp
      obtain ⟨O', t, vr⟩ := (Tr.refl h0).fin (z := (.dic [] [], true)) h0 (.inr (.inr ⟨rfl, p, .dK [], hp, rfl, rfl, rfl, .nil⟩))
      exact q _ _ _ _ t vr
theorem snd_neg (ih : ∀ e, Snd X P cl e (f e)) : Snd X P cl (.UnaryOp .USub a pos) (.neg (f a)) := Snd.val (PEc (se_neg (ih a).v) fun r => by simp only [evE]; try rfl) fun _ => rfl
theorem snd_bin (hX : XOk T P cl n0 X) (ih : ∀ e, Snd X P cl e (f e)) {op : Operator} : Snd X P cl (.BinOp a op b pos) (match opC op with | some o => .bin o (f a) (f b) | none => bad) := by
  cases e1 : opC op with
  | none => exact Snd.bad
  | some o =>
    rw [opC_ok e1]
    have := hX.un
    exact Snd.val (PEc (se_bin (by omega) o (ih a).v (ih b).v) fun r => by simp only [evE]) fun _ => rfl
theorem snd_ix (ih : ∀ e, Snd X P cl e (f e)) : Snd X P cl (.Subscript a b pos) (if notSlice b then .ix (f a) (f b) else bad) := by
  split
  · rename_i h
    exact Snd.val (PEc (se_ix (ih a).v (ih b).v h) fun r => by simp only [evE]) fun _ => rfl
  · exact Snd.bad
theorem snd_bool (ih : ∀ e, Snd X P cl e (f e)) {op : BoolOp} : Snd X P cl (.BoolOp op es pos) (if es.isEmpty then bad else (match op with | .And => .and (es.map f) | .Or => .or (es.map f))) := by
  cases es with
  | nil => exact Snd.bad
  | cons e es =>
    cases op with
    | And =>
      obtain ⟨h1, h2⟩ := ands (pos := pos) ih e es
      show Snd X P cl _ (.and ((e :: es).map f))
      exact ⟨PEc h1 fun r => by simp only [evE], PTc h2.pt fun r => by simp only [evE]⟩
    | Or =>
      obtain ⟨h1, h2⟩ := ors (pos := pos) ih e es
      show Snd X P cl _ (.or ((e :: es).map f))
      exact ⟨PEc h1 fun r => by simp only [evE], PTc h2.pt fun r => by simp only [evE]⟩
theorem snd_mu (hX : XOk T P cl n0 X) (ih : ∀ e, Snd X P cl e (f e)) {x name : Str} {apos p2 : Pos} {m : Mu} (h3 : es.all notStar = true) (hline : (apos.endLine == pos.line) = true) (hm : mulC name es.length = some m) :
    Snd X P cl (.Call (.Attribute (.Name x p2) name apos) es [] pos) (if plainNm x && visB X.env.scope x then (match vix T.N x with | some i => .mu m i (es.map f) | none => bad) else bad) := by
  split
  · rename_i hc
    simp only [Bool.and_eq_true] at hc
    obtain ⟨d1, d2, d3⟩ := plainNm_ok hc.1
    have hv := visB_ok hc.2
    cases e1 : vix T.N x with
    | none => exact Snd.bad
    | some i =>
      have hN : X.N[i]? = some x := by rw [hX.N]; exact vix_ok e1
      dsimp only
      unfold mulC at hm
      split at hm
      · rename_i he
        simp only [Bool.and_eq_true, decide_eq_true_eq, beq_iff_eq] at he
        cases hm
        obtain ⟨rfl, hl⟩ := he
        match es, hl, h3 with
        | [b], _, h3 =>
          have n := h3
          simp only [List.all_cons, List.all_nil, Bool.and_true] at n
          exact Snd.val (PEc (se_append hN hv d1 d2 (pf_map ih [b] h3) n hline) fun r => by simp only [evE]) fun _ => rfl
      · split at hm
        · rename_i he
          simp only [Bool.and_eq_true, decide_eq_true_eq, beq_iff_eq] at he
          cases hm
          obtain ⟨rfl, hl⟩ := he
          match es, hl, h3 with
          | [b], _, h3 =>
            have n := h3
            simp only [List.all_cons, List.all_nil, Bool.and_true] at n
            exact Snd.val (PEc (se_extend hN hv d1 d2 (pa_map ih [b] h3) n hline) fun r => by simp only [evE]) fun _ => rfl
        · split at hm
          · rename_i he
            simp only [Bool.and_eq_true, decide_eq_true_eq, beq_iff_eq] at he
            cases hm
            obtain ⟨rfl, hl⟩ := he
            match es, hl with
            | [], _ =>
              refine Snd.val (PEc (se_pop hN hv d1 d2 hline) fun r => ?_) fun _ => rfl
              simp only [evE, List.map_nil, evL, Res.bind_ok, rdAll, opt_some]
          · cases hm
  · exact Snd.bad
/-- what is walked -/
theorem wk_ok (hX : XOk T P cl n0 X) (ih : ∀ e, Snd X P cl e (f e)) (tg iter : Expr) : PI X tg iter (rdW X.K (wkC T X.env.scope tg iter).1 (evL P cl ((wkC T X.env.scope tg iter).2.map f))) := by
  have conv : ∀ {w : Wk} {F G : Env → Res (List (D × Bool))}, PI X tg iter (rdW X.K w F) → (∀ r, G r = F r) → PI X tg iter (rdW X.K w G) := fun {w F G} h g => by
    rw [show G = F from funext g]; exact h
  have seq : PI X tg iter (rdW X.K .seq (evL P cl ([iter].map f))) := conv (sw_seq (ih iter).v) fun r => by simp only [List.map_cons, List.map_nil, evL, oneF]
  unfold wkC
  split
  · rename_i x p args pos
    split
    · rename_i hc
      simp only [Bool.and_eq_true] at hc
      obtain ⟨⟨g1, g2⟩, g3⟩ := hc
      have hg := glB_ok g1
      have hm := hX.bl x g2
      split
      · rename_i he
        simp only [Bool.and_eq_true, decide_eq_true_eq, Bool.or_eq_true, beq_iff_eq] at he
        obtain ⟨hx, hl⟩ := he
        match args, hl, g3 with
        | [a], _, g3 =>
          simp only [List.all_cons, List.all_nil, Bool.and_true] at g3
          exact conv (sw_range1 hx hg hm (ih a).v g3) fun r => by simp only [List.map_cons, List.map_nil, evL, oneF]
        | [a, b], _, g3 =>
          simp only [List.all_cons, List.all_nil, Bool.and_true, Bool.and_eq_true] at g3
          exact conv (sw_range2 hx hg hm (ih a).v (ih b).v g3.1 g3.2) fun r => by simp only [List.map_cons, List.map_nil, evL, oneF, twoF]
        | [], hl, _ => simp at hl
        | _ :: _ :: _ :: _, hl, _ => simp at hl
      · split
        · rename_i he
          simp only [Bool.and_eq_true, decide_eq_true_eq, beq_iff_eq] at he
          obtain ⟨⟨hx, hl⟩, ht⟩ := he
          match args, hl, g3 with
          | [a], _, g3 =>
            simp only [List.all_cons, List.all_nil, Bool.and_true] at g3
            cases tg <;> first
              | (cases ht; done)
              | exact conv (sw_enum hx hg hm (ih a).v g3) fun r => by simp only [List.map_cons, List.map_nil, evL, oneF]
        · split
          · rename_i he
            simp only [Bool.and_eq_true, decide_eq_true_eq, beq_iff_eq] at he
            obtain ⟨⟨hx, hl⟩, ht⟩ := he
            match args, hl, g3 with
            | [a, b], _, g3 =>
              simp only [List.all_cons, List.all_nil, Bool.and_true, Bool.and_eq_true] at g3
              cases tg <;> first
                | (cases ht; done)
                | exact conv (sw_zip hx hg hm (ih a).v (ih b).v g3.1 g3.2) fun r => by simp only [List.map_cons, List.map_nil, evL, oneF, twoF]
          · exact seq
    · exact seq
  · exact seq
theorem snd_callN (hX : XOk T P cl n0 X) (ih : ∀ e, Snd X P cl e (f e)) {x : Str} {kws : List Keyword} : Snd X P cl (.Call (.Name x p) es kws pos) (if glB X.env.scope x && plainNm x && es.all notStar then
          match T.fn.lookup x with
          | some g =>
            (match T.pt.find? (fun pt => pt.f == g && pt.n == es.length && decide (pt.ks = kws.filterMap (·.arg)) && pt.ks.length == kws.length && kws.all (·.arg.isSome)) with
             | some pt => .call g ((es ++ kws.map (·.value)).map f) pt.ix pt.ds
             | none => bad)
          | none =>
            if T.bl.contains x && kws.isEmpty then
              (if x = ("isinstance" : Str) then
                (match es with
                 | [a, t] =>
                   (match t with
                    | .Tuple ts _ _ => if decide (ts.length ≤ 1000) then (match allSome (tyC T X.env.scope) ts with | some tys => .isi (f a) tys | none => bad) else bad
                    | t => (match tyC T X.env.scope t with | some ty => .isi (f a) [ty] | none => bad))
                 | _ => bad)
               else biE x es f)
            else bad
        else bad) := by
  by_cases h : (glB X.env.scope x && plainNm x && es.all notStar) = true
  · rw [if_pos h]
    simp only [Bool.and_eq_true] at h
    obtain ⟨⟨h1, h2⟩, h3⟩ := h
    cases e1 : T.fn.lookup x with
    | some g => exact snd_call hX ih h1 h2 h3 e1
    | none =>
      dsimp only
      by_cases hb : (T.bl.contains x && kws.isEmpty) = true
      · rw [if_pos hb]
        simp only [Bool.and_eq_true] at hb
        cases kws with
        | cons _ _ => cases hb.2
        | nil =>
          by_cases hx : x = ("isinstance" : Str)
          · rw [if_pos hx]
            match es, h3 with
            | [], _ => exact Snd.bad
            | [_], _ => exact Snd.bad
            | _ :: _ :: _ :: _, _ => exact Snd.bad
            | [a, t], h3 =>
              simp only [List.all_cons, Bool.and_eq_true] at h3
              have one : ∀ t : Expr, Snd X P cl (.Call (.Name x p) [a, t] [] pos) (match tyC T X.env.scope t with | some ty => .isi (f a) [ty] | none => bad) := fun t => by
                cases e2 : tyC T X.env.scope t with
                | none => exact Snd.bad
                | some ty => exact snd_isi1 hX ih hx h1 h2 h3.1 hb.1 e2
              cases t with
              | Tuple ts kk p2 =>
                dsimp only
                split
                · rename_i hl
                  simp only [decide_eq_true_eq] at hl
                  cases e2 : allSome (tyC T X.env.scope) ts with
                  | none => exact Snd.bad
                  | some tys => exact snd_isiT hX ih hx h1 h2 h3.1 hb.1 e2 hl
                · exact Snd.bad
              | _ => exact one _
          · rw [if_neg hx]
            exact snd_biE hX ih h1 h2 h3 hb.1
      · rw [if_neg hb]
        exact Snd.bad
  · rw [if_neg h]
    exact Snd.bad
theorem snd_callA (hX : XOk T P cl n0 X) (ih : ∀ e, Snd X P cl e (f e)) {o : Expr} {name : Str} {apos : Pos} {kws : List Keyword} : Snd X P cl (.Call (.Attribute o name apos) es kws pos) (if es.all notStar && kws.isEmpty && apos.endLine == pos.line then
          (match o, mulC name es.length with
           | .Name x _, some m => if plainNm x && visB X.env.scope x then (match vix T.N x with | some i => .mu m i (es.map f) | none => bad) else bad
           | o, _ => (match mtC name with | some m => if notCall0 o && decide (0 < es.length) && decide (es.length < 30) then .mt m (f o) (es.map f) else bad | none => bad))
        else bad) := by
  by_cases h : (es.all notStar && kws.isEmpty && apos.endLine == pos.line) = true
  · rw [if_pos h]
    simp only [Bool.and_eq_true] at h
    obtain ⟨⟨h1, h2⟩, h3⟩ := h
    cases kws with
    | cons _ _ => cases h2
    | nil =>
      cases e1 : mulC name es.length with
      | none => cases o <;> exact snd_mt hX ih h1 h3
      | some m =>
        cases o with
        | Name x p2 => exact snd_mu hX ih h1 h3 e1
        | _ => exact snd_mt hX ih h1 h3
  · rw [if_neg h]
    exact Snd.bad
def lcOk (T : Tab) (sc : Scope) (tg iter : Expr) (ifs : List Expr) (k : Int) (scope : Scope) (t : Tg) : Bool :=
  k == 0 && blkC T.N sc scope (ownC T.N tg) && notSet iter && decide (ifs.length ≤ 1) && (tgIx t).all (fun i => ((ownC T.N tg).map (·.2)).contains i)
/-- what a comprehension's rule asks for -/
structure LcP (X : Cx) (P : Sys) (cl : CL) (T : Tab) (n : Nat) (tg iter elt : Expr) (ifs : List Expr) (k : Int) (scope : Scope) (t : Tg) : Prop where
  k : k = 0
  bo : BlkOk X.N X.env.scope scope (ownC T.N tg)
  pi : PI X tg iter (rdW X.K (wkC T X.env.scope tg iter).1 (evL P cl ((wkC T X.env.scope tg iter).2.map (cE T n X.env.scope))))
  hg : ∀ (s : Shared) (H : Hp) (C : Addr) (cl' : List (Str × Addr)) (fp : List Addr), PG (X.blk s H scope (compEnvC scope cl' C X.env) fp) tg (gOf X.K t)
  hif : ∀ (s : Shared) (H : Hp) (C : Addr) (cl' : List (Str × Addr)) (fp : List Addr), PTs (X.blk s H scope (compEnvC scope cl' C X.env) fp) ifs (rdT X.K (evI P cl (ifs.map (cE T n (relS scope X.env.scope)))))
  he : ∀ (s : Shared) (H : Hp) (C : Addr) (cl' : List (Str × Addr)) (fp : List Addr), PE (X.blk s H scope (compEnvC scope cl' C X.env) fp) elt (rdE X.K (evE P cl (cE T n (relS scope X.env.scope) elt)))
  hs : ∀ x, foldedSetIterable iter X.env x = pure x
  ht : ∀ i ∈ tgIx t, i ∈ (ownC T.N tg).map (·.2)
theorem lc_parts {n : Nat} (ihn : ∀ (X : Cx), XOk T P cl n0 X → ∀ e, Snd X P cl e (cE T n X.env.scope e)) (hX : XOk T P cl n0 X) {elt tg iter : Expr} {ifs : List Expr} {k : Int} {scope : Scope} {t : Tg}
    (e1 : tgC T.N (relS scope X.env.scope) (lccB scope (relS scope X.env.scope)) tg = some t) (hc : lcOk T X.env.scope tg iter ifs k scope t = true) : LcP X P cl T n tg iter elt ifs k scope t := by
  unfold lcOk at hc
  simp only [Bool.and_eq_true, beq_iff_eq, decide_eq_true_eq, List.all_eq_true] at hc
  obtain ⟨⟨⟨⟨h0, hb⟩, hs⟩, hl⟩, ht⟩ := hc
  refine ⟨h0, by rw [hX.N]; exact blkOk_by hb, wk_ok hX (ihn X hX) tg iter, fun s H C cl' fp => ?_, fun s H C cl' fp => ?_, fun s H C cl' fp => ?_, folded_ok hs, fun i hi => List.contains_iff_mem.mp (ht i hi)⟩
  · exact tgC_ok (X := X.blk s H scope (compEnvC scope cl' C X.env) fp) (N := T.N) hX.calm hX.N hX.nd (fun x hx => by
      unfold lccB at hx
      simp only [Bool.or_eq_true, Bool.and_eq_true, decide_eq_true_eq] at hx
      rcases hx with hx | ⟨hx, hy⟩
      · exact ⟨.inl (lcB_ok hx), .inr (lcB_ok hx)⟩
      · exact ⟨locB_ok hy, .inl (by show (scope.names.lookup x == some .cell) = true; rw [hx]; rfl)⟩) e1
  · match ifs, hl with
    | [], _ =>
      refine ⟨fun pins st σ H' Q I q => pts_nil.run pins st σ H' Q I ?_⟩
      obtain ⟨O, B, r, b, r', h0, e, q⟩ := q
      simp only [List.map_nil, evI] at e
      cases e
      exact q _ _ (Tr.refl h0)
    | [c], _ =>
      have hc := (ihn (X.blk s H scope (compEnvC scope cl' C X.env) fp) (hX.blk _ _ _ _ _) c).t
      refine ⟨fun pins st σ H' Q I q => (pts_one hc).run pins st σ H' Q I ?_⟩
      obtain ⟨O, B, r, b, r', h0, e, q⟩ := q
      refine ⟨O, B, r, b, r', h0, ?_, q⟩
      simp only [List.map_cons, List.map_nil, evI] at e
      rw [← e]
      show tru (evE P cl (cE T n (relS scope X.env.scope) c) r) = _
      cases tru (evE P cl (cE T n (relS scope X.env.scope) c) r) with
      | no => rfl
      | exc _ _ => rfl
      | ok k r1 => cases k <;> rfl
  · exact (ihn (X.blk s H scope (compEnvC scope cl' C X.env) fp) (hX.blk _ _ _ _ _) elt).v
theorem lc_ev {n : Nat} {sc : Scope} {elt tg iter : Expr} {ifs : List Expr} {scope : Scope} {t : Tg} (r : Env) :
    evE P cl (.lc (cE T n (relS scope sc) elt) t (wkC T sc tg iter).1 ((wkC T sc tg iter).2.map (cE T n sc)) (ifs.map (cE T n (relS scope sc))) ((ownC T.N tg).map (·.2))) r =
      lcF ((ownC T.N tg).map (·.2)) t (evI P cl (ifs.map (cE T n (relS scope sc)))) (evE P cl (cE T n (relS scope sc) elt)) (wkC T sc tg iter).1 (evL P cl ((wkC T sc tg iter).2.map (cE T n sc))) r := by simp only [evE, lcF]
theorem snd_lc {n : Nat} (ihn : ∀ (X : Cx), XOk T P cl n0 X → ∀ e, Snd X P cl e (cE T n X.env.scope e)) (hX : XOk T P cl n0 X) {elt tg iter : Expr} {ifs : List Expr} {k : Int} {scope : Scope} :
    Snd X P cl (.ListComp elt [⟨tg, iter, ifs, k⟩] scope pos) (match tgC T.N (relS scope X.env.scope) (lccB scope (relS scope X.env.scope)) tg with
        | some t =>
          if lcOk T X.env.scope tg iter ifs k scope t then
            .lc (cE T n (relS scope X.env.scope) elt) t (wkC T X.env.scope tg iter).1 ((wkC T X.env.scope tg iter).2.map (cE T n X.env.scope)) (ifs.map (cE T n (relS scope X.env.scope))) ((ownC T.N tg).map (·.2))
          else bad
        | none => bad) := by
  cases e1 : tgC T.N (relS scope X.env.scope) (lccB scope (relS scope X.env.scope)) tg with
  | none => exact Snd.bad
  | some t =>
    dsimp only
    split
    · rename_i hc
      have L := lc_parts (elt := elt) ihn hX e1 hc
      have hk := L.k
      subst hk
      have main := (pe_lc (pos := pos) hX.calm (by rw [hX.N]; exact hX.nd) L.pi L.bo L.hg L.hif L.he L.hs).imp fun σ H Q h => comp_red L.ht h
      exact Snd.val (PEc main lc_ev) fun _ => rfl
    · exact Snd.bad
end
/-- THE RULE for expressions -/
theorem cE_ok {T : Tab} {P : Sys} {cl : CL} {n0 : Nat} : ∀ (n : Nat) (X : Cx), XOk T P cl n0 X → ∀ e, Snd X P cl e (cE T n X.env.scope e) := by
  intro n
  induction n with
  | zero => exact fun X _ e => Snd.bad
  | succ n ihn =>
    intro X hX e
    have ih := ihn X hX
    cases e with
    | Constant k j pos => exact snd_const hX n k j
    | Name x pos => exact snd_name hX x
    | Tuple es kk pos => exact snd_tup ih
    | List es pos => exact snd_lst ih
    | Dict ks vs pos => exact snd_dic
    | BinOp a op b pos => exact snd_bin hX ih
    | UnaryOp op a pos =>
      cases op with
      | USub => exact snd_neg ih
      | Not => exact snd_not ih
      | _ => exact Snd.bad
    | Compare a ops bs pos =>
      match ops, bs with
      | [op], [b] => exact snd_cmp hX ih
      | [op, op2], [b, c] => exact snd_cmp2 hX ih
      | [], _ => exact Snd.bad
      | [_], [] => exact Snd.bad
      | [_], _ :: _ :: _ => exact Snd.bad
      | [_, _], [] => exact Snd.bad
      | [_, _], [_] => exact Snd.bad
      | [_, _], _ :: _ :: _ :: _ => exact Snd.bad
      | _ :: _ :: _ :: _, _ => exact Snd.bad
    | BoolOp op es pos => exact snd_bool ih
    | IfExp c a b pos => exact snd_ife ih
    | Subscript a s pos =>
      cases s with
      | Slice lo hi st p2 =>
        cases st with
        | none => exact snd_slice ih
        | some st => exact snd_ix (b := .Slice lo hi (some st) p2) ih
      | _ => exact snd_ix ih
    | Call f args kws pos =>
      cases f with
      | Name x p => exact snd_callN hX ih
      | Attribute o name apos => exact snd_callA hX ih
      | _ => exact Snd.bad
    | ListComp elt gs scope pos =>
      match gs with
      | [⟨tg, iter, ifs, k⟩] => exact snd_lc ihn hX
      | [] => exact Snd.bad
      | ⟨_, _, _, _⟩ :: _ :: _ => exact Snd.bad
    | _ => exact Snd.bad
end Pv
namespace Pv
open PySem PySem.Spec PyProof.Rows L2
def notTup : Expr → Bool
  | .Tuple _ _ _ => false
  | _ => true
theorem swp_none {t e : Expr} {env : PySem.Env} (h : notTup t = true ∨ notTup e = true) (hl : ∀ ts p, t ≠ .List ts p) : swappedStores [t] e env = pure none := by
  unfold swappedStores
  cases t <;> first
    | rfl
    | (exact absurd rfl (hl _ _))
    | (cases e <;> first
        | rfl
        | (rcases h with h | h <;> cases h))
theorem swp_folded {ts vs : List Expr} {k k2 : Nat} {p p2 : Pos} {env : PySem.Env} (h : vs.all (foldedForSure 8) = true) : swappedStores [.Tuple ts k p] (.Tuple vs k2 p2) env = pure none := by
  unfold swappedStores
  simp only [h, if_true, bind_pure_comp, pure_bind]
  repeat' split
  all_goals rfl
def parB (sc : Scope) (a b : Str) (pa pb : Pos) (vs : List Expr) : Bool :=
  lcB sc a && lcB sc b && pb.line == pa.line && !(a == b) && !(vs.all (foldedForSure 8)) && !(vs.all (constantsAlone 8)) && vs.all notStar
theorem not_star_any : ∀ vs : List Expr, vs.all notStar = true → (vs.any fun | .Starred _ _ => true | _ => false) = false
  | [], _ => rfl
  | v :: vs, h => by
    simp only [List.all_cons, Bool.and_eq_true] at h
    rw [List.any_cons, not_star_any vs h.2, Bool.or_false]
    cases v <;> first
      | rfl
      | (cases h.1; done)
theorem swp_two {env : PySem.Env} {x y : Str} {px py p p2 : Pos} {k k2 : Nat} {a b : Expr} (hk : env.scope.kind = .function) (h : parB env.scope x y px py [a, b] = true) :
    swappedStores [.Tuple [.Name x px, .Name y py] k p] (.Tuple [a, b] k2 p2) env = pure (some [x, y]) := by
  unfold parB at h
  simp only [Bool.and_eq_true, Bool.not_eq_true', beq_iff_eq] at h
  obtain ⟨⟨⟨⟨⟨⟨h1, h2⟩, h3⟩, h4⟩, h5⟩, h6⟩, h7⟩ := h
  have k1 : env.kindOf x = some .local := lcB_ok h1
  have k2' : env.kindOf y = some .local := lcB_ok h2
  have bk : env.blockKind = .function := by unfold PySem.Env.blockKind; rw [hk]; rfl
  have hst := not_star_any [a, b] h7
  have ne : ¬ x = y := fun e => by rw [e, beq_self_eq_true] at h4; cases h4
  unfold swappedStores
  simp [bk, k1, k2', h3, h5, h6, Expr.pos, List.eraseDups, List.eraseDupsBy, List.eraseDupsBy.loop, ne]
  simp only [List.all_cons, List.all_nil, Bool.and_true, Bool.and_eq_true] at h7
  have ne2 : (y == x) = false := by
    cases q : y == x with
    | false => rfl
    | true => exact absurd (beq_iff_eq.mp q).symm ne
  rw [ne2]
  refine (if_neg (fun z => ?_)).trans ?_
  · rcases z with z | z
    · split at z
      · cases h7.1
      · cases z
    · split at z
      · cases h7.2
      · cases z
  · rfl
def parB3 (sc : Scope) (a b c : Str) (pa pb pc : Pos) (vs : List Expr) : Bool :=
  lcB sc a && lcB sc b && lcB sc c && pb.line == pa.line && pc.line == pa.line && !(a == b) && !(a == c) && !(b == c) && !(vs.all (foldedForSure 8)) && !(vs.all (constantsAlone 8)) && vs.all notStar
theorem swp_three {env : PySem.Env} {x y z : Str} {px py pz p p2 : Pos} {k k2 : Nat} {a b c : Expr} (hk : env.scope.kind = .function) (h : parB3 env.scope x y z px py pz [a, b, c] = true) :
    swappedStores [.Tuple [.Name x px, .Name y py, .Name z pz] k p] (.Tuple [a, b, c] k2 p2) env = pure (some [x, y, z]) := by
  unfold parB3 at h
  simp only [Bool.and_eq_true, Bool.not_eq_true', beq_iff_eq] at h
  obtain ⟨⟨⟨⟨⟨⟨⟨⟨⟨⟨h1, h2⟩, h3⟩, h4⟩, h5⟩, h6⟩, h7⟩, h8⟩, h9⟩, h10⟩, h11⟩ := h
  have k1 : env.kindOf x = some .local := lcB_ok h1
  have k2' : env.kindOf y = some .local := lcB_ok h2
  have k3' : env.kindOf z = some .local := lcB_ok h3
  have bk : env.blockKind = .function := by unfold PySem.Env.blockKind; rw [hk]; rfl
  have ne : ∀ {u w : Str}, (u == w) = false → (w == u) = false := fun {u w} e => by
    cases q : w == u with
    | false => rfl
    | true => rw [beq_iff_eq.mp q, beq_self_eq_true] at e; cases e
  unfold swappedStores
  simp [bk, k1, k2', k3', h4, h5, h9, h10, Expr.pos, List.eraseDups, List.eraseDupsBy, List.eraseDupsBy.loop, h6, h7, h8, ne h6, ne h7, ne h8]
  simp only [List.all_cons, List.all_nil, Bool.and_true, Bool.and_eq_true] at h11
  obtain ⟨n1, n2, n3⟩ := h11
  intro zz
  exfalso
  rcases zz with z | z | z
  · split at z
    · cases n1
    · cases z
  · split at z
    · cases n2
    · cases z
  · split at z
    · cases n3
    · cases z
end Pv
namespace Pv
open PySem PySem.Spec PyProof.Rows L2
def FU : Nat := 40
def notComp : Expr → Bool
  | .ListComp _ _ _ _ => false
  | .SetComp _ _ _ _ => false
  | .DictComp _ _ _ _ _ => false
  | _ => true
theorem notComp_sw {e : Expr} {t : Option Expr} {l : Nat} {env : PySem.Env} (h : notComp e = true) : swapsWith e t l env = pure false := by
  cases e <;> first
    | rfl
    | (cases h; done)
theorem notComp_sole {e t : Expr} {l : Nat} {env : PySem.Env} (h : notComp e = true) : swapsWithSole [t] e l env = pure false := notComp_sw (t := some t) h
def cT (T : Tab) (sc : Scope) : Nat → Expr → Option MT
  | 0, _ => none
  | n + 1, e =>
    match e with
    | .Name x _ => if locB sc x then (vix T.N x).map .nm else none
    | .Tuple ts _ _ => if ts.all notStar then (allSome (cT T sc n) ts).map .tp else none
    | .Subscript o i _ =>
      match o with
      | .Name x _ => if plainNm x && visB sc x && notSlice i then (vix T.N x).map fun j => .sb j (cE T FU sc i) else none
      | _ => none
    | _ => none
def badS : MS := .raise 0 []
def notLst : Expr → Bool
  | .List _ _ => false
  | _ => true
def foldT : Expr → Bool
  | .Tuple vs _ _ => vs.all (foldedForSure 8)
  | _ => false
def okSet : Expr → Bool
  | .SetComp _ _ _ _ => false
  | .DictComp _ _ _ _ _ => false
  | _ => true
def gAsg (T : Tab) (sc : Scope) (t e : Expr) : MS :=
  if (notTup t || notTup e || foldT e) && notLst t && notComp e && notStar t then
    (match cT T sc 10 t with | some m => .asg m (cE T FU sc e) | none => badS)
  else badS
def nAsg (T : Tab) (sc : Scope) (x : Str) (e : Expr) : MS :=
  if locB sc x && okSet e then
    (match vix T.N x with | some i => .set i (cE T FU sc e) | none => badS)
  else badS
def pAsg (T : Tab) (sc : Scope) (ts vs : List Expr) (t e : Expr) : MS :=
  match ts, vs with
  | [.Name x px, .Name y py], [a, b] =>
    if parB sc x y px py [a, b] then (match vix T.N x, vix T.N y with | some i, some j => .par [i, j] ([a, b].map (cE T FU sc)) | _, _ => badS) else gAsg T sc t e
  | [.Name x px, .Name y py, .Name z pz], [a, b, c] =>
    if parB3 sc x y z px py pz [a, b, c] then (match vix T.N x, vix T.N y, vix T.N z with | some i, some j, some l => .par [i, j, l] ([a, b, c].map (cE T FU sc)) | _, _, _ => badS) else gAsg T sc t e
  | _, _ => gAsg T sc t e
def cS (T : Tab) : Nat → Scope → Stmt → MS
  | 0, _, _ => badS
  | n + 1, sc, st =>
    match st with
    | .Expr e _ => (match e with | .Constant (.str _) _ _ => .pass | e => if notComp e then .expr (cE T FU sc e) else badS)
    | .Pass _ => .pass
    | .Break _ => .brk
    | .Continue _ => .cont
    | .Return v _ => (match v with | none => .retn | some e => .ret (cE T FU sc e))
    | .If c a b _ => .ife (cE T FU sc c) (a.map (cS T n sc)) (b.map (cS T n sc))
    | .For tg it b o _ =>
      (match o, tgC T.N sc (locB sc) tg with
       | [], some t => if notSet it then .for t (wkC T sc tg it).1 ((wkC T sc tg it).2.map (cE T FU sc)) (b.map (cS T n sc)) else badS
       | _, _ => badS)
    | .While c b o _ => (match o with | [] => .while (cE T FU sc c) (b.map (cS T n sc)) | _ => badS)
    | .Assign ts e _ =>
      (match ts with
       | [t] =>
         (match t with
          | .Name x _ => nAsg T sc x e
          | .Tuple ts k p => (match e with | .Tuple vs k2 p2 => pAsg T sc ts vs (.Tuple ts k p) (.Tuple vs k2 p2) | e => gAsg T sc (.Tuple ts k p) e)
          | t => gAsg T sc t e)
       | _ => badS)
    | _ => badS
section
variable {T : Tab} {P : Sys} {cl : CL} {n0 : Nat} {X : Cx} {pos p : Pos} {e a b c : Expr} {es : List Expr} {k : Nat → Nat}
theorem PSc {st : Stmt} {F G : Env → Res Fl} (h : PS X st (rdS X.K k F)) (g : ∀ r, G r = F r) : PS X st (rdS X.K k G) := by rw [show G = F from funext g]; exact h
theorem PSsc {st : List Stmt} {F G : Env → Res Fl} (h : PSs X st (rdS X.K k F)) (g : ∀ r, G r = F r) : PSs X st (rdS X.K k G) := by rw [show G = F from funext g]; exact h
theorem PGc {t : Expr} {F G : D → Env → Res Unit} (h : PG X t (rdG X.K k F)) (g : ∀ d r, G d r = F d r) : PG X t (rdG X.K k G) := by rw [show G = F from funext fun d => funext (g d)]; exact h
theorem bad_s {st : Stmt} : PS X st (rdS X.K k (exS P cl k badS)) := PS.never fun D σ H ⟨_, _, r, _, _, _, h, _⟩ => by
  simp only [badS, exS] at h
  cases h
def Snt (X : Cx) (P : Sys) (cl : CL) (k : Nat → Nat) (st : Stmt) (m : MS) : Prop := PS X st (rdS X.K k (exS P cl k m))
theorem assignEach_one {t : Expr} {env : PySem.Env} (h : notStar t = true) : assignEach [t] env = [(false, assign t env)] := by
  cases t <;> first
    | rfl
    | (cases h; done)
theorem assignEach_cons {t : Expr} {ts : List Expr} {env : PySem.Env} (h : notStar t = true) : assignEach (t :: ts) env = (false, assign t env) :: assignEach ts env := by
  cases t <;> first
    | rfl
    | (cases h; done)
theorem assignEach_none {env : PySem.Env} : ∀ ts : List Expr, ts.all notStar = true → (assignEach ts env).length = ts.length ∧ (assignEach ts env).findIdx? (·.1) = none
  | [], _ => ⟨rfl, rfl⟩
  | t :: ts, h => by
    simp only [List.all_cons, Bool.and_eq_true] at h
    obtain ⟨h1, h2⟩ := assignEach_none (env := env) ts h.2
    rw [assignEach_cons h.1]
    refine ⟨by rw [List.length_cons, List.length_cons, h1], ?_⟩
    rw [List.findIdx?_eq_none_iff] at h2 ⊢
    intro x hx
    rcases List.mem_cons.mp hx with rfl | hx
    · rfl
    · exact h2 x hx
theorem sub_assign {x : Str} {p2 : Pos} (h : notSlice a = true) (v : Value) : assign (.Subscript (.Name x p2) a pos) X.env v = (do
      let ov ← holding [v] (eval (.Name x p2) X.env)
      let iv ← holding [v, ov] (eval a X.env)
      standAt pos
      holding [v, ov, iv] (setItem ov iv v)
      release [v, ov, iv] []) := by
  cases a <;> first
    | rfl
    | (cases h; done)
theorem cT_ok (hX : XOk T P cl n0 X) (hfn : ∀ x, X.fn x = true) : ∀ (n : Nat) (t : Expr) (m : MT), cT T X.env.scope n t = some m → PG X t (rdG X.K k (stT P cl k m)) := by
  intro n
  induction n with
  | zero => intro t m h; cases h
  | succ n ih =>
    intro t m h
    cases t with
    | Name x p =>
      have h' : (if locB X.env.scope x then (vix T.N x).map MT.nm else none) = some m := h
      split at h'
      · rename_i hl
        obtain ⟨i, e1, rfl⟩ := Option.map_eq_some_iff.mp h'
        exact PGc (sg_name (by rw [hX.N]; exact hX.nd) (by rw [hX.N]; exact vix_ok e1) (locB_ok hl) (.inl (hfn x))) fun d r => by simp only [stT]
      · cases h'
    | Tuple ts kk p =>
      have h' : (if ts.all notStar then (allSome (cT T X.env.scope n) ts).map MT.tp else none) = some m := h
      split at h'
      · rename_i hs
        obtain ⟨ms, e1, rfl⟩ := Option.map_eq_some_iff.mp h'
        obtain ⟨l1, l2⟩ := allSome_get e1
        obtain ⟨n1, n2⟩ := assignEach_none (env := X.env) ts hs
        have each : ∀ (ts : List Expr) (ms : List MT), ts.all notStar = true → ms.length = ts.length → (∀ (i : Nat) t m, ts[i]? = some t → ms[i]? = some m → cT T X.env.scope n t = some m) → PGs X ts (rdGs X.K k (stTs P cl k ms)) := by
          intro ts
          induction ts with
          | nil =>
            intro ms _ hl _
            cases ms with
            | nil => exact sgs_nil' (fun d ds r r' e => by simp only [stTs] at e; cases e) fun r => by simp only [stTs]
            | cons _ _ => cases hl
          | cons t ts iht =>
            intro ms hs hl he
            cases ms with
            | nil => cases hl
            | cons m ms =>
              simp only [List.all_cons, Bool.and_eq_true] at hs
              exact sgs_cons (ih t m (he 0 t m rfl rfl)) (iht ms hs.2 (by simpa using hl) fun i t' m' h1 h2 => he (i + 1) t' m' (by simpa using h1) (by simpa using h2)) (by rw [assignEach_cons hs.1]; rfl)
                (fun d ds r => by simp only [stTs]) fun r r' e => by simp only [stTs] at e; cases e
        refine PGc (sg_tup (n := ts.length) hX.calm (each ts ms hs l1 l2) n1 n2) fun d r => ?_
        cases d <;> simp only [stT, l1]
      · cases h'
    | Subscript o i p =>
      cases o with
      | Name x p2 =>
        have h' : (if plainNm x && visB X.env.scope x && notSlice i then (vix T.N x).map fun j => MT.sb j (cE T FU X.env.scope i) else none) = some m := h
        split at h'
        · rename_i hc
          simp only [Bool.and_eq_true] at hc
          obtain ⟨j, e1, rfl⟩ := Option.map_eq_some_iff.mp h'
          obtain ⟨d1, d2, _⟩ := plainNm_ok hc.1.1
          exact PGc (sg_sub (by rw [hX.N]; exact vix_ok e1) (visB_ok hc.1.2) d1 d2 (cE_ok FU X hX i).v (sub_assign hc.2)) fun d r => by simp only [stT]
        · cases h'
      | _ => cases h
    | _ => cases h
theorem gAsg_ok (hX : XOk T P cl n0 X) (hfn : ∀ x, X.fn x = true) (t e : Expr) : Snt X P cl k (.Assign [t] e pos) (gAsg T X.env.scope t e) := by
  unfold gAsg
  split
  · rename_i hc
    simp only [Bool.and_eq_true, Bool.or_eq_true] at hc
    obtain ⟨⟨⟨h1, h2⟩, h3⟩, h4⟩ := hc
    cases e1 : cT T X.env.scope 10 t with
    | none => exact bad_s
    | some m =>
      have hw : swappedStores [t] e X.env = pure none := by
        rcases h1 with h1 | h1
        · exact swp_none h1 fun ts p z => by rw [z] at h2; cases h2
        · cases e with
          | Tuple vs k2 p2 =>
            cases t with
            | Tuple ts k p => exact swp_folded h1
            | _ => exact swp_none (.inl rfl) fun ts p z => by first | (cases z; done) | (rw [z] at h2; cases h2)
          | _ => cases h1
      exact PSc (ss_asg (cE_ok FU X hX e).v (cT_ok hX hfn 10 t m e1) (notComp_sole h3) hw (by rw [assignEach_one h4]; rfl)) fun r => by simp only [exS]
  · exact bad_s
theorem set_red {i : Nat} {Fe : Env → Res (D × Bool)} {D : Ends} {σ : L2.St} {H : Hp} (h : rdS X.K k (fun r => (Fe r).bind fun x r1 => opt (setSl (k i) i x.1 x.2 r1) fun r2 => .ok .nx r2) D σ H) : rdE X.K Fe σ H fun v H1 => D.nx (σ.set i (some v)) H1 := by
  obtain ⟨O, B, r, f, r', h0, e1, q⟩ := h
  obtain ⟨y, r1, e2, e1⟩ := Res.bind_ok_iff.mp e1
  obtain ⟨r2, e3, e1⟩ := opt_ok_iff.mp e1
  cases e1
  refine rdE.go h0 e2 fun v H1 O1 B1 t1 vr1 => ?_
  obtain ⟨B2, s, _⟩ := h0.setSl t1.sst vr1.lv e3
  exact q _ _ _ s
theorem nAsg_ok (hX : XOk T P cl n0 X) (hfn : ∀ x, X.fn x = true) (hkd : X.env.scope.kind = .function) (x : Str) {px : Pos} (e : Expr) : Snt X P cl k (.Assign [.Name x px] e pos) (nAsg T X.env.scope x e) := by
  have nd : X.N.Nodup := by rw [hX.N]; exact hX.nd
  unfold nAsg
  split
  · rename_i hc
    rw [Bool.and_eq_true] at hc
    obtain ⟨h1, h2⟩ := hc
    cases e1 : vix T.N x with
    | none => exact bad_s
    | some i =>
      have hi : X.N[i]? = some x := by rw [hX.N]; exact vix_ok e1
      by_cases hn : notComp e = true
      · exact PSc (ss_set nd hi (locB_ok h1) (cE_ok FU X hX e).v (notComp_sw hn) (.inl (hfn x))) fun r => by simp only [exS]
      · cases e with
        | ListComp elt gs scope lp =>
          -- stored by the comprehension itself, or not
          have bk : X.env.blockKind = .function := by unfold PySem.Env.blockKind; rw [hkd]; rfl
          have hsw : swapsWith (.ListComp elt gs scope lp) (some (.Name x px)) pos.line X.env = pure (X.env.blockKind == .function && X.env.kindOf x == some .local && px.line == lp.line && !(scope.names.any fun (n, k) => n == x && (k == .local || k == .cell))) := rfl
          cases hb : (X.env.blockKind == .function && X.env.kindOf x == some .local && px.line == lp.line && !(scope.names.any fun (n, k) => n == x && (k == .local || k == .cell))) with
          | false =>
            rw [hb] at hsw
            exact PSc (ss_set nd hi (locB_ok h1) (cE_ok FU X hX _).v hsw (.inl (hfn x))) fun r => by simp only [exS]
          | true =>
            rw [hb] at hsw
            simp only [Bool.and_eq_true] at hb
            have hloc : X.env.scope.names.lookup x = some .local := beq_iff_eq.mp hb.1.1.2
            have nev : ∀ {m : ME}, (∀ r, evE P cl m r = .no) → Snt X P cl k (.Assign [.Name x px] (.ListComp elt gs scope lp) pos) (.set i m) := fun {m} hm => PS.never fun D σ H ⟨_, _, r, _, _, _, h, _⟩ => by
              simp only [exS] at h
              rw [hm] at h
              cases h
            match gs with
            | [] => exact nev ev_bad
            | ⟨_, _, _, _⟩ :: _ :: _ => exact nev ev_bad
            | [⟨tg, iter, ifs, kk⟩] =>
              have hce : cE T FU X.env.scope (.ListComp elt [⟨tg, iter, ifs, kk⟩] scope lp) = (match tgC T.N (relS scope X.env.scope) (lccB scope (relS scope X.env.scope)) tg with
                  | some t =>
                    if lcOk T X.env.scope tg iter ifs kk scope t then
                      .lc (cE T 39 (relS scope X.env.scope) elt) t (wkC T X.env.scope tg iter).1 ((wkC T X.env.scope tg iter).2.map (cE T 39 X.env.scope)) (ifs.map (cE T 39 (relS scope X.env.scope))) ((ownC T.N tg).map (·.2))
                    else bad
                  | none => bad) := rfl
              dsimp only
              rw [hce]
              cases e2 : tgC T.N (relS scope X.env.scope) (lccB scope (relS scope X.env.scope)) tg with
              | none => exact nev ev_bad
              | some t =>
                dsimp only
                split
                · rename_i hc
                  have L := lc_parts (elt := elt) (cE_ok (P := P) (cl := cl) (n0 := n0) 39) hX e2 hc
                  have hk := L.k
                  subst hk
                  refine (ps_setLc hX.calm nd hi hloc hsw L.pi L.bo L.hg L.hif L.he L.hs).imp fun D σ H h => ?_
                  have h2 : rdS X.K k (fun r => (lcF ((ownC T.N tg).map (·.2)) t (evI P cl (ifs.map (cE T 39 (relS scope X.env.scope)))) (evE P cl (cE T 39 (relS scope X.env.scope) elt)) (wkC T X.env.scope tg iter).1 (evL P cl ((wkC T X.env.scope tg iter).2.map (cE T 39 X.env.scope))) r).bind fun x r1 => opt (setSl (k i) i x.1 x.2 r1) fun r2 => .ok .nx r2) D σ H := by
                    obtain ⟨O, B, r, f, r', h0, e, q⟩ := h
                    refine ⟨O, B, r, f, r', h0, ?_, q⟩
                    rw [← e]
                    simp only [exS]
                    rw [lc_ev]
                  exact comp_red L.ht (set_red h2)
                · exact nev ev_bad
        | SetComp _ _ _ _ => cases h2
        | DictComp _ _ _ _ _ => cases h2
        | _ => exact absurd rfl hn
  · exact bad_s
theorem vix_ne {N : List Str} {x y : Str} {i j : Nat} (h1 : vix N x = some i) (h2 : vix N y = some j) (h : (x == y) = false) : i ≠ j := fun e => by
  subst e
  have a := vix_ok h1
  rw [vix_ok h2] at a
  cases a
  rw [beq_self_eq_true] at h
  cases h
theorem pAsg_ok (hX : XOk T P cl n0 X) (hfn : ∀ x, X.fn x = true) (hkd : X.env.scope.kind = .function) (ts vs : List Expr) (kk k2 : Nat) (p p2 : Pos) : Snt X P cl k (.Assign [.Tuple ts kk p] (.Tuple vs k2 p2) pos) (pAsg T X.env.scope ts vs (.Tuple ts kk p) (.Tuple vs k2 p2)) := by
  have nd : X.N.Nodup := by rw [hX.N]; exact hX.nd
  have gen := gAsg_ok (k := k) (pos := pos) hX hfn (.Tuple ts kk p) (.Tuple vs k2 p2)
  unfold pAsg
  split
  · split
    · rename_i x px y py a b hc
      cases e1 : vix T.N x with
      | none => exact bad_s
      | some i =>
        cases e2 : vix T.N y with
        | none => exact bad_s
        | some j =>
          dsimp only
          have hc' := hc
          unfold parB at hc'
          simp only [Bool.and_eq_true, Bool.not_eq_true'] at hc'
          obtain ⟨⟨⟨⟨⟨⟨h1, h2⟩, h3⟩, h4⟩, h5⟩, h6⟩, h7⟩ := hc'
          refine PSc (ss_par hX.calm nd (by rw [hX.N]; exact vix_ok e1) (by rw [hX.N]; exact vix_ok e2) (vix_ne e1 e2 h4) (lcB_ok h1) (lcB_ok h2) (pka_map (k := fun i => k i == 1) (cE_ok FU X hX) [a, b] [i, j] h7) (swp_two hkd hc) rfl) fun r => ?_
          simp only [exS, parF]
    · exact gen
  · split
    · rename_i x px y py z pz a b c hc
      cases e1 : vix T.N x with
      | none => exact bad_s
      | some i =>
        cases e2 : vix T.N y with
        | none => exact bad_s
        | some j =>
          cases e3 : vix T.N z with
          | none => exact bad_s
          | some l =>
            dsimp only
            have hc' := hc
            unfold parB3 at hc'
            simp only [Bool.and_eq_true, Bool.not_eq_true'] at hc'
            obtain ⟨⟨⟨⟨⟨⟨⟨⟨⟨⟨h1, h2⟩, h3⟩, h4⟩, h5⟩, h6⟩, h7⟩, h8⟩, h9⟩, h10⟩, h11⟩ := hc'
            refine PSc (ss_par3 hX.calm nd (by rw [hX.N]; exact vix_ok e1) (by rw [hX.N]; exact vix_ok e2) (by rw [hX.N]; exact vix_ok e3) (vix_ne e1 e2 h6) (vix_ne e1 e3 h7) (vix_ne e2 e3 h8) (lcB_ok h1) (lcB_ok h2) (lcB_ok h3)
              (pka_map (k := fun i => k i == 1) (cE_ok FU X hX) [a, b, c] [i, j, l] h11) (swp_three hkd hc) rfl) fun r => ?_
            simp only [exS, parF]
    · exact gen
  · exact gen
/-- THE RULE for statements -/
theorem cS_ok (hX : XOk T P cl n0 X) (hfn : ∀ x, X.fn x = true) (hkd : X.env.scope.kind = .function) (hp : PassesOwn (model X.prog X.w) X.A X.env X.xe) : ∀ (n : Nat) (st : Stmt), Snt X P cl k st (cS T n X.env.scope st) := by
  intro n
  induction n with
  | zero => exact fun st => bad_s
  | succ n ih =>
    have blk : ∀ sts : List Stmt, PSs X sts (rdS X.K k (exB P cl k (sts.map (cS T n X.env.scope)))) := by
      intro sts
      induction sts with
      | nil => exact PSsc ss_nil fun r => by simp only [List.map_nil, exB]
      | cons st sts ihs => exact PSsc (ss_seq (ih st) ihs) fun r => by simp only [List.map_cons, exB, seqF]; try rfl
    intro st
    cases st with
    | Expr e pos =>
      have gen : notComp e = true → Snt X P cl k (.Expr e pos) (.expr (cE T FU X.env.scope e)) := fun h => PSc (ss_expr (cE_ok FU X hX e).v (notComp_sw h)) fun r => by simp only [exS]
      have pick : Snt X P cl k (.Expr e pos) (if notComp e then .expr (cE T FU X.env.scope e) else badS) := by
        split
        · exact gen (by assumption)
        · exact bad_s
      cases e with
      | Constant c j p =>
        cases c with
        | str s => exact PSc ss_doc fun r => by simp only [cS, exS]
        | _ => exact pick
      | _ => exact pick
    | Pass pos => exact PSc ss_pass fun r => by simp only [cS, exS]
    | Break pos => exact PSc ss_brk fun r => by simp only [cS, exS]
    | Continue pos => exact PSc ss_cont fun r => by simp only [cS, exS]
    | Return v pos =>
      cases v with
      | none => exact PSc ss_retn fun r => by simp only [cS, exS]
      | some e => exact PSc (ss_ret (cE_ok FU X hX e).v) fun r => by simp only [cS, exS]
    | If c a b pos => exact PSc (ss_if (cE_ok FU X hX c).t (blk a) (blk b)) fun r => by simp only [cS, exS]
    | While c b o pos =>
      cases o with
      | nil => exact PSc (ss_while hp (cE_ok FU X hX c).t (blk b) P.fuel) fun r => by simp only [cS, exS]
      | cons _ _ => exact bad_s
    | For tg it b o pos =>
      cases o with
      | cons _ _ => exact bad_s
      | nil =>
        show Snt X P cl k _ (match ([] : List Stmt), tgC T.N X.env.scope (locB X.env.scope) tg with
          | [], some t => if notSet it then .for t (wkC T X.env.scope tg it).1 ((wkC T X.env.scope tg it).2.map (cE T FU X.env.scope)) (b.map (cS T n X.env.scope)) else badS
          | _, _ => badS)
        cases e1 : tgC T.N X.env.scope (locB X.env.scope) tg with
        | none => exact bad_s
        | some t =>
          dsimp only
          split
          · rename_i hs
            exact PSc (ss_for hp hX.calm (wk_ok hX (cE_ok FU X hX) tg it) (tgC_ok hX.calm hX.N hX.nd (fun x hx => ⟨locB_ok hx, .inl (hfn x)⟩) e1) (blk b) (folded_ok hs)) fun r => by simp only [exS, forF]
          · exact bad_s
    | Assign ts e pos =>
      match ts with
      | [] => exact bad_s
      | _ :: _ :: _ => exact bad_s
      | [t] =>
        cases t with
        | Name x px => exact nAsg_ok hX hfn hkd x e
        | Tuple ts kk p =>
          cases e with
          | Tuple vs k2 p2 => exact pAsg_ok hX hfn hkd ts vs kk k2 p p2
          | _ => exact gAsg_ok hX hfn _ _
        | _ => exact gAsg_ok hX hfn _ _
    | _ => exact bad_s
theorem cB_ok (hX : XOk T P cl n0 X) (hfn : ∀ x, X.fn x = true) (hkd : X.env.scope.kind = .function) (hp : PassesOwn (model X.prog X.w) X.A X.env X.xe) (n : Nat) (sts : List Stmt) : PSs X sts (rdS X.K k (exB P cl k (sts.map (cS T n X.env.scope)))) := by
  induction sts with
  | nil => exact PSsc ss_nil fun r => by simp only [List.map_nil, exB]
  | cons st sts ihs => exact PSsc (ss_seq (cS_ok hX hfn hkd hp n st) ihs) fun r => by simp only [List.map_cons, exB, seqF]; try rfl
end
end Pv
namespace Pv
open PySem PySem.Spec PyProof.Rows L2
section
variable {K : PySem.W.Frag} {σ σ' σ2 : L2.St} {H H1 H' : Hp} {O O1 O2 O' : List Addr} {B B1 B2 B' : List (Option Addr)} {r r1 r2 r' sl : Env} {vs : List V}
theorem rep_get {α : Type} {n i : Nat} {a b : α} (h : (List.replicate n a)[i]? = some b) : b = a := by
  rw [List.getElem?_replicate] at h
  split at h
  · exact (Option.some.inj h).symm
  · cases h
theorem app_get {α : Type} {l : List α} {n i : Nat} {a b : α} (h : (l ++ List.replicate n a)[i]? = some b) : l[i]? = some b ∨ (l.length ≤ i ∧ b = a) := by
  by_cases hi : i < l.length
  · rw [List.getElem?_append_left hi] at h
    exact .inl h
  · rw [List.getElem?_append_right (by omega)] at h
    exact .inr ⟨by omega, rep_get h⟩
/-- the body's start: more empty slots -/
theorem SR.start (h : SR K H O B sl (vs.map some)) (n : Nat) : SR K H O (B ++ List.replicate n none) (sl ++ List.replicate n .e) (vs.map some ++ List.replicate n none) ∧ ∀ b, OW O (B ++ List.replicate n none) b ↔ OW O B b := by
  have mem : ∀ {i : Nat} {a : Addr}, (B ++ List.replicate n none)[i]? = some (some a) → B[i]? = some (some a) := fun {i a} e => by
    rcases app_get e with e | ⟨_, e⟩
    · exact e
    · cases e
  have iff : ∀ b, OW O (B ++ List.replicate n none) b ↔ OW O B b := fun b => by
    constructor
    · rintro (m | m)
      · exact .inl m
      · obtain ⟨i, hi⟩ := List.getElem?_of_mem m
        exact .inr (List.mem_of_getElem? (mem hi))
    · rintro (m | m)
      · exact .inl m
      · exact .inr (List.mem_append_left _ m)
  have ev : Evo H (OW O B) H (OW O (B ++ List.replicate n none)) := Evo.refl.less fun b hb => (iff b).mp hb
  have left : ∀ {α : Type} {l : List α} {m : List α} {i : Nat} {x : α}, l[i]? = some x → (l ++ m)[i]? = some x := fun {α l m i x} e => by rw [List.getElem?_append_left (getO e)]; exact e
  refine ⟨⟨by rw [List.length_append, List.length_append, h.lenB, List.length_replicate, List.length_replicate], by rw [List.length_append, List.length_append, h.lenS, List.length_replicate, List.length_replicate], fun a ha z => ?_, fun i j a hi hj => h.inj i j a (mem hi) (mem hj), fun a ha => h.dom a ((iff a).mp ha), fun i d hd => ?_, fun i d hd => ?_, fun i d hd => ?_, fun i hd => ?_⟩, iff⟩
  · obtain ⟨i, hi⟩ := List.getElem?_of_mem z
    exact h.dis a ha (List.mem_of_getElem? (mem hi))
  · rcases app_get hd with e | ⟨_, e⟩
    · obtain ⟨e1, v, e2, e3⟩ := h.val i d e
      exact ⟨left e1, v, left e2, e3.evo ev⟩
    · cases e
  · rcases app_get hd with e | ⟨_, e⟩
    · obtain ⟨a, e1, e2, e3⟩ := h.own i d e
      exact ⟨a, left e1, left e2, e3.evo ev rfl⟩
    · cases e
  · rcases app_get hd with e | ⟨_, e⟩
    · obtain ⟨e1, a, e2, e3, e4⟩ := h.lck i d e
      exact ⟨left e1, a, e2, left e3, e4.evo ev rfl⟩
    · cases e
  · rcases app_get hd with e | ⟨hl, _⟩
    · exact left (h.emp i e)
    · have hi := getO hd
      rw [List.length_append, List.length_replicate] at hi
      rw [List.getElem?_append_right (by rw [h.lenB]; exact hl), List.getElem?_replicate, if_pos (by rw [h.lenB]; omega)]
theorem outs_get {F : Fn} {i : Nat} {s : Sl} (h : (outs F r)[i]? = some s) : i < F.np ∧ ((F.keep.getD i false = true ∧ s = r.getD i .e) ∨ (F.keep.getD i false = false ∧ s = .e)) := by
  unfold outs at h
  rw [List.getElem?_map] at h
  obtain ⟨j, e1, e2⟩ := Option.map_eq_some_iff.mp h
  have hi : i < F.np := by simpa using getO e1
  rw [List.getElem?_range hi] at e1
  cases e1
  refine ⟨hi, ?_⟩
  cases hk : F.keep.getD i false with
  | true => rw [hk, if_pos rfl] at e2; exact .inl ⟨rfl, e2.symm⟩
  | false => rw [hk, if_neg Bool.false_ne_true] at e2; exact .inr ⟨rfl, e2.symm⟩
/-- the body's end: the kept parameters go back -/
theorem SR.exit {F : Fn} (h : SR K H' O2 B2 r2 σ2) (hl : F.np ≤ r2.length) (hv : vs.length = F.np) (hk : ∀ i, i < F.np → F.keep.getD i false = true → σ2[i]? = (vs.map some)[i]?) :
    ∃ Bo, SR K H' O2 Bo (outs F r2) (vs.map some) ∧ ∀ b, OW O2 Bo b → OW O2 B2 b := by
  obtain ⟨Bo, lBo, gBo⟩ : ∃ Bo : List (Option Addr), Bo.length = F.np ∧ ∀ i, i < F.np → Bo[i]? = some (if F.keep.getD i false then B2.getD i none else none) := by
    refine ⟨(List.range F.np).map fun i => if F.keep.getD i false then B2.getD i none else none, by rw [List.length_map, List.length_range], fun i hi => ?_⟩
    rw [List.getElem?_map, List.getElem?_range hi]
    rfl
  have mem : ∀ {i : Nat} {a : Addr}, Bo[i]? = some (some a) → B2[i]? = some (some a) := fun {i a} e => by
    have hi : i < F.np := by rw [← lBo]; exact getO e
    rw [gBo i hi] at e
    have e' := Option.some.inj e
    split at e'
    · have hb : i < B2.length := by rw [h.lenB]; omega
      rw [List.getD_eq_getElem?_getD, List.getElem?_eq_getElem hb] at e'
      rw [List.getElem?_eq_getElem hb]
      exact congrArg some e'
    · cases e'
  have w : ∀ b, OW O2 Bo b → OW O2 B2 b := fun b hb => hb.imp id fun m => by
    obtain ⟨i, hi⟩ := List.getElem?_of_mem m
    exact List.mem_of_getElem? (mem hi)
  have ev : Evo H' (OW O2 B2) H' (OW O2 Bo) := Evo.refl.less w
  have lo : (outs F r2).length = F.np := by unfold outs; rw [List.length_map, List.length_range]
  have at_ : ∀ {i : Nat} {s : Sl}, (outs F r2)[i]? = some s → s ≠ .e → i < F.np ∧ F.keep.getD i false = true ∧ r2[i]? = some s := fun {i s} e ne => by
    obtain ⟨hi, e⟩ := outs_get e
    rcases e with ⟨hk, e⟩ | ⟨_, e⟩
    · have hr : i < r2.length := by omega
      rw [List.getD_eq_getElem?_getD, List.getElem?_eq_getElem hr] at e
      exact ⟨hi, hk, by rw [List.getElem?_eq_getElem hr, e]; rfl⟩
    · exact absurd e ne
  have bk : ∀ {i : Nat} {b : Option Addr}, i < F.np → F.keep.getD i false = true → B2[i]? = some b → Bo[i]? = some b := fun {i b} hi hk e => by
    rw [gBo i hi, hk, if_pos rfl, List.getD_eq_getElem?_getD, e]
    rfl
  refine ⟨Bo, ⟨by rw [lBo, lo], by rw [List.length_map, hv, lo], fun a ha z => ?_, fun i j a hi hj => h.inj i j a (mem hi) (mem hj), fun a ha => h.dom a (w a ha), fun i d hd => ?_, fun i d hd => ?_, fun i d hd => ?_, fun i hd => ?_⟩, w⟩
  · obtain ⟨i, hi⟩ := List.getElem?_of_mem z
    exact h.dis a ha (List.mem_of_getElem? (mem hi))
  · obtain ⟨hi, hkp, e⟩ := at_ hd fun z => nomatch z
    obtain ⟨e1, v, e2, e3⟩ := h.val i d e
    exact ⟨bk hi hkp e1, v, by rw [← hk i hi hkp]; exact e2, e3.evo ev⟩
  · obtain ⟨hi, hkp, e⟩ := at_ hd fun z => nomatch z
    obtain ⟨a, e1, e2, e3⟩ := h.own i d e
    exact ⟨a, bk hi hkp e1, by rw [← hk i hi hkp]; exact e2, e3.evo ev rfl⟩
  · obtain ⟨hi, hkp, e⟩ := at_ hd fun z => nomatch z
    obtain ⟨e1, a, e2, e3, e4⟩ := h.lck i d e
    exact ⟨bk hi hkp e1, a, e2, by rw [← hk i hi hkp]; exact e3, e4.evo ev rfl⟩
  · obtain ⟨hi, e⟩ := outs_get hd
    rcases e with ⟨hkp, e⟩ | ⟨hkp, _⟩
    · have hr : i < r2.length := by omega
      rw [List.getD_eq_getElem?_getD, List.getElem?_eq_getElem hr] at e
      exact bk hi hkp (h.emp i (by rw [List.getElem?_eq_getElem hr]; exact congrArg some e.symm))
    · rw [gBo i hi, hkp]
      rfl
/-- a local object goes out -/
theorem SR.give (h : SR K H O B r σ) {i : Nat} {d : D} (e : r[i]? = some (.o d)) : ∃ a, σ[i]? = some (some (.ref a)) ∧ a ∉ O ∧ SR K H (a :: O) (B.set i none) (r.set i .e) σ ∧ Ob K H (OW (a :: O) (B.set i none)) d a ∧ ∀ b, OW (a :: O) (B.set i none) b → OW O B b := by
  obtain ⟨a, b1, b2, b3⟩ := h.own i d e
  have hi := getO e
  have hib : i < B.length := getO b1
  have aO : a ∉ O := fun z => h.dis a z (List.mem_of_getElem? b1)
  have old : ∀ {j : Nat} {c : Addr}, (B.set i none)[j]? = some (some c) → j ≠ i ∧ B[j]? = some (some c) := fun {j c} hj => by
    by_cases q : i = j
    · subst q
      rw [List.getElem?_set_self hib] at hj
      cases hj
    · rw [List.getElem?_set_ne q] at hj
      exact ⟨fun z => q z.symm, hj⟩
  have w : ∀ b, OW (a :: O) (B.set i none) b → OW O B b := fun b hb => by
    rcases hb with m | m
    · rcases List.mem_cons.mp m with z | m
      · rw [z]; exact .inr (List.mem_of_getElem? b1)
      · exact .inl m
    · obtain ⟨j, hj⟩ := List.getElem?_of_mem m
      exact .inr (List.mem_of_getElem? (old hj).2)
  have ev : Evo H (OW O B) H (OW (a :: O) (B.set i none)) := Evo.refl.less w
  refine ⟨a, b2, aO, ⟨by rw [List.length_set, List.length_set]; exact h.lenB, by rw [List.length_set]; exact h.lenS, fun c hc z => ?_, fun j k c hj hk => h.inj j k c (old hj).2 (old hk).2, fun c hc => h.dom c (w c hc), fun j x hj => ?_, fun j x hj => ?_, fun j x hj => ?_, fun j hj => ?_⟩, b3.evo ev rfl, w⟩
  · obtain ⟨j, hj⟩ := List.getElem?_of_mem z
    obtain ⟨ne, hj⟩ := old hj
    rcases List.mem_cons.mp hc with q | m
    · rw [q] at hj
      exact ne (h.inj j i a hj b1)
    · exact h.dis c m (List.mem_of_getElem? hj)
  · by_cases q : i = j
    · subst q; rw [List.getElem?_set_self hi] at hj; cases hj
    · rw [List.getElem?_set_ne q] at hj ⊢
      obtain ⟨h1, v, h2, h3⟩ := h.val j x hj
      exact ⟨h1, v, h2, h3.evo ev⟩
  · by_cases q : i = j
    · subst q; rw [List.getElem?_set_self hi] at hj; cases hj
    · rw [List.getElem?_set_ne q] at hj ⊢
      obtain ⟨c, h1, h2, h3⟩ := h.own j x hj
      exact ⟨c, h1, h2, h3.evo ev rfl⟩
  · by_cases q : i = j
    · subst q; rw [List.getElem?_set_self hi] at hj; cases hj
    · rw [List.getElem?_set_ne q] at hj ⊢
      obtain ⟨h1, c, h2, h3, h4⟩ := h.lck j x hj
      exact ⟨h1, c, List.mem_cons_of_mem _ h2, h3, h4.evo ev rfl⟩
  · by_cases q : i = j
    · subst q; exact List.getElem?_set_self hib
    · rw [List.getElem?_set_ne q] at hj ⊢
      exact h.emp j hj
end
end Pv
namespace Pv
open PySem PySem.Spec PyProof.Rows L2
section
variable {K : PySem.W.Frag} {H : Hp} {O : List Addr} {B : List (Option Addr)} {sl : Env} {vs : List V}
theorem outD_at {np : Nat} {d : D} {fr : Bool} {r : Env} {z : D × Bool × Env} (h : outD np d fr r = some z) : (∃ i x, d = .ref i ∧ ((r[i]? = some (.o x) ∧ i < np ∧ z = (x, false, r.set i (.v x))) ∨ (r[i]? = some (.o x) ∧ ¬ i < np ∧ z = (x, true, r.set i .e)) ∨ (r[i]? = some (.v x) ∧ z = (x, false, r)))) ∨
    ((∀ i, d ≠ .ref i) ∧ z = (d, fr, r)) := by
  unfold outD at h
  cases d with
  | ref i =>
    refine .inl ?_
    dsimp only at h
    split at h
    · rename_i x hx
      split at h
      · rename_i hi
        cases h
        exact ⟨i, x, rfl, .inl ⟨hx, hi, rfl⟩⟩
      · rename_i hi
        cases h
        exact ⟨i, x, rfl, .inr (.inl ⟨hx, hi, rfl⟩)⟩
    · rename_i x hx
      cases h
      exact ⟨i, x, rfl, .inr (.inr ⟨hx, rfl⟩)⟩
    · cases h
  | _ => cases h; exact .inr ⟨fun _ z => (nomatch z), rfl⟩
/-- from a body's run to the call's end -/
theorem body_end {P : Sys} {n : Nat} {F : Fn} {f : Nat} {d : D} {fr : Bool} {o : Env} {N : List Str} {Q : VK} (hF : P.fns[f]? = some F) (hns : F.ns = N.length) (hnp : F.np = vs.length) (hN : vs.length ≤ N.length) (sr : SR K H O B sl (vs.map some)) (hcl : callN P (n + 1) f sl = .ok d fr o) (hnr : isRef d = false)
    (q : ∀ v H' O' B', Tr K (vs.map some) H O B sl H' O' B' o → VR K (vs.map some) O H' O' B' (d, fr) v → Q v H') : rdS K (keepK F) (exB P (callN P n) (keepK F) F.body) { nx := fun _ H' => Q .non H', rt := Q } (L2.start N vs) H := by
  unfold callN at hcl
  rw [hF] at hcl
  dsimp only at hcl
  split at hcl
  · rename_i hok
    obtain ⟨hlen, hslok⟩ := hok
    obtain ⟨s0, w0⟩ := sr.start (F.ns - F.np)
    have hst : vs.map some ++ List.replicate (F.ns - F.np) none = L2.start N vs := by
      unfold L2.start
      rw [hns, hnp]
    rw [hst] at s0
    have kept : ∀ {i : Nat} {d' : D}, sl[i]? = some (.l d') → i < F.np ∧ F.keep.getD i false = true := fun {i d'} e => by
      have hi : i < F.np := by rw [← hlen]; exact getO e
      refine ⟨hi, ?_⟩
      have h1 := List.all_eq_true.mp hslok i (List.mem_range.mpr hi)
      rw [List.getD_eq_getElem?_getD (l := sl), e] at h1
      simpa using h1
    have ev0 : Evo H (OW O B) H (OW O (B ++ List.replicate (F.ns - F.np) none)) := Evo.refl.less fun b hb => (w0 b).mp hb
    -- the end, for what is held then
    have fin : ∀ {σ1 : L2.St} {H1 : Hp} {O1 : List Addr} {B1 : List (Option Addr)} {r1 : Env} {r2 : Env} {O2 : List Addr} {B2 : List (Option Addr)} {z : D × Bool} {v : V}, SSt K (keepK F) (L2.start N vs) H O (B ++ List.replicate (F.ns - F.np) none) (sl ++ List.replicate (F.ns - F.np) Sl.e) σ1 H1 O1 B1 r1 →
        SR K H1 O2 B2 r2 σ1 → (∀ b ∈ O, b ∈ O2) → (∀ b, OW O2 B2 b → OW O1 B1 b) → (∀ (i : Nat) d, r2[i]? = some (.l d) ↔ r1[i]? = some (.l d)) → VR K σ1 O H1 O2 B2 z v → isRef z.1 = false → d = z.1 → fr = z.2 → o = outs F r2 → Q v H1 := by
      intro σ1 H1 O1 B1 r1 r2 O2 B2 z v ss s2 hO w2 l2 vr hz e1 e2 e3
      subst e1 e2 e3
      have hr2 : r2.length = (sl ++ List.replicate (F.ns - F.np) Sl.e).length := by rw [← s2.lenS, ss.len, s0.lenS]
      obtain ⟨Bo, so, wo⟩ := s2.exit (F := F) (vs := vs) (by rw [hr2, List.length_append, hlen]; omega) hnp.symm fun i hi hk => by
        have h1 : keepK F i = 2 := by unfold keepK; rw [if_pos hk, if_pos hi]
        rw [ss.pr h1, ← hst, List.getElem?_append_left (by rw [List.length_map, ← hnp]; exact hi)]
      refine q v H1 O2 Bo ⟨so, ev0.trans (ss.evo.less fun b hb => w2 b (wo b hb)), fun b hb => ⟨(ss.ko b hb).1, hO b hb⟩, fun i d' => ?_⟩ ?_
      · have hl : ∀ {i : Nat} {d' : D}, r2[i]? = some (.l d') ↔ sl[i]? = some (.l d') := fun {i d'} => by
          rw [l2 i d', ss.lk i d']
          constructor
          · intro e
            rcases app_get e with e | ⟨_, e⟩
            · exact e
            · cases e
          · intro e
            rw [List.getElem?_append_left (getO e)]
            exact e
        constructor
        · intro e
          obtain ⟨hi, e4⟩ := outs_get e
          rcases e4 with ⟨hk, e5⟩ | ⟨_, e5⟩
          · have hr : i < r2.length := by rw [hr2, List.length_append, hlen]; omega
            rw [List.getD_eq_getElem?_getD, List.getElem?_eq_getElem hr] at e5
            exact hl.mp (by rw [List.getElem?_eq_getElem hr]; exact congrArg some e5.symm)
          · cases e5
        · intro e
          obtain ⟨hi, hk⟩ := kept e
          unfold outs
          rw [List.getElem?_map, List.getElem?_range hi, Option.map_some, hk, if_pos rfl, List.getD_eq_getElem?_getD, hl.mpr e]
          rfl
      · obtain ⟨d', f'⟩ := z
        unfold VR at vr ⊢
        have evo : Evo H1 (OW O2 B2) H1 (OW O2 Bo) := Evo.refl.less wo
        cases f' with
        | true =>
          rw [if_pos rfl] at vr ⊢
          obtain ⟨a, h1, h2, h3, h4⟩ := vr
          exact ⟨a, h1, h2, h3, h4.evo evo rfl⟩
        | false =>
          rw [if_neg Bool.false_ne_true] at vr ⊢
          refine ⟨vr.1, ?_⟩
          cases d' <;> first
            | exact Rp.evo evo vr.2
            | (cases hz; done)
    cases e : exB P (callN P n) (keepK F) F.body (sl ++ List.replicate (F.ns - F.np) Sl.e) with
    | no => rw [e] at hcl; cases hcl
    | exc _ _ => rw [e] at hcl; cases hcl
    | ok fl r1 =>
      rw [e] at hcl
      refine ⟨O, _, _, fl, r1, s0, e, ?_⟩
      cases fl with
      | bk => cases hcl
      | ct => cases hcl
      | nx =>
        cases hcl
        exact fun σ1 H1 B1 ss => fin ss ss.sr (fun _ h => h) (fun _ h => h) (fun _ _ => .rfl) (z := (.non, false)) ⟨rfl, by simp [Rp]⟩ rfl rfl rfl rfl
      | rt d0 fr0 =>
        intro σ1 v H1 O1 B1 ss vr
        dsimp only at hcl
        cases e2 : outD F.np d0 fr0 r1 with
        | none => rw [e2] at hcl; cases hcl
        | some z =>
          rw [e2] at hcl
          obtain ⟨x, f', r2⟩ := z
          cases hcl
          rcases outD_at e2 with ⟨i, x', rfl, h⟩ | ⟨h1, h2⟩
          · have hv : O1 = O ∧ σ1[i]? = some (some v) := by
              unfold VR at vr
              cases fr0 with
              | true =>
                rw [if_pos rfl] at vr
                obtain ⟨_, _, _, _, ob⟩ := vr
                exact ob.elim
              | false => rw [if_neg Bool.false_ne_true] at vr; exact vr
            obtain ⟨rfl, hv⟩ := hv
            rcases h with ⟨hx, hi, hz⟩ | ⟨hx, hi, hz⟩ | ⟨hx, hz⟩
            · cases hz
              obtain ⟨a, b1, t, rp⟩ := ss.sr.frz hx
              rw [hv] at b1
              cases b1
              obtain ⟨O2, t2, vr2⟩ := t.val ss.sr rp
              have hO2 : O2 = O1 := by
                unfold VR at vr2
                rw [if_neg Bool.false_ne_true] at vr2
                exact vr2.1
              subst hO2
              exact fin ss t2.sr (fun _ h => h) (fun b hb => ow_set b hb) t2.lk vr2 hnr rfl rfl rfl
            · cases hz
              obtain ⟨a, b1, na, s2, ob, w2⟩ := ss.sr.give hx
              rw [hv] at b1
              cases b1
              refine fin ss s2 (fun b hb => List.mem_cons_of_mem _ hb) w2 (fun j d' => ?_) (z := (_, true)) ⟨a, rfl, rfl, na, ob⟩ hnr rfl rfl rfl
              by_cases hj : i = j
              · subst hj
                rw [List.getElem?_set_self (getO hx), hx]
                exact ⟨fun z => (nomatch z), fun z => nomatch z⟩
              · rw [List.getElem?_set_ne hj]
            · cases hz
              obtain ⟨_, v', b1, rp⟩ := ss.sr.val i _ hx
              rw [hv] at b1
              cases b1
              obtain ⟨O2, t2, vr2⟩ := (Tr.refl ss.sr).val ss.sr rp
              have hO2 : O2 = O1 := by
                unfold VR at vr2
                rw [if_neg Bool.false_ne_true] at vr2
                exact vr2.1
              subst hO2
              exact fin ss t2.sr (fun _ h => h) (fun b hb => hb) t2.lk vr2 hnr rfl rfl rfl
          · cases h2
            exact fin ss ss.sr (fun b hb => (ss.ko b hb).2) (fun _ h => h) (fun _ _ => .rfl) vr hnr rfl rfl rfl
  · cases hcl
end
/-- a def of the text as it stands behind the top, whatever its defaults -/
structure FunX (K : PySem.W.Frag) (x : Str) (st : Stmt) (f : Addr) (fd : FuncData) : Prop where
  ex : ∃ (oc : Value) (od : Option Addr) (dV kV doc pm : Value) (an : Option Addr) (cdv ct : Value) (osl : Array (Option Value)),
    fd = PySem.W.fnOf x x (defArgs st) (defBody st) (defScope st) dV kV doc pm an cdv ct ∧ K.lookup f = some ⟨oc, od, .func fd, osl⟩ ∧ PySem.W.codeIn K cdv x = true
  kp : PySem.W.keepIn K (.ref f) = true
/-- the module and its own syntax -/
structure ModOk (M : Tab) (P : Sys) (K : PySem.W.Frag) (mg : Str → Option Value) : Prop where
  bl : ∀ x, M.bl.contains x = true → mg x = none
  gl : ∀ x d, M.gl.lookup x = some d → ∃ v u, mg x = some u ∧ RelV v u ∧ ∀ H W, Rp K H W d v
  fn : ∀ x f, M.fn.lookup x = some f → ∃ fa fd ps F st N, mg x = some (.ref fa) ∧ FunX K x st fa fd ∧ FnScope N ps (defScope st) ∧ P.fns[f]? = some F ∧ ps.length = F.np ∧ F.ns = N.length ∧ F.body = (defBody st).map (cS { M with N := N } 30 (defScope st)) ∧ ∀ pt ∈ M.pt, pt.f = f → PatOk K fd ps pt
  rp : P.rp = reprS
  inS : P.inS = inStr
  cnt : P.cnt = cntStr
theorem fn_all {M : Tab} {P : Sys} {K : PySem.W.Frag} {mg : Str → Option Value} {Pg : Program} {w : World} {base : Heap} (ok : ModOk M P K mg) : ∀ (n : Nat) (x : Str) (f : Nat), M.fn.lookup x = some f →
    ∃ fa fd ps F, mg x = some (.ref fa) ∧ PySem.W.keepIn K (.ref fa) = true ∧ P.fns[f]? = some F ∧ ps.length = F.np ∧ (∀ pt ∈ M.pt, pt.f = f → PatOk K fd ps pt) ∧ FnG Pg w K mg base n fa fd ps (spG K (callN P n) f) := by
  intro n
  induction n with
  | zero =>
    intro x f hf
    obtain ⟨fa, fd, ps, F, st, N, h1, h2, h3, h4, h5, h6, h7, h8⟩ := ok.fn x f hf
    refine ⟨fa, fd, ps, F, h1, h2.kp, h4, h5, h8, ⟨fun A outer s H args us vs Q _ _ _ _ _ _ hsp => ?_⟩⟩
    obtain ⟨_, _, sl, d, fr, o, _, hcl, _⟩ := hsp
    cases hcl
  | succ n ih =>
    intro x f hf
    obtain ⟨fa, fd, ps, F, st, N, h1, h2, h3, h4, h5, h6, h7, h8⟩ := ok.fn x f hf
    refine ⟨fa, fd, ps, F, h1, h2.kp, h4, h5, h8, ⟨fun A outer s H args us vs Q hr hg e0 hb r hl hsp => ?_⟩⟩
    obtain ⟨O, B, sl, d, fr, o, sr, hcl, hnr, q⟩ := hsp
    obtain ⟨oc, od, dV, kV, doc, pm, an, cdv, ct, osl, rfl, lk, hcd⟩ := h2.ex
    have hN : ps.length ≤ N.length := by
      have := congrArg List.length h3.pre
      rw [List.length_take] at this
      omega
    have S := h3
    have KX : K.In s.heap := e0.mod.kin.keeps fun b o e => (e0.bs b o e).1
    have lim : s.heap.NoLimit := e0.mod.nolimit.keeps fun b o e => (e0.bs b o e).1
    have hkind : ∀ y ∈ ps.zip us, (defScope st).names.lookup y.1 = some .local ∨ ((defScope st).names.lookup y.1 = some .cell ∧ ((cellsFrom (s.heap.objs.size + 1) (defScope st).names []).lookup y.1).isSome = true) := fun ⟨nm, v⟩ hy => by
      rcases S.par nm (List.of_mem_zip hy).1 with z | z
      · exact .inl z
      · exact .inr ⟨z, PySem.W.cellsFrom_some _ _ _ (.inl z)⟩
    refine codeAny_call_function hr.depth (KX _ _ lk) rfl S.co S.gen rfl (PySem.W.codeRec_of KX hcd) (hb _ _ _ _ ?_)
    refine wpAny_newFunctionEnv_cells S.kind hkind fun env he s1 y => ?_
    subst he
    refine ⟨lim.keeps y.toInCall.keep, codeAny_func ?_⟩
    -- the body
    have hrm := hr.deeper (envOfC x (defScope st) s.heap.objs.size fa cdv)
    have hX : XOk { M with N := N } P (callN P n) n (cxOf CX0 Pg w K mg base N x (defScope st) fa cdv A outer s H E0).nox :=
      ⟨rfl, S.nd, rfl, by have := hrm.un; show (A.deeper _).units + 100 < cLine; omega, hg, hrm, ok.bl, ok.gl, fun x f hf => ih x f hf, ok.rp, ok.inS, ok.cnt⟩
    have body := cB_ok (k := keepK F) hX (fun _ => rfl) S.kind PassesOwn.never 30 (defBody st)
    have e7 : (defBody st).map (cS { M with N := N } 30 ((cxOf CX0 Pg w K mg base N x (defScope st) fa cdv A outer s H E0).nox.env.scope)) = F.body := h7.symm
    rw [e7] at body
    have hq := body_end (Q := Q) (N := N) h4 h6 (by rw [hl, h5]) (by rw [hl]; exact hN) sr hcl hnr q
    have I : Inv (cxOf CX0 Pg w K mg base N x (defScope st) fa cdv A outer s H E0) [] (L2.start N vs) H s1 := inv_start S hr.hd e0 hl r y
    refine wpAny_mono (body.nox.run [] s1 (L2.start N vs) H _ I hq) (fun fl s' hs => ?_) fun e s' hs => hs
    cases fl with
    | ret u =>
      obtain ⟨v, σ', H', J, rv, qq⟩ := hs
      exact ⟨v, H', J.os, J.bare, J.base, J.hok, rv, qq⟩
    | next =>
      obtain ⟨σ', H', J, qq⟩ := hs
      exact ⟨.non, H', J.os, J.bare, J.base, J.hok, rfl, qq⟩
    | brk =>
      obtain ⟨_, _, _, qq⟩ := hs
      exact False.elim qq
    | cont =>
      obtain ⟨_, _, _, qq⟩ := hs
      exact False.elim qq
end Pv
namespace Pv
open PySem PySem.Spec PyProof.Rows L2
/-- the script as a tree -/
def scriptD (ns : List Int) : D := .scr (ns.map .int)
theorem ints_rp {K : PySem.W.Frag} {H : Hp} {W : Addr → Prop} : ∀ ns : List Int, RpL K H W (ns.map .int) (ns.map V.int)
  | [] => .nil
  | n :: ns => .cons (int_rp n) (ints_rp ns)
section
variable {Pg : Program} {w : World} {K : PySem.W.Frag} {mg mb : Str → Option Value} {M : Tab} {P : Sys} {s1 : Shared}
/-- the law called at the heap behind the top: only the script may be tracked -/
theorem law_core {k f : Nat} {nm : Str} {fa a : Addr} {items : List Value} {ns : List Int} {fr : Bool} {o : Env} {pt : Pat} (ok : ModOk M P K mg) (hf : M.fn.lookup nm = some f) (hfa : mg nm = some (.ref fa)) (hpt : pt ∈ M.pt) (hp1 : pt = ⟨f, 1, [], [0], []⟩)
    (hnp : ∀ F, P.fns[f]? = some F → F.np = 1) (inK : K.In s1.heap) (nsG : s1.heap.Ns mainGlobals mg) (nsB : s1.heap.Ns builtinsNs mb) (hmb : ∀ x : Str, x ≠ "__name__" → mb x = bootBuiltins x) (nolim : s1.heap.NoLimit) (gens0 : s1.gens = #[])
    (hscr : s1.heap.get? a = some { cls := .type "list", data := .seq items.toArray }) (hints : IntsAre items ns) (hlen : ns.length ≤ sizeLine) (room : Room k callerA)
    (hlaw : callN P k f [.v (scriptD ns)] = .ok (.bl true) fr o) :
    codeAny (model Pg w) callerA (.call (.ref fa) ⟨[.ref a], []⟩) (fun r s' => r = .ok (.ret (.bool true)) ∧ OldK s1.heap s'.heap ∧ s'.os = s1.os ∧ AllBare s'.gens) s1 := by
  have vi := vals_ints hints
  have li := hints.length
  -- H: what is tracked ahead of the call
  have core : ∀ H : Hp, (∀ b u, H b = some u → b = a ∧ u = .frz { cls := .type "list", data := .seq items.toArray } (.lst (ns.map V.int))) → (H a ≠ none ∨ KL K a (ns.map V.int)) → (H a ≠ none → K.lookup a = none) →
      codeAny (model Pg w) callerA (.call (.ref fa) ⟨[.ref a], []⟩) (fun r s' => r = .ok (.ret (.bool true)) ∧ OldK s1.heap s'.heap ∧ s'.os = s1.os ∧ AllBare s'.gens) s1 := by
    intro H hH hS hK
    have held : HOk Pg w H s1.heap := fun b u e => by
      obtain ⟨rfl, rfl⟩ := hH b u e
      exact ⟨hscr, by rw [List.length_map]; exact hlen, items, _, vi, hscr⟩
    have isDict : ∀ {b : Addr} {ob : Obj} {es : Array DictEntry} {ep : Nat}, s1.heap.get? b = some ob → ob.data = .dict es ep → H b = none := fun {b ob es ep} e hd => by
      cases q : H b with
      | none => rfl
      | some u =>
        obtain ⟨rfl, _⟩ := hH b u q
        rw [hscr] at e
        cases e
        cases hd
    have nsOf : ∀ {b : Addr} {m : Str → Option Value}, s1.heap.Ns b m → (hidT s1.heap H).Ns b m := fun {b m} ⟨ob, es, ep, e, hd, rest⟩ => ⟨ob, es, ep, hidT_get e (isDict e hd), hd, rest⟩
    have kIn : K.In (hidT s1.heap H) := fun b ob e => hidT_get (inK b ob e) (by
      cases q : H b with
      | none => rfl
      | some u =>
        obtain ⟨rfl, _⟩ := hH b u q
        rw [hK (by rw [q]; exact fun z => nomatch z)] at e
        cases e)
    have md : Mod K mg (hidT s1.heap H) := ⟨kIn, nsOf nsG, ⟨mb, nsOf nsB, hmb⟩, let ⟨mc, n1, n2⟩ := nolim; ⟨mc, nsOf n1, n2⟩⟩
    have env0 : Env0 Pg w K mg (hidT s1.heap H) callerA [] s1 H :=
      { frames := rfl, mod := md, bs := fun b ob e => of_hidT e, bsz := Nat.le_of_eq (hidT_size s1.heap H), funs := trivial, frf := fun b hb => (nomatch (show b ∈ ([] : List Addr) from hb)), hok := held, bare := .of_eq gens0 }
    obtain ⟨fa', fd, ps, F, m1, m2, m3, m4, m5, G⟩ := fn_all (Pg := Pg) (w := w) (base := hidT s1.heap H) ok k nm f hf
    rw [hfa] at m1
    cases m1
    have np1 := hnp F m3
    obtain ⟨dv, _, hb⟩ := m5 pt hpt (by rw [hp1])
    obtain ⟨bs, rb, hbind⟩ := hb s1 [.ref a] [] [.ref a] [] inK (by rw [hp1]; rfl) (by rw [hp1]; rfl) (.cons rfl .nil) .nil
    have ev : ordV ps.length pt.ix ([V.ref a] ++ []) dv = [V.ref a] := by rw [m4, np1, hp1]; rfl
    rw [ev] at rb
    have hks : pt.ks = [] := by rw [hp1]
    rw [hks] at hbind
    have rp : Rp K H (OW [] [none]) (scriptD ns) (.ref a) := by
      simp only [scriptD, Rp]
      refine ⟨a, ns.map V.int, rfl, ?_, ints_rp ns⟩
      rcases hS with hS | hS
      · cases q : H a with
        | none => exact absurd q hS
        | some u =>
          obtain ⟨_, rfl⟩ := hH a u q
          exact .inl ⟨.inr ⟨_, q⟩, fun z => by rcases z with z | z <;> simp at z⟩
      · exact .inr hS
    have sr : SR K H [] [none] [Sl.v (scriptD ns)] ([V.ref a].map some) := by
      refine ⟨rfl, rfl, fun c hc => (nomatch hc), fun i j c hi hj => ?_, fun c hc => ?_, fun i d hd => ?_, fun i d hd => ?_, fun i d hd => ?_, fun i hd => ?_⟩
      · cases i with
        | zero => cases hi
        | succ i => simp at hi
      · rcases hc with z | z <;> simp at z
      · cases i with
        | zero => cases hd; exact ⟨rfl, .ref a, rfl, rp⟩
        | succ i => simp at hd
      all_goals
        cases i with
        | zero => cases hd
        | succ i => simp at hd
    have run := G.run callerA [] s1 H ⟨[.ref a], []⟩ bs [.ref a] (fun v _ => v = .bl true) room rfl env0 hbind rb (by rw [m4, np1]; rfl)
      ⟨[], [none], [Sl.v (scriptD ns)], .bl true, fr, o, sr, hlaw, rfl, fun v H' O' B' _ vr => vr.bl.1⟩
    refine codeAny_mono run fun r s' h => ?_
    match r, h with
    | .ok (.ret u), ⟨v, H', h1, h2, h3, h4, h5, h6⟩ =>
      have h6' : v = .bl true := h6
      subst h6'
      have hu : u = Value.bool true := h5
      subst hu
      refine ⟨rfl, OldK.of_keep fun b ob e => ?_, h1, h2⟩
      cases q : H b with
      | none => exact h3.keep b ob e q (fun z => (nomatch (show b ∈ ([] : List Addr) from z))) fun z => nomatch z
      | some u =>
        obtain ⟨rfl, rfl⟩ := hH b u q
        have e2 := h4 _ _ (h3.frzs _ _ _ q)
        rw [hscr] at e
        cases e
        exact e2.1
    | .error e, h => exact False.elim h
    | .ok .next, h => exact False.elim h
    | .ok .brk, h => exact False.elim h
    | .ok .cont, h => exact False.elim h
  cases hk : K.lookup a with
  | some ob =>
    have e := inK a ob hk
    rw [hscr] at e
    cases e
    refine core (fun _ => none) (fun b u z => nomatch z) (.inr ⟨_, items.toArray, _, hk, rfl, rfl, rfl, by rw [List.size_toArray, li]; exact hlen, by simpa using vi⟩) fun z => absurd rfl z
  | none =>
    refine core (fun b => if b = a then some (.frz { cls := .type "list", data := .seq items.toArray } (.lst (ns.map V.int))) else none) (fun b u z => ?_) (.inl ?_) fun _ => hk
    · by_cases hb : b = a
      · have z' := (if_pos hb).symm.trans z
        exact ⟨hb, (Option.some.inj z').symm⟩
      · have z' := (if_neg hb).symm.trans z
        cases z'
    · rw [if_pos rfl]
      exact fun z => nomatch z
end
/-- THE END: a row from a run of the own syntax -/
theorem walk_law {l : PySem.W.OpenLaw} {n k f : Nat} {q : Program} {loose : List Str} {XP : (Str → Option Value) → Heap → Prop} {YP : World → Heap → Prop} {d : DefRec} {M : Tab} {P : Sys}
    (hn : l.most = some n) (hn2 : n ≤ sizeLine) (hdf : d.params.defaults = []) (room : Room k callerA)
    (hf : M.fn.lookup d.name = some f) (hpt : (⟨f, 1, [], [0], []⟩ : Pat) ∈ M.pt) (hnp : ∀ F, P.fns[f]? = some F → F.np = 1)
    (ok : ∀ (w : World) (mg : Str → Option Value) (fa : Addr) (h : Heap), YP w h → h.Ns mainGlobals mg → mg d.name = some (.ref fa) → ∃ K : PySem.W.Frag, K.In h ∧ ModOk M P K mg)
    (hlaw : ∀ ns : List Int, ns.length ≤ n → ∃ fr o, callN P k f [.v (scriptD ns)] = .ok (.bl true) fr o) :
    PySem.W.WalkO q loose XP YP l.row.toRowW d [] (fun f vs => PySem.call f vs) := by
  refine Att.attach_call hn hdf fun w s0 s1 mg mb fa o pm cd doc a vs ns G Y ho hd hcd hmg hobj hints hlen hg => ?_
  obtain ⟨K, kin, mo⟩ := ok w mg fa _ Y G.T.g hmg
  obtain ⟨fr, oo, hl⟩ := hlaw ns hlen
  exact law_core mo hf hmg hpt rfl hnp kin G.T.g G.T.b G.T.builtins G.T.nolimit hg hobj hints (Nat.le_trans hlen hn2) room hl
end Pv
namespace Pv
open PySem PySem.Spec PyProof.Rows L2
mutual
def gB (K : PySem.W.Frag) : D → Value → Bool
  | .non, .none => true
  | .bl b, .bool c => b == c
  | .int i, .int j _ => decide (i = j)
  | .str s, .str y _ => decide (sS s = y)
  | .tup xs, .ref a => match K.lookup a with
    | some ⟨.type c, _, .seq its _, _⟩ => decide (c = "tuple") && (decide (its.size ≤ sizeLine) && gBL K xs its.toList)
    | _ => false
  | _, _ => false
def gBL (K : PySem.W.Frag) : List D → List Value → Bool
  | [], [] => true
  | x :: xs, u :: us => gB K x u && gBL K xs us
  | _, _ => false
end
mutual
theorem gB_ok {K : PySem.W.Frag} : ∀ (d : D) (u : Value), gB K d u = true → ∃ v, RelV v u ∧ ∀ H W, Rp K H W d v
  | .non, u, h => by
    cases u <;> first | (simp [gB] at h; done) | exact ⟨.non, rfl, fun _ _ => by simp [Rp]⟩
  | .bl b, u, h => by
    cases u <;> first | (simp [gB] at h; done) | skip
    simp [gB] at h
    subst h
    exact ⟨.bl b, rfl, fun _ _ => by simp [Rp]⟩
  | .int i, u, h => by
    cases u <;> first | (simp [gB] at h; done) | skip
    simp [gB] at h
    subst h
    exact ⟨.int i, ⟨_, rfl⟩, fun _ _ => by simp [Rp]⟩
  | .str s, u, h => by
    cases u <;> first | (simp [gB] at h; done) | skip
    simp [gB] at h
    subst h
    exact ⟨.str (sS s), ⟨_, rfl⟩, fun _ _ => by simp [Rp]⟩
  | .tup xs, u, h => by
    cases u <;> first | (simp [gB] at h; done) | skip
    rename_i a
    simp only [gB] at h
    cases q : K.lookup a with
    | none => rw [q] at h; cases h
    | some o =>
      obtain ⟨oc, od, dt, osl⟩ := o
      rw [q] at h
      cases oc with
      | type c =>
        cases dt with
        | seq its n =>
          simp only [Bool.and_eq_true, decide_eq_true_eq] at h
          obtain ⟨h1, h2, h3⟩ := h
          obtain ⟨vs, r1, r2⟩ := gBL_ok xs its.toList h3
          exact ⟨.ref a, rfl, fun H W => by simp only [Rp]; exact ⟨a, vs, rfl, .inr ⟨_, its, n, q, congrArg Value.type h1, rfl, h2, r1⟩, r2 H W⟩⟩
        | _ => cases h
      | _ => cases dt <;> cases h
  | .lst _, u, h => by cases u <;> simp [gB] at h
  | .dic _ _, u, h => by cases u <;> simp [gB] at h
  | .sset _, u, h => by cases u <;> simp [gB] at h
  | .ins _ _ _, u, h => by cases u <;> simp [gB] at h
  | .fn _, u, h => by cases u <;> simp [gB] at h
  | .clo _ _, u, h => by cases u <;> simp [gB] at h
  | .exn _ _, u, h => by cases u <;> simp [gB] at h
  | .ref _, u, h => by cases u <;> simp [gB] at h
  | .scr _, u, h => by cases u <;> simp [gB] at h
  | .dead, u, h => by cases u <;> simp [gB] at h
theorem gBL_ok {K : PySem.W.Frag} : ∀ (xs : List D) (us : List Value), gBL K xs us = true → ∃ vs, Vals vs us ∧ ∀ H W, RpL K H W xs vs
  | [], [], _ => ⟨[], .nil, fun _ _ => by simp [RpL]⟩
  | x :: xs, u :: us, h => by
    simp only [gBL, Bool.and_eq_true] at h
    obtain ⟨v, h1, h2⟩ := gB_ok x u h.1
    obtain ⟨vs, h3, h4⟩ := gBL_ok xs us h.2
    exact ⟨v :: vs, .cons h1 h3, fun H W => by simp only [RpL]; exact ⟨h2 H W, h4 H W⟩⟩
  | [], _ :: _, h => by simp [gBL] at h
  | _ :: _, [], h => by simp [gBL] at h
end
/-- a def of the table -/
structure Rw where
  x : Str
  st : Stmt
  N : List Str
  ps : List Str
  F : Fn
  dfl : List He.Dv
def Rw.dd (r : Rw) : He.DefD := ⟨(r.x, none), r.x, r.x, defArgs r.st, defBody r.st, defScope r.st, r.dfl, []⟩
def RwOk (M : Tab) (r : Rw) : Prop := FnScope r.N r.ps (defScope r.st) ∧ r.ps.length = r.F.np ∧ r.F.ns = r.N.length ∧ r.F.body = (defBody r.st).map (cS { M with N := r.N } 30 (defScope r.st))
def glK (K : PySem.W.Frag) (p : Str × D) : Bool := match PySem.W.nsIn K mainGlobals p.1 with
  | some (some u) => gB K p.2 u
  | _ => false
def dfB (K : PySem.W.Frag) (d : He.DefD) : Bool := He.eqO (PySem.W.nsIn K mainGlobals d.name) (some (some (.ref (He.fAd K d.at_)))) && d.ok K
def obsP (bl : List Str) (gl : List (Str × D)) (fn : List He.DefD) (K : PySem.W.Frag) : He.AlD :=
  (((bl.all fun x => He.eqO (PySem.W.nsIn K mainGlobals x) (some none)) && gl.all (glK K)) && fn.all (dfB K), fn.map fun d => He.fnW K d.at_)
def SaysP (bl : List Str) (gl : List (Str × D)) (fn : List He.DefD) (K : PySem.W.Frag) : Prop := obsP bl gl fn K = He.valD fn
def obsPG (n : Nat) (bl : List Str) (gl : List (Str × D)) (fn : List He.DefD) (g : Addr → Option Obj) : He.AlD := obsP bl gl fn (He.frG g (He.asD g n))
def hookP (n : Nat) (bl : List Str) (gl : List (Str × D)) (fn : List He.DefD) : PySem.W.Hook where
  α := He.AlD
  obs := fun s => obsPG n bl gl fn s.heap.get?
  val := fun _ => He.valD fn
  says := fun _ h => ∃ K : PySem.W.Frag, K.In h ∧ SaysP bl gl fn K
  of := fun _ _ e => ⟨_, He.frG_in, e⟩
  keeps := fun _ _ _ ⟨K, hK, c⟩ k => ⟨K, PySem.W.Frag.In.keeps hK k, c⟩
theorem obsPG_eq {n : Nat} {bl : List Str} {gl : List (Str × D)} {fn : List He.DefD} {g : Addr → Option Obj} {s : Shared} (h : ∀ a, g a = s.heap.get? a) : obsPG n bl gl fn g = (hookP n bl gl fn).obs s := by
  have e : g = s.heap.get? := funext h
  rw [e] <;> rfl
theorem lookup_mem {α β : Type} [BEq α] [LawfulBEq α] : ∀ {l : List (α × β)} {x : α} {b : β}, l.lookup x = some b → (x, b) ∈ l
  | (y, c) :: l, x, b, h => by
    rw [List.lookup_cons] at h
    split at h
    · rename_i e
      have e' : x = y := by simpa using e
      cases h
      subst e'
      exact List.mem_cons_self
    · exact List.mem_cons_of_mem _ (lookup_mem h)
theorem FunX.of {K : PySem.W.Frag} {x : Str} {st : Stmt} {dvs : List V} {kws : List (Str × V)} {f : Addr} {fd : FuncData} (F : FunD K x x (defArgs st) (defBody st) (defScope st) dvs kws f fd) : FunX K x st f fd := by
  obtain ⟨oc, od, dV, kV, doc, pm, an, cdv, ct, osl, e, lk, hc, _, _⟩ := F.ex
  exact ⟨⟨oc, od, dV, kV, doc, pm, an, cdv, ct, osl, e, lk, hc⟩, F.kp⟩
/-- every pattern of calls binds as the table says -/
def PtOk (M : Tab) (rows : List Rw) : Prop := ∀ pt ∈ M.pt, ∀ r, rows[pt.f]? = some r → ∀ (K : PySem.W.Frag) (f : Addr) (fd : FuncData), FunD K r.x r.x (defArgs r.st) (defBody r.st) (defScope r.st) (r.dfl.map (He.Dv.v K)) [] f fd → PatOk K fd r.ps pt
theorem modOk_of {M : Tab} {P : Sys} {rows : List Rw} {K : PySem.W.Frag} {h : Heap} {mg : Str → Option Value} (hfn : M.fn = (rows.map (·.x)).zipIdx) (hP : P.fns = rows.map (·.F)) (hr : ∀ r ∈ rows, RwOk M r) (hp : PtOk M rows)
    (rp : P.rp = reprS) (ins : P.inS = inStr) (cnt : P.cnt = cntStr) (X : K.In h) (G : h.Ns mainGlobals mg) (c : SaysP M.bl M.gl (rows.map Rw.dd) K) : ModOk M P K mg := by
  have c1 : (((M.bl.all fun x => He.eqO (PySem.W.nsIn K mainGlobals x) (some none)) && M.gl.all (glK K)) && (rows.map Rw.dd).all (dfB K)) = true := congrArg (fun z : He.AlD => z.1) c
  have c2 : (rows.map Rw.dd).map (fun d => He.fnW K d.at_) = (rows.map Rw.dd).map He.DefD.val := congrArg (fun z : He.AlD => z.2) c
  simp only [Bool.and_eq_true, List.all_eq_true] at c1
  obtain ⟨⟨b1, b2⟩, b3⟩ := c1
  refine ⟨fun x hx => ?_, fun x d hx => ?_, fun x f hx => ?_, rp, ins, cnt⟩
  · exact PySem.W.mg_none_of X G (He.eqO_ok (b1 x (by simpa using hx)))
  · have := b2 (x, d) (lookup_mem hx)
    unfold glK at this
    simp only at this
    split at this
    · rename_i u e
      obtain ⟨v, h1, h2⟩ := gB_ok d u this
      exact ⟨v, u, PySem.W.mg_of X G e, h1, h2⟩
    · cases this
  · rw [hfn] at hx
    have hm := List.mem_zipIdx_iff_getElem?.mp (lookup_mem hx)
    simp only [List.getElem?_map, Option.map_eq_some_iff] at hm
    obtain ⟨r, hr1, rfl⟩ := hm
    have hmem := List.mem_of_getElem? hr1
    obtain ⟨s1, s2, s3, s4⟩ := hr r hmem
    have b := b3 r.dd (List.mem_map.mpr ⟨r, hmem, rfl⟩)
    unfold dfB at b
    obtain ⟨e1, e2⟩ := Bool.and_eq_true_iff.mp b
    have e3 : He.fnW K r.dd.at_ = r.dd.val := by
      have := congrArg (fun l => l[f]?) c2
      simp only [List.getElem?_map, hr1, Option.map_some, Option.some.injEq] at this
      exact this
    obtain ⟨fd, F⟩ := He.DefD.funD e3 e2
    exact ⟨_, fd, r.ps, r.F, r.st, r.N, PySem.W.mg_of X G (He.eqO_ok e1), FunX.of F, s1, by rw [hP, List.getElem?_map, hr1]; rfl, s2, s3, s4, fun pt hpt hf => hp pt hpt r (by rw [hf]; exact hr1) K _ fd F⟩
/-- a pattern without defaults -/
theorem PatOk.row {r : Rw} {K : PySem.W.Frag} {f : Addr} {fd : FuncData} {pt : Pat} (F : FunD K r.x r.x (defArgs r.st) (defBody r.st) (defScope r.st) (r.dfl.map (He.Dv.v K)) [] f fd) (h0 : r.dfl = []) (hd : pt.ds = [])
    (h : ∀ (kV doc pm : Value) (an : Option Addr) (cdv ct : Value) (us ws : List Value), us.length = pt.n → ws.length = pt.ks.length → bindArgs (PySem.W.fnOf r.x r.x (defArgs r.st) (defBody r.st) (defScope r.st) .none kV doc pm an cdv ct) ⟨us, pt.ks.zip ws⟩ = pure (r.ps.zip (ordU r.ps.length pt.ix (us ++ ws)))) : PatOk K fd r.ps pt := by
  obtain ⟨oc, od, dV, kV, doc, pm, an, cdv, ct, osl, rfl, lk, hc, hD, _⟩ := F.ex
  rw [h0] at hD
  rcases hD with ⟨_, rfl⟩ | ⟨e, _⟩
  · exact PatOk.plain hd fun us ws h1 h2 => h kV doc pm an cdv ct us ws h1 h2
  · exact absurd rfl e
/-- a pattern by place, the defaults behind the first j fill up -/
theorem PatOk.dfl {r : Rw} {K : PySem.W.Frag} {f : Addr} {fd : FuncData} {pt : Pat} (F : FunD K r.x r.x (defArgs r.st) (defBody r.st) (defScope r.st) (r.dfl.map (He.Dv.v K)) [] f fd) (j : Nat) (dv : List (Nat × V)) (hne : r.dfl ≠ []) (hk : pt.ks = []) (hn : pt.n + (r.dfl.length - j) = r.ps.length)
    (hdv : ∀ p d, pt.ds.lookup p = some d → ∃ v, dv.lookup p = some v ∧ ∀ H W, Rp K H W d v)
    (ho : ∀ vs : List V, vs.length = pt.n → ordV r.ps.length pt.ix vs dv = vs ++ (r.dfl.map (He.Dv.v K)).drop j)
    (h : ∀ (T : Addr) (kV doc pm : Value) (an : Option Addr) (cdv ct : Value) (us its : List Value), us.length = pt.n → its.length = r.dfl.length →
      ∃ k, bindArgs (PySem.W.fnOf r.x r.x (defArgs r.st) (defBody r.st) (defScope r.st) (.ref T) kV doc pm an cdv ct) ⟨us, []⟩ = seqItems? (.ref T) >>= k ∧ k (some its.toArray) = pure (r.ps.zip (us ++ its.drop j))) : PatOk K fd r.ps pt := by
  have hne' : r.dfl.map (He.Dv.v K) ≠ [] := by simpa using hne
  obtain ⟨ds, hv, hb⟩ := FunD.binds1 F pt.n j hne' (by rw [List.length_map]; exact hn) (fun T kV doc pm an cdv ct us its h1 h2 => h T kV doc pm an cdv ct us its h1 (by rw [h2, List.length_map]))
  refine ⟨dv, hdv, fun s us ws vs zs X h1 h2 r1 r2 => ?_⟩
  have e : ws = [] := by rw [hk] at h2; exact List.length_eq_zero_iff.mp h2
  subst e
  have e : zs = [] := by cases r2; rfl
  subst e
  have l1 : vs.length = pt.n := by rw [r1.length]; exact h1
  refine ⟨us ++ ds, ?_, ?_⟩
  · rw [List.append_nil, ho vs l1]
    exact r1.append hv
  · rw [hk]
    refine hb s us X ?_
    have := hv.length
    rw [List.length_append, h1, ← this, List.length_drop, List.length_map]
    exact hn
end Pv
namespace Pv
def Res.Ok {α : Type} (x : Res α) (Q : α → Env → Prop) : Prop :=
  match x with
  | .ok a r => Q a r
  | _ => False
@[simp] theorem Res.Ok_ok {α : Type} (a : α) (r : Env) (Q : α → Env → Prop) : (Res.ok a r).Ok Q = Q a r := rfl
@[simp] theorem Res.Ok_no {α : Type} (Q : α → Env → Prop) : (Res.no : Res α).Ok Q = False := rfl
@[simp] theorem Res.Ok_bind {α β : Type} (x : Res α) (f : α → Env → Res β) (Q : β → Env → Prop) : (x.bind f).Ok Q = x.Ok (fun a r => (f a r).Ok Q) := by
  cases x <;> rfl
theorem Res.Ok.mono {α : Type} {x : Res α} {Q Q' : α → Env → Prop} (h : x.Ok Q) (g : ∀ a r, Q a r → Q' a r) : x.Ok Q' := by
  cases x with
  | ok a r => exact g _ _ h
  | exc _ _ => exact h
  | no => exact h
theorem Res.Ok_ite {α : Type} {c : Prop} [Decidable c] (x y : Res α) (Q : α → Env → Prop) : (if c then x else y).Ok Q = if c then x.Ok Q else y.Ok Q := by
  split <;> rfl
def Rc.Ok (x : Rc) (Q : D → Bool → Env → Prop) : Prop :=
  match x with
  | .ok d fr o => Q d fr o
  | _ => False
theorem Rc.Ok.mono {x : Rc} {Q Q' : D → Bool → Env → Prop} (h : x.Ok Q) (g : ∀ d fr o, Q d fr o → Q' d fr o) : x.Ok Q' := by
  cases x with
  | ok a b c => exact g _ _ _ h
  | exc _ _ => exact h
  | no => exact h
@[simp] theorem Rc.Ok_ok (d : D) (fr : Bool) (o : Env) (Q : D → Bool → Env → Prop) : (Rc.ok d fr o).Ok Q = Q d fr o := rfl
/-- what a def hands back when its body ends so -/
def fin (F : Fn) (Q : D → Bool → Env → Prop) : Fl → Env → Prop
  | .rt d fr, r => match outD F.np d fr r with | some (x, fr', r') => Q x fr' (outs F r') | none => False
  | .nx, r => Q .non false (outs F r)
  | _, _ => False
theorem call_of {P : Sys} {n f : Nat} {sl : List Sl} {F : Fn} {Q : D → Bool → Env → Prop} (hf : P.fns[f]? = some F) (hl : sl.length = F.np) (hs : slOk F sl = true)
    (h : (exB P (callN P n) (keepK F) F.body (sl ++ List.replicate (F.ns - F.np) .e)).Ok (fin F Q)) : (callN P (n + 1) f sl).Ok Q := by
  unfold callN
  simp only [hf, hl, hs, and_self, if_true]
  generalize exB P (callN P n) (keepK F) F.body (sl ++ List.replicate (F.ns - F.np) .e) = x at h
  match x, h with
  | .ok (.rt d fr) r, h =>
    simp only [Res.Ok_ok, fin] at h
    simp only
    split at h
    · rename_i e; first | exact h | (simp only [e]; exact h)
    · exact absurd h id
  | .ok .nx r, h => exact h
  | .ok .bk r, h => exact absurd h id
  | .ok .ct r, h => exact absurd h id
  | .exc _ _, h => exact absurd h id
  | .no, h => exact absurd h id
theorem callE_of {P : Sys} {n f : Nat} {ix : List Nat} {ds : List (Nat × D)} {as : List (D × Bool)} {r : Env} {F : Fn} {sl : List Sl} {Q : D × Bool → Env → Prop}
    (hf : P.fns[f]? = some F) (hc : callOk F ix as = true) (hs : argSl (fkeep P f) r F.np ix as ds = some sl)
    (h : (callN P n f sl).Ok fun d fr o => isRef d = false ∧ Q (d, fr) (wback o (moved ix as) r)) : (callE P (callN P n) f ix ds as r).Ok Q := by
  unfold callE
  simp only [hf, hc, if_true, hs, opt_some]
  generalize callN P n f sl = x at h
  match x, h with
  | .ok d fr o, h =>
    simp only [h.1, Bool.false_eq_true, if_false]
    exact h.2
  | .exc _ _, h => exact absurd h id
  | .no, h => exact absurd h id
end Pv
namespace Pv
section
variable (r : Env) (i j k : Int) (n : Nat) (s t : List Nat) (xs ys : List D) (b c : Bool) (d x y : D)
@[simp] theorem rd_ref : rd r (.ref n) = (match r[n]? with | some (.o d) => some d | some (.l d) => some d | some (.v d) => some d | _ => none) := rfl
@[simp] theorem rd_non : rd r .non = some .non := rfl
@[simp] theorem rd_bl : rd r (.bl b) = some (.bl b) := rfl
@[simp] theorem rd_int : rd r (.int i) = some (.int i) := rfl
@[simp] theorem rd_str : rd r (.str s) = some (.str s) := rfl
@[simp] theorem rd_tup : rd r (.tup xs) = some (.tup xs) := rfl
@[simp] theorem rd_lst : rd r (.lst xs) = some (.lst xs) := rfl
@[simp] theorem rd_scr : rd r (.scr xs) = some (.scr xs) := rfl
@[simp] theorem rd_dic : rd r (.dic xs ys) = some (.dic xs ys) := rfl
@[simp] theorem fz_ref : fz r (.ref n) = (match r[n]? with | some (.o d) => some (d, r.set n (.v d)) | some (.v d) => some (d, r) | _ => none) := rfl
@[simp] theorem fz_non : fz r .non = some (.non, r) := rfl
@[simp] theorem fz_bl : fz r (.bl b) = some (.bl b, r) := rfl
@[simp] theorem fz_int : fz r (.int i) = some (.int i, r) := rfl
@[simp] theorem fz_str : fz r (.str s) = some (.str s, r) := rfl
@[simp] theorem fz_tup : fz r (.tup xs) = some (.tup xs, r) := rfl
@[simp] theorem fz_lst : fz r (.lst xs) = some (.lst xs, r) := rfl
@[simp] theorem fz_scr : fz r (.scr xs) = some (.scr xs, r) := rfl
@[simp] theorem fz_dic : fz r (.dic xs ys) = some (.dic xs ys, r) := rfl
theorem rd_of (h : isRef d = false) : rd r d = some d := by cases d <;> first | rfl | cases h
theorem fz_of (h : isRef d = false) : fz r d = some (d, r) := by cases d <;> first | rfl | cases h
@[simp] theorem truth_non : truth .non = some false := rfl
@[simp] theorem truth_bl : truth (.bl b) = some b := rfl
@[simp] theorem truth_int : truth (.int i) = some (i != 0) := rfl
@[simp] theorem truth_str : truth (.str s) = if s.length ≤ LIM then some (!s.isEmpty) else none := rfl
@[simp] theorem truth_tup : truth (.tup xs) = some (!xs.isEmpty) := rfl
@[simp] theorem truth_lst : truth (.lst xs) = some (!xs.isEmpty) := rfl
@[simp] theorem op2_add_i : op2 .add (.int i) (.int j) = some (.int (i + j), false) := rfl
@[simp] theorem op2_add_s : op2 .add (.str s) (.str t) = if s.length + t.length ≤ LIM then some (.str (s ++ t), false) else none := rfl
@[simp] theorem op2_add_l : op2 .add (.lst xs) (.lst ys) = if xs.length + ys.length ≤ LIM then some (.lst (xs ++ ys), true) else none := rfl
@[simp] theorem op2_add_t : op2 .add (.tup xs) (.tup ys) = if xs.length + ys.length ≤ LIM then some (.tup (xs ++ ys), false) else none := rfl
@[simp] theorem op2_sub_i : op2 .sub (.int i) (.int j) = some (.int (i - j), false) := rfl
@[simp] theorem op2_mul_i : op2 .mul (.int i) (.int j) = if mulOk i j then some (.int (i * j), false) else none := rfl
@[simp] theorem op2_mul_s : op2 .mul (.str s) (.int k) = if s.length * k.toNat ≤ LIM && decide (k < 1000000) && decide (-1000000 < k) then some (.str (List.replicate k.toNat s).flatten, false) else none := rfl
@[simp] theorem op2_mul_l : op2 .mul (.lst xs) (.int k) = if xs.length * k.toNat ≤ LIM && decide (k < 1000000) && decide (-1000000 < k) then some (.lst (List.replicate k.toNat xs).flatten, true) else none := rfl
@[simp] theorem op2_mul_t : op2 .mul (.tup xs) (.int k) = if !xs.isEmpty && decide (2 ≤ k) && decide (k ≤ 1000) && decide (xs.length ≤ 1000) then some (.tup (List.replicate k.toNat xs).flatten, false)
    else if !xs.isEmpty && decide (k = 1) then some (.tup xs, false)
    else if !xs.isEmpty && decide (k ≤ 0) && decide (-1000000 < k) then some (.tup [], false) else none := rfl
@[simp] theorem op2_fdiv_i : op2 .fdiv (.int i) (.int j) = if 0 < j && decide (j < 1073741824) then some (.int (i / j), false) else none := rfl
@[simp] theorem op2_mod_i : op2 .mod (.int i) (.int j) = if 0 < j then some (.int (i % j), false) else none := rfl
variable (inS : List Nat → List Nat → Bool)
@[simp] theorem cmp_eq : cmpD inS .eq x y = if plain DEEP x && plain DEEP y then some (eqD x y) else none := by cases x <;> rfl
@[simp] theorem cmp_ne : cmpD inS .ne x y = if plain DEEP x && plain DEEP y then some (!eqD x y) else none := by cases x <;> rfl
@[simp] theorem cmp_lt : cmpD inS .lt (.int i) (.int j) = some (decide (i < j)) := rfl
@[simp] theorem cmp_le : cmpD inS .le (.int i) (.int j) = some (decide (i ≤ j)) := rfl
@[simp] theorem cmp_gt : cmpD inS .gt (.int i) (.int j) = some (decide (j < i)) := rfl
@[simp] theorem cmp_ge : cmpD inS .ge (.int i) (.int j) = some (decide (j ≤ i)) := rfl
@[simp] theorem cmp_in_s : cmpD inS .isin (.str s) (.str t) = some (inS s t) := rfl
@[simp] theorem cmp_nin_s : cmpD inS .notin (.str s) (.str t) = some (!inS s t) := rfl
@[simp] theorem cmp_in_l : cmpD inS .isin x (.lst xs) = if plain DEEP x && xs.all (plain DEEP) then some (inL x xs) else none := by cases x <;> rfl
@[simp] theorem cmp_in_t : cmpD inS .isin x (.tup xs) = if plain DEEP x && xs.all (plain DEEP) then some (inL x xs) else none := by cases x <;> rfl
@[simp] theorem cmp_nin_l : cmpD inS .notin x (.lst xs) = if plain DEEP x && xs.all (plain DEEP) then some (!inL x xs) else none := by cases x <;> rfl
@[simp] theorem cmp_nin_t : cmpD inS .notin x (.tup xs) = if plain DEEP x && xs.all (plain DEEP) then some (!inL x xs) else none := by cases x <;> rfl
@[simp] theorem ixD_scr : ixD (.scr xs) (.int i) = ati xs i := rfl
@[simp] theorem ixD_lst : ixD (.lst xs) (.int i) = ati xs i := rfl
@[simp] theorem ixD_tup : ixD (.tup xs) (.int i) = ati xs i := rfl
@[simp] theorem ixD_str : ixD (.str s) (.int i) = if s.length ≤ LIM then (ati s i).map fun c => .str [c] else none := rfl
@[simp] theorem optI_n : optI none = some none := rfl
@[simp] theorem optI_i : optI (some (.int i)) = some (some i) := rfl
variable (lo hi : Option Int)
@[simp] theorem slD_l : slD (.lst xs) lo hi = some (.lst (cut xs lo hi), true) := rfl
@[simp] theorem slD_t : slD (.tup xs) lo hi = some (.tup (cut xs lo hi), false) := rfl
@[simp] theorem slD_s : slD (.str s) lo hi = if s.length ≤ LIM then some (.str (cut s lo hi), false) else none := rfl
@[simp] theorem lenD_s : lenD (.str s) = if s.length ≤ LIM then some s.length else none := rfl
@[simp] theorem lenD_l : lenD (.lst xs) = some xs.length := rfl
@[simp] theorem lenD_c : lenD (.scr xs) = some xs.length := rfl
@[simp] theorem lenD_t : lenD (.tup xs) = some xs.length := rfl
variable (P : Sys)
@[simp] theorem bi_len : biD P .len [d] = (lenD d).map fun (n : Nat) => (D.int (n : Int), false) := by cases d <;> rfl
@[simp] theorem bi_abs : biD P .abs [.int i] = some (.int (if i < 0 then -i else i), false) := rfl
@[simp] theorem bi_int : biD P .int [.int i] = some (.int i, false) := rfl
@[simp] theorem bi_intb : biD P .int [.bl b] = some (.int (if b then 1 else 0), false) := rfl
@[simp] theorem bi_bool : biD P .bool [.bl b] = some (.bl b, false) := rfl
@[simp] theorem bi_sum : biD P .sum [.lst xs] = (intsOf xs).map fun ns => (.int (sumI ns), false) := rfl
@[simp] theorem bi_any : biD P .any [.lst xs] = (boolsOf xs).map fun bs => (.bl (bs.any id), false) := rfl
@[simp] theorem bi_all : biD P .all [.lst xs] = (boolsOf xs).map fun bs => (.bl (bs.all id), false) := rfl
@[simp] theorem bi_list_l : biD P .list [.lst xs] = some (.lst xs, true) := rfl
@[simp] theorem bi_list_t : biD P .list [.tup xs] = some (.lst xs, true) := rfl
@[simp] theorem bi_list_s : biD P .list [.str s] = if s.length ≤ LIM then some (.lst (chars s), true) else none := rfl
@[simp] theorem bi_tuple_l : biD P .tuple [.lst xs] = some (.tup xs, false) := rfl
@[simp] theorem bi_tuple_t : biD P .tuple [.tup xs] = some (.tup xs, false) := rfl
@[simp] theorem bi_tuple_s : biD P .tuple [.str s] = if s.length ≤ LIM then some (.tup (chars s), false) else none := rfl
@[simp] theorem bi_max : biD P .max [.lst xs] = (intsOf xs).bind fun ns => (maxI ns).map fun m => (.int m, false) := rfl
@[simp] theorem bi_min : biD P .min [.lst xs] = (intsOf xs).bind fun ns => (minI ns).map fun m => (.int m, false) := rfl
@[simp] theorem bi_max2 : biD P .max2 [.int i, .int j] = some (.int (if i < j then j else i), false) := rfl
@[simp] theorem bi_min2 : biD P .min2 [.int i, .int j] = some (.int (if j < i then j else i), false) := rfl
@[simp] theorem bi_divmod : biD P .divmod [.int i, .int j] = if 0 < j && decide (j < 1073741824) then some (.tup [.int (i / j), .int (i % j)], false) else none := rfl
@[simp] theorem mt_join : mtD P .join (.str s) [.lst xs] = (strsOf xs).bind fun ts => if (ts.map (·.length)).sum + ts.length * s.length ≤ LIM then some (.str (joinS s ts), false) else none := rfl
@[simp] theorem mt_index : mtD P .index (.lst xs) [x] = if flat x && xs.all flat then (idxL x xs).map fun (k : Nat) => (D.int (k : Int), false) else none := rfl
@[simp] theorem mt_count : mtD P .count (.str s) [.str t] = some (.int (P.cnt t s), false) := rfl
@[simp] theorem mu_append : muD .append (.lst xs) [x] = if xs.length + 1 ≤ LIM then some (.lst (xs ++ [x]), .non) else none := rfl
@[simp] theorem mu_extend : muD .extend (.lst xs) [.lst ys] = if xs.length + ys.length ≤ LIM then some (.lst (xs ++ ys), .non) else none := rfl
@[simp] theorem sbD_l : sbD (.lst xs) (.int i) x = (ixn xs.length i).map fun j => (.lst (xs.set j x), .non) := rfl
@[simp] theorem opt_ite {α β : Type} {p : Prop} [Decidable p] (u v : Option α) (f : α → Res β) : opt (if p then u else v) f = if p then opt u f else opt v f := by split <;> rfl
@[simp] theorem Ok_ite' {α : Type} {p : Prop} [Decidable p] (u v : Res α) (Q : α → Env → Prop) : (if p then u else v).Ok Q = if p then u.Ok Q else v.Ok Q := by split <;> rfl
theorem mulOk_r (h1 : -18446744073709551616 < j) (h2 : j < 18446744073709551616) : mulOk i j = true := by
  unfold mulOk BIG; simp [h1, h2]
theorem mulOk_l (h1 : -18446744073709551616 < i) (h2 : i < 18446744073709551616) : mulOk i j = true := by
  unfold mulOk BIG; simp [h1, h2]
theorem mulOk_m (h1 : 0 < k) (h2 : k < 18446744073709551616) : mulOk (i % k) j = true := by
  refine mulOk_l _ _ ?_ ?_
  · have := Int.emod_nonneg i (show k ≠ 0 by omega); omega
  · have := Int.emod_lt_of_pos i h1; omega
end
end Pv
namespace Pv
def PotOk (a b : Int) : Prop := 0 ≤ a ∧ 0 ≤ b ∧ b < 2147483648
def pt (a b : Int) : Sl := .o (.lst [.int a, .int b])
/-- a def of the law's own that draws: it hands back a value of which q holds, and a pot -/
def Dr (q : D → Bool → Prop) (m : Nat) : D → Bool → Env → Prop := fun d fr o => ∃ a b, o = pt a b :: List.replicate m .e ∧ PotOk a b ∧ isRef d = false ∧ q d fr
def bDraw (k1 k2 m1 m2 q : Int) : List MS := [.ife (.cmp (.gt) (.ix (.v 0) (.c (.int 0))) (.c (.int 0))) [.asg (.tp [.sb 0 (.c (.int 0)), .nm 2]) (.bi (.divmod) [.ix (.v 0) (.c (.int 0)), .v 1]), .ret (.v 2)] [], .asg (.sb 0 (.c (.int 1))) (.bin (.mod) (.bi (.int) [.bin (.add) (.bin (.mul) (.ix (.v 0) (.c (.int 1))) (.c (.int k1))) (.c (.int k2))]) (.c (.int m1))), .ret (.bin (.mod) (.bi (.int) [.bin (.fdiv) (.bin (.mod) (.bi (.int) [.bin (.mul) (.ix (.v 0) (.c (.int 1))) (.ix (.v 0) (.c (.int 1)))]) (.c (.int m2))) (.c (.int q))]) (.v 1))]
def gDraw (k1 k2 m1 m2 q : Int) : Fn := ⟨2, 3, [true, false, false], bDraw k1 k2 m1 m2 q⟩
/-- the def f of Z draws -/
structure DrawF (Z : Sys) (f : Nat) : Prop where
  np : ∃ F, Z.fns[f]? = some F ∧ F.np = 2 ∧ F.keep = [true, false, false]
  ok : ∀ (n : Nat) (a b m : Int), PotOk a b → 0 < m → m < 1073741824 → (callN Z (n + 1) f [pt a b, .v (.int m)]).Ok (Dr (fun d fr => fr = false ∧ ∃ i, d = .int i ∧ 0 ≤ i ∧ i < m) 1)
theorem draw_f {Z : Sys} {f : Nat} {k1 k2 m1 m2 q : Int} (hf : Z.fns[f]? = some (gDraw k1 k2 m1 m2 q)) (g1 : -18446744073709551616 < k1) (g2 : k1 < 18446744073709551616) (g3 : 0 < m1) (g4 : m1 < 2147483648) (g5 : 0 < m2) (g6 : m2 < 2147483648) (g7 : 0 < q) (g8 : q < 1073741824) : DrawF Z f := by
  refine ⟨⟨_, hf, rfl, rfl⟩, fun n a b m h h1 h2 => ?_⟩
  refine call_of hf rfl rfl ?_
  by_cases c : 0 < a
  · simp [Dr, gDraw, bDraw, exB, exS, evE, evL, tru, rdAll, ati, ixn, pt, c, h1, h2, stT, stTs, ownsL, putO, putV, keepK, fin, outD, outs, List.range_succ]
    refine ⟨_, _, ⟨rfl, rfl⟩, ⟨?_, h.2⟩, rfl, Int.emod_nonneg _ (by omega), Int.emod_lt_of_pos _ h1⟩
    exact Int.ediv_nonneg (by omega) (by omega)
  · have e1 : mulOk b k1 = true := mulOk_r _ _ g1 g2
    have e2 : ∀ x y : Int, mulOk (x % m1) y = true := fun x y => mulOk_m _ _ _ g3 (by omega)
    simp [Dr, gDraw, bDraw, exB, exS, evE, evL, tru, rdAll, ati, ixn, pt, c, h1, h2, stT, stTs, ownsL, putO, putV, keepK, fin, outD, outs, List.range_succ, e1, e2, g3, g5, g7, g8]
    exact ⟨_, _, ⟨rfl, rfl⟩, ⟨h.1, Int.emod_nonneg _ (by omega), by have := Int.emod_lt_of_pos (b * k1 + k2) g3; omega⟩, rfl, Int.emod_nonneg _ (by omega), Int.emod_lt_of_pos _ h1⟩
theorem callDraw {Z : Sys} {f : Nat} (hf : DrawF Z f) {n : Nat} {a b m : Int} {r : Env} {Q : D × Bool → Env → Prop} {j : Nat} (hr : r[j]? = some (pt a b)) (h : PotOk a b) (h1 : 0 < m) (h2 : m < 1073741824)
    (q : ∀ i a' b', 0 ≤ i → i < m → PotOk a' b' → Q (.int i, false) (r.set j (pt a' b'))) :
    (callE Z (callN Z (n + 1)) f [0, 1] [] [(.ref j, false), (.int m, false)] r).Ok Q := by
  obtain ⟨F, hF, hn, hk⟩ := hf.np
  refine callE_of hF (by unfold callOk; rw [hn]; rfl) (sl := [pt a b, .v (.int m)]) ?_ ((hf.ok n a b m h h1 h2).mono ?_)
  · simp [argSl, hn, hk, fkeep, argOf, hF, hr, List.range_succ, List.findIdx?, List.findIdx?.go, pt]
  · rintro d fr o ⟨a', b', rfl, hp, hd, rfl, i, rfl, hi⟩
    exact ⟨rfl, q i a' b' hi.1 hi.2 hp⟩
theorem fk_draw {Z : Sys} {f : Nat} (hf : DrawF Z f) : fkeep Z f 0 = true ∧ fkeep Z f 1 = false := by
  obtain ⟨F, hF, hn, hk⟩ := hf.np
  simp [fkeep, hF, hk]
theorem ati_ok {α : Type} {xs : List α} {i : Int} (h : 0 ≤ i) (h2 : i < xs.length) : ∃ x, ati xs i = some x ∧ x ∈ xs := by
  unfold ati ixn
  have e : i.toNat < xs.length := by omega
  exact ⟨xs[i.toNat], by simp [h, h2, e], List.getElem_mem _⟩
def bPick (f : Nat) : List MS := [.ret (.ix (.v 1) (.call f [.v 0, .bi (.len) [.v 1]] [0, 1] []))]
def gPick (f : Nat) : Fn := ⟨2, 2, [true, false], bPick f⟩
theorem pick_f {Z : Sys} {f fd : Nat} (hd : DrawF Z fd) (hf : Z.fns[f]? = some (gPick fd)) (n : Nat) (a b : Int) (xs : List D) (h : PotOk a b) (h1 : xs ≠ []) (h2 : xs.length < 1073741824) (hx : ∀ x, x ∈ xs → isRef x = false) :
    (callN Z (n + 2) f [pt a b, .v (.lst xs)]).Ok (Dr (fun d fr => fr = false ∧ d ∈ xs) 1) := by
  refine call_of hf rfl rfl ?_
  have e0 := fk_draw hd
  simp [gPick, bPick, exB, exS, evE, evL, evA, rdAll, pt, e0, keepK]
  have hl : 0 < xs.length := List.length_pos_iff.mpr h1
  refine callDraw hd (n := n) (j := 0) rfl h (by omega) (by omega) fun i a' b' q1 q2 hp => ?_
  obtain ⟨x, ex, mx⟩ := ati_ok (xs := xs) q1 q2
  have hr := hx x mx
  simp [ex, fin]
  have : outD 2 x false [pt a' b', .v (.lst xs)] = some (x, false, [pt a' b', .v (.lst xs)]) := by cases x <;> first | rfl | cases hr
  simp only [gPick, this]
  exact ⟨a', b', by simp [outs, List.range_succ], hp, hr, rfl, mx⟩
end Pv
namespace Pv
theorem outD_of {np : Nat} {d : D} {fr : Bool} {r : Env} (h : isRef d = false) : outD np d fr r = some (d, fr, r) := by cases d <;> first | rfl | cases h
/-- a def handed down a pot in its first place, and plain values -/
theorem callPot {Z : Sys} {f : Nat} {F : Fn} {n : Nat} {a b : Int} {r : Env} {Q : D × Bool → Env → Prop} {q : D → Bool → Prop} {j : Nat} {ds : List D}
    (hF : Z.fns[f]? = some F) (hr : r[j]? = some (pt a b)) {as : List (D × Bool)} {ix : List Nat} (ha : as = (.ref j, false) :: ds.map (fun d => (d, false)))
    (hc : callOk F ix as = true) (hm : moved ix as = [(0, j)]) (hs : argSl (fkeep Z f) r F.np ix as [] = some (pt a b :: ds.map Sl.v)) {m : Nat}
    (h : (callN Z n f (pt a b :: ds.map Sl.v)).Ok (Dr q m))
    (g : ∀ d fr a' b', q d fr → isRef d = false → PotOk a' b' → Q (d, fr) (r.set j (pt a' b'))) :
    (callE Z (callN Z n) f ix [] as r).Ok Q := by
  refine callE_of hF hc hs (h.mono ?_)
  rintro d fr o ⟨a', b', rfl, hp, hd, hq⟩
  refine ⟨hd, ?_⟩
  rw [hm]
  exact g d fr a' b' hq hd hp
theorem compI_draw {elt : Env → Res (D × Bool)} {tests : Env → Res Bool} {p : D → Prop} {j i : Nat} {own : List Nat}
    (I : Env → Prop)
    (hb : ∀ x r, I r → ∃ r1, bindT (.nm i) x (wipeE own r) = some r1 ∧ (tests r1).Ok fun b r2 => b = true ∧ (elt r2).Ok fun d r3 => isRef d.1 = false ∧ p d.1 ∧ I r3) :
    ∀ (xs : List D) (r : Env), I r → (compI own (.nm i) tests elt xs r).Ok fun ys r' => ys.length = xs.length ∧ (∀ y, y ∈ ys → p y) ∧ I r' := by
  intro xs
  induction xs with
  | nil => intro r h; exact ⟨rfl, fun y hy => absurd hy (by simp), h⟩
  | cons x xs ih =>
    intro r h
    obtain ⟨r1, e1, h1⟩ := hb x r h
    unfold compI
    rw [e1]
    simp only [opt_some, Res.Ok_bind]
    refine h1.mono fun b r2 h2 => ?_
    obtain ⟨rfl, h2⟩ := h2
    simp only [if_true, Res.Ok_bind]
    refine h2.mono fun d r3 h3 => ?_
    rw [fz_of r3 d.1 h3.1]
    simp only [opt_some, Res.Ok_bind]
    refine (ih r3 h3.2.2).mono fun ys r5 h5 => ?_
    refine ⟨by simp [h5.1], fun y hy => ?_, h5.2.2⟩
    rcases List.mem_cons.mp hy with rfl | hy
    · exact h3.2.1
    · exact h5.2.1 y hy
def ABC : List Nat := [97, 98, 99, 100]
def bLetter (f : Nat) : List MS := [.ret (.ix (.c (.str [97, 98, 99, 100])) (.call f [.v 0, .v 1] [0, 1] []))]
def gLetter (f : Nat) : Fn := ⟨2, 2, [true, false], bLetter f⟩
/-- one of the first k letters -/
def Lt (k : Int) (c : Nat) : Prop := 97 ≤ c ∧ (c : Int) < 97 + k
theorem abc_at {i k : Int} (h : 0 ≤ i) (h1 : i < k) (h2 : k ≤ 4) : ∃ c, ati [97, 98, 99, 100] i = some c ∧ Lt k c := by
  have : i = 0 ∨ i = 1 ∨ i = 2 ∨ i = 3 := by omega
  rcases this with rfl | rfl | rfl | rfl
  · exact ⟨97, rfl, by unfold Lt; omega⟩
  · exact ⟨98, rfl, by unfold Lt; omega⟩
  · exact ⟨99, rfl, by unfold Lt; omega⟩
  · exact ⟨100, rfl, by unfold Lt; omega⟩
theorem letter_f {Z : Sys} {f fd : Nat} (hd : DrawF Z fd) (hf : Z.fns[f]? = some (gLetter fd)) (n : Nat) (a b k : Int) (h : PotOk a b) (h1 : 0 < k) (h2 : k ≤ 4) :
    (callN Z (n + 2) f [pt a b, .v (.int k)]).Ok (Dr (fun d fr => fr = false ∧ ∃ c, d = .str [c] ∧ Lt k c) 1) := by
  refine call_of hf rfl rfl ?_
  have e0 := fk_draw hd
  simp [gLetter, bLetter, exB, exS, evE, evL, evA, rdAll, pt, e0, keepK]
  refine callDraw hd (n := n) (j := 0) rfl h h1 (by omega) fun i a' b' q1 q2 hp => ?_
  obtain ⟨c, ec, mc⟩ := abc_at q1 q2 h2
  simp [ec, fin, outD, LIM, outs, List.range_succ]
  exact ⟨a', b', by simp [pt], hp, rfl, rfl, c, rfl, mc⟩
end Pv
namespace Pv
theorem strs_one {p : Nat → Prop} : ∀ {ys : List D}, (∀ y, y ∈ ys → ∃ c, y = .str [c] ∧ p c) → ∃ s : List Nat, strsOf ys = some (s.map fun c => [c]) ∧ s.length = ys.length ∧ ∀ c, c ∈ s → p c
  | [], _ => ⟨[], rfl, rfl, fun c h => absurd h (by simp)⟩
  | y :: ys, h => by
    obtain ⟨c, rfl, hc⟩ := h y (by simp)
    obtain ⟨s, e, l, g⟩ := strs_one (fun z hz => h z (List.mem_cons_of_mem _ hz))
    refine ⟨c :: s, by simp [strsOf, e], by simp [l], fun x hx => ?_⟩
    rcases List.mem_cons.mp hx with rfl | hx
    · exact hc
    · exact g x hx
theorem join_one : ∀ s : List Nat, joinS [] (s.map fun c => [c]) = s
  | [] => rfl
  | [x] => rfl
  | x :: y :: r => by
    have := join_one (y :: r)
    simp only [List.map_cons] at this ⊢
    simp [joinS, this]
theorem sum_one : ∀ s : List Nat, ((s.map fun c => [c]).map (·.length)).sum = s.length
  | [] => rfl
  | x :: s => by
    have := sum_one s
    simp at this ⊢
    omega
def bText (f : Nat) : List MS := [.ret (.mt (.join) (.c (.str [])) [.lc (.ix (.c (.str [97, 98, 99, 100])) (.call f [.v 0, .v 1] [0, 1] [])) (.nm 3) (.range) [.call f [.v 0, .bin (.add) (.v 2) (.c (.int 1))] [0, 1] []] [] [3]])]
def gText (f : Nat) : Fn := ⟨3, 4, [true, false, false, false], bText f⟩
/-- a text of the first k letters, of at most m signs -/
def Tx (k : Int) (m : Int) (d : D) : Prop := ∃ s, d = .str s ∧ (s.length : Int) ≤ m ∧ ∀ c, c ∈ s → Lt k c
theorem text_f {Z : Sys} {f fd : Nat} (hd : DrawF Z fd) (hf : Z.fns[f]? = some (gText fd)) (n : Nat) (a b k m : Int) (h : PotOk a b) (h1 : 0 < k) (h2 : k ≤ 4) (h3 : 0 ≤ m) (h4 : m ≤ 1000) :
    (callN Z (n + 2) f [pt a b, .v (.int k), .v (.int m)]).Ok (Dr (fun d fr => fr = false ∧ Tx k m d) 2) := by
  refine call_of hf rfl rfl ?_
  have e0 := fk_draw hd
  simp [gText, bText, exB, exS, evE, evL, evA, rdAll, pt, e0, keepK]
  refine callDraw hd (n := n) (j := 0) rfl h (by omega) (by omega) fun i a' b' q1 q2 hp => ?_
  have hr : rngOk i = true := by unfold rngOk; simp; omega
  simp [walk, hr, ownless, refsOf, lockE, unlkE, pt]
  let I : Env → Prop := fun r => ∃ a b s, r = [pt a b, .v (.int k), .v (.int m), s] ∧ PotOk a b ∧ (s = .e ∨ ∃ d, s = .v d)
  refine (compI_draw (p := fun y => ∃ c, y = .str [c] ∧ Lt k c) (j := 0) I ?_ _ _ ⟨a', b', .e, rfl, hp, .inl rfl⟩).mono ?_
  · rintro x r ⟨a1, b1, s, rfl, hp1, hs⟩
    refine ⟨[pt a1 b1, .v (.int k), .v (.int m), .v x], by simp [wipeE, bindT, putV], ?_⟩
    simp [evI, evE, evA, pt, e0]
    refine callDraw hd (n := n) (j := 0) rfl hp1 h1 (by omega) fun i a2 b2 q3 q4 hp2 => ?_
    obtain ⟨c, ec, mc⟩ := abc_at q3 q4 h2
    simp [ec, LIM]
    exact ⟨rfl, mc, a2, b2, .v x, by simp [pt], hp2, .inr ⟨x, rfl⟩⟩
  · rintro ys r ⟨hl, hy, a3, b3, s, rfl, hp3, hs⟩
    obtain ⟨t, et, lt, gt⟩ := strs_one hy
    have hlen : (ranged 0 i).length = i.toNat := by simp [ranged]
    have hle : t.length ≤ LIM := by rw [lt, hl, hlen]; unfold LIM; omega
    rw [← lt]
    have e5 := sum_one t
    simp at e5
    simp [hle, et, e5, join_one, back, kindN, fin, outD, outs, List.range_succ, pt]
    exact ⟨a3, b3, by simp [pt], hp3, rfl, rfl, t, rfl, by rw [lt, hl, hlen]; omega, gt⟩
end Pv
namespace Pv
theorem callLetter {Z : Sys} {f fd : Nat} (hd : DrawF Z fd) (hf : Z.fns[f]? = some (gLetter fd)) {n : Nat} {a b k : Int} {r : Env} {Q : D × Bool → Env → Prop} {j : Nat} (hr : r[j]? = some (pt a b)) (h : PotOk a b) (h1 : 0 < k) (h2 : k ≤ 4)
    (q : ∀ c a' b', Lt k c → PotOk a' b' → Q (.str [c], false) (r.set j (pt a' b'))) :
    (callE Z (callN Z (n + 2)) f [0, 1] [] [(.ref j, false), (.int k, false)] r).Ok Q := by
  refine callPot (ds := [.int k]) hf hr rfl rfl rfl ?_ (letter_f hd hf n a b k h h1 h2) ?_
  · simp [argSl, gLetter, fkeep, argOf, hf, hr, List.range_succ, List.findIdx?, List.findIdx?.go, pt]
  · rintro d fr a' b' ⟨rfl, c, rfl, hc⟩ _ hp
    exact q c a' b' hc hp
theorem callText {Z : Sys} {f fd : Nat} (hd : DrawF Z fd) (hf : Z.fns[f]? = some (gText fd)) {n : Nat} {a b k m : Int} {r : Env} {Q : D × Bool → Env → Prop} {j : Nat} (hr : r[j]? = some (pt a b)) (h : PotOk a b) (h1 : 0 < k) (h2 : k ≤ 4) (h3 : 0 ≤ m) (h4 : m ≤ 1000)
    (q : ∀ (s : List Nat) a' b', (s.length : Int) ≤ m → (∀ c, c ∈ s → Lt k c) → PotOk a' b' → Q (.str s, false) (r.set j (pt a' b'))) :
    (callE Z (callN Z (n + 2)) f [0, 1, 2] [] [(.ref j, false), (.int k, false), (.int m, false)] r).Ok Q := by
  refine callPot (ds := [.int k, .int m]) hf hr rfl rfl rfl ?_ (text_f hd hf n a b k m h h1 h2 h3 h4) ?_
  · simp [argSl, gText, fkeep, argOf, hf, hr, List.range_succ, List.findIdx?, List.findIdx?.go, pt]
  · rintro d fr a' b' ⟨rfl, s, rfl, h1, h2⟩ _ hp
    exact q s a' b' h1 h2 hp
theorem callPick {Z : Sys} {f fd : Nat} (hd : DrawF Z fd) (hf : Z.fns[f]? = some (gPick fd)) {n : Nat} {a b : Int} {xs : List D} {r : Env} {Q : D × Bool → Env → Prop} {j : Nat} (hr : r[j]? = some (pt a b)) (h : PotOk a b) (h1 : xs ≠ []) (h2 : xs.length < 1073741824) (hx : ∀ x, x ∈ xs → isRef x = false)
    (q : ∀ d a' b', d ∈ xs → PotOk a' b' → Q (d, false) (r.set j (pt a' b'))) :
    (callE Z (callN Z (n + 2)) f [0, 1] [] [(.ref j, false), (.lst xs, false)] r).Ok Q := by
  refine callPot (ds := [.lst xs]) hf hr rfl rfl rfl ?_ (pick_f hd hf n a b xs h h1 h2 hx) ?_
  · simp [argSl, gPick, fkeep, argOf, hf, hr, List.range_succ, List.findIdx?, List.findIdx?.go, pt]
  · rintro d fr a' b' ⟨rfl, hm⟩ _ hp
    exact q d a' b' hm hp
def bSingle (fl ft fd fp : Nat) : List MS := [.par [2, 3, 4] [.call fl [.v 0, .v 1] [0, 1] [], .call fl [.v 0, .v 1] [0, 1] [], .call ft [.v 0, .v 1, .c (.int 3)] [0, 1, 2] []], .set 5 (.bin (.add) (.c (.int 2)) (.call fd [.v 0, .c (.int 3)] [0, 1] [])), .set 6 (.lst [.tup [.c (.str [119, 111, 114, 100]), .v 2], .tup [.c (.str [114, 111, 119]), .bin (.add) (.v 4) (.v 2)], .tup [.c (.str [110, 101, 97, 114]), .v 2, .v 3, .call fd [.v 0, .c (.int 6)] [0, 1] []], .tup [.c (.str [97, 104, 101, 97, 100]), .v 2, .v 3], .tup [.c (.str [102, 105, 114, 115, 116]), .v 4]]), .expr (.mu (.extend) 6 [.lst [.tup [.c (.str [108, 97, 115, 116]), .v 4], .tup [.c (.str [111, 102, 116, 101, 110]), .v 2, .call fd [.v 0, .c (.int 7)] [0, 1] []], .tup [.c (.str [108, 111, 110, 103]), .call fd [.v 0, .c (.int 10)] [0, 1] []], .tup [.c (.str [114, 101, 115, 116]), .v 2, .v 5, .call fd [.v 0, .v 5] [0, 1] []]]]), .ret (.call fp [.v 0, .ife (.cmp (.eq) (.call fd [.v 0, .c (.int 8)] [0, 1] []) (.c (.int 0))) (.bin (.add) (.v 6) (.lst [.tup [.c (.str [97, 108, 108])], .tup [.c (.str [110, 111, 110, 101])]])) (.v 6)] [0, 1] [])]
def gSingle (fl ft fd fp : Nat) : Fn := ⟨2, 7, [true, false, false, false, false, false, true], bSingle fl ft fd fp⟩
/-- a query of one tuple -/
inductive Sg (k : Int) : D → Prop
  | word (c : Nat) : Lt k c → Sg k (.tup [.str [119, 111, 114, 100], .str [c]])
  | row (s : List Nat) : (s.length : Int) ≤ 4 → s ≠ [] → (∀ c, c ∈ s → Lt k c) → Sg k (.tup [.str [114, 111, 119], .str s])
  | near (c d : Nat) (i : Int) : Lt k c → Lt k d → 0 ≤ i → i < 6 → Sg k (.tup [.str [110, 101, 97, 114], .str [c], .str [d], .int i])
  | ahead (c d : Nat) : Lt k c → Lt k d → Sg k (.tup [.str [97, 104, 101, 97, 100], .str [c], .str [d]])
  | first (s : List Nat) : (s.length : Int) ≤ 3 → (∀ c, c ∈ s → Lt k c) → Sg k (.tup [.str [102, 105, 114, 115, 116], .str s])
  | last (s : List Nat) : (s.length : Int) ≤ 3 → (∀ c, c ∈ s → Lt k c) → Sg k (.tup [.str [108, 97, 115, 116], .str s])
  | often (c : Nat) (i : Int) : Lt k c → 0 ≤ i → i < 7 → Sg k (.tup [.str [111, 102, 116, 101, 110], .str [c], .int i])
  | long (i : Int) : 0 ≤ i → i < 10 → Sg k (.tup [.str [108, 111, 110, 103], .int i])
  | rest (c : Nat) (m i : Int) : Lt k c → 2 ≤ m → m ≤ 4 → 0 ≤ i → i < m → Sg k (.tup [.str [114, 101, 115, 116], .str [c], .int m, .int i])
  | all : Sg k (.tup [.str [97, 108, 108]])
  | none : Sg k (.tup [.str [110, 111, 110, 101]])
def keepL (np : Nat) (keep : List Bool) (i : Nat) : Nat := if keep.getD i false then (if i < np then 2 else 1) else 0
theorem keepK_eq (np ns : Nat) (keep : List Bool) (b : List MS) : keepK ⟨np, ns, keep, b⟩ = keepL np keep := rfl
theorem single_f {Z : Sys} {f fl ft fd fp : Nat} (hd : DrawF Z fd) (hl : Z.fns[fl]? = some (gLetter fd)) (ht : Z.fns[ft]? = some (gText fd)) (hpk : Z.fns[fp]? = some (gPick fd)) (hf : Z.fns[f]? = some (gSingle fl ft fd fp)) (n : Nat) (a b k : Int) (h : PotOk a b) (h1 : 0 < k) (h2 : k ≤ 4) :
    (callN Z (n + 3) f [pt a b, .v (.int k)]).Ok (Dr (fun d fr => fr = false ∧ Sg k d) 1) := by
  refine call_of hf rfl rfl ?_
  have e0 := fk_draw hd
  have e1 : fkeep Z fl 0 = true ∧ fkeep Z fl 1 = false := by simp [fkeep, hl, gLetter]
  have e2 : fkeep Z ft 0 = true ∧ fkeep Z ft 1 = false ∧ fkeep Z ft 2 = false := by simp [fkeep, ht, gText]
  have e3 : fkeep Z fp 0 = true ∧ fkeep Z fp 1 = false := by simp [fkeep, hpk, gPick]
  simp only [gSingle, bSingle, keepK_eq]
  simp [exB, exS, evE, evL, evF, evA, rdAll, tru, pt, e0, e1, e2, e3, keepL, setAll, setSl, isBox, isRef, putO, ownsL, LIM]
  refine callLetter hd hl (n := n) (j := 0) rfl h h1 h2 fun c1 a1 b1 m1 p1 => ?_
  simp [exB, exS, evE, evL, evF, evA, rdAll, tru, pt, e0, e1, e2, e3, keepL, setAll, setSl, isBox, isRef, putO, ownsL, LIM]
  refine callLetter hd hl (n := n) (j := 0) rfl p1 h1 h2 fun c2 a2 b2 m2 p2 => ?_
  simp [exB, exS, evE, evL, evF, evA, rdAll, tru, pt, e0, e1, e2, e3, keepL, setAll, setSl, isBox, isRef, putO, ownsL, LIM]
  refine callText hd ht (n := n) (j := 0) rfl p2 h1 h2 (by omega) (by omega) fun s a3 b3 m3 l3 p3 => ?_
  have hs4 : s.length + 1 ≤ 16777216 := by omega
  simp [exB, exS, evE, evL, evF, evA, rdAll, tru, pt, e0, e1, e2, e3, keepL, setAll, setSl, isBox, isRef, putO, ownsL, LIM]
  refine callDraw hd (n := n + 1) (j := 0) rfl p3 (by omega) (by omega) fun i4 a4 b4 m4 l4 p4 => ?_
  simp [exB, exS, evE, evL, evF, evA, rdAll, tru, pt, e0, e1, e2, e3, keepL, setAll, setSl, isBox, isRef, putO, ownsL, LIM, hs4]
  refine callDraw hd (n := n + 1) (j := 0) rfl p4 (by omega) (by omega) fun i5 a5 b5 m5 l5 p5 => ?_
  simp [exB, exS, evE, evL, evF, evA, rdAll, tru, pt, e0, e1, e2, e3, keepL, setAll, setSl, isBox, isRef, putO, ownsL, LIM, hs4]
  refine callDraw hd (n := n + 1) (j := 0) rfl p5 (by omega) (by omega) fun i6 a6 b6 m6 l6 p6 => ?_
  simp [exB, exS, evE, evL, evF, evA, rdAll, tru, pt, e0, e1, e2, e3, keepL, setAll, setSl, isBox, isRef, putO, ownsL, LIM, hs4]
  refine callDraw hd (n := n + 1) (j := 0) rfl p6 (by omega) (by omega) fun i7 a7 b7 m7 l7 p7 => ?_
  simp [exB, exS, evE, evL, evF, evA, rdAll, tru, pt, e0, e1, e2, e3, keepL, setAll, setSl, isBox, isRef, putO, ownsL, LIM, hs4]
  refine callDraw hd (n := n + 1) (j := 0) rfl p7 (by omega) (by omega) fun i8 a8 b8 m8 l8 p8 => ?_
  simp [exB, exS, evE, evL, evF, evA, rdAll, tru, pt, e0, e1, e2, e3, keepL, setAll, setSl, isBox, isRef, putO, ownsL, LIM, hs4]
  refine callDraw hd (n := n + 1) (j := 0) rfl p8 (by omega) (by omega) fun i9 a9 b9 m9 l9 p9 => ?_
  simp [exB, exS, evE, evL, evF, evA, rdAll, tru, pt, e0, e1, e2, e3, keepL, setAll, setSl, isBox, isRef, putO, ownsL, LIM, hs4]
  refine ⟨⟨by rfl, by rfl⟩, ?_⟩
  have fn : ∀ (d : D) (r : Env) (F : Fn) (aa bb : Int), F.np = 2 → isRef d = false → Sg k d → PotOk aa bb → outs F r = [pt aa bb, .e] → fin F (Dr (fun d fr => fr = false ∧ Sg k d) 1) (.rt d false) r := by
    intro d r F aa bb e1 e2 e3 e4 e5
    simp only [fin, outD_of e2, e5]
    exact ⟨aa, bb, rfl, e4, e2, rfl, e3⟩
  have sr : ∀ d, Sg k d → isRef d = false := by intro d h; cases h <;> rfl
  have gs : ∀ d, d ∈ [D.tup [D.str [119, 111, 114, 100], D.str [c1]], D.tup [D.str [114, 111, 119], D.str (s ++ [c1])], D.tup [D.str [110, 101, 97, 114], D.str [c1], D.str [c2], D.int i5], D.tup [D.str [97, 104, 101, 97, 100], D.str [c1], D.str [c2]], D.tup [D.str [102, 105, 114, 115, 116], D.str s], D.tup [D.str [108, 97, 115, 116], D.str s], D.tup [D.str [111, 102, 116, 101, 110], D.str [c1], D.int i6], D.tup [D.str [108, 111, 110, 103], D.int i7], D.tup [D.str [114, 101, 115, 116], D.str [c1], D.int (2 + i4), D.int i8], D.tup [D.str [97, 108, 108]], D.tup [D.str [110, 111, 110, 101]]] → Sg k d := by
    intro d hd
    simp only [List.mem_cons, List.not_mem_nil, or_false] at hd
    rcases hd with rfl | rfl | rfl | rfl | rfl | rfl | rfl | rfl | rfl | rfl | rfl
    · exact .word _ m1
    · exact .row _ (by simp; omega) (by simp) fun c hc => by
        rcases List.mem_append.mp hc with h | h
        · exact l3 c h
        · simp at h; subst h; exact m1
    · exact .near _ _ _ m1 m2 m5 l5
    · exact .ahead _ _ m1 m2
    · exact .first _ m3 l3
    · exact .last _ m3 l3
    · exact .often _ _ m1 m6 l6
    · exact .long _ m7 l7
    · exact .rest _ _ _ m1 (by omega) (by omega) m8 l8
    · exact .all
    · exact .none
  have gs2 : ∀ d, d ∈ [D.tup [D.str [119, 111, 114, 100], D.str [c1]], D.tup [D.str [114, 111, 119], D.str (s ++ [c1])], D.tup [D.str [110, 101, 97, 114], D.str [c1], D.str [c2], D.int i5], D.tup [D.str [97, 104, 101, 97, 100], D.str [c1], D.str [c2]], D.tup [D.str [102, 105, 114, 115, 116], D.str s], D.tup [D.str [108, 97, 115, 116], D.str s], D.tup [D.str [111, 102, 116, 101, 110], D.str [c1], D.int i6], D.tup [D.str [108, 111, 110, 103], D.int i7], D.tup [D.str [114, 101, 115, 116], D.str [c1], D.int (2 + i4), D.int i8]] → Sg k d := by
    intro d hd
    refine gs d ?_
    simp only [List.mem_cons, List.not_mem_nil, or_false] at hd ⊢
    rcases hd with rfl | rfl | rfl | rfl | rfl | rfl | rfl | rfl | rfl <;> simp
  split
  · refine callPick hd hpk (n := n) (j := 0) rfl p9 (by simp) (by simp) (fun x hx => sr x (gs x hx)) fun d a10 b10 hm p10 => ?_
    exact fn _ _ _ a10 b10 rfl (sr d (gs d hm)) (gs d hm) p10 (by simp [outs, List.range_succ])
  · refine callPick hd hpk (n := n) (j := 0) rfl p9 (by simp) (by simp) (fun x hx => sr x (gs2 x hx)) fun d a10 b10 hm p10 => ?_
    exact fn _ _ _ a10 b10 rfl (sr d (gs2 d hm)) (gs2 d hm) p10 (by simp [outs, List.range_succ])
end Pv
namespace Pv
/-- a query of at most n steps down -/
inductive Qy (k : Int) : Nat → D → Prop
  | sg {n : Nat} {d : D} : Sg k d → Qy k n d
  | no {n : Nat} {d : D} : Qy k n d → Qy k (n + 1) (.tup [.str [110, 111, 116], d])
  | ao {n : Nat} {w : List Nat} {xs : List D} : (w = [97, 110, 100] ∨ w = [111, 114]) → 2 ≤ xs.length → xs.length ≤ 3 → (∀ x, x ∈ xs → Qy k n x) → Qy k (n + 1) (.tup (.str w :: xs))
theorem Sg.noRef {k : Int} {d : D} (h : Sg k d) : isRef d = false := by cases h <;> rfl
theorem Qy.noRef {k : Int} {n : Nat} {d : D} (h : Qy k n d) : isRef d = false := by cases h with | sg h => exact h.noRef | no _ => rfl | ao _ _ _ _ => rfl
def bQuery (f fd fs : Nat) : List MS := [.set 3 (.ife (.cmp (.gt) (.v 2) (.c (.int 1))) (.call fd [.v 0, .c (.int 5)] [0, 1] []) (.c (.int 4))), .ife (.cmp (.eq) (.v 3) (.c (.int 0))) [.ret (.tup [.c (.str [110, 111, 116]), .call f [.v 0, .v 1, .bin (.sub) (.v 2) (.c (.int 1))] [0, 1, 2] []])] [], .ife (.cmp (.lt) (.v 3) (.c (.int 3))) [.ret (.bin (.add) (.tup [.ife (.cmp (.eq) (.v 3) (.c (.int 1))) (.c (.str [97, 110, 100])) (.c (.str [111, 114]))]) (.bi (.tuple) [.lc (.call f [.v 0, .v 1, .bin (.sub) (.v 2) (.c (.int 1))] [0, 1, 2] []) (.nm 4) (.range) [.bin (.add) (.c (.int 2)) (.call fd [.v 0, .c (.int 2)] [0, 1] [])] [] [4]]))] [], .ret (.call fs [.v 0, .v 1] [0, 1] [])]
def gQuery (f fd fs : Nat) : Fn := ⟨3, 5, [true, false, false, false, false], bQuery f fd fs⟩
/-- the def fs of Z draws single queries -/
def SingleF (Z : Sys) (fs : Nat) (n0 : Nat) : Prop := ∃ F, Z.fns[fs]? = some F ∧ F.np = 2 ∧ F.keep.take 2 = [true, false] ∧
  ∀ (n : Nat) (a b k : Int), PotOk a b → 0 < k → k ≤ 4 → (callN Z (n + n0) fs [pt a b, .v (.int k)]).Ok (Dr (fun d fr => fr = false ∧ Sg k d) 1)
theorem callSingle {Z : Sys} {f n0 : Nat} (hf : SingleF Z f n0) {n : Nat} {a b k : Int} {r : Env} {Q : D × Bool → Env → Prop} {j : Nat} (hr : r[j]? = some (pt a b)) (h : PotOk a b) (h1 : 0 < k) (h2 : k ≤ 4)
    (q : ∀ d a' b', Sg k d → PotOk a' b' → Q (d, false) (r.set j (pt a' b'))) :
    (callE Z (callN Z (n + n0)) f [0, 1] [] [(.ref j, false), (.int k, false)] r).Ok Q := by
  obtain ⟨F, hF, hn, hk, hc⟩ := hf
  have k0 : F.keep.getD 0 false = true ∧ F.keep.getD 1 false = false := by
    cases hh : F.keep with
    | nil => rw [hh] at hk; cases hk
    | cons x xs => cases xs with
      | nil => rw [hh] at hk; cases hk
      | cons y ys => rw [hh] at hk; simp at hk; simp [hk]
  refine callPot (ds := [.int k]) hF hr rfl (by unfold callOk; rw [hn]; rfl) rfl ?_ (hc n a b k h h1 h2) ?_
  · simp only [List.getD_eq_getElem?_getD] at k0
    simp [argSl, hn, fkeep, argOf, hF, hr, List.range_succ, List.findIdx?, List.findIdx?.go, pt, k0]
  · rintro d fr a' b' ⟨rfl, hc⟩ _ hp
    exact q d a' b' hc hp
theorem callDrawN {Z : Sys} {f : Nat} (hf : DrawF Z f) {N : Nat} (hN : 1 ≤ N) {a b m : Int} {r : Env} {Q : D × Bool → Env → Prop} {j : Nat} (hr : r[j]? = some (pt a b)) (h : PotOk a b) (h1 : 0 < m) (h2 : m < 1073741824)
    (q : ∀ i a' b', 0 ≤ i → i < m → PotOk a' b' → Q (.int i, false) (r.set j (pt a' b'))) :
    (callE Z (callN Z N) f [0, 1] [] [(.ref j, false), (.int m, false)] r).Ok Q := by
  obtain ⟨n, rfl⟩ : ∃ n, N = n + 1 := ⟨N - 1, by omega⟩
  exact callDraw hf hr h h1 h2 q
theorem callSingleN {Z : Sys} {f n0 : Nat} (hf : SingleF Z f n0) {N : Nat} (hN : n0 ≤ N) {a b k : Int} {r : Env} {Q : D × Bool → Env → Prop} {j : Nat} (hr : r[j]? = some (pt a b)) (h : PotOk a b) (h1 : 0 < k) (h2 : k ≤ 4)
    (q : ∀ d a' b', Sg k d → PotOk a' b' → Q (d, false) (r.set j (pt a' b'))) :
    (callE Z (callN Z N) f [0, 1] [] [(.ref j, false), (.int k, false)] r).Ok Q := by
  obtain ⟨n, rfl⟩ : ∃ n, N = n + n0 := ⟨N - n0, by omega⟩
  exact callSingle hf hr h h1 h2 q
theorem fin_pot {F : Fn} {q : D → Bool → Prop} {m : Nat} {d : D} {fr : Bool} {r : Env} {a b : Int} (h1 : isRef d = false) (h2 : q d fr) (h3 : PotOk a b) (h4 : outs F r = pt a b :: List.replicate m .e) : fin F (Dr q m) (.rt d fr) r := by
  simp only [fin, outD_of h1, h4]
  exact ⟨a, b, rfl, h3, h1, h2⟩
theorem callQuery {Z : Sys} {f fd fs : Nat} (hf : Z.fns[f]? = some (gQuery f fd fs)) {N m : Nat} {a b k i : Int} {r : Env} {Q : D × Bool → Env → Prop} {j : Nat} (hr : r[j]? = some (pt a b))
    (hc : (callN Z N f [pt a b, .v (.int k), .v (.int i)]).Ok (Dr (fun d fr => fr = false ∧ Qy k m d) 2))
    (q : ∀ d a' b', Qy k m d → PotOk a' b' → Q (d, false) (r.set j (pt a' b'))) :
    (callE Z (callN Z N) f [0, 1, 2] [] [(.ref j, false), (.int k, false), (.int i, false)] r).Ok Q := by
  refine callPot (ds := [.int k, .int i]) hf hr rfl rfl rfl ?_ hc ?_
  · simp [argSl, gQuery, fkeep, argOf, hf, hr, List.range_succ, List.findIdx?, List.findIdx?.go, pt]
  · rintro d fr a' b' ⟨rfl, hc⟩ _ hp
    exact q d a' b' hc hp
theorem query_f {Z : Sys} {f fd fs n0 : Nat} (hd : DrawF Z fd) (hs : SingleF Z fs n0) (hf : Z.fns[f]? = some (gQuery f fd fs)) (n : Nat) (k : Int) (h1 : 0 < k) (h2 : k ≤ 4) :
    ∀ (m : Nat) (a b : Int), PotOk a b → (callN Z (n + (m + 2 + n0)) f [pt a b, .v (.int k), .v (.int (m + 1 : Nat))]).Ok (Dr (fun d fr => fr = false ∧ Qy k m d) 2) := by
  have e0 := fk_draw hd
  have e1 : fkeep Z f 0 = true ∧ fkeep Z f 1 = false ∧ fkeep Z f 2 = false := by simp [fkeep, hf, gQuery]
  have e2 : fkeep Z fs 0 = true ∧ fkeep Z fs 1 = false := by
    obtain ⟨F, hF, hn, hk, hc⟩ := hs
    cases hh : F.keep with
    | nil => rw [hh] at hk; cases hk
    | cons x xs => cases xs with
      | nil => rw [hh] at hk; cases hk
      | cons y ys => rw [hh] at hk; simp at hk; simp [fkeep, hF, hh, hk]
  intro m
  induction m with
  | zero =>
    intro a b h
    rw [show n + (0 + 2 + n0) = (n + 1 + n0) + 1 by omega]
    refine call_of hf rfl rfl ?_
    simp only [gQuery, bQuery, keepK_eq]
    simp [exB, exS, evE, evL, evF, evA, rdAll, tru, pt, e0, e1, e2, keepL, setSl, isBox, isRef, plain, DEEP, eqD]
    refine callSingleN hs (by omega) (j := 0) rfl h h1 h2 fun d a1 b1 g p => ?_
    exact fin_pot g.noRef ⟨rfl, .sg g⟩ p (by simp [outs, List.range_succ])
  | succ m ih =>
    intro a b h
    rw [show n + (m + 1 + 2 + n0) = (n + (m + 2 + n0)) + 1 by omega]
    refine call_of hf rfl rfl ?_
    simp only [gQuery, bQuery, keepK_eq]
    simp [exB, exS, evE, evL, evF, evA, rdAll, tru, pt, e0, e1, e2, keepL, setSl, isBox, isRef, plain, DEEP, eqD]
    rw [if_pos (by omega)]
    refine callDrawN hd (by omega) (j := 0) rfl h (by omega) (by omega) fun i a1 b1 g1 g2 p1 => ?_
    have ec : ((m + 1 + 1 : Nat) : Int) - 1 = ((m + 1 : Nat) : Int) := by omega
    by_cases c0 : i = 0
    · subst c0
      simp [pt, isRef, plain, eqD, outD]
      refine callQuery hf (m := m) (j := 0) rfl (by have := ih a1 b1 p1; simpa [pt] using this) fun d a2 b2 g p2 => ?_
      simp [pt, fz_of _ _ g.noRef]
      exact fin_pot rfl ⟨rfl, .no g⟩ p2 (by simp [outs, List.range_succ, pt])
    · simp [pt, isRef, plain, eqD, c0]
      by_cases c1 : i < 3
      · simp [c1]
        have W : ∀ w : List Nat, (w = [97, 110, 100] ∨ w = [111, 114]) → ∀ (ys : List D) (i2 : Int) , 0 ≤ i2 → i2 < 2 → ys.length = (ranged 0 (2 + i2)).length → (∀ y, y ∈ ys → Qy k m y) → Qy k (m + 1) (.tup (.str w :: ys)) := by
          intro w hw ys i2 q1 q2 hl hy
          have hlen : (ranged 0 (2 + i2)).length = (2 + i2).toNat := by simp [ranged]
          exact .ao hw (by omega) (by omega) hy
        have C : ∀ (r0 : Env) (xs : List D) (elt : Env → Res (D × Bool)), (∀ (a b : Int) (x : D) (Q : D × Bool → Env → Prop), PotOk a b → (∀ d a' b', Qy k m d → PotOk a' b' → Q (d, false) [pt a' b', .v (.int k), .v (.int (m + 1 + 1)), .v (.int i), .v x]) → (elt [pt a b, .v (.int k), .v (.int (m + 1 + 1)), .v (.int i), .v x]).Ok Q) →
            ∀ (a b : Int), PotOk a b → (compI [4] (.nm 4) (evI Z (callN Z (n + (m + 2 + n0))) []) elt xs [pt a b, .v (.int k), .v (.int (m + 1 + 1)), .v (.int i), .e]).Ok fun ys r' => ys.length = xs.length ∧ (∀ y, y ∈ ys → Qy k m y) ∧ ∃ a b s, r' = [pt a b, .v (.int k), .v (.int (m + 1 + 1)), .v (.int i), s] ∧ PotOk a b ∧ (s = .e ∨ ∃ d, s = .v d) := by
          intro r0 xs elt he a b hp
          refine (compI_draw (p := Qy k m) (j := 0) (fun r => ∃ a b s, r = [pt a b, .v (.int k), .v (.int (m + 1 + 1)), .v (.int i), s] ∧ PotOk a b ∧ (s = .e ∨ ∃ d, s = .v d)) ?_ _ _ ⟨a, b, .e, rfl, hp, .inl rfl⟩)
          rintro x r ⟨a1, b1, s, rfl, hp1, hs⟩
          refine ⟨[pt a1 b1, .v (.int k), .v (.int (m + 1 + 1)), .v (.int i), .v x], by simp [wipeE, bindT, putV], ?_⟩
          simp [evI]
          exact he a1 b1 x _ hp1 fun d a' b' g p => ⟨g.noRef, g, a', b', .v x, rfl, p, .inr ⟨x, rfl⟩⟩
        split
        all_goals
          refine callDrawN hd (by omega) (j := 0) rfl p1 (by omega) (by omega) fun i2 a2 b2 g3 g4 p2 => ?_
          have hr : rngOk (2 + i2) = true := by unfold rngOk; simp; omega
          simp [walk, hr, ownless, refsOf, lockE, unlkE, rdAll]
          refine (C [] _ _ ?_ a2 b2 p2).mono ?_
          · intro a3 b3 x Q p3 q
            simp [pt, isRef]
            refine callQuery hf (m := m) (j := 0) rfl (by have := ih a3 b3 p3; simpa [pt] using this) fun d a4 b4 g p4 => ?_
            have := q d a4 b4 g p4
            simpa [pt] using this
          · rintro ys r ⟨hl, hy, a3, b3, s, rfl, hp3, hs⟩
            have hlen : (ranged 0 (2 + i2)).length = (2 + i2).toNat := by simp [ranged]
            have hle : ys.length ≤ LIM := by rw [hl, hlen]; unfold LIM; omega
            have hle2 : 1 + ys.length ≤ LIM := by rw [hl, hlen]; unfold LIM; omega
            simp [hle, hle2, back, rdAll, fin, outD, outs, List.range_succ]
            exact ⟨a3, b3, by simp [pt], hp3, rfl, rfl, W _ (by simp) ys i2 g3 g4 hl hy⟩
      · simp [c1]
        refine callSingleN hs (by omega) (j := 0) rfl p1 h1 h2 fun d a1 b1 g p => ?_
        exact fin_pot g.noRef ⟨rfl, .sg g⟩ p (by simp [outs, List.range_succ])
end Pv
namespace Pv
def bPot (c1 c2 c3 c4 c5 c6 m : Int) : List MS := [.set 2 (.bin (.add) (.bin (.mul) (.c (.int c1)) (.v 1)) (.c (.int c2))), .ife (.cmp (.lt) (.v 1) (.bi (.len) [.v 0])) [.set 2 (.bi (.abs) [.ix (.v 0) (.v 1)])] [], .ret (.lst [.bi (.max2) [.c (.int 0), .bin (.sub) (.v 2) (.bin (.pow) (.c (.int 10)) (.c (.int 18)))], .bin (.add) (.bin (.mod) (.bi (.int) [.bin (.add) (.bin (.add) (.bin (.mul) (.bin (.mod) (.bi (.int) [.v 2]) (.c (.int c3))) (.c (.int c4))) (.bin (.mul) (.c (.int c5)) (.v 1))) (.c (.int c6))]) (.c (.int m))) (.c (.int 1))])]
def gPot (c1 c2 c3 c4 c5 c6 m : Int) : Fn := ⟨2, 3, [false, false, false], bPot c1 c2 c3 c4 c5 c6 m⟩
theorem pot_f {Z : Sys} {f : Nat} {c1 c2 c3 c4 c5 c6 m : Int} (hf : Z.fns[f]? = some (gPot c1 c2 c3 c4 c5 c6 m)) (g3 : 0 < c3) (g3' : c3 < 18446744073709551616) (gm : 0 < m) (gm' : m < 2147483648) (n : Nat) (xs : List D) (hx : ∀ x, x ∈ xs → ∃ i, x = .int i) (k : Int) (hk : 0 ≤ k) (hk2 : k < 1000000) :
    (callN Z (n + 1) f [.v (.scr xs), .v (.int k)]).Ok fun d fr o => fr = true ∧ ∃ a b, d = .lst [.int a, .int b] ∧ PotOk a b ∧ o = [.e, .e] := by
  refine call_of hf rfl rfl ?_
  have e1 : ∀ x : Int, mulOk x k = true := fun x => mulOk_r _ _ (by omega) (by omega)
  have e2 : ∀ x y : Int, mulOk (x % c3) y = true := fun x y => mulOk_m _ _ _ g3 g3'
  have e3 : op2 .pow (.int 10) (.int 18) = some (.int 1000000000000000000, false) := by rfl
  simp only [gPot, bPot, keepK_eq]
  by_cases c : k < xs.length
  · obtain ⟨x, ex, mx⟩ := ati_ok hk c
    obtain ⟨i, rfl⟩ := hx x mx
    simp [exB, exS, evE, evL, evF, evA, rdAll, tru, keepL, setSl, e1, e2, e3, c, ex, g3, gm, fin, outD, outs, List.range_succ]
    refine ⟨_, _, ⟨rfl, rfl⟩, ?_, ?_, ?_⟩
    · repeat' split
      all_goals omega
    · have := Int.emod_nonneg ((if i < 0 then -i else i) % c3 * c4 + c5 * k + c6) (show m ≠ 0 by omega); omega
    · have := Int.emod_lt_of_pos ((if i < 0 then -i else i) % c3 * c4 + c5 * k + c6) gm; omega
  · simp [exB, exS, evE, evL, evF, evA, rdAll, tru, keepL, setSl, e1, e2, e3, c, g3, gm, fin, outD, outs, List.range_succ]
    refine ⟨_, _, ⟨rfl, rfl⟩, ?_, ?_, ?_⟩
    · repeat' split
      all_goals omega
    · have := Int.emod_nonneg ((c1 * k + c2) % c3 * c4 + c5 * k + c6) (show m ≠ 0 by omega); omega
    · have := Int.emod_lt_of_pos ((c1 * k + c2) % c3 * c4 + c5 * k + c6) gm; omega
end Pv
namespace Pv
/-- a def that keeps nothing hands back v -/
def Pu (v : D) (m : Nat) : D → Bool → Env → Prop := fun d fr o => d = v ∧ isRef v = false ∧ fr = false ∧ o = List.replicate m .e
theorem callPu {Z : Sys} {f : Nat} {F : Fn} {n : Nat} {r : Env} {Q : D × Bool → Env → Prop} {ix : List Nat} {df : List (Nat × D)} {as : List (D × Bool)} {v : D} {m : Nat} {sl : List D}
    (hF : Z.fns[f]? = some F) (hc : callOk F ix as = true) (hm : moved ix as = []) (hs : argSl (fkeep Z f) r F.np ix as df = some (sl.map Sl.v))
    (h : (callN Z n f (sl.map Sl.v)).Ok (Pu v m)) (g : Q (v, false) r) : (callE Z (callN Z n) f ix df as r).Ok Q := by
  refine callE_of hF hc hs (h.mono ?_)
  rintro d fr o ⟨rfl, hr, rfl, rfl⟩
  refine ⟨hr, ?_⟩
  rw [hm]
  exact g
theorem moved_nil : ∀ (ix : List Nat) (as : List (D × Bool)), (∀ x, x ∈ as → isRef x.1 = false) → moved ix as = []
  | [], as, _ => by simp [moved]
  | i :: ix, [], _ => by simp [moved]
  | i :: ix, (d, b) :: as, h => by
    have h1 := h (d, b) (by simp)
    have h2 := moved_nil ix as (fun x hx => h x (List.mem_cons_of_mem _ hx))
    unfold moved at h2 ⊢
    rw [List.zip_cons_cons, List.filterMap_cons]
    cases d <;> first | exact h2 | (simp [isRef] at h1; done)
theorem argOf_pl {kp : Bool} {r : Env} {d : D} (h : isRef d = false) : argOf kp r (d, false) = some (.v d) := by cases d <;> first | rfl | cases h
theorem fin_pu {F : Fn} {v : D} {m : Nat} {r : Env} (h1 : isRef v = false) (h4 : outs F r = List.replicate m .e) : fin F (Pu v m) (.rt v false) r := by
  simp only [fin, outD_of h1, h4]
  exact ⟨rfl, h1, rfl, rfl⟩
def isInt : D → Bool
  | .int _ => true
  | _ => false
/-- values such as the laws make them: no objects of frames, no functions -/
def okv : D → Bool
  | .non => true
  | .bl _ => true
  | .int _ => true
  | .str _ => true
  | .tup _ => true
  | .lst _ => true
  | .dic _ _ => true
  | _ => false
def b_isint : List MS := [.ret (.and [.isi (.v 0) [.int], .not (.isi (.v 0) [.bool])])]
theorem isint_f {Z : Sys} {f : Nat} (hf : Z.fns[f]? = some ⟨1, 1, [false], b_isint⟩) (n : Nat) (d : D) (h : okv d = true) :
    (callN Z (n + 1) f [.v d]).Ok (Pu (.bl (isInt d)) 1) := by
  refine call_of hf rfl rfl ?_
  simp only [b_isint, keepK_eq]
  cases d <;> first | (simp [okv] at h; done) | (simp [exB, exS, evE, evAnd, tru, isiOk, isTy, fin, outD, outs, Pu, isInt, isRef, List.range_succ])
def within (d lo hi : D) : Bool :=
  match d, lo, hi with
  | .int i, .int a, .int b => decide (a ≤ i) && decide (i ≤ b)
  | _, _, _ => false
def b_within (f : Nat) : List MS := [.ret (.and [.call f [.v 0] [0] [], .cmp2 (.le) (.le) (.v 1) (.v 0) (.v 2)])]
theorem within_f {Z : Sys} {f g : Nat} (hg : Z.fns[g]? = some ⟨1, 1, [false], b_isint⟩) (hf : Z.fns[f]? = some ⟨3, 3, [false, false, false], b_within g⟩) (n : Nat) (d : D) (a b : Int) (h : okv d = true) :
    (callN Z (n + 2) f [.v d, .v (.int a), .v (.int b)]).Ok (Pu (.bl (within d (.int a) (.int b))) 3) := by
  refine call_of hf rfl rfl ?_
  have hr : isRef d = false := by cases d <;> first | rfl | (simp [okv] at h; done)
  simp only [b_within, keepK_eq]
  have e1 : fkeep Z g 0 = false := by simp [fkeep, hg]
  simp [exB, exS, evE, evA, evAnd, tru, e1, fz_of _ _ hr, rd_of _ _ hr]
  refine callPu hg (sl := [d]) (by simp [callOk, moved_nil, hr]) (moved_nil _ _ (by simp [hr])) (by simp [argSl, argOf_pl hr, List.range_succ, List.findIdx?, List.findIdx?.go]) (isint_f hg n d h) ?_
  cases d <;> first | (simp [okv] at h; done) | simp [isInt, within, fin, outD, outs, Pu, isRef, List.range_succ]
  split <;> omega
end Pv
namespace Pv
def b_lettersOf : List MS := [.ret (.bi (.list) [.sl (.g 0 (.str [97, 98, 99, 100])) none (some (.v 0))])]
def lets (k : Nat) : List Nat := [97, 98, 99, 100].take k
theorem fin_fr {F : Fn} {Q : D → Bool → Env → Prop} {d : D} {fr : Bool} {r o : Env} (h1 : isRef d = false) (h4 : outs F r = o) (h : Q d fr o) : fin F Q (.rt d fr) r := by
  simp only [fin, outD_of h1, h4]
  exact h
theorem lettersOf_f {Z : Sys} {f : Nat} (hf : Z.fns[f]? = some ⟨1, 1, [false], b_lettersOf⟩) (n k : Nat) (hk : k ≤ 4) :
    (callN Z (n + 1) f [.v (.int k)]).Ok fun d fr o => d = .lst (chars (lets k)) ∧ fr = true ∧ o = [.e] := by
  refine call_of hf rfl rfl ?_
  simp only [b_lettersOf, keepK_eq]
  have hc : cut [97, 98, 99, 100] none (some (k : Int)) = lets k := by
    have : k = 0 ∨ k = 1 ∨ k = 2 ∨ k = 3 ∨ k = 4 := by omega
    rcases this with rfl | rfl | rfl | rfl | rfl <;> rfl
  have hl : (lets k).length ≤ 16777216 := by unfold lets; simp; omega
  simp [exB, exS, evE, evL, evO, rdAll, hc, hl, fin, outD, outs, List.range_succ, LIM]
end Pv
namespace Pv
def isStr : D → Bool
  | .str _ => true
  | _ => false
theorem plain_str (n : Nat) (s : List Nat) : plain n (.str s) = true := by cases n <;> rfl
theorem plain_int (n : Nat) (i : Int) : plain n (.int i) = true := by cases n <;> rfl
theorem plain_bl (n : Nat) (b : Bool) : plain n (.bl b) = true := by cases n <;> rfl
theorem plain_non (n : Nat) : plain n .non = true := by cases n <;> rfl
theorem plain_chars (n : Nat) (s : List Nat) : (chars s).all (plain n) = true := by
  unfold chars
  rw [List.all_map, List.all_eq_true]
  intro c _
  exact plain_str n [c]
def letterD (k : Nat) (d : D) : Bool := isStr d && inL d (chars (lets k))
def b_isLetter (g : Nat) : List MS := [.ret (.and [.isi (.v 1) [.str], .cmp (.isin) (.v 1) (.call g [.v 0] [0] [])])]
theorem isLetter_f {Z : Sys} {f g : Nat} (hg : Z.fns[g]? = some ⟨1, 1, [false], b_lettersOf⟩) (hf : Z.fns[f]? = some ⟨2, 2, [false, false], b_isLetter g⟩) (n k : Nat) (hk : k ≤ 4) (d : D) (h : okv d = true) :
    (callN Z (n + 2) f [.v (.int k), .v d]).Ok (Pu (.bl (letterD k d)) 2) := by
  refine call_of hf rfl rfl ?_
  simp only [b_isLetter, keepK_eq]
  have e1 : fkeep Z g 0 = false := by simp [fkeep, hg]
  cases d <;> first
    | (simp [okv] at h; done)
    | (simp [exB, exS, evE, evA, evAnd, tru, e1, isiOk, isTy, letterD, isStr, fin, outD, outs, Pu, isRef, List.range_succ]; done)
    | skip
  rename_i s
  simp [exB, exS, evE, evA, evAnd, tru, e1, isiOk, isTy, letterD, isStr]
  refine callE_of hg rfl (sl := [.v (.int k)]) (by simp [argSl, argOf, List.range_succ, List.findIdx?, List.findIdx?.go]) ((lettersOf_f hg n k hk).mono ?_)
  rintro d fr o ⟨rfl, rfl, rfl⟩
  refine ⟨rfl, ?_⟩
  have e2 := plain_chars DEEP (lets k)
  simp only [List.all_eq_true] at e2
  simp [moved, wback, plain_str, e2, fin, outD, outs, Pu, isRef, List.range_succ]
  exact e2
end Pv
namespace Pv
theorem compI_map {Z : Sys} {cl : CL} {elt : Env → Res (D × Bool)} {i : Nat} {own : List Nat} (I : Env → Prop) (g : D → D) :
    ∀ (xs : List D) (r : Env), (∀ x, x ∈ xs → ∀ r, I r → ∃ r1, bindT (.nm i) x (wipeE own r) = some r1 ∧ (elt r1).Ok fun d r3 => d.1 = g x ∧ isRef (g x) = false ∧ I r3) →
      I r → (compI own (.nm i) (evI Z cl []) elt xs r).Ok fun ys r' => ys = xs.map g ∧ I r' := by
  intro xs
  induction xs with
  | nil => intro r _ h; exact ⟨rfl, h⟩
  | cons x xs ih =>
    intro r hb h
    obtain ⟨r1, e1, h1⟩ := hb x (by simp) r h
    unfold compI
    rw [e1]
    simp only [opt_some, Res.Ok_bind, evI, Res.Ok_ok, if_true]
    refine h1.mono fun d r3 h3 => ?_
    obtain ⟨q1, q2, q3⟩ := h3
    rw [q1, fz_of r3 (g x) q2]
    simp only [opt_some, Res.Ok_bind]
    refine (ih r3 (fun y hy => hb y (List.mem_cons_of_mem _ hy)) q3).mono fun ys r5 h5 => ?_
    refine ⟨by simp [h5.1], h5.2⟩
theorem bools_map {α : Type} (g : α → Bool) : ∀ xs : List α, boolsOf (xs.map fun x => .bl (g x)) = some (xs.map g)
  | [] => rfl
  | x :: xs => by simp [boolsOf, bools_map g xs]
theorem ints_map {α : Type} (g : α → Int) : ∀ xs : List α, intsOf (xs.map fun x => .int (g x)) = some (xs.map g)
  | [] => rfl
  | x :: xs => by simp [intsOf, ints_map g xs]
end Pv
namespace Pv
def textD (k m : Nat) : D → Bool
  | .str s => decide (s.length ≤ m) && s.all fun c => inL (.str [c]) (chars (lets k))
  | _ => false
def b_isText (g : Nat) : List MS := [.ife (.or [.not (.isi (.v 1) [.str]), .cmp (.gt) (.bi (.len) [.v 1]) (.v 2)]) [.ret (.c (.bl false))] [], .set 3 (.call g [.v 0] [0] []), .ret (.bi (.all) [.lc (.cmp (.isin) (.v 4) (.v 3)) (.nm 4) (.seq) [.v 1] [] [4]])]
theorem isText_f {Z : Sys} {f g : Nat} (hg : Z.fns[g]? = some ⟨1, 1, [false], b_lettersOf⟩) (hf : Z.fns[f]? = some ⟨3, 5, [false, false, false, false, false], b_isText g⟩) (n k m : Nat) (hk : k ≤ 4) (hm : m ≤ 1000) (d : D) (h : okv d = true) (hs : ∀ s, d = .str s → s.length ≤ LIM) :
    (callN Z (n + 2) f [.v (.int k), .v d, .v (.int m)]).Ok (Pu (.bl (textD k m d)) 3) := by
  refine call_of hf rfl rfl ?_
  simp only [b_isText, keepK_eq]
  have e1 : fkeep Z g 0 = false := by simp [fkeep, hg]
  cases d <;> first
    | (simp [okv] at h; done)
    | (simp [exB, exS, evE, evA, evOr, tru, e1, isiOk, isTy, textD, fin, outD, outs, Pu, isRef, List.range_succ]; done)
    | skip
  rename_i s
  have hl := hs s rfl
  simp [exB, exS, evE, evL, evA, evOr, tru, rdAll, e1, isiOk, isTy, hl]
  by_cases c : m < s.length
  · have c' : ¬ s.length ≤ m := by omega
    simp [c, c', textD, fin, outD, outs, Pu, isRef, List.range_succ]
  · have c' : s.length ≤ m := by omega
    simp only [c, if_false]
    refine callE_of hg rfl (sl := [.v (.int k)]) (by simp [argSl, argOf, List.range_succ, List.findIdx?, List.findIdx?.go]) ((lettersOf_f hg n k hk).mono ?_)
    rintro d fr o ⟨rfl, rfl, rfl⟩
    refine ⟨rfl, ?_⟩
    simp [moved, wback, keepL, setSl, isBox, walk, itemsOf, hl, ownless, refsOf, lockE, unlkE, rdAll]
    have e2 := plain_chars DEEP (lets k)
    let L : Sl := .v (.lst (chars (lets k)))
    refine (compI_map (fun r => ∃ t, r = [.v (.int k), .v (.str s), .v (.int m), L, t] ∧ (t = .e ∨ ∃ d, t = .v d)) (fun x => .bl (inL x (chars (lets k)))) _ _ ?_ ⟨_, rfl, .inl rfl⟩).mono ?_
    · rintro x hx r ⟨t, rfl, ht⟩
      obtain ⟨c0, _, rfl⟩ := List.mem_map.mp hx
      refine ⟨[.v (.int k), .v (.str s), .v (.int m), L, .v (.str [c0])], by simp [wipeE, bindT, putV], ?_⟩
      simp only [List.all_eq_true] at e2
      simp [L, plain_str]
      exact ⟨e2, rfl⟩
    · rintro ys r ⟨rfl, t, rfl, ht⟩
      refine ⟨by simp [chars]; exact hl, ?_⟩
      rw [bools_map (fun x => inL x (chars (lets k)))]
      simp [L, back, fin, outD, outs, Pu, isRef, List.range_succ, textD, c', chars, Function.comp_def]
end Pv
namespace Pv
def b_lawWithin : List MS := [.ret (.and [.isi (.v 0) [.int], .not (.isi (.v 0) [.bool]), .cmp2 (.le) (.le) (.v 1) (.v 0) (.v 2)])]
theorem lawWithin_f {Z : Sys} {f : Nat} (hf : Z.fns[f]? = some ⟨3, 3, [false, false, false], b_lawWithin⟩) (n : Nat) (d : D) (a b : Int) (h : okv d = true) :
    (callN Z (n + 1) f [.v d, .v (.int a), .v (.int b)]).Ok (Pu (.bl (within d (.int a) (.int b))) 3) := by
  refine call_of hf rfl rfl ?_
  simp only [b_lawWithin, keepK_eq]
  cases d <;> first
    | (simp [okv] at h; done)
    | simp [exB, exS, evE, evAnd, tru, isiOk, isTy, within, fin, outD, outs, Pu, isRef, List.range_succ]
  split <;> omega
end Pv
namespace Pv
def b_lawLetter : List MS := [.ret (.and [.isi (.v 1) [.str], .cmp (.eq) (.bi (.len) [.v 1]) (.c (.int 1)), .cmp (.isin) (.v 1) (.sl (.c (.str [97, 98, 99, 100])) none (some (.v 0)))])]
/-- what inS of one sign says -/
def InOne (Z : Sys) : Prop := ∀ (c k : Nat), k ≤ 4 → Z.inS [c] (lets k) = inL (.str [c]) (chars (lets k))
theorem inL_len (k : Nat) (s : List Nat) : inL (.str s) (chars (lets k)) = true → s.length = 1 := by
  unfold chars
  induction lets k with
  | nil => intro h; cases h
  | cons c cs ih =>
    intro h
    simp [inL, eqD] at h
    rcases h with h | h
    · rw [← h]; rfl
    · exact ih h
theorem cut_lets (k : Nat) (hk : k ≤ 4) : cut [97, 98, 99, 100] none (some (k : Int)) = lets k := by
  have : k = 0 ∨ k = 1 ∨ k = 2 ∨ k = 3 ∨ k = 4 := by omega
  rcases this with rfl | rfl | rfl | rfl | rfl <;> rfl
theorem lawLetter_f {Z : Sys} {f : Nat} (hi : InOne Z) (hf : Z.fns[f]? = some ⟨2, 2, [false, false], b_lawLetter⟩) (n k : Nat) (hk : k ≤ 4) (d : D) (h : okv d = true) (hs : ∀ s, d = .str s → s.length ≤ 16777216) :
    (callN Z (n + 1) f [.v (.int k), .v d]).Ok (Pu (.bl (letterD k d)) 2) := by
  refine call_of hf rfl rfl ?_
  simp only [b_lawLetter, keepK_eq]
  cases d <;> first
    | (simp [okv] at h; done)
    | (simp [exB, exS, evE, evAnd, tru, isiOk, isTy, letterD, isStr, fin, outD, outs, Pu, isRef, List.range_succ]; done)
    | skip
  rename_i s
  have hl := hs s rfl
  have hc := cut_lets k hk
  simp [exB, exS, evE, evL, evO, evAnd, tru, rdAll, isiOk, isTy, letterD, isStr, hl, hc, plain_int, LIM, eqD]
  by_cases c : s.length = 1
  · obtain ⟨x, rfl⟩ := List.length_eq_one_iff.mp c
    simp [fin, outD, outs, Pu, isRef, List.range_succ, hi x k hk]
  · have c' : inL (.str s) (chars (lets k)) = false := by
      cases e : inL (.str s) (chars (lets k)) with
      | false => rfl
      | true => exact absurd (inL_len k s e) c
    have c2 : ¬ ((s.length : Int) = 1) := by omega
    simp [fin, outD, outs, Pu, isRef, List.range_succ, c', c2]
end Pv
namespace Pv
def b_lawText : List MS := [.ret (.and [.isi (.v 1) [.str], .cmp (.le) (.bi (.len) [.v 1]) (.c (.int 60)), .bi (.all) [.lc (.cmp (.isin) (.v 2) (.sl (.c (.str [97, 98, 99, 100])) none (some (.v 0)))) (.nm 2) (.seq) [.v 1] [] [2]]])]
theorem lawText_f {Z : Sys} {f : Nat} (hi : InOne Z) (hf : Z.fns[f]? = some ⟨2, 3, [false, false, false], b_lawText⟩) (n k : Nat) (hk : k ≤ 4) (d : D) (h : okv d = true) (hs : ∀ s, d = .str s → s.length ≤ LIM) :
    (callN Z (n + 1) f [.v (.int k), .v d]).Ok (Pu (.bl (textD k 60 d)) 2) := by
  refine call_of hf rfl rfl ?_
  simp only [b_lawText, keepK_eq]
  cases d <;> first
    | (simp [okv] at h; done)
    | (simp [exB, exS, evE, evAnd, tru, isiOk, isTy, textD, fin, outD, outs, Pu, isRef, List.range_succ]; done)
    | skip
  rename_i s
  have hl := hs s rfl
  have hc := cut_lets k hk
  have h4 : 4 ≤ LIM := by unfold LIM; omega
  simp [exB, exS, evE, evL, evO, evAnd, tru, rdAll, isiOk, isTy, hl, hc, h4, walk, itemsOf, ownless, refsOf, lockE, unlkE]
  by_cases c : (s.length : Int) ≤ 60
  · have c' : s.length ≤ 60 := by omega
    simp only [c, if_true]
    refine (compI_map (fun r => ∃ t, r = [.v (.int k), .v (.str s), t] ∧ (t = .e ∨ ∃ d, t = .v d)) (fun x => .bl (inL x (chars (lets k)))) _ _ ?_ ⟨_, rfl, .inl rfl⟩).mono ?_
    · rintro x hx r ⟨t, rfl, ht⟩
      obtain ⟨c0, _, rfl⟩ := List.mem_map.mp hx
      refine ⟨[.v (.int k), .v (.str s), .v (.str [c0])], by simp [wipeE, bindT, putV], ?_⟩
      simp [hc, h4, hi c0 k hk]
      rfl
    · rintro ys r ⟨rfl, t, rfl, ht⟩
      refine ⟨by simp [chars]; exact hl, ?_⟩
      rw [bools_map (fun x => inL x (chars (lets k)))]
      simp [back, fin, outD, outs, Pu, isRef, List.range_succ, textD, c', chars, Function.comp_def]
  · have c' : ¬ s.length ≤ 60 := by omega
    simp [c, c', fin, outD, outs, Pu, isRef, List.range_succ, textD]
end Pv
namespace Pv
def wAll : List Nat := [97, 108, 108]
def wNone : List Nat := [110, 111, 110, 101]
def wWord : List Nat := [119, 111, 114, 100]
def wRow : List Nat := [114, 111, 119]
def wFirst : List Nat := [102, 105, 114, 115, 116]
def wLast : List Nat := [108, 97, 115, 116]
def wLong : List Nat := [108, 111, 110, 103]
def wAhead : List Nat := [97, 104, 101, 97, 100]
def wOften : List Nat := [111, 102, 116, 101, 110]
def wNear : List Nat := [110, 101, 97, 114]
def wRest : List Nat := [114, 101, 115, 116]
def withinTo (z y : D) : Bool :=
  match y with
  | .int j => within z (.int 0) (.int (j - 1))
  | _ => false
/-- is (w, rest) a query of one tuple -/
def bareD (k : Nat) (w : List Nat) : List D → Bool
  | [] => w == wAll || w == wNone
  | [x] => (w == wWord && letterD k x) || (w == wLong && within x (.int 0) (.int 9)) || ((w == wFirst || w == wLast) && textD k 60 x) || (w == wRow && textD k 60 x && !(eqD x (.str [])))
  | [x, y] => (w == wAhead && letterD k x && letterD k y) || (w == wOften && letterD k x && within y (.int 0) (.int 6))
  | [x, y, z] => letterD k x && ((w == wNear && letterD k y && within z (.int 0) (.int 5)) || (w == wRest && within y (.int 2) (.int 4) && withinTo z y))
  | _ => false
end Pv
namespace Pv
theorem Pu.ref {v : D} {m : Nat} {x : Rc} (h : x.Ok (Pu v m)) : isRef v = false := by
  cases x with
  | ok a b c => exact h.2.1
  | exc _ _ => exact absurd h id
  | no => exact absurd h id
/-- a call with plain values -/
theorem callP {Z : Sys} {f : Nat} {F : Fn} {n : Nat} {r : Env} {Q : D × Bool → Env → Prop} {ix : List Nat} {df : List (Nat × D)} {as : List (D × Bool)} {v : D} {m : Nat} {sl : List D}
    (hF : Z.fns[f]? = some F) (ha : ∀ x, x ∈ as → isRef x.1 = false) (hc : ((as.filter (·.2)).length ≤ 1 ∧ ix.Nodup) ∧ (ix.all fun p => decide (p < F.np)) = true ∧ ix.length = as.length) (hs : argSl (fkeep Z f) r F.np ix as df = some (sl.map Sl.v))
    (h : (callN Z n f (sl.map Sl.v)).Ok (Pu v m)) (g : Q (v, false) r) : (callE Z (callN Z n) f ix df as r).Ok Q := by
  have hm := moved_nil ix as ha
  refine callPu hF ?_ hm hs h g
  unfold callOk
  rw [hm]
  simp only [List.map_nil, List.nodup_nil, decide_true, Bool.true_and, Bool.and_eq_true, decide_eq_true_eq]
  exact ⟨⟨hc.1, hc.2.1⟩, hc.2.2⟩
end Pv
namespace Pv
theorem Res.Ok_eq {α : Type} {x : Res α} {a : α} {r : Env} (h : x.Ok fun a' r' => a' = a ∧ r' = r) : x = .ok a r := by
  cases x with
  | ok a' r' => obtain ⟨rfl, rfl⟩ := h; rfl
  | exc _ _ => exact absurd h id
  | no => exact absurd h id
theorem callE_eq {Z : Sys} {f : Nat} {F : Fn} {n : Nat} {r : Env} {ix : List Nat} {df : List (Nat × D)} {as : List (D × Bool)} {v : D} {m : Nat} {sl : List D}
    (hF : Z.fns[f]? = some F) (ha : ∀ x, x ∈ as → isRef x.1 = false) (hc : ((as.filter (·.2)).length ≤ 1 ∧ ix.Nodup) ∧ (ix.all fun p => decide (p < F.np)) = true ∧ ix.length = as.length) (hs : argSl (fkeep Z f) r F.np ix as df = some (sl.map Sl.v))
    (h : (callN Z n f (sl.map Sl.v)).Ok (Pu v m)) : callE Z (callN Z n) f ix df as r = .ok (v, false) r :=
  Res.Ok_eq (callP hF ha hc hs h ⟨rfl, rfl⟩)
/-- the same, where what is handed back may be new -/
theorem callE_eqF {Z : Sys} {f : Nat} {F : Fn} {n : Nat} {r : Env} {ix : List Nat} {df : List (Nat × D)} {as : List (D × Bool)} {v : D} {b : Bool} {m : Nat} {sl : List D}
    (hF : Z.fns[f]? = some F) (ha : ∀ x, x ∈ as → isRef x.1 = false) (hc : ((as.filter (·.2)).length ≤ 1 ∧ ix.Nodup) ∧ (ix.all fun p => decide (p < F.np)) = true ∧ ix.length = as.length) (hs : argSl (fkeep Z f) r F.np ix as df = some (sl.map Sl.v))
    (h : (callN Z n f (sl.map Sl.v)).Ok fun d fr o => d = v ∧ fr = b ∧ o = List.replicate m .e) (hv : isRef v = false) : callE Z (callN Z n) f ix df as r = .ok (v, b) r := by
  have hm := moved_nil ix as ha
  refine Res.Ok_eq (callE_of hF ?_ hs (h.mono ?_))
  · unfold callOk
    rw [hm]
    simp only [List.map_nil, List.nodup_nil, decide_true, Bool.true_and, Bool.and_eq_true, decide_eq_true_eq]
    exact ⟨⟨hc.1, hc.2.1⟩, hc.2.2⟩
  · rintro d fr o ⟨rfl, rfl, rfl⟩
    refine ⟨hv, ?_⟩
    rw [hm]
    exact ⟨rfl, rfl⟩
theorem okv_ref {d : D} (h : okv d = true) : isRef d = false := by cases d <;> first | rfl | (simp [okv] at h; done)
theorem plain_okv {n : Nat} {d : D} (h : plain n d = true) : okv d = true := by
  cases d <;> first | rfl | (cases n <;> simp [plain] at h; done)
theorem plain_mono : ∀ {n m : Nat} {d : D}, n ≤ m → plain n d = true → plain m d = true := by
  intro n
  induction n with
  | zero =>
    intro m d _ h
    cases d <;> first | (cases m <;> rfl) | (simp [plain] at h; done)
  | succ n ih =>
    intro m d hm h
    obtain ⟨m, rfl⟩ : ∃ k, m = k + 1 := ⟨m - 1, by omega⟩
    cases d <;> first | rfl | (simp [plain] at h; done) | skip
    all_goals
      simp only [plain, List.all_eq_true] at h ⊢
      exact fun x hx => ih (by omega) (h x hx)
/-- bounded values: a height, a weight -/
structure Gd (h w : Nat) (d : D) : Prop where
  pl : plain h d = true
  lf : leafOk d = true
  wt : wtD d ≤ w
theorem Gd.okv {h w : Nat} {d : D} (g : Gd h w d) : okv d = true := plain_okv g.pl
theorem Gd.ref {h w : Nat} {d : D} (g : Gd h w d) : isRef d = false := okv_ref g.okv
theorem Gd.mono {h w h' w' : Nat} {d : D} (g : Gd h w d) (a : h ≤ h') (b : w ≤ w') : Gd h' w' d := ⟨plain_mono a g.pl, g.lf, Nat.le_trans g.wt b⟩
theorem wtL_mem : ∀ {xs : List D} {x : D}, x ∈ xs → wtD x + 2 ≤ wtL xs
  | y :: ys, x, h => by
    rcases List.mem_cons.mp h with rfl | h
    · simp [wtL]
    · have := wtL_mem h; simp [wtL]; omega
theorem leafL_mem : ∀ {xs : List D} {x : D}, x ∈ xs → leafL xs = true → leafOk x = true
  | y :: ys, x, h, l => by
    simp [leafL] at l
    rcases List.mem_cons.mp h with rfl | h
    · exact l.1
    · exact leafL_mem h l.2
theorem Gd.part {h w : Nat} {xs : List D} {x : D} (g : Gd (h + 1) w (.tup xs)) (hx : x ∈ xs) : Gd h w x := by
  refine ⟨?_, ?_, ?_⟩
  · have := g.pl; simp only [plain, List.all_eq_true] at this; exact this x hx
  · have := g.lf; simp only [leafOk] at this; exact leafL_mem hx this
  · have := g.wt; simp only [wtD] at this; have := wtL_mem hx; omega
theorem wtL_len : ∀ xs : List D, 2 * xs.length ≤ wtL xs
  | [] => by simp [wtL]
  | x :: xs => by have := wtL_len xs; simp [wtL]; omega
theorem Gd.len {h w : Nat} {xs : List D} (g : Gd h w (.tup xs)) : 2 * xs.length ≤ w := by
  have := g.wt; simp only [wtD] at this; have := wtL_len xs; omega
theorem Gd.slen {h w : Nat} {d : D} (g : Gd h w d) (s : List Nat) (e : d = .str s) : 10 * s.length ≤ w := by
  subst e; have := g.wt; simp only [wtD] at this; omega
theorem Gd.show {h w : Nat} {d : D} (g : Gd h w d) (a : h ≤ DEEP) (b : w ≤ LIM) : showOk d = true := by
  unfold showOk
  simp [plain_mono a g.pl, g.lf]
  exact Nat.le_trans g.wt b
theorem Gd.tup {h w : Nat} {xs : List D} (a : ∀ x, x ∈ xs → plain h x = true) (b : leafL xs = true) (c : wtL xs + 3 ≤ w) : Gd (h + 1) w (.tup xs) :=
  ⟨by simp only [plain, List.all_eq_true]; exact a, b, c⟩
@[simp] theorem argOf_int (kp : Bool) (r : Env) (i : Int) : argOf kp r (.int i, false) = some (.v (.int i)) := rfl
@[simp] theorem argOf_str (kp : Bool) (r : Env) (s : List Nat) : argOf kp r (.str s, false) = some (.v (.str s)) := rfl
@[simp] theorem argOf_tup (kp : Bool) (r : Env) (s : List D) : argOf kp r (.tup s, false) = some (.v (.tup s)) := rfl
end Pv
namespace Pv
def b_bareOne (fl fw ft : Nat) : List MS := [.ife (.cmp (.eq) (.v 1) (.c (.str [119, 111, 114, 100]))) [.ret (.call fl [.v 0, .v 2] [0, 1] [])] [], .ife (.cmp (.eq) (.v 1) (.c (.str [108, 111, 110, 103]))) [.ret (.call fw [.v 2, .c (.int 0), .g 0 (.int 9)] [0, 1, 2] [])] [], .ret (.and [.call ft [.v 0, .v 2] [0, 1] [(2, .int 60)], .or [.cmp (.ne) (.v 1) (.c (.str [114, 111, 119])), .cmp (.ne) (.v 2) (.c (.str []))]])]
def bareOneD (k : Nat) (w : List Nat) (x : D) : Bool := if w = wWord then letterD k x else if w = wLong then within x (.int 0) (.int 9) else textD k 60 x && (!(w == wRow) || !(eqD x (.str [])))
/-- the defs of queries: their numbers -/
structure QN where
  isint : Nat
  within : Nat
  letters : Nat
  letter : Nat
  text : Nat
  bare : Nat
  one : Nat
  parts : Nat
  built : Nat
  size : Nat
structure QF0 (Z : Sys) (N : QN) : Prop where
  isint : Z.fns[N.isint]? = some ⟨1, 1, [false], b_isint⟩
  within : Z.fns[N.within]? = some ⟨3, 3, [false, false, false], b_within N.isint⟩
  letters : Z.fns[N.letters]? = some ⟨1, 1, [false], b_lettersOf⟩
  letter : Z.fns[N.letter]? = some ⟨2, 2, [false, false], b_isLetter N.letters⟩
  text : Z.fns[N.text]? = some ⟨3, 5, [false, false, false, false, false], b_isText N.letters⟩
  one : Z.fns[N.one]? = some ⟨3, 3, [false, false, false], b_bareOne N.letter N.within N.text⟩
section
variable {Z : Sys} {N : QN} (q : QF0 Z N) {r : Env} {n k : Nat} (hk : k ≤ 4) {x : D} (h : okv x = true)
include q h
theorem QF0.withinE (a b : Int) : callE Z (callN Z (n + 2)) N.within [0, 1, 2] [] [(x, false), (.int a, false), (.int b, false)] r = .ok (.bl (Pv.within x (.int a) (.int b)), false) r := by
  have hr := okv_ref h
  refine callE_eq q.within (sl := [x, .int a, .int b]) (by intro y hy; simp at hy; rcases hy with rfl | rfl | rfl <;> first | rfl | exact hr) (by simp) (by simp [argSl, argOf_pl hr, List.range_succ, List.findIdx?, List.findIdx?.go]) (within_f q.isint q.within n x a b h)
include hk
theorem QF0.letterE : callE Z (callN Z (n + 2)) N.letter [0, 1] [] [(.int k, false), (x, false)] r = .ok (.bl (letterD k x), false) r := by
  have hr := okv_ref h
  refine callE_eq q.letter (sl := [.int k, x]) (by intro y hy; simp at hy; rcases hy with rfl | rfl <;> first | rfl | exact hr) (by simp) (by simp [argSl, argOf_pl hr, List.range_succ, List.findIdx?, List.findIdx?.go]) (isLetter_f q.letters q.letter n k hk x h)
theorem QF0.textE (hs : ∀ s, x = .str s → s.length ≤ LIM) : callE Z (callN Z (n + 2)) N.text [0, 1] [(2, .int 60)] [(.int k, false), (x, false)] r = .ok (.bl (textD k 60 x), false) r := by
  have hr := okv_ref h
  refine callE_eq q.text (sl := [.int k, x, .int 60]) (by intro y hy; simp at hy; rcases hy with rfl | rfl <;> first | rfl | exact hr) (by simp) (by simp [argSl, argOf_pl hr, List.range_succ, List.findIdx?, List.findIdx?.go, List.lookup]) (isText_f q.letters q.text n k 60 hk (by omega) x h hs)
theorem QF0.one_f (hs : ∀ s, x = .str s → s.length ≤ LIM) (hp : plain DEEP x = true) (w : List Nat) : (callN Z (n + 3) N.one [.v (.int k), .v (.str w), .v x]).Ok (Pu (.bl (bareOneD k w x)) 3) := by
  refine call_of q.one rfl rfl ?_
  have hr := okv_ref h
  have e1 : fkeep Z N.letter 0 = false ∧ fkeep Z N.letter 1 = false := by simp [fkeep, q.letter]
  have e2 : fkeep Z N.within 0 = false ∧ fkeep Z N.within 1 = false ∧ fkeep Z N.within 2 = false := by simp [fkeep, q.within]
  have e3 : fkeep Z N.text 0 = false ∧ fkeep Z N.text 1 = false ∧ fkeep Z N.text 2 = false := by simp [fkeep, q.text]
  have c1 := fun r => q.letterE (n := n) (r := r) hk h
  have c2 := fun r => q.withinE (n := n) (r := r) h 0 9
  have c3 := fun r => q.textE (n := n) (r := r) hk h hs
  simp only [b_bareOne, keepK_eq]
  by_cases k1 : w = wWord
  · simp [exB, exS, evE, evA, tru, e1, plain_str, eqD, fz_of _ _ hr, k1, wWord, c1, bareOneD]
    exact fin_pu rfl rfl
  · by_cases k2 : w = wLong
    · subst k2
      simp [exB, exS, evE, evA, tru, e2, plain_str, eqD, fz_of _ _ hr, wLong, wWord, c2, bareOneD]
      exact fin_pu rfl rfl
    · have k1' : ¬ w = [119, 111, 114, 100] := k1
      have k2' : ¬ w = [108, 111, 110, 103] := k2
      cases ht : textD k 60 x with
      | false =>
        simp [exB, exS, evE, evA, evAnd, evOr, tru, e3, plain_str, eqD, fz_of _ _ hr, rd_of _ _ hr, k1, k2, k1', k2', c3, bareOneD, ht, fin, outD, outs, Pu, isRef, List.range_succ]
      | true =>
        by_cases k3 : w = wRow
        · have k3' : w = [114, 111, 119] := k3
          simp [exB, exS, evE, evA, evAnd, evOr, tru, e3, plain_str, eqD, fz_of _ _ hr, rd_of _ _ hr, k1, k2, k1', k2', c3, bareOneD, ht, fin, outD, outs, Pu, isRef, List.range_succ, k3, k3', hp, wRow, wWord, wLong]
        · have k3' : ¬ w = [114, 111, 119] := k3
          have k4 : (w == wRow) = false := by simp [k3]
          have k5 : (w == [114, 111, 119]) = false := k4
          simp [exB, exS, evE, evA, evAnd, evOr, tru, e3, plain_str, eqD, fz_of _ _ hr, rd_of _ _ hr, k1, k2, k1', k2', c3, bareOneD, ht, fin, outD, outs, Pu, isRef, List.range_succ, k4, k5, hp]
theorem QF0.oneE (hs : ∀ s, x = .str s → s.length ≤ LIM) (hp : plain DEEP x = true) (w : List Nat) : callE Z (callN Z (n + 3)) N.one [0, 1, 2] [] [(.int k, false), (.str w, false), (x, false)] r = .ok (.bl (bareOneD k w x), false) r := by
  have hr := okv_ref h
  refine callE_eq q.one (sl := [.int k, .str w, x]) (by intro y hy; simp at hy; rcases hy with rfl | rfl | rfl <;> first | rfl | exact hr) (by simp) (by simp [argSl, argOf_pl hr, List.range_succ, List.findIdx?, List.findIdx?.go]) (q.one_f hk h hs hp w)
end
end Pv
namespace Pv
theorem QF0.fk {Z : Sys} {N : QN} (q : QF0 Z N) : fkeep Z N.letter 0 = false ∧ fkeep Z N.letter 1 = false ∧ fkeep Z N.within 0 = false ∧ fkeep Z N.within 1 = false ∧ fkeep Z N.within 2 = false ∧ fkeep Z N.text 0 = false ∧ fkeep Z N.text 1 = false ∧ fkeep Z N.text 2 = false ∧ fkeep Z N.one 0 = false ∧ fkeep Z N.one 1 = false ∧ fkeep Z N.one 2 = false := by
  simp [fkeep, q.letter, q.within, q.text, q.one]
def b_bare (fl fw f1 : Nat) : List MS := [.par [2, 3] [.ix (.v 1) (.c (.int 0)), .sl (.v 1) (some (.c (.int 1))) none], .ife (.cmp (.isin) (.v 2) (.tup [.c (.str [97, 108, 108]), .c (.str [110, 111, 110, 101])])) [.ret (.cmp (.eq) (.v 3) (.tup []))] [], .ife (.cmp (.isin) (.v 2) (.tup [.c (.str [119, 111, 114, 100]), .c (.str [114, 111, 119]), .c (.str [102, 105, 114, 115, 116]), .c (.str [108, 97, 115, 116]), .c (.str [108, 111, 110, 103])])) [.ret (.and [.cmp (.eq) (.bi (.len) [.v 3]) (.c (.int 1)), .call f1 [.v 0, .v 2, .ix (.v 3) (.c (.int 0))] [0, 1, 2] []])] [], .ife (.cmp (.eq) (.v 2) (.c (.str [97, 104, 101, 97, 100]))) [.ret (.and [.cmp (.eq) (.bi (.len) [.v 3]) (.c (.int 2)), .bi (.all) [.lc (.call fl [.v 0, .v 4] [0, 1] []) (.nm 4) (.seq) [.v 3] [] [4]]])] [], .ife (.cmp (.eq) (.v 2) (.c (.str [111, 102, 116, 101, 110]))) [.ret (.and [.cmp (.eq) (.bi (.len) [.v 3]) (.c (.int 2)), .call fl [.v 0, .ix (.v 3) (.c (.int 0))] [0, 1] [], .call fw [.ix (.v 3) (.c (.int 1)), .c (.int 0), .g 0 (.int 6)] [0, 1, 2] []])] [], .ife (.or [.cmp (.ne) (.bi (.len) [.v 3]) (.c (.int 3)), .not (.call fl [.v 0, .ix (.v 3) (.c (.int 0))] [0, 1] [])]) [.ret (.c (.bl false))] [], .ife (.cmp (.eq) (.v 2) (.c (.str [110, 101, 97, 114]))) [.ret (.and [.call fl [.v 0, .ix (.v 3) (.c (.int 1))] [0, 1] [], .call fw [.ix (.v 3) (.c (.int 2)), .c (.int 0), .g 0 (.int 5)] [0, 1, 2] []])] [], .ret (.and [.cmp (.eq) (.v 2) (.c (.str [114, 101, 115, 116])), .call fw [.ix (.v 3) (.c (.int 1)), .c (.int 2), .g 0 (.int 4)] [0, 1, 2] [], .call fw [.ix (.v 3) (.c (.int 2)), .c (.int 0), .bin (.sub) (.ix (.v 3) (.c (.int 1))) (.c (.int 1))] [0, 1, 2] []])]
theorem cut1 {α : Type} (x : α) (xs : List α) : cut (x :: xs) (some 1) none = xs := by
  simp [cut, six]
theorem within_int {d : D} {a b : Int} (h : within d (.int a) (.int b) = true) : ∃ i, d = .int i := by
  cases d <;> first | exact ⟨_, rfl⟩ | (simp [within] at h; done)

theorem call_pu {Z : Sys} {n f np ns : Nat} {keep : List Bool} {b : List MS} {sl : List Sl} {v : D} (hf : Z.fns[f]? = some ⟨np, ns, keep, b⟩) (hl : sl.length = np) (hs : slOk ⟨np, ns, keep, b⟩ sl = true) (hv : isRef v = false) (hk : ∀ i, i < np → keep.getD i false = false)
    (h : (exB Z (callN Z n) (keepL np keep) b (sl ++ List.replicate (ns - np) .e)).Ok fun fl _ => fl = .rt v false) : (callN Z (n + 1) f sl).Ok (Pu v np) := by
  refine call_of hf hl hs (Res.Ok.mono h ?_)
  rintro fl r rfl
  refine fin_pu hv ?_
  unfold outs
  refine List.ext_getElem? fun i => ?_
  simp only [List.getElem?_map, List.getElem?_replicate]
  by_cases c : i < np
  · rw [List.getElem?_range c, if_pos c]
    simp only [Option.map_some, hk i c, Bool.false_eq_true, if_false]
  · rw [List.getElem?_eq_none (by simp; omega), if_neg c]
    rfl
theorem wcases (w : List Nat) : w = wAll ∨ w = wNone ∨ w = wWord ∨ w = wRow ∨ w = wFirst ∨ w = wLast ∨ w = wLong ∨ w = wAhead ∨ w = wOften ∨ w = wNear ∨ w = wRest ∨ (w ≠ wAll ∧ w ≠ wNone ∧ w ≠ wWord ∧ w ≠ wRow ∧ w ≠ wFirst ∧ w ≠ wLast ∧ w ≠ wLong ∧ w ≠ wAhead ∧ w ≠ wOften ∧ w ≠ wNear ∧ w ≠ wRest) := by
  by_cases c0 : w = wAll
  · exact .inl c0
  by_cases c1 : w = wNone
  · exact .inr (.inl c1)
  by_cases c2 : w = wWord
  · exact .inr (.inr (.inl c2))
  by_cases c3 : w = wRow
  · exact .inr (.inr (.inr (.inl c3)))
  by_cases c4 : w = wFirst
  · exact .inr (.inr (.inr (.inr (.inl c4))))
  by_cases c5 : w = wLast
  · exact .inr (.inr (.inr (.inr (.inr (.inl c5)))))
  by_cases c6 : w = wLong
  · exact .inr (.inr (.inr (.inr (.inr (.inr (.inl c6))))))
  by_cases c7 : w = wAhead
  · exact .inr (.inr (.inr (.inr (.inr (.inr (.inr (.inl c7)))))))
  by_cases c8 : w = wOften
  · exact .inr (.inr (.inr (.inr (.inr (.inr (.inr (.inr (.inl c8))))))))
  by_cases c9 : w = wNear
  · exact .inr (.inr (.inr (.inr (.inr (.inr (.inr (.inr (.inr (.inl c9)))))))))
  by_cases c10 : w = wRest
  · exact .inr (.inr (.inr (.inr (.inr (.inr (.inr (.inr (.inr (.inr (.inl c10))))))))))
  exact .inr (.inr (.inr (.inr (.inr (.inr (.inr (.inr (.inr (.inr (.inr (⟨c0, c1, c2, c3, c4, c5, c6, c7, c8, c9, c10⟩)))))))))))
theorem bare_f {Z : Sys} {N : QN} (q : QF0 Z N) (hf : Z.fns[N.bare]? = some ⟨2, 5, [false, false, false, false, false], b_bare N.letter N.within N.one⟩) {n k h W : Nat} (hk : k ≤ 4) (hh : h ≤ DEEP) (hW : W ≤ LIM) {w : List Nat} {xs : List D} (g : Gd h W (.tup (.str w :: xs))) :
    (callN Z (n + 4) N.bare [.v (.int k), .v (.tup (.str w :: xs))]).Ok (Pu (.bl (bareD k w xs)) 2) := by
  refine call_pu hf rfl rfl rfl (by intro i hi; rcases i with _ | _ | i <;> first | rfl | omega) ?_
  obtain ⟨h, rfl⟩ : ∃ m, h = m + 1 := by
    cases h with
    | zero => have := g.pl; simp [plain] at this
    | succ m => exact ⟨m, rfl⟩
  have fk := q.fk
  have gx : ∀ x, x ∈ xs → okv x = true ∧ isRef x = false ∧ plain DEEP x = true ∧ (∀ s, x = .str s → s.length ≤ LIM) := fun x hx => by
    have := g.part (List.mem_cons_of_mem _ hx)
    exact ⟨this.okv, this.ref, plain_mono (by omega) this.pl, fun s e => by have := this.slen s e; omega⟩
  have pl : plain DEEP (.tup xs) = true := by
    have := plain_mono hh g.pl
    simp [plain, DEEP] at this ⊢
    exact this
  have pe : plain DEEP (.tup []) = true := rfl
  clear g
  simp only [b_bare]
  simp [exB, exS, evE, evL, evF, evA, evO, tru, rdAll, keepL, setAll, setSl, isBox, isRef, cut1, ati, ixn, plain_str, plain_int, pl, pe]
  clear pl
  have E : ∀ {v : List Nat}, w ≠ v → (v == w) = false ∧ (w == v) = false := fun {v} hv => ⟨by simpa using hv.symm, by simpa using hv⟩
  match xs with
  | [] =>
    rcases wcases w with rfl | rfl | rfl | rfl | rfl | rfl | rfl | rfl | rfl | rfl | rfl | hw
    case inr.inr.inr.inr.inr.inr.inr.inr.inr.inr.inr =>
      obtain ⟨h0, h1, h2, h3, h4, h5, h6, h7, h8, h9, h10⟩ := hw
      obtain ⟨⟨i0, j0⟩, ⟨i1, j1⟩, ⟨i2, j2⟩, ⟨i3, j3⟩, ⟨i4, j4⟩, ⟨i5, j5⟩, ⟨i6, j6⟩, ⟨i7, j7⟩, ⟨i8, j8⟩, ⟨i9, j9⟩, ⟨i10, j10⟩⟩ := And.intro (E h0) (And.intro (E h1) (And.intro (E h2) (And.intro (E h3) (And.intro (E h4) (And.intro (E h5) (And.intro (E h6) (And.intro (E h7) (And.intro (E h8) (And.intro (E h9) (E h10))))))))))
      simp only [wAll, wNone, wWord, wRow, wFirst, wLast, wLong, wAhead, wOften, wNear, wRest] at *
      simp [wAll, wNone, wWord, wRow, wFirst, wLast, wLong, wAhead, wOften, wNear, wRest, inL, eqD, eqL, exB, exS, evE, evL, evF, evA, evO, evAnd, evOr, tru, rdAll, ati, ixn, plain_str, plain_int, bareD, fk, i0, j0, i1, j1, i2, j2, i3, j3, i4, j4, i5, j5, i6, j6, i7, j7, i8, j8, i9, j9, i10, j10]
    all_goals simp [wAll, wNone, wWord, wRow, wFirst, wLast, wLong, wAhead, wOften, wNear, wRest, inL, eqD, eqL, exB, exS, evE, evL, evF, evA, evO, evAnd, evOr, tru, rdAll, ati, ixn, plain_str, plain_int, bareD, fk]
  | [x] =>
    obtain ⟨ox, rx, px, lx⟩ := gx x (by simp)
    have Ax := fun r => q.letterE (n := n + 1) (r := r) hk ox
    have Bx := fun a b r => q.withinE (n := n + 1) (r := r) ox a b
    have Cx := fun w r => q.oneE (n := n) (r := r) hk ox lx px w
    rcases wcases w with rfl | rfl | rfl | rfl | rfl | rfl | rfl | rfl | rfl | rfl | rfl | hw
    case inr.inr.inr.inr.inr.inr.inr.inr.inr.inr.inr =>
      obtain ⟨h0, h1, h2, h3, h4, h5, h6, h7, h8, h9, h10⟩ := hw
      obtain ⟨⟨i0, j0⟩, ⟨i1, j1⟩, ⟨i2, j2⟩, ⟨i3, j3⟩, ⟨i4, j4⟩, ⟨i5, j5⟩, ⟨i6, j6⟩, ⟨i7, j7⟩, ⟨i8, j8⟩, ⟨i9, j9⟩, ⟨i10, j10⟩⟩ := And.intro (E h0) (And.intro (E h1) (And.intro (E h2) (And.intro (E h3) (And.intro (E h4) (And.intro (E h5) (And.intro (E h6) (And.intro (E h7) (And.intro (E h8) (And.intro (E h9) (E h10))))))))))
      simp only [wAll, wNone, wWord, wRow, wFirst, wLast, wLong, wAhead, wOften, wNear, wRest] at *
      simp [wAll, wNone, wWord, wRow, wFirst, wLast, wLong, wAhead, wOften, wNear, wRest, inL, eqD, eqL, exB, exS, evE, evL, evF, evA, evO, evAnd, evOr, tru, rdAll, ati, ixn, plain_str, plain_int, bareD, fk, fz_of _ _ rx, rd_of _ _ rx, Ax, Bx, Cx, i0, j0, i1, j1, i2, j2, i3, j3, i4, j4, i5, j5, i6, j6, i7, j7, i8, j8, i9, j9, i10, j10]
    all_goals simp [wAll, wNone, wWord, wRow, wFirst, wLast, wLong, wAhead, wOften, wNear, wRest, inL, eqD, eqL, exB, exS, evE, evL, evF, evA, evO, evAnd, evOr, tru, rdAll, ati, ixn, plain_str, plain_int, bareD, fk, fz_of _ _ rx, rd_of _ _ rx, Ax, Bx, Cx]
    all_goals simp [bareOneD, wWord, wLong, wRow]
  | [x, y] =>
    obtain ⟨ox, rx, px, lx⟩ := gx x (by simp)
    have Ax := fun r => q.letterE (n := n + 1) (r := r) hk ox
    have Bx := fun a b r => q.withinE (n := n + 1) (r := r) ox a b
    have Cx := fun w r => q.oneE (n := n) (r := r) hk ox lx px w
    obtain ⟨oy, ry, py, ly⟩ := gx y (by simp)
    have Ay := fun r => q.letterE (n := n + 1) (r := r) hk oy
    have By := fun a b r => q.withinE (n := n + 1) (r := r) oy a b
    have Cy := fun w r => q.oneE (n := n) (r := r) hk oy ly py w
    rcases wcases w with rfl | rfl | rfl | rfl | rfl | rfl | rfl | rfl | rfl | rfl | rfl | hw
    case inr.inr.inr.inr.inr.inr.inr.inr.inr.inr.inr =>
      obtain ⟨h0, h1, h2, h3, h4, h5, h6, h7, h8, h9, h10⟩ := hw
      obtain ⟨⟨i0, j0⟩, ⟨i1, j1⟩, ⟨i2, j2⟩, ⟨i3, j3⟩, ⟨i4, j4⟩, ⟨i5, j5⟩, ⟨i6, j6⟩, ⟨i7, j7⟩, ⟨i8, j8⟩, ⟨i9, j9⟩, ⟨i10, j10⟩⟩ := And.intro (E h0) (And.intro (E h1) (And.intro (E h2) (And.intro (E h3) (And.intro (E h4) (And.intro (E h5) (And.intro (E h6) (And.intro (E h7) (And.intro (E h8) (And.intro (E h9) (E h10))))))))))
      simp only [wAll, wNone, wWord, wRow, wFirst, wLast, wLong, wAhead, wOften, wNear, wRest] at *
      simp [wAll, wNone, wWord, wRow, wFirst, wLast, wLong, wAhead, wOften, wNear, wRest, inL, eqD, eqL, exB, exS, evE, evL, evF, evA, evO, evAnd, evOr, tru, rdAll, ati, ixn, plain_str, plain_int, bareD, fk, fz_of _ _ rx, rd_of _ _ rx, Ax, Bx, Cx, fz_of _ _ ry, rd_of _ _ ry, Ay, By, Cy, i0, j0, i1, j1, i2, j2, i3, j3, i4, j4, i5, j5, i6, j6, i7, j7, i8, j8, i9, j9, i10, j10]
    all_goals simp [wAll, wNone, wWord, wRow, wFirst, wLast, wLong, wAhead, wOften, wNear, wRest, inL, eqD, eqL, exB, exS, evE, evL, evF, evA, evO, evAnd, evOr, tru, rdAll, ati, ixn, plain_str, plain_int, bareD, fk, fz_of _ _ rx, rd_of _ _ rx, Ax, Bx, Cx, fz_of _ _ ry, rd_of _ _ ry, Ay, By, Cy]
    · simp [walk, itemsOf, ownless, refsOf, lockE, unlkE, back, compI, bindT, putV, wipeE, evI, evE, evA, rdAll, fk, fz_of _ _ rx, fz_of _ _ ry, Ax, Ay, boolsOf, LIM]
    · cases letterD k x <;> simp
  | [x, y, z] =>
    obtain ⟨ox, rx, px, lx⟩ := gx x (by simp)
    have Ax := fun r => q.letterE (n := n + 1) (r := r) hk ox
    have Bx := fun a b r => q.withinE (n := n + 1) (r := r) ox a b
    have Cx := fun w r => q.oneE (n := n) (r := r) hk ox lx px w
    obtain ⟨oy, ry, py, ly⟩ := gx y (by simp)
    have Ay := fun r => q.letterE (n := n + 1) (r := r) hk oy
    have By := fun a b r => q.withinE (n := n + 1) (r := r) oy a b
    have Cy := fun w r => q.oneE (n := n) (r := r) hk oy ly py w
    obtain ⟨oz, rz, pz, lz⟩ := gx z (by simp)
    have Az := fun r => q.letterE (n := n + 1) (r := r) hk oz
    have Bz := fun a b r => q.withinE (n := n + 1) (r := r) oz a b
    have Cz := fun w r => q.oneE (n := n) (r := r) hk oz lz pz w
    rcases wcases w with rfl | rfl | rfl | rfl | rfl | rfl | rfl | rfl | rfl | rfl | rfl | hw
    case inr.inr.inr.inr.inr.inr.inr.inr.inr.inr.inr =>
      obtain ⟨h0, h1, h2, h3, h4, h5, h6, h7, h8, h9, h10⟩ := hw
      obtain ⟨⟨i0, j0⟩, ⟨i1, j1⟩, ⟨i2, j2⟩, ⟨i3, j3⟩, ⟨i4, j4⟩, ⟨i5, j5⟩, ⟨i6, j6⟩, ⟨i7, j7⟩, ⟨i8, j8⟩, ⟨i9, j9⟩, ⟨i10, j10⟩⟩ := And.intro (E h0) (And.intro (E h1) (And.intro (E h2) (And.intro (E h3) (And.intro (E h4) (And.intro (E h5) (And.intro (E h6) (And.intro (E h7) (And.intro (E h8) (And.intro (E h9) (E h10))))))))))
      simp only [wAll, wNone, wWord, wRow, wFirst, wLast, wLong, wAhead, wOften, wNear, wRest] at *
      simp [wAll, wNone, wWord, wRow, wFirst, wLast, wLong, wAhead, wOften, wNear, wRest, inL, eqD, eqL, exB, exS, evE, evL, evF, evA, evO, evAnd, evOr, tru, rdAll, ati, ixn, plain_str, plain_int, bareD, fk, fz_of _ _ rx, rd_of _ _ rx, Ax, Bx, Cx, fz_of _ _ ry, rd_of _ _ ry, Ay, By, Cy, fz_of _ _ rz, rd_of _ _ rz, Az, Bz, Cz, i0, j0, i1, j1, i2, j2, i3, j3, i4, j4, i5, j5, i6, j6, i7, j7, i8, j8, i9, j9, i10, j10]
    all_goals simp [wAll, wNone, wWord, wRow, wFirst, wLast, wLong, wAhead, wOften, wNear, wRest, inL, eqD, eqL, exB, exS, evE, evL, evF, evA, evO, evAnd, evOr, tru, rdAll, ati, ixn, plain_str, plain_int, bareD, fk, fz_of _ _ rx, rd_of _ _ rx, Ax, Bx, Cx, fz_of _ _ ry, rd_of _ _ ry, Ay, By, Cy, fz_of _ _ rz, rd_of _ _ rz, Az, Bz, Cz]
    · cases letterD k x <;> cases letterD k y <;> simp
    · cases e1 : letterD k x with
      | false => simp
      | true =>
        cases e2 : Pv.within y (.int 2) (.int 4) with
        | false => simp
        | true =>
          obtain ⟨i, rfl⟩ := within_int e2
          simp [Bz, withinTo]
  | x :: y :: z :: u :: r =>
    obtain ⟨ox, rx, px, lx⟩ := gx x (by simp)
    have z1 : ¬ (r.length : Int) + 1 + 1 + 1 + 1 = 1 := by omega
    have z2 : ¬ (r.length : Int) + 1 + 1 + 1 + 1 = 2 := by omega
    have z3 : ¬ (r.length : Int) + 1 + 1 + 1 + 1 = 3 := by omega
    rcases wcases w with rfl | rfl | rfl | rfl | rfl | rfl | rfl | rfl | rfl | rfl | rfl | hw
    case inr.inr.inr.inr.inr.inr.inr.inr.inr.inr.inr =>
      obtain ⟨h0, h1, h2, h3, h4, h5, h6, h7, h8, h9, h10⟩ := hw
      obtain ⟨⟨i0, j0⟩, ⟨i1, j1⟩, ⟨i2, j2⟩, ⟨i3, j3⟩, ⟨i4, j4⟩, ⟨i5, j5⟩, ⟨i6, j6⟩, ⟨i7, j7⟩, ⟨i8, j8⟩, ⟨i9, j9⟩, ⟨i10, j10⟩⟩ := And.intro (E h0) (And.intro (E h1) (And.intro (E h2) (And.intro (E h3) (And.intro (E h4) (And.intro (E h5) (And.intro (E h6) (And.intro (E h7) (And.intro (E h8) (And.intro (E h9) (E h10))))))))))
      simp only [wAll, wNone, wWord, wRow, wFirst, wLast, wLong, wAhead, wOften, wNear, wRest] at *
      simp [wAll, wNone, wWord, wRow, wFirst, wLast, wLong, wAhead, wOften, wNear, wRest, inL, eqD, eqL, exB, exS, evE, evL, evF, evA, evO, evAnd, evOr, tru, rdAll, ati, ixn, plain_str, plain_int, bareD, fk, z1, z2, z3, i0, j0, i1, j1, i2, j2, i3, j3, i4, j4, i5, j5, i6, j6, i7, j7, i8, j8, i9, j9, i10, j10]
    all_goals simp [wAll, wNone, wWord, wRow, wFirst, wLast, wLong, wAhead, wOften, wNear, wRest, inL, eqD, eqL, exB, exS, evE, evL, evF, evA, evO, evAnd, evOr, tru, rdAll, ati, ixn, plain_str, plain_int, bareD, fk, z1, z2, z3]
end Pv
namespace Pv
def b_lawSingle (fw fl ft : Nat) : List MS := [.par [2, 3] [.ix (.v 1) (.c (.int 0)), .bi (.len) [.v 1]], .ife (.cmp (.isin) (.v 2) (.lst [.c (.str [97, 108, 108]), .c (.str [110, 111, 110, 101])])) [.ret (.cmp (.eq) (.v 3) (.c (.int 1)))] [], .ife (.cmp (.eq) (.v 2) (.c (.str [108, 111, 110, 103]))) [.ret (.and [.cmp (.eq) (.v 3) (.c (.int 2)), .call fw [.ix (.v 1) (.c (.int 1)), .c (.int 0), .c (.int 9)] [0, 1, 2] []])] [], .ife (.cmp (.isin) (.v 2) (.lst [.c (.str [114, 111, 119]), .c (.str [102, 105, 114, 115, 116]), .c (.str [108, 97, 115, 116])])) [.ret (.and [.cmp (.eq) (.v 3) (.c (.int 2)), .call ft [.v 0, .ix (.v 1) (.c (.int 1))] [0, 1] [], .or [.cmp (.ne) (.v 2) (.c (.str [114, 111, 119])), .cmp (.ne) (.ix (.v 1) (.c (.int 1))) (.c (.str []))]])] [], .ife (.or [.cmp (.notin) (.v 2) (.lst [.c (.str [119, 111, 114, 100]), .c (.str [110, 101, 97, 114]), .c (.str [97, 104, 101, 97, 100]), .c (.str [111, 102, 116, 101, 110]), .c (.str [114, 101, 115, 116])]), .cmp (.lt) (.v 3) (.c (.int 2)), .not (.call fl [.v 0, .ix (.v 1) (.c (.int 1))] [0, 1] [])]) [.ret (.c (.bl false))] [], .ife (.cmp (.eq) (.v 2) (.c (.str [119, 111, 114, 100]))) [.ret (.cmp (.eq) (.v 3) (.c (.int 2)))] [], .ife (.cmp (.eq) (.v 2) (.c (.str [111, 102, 116, 101, 110]))) [.ret (.and [.cmp (.eq) (.v 3) (.c (.int 3)), .call fw [.ix (.v 1) (.c (.int 2)), .c (.int 0), .c (.int 6)] [0, 1, 2] []])] [], .ife (.cmp (.eq) (.v 2) (.c (.str [114, 101, 115, 116]))) [.ret (.and [.cmp (.eq) (.v 3) (.c (.int 4)), .call fw [.ix (.v 1) (.c (.int 2)), .c (.int 2), .c (.int 4)] [0, 1, 2] [], .call fw [.ix (.v 1) (.c (.int 3)), .c (.int 0), .bin (.sub) (.ix (.v 1) (.c (.int 2))) (.c (.int 1))] [0, 1, 2] []])] [], .ife (.or [.cmp (.lt) (.v 3) (.c (.int 3)), .not (.call fl [.v 0, .ix (.v 1) (.c (.int 2))] [0, 1] [])]) [.ret (.c (.bl false))] [], .ret (.ife (.cmp (.eq) (.v 2) (.c (.str [97, 104, 101, 97, 100]))) (.cmp (.eq) (.v 3) (.c (.int 3))) (.and [.cmp (.eq) (.v 3) (.c (.int 4)), .call fw [.ix (.v 1) (.c (.int 3)), .c (.int 0), .c (.int 5)] [0, 1, 2] []]))]
structure LN where
  within : Nat
  letter : Nat
  text : Nat
  single : Nat
  look : Nat
structure LF0 (Z : Sys) (N : LN) : Prop where
  within : Z.fns[N.within]? = some ⟨3, 3, [false, false, false], b_lawWithin⟩
  letter : Z.fns[N.letter]? = some ⟨2, 2, [false, false], b_lawLetter⟩
  text : Z.fns[N.text]? = some ⟨2, 3, [false, false, false], b_lawText⟩
  one : InOne Z
theorem LF0.fk {Z : Sys} {N : LN} (q : LF0 Z N) : fkeep Z N.letter 0 = false ∧ fkeep Z N.letter 1 = false ∧ fkeep Z N.within 0 = false ∧ fkeep Z N.within 1 = false ∧ fkeep Z N.within 2 = false ∧ fkeep Z N.text 0 = false ∧ fkeep Z N.text 1 = false := by
  simp [fkeep, q.letter, q.within, q.text]
theorem eqD_ss (a b : List Nat) : eqD (.str a) (.str b) = (a == b) := rfl
theorem eqD_ii (a b : Int) : eqD (.int a) (.int b) = (a == b) := rfl
section
variable {Z : Sys} {N : LN} (q : LF0 Z N) {r : Env} {n k : Nat} (hk : k ≤ 4) {x : D} (h : okv x = true)
include q h
theorem LF0.withinE (a b : Int) : callE Z (callN Z (n + 1)) N.within [0, 1, 2] [] [(x, false), (.int a, false), (.int b, false)] r = .ok (.bl (Pv.within x (.int a) (.int b)), false) r := by
  have hr := okv_ref h
  refine callE_eq q.within (sl := [x, .int a, .int b]) (by intro y hy; simp at hy; rcases hy with rfl | rfl | rfl <;> first | rfl | exact hr) (by simp) (by simp [argSl, argOf_pl hr, List.range_succ, List.findIdx?, List.findIdx?.go]) (lawWithin_f q.within n x a b h)
include hk
theorem LF0.letterE (hs : ∀ s, x = .str s → s.length ≤ LIM) : callE Z (callN Z (n + 1)) N.letter [0, 1] [] [(.int k, false), (x, false)] r = .ok (.bl (letterD k x), false) r := by
  have hr := okv_ref h
  refine callE_eq q.letter (sl := [.int k, x]) (by intro y hy; simp at hy; rcases hy with rfl | rfl <;> first | rfl | exact hr) (by simp) (by simp [argSl, argOf_pl hr, List.range_succ, List.findIdx?, List.findIdx?.go]) (lawLetter_f q.one q.letter n k hk x h hs)
theorem LF0.textE (hs : ∀ s, x = .str s → s.length ≤ LIM) : callE Z (callN Z (n + 1)) N.text [0, 1] [] [(.int k, false), (x, false)] r = .ok (.bl (textD k 60 x), false) r := by
  have hr := okv_ref h
  refine callE_eq q.text (sl := [.int k, x]) (by intro y hy; simp at hy; rcases hy with rfl | rfl <;> first | rfl | exact hr) (by simp) (by simp [argSl, argOf_pl hr, List.range_succ, List.findIdx?, List.findIdx?.go, List.lookup]) (lawText_f q.one q.text n k hk x h hs)
end
theorem lawSingle_f {Z : Sys} {N : LN} (q : LF0 Z N) (hf : Z.fns[N.single]? = some ⟨2, 4, [false, false, false, false], b_lawSingle N.within N.letter N.text⟩) {n k h W : Nat} (hk : k ≤ 4) (hh : h ≤ DEEP) (hW : W ≤ LIM) {w : List Nat} {xs : List D} (g : Gd h W (.tup (.str w :: xs))) :
    (callN Z (n + 2) N.single [.v (.int k), .v (.tup (.str w :: xs))]).Ok (Pu (.bl (bareD k w xs)) 2) := by
  refine call_pu hf rfl rfl rfl (by intro i hi; rcases i with _ | _ | i <;> first | rfl | omega) ?_
  obtain ⟨h, rfl⟩ : ∃ m, h = m + 1 := by
    cases h with
    | zero => have := g.pl; simp [plain] at this
    | succ m => exact ⟨m, rfl⟩
  have fk := q.fk
  have gx : ∀ x, x ∈ xs → okv x = true ∧ isRef x = false ∧ plain DEEP x = true ∧ (∀ s, x = .str s → s.length ≤ LIM) := fun x hx => by
    have := g.part (List.mem_cons_of_mem _ hx)
    exact ⟨this.okv, this.ref, plain_mono (by omega) this.pl, fun s e => by have := this.slen s e; omega⟩
  clear g
  simp only [b_lawSingle]
  simp [exB, exS, evE, evL, evF, evA, evO, tru, rdAll, keepL, setAll, setSl, isBox, isRef, ati, ixn, plain_str, plain_int]
  have E : ∀ {v : List Nat}, w ≠ v → (v == w) = false ∧ (w == v) = false := fun {v} hv => ⟨by simpa using hv.symm, by simpa using hv⟩
  match xs with
  | [] =>
    rcases wcases w with rfl | rfl | rfl | rfl | rfl | rfl | rfl | rfl | rfl | rfl | rfl | hw
    case inr.inr.inr.inr.inr.inr.inr.inr.inr.inr.inr =>
      obtain ⟨h0, h1, h2, h3, h4, h5, h6, h7, h8, h9, h10⟩ := hw
      obtain ⟨⟨i0, j0⟩, ⟨i1, j1⟩, ⟨i2, j2⟩, ⟨i3, j3⟩, ⟨i4, j4⟩, ⟨i5, j5⟩, ⟨i6, j6⟩, ⟨i7, j7⟩, ⟨i8, j8⟩, ⟨i9, j9⟩, ⟨i10, j10⟩⟩ := And.intro (E h0) (And.intro (E h1) (And.intro (E h2) (And.intro (E h3) (And.intro (E h4) (And.intro (E h5) (And.intro (E h6) (And.intro (E h7) (And.intro (E h8) (And.intro (E h9) (E h10))))))))))
      simp only [wAll, wNone, wWord, wRow, wFirst, wLast, wLong, wAhead, wOften, wNear, wRest] at *
      simp [wAll, wNone, wWord, wRow, wFirst, wLast, wLong, wAhead, wOften, wNear, wRest, inL, eqD_ss, eqD_ii,  exB, exS, evE, evL, evF, evA, evO, evAnd, evOr, tru, rdAll, ati, ixn, plain_str, plain_int, bareD, fk, i0, j0, i1, j1, i2, j2, i3, j3, i4, j4, i5, j5, i6, j6, i7, j7, i8, j8, i9, j9, i10, j10]
    all_goals simp [wAll, wNone, wWord, wRow, wFirst, wLast, wLong, wAhead, wOften, wNear, wRest, inL, eqD_ss, eqD_ii,  exB, exS, evE, evL, evF, evA, evO, evAnd, evOr, tru, rdAll, ati, ixn, plain_str, plain_int, bareD, fk]
  | [x] =>
    obtain ⟨ox, rx, px, lx⟩ := gx x (by simp)
    have Ax := fun r => q.letterE (n := n) (r := r) hk ox lx
    have Bx := fun a b r => q.withinE (n := n) (r := r) ox a b
    have Cx := fun r => q.textE (n := n) (r := r) hk ox lx
    rcases wcases w with rfl | rfl | rfl | rfl | rfl | rfl | rfl | rfl | rfl | rfl | rfl | hw
    case inr.inr.inr.inr.inr.inr.inr.inr.inr.inr.inr =>
      obtain ⟨h0, h1, h2, h3, h4, h5, h6, h7, h8, h9, h10⟩ := hw
      obtain ⟨⟨i0, j0⟩, ⟨i1, j1⟩, ⟨i2, j2⟩, ⟨i3, j3⟩, ⟨i4, j4⟩, ⟨i5, j5⟩, ⟨i6, j6⟩, ⟨i7, j7⟩, ⟨i8, j8⟩, ⟨i9, j9⟩, ⟨i10, j10⟩⟩ := And.intro (E h0) (And.intro (E h1) (And.intro (E h2) (And.intro (E h3) (And.intro (E h4) (And.intro (E h5) (And.intro (E h6) (And.intro (E h7) (And.intro (E h8) (And.intro (E h9) (E h10))))))))))
      simp only [wAll, wNone, wWord, wRow, wFirst, wLast, wLong, wAhead, wOften, wNear, wRest] at *
      simp [wAll, wNone, wWord, wRow, wFirst, wLast, wLong, wAhead, wOften, wNear, wRest, inL, eqD_ss, eqD_ii,  exB, exS, evE, evL, evF, evA, evO, evAnd, evOr, tru, rdAll, ati, ixn, plain_str, plain_int, bareD, fk, fz_of _ _ rx, rd_of _ _ rx, Ax, Bx, Cx, px, i0, j0, i1, j1, i2, j2, i3, j3, i4, j4, i5, j5, i6, j6, i7, j7, i8, j8, i9, j9, i10, j10]
    all_goals simp [wAll, wNone, wWord, wRow, wFirst, wLast, wLong, wAhead, wOften, wNear, wRest, inL, eqD_ss, eqD_ii,  exB, exS, evE, evL, evF, evA, evO, evAnd, evOr, tru, rdAll, ati, ixn, plain_str, plain_int, bareD, fk, fz_of _ _ rx, rd_of _ _ rx, Ax, Bx, Cx, px]
    all_goals (cases textD k 60 x <;> simp)
  | [x, y] =>
    obtain ⟨ox, rx, px, lx⟩ := gx x (by simp)
    have Ax := fun r => q.letterE (n := n) (r := r) hk ox lx
    have Bx := fun a b r => q.withinE (n := n) (r := r) ox a b
    have Cx := fun r => q.textE (n := n) (r := r) hk ox lx
    obtain ⟨oy, ry, py, ly⟩ := gx y (by simp)
    have Ay := fun r => q.letterE (n := n) (r := r) hk oy ly
    have By := fun a b r => q.withinE (n := n) (r := r) oy a b
    have Cy := fun r => q.textE (n := n) (r := r) hk oy ly
    rcases wcases w with rfl | rfl | rfl | rfl | rfl | rfl | rfl | rfl | rfl | rfl | rfl | hw
    case inr.inr.inr.inr.inr.inr.inr.inr.inr.inr.inr =>
      obtain ⟨h0, h1, h2, h3, h4, h5, h6, h7, h8, h9, h10⟩ := hw
      obtain ⟨⟨i0, j0⟩, ⟨i1, j1⟩, ⟨i2, j2⟩, ⟨i3, j3⟩, ⟨i4, j4⟩, ⟨i5, j5⟩, ⟨i6, j6⟩, ⟨i7, j7⟩, ⟨i8, j8⟩, ⟨i9, j9⟩, ⟨i10, j10⟩⟩ := And.intro (E h0) (And.intro (E h1) (And.intro (E h2) (And.intro (E h3) (And.intro (E h4) (And.intro (E h5) (And.intro (E h6) (And.intro (E h7) (And.intro (E h8) (And.intro (E h9) (E h10))))))))))
      simp only [wAll, wNone, wWord, wRow, wFirst, wLast, wLong, wAhead, wOften, wNear, wRest] at *
      simp [wAll, wNone, wWord, wRow, wFirst, wLast, wLong, wAhead, wOften, wNear, wRest, inL, eqD_ss, eqD_ii,  exB, exS, evE, evL, evF, evA, evO, evAnd, evOr, tru, rdAll, ati, ixn, plain_str, plain_int, bareD, fk, fz_of _ _ rx, rd_of _ _ rx, Ax, Bx, Cx, px, fz_of _ _ ry, rd_of _ _ ry, Ay, By, Cy, py, i0, j0, i1, j1, i2, j2, i3, j3, i4, j4, i5, j5, i6, j6, i7, j7, i8, j8, i9, j9, i10, j10]
    all_goals simp [wAll, wNone, wWord, wRow, wFirst, wLast, wLong, wAhead, wOften, wNear, wRest, inL, eqD_ss, eqD_ii,  exB, exS, evE, evL, evF, evA, evO, evAnd, evOr, tru, rdAll, ati, ixn, plain_str, plain_int, bareD, fk, fz_of _ _ rx, rd_of _ _ rx, Ax, Bx, Cx, px, fz_of _ _ ry, rd_of _ _ ry, Ay, By, Cy, py]
    · cases letterD k x <;> cases letterD k y <;> simp
    · cases letterD k x <;> simp
  | [x, y, z] =>
    obtain ⟨ox, rx, px, lx⟩ := gx x (by simp)
    have Ax := fun r => q.letterE (n := n) (r := r) hk ox lx
    have Bx := fun a b r => q.withinE (n := n) (r := r) ox a b
    have Cx := fun r => q.textE (n := n) (r := r) hk ox lx
    obtain ⟨oy, ry, py, ly⟩ := gx y (by simp)
    have Ay := fun r => q.letterE (n := n) (r := r) hk oy ly
    have By := fun a b r => q.withinE (n := n) (r := r) oy a b
    have Cy := fun r => q.textE (n := n) (r := r) hk oy ly
    obtain ⟨oz, rz, pz, lz⟩ := gx z (by simp)
    have Az := fun r => q.letterE (n := n) (r := r) hk oz lz
    have Bz := fun a b r => q.withinE (n := n) (r := r) oz a b
    have Cz := fun r => q.textE (n := n) (r := r) hk oz lz
    rcases wcases w with rfl | rfl | rfl | rfl | rfl | rfl | rfl | rfl | rfl | rfl | rfl | hw
    case inr.inr.inr.inr.inr.inr.inr.inr.inr.inr.inr =>
      obtain ⟨h0, h1, h2, h3, h4, h5, h6, h7, h8, h9, h10⟩ := hw
      obtain ⟨⟨i0, j0⟩, ⟨i1, j1⟩, ⟨i2, j2⟩, ⟨i3, j3⟩, ⟨i4, j4⟩, ⟨i5, j5⟩, ⟨i6, j6⟩, ⟨i7, j7⟩, ⟨i8, j8⟩, ⟨i9, j9⟩, ⟨i10, j10⟩⟩ := And.intro (E h0) (And.intro (E h1) (And.intro (E h2) (And.intro (E h3) (And.intro (E h4) (And.intro (E h5) (And.intro (E h6) (And.intro (E h7) (And.intro (E h8) (And.intro (E h9) (E h10))))))))))
      simp only [wAll, wNone, wWord, wRow, wFirst, wLast, wLong, wAhead, wOften, wNear, wRest] at *
      simp [wAll, wNone, wWord, wRow, wFirst, wLast, wLong, wAhead, wOften, wNear, wRest, inL, eqD_ss, eqD_ii,  exB, exS, evE, evL, evF, evA, evO, evAnd, evOr, tru, rdAll, ati, ixn, plain_str, plain_int, bareD, fk, fz_of _ _ rx, rd_of _ _ rx, Ax, Bx, Cx, px, fz_of _ _ ry, rd_of _ _ ry, Ay, By, Cy, py, fz_of _ _ rz, rd_of _ _ rz, Az, Bz, Cz, pz, i0, j0, i1, j1, i2, j2, i3, j3, i4, j4, i5, j5, i6, j6, i7, j7, i8, j8, i9, j9, i10, j10]
    all_goals simp [wAll, wNone, wWord, wRow, wFirst, wLast, wLong, wAhead, wOften, wNear, wRest, inL, eqD_ss, eqD_ii,  exB, exS, evE, evL, evF, evA, evO, evAnd, evOr, tru, rdAll, ati, ixn, plain_str, plain_int, bareD, fk, fz_of _ _ rx, rd_of _ _ rx, Ax, Bx, Cx, px, fz_of _ _ ry, rd_of _ _ ry, Ay, By, Cy, py, fz_of _ _ rz, rd_of _ _ rz, Az, Bz, Cz, pz]
    · cases letterD k x <;> cases letterD k y <;> simp
    · cases e1 : letterD k x with
      | false => simp
      | true =>
        cases e2 : Pv.within y (.int 2) (.int 4) with
        | false => simp
        | true =>
          obtain ⟨i, rfl⟩ := within_int e2
          simp [Bz, withinTo]
  | x :: y :: z :: u :: r =>
    obtain ⟨ox, rx, px, lx⟩ := gx x (by simp)
    have Ax := fun r => q.letterE (n := n) (r := r) hk ox lx
    have Bx := fun a b r => q.withinE (n := n) (r := r) ox a b
    have Cx := fun r => q.textE (n := n) (r := r) hk ox lx
    obtain ⟨oy, ry, py, ly⟩ := gx y (by simp)
    have Ay := fun r => q.letterE (n := n) (r := r) hk oy ly
    have By := fun a b r => q.withinE (n := n) (r := r) oy a b
    have Cy := fun r => q.textE (n := n) (r := r) hk oy ly
    have z1 : ¬ (r.length : Int) + 1 + 1 + 1 + 1 + 1 = 1 := by omega
    have z2 : ¬ (r.length : Int) + 1 + 1 + 1 + 1 + 1 = 2 := by omega
    have z3 : ¬ (r.length : Int) + 1 + 1 + 1 + 1 + 1 = 3 := by omega
    have z4 : ¬ (r.length : Int) + 1 + 1 + 1 + 1 + 1 = 4 := by omega
    have z6 : 1 < (r.length : Int) + 1 + 1 + 1 + 1 + 1 := by omega
    have z7 : 2 < (r.length : Int) + 1 + 1 + 1 + 1 + 1 := by omega
    have z8 : ¬ (r.length : Int) + 1 + 1 + 1 + 1 + 1 < 3 := by omega
    have z5 : ¬ (r.length : Int) + 1 + 1 + 1 + 1 + 1 < 2 := by omega
    rcases wcases w with rfl | rfl | rfl | rfl | rfl | rfl | rfl | rfl | rfl | rfl | rfl | hw
    case inr.inr.inr.inr.inr.inr.inr.inr.inr.inr.inr =>
      obtain ⟨h0, h1, h2, h3, h4, h5, h6, h7, h8, h9, h10⟩ := hw
      obtain ⟨⟨i0, j0⟩, ⟨i1, j1⟩, ⟨i2, j2⟩, ⟨i3, j3⟩, ⟨i4, j4⟩, ⟨i5, j5⟩, ⟨i6, j6⟩, ⟨i7, j7⟩, ⟨i8, j8⟩, ⟨i9, j9⟩, ⟨i10, j10⟩⟩ := And.intro (E h0) (And.intro (E h1) (And.intro (E h2) (And.intro (E h3) (And.intro (E h4) (And.intro (E h5) (And.intro (E h6) (And.intro (E h7) (And.intro (E h8) (And.intro (E h9) (E h10))))))))))
      simp only [wAll, wNone, wWord, wRow, wFirst, wLast, wLong, wAhead, wOften, wNear, wRest] at *
      simp [wAll, wNone, wWord, wRow, wFirst, wLast, wLong, wAhead, wOften, wNear, wRest, inL, eqD_ss, eqD_ii,  exB, exS, evE, evL, evF, evA, evO, evAnd, evOr, tru, rdAll, ati, ixn, plain_str, plain_int, bareD, fk, z1, z2, z3, z4, z5, z6, z7, z8, fz_of _ _ rx, rd_of _ _ rx, Ax, Bx, Cx, px, fz_of _ _ ry, rd_of _ _ ry, Ay, By, Cy, py, i0, j0, i1, j1, i2, j2, i3, j3, i4, j4, i5, j5, i6, j6, i7, j7, i8, j8, i9, j9, i10, j10]
    all_goals simp [wAll, wNone, wWord, wRow, wFirst, wLast, wLong, wAhead, wOften, wNear, wRest, inL, eqD_ss, eqD_ii,  exB, exS, evE, evL, evF, evA, evO, evAnd, evOr, tru, rdAll, ati, ixn, plain_str, plain_int, bareD, fk, z1, z2, z3, z4, z5, z6, z7, z8, fz_of _ _ rx, rd_of _ _ rx, Ax, Bx, Cx, px, fz_of _ _ ry, rd_of _ _ ry, Ay, By, Cy, py]
end Pv
namespace Pv
def wNot : List Nat := [110, 111, 116]
def wAnd : List Nat := [97, 110, 100]
def wOr : List Nat := [111, 114]
def builtN (k : Nat) : Nat → D → Bool
  | 0, _ => false
  | m + 1, .tup (.str w :: xs) => if w = wNot then decide (xs.length = 1) && xs.all (builtN k m) else if w = wAnd ∨ w = wOr then decide (2 ≤ xs.length) && decide (xs.length ≤ 6) && xs.all (builtN k m) else bareD k w xs
  | _, _ => false
def b_built (f fb : Nat) : List MS := [.ife (.or [.cmp (.lt) (.v 2) (.c (.int 1)), .not (.isi (.v 1) [.tuple]), .cmp (.eq) (.v 1) (.tup []), .not (.isi (.ix (.v 1) (.c (.int 0))) [.str])]) [.ret (.c (.bl false))] [], .ife (.cmp (.eq) (.ix (.v 1) (.c (.int 0))) (.c (.str [110, 111, 116]))) [.ret (.and [.cmp (.eq) (.bi (.len) [.v 1]) (.c (.int 2)), .call f [.v 0, .ix (.v 1) (.c (.int 1)), .bin (.sub) (.v 2) (.c (.int 1))] [0, 1, 2] []])] [], .ife (.cmp (.isin) (.ix (.v 1) (.c (.int 0))) (.g 0 (.tup [.str [97, 110, 100], .str [111, 114]]))) [.ife (.not (.cmp2 (.le) (.le) (.c (.int 2)) (.bin (.sub) (.bi (.len) [.v 1]) (.c (.int 1))) (.g 0 (.int 6)))) [.ret (.c (.bl false))] [], .ret (.bi (.all) [.lc (.call f [.v 0, .v 3, .bin (.sub) (.v 2) (.c (.int 1))] [0, 1, 2] []) (.nm 3) (.seq) [.sl (.v 1) (some (.c (.int 1))) none] [] [3]])] [], .ret (.call fb [.v 0, .v 1] [0, 1] [])]
structure QF1 (Z : Sys) (N : QN) : Prop extends QF0 Z N where
  bare : Z.fns[N.bare]? = some ⟨2, 5, [false, false, false, false, false], b_bare N.letter N.within N.one⟩
  built : Z.fns[N.built]? = some ⟨3, 4, [false, false, false, false], b_built N.built N.bare⟩
@[simp] theorem ati_zero {α : Type} (x : α) (xs : List α) : ati (x :: xs) 0 = some x := by
  have : (0 : Int) < xs.length + 1 := by omega
  simp [ati, ixn, this]
@[simp] theorem ati_one {α : Type} (x y : α) (xs : List α) : ati (x :: y :: xs) 1 = some y := by
  have : (1 : Int) < xs.length + 1 + 1 := by omega
  simp [ati, ixn, this]
theorem plainT {h W : Nat} {xs : List D} (hh : h ≤ DEEP) (g : Gd h W (.tup xs)) : ∃ m, h = m + 1 ∧ (∀ x, x ∈ xs → Gd m W x) ∧ plain DEEP (.tup xs) = true := by
  cases h with
  | zero => have := g.pl; simp [plain] at this
  | succ m => exact ⟨m, rfl, fun x hx => g.part hx, plain_mono hh g.pl⟩
theorem built_f {Z : Sys} {N : QN} (q : QF1 Z N) {k n W : Nat} (hk : k ≤ 4) (hW : W ≤ LIM) : ∀ (dep h : Nat) (d : D), h ≤ DEEP → Gd h W d →
    (callN Z (n + dep + 5) N.built [.v (.int k), .v d, .v (.int dep)]).Ok (Pu (.bl (builtN k dep d)) 3) := by
  intro dep
  induction dep with
  | zero =>
    intro h d hh g
    refine call_pu q.built rfl rfl rfl (by intro i hi; rcases i with _ | _ | _ | i <;> first | rfl | omega) ?_
    simp [b_built, exB, exS, evE, evOr, tru, builtN]
  | succ dep ih =>
    intro h d hh g
    rw [show n + (dep + 1) + 5 = (n + dep + 5) + 1 by omega]
    refine call_pu q.built rfl rfl rfl (by intro i hi; rcases i with _ | _ | _ | i <;> first | rfl | omega) ?_
    have z1 : ¬ (dep : Int) + 1 < 1 := by omega
    have ok := g.okv
    have fk : fkeep Z N.built 0 = false ∧ fkeep Z N.built 1 = false ∧ fkeep Z N.built 2 = false ∧ fkeep Z N.bare 0 = false ∧ fkeep Z N.bare 1 = false := by simp [fkeep, q.built, q.bare]
    have pe : plain DEEP (.tup []) = true := rfl
    cases d <;> first
      | (simp [okv] at ok; done)
      | (simp [b_built, exB, exS, evE, evOr, tru, isiOk, isTy, z1, builtN]; done)
      | skip
    rename_i xs
    obtain ⟨m, rfl, gx, pl⟩ := plainT hh g
    have eqe : ∀ (y : D) (ys : List D), eqD (.tup (y :: ys)) (.tup []) = false := fun _ _ => rfl
    have eq0 : eqD (.tup []) (.tup []) = true := rfl
    match xs with
    | [] => simp [b_built, exB, exS, evE, evF, evOr, tru, isiOk, isTy, z1, builtN, pl, pe, eq0]
    | y :: ys =>
      have oy := (gx y (by simp)).okv
      have ry := (gx y (by simp)).ref
      cases y <;> first
        | (simp [okv] at oy; done)
        | (simp [b_built, exB, exS, evE, evF, evOr, tru, isiOk, isTy, z1, builtN, pl, pe, eqe, isRef]; done)
        | skip
      rename_i w
      have rcl : ∀ r x, x ∈ ys → callE Z (callN Z (n + dep + 5)) N.built [0, 1, 2] [] [(.int k, false), (x, false), (.int dep, false)] r = .ok (.bl (builtN k dep x), false) r := fun r x hx => by
        have hr := (gx x (List.mem_cons_of_mem _ hx)).ref
        refine callE_eq q.built (sl := [.int k, x, .int dep]) (by intro y hy; simp at hy; rcases hy with rfl | rfl | rfl <;> first | rfl | exact hr) (by simp) (by simp [argSl, argOf_pl hr, List.range_succ, List.findIdx?, List.findIdx?.go]) (ih m x (by omega) (gx x (List.mem_cons_of_mem _ hx)))
      have bar : ∀ r, callE Z (callN Z (n + dep + 5)) N.bare [0, 1] [] [(.int k, false), (.tup (.str w :: ys), false)] r = .ok (.bl (bareD k w ys), false) r := fun r =>
        callE_eq q.bare (sl := [.int k, .tup (.str w :: ys)]) (by intro y hy; simp at hy; rcases hy with rfl | rfl <;> rfl) (by simp) (by simp [argSl, List.range_succ, List.findIdx?, List.findIdx?.go]) (bare_f (n := n + dep + 1) q.toQF0 q.bare hk hh hW g)
      have dp : ((dep : Int) + 1 - 1) = dep := by omega
      have hl : 2 * ys.length ≤ W := by have := g.len; simp at this; omega
      by_cases c1 : w = wNot
      · have c1' : w = [110, 111, 116] := c1
        subst c1'
        match ys with
        | [] => simp [b_built, exB, exS, evE, evF, evL, evA, evO, evOr, evAnd, tru, rdAll, isiOk, isTy, z1, builtN, pl, pe, eqe, isRef, plain_str, plain_int, eqD_ss, eqD_ii, inL, cut1, fk, keepL, wNot, wAnd, wOr, dp, bar]
        | [x] =>
          have rx := (gx x (by simp)).ref
          have rcx := fun r => rcl r x (by simp)
          simp [b_built, exB, exS, evE, evF, evL, evA, evO, evOr, evAnd, tru, rdAll, isiOk, isTy, z1, builtN, pl, pe, eqe, isRef, plain_str, plain_int, eqD_ss, eqD_ii, inL, cut1, fk, keepL, wNot, wAnd, wOr, dp, bar, fz_of _ _ rx, rcx]
        | x :: x2 :: yr =>
          have z2 : ¬ (yr.length : Int) + 1 + 1 + 1 = 2 := by omega
          simp [b_built, exB, exS, evE, evF, evL, evA, evO, evOr, evAnd, tru, rdAll, isiOk, isTy, z1, builtN, pl, pe, eqe, isRef, plain_str, plain_int, eqD_ss, eqD_ii, inL, cut1, fk, keepL, wNot, wAnd, wOr, dp, bar, z2]
      · have c1' : ¬ w = [110, 111, 116] := c1
        by_cases c2 : w = [97, 110, 100] ∨ w = [111, 114]
        · have c2' : ([97, 110, 100] = w ∨ [111, 114] = w) = True := by simp [eq_comm]; exact c2
          by_cases l1 : 2 ≤ ys.length
          · by_cases l2 : ys.length ≤ 6
            · have l1' : (2 : Int) ≤ ys.length := by omega
              have l2' : (ys.length : Int) ≤ 6 := by omega
              simp [b_built, exB, exS, evE, evF, evL, evA, evO, evOr, evAnd, tru, rdAll, isiOk, isTy, z1, builtN, pl, pe, eqe, isRef, plain_str, plain_int, eqD_ss, eqD_ii, inL, cut1, fk, keepL, wNot, wAnd, wOr, dp, bar, c1', c2, c2', l1, l2, l1', l2', walk, itemsOf, ownless, refsOf, lockE, unlkE]
              refine (compI_map (fun r => ∃ t, r = [.v (.int k), .v (.tup (.str w :: ys)), .v (.int (dep + 1)), t] ∧ (t = .e ∨ ∃ d, t = .v d)) (fun x => .bl (builtN k dep x)) _ _ ?_ ⟨_, rfl, .inl rfl⟩).mono ?_
              · rintro x hx r ⟨t, rfl, ht⟩
                have rx := (gx x (List.mem_cons_of_mem _ hx)).ref
                refine ⟨[.v (.int k), .v (.tup (.str w :: ys)), .v (.int (dep + 1)), .v x], by simp [wipeE, bindT, putV], ?_⟩
                simp [fz_of _ _ rx, dp, rcl _ x hx]
                rfl
              · rintro zs r ⟨rfl, t, rfl, ht⟩
                refine ⟨by simp [LIM]; omega, ?_⟩
                rw [bools_map (fun x => builtN k dep x)]
                simp [back, List.all_map, Function.comp_def]
            · have l2' : ¬ (ys.length : Int) ≤ 6 := by omega
              have l1' : (2 : Int) ≤ ys.length := by omega
              simp [b_built, exB, exS, evE, evF, evL, evA, evO, evOr, evAnd, tru, rdAll, isiOk, isTy, z1, builtN, pl, pe, eqe, isRef, plain_str, plain_int, eqD_ss, eqD_ii, inL, cut1, fk, keepL, wNot, wAnd, wOr, dp, bar, c1', c2, c2', l1, l2, l1', l2']
          · have l1' : ¬ (2 : Int) ≤ ys.length := by omega
            simp [b_built, exB, exS, evE, evF, evL, evA, evO, evOr, evAnd, tru, rdAll, isiOk, isTy, z1, builtN, pl, pe, eqe, isRef, plain_str, plain_int, eqD_ss, eqD_ii, inL, cut1, fk, keepL, wNot, wAnd, wOr, dp, bar, c1', c2, c2', l1, l1']
        · have c2' : ([97, 110, 100] = w ∨ [111, 114] = w) = False := by simp [eq_comm] at c2 ⊢; exact c2
          simp [b_built, exB, exS, evE, evF, evL, evA, evO, evOr, evAnd, tru, rdAll, isiOk, isTy, z1, builtN, pl, pe, eqe, isRef, plain_str, plain_int, eqD_ss, eqD_ii, inL, cut1, fk, keepL, wNot, wAnd, wOr, dp, bar, c1', c2, c2', fz_of]
end Pv
namespace Pv
def b_parts : List MS := [.ret (.ife (.or [.cmp (.isin) (.ix (.v 0) (.c (.int 0))) (.g 0 (.tup [.str [97, 110, 100], .str [111, 114]])), .cmp (.eq) (.ix (.v 0) (.c (.int 0))) (.c (.str [110, 111, 116]))]) (.bi (.list) [.sl (.v 0) (some (.c (.int 1))) none]) (.lst []))]
def b_size (f fp : Nat) : List MS := [.ret (.bin (.add) (.c (.int 1)) (.bi (.sum) [.lc (.call f [.v 1] [0] []) (.nm 1) (.seq) [.call fp [.v 0] [0] []] [] [1]]))]
def joins (w : List Nat) : Bool := decide (w = wNot) || decide (w = wAnd) || decide (w = wOr)
def partsD (w : List Nat) (ys : List D) : List D := if joins w = true then ys else []
theorem parts_f {Z : Sys} {f : Nat} (hf : Z.fns[f]? = some ⟨1, 1, [false], b_parts⟩) (n : Nat) (w : List Nat) (ys : List D) :
    (callN Z (n + 1) f [.v (.tup (.str w :: ys))]).Ok fun d fr o => d = .lst (partsD w ys) ∧ fr = true ∧ o = [.e] := by
  refine call_of hf rfl rfl ?_
  simp only [b_parts, keepK_eq]
  by_cases c1 : w = wNot
  · have e : partsD w ys = ys := by simp [partsD, joins, c1]
    subst c1
    simp [exB, exS, evE, evL, evF, evO, evOr, tru, rdAll, plain_str, inL, eqD_ss, wNot, cut1, fin, outD, outs, List.range_succ]
    exact e.symm
  · have c1' : ¬ w = [110, 111, 116] := c1
    have c1b : (w == [110, 111, 116]) = false := by simpa using c1'
    by_cases c2 : w = wAnd
    · have e : partsD w ys = ys := by simp [partsD, joins, c2]
      subst c2
      simp [exB, exS, evE, evL, evF, evO, evOr, tru, rdAll, plain_str, inL, eqD_ss, wAnd, cut1, fin, outD, outs, List.range_succ]
      exact e.symm
    · by_cases c3 : w = wOr
      · have e : partsD w ys = ys := by simp [partsD, joins, c3]
        subst c3
        simp [exB, exS, evE, evL, evF, evO, evOr, tru, rdAll, plain_str, inL, eqD_ss, wOr, cut1, fin, outD, outs, List.range_succ]
        exact e.symm
      · have e : partsD w ys = [] := by simp [partsD, joins, c1, c2, c3]
        have c2' : ¬ [97, 110, 100] = w := fun z => c2 z.symm
        have c3' : ¬ [111, 114] = w := fun z => c3 z.symm
        simp [exB, exS, evE, evL, evF, evO, evOr, tru, rdAll, plain_str, inL, eqD_ss, c1', c1b, c2', c3', cut1, fin, outD, outs, List.range_succ]
        exact e
def sizeN : Nat → D → Int
  | m + 1, .tup (.str w :: ys) => 1 + sumI ((partsD w ys).map (sizeN m))
  | _, _ => 1
theorem size_f {Z : Sys} {N : QN} (hp : Z.fns[N.parts]? = some ⟨1, 1, [false], b_parts⟩) (hf : Z.fns[N.size]? = some ⟨1, 2, [false, false], b_size N.size N.parts⟩) {k n W : Nat} (hW : W ≤ LIM) : ∀ (dep h : Nat) (d : D), h ≤ DEEP → Gd h W d → builtN k dep d = true →
    (callN Z (n + dep + 1) N.size [.v d]).Ok (Pu (.int (sizeN dep d)) 1) := by
  intro dep
  induction dep with
  | zero => intro h d hh g hb; simp [builtN] at hb
  | succ dep ih =>
    intro h d hh g hb
    rw [show n + (dep + 1) + 1 = (n + dep + 1) + 1 by omega]
    have fk : fkeep Z N.size 0 = false ∧ fkeep Z N.parts 0 = false := by simp [fkeep, hp, hf]
    match d, hb with
    | .tup (.str w :: ys), hb =>
      refine call_pu hf rfl rfl rfl (by intro i hi; rcases i with _ | i <;> first | rfl | omega) ?_
      obtain ⟨m, rfl, gx, pl⟩ := plainT hh g
      have hb' : ∀ x, x ∈ partsD w ys → builtN k dep x = true ∧ Gd m W x := fun x hx => by
        by_cases cj : joins w = true
        · have e : partsD w ys = ys := by simp [partsD, cj]
          rw [e] at hx
          refine ⟨?_, gx x (List.mem_cons_of_mem _ hx)⟩
          simp only [builtN] at hb
          by_cases c1 : w = wNot
          · simp only [c1, if_true, Bool.and_eq_true, List.all_eq_true] at hb
            exact hb.2 x hx
          · simp only [c1, if_false] at hb
            have c2 : w = wAnd ∨ w = wOr := by simp [joins, c1] at cj; exact cj
            simp only [c2, if_true, Bool.and_eq_true, List.all_eq_true] at hb
            exact hb.2 x hx
        · have e : partsD w ys = [] := by simp [partsD, cj]
          rw [e] at hx
          cases hx
      have hl : 2 * ys.length ≤ W := by have := g.len; simp at this; omega
      have hl2 : (partsD w ys).length ≤ 16777216 := by
        have : (partsD w ys).length ≤ ys.length := by unfold partsD; split <;> simp
        unfold LIM at hW
        omega
      simp [b_size, exB, exS, evE, evL, evA, rdAll, fk]
      refine callE_of hp rfl (sl := [.v (.tup (.str w :: ys))]) (by simp [argSl, List.range_succ, List.findIdx?, List.findIdx?.go]) ((parts_f hp (n + dep) w ys).mono ?_)
      rintro d fr o ⟨rfl, rfl, rfl⟩
      refine ⟨rfl, ?_⟩
      simp [moved, wback, rdAll, walk, itemsOf, ownless, refsOf, lockE, unlkE]
      refine (compI_map (fun r => ∃ t, r = [.v (.tup (.str w :: ys)), t] ∧ (t = .e ∨ ∃ d, t = .v d)) (fun x => .int (sizeN dep x)) _ _ ?_ ⟨_, rfl, .inl rfl⟩).mono ?_
      · rintro x hx r ⟨t, rfl, ht⟩
        have gxx := (hb' x hx).2
        have rx := gxx.ref
        refine ⟨[.v (.tup (.str w :: ys)), .v x], by simp [wipeE, bindT, putV], ?_⟩
        have := fun r => callE_eq hf (r := r) (n := n + dep + 1) (ix := [0]) (df := []) (as := [(x, false)]) (sl := [x]) (by intro y hy; simp at hy; subst hy; exact rx) (by simp) (by simp [argSl, argOf_pl rx, List.range_succ, List.findIdx?, List.findIdx?.go]) (ih m x (by omega) gxx (hb' x hx).1)
        simp [fz_of _ _ rx, this]
        rfl
      · rintro zs r ⟨rfl, t, rfl, ht⟩
        refine ⟨by simp [LIM]; exact hl2, ?_⟩
        rw [ints_map (fun x => sizeN dep x)]
        simp [back, sizeN]
def b_check (fw : Nat) : List MS := [.ife (.not (.call fw [.v 0, .c (.int 1), .bi (.len) [.g 0 (.str [97, 98, 99, 100])]] [0, 1, 2] [])) [.raise 0 []] []]
theorem call_nx {Z : Sys} {n f np ns : Nat} {keep : List Bool} {b : List MS} {sl : List Sl} (hf : Z.fns[f]? = some ⟨np, ns, keep, b⟩) (hl : sl.length = np) (hs : slOk ⟨np, ns, keep, b⟩ sl = true) (hk : ∀ i, i < np → keep.getD i false = false)
    (h : (exB Z (callN Z n) (keepL np keep) b (sl ++ List.replicate (ns - np) .e)).Ok fun fl _ => fl = .nx) : (callN Z (n + 1) f sl).Ok (Pu .non np) := by
  refine call_of hf hl hs (Res.Ok.mono h ?_)
  rintro fl r rfl
  refine ⟨rfl, rfl, rfl, ?_⟩
  unfold outs
  refine List.ext_getElem? fun i => ?_
  simp only [List.getElem?_map, List.getElem?_replicate]
  by_cases c : i < np
  · rw [List.getElem?_range c, if_pos c]
    simp only [Option.map_some, hk i c, Bool.false_eq_true, if_false]
  · rw [List.getElem?_eq_none (by simp; omega), if_neg c]
    rfl
theorem check_f {Z : Sys} {N : QN} (q : QF0 Z N) {f : Nat} (hf : Z.fns[f]? = some ⟨1, 1, [false], b_check N.within⟩) (n k : Nat) (h1 : 1 ≤ k) (hk : k ≤ 4) : (callN Z (n + 3) f [.v (.int k)]).Ok (Pu .non 1) := by
  refine call_nx hf rfl rfl (by intro i hi; rcases i with _ | i <;> first | rfl | omega) ?_
  have fk := q.fk
  have e := fun r => q.withinE (n := n) (r := r) (x := .int k) rfl 1 4
  have w : within (.int k) (.int 1) (.int 4) = true := by simp [within]; omega
  simp [b_check, exB, exS, evE, evL, evA, tru, rdAll, fk, e, w, LIM]
def queryB (k : Nat) (d : D) : Bool := builtN k 8 d && decide (sizeN 8 d ≤ 40)
def b_queryOf (fb fs : Nat) : List MS := [.ret (.and [.call fb [.v 0, .v 1, .g 0 (.int 8)] [0, 1, 2] [], .cmp (.le) (.call fs [.v 1] [0] []) (.g 0 (.int 40))])]
def b_query (fc fo : Nat) : List MS := [.expr (.call fc [.v 0] [0] []), .ret (.call fo [.v 0, .v 1] [0, 1] [])]
structure QF2 (Z : Sys) (N : QN) : Prop extends QF1 Z N where
  parts : Z.fns[N.parts]? = some ⟨1, 1, [false], b_parts⟩
  size : Z.fns[N.size]? = some ⟨1, 2, [false, false], b_size N.size N.parts⟩
theorem built_dic {Z : Sys} {N : QN} (q : QF1 Z N) (n k : Nat) : (callN Z (n + 1) N.built [.v (.int k), .v (.dic [] []), .v (.int 8)]).Ok (Pu (.bl false) 3) := by
  refine call_pu q.built rfl rfl rfl (by intro i hi; rcases i with _ | _ | _ | i <;> first | rfl | omega) ?_
  simp [b_built, exB, exS, evE, evOr, tru, isiOk, isTy]
/-- the values looked at: bounded ones, and the empty dict -/
inductive Vl (h W : Nat) : D → Prop
  | gd {d : D} : Gd h W d → Vl h W d
  | dic : Vl h W (.dic [] [])
theorem Vl.ref {h W : Nat} {d : D} (v : Vl h W d) : isRef d = false := by
  cases v with
  | gd g => exact g.ref
  | dic => rfl
theorem queryOf_f {Z : Sys} {N : QN} (q : QF2 Z N) {f : Nat} (hf : Z.fns[f]? = some ⟨2, 2, [false, false], b_queryOf N.built N.size⟩) {k n h W : Nat} (hk : k ≤ 4) (hW : W ≤ LIM) (hh : h ≤ DEEP) (d : D) (v : Vl h W d) :
    (callN Z (n + 14) f [.v (.int k), .v d]).Ok (Pu (.bl (queryB k d)) 2) := by
  refine call_pu hf rfl rfl rfl (by intro i hi; rcases i with _ | _ | i <;> first | rfl | omega) ?_
  have fk : fkeep Z N.size 0 = false ∧ fkeep Z N.built 0 = false ∧ fkeep Z N.built 1 = false ∧ fkeep Z N.built 2 = false := by simp [fkeep, q.size, q.built]
  have rx := v.ref
  have hb : (callN Z (n + 13) N.built [.v (.int k), .v d, .v (.int 8)]).Ok (Pu (.bl (builtN k 8 d)) 3) := by
    cases v with
    | gd g => exact built_f (n := n) q.toQF1 hk hW 8 h d hh g
    | dic => exact built_dic q.toQF1 (n + 12) k
  have eb := fun r => callE_eq q.built (r := r) (n := n + 13) (ix := [0, 1, 2]) (df := []) (as := [(.int k, false), (d, false), (.int 8, false)]) (sl := [.int k, d, .int 8]) (by intro y hy; simp at hy; rcases hy with rfl | rfl | rfl <;> first | rfl | exact rx) (by simp) (by simp [argSl, argOf_pl rx, List.range_succ, List.findIdx?, List.findIdx?.go]) hb
  simp [b_queryOf, exB, exS, evE, evL, evA, evAnd, tru, rdAll, fk, fz_of _ _ rx, eb, queryB]
  cases hB : builtN k 8 d with
  | false => simp
  | true =>
    have g : Gd h W d := by
      cases v with
      | gd g => exact g
      | dic => simp [builtN] at hB
    have es := fun r => callE_eq q.size (r := r) (n := n + 13) (ix := [0]) (df := []) (as := [(d, false)]) (sl := [d]) (by intro y hy; simp at hy; subst hy; exact rx) (by simp) (by simp [argSl, argOf_pl rx, List.range_succ, List.findIdx?, List.findIdx?.go]) (size_f (n := n + 4) q.parts q.size hW 8 h d hh g hB)
    simp [es]
theorem isQuery_f {Z : Sys} {N : QN} (q : QF2 Z N) {f fc fo : Nat} (hc : Z.fns[fc]? = some ⟨1, 1, [false], b_check N.within⟩) (ho : Z.fns[fo]? = some ⟨2, 2, [false, false], b_queryOf N.built N.size⟩) (hf : Z.fns[f]? = some ⟨2, 2, [false, false], b_query fc fo⟩) {k n h W : Nat} (h1 : 1 ≤ k) (hk : k ≤ 4) (hW : W ≤ LIM) (hh : h ≤ DEEP) (d : D) (v : Vl h W d) :
    (callN Z (n + 15) f [.v (.int k), .v d]).Ok (Pu (.bl (queryB k d)) 2) := by
  refine call_pu hf rfl rfl rfl (by intro i hi; rcases i with _ | _ | i <;> first | rfl | omega) ?_
  have fk : fkeep Z fc 0 = false ∧ fkeep Z fo 0 = false ∧ fkeep Z fo 1 = false := by simp [fkeep, hc, ho]
  have rx := v.ref
  have ec := fun r => callE_eq hc (r := r) (n := n + 14) (ix := [0]) (df := []) (as := [(.int k, false)]) (sl := [.int k]) (by intro y hy; simp at hy; subst hy; rfl) (by simp) (by simp [argSl, List.range_succ, List.findIdx?, List.findIdx?.go]) (check_f q.toQF0 hc (n + 11) k h1 hk)
  have eo := fun r => callE_eq ho (r := r) (n := n + 14) (ix := [0, 1]) (df := []) (as := [(.int k, false), (d, false)]) (sl := [.int k, d]) (by intro y hy; simp at hy; rcases hy with rfl | rfl <;> first | rfl | exact rx) (by simp) (by simp [argSl, argOf_pl rx, List.range_succ, List.findIdx?, List.findIdx?.go]) (queryOf_f q ho hk hW hh d v)
  simp [b_query, exB, exS, evE, evL, evA, evAnd, tru, rdAll, fk, fz_of _ _ rx, ec, eo]
end Pv
namespace Pv
theorem set_ok {r : Env} {i : Nat} (hr : i < r.length) (ho : ownless [i] r = true) (d : D) : bindT (.nm i) d (wipeE [i] r) = some (r.set i (.v d)) := by
  simp [wipeE, bindT, putV, hr]
theorem compI_pure {elt : Env → Res (D × Bool)} {tests : Env → Res Bool} {i : Nat} {r : Env} {g : D → D} {p : D → Bool} (hr : i < r.length) :
    ∀ (xs : List D) (s : Sl), (∀ x, x ∈ xs → tests (r.set i (.v x)) = .ok (p x) (r.set i (.v x)) ∧ (p x = true → ∃ b, elt (r.set i (.v x)) = .ok (g x, b) (r.set i (.v x)) ∧ isRef (g x) = false)) →
      ∃ s', compI [i] (.nm i) tests elt xs (r.set i s) = .ok ((xs.filter p).map g) (r.set i s') := by
  intro xs
  induction xs with
  | nil => intro s _; exact ⟨s, rfl⟩
  | cons x xs ih =>
    intro s h
    obtain ⟨h1, h2⟩ := h x (by simp)
    obtain ⟨s', e⟩ := ih (.v x) fun y hy => h y (List.mem_cons_of_mem _ hy)
    have hb : bindT (.nm i) x (wipeE [i] (r.set i s)) = some (r.set i (.v x)) := by simp [wipeE, bindT, putV, hr]
    refine ⟨s', ?_⟩
    unfold compI
    rw [hb]
    simp only [opt_some, h1, Res.bind_ok]
    cases hp : p x with
    | false => simp only [Bool.false_eq_true, if_false]; rw [e]; simp [hp]
    | true =>
      obtain ⟨b, h3, h4⟩ := h2 hp
      simp only [if_true, h3, Res.bind_ok]
      rw [fz_of _ _ h4]
      simp only [opt_some]
      rw [e]
      simp [hp]
theorem lc_eq {P : Sys} {cl : CL} {e : ME} {i : Nat} {w : Wk} {es ifs : List ME} {r : Env} {as : List (D × Bool)} {ds xs : List D} {g : D → D} {p : D → Bool}
    (hs : evL P cl es r = .ok as r) (hn : refsOf as = []) (hd : rdAll r as = some ds) (hw : walk w ds = some xs) (hr : i < r.length) (ho : ownless [i] r = true)
    (h : ∀ x, x ∈ xs → evI P cl ifs (r.set i (.v x)) = .ok (p x) (r.set i (.v x)) ∧ (p x = true → ∃ b, evE P cl e (r.set i (.v x)) = .ok (g x, b) (r.set i (.v x)) ∧ isRef (g x) = false)) (hl : xs.length ≤ LIM) :
    evE P cl (.lc e (.nm i) w es ifs [i]) r = .ok (.lst ((xs.filter p).map g), true) r := by
  obtain ⟨s', hc⟩ := compI_pure hr xs (r[i]) h
  rw [show r.set i r[i] = r from List.set_getElem_self hr] at hc
  have hl2 : ((xs.filter p).map g).length ≤ LIM := by
    rw [List.length_map]
    exact Nat.le_trans (List.length_filter_le _ _) hl
  have hb : back [i] r (r.set i s') = r := by
    unfold back
    simp [hr]
  unfold evE
  simp only [hs, Res.bind_ok, hd, opt_some, hw, ho, if_true, hn, lockE, List.isEmpty_nil, hc, hl2, unlkE, hb]
theorem lc_map {P : Sys} {cl : CL} {e : ME} {i : Nat} {w : Wk} {es : List ME} {r : Env} {as : List (D × Bool)} {ds xs : List D} {g : D → D}
    (hs : evL P cl es r = .ok as r) (hn : refsOf as = []) (hd : rdAll r as = some ds) (hw : walk w ds = some xs) (hr : i < r.length) (ho : ownless [i] r = true)
    (h : ∀ x, x ∈ xs → ∃ b, evE P cl e (r.set i (.v x)) = .ok (g x, b) (r.set i (.v x)) ∧ isRef (g x) = false) (hl : xs.length ≤ LIM) :
    evE P cl (.lc e (.nm i) w es [] [i]) r = .ok (.lst (xs.map g), true) r := by
  have := lc_eq (g := g) (p := fun _ => true) (ifs := []) hs hn hd hw hr ho (fun x hx => ⟨rfl, fun _ => h x hx⟩) hl
  rw [List.filter_eq_self.mpr (by simp)] at this
  exact this
@[simp] theorem walk_l (xs : List D) : walk .seq [.lst xs] = some xs := rfl
@[simp] theorem walk_t (xs : List D) : walk .seq [.tup xs] = some xs := rfl
@[simp] theorem walk_s (s : List Nat) : walk .seq [.str s] = if s.length ≤ LIM then some (chars s) else none := by rw [walk, itemsOf]
end Pv
namespace Pv
/-- a mark whose type holds f: simp does not look into f then -/
structure Tk {α : Sort _} (f : α) : Type where
/-- bind, opt, Ok, what follows: heads first -/
def hb {α β : Type} (x : Res α) (f : α → Env → Res β) (t : Tk f) : Res β := x.bind f
def ho {α β : Type} (x : Option α) (f : α → Res β) (t : Tk f) : Res β := opt x f
def hk {α : Type} (x : Res α) (Q : α → Env → Prop) (t : Tk Q) : Prop := x.Ok Q
def nxt (f : Fl) (r : Env) (g : Env → Res Fl) (t : Tk g) : Res Fl :=
  match f with
  | .nx => g r
  | f => .ok f r
@[simp] theorem nxt_nx (r : Env) (g : Env → Res Fl) (t : Tk g) : nxt .nx r g t = g r := (Eq.refl _).trans rfl
@[simp] theorem nxt_rt (d : D) (b : Bool) (r : Env) (g : Env → Res Fl) (t : Tk g) : nxt (.rt d b) r g t = .ok (.rt d b) r := (Eq.refl _).trans rfl
@[simp] theorem nxt_bk (r : Env) (g : Env → Res Fl) (t : Tk g) : nxt .bk r g t = .ok .bk r := (Eq.refl _).trans rfl
@[simp] theorem nxt_ct (r : Env) (g : Env → Res Fl) (t : Tk g) : nxt .ct r g t = .ok .ct r := (Eq.refl _).trans rfl
@[simp] theorem hb_ok {α β : Type} (a : α) (r : Env) (f : α → Env → Res β) (t : Tk f) : hb (.ok a r) f t = f a r := (Eq.refl _).trans rfl
@[simp] theorem hb_no {α β : Type} (f : α → Env → Res β) (t : Tk f) : hb .no f t = .no := (Eq.refl _).trans rfl
@[simp] theorem hb_exc {α β : Type} (x : D) (r : Env) (f : α → Env → Res β) (t : Tk f) : hb (.exc x r) f t = .exc x r := (Eq.refl _).trans rfl
@[simp] theorem ho_some {α β : Type} (a : α) (f : α → Res β) (t : Tk f) : ho (some a) f t = f a := (Eq.refl _).trans rfl
@[simp] theorem ho_none {α β : Type} (f : α → Res β) (t : Tk f) : ho none f t = .no := (Eq.refl _).trans rfl
@[simp] theorem hk_ok {α : Type} (a : α) (r : Env) (Q : α → Env → Prop) (t : Tk Q) : hk (.ok a r) Q t = Q a r := (Eq.refl _).trans rfl
@[simp] theorem hk_no {α : Type} (Q : α → Env → Prop) (t : Tk Q) : hk .no Q t = False := (Eq.refl _).trans rfl
@[simp] theorem hb_hb {α β γ : Type} (x : Res α) (f : α → Env → Res β) (t : Tk f) (g : β → Env → Res γ) (u : Tk g) : hb (hb x f t) g u = hb x (fun a r => hb (f a r) g ⟨⟩) ⟨⟩ := by cases x <;> rfl
@[simp] theorem hb_ho {α β γ : Type} (x : Option α) (f : α → Res β) (t : Tk f) (g : β → Env → Res γ) (u : Tk g) : hb (ho x f t) g u = ho x (fun a => hb (f a) g ⟨⟩) ⟨⟩ := by cases x <;> rfl
@[simp] theorem hk_hb {α β : Type} (x : Res α) (f : α → Env → Res β) (t : Tk f) (Q : β → Env → Prop) (u : Tk Q) : hk (hb x f t) Q u = hk x (fun a r => hk (f a r) Q ⟨⟩) ⟨⟩ := by cases x <;> rfl
@[simp] theorem Ok_hb {α β : Type} (x : Res α) (f : α → Env → Res β) (t : Tk f) (Q : β → Env → Prop) : (hb x f t).Ok Q = hk x (fun a r => hk (f a r) Q ⟨⟩) ⟨⟩ := by cases x <;> rfl
@[simp] theorem Ok_ho {α β : Type} (x : Option α) (f : α → Res β) (t : Tk f) (Q : β → Env → Prop) : (ho x f t).Ok Q = hk (ho x f ⟨⟩) Q ⟨⟩ := rfl
@[simp] theorem hb_ite {α β : Type} {c : Prop} [Decidable c] (x y : Res α) (f : α → Env → Res β) (t : Tk f) : hb (if c then x else y) f t = if c then hb x f ⟨⟩ else hb y f ⟨⟩ := by split <;> rfl
@[simp] theorem ho_ite {α β : Type} {c : Prop} [Decidable c] (x y : Option α) (f : α → Res β) (t : Tk f) : ho (if c then x else y) f t = if c then ho x f ⟨⟩ else ho y f ⟨⟩ := by split <;> rfl
@[simp] theorem hk_ite {α : Type} {c : Prop} [Decidable c] (x y : Res α) (Q : α → Env → Prop) (t : Tk Q) : hk (if c then x else y) Q t = if c then hk x Q ⟨⟩ else hk y Q ⟨⟩ := by split <;> rfl
@[simp] theorem tru_ite {c : Prop} [Decidable c] (x y : Res (D × Bool)) : tru (if c then x else y) = if c then tru x else tru y := by split <;> rfl
@[simp] theorem tru_hb {α : Type} (x : Res α) (f : α → Env → Res (D × Bool)) (t : Tk f) : tru (hb x f t) = hb x (fun a r => tru (f a r)) ⟨⟩ := by cases x <;> rfl
@[simp] theorem tru_ho {α : Type} (x : Option α) (f : α → Res (D × Bool)) (t : Tk f) : tru (ho x f t) = ho x (fun a => tru (f a)) ⟨⟩ := by cases x <;> rfl
theorem hk_of {α : Type} {x : Res α} {Q Q' : α → Env → Prop} {t : Tk Q'} (h : x.Ok Q) (g : ∀ a r, Q a r → Q' a r) : hk x Q' t := Res.Ok.mono h g
theorem bind_ext {α β : Type} {x : Res α} {f g : α → Env → Res β} (h : ∀ a r, f a r = g a r) : x.bind f = x.bind g := by cases x <;> first | rfl | exact h _ _
def toI : D → Option Int
  | .int i => some i
  | _ => none
@[simp] theorem toI_int (i : Int) : toI (.int i) = some i := rfl
section
variable (P : Sys) (cl : CL) (k : Nat → Nat) (r : Env) (i n f : Nat) (d : D) (a b c e t : ME) (es fs : List ME) (ks vs : List ME) (o p : Cm) (q : Op2) (lo hi : Option ME)
@[simp] theorem evE_c : evE P cl (.c d) r = .ok (d, false) r := by unfold evE; rfl
@[simp] theorem evE_g : evE P cl (.g n d) r = .ok (d, false) r := by unfold evE; rfl
@[simp] theorem evE_v : evE P cl (.v i) r = (match r[i]? with | some (.v d) => .ok (d, false) r | some (.o _) => .ok (.ref i, false) r | some (.l _) => .ok (.ref i, false) r | _ => .no) := by unfold evE; rfl
@[simp] theorem evE_tup : evE P cl (.tup es) r = hb (evF P cl es r) (fun ds r1 => .ok (.tup ds, false) r1) ⟨⟩ := by
  simp only [hb, ho]
  rw [evE]
@[simp] theorem evE_lst : evE P cl (.lst es) r = hb (evF P cl es r) (fun ds r1 => .ok (.lst ds, true) r1) ⟨⟩ := by
  simp only [hb, ho]
  rw [evE]
@[simp] theorem evE_dic0 : evE P cl (.dic [] []) r = .ok (.dic [] [], true) r := by unfold evE; rfl
@[simp] theorem evE_bin : evE P cl (.bin q a b) r = hb (evE P cl a r) (fun x r1 => hb (evE P cl b r1) (fun y r2 => ho (rd r2 x.1) (fun x' => ho (rd r2 y.1) (fun y' => ho (op2 q x' y') (fun z => .ok z r2) ⟨⟩) ⟨⟩) ⟨⟩) ⟨⟩) ⟨⟩ := by
  simp only [hb, ho]
  rw [evE]
@[simp] theorem evE_neg : evE P cl (.neg a) r = hb (evE P cl a r) (fun x r1 => ho (toI x.1) (fun i => .ok (.int (-i), false) r1) ⟨⟩) ⟨⟩ := by
  simp only [hb, ho]
  rw [evE]
  refine bind_ext fun x r1 => ?_
  cases x with
  | mk d b => cases d <;> rfl
@[simp] theorem evE_not : evE P cl (.not a) r = hb (tru (evE P cl a r)) (fun b r1 => .ok (.bl (!b), false) r1) ⟨⟩ := by
  simp only [hb, ho]
  rw [evE]
@[simp] theorem evE_cmp : evE P cl (.cmp o a b) r = hb (evE P cl a r) (fun x r1 => hb (evE P cl b r1) (fun y r2 => ho (rd r2 x.1) (fun x' => ho (rd r2 y.1) (fun y' => ho (cmpD P.inS o x' y') (fun z => .ok (.bl z, false) r2) ⟨⟩) ⟨⟩) ⟨⟩) ⟨⟩) ⟨⟩ := by
  simp only [hb, ho]
  rw [evE]
@[simp] theorem evE_cmp2 : evE P cl (.cmp2 o p a b c) r = hb (evE P cl a r) (fun x r1 => hb (evE P cl b r1) (fun y r2 => ho (rd r2 x.1) (fun x' => ho (rd r2 y.1) (fun y' => ho (cmpD P.inS o x' y') (fun k => if k then hb (evE P cl c r2) (fun z r3 => ho (rd r3 y.1) (fun y2 => ho (rd r3 z.1) (fun z' => ho (cmpD P.inS p y2 z') (fun k2 => .ok (.bl k2, false) r3) ⟨⟩) ⟨⟩) ⟨⟩) ⟨⟩ else .ok (.bl false, false) r2) ⟨⟩) ⟨⟩) ⟨⟩) ⟨⟩) ⟨⟩ := by
  simp only [hb, ho]
  rw [evE]
@[simp] theorem evE_and : evE P cl (.and es) r = evAnd P cl es r := by rw [evE]
@[simp] theorem evE_or : evE P cl (.or es) r = evOr P cl es r := by rw [evE]
@[simp] theorem evE_ife : evE P cl (.ife t a b) r = hb (tru (evE P cl t r)) (fun k r1 => if k then evE P cl a r1 else evE P cl b r1) ⟨⟩ := by
  simp only [hb, ho]
  rw [evE]
@[simp] theorem evE_ix : evE P cl (.ix a b) r = hb (evE P cl a r) (fun x r1 => hb (evE P cl b r1) (fun y r2 => ho (rd r2 x.1) (fun x' => ho (ixD x' y.1) (fun z => .ok (z, false) r2) ⟨⟩) ⟨⟩) ⟨⟩) ⟨⟩ := by
  simp only [hb, ho]
  rw [evE]
@[simp] theorem evE_sl : evE P cl (.sl a lo hi) r = hb (evE P cl a r) (fun x r1 => hb (evO P cl lo r1) (fun u r2 => hb (evO P cl hi r2) (fun w r3 => ho (rd r3 x.1) (fun x' => ho (slD x' u w) (fun z => .ok z r3) ⟨⟩) ⟨⟩) ⟨⟩) ⟨⟩) ⟨⟩ := by
  simp only [hb, ho]
  rw [evE]
@[simp] theorem evE_rev : evE P cl (.rev a) r = hb (evE P cl a r) (fun x r1 => ho (rd r1 x.1) (fun x' => ho (revD x') (fun z => .ok z r1) ⟨⟩) ⟨⟩) ⟨⟩ := by
  simp only [hb, ho]
  rw [evE]
@[simp] theorem evE_call (ix : List Nat) (ds : List (Nat × D)) : evE P cl (.call f es ix ds) r = hb (evA P cl (fkeep P f) ix es r) (fun as r1 => callE P cl f ix ds as r1) ⟨⟩ := by
  simp only [hb, ho]
  rw [evE]
@[simp] theorem evE_bi (x : Bi) : evE P cl (.bi x es) r = hb (evL P cl es r) (fun as r1 => ho (rdAll r1 as) (fun ds => ho (biD P x ds) (fun z => .ok z r1) ⟨⟩) ⟨⟩) ⟨⟩ := by
  simp only [hb, ho]
  rw [evE]
@[simp] theorem evE_isi (ts : List Ty) : evE P cl (.isi a ts) r = hb (evE P cl a r) (fun x r1 => ho (rd r1 x.1) (fun x' => if isiOk x' then .ok (.bl (ts.any (isTy x')), false) r1 else .no) ⟨⟩) ⟨⟩ := by
  simp only [hb, ho]
  rw [evE]
@[simp] theorem evE_mt (m : Mt) : evE P cl (.mt m a es) r = hb (evE P cl a r) (fun x r1 => ho (rd r1 x.1) (fun x0 => hb (evL P cl es r1) (fun as r2 => ho (rd r2 x.1) (fun x' => ho (rdAll r2 as) (fun ds => ho (mtD P m x' ds) (fun z => if kindN x0 == kindN x' then .ok z r2 else .no) ⟨⟩) ⟨⟩) ⟨⟩) ⟨⟩) ⟨⟩) ⟨⟩ := by
  simp only [hb, ho]
  rw [evE]
@[simp] theorem evE_append : evE P cl (.mu .append i es) r = if ownsL r i then hb (evF P cl es r) (fun ds r1 => ho (putO i (fun d => muD .append d ds) r1) (fun x => .ok (x.1, false) x.2) ⟨⟩) ⟨⟩ else .no := by
  simp only [hb, ho]
  unfold evE; rfl
@[simp] theorem evE_extend : evE P cl (.mu .extend i es) r = if ownsL r i then hb (evL P cl es r) (fun as r1 => ho (rdAll r1 as) (fun ds => ho (putO i (fun d => muD .extend d ds) r1) (fun x => .ok (x.1, false) x.2) ⟨⟩) ⟨⟩) ⟨⟩ else .no := by
  simp only [hb, ho]
  unfold evE; rfl
@[simp] theorem evE_pop : evE P cl (.mu .pop i es) r = if ownsL r i then hb (evL P cl es r) (fun as r1 => ho (rdAll r1 as) (fun ds => ho (putO i (fun d => muD .pop d ds) r1) (fun x => .ok (x.1, false) x.2) ⟨⟩) ⟨⟩) ⟨⟩ else .no := by
  simp only [hb, ho]
  unfold evE; rfl
@[simp] theorem evL_nil : evL P cl [] r = .ok [] r := by rw [evL]
@[simp] theorem evL_cons : evL P cl (e :: es) r = hb (evE P cl e r) (fun x r1 => hb (evL P cl es r1) (fun xs r2 => .ok (x :: xs) r2) ⟨⟩) ⟨⟩ := by
  simp only [hb, ho]
  rw [evL]
@[simp] theorem evF_nil : evF P cl [] r = .ok [] r := by rw [evF]
@[simp] theorem evF_cons : evF P cl (e :: es) r = hb (evE P cl e r) (fun d r1 => ho (fz r1 d.1) (fun x => hb (evF P cl es x.2) (fun xs r3 => .ok (x.1 :: xs) r3) ⟨⟩) ⟨⟩) ⟨⟩ := by
  simp only [hb, ho]
  rw [evF]
@[simp] theorem evA_nil (kp : Nat → Bool) (ps : List Nat) : evA P cl kp ps [] r = .ok [] r := by cases ps <;> rw [evA]
@[simp] theorem evA_cons (kp : Nat → Bool) (x : Nat) (ps : List Nat) : evA P cl kp (x :: ps) (e :: es) r = hb (evE P cl e r) (fun d r1 => if kp x then hb (evA P cl kp ps es r1) (fun xs r2 => .ok (d :: xs) r2) ⟨⟩ else ho (fz r1 d.1) (fun x => hb (evA P cl kp ps es x.2) (fun xs r3 => .ok ((x.1, false) :: xs) r3) ⟨⟩) ⟨⟩) ⟨⟩ := by
  simp only [hb, ho]
  rw [evA]
@[simp] theorem evO_none : evO P cl none r = .ok none r := by unfold evO; rfl
@[simp] theorem evO_some : evO P cl (some e) r = hb (evE P cl e r) (fun d r1 => ho (toI d.1) (fun i => .ok (some i) r1) ⟨⟩) ⟨⟩ := by
  simp only [hb, ho]
  rw [evO]
  refine bind_ext fun x r1 => ?_
  cases x with
  | mk d b => cases d <;> rfl
@[simp] theorem evAnd_one : evAnd P cl [e] r = evE P cl e r := by rw [evAnd]
@[simp] theorem evAnd_cons (e2 : ME) : evAnd P cl (e :: e2 :: es) r = hb (evE P cl e r) (fun d r1 => ho (rd r1 d.1) (fun x => ho (truth x) (fun b => if b then evAnd P cl (e2 :: es) r1 else .ok (d.1, false) r1) ⟨⟩) ⟨⟩) ⟨⟩ := by
  simp only [hb, ho]
  rw [evAnd]
  intro h
  cases h
@[simp] theorem evOr_one : evOr P cl [e] r = evE P cl e r := by rw [evOr]
@[simp] theorem evOr_cons (e2 : ME) : evOr P cl (e :: e2 :: es) r = hb (evE P cl e r) (fun d r1 => ho (rd r1 d.1) (fun x => ho (truth x) (fun b => if b then .ok (d.1, false) r1 else evOr P cl (e2 :: es) r1) ⟨⟩) ⟨⟩) ⟨⟩ := by
  simp only [hb, ho]
  rw [evOr]
  intro h
  cases h
@[simp] theorem evI_nil : evI P cl [] r = .ok true r := by rw [evI]
@[simp] theorem evI_cons : evI P cl (e :: es) r = hb (tru (evE P cl e r)) (fun b r1 => if b then evI P cl es r1 else .ok false r1) ⟨⟩ := by
  simp only [hb, ho]
  rw [evI]
@[simp] theorem tru_ok (x : D × Bool) : tru (.ok x r) = ho (rd r x.1) (fun y => ho (truth y) (fun b => .ok b r) ⟨⟩) ⟨⟩ := (Eq.refl _).trans rfl
@[simp] theorem exS_expr : exS P cl k (.expr e) r = hb (evE P cl e r) (fun _ r1 => .ok .nx r1) ⟨⟩ := by
  simp only [hb, ho]
  rw [exS]
@[simp] theorem exS_set : exS P cl k (.set i e) r = hb (evE P cl e r) (fun x r1 => ho (setSl (k i) i x.1 x.2 r1) (fun r2 => .ok .nx r2) ⟨⟩) ⟨⟩ := by
  simp only [hb, ho]
  rw [exS]
@[simp] theorem exS_asg (g : MT) : exS P cl k (.asg g e) r = hb (evE P cl e r) (fun x r1 => ho (fz r1 x.1) (fun y => hb (stT P cl k g y.1 y.2) (fun _ r2 => .ok .nx r2) ⟨⟩) ⟨⟩) ⟨⟩ := by
  simp only [hb, ho]
  rw [exS]
@[simp] theorem exS_par (is : List Nat) : exS P cl k (.par is es) r = hb (evA P cl (fun i => k i == 1) is es r) (fun as r1 => if (as.filter (·.2)).length ≤ 1 ∧ as.all (fun x => !isRef x.1) then ho (setAll k is as r1) (fun r2 => .ok .nx r2) ⟨⟩ else .no) ⟨⟩ := by
  simp only [hb, ho]
  rw [exS]
@[simp] theorem exS_ret : exS P cl k (.ret e) r = hb (evE P cl e r) (fun x r1 => .ok (.rt x.1 x.2) r1) ⟨⟩ := by
  simp only [hb, ho]
  rw [exS]
@[simp] theorem exS_retn : exS P cl k .retn r = .ok (.rt .non false) r := by rw [exS]
@[simp] theorem exS_ife (u v : List MS) : exS P cl k (.ife c u v) r = hb (tru (evE P cl c r)) (fun t r1 => if t then exB P cl k u r1 else exB P cl k v r1) ⟨⟩ := by
  simp only [hb, ho]
  rw [exS]
@[simp] theorem exS_brk : exS P cl k .brk r = .ok .bk r := by rw [exS]
@[simp] theorem exS_cont : exS P cl k .cont r = .ok .ct r := by rw [exS]
@[simp] theorem exS_pass : exS P cl k .pass r = .ok .nx r := by rw [exS]
@[simp] theorem exB_nil : exB P cl k [] r = .ok .nx r := by rw [exB]
@[simp] theorem exB_cons (s : MS) (ss : List MS) : exB P cl k (s :: ss) r = hb (exS P cl k s r) (fun f r1 => nxt f r1 (exB P cl k ss) ⟨⟩) ⟨⟩ := by
  simp only [hb, ho]
  rw [exB]
  refine bind_ext fun f r1 => ?_
  cases f <;> rfl
@[simp] theorem rdAll_nil : rdAll r [] = some [] := rfl
@[simp] theorem rdAll_cons (x : D × Bool) (xs : List (D × Bool)) : rdAll r (x :: xs) = (rd r x.1).bind fun y => (rdAll r xs).map (y :: ·) := rfl
@[simp] theorem itemsOf_l (xs : List D) : itemsOf (.lst xs) = some xs := rfl
@[simp] theorem itemsOf_t (xs : List D) : itemsOf (.tup xs) = some xs := rfl
@[simp] theorem refsOf_nil : refsOf [] = [] := rfl
@[simp] theorem refsOf_ref (b : Bool) (xs : List (D × Bool)) : refsOf ((.ref i, b) :: xs) = i :: refsOf xs := rfl
@[simp] theorem refsOf_int (j : Int) (b : Bool) (xs : List (D × Bool)) : refsOf ((.int j, b) :: xs) = refsOf xs := rfl
@[simp] theorem refsOf_lst (j : List D) (b : Bool) (xs : List (D × Bool)) : refsOf ((.lst j, b) :: xs) = refsOf xs := rfl
@[simp] theorem refsOf_tup (j : List D) (b : Bool) (xs : List (D × Bool)) : refsOf ((.tup j, b) :: xs) = refsOf xs := rfl
@[simp] theorem refsOf_str (j : List Nat) (b : Bool) (xs : List (D × Bool)) : refsOf ((.str j, b) :: xs) = refsOf xs := rfl
@[simp] theorem refsOf_scr (j : List D) (b : Bool) (xs : List (D × Bool)) : refsOf ((.scr j, b) :: xs) = refsOf xs := rfl
theorem refsOf_of (b : Bool) (xs : List (D × Bool)) (h : isRef d = false) : refsOf ((d, b) :: xs) = refsOf xs := by cases d <;> first | rfl | (simp [isRef] at h; done)
@[simp] theorem isRef_bl (b : Bool) : isRef (.bl b) = false := rfl
@[simp] theorem isRef_int (b : Int) : isRef (.int b) = false := rfl
@[simp] theorem isRef_str (b : List Nat) : isRef (.str b) = false := rfl
@[simp] theorem isRef_tup (b : List D) : isRef (.tup b) = false := rfl
@[simp] theorem isRef_lst (b : List D) : isRef (.lst b) = false := rfl
@[simp] theorem isRef_non : isRef .non = false := rfl
@[simp] theorem isRef_ref : isRef (.ref i) = true := rfl
@[simp] theorem fz_isRef (h : isRef d = false) : fz r d = some (d, r) := fz_of r d h
@[simp] theorem rd_isRef (h : isRef d = false) : rd r d = some d := rd_of r d h
@[simp] theorem eqD_ss' (a b : List Nat) : eqD (.str a) (.str b) = (a == b) := rfl
@[simp] theorem eqD_ii' (a b : Int) : eqD (.int a) (.int b) = (a == b) := rfl
@[simp] theorem eqD_bb (a b : Bool) : eqD (.bl a) (.bl b) = (a == b) := rfl
@[simp] theorem plain_str' (s : List Nat) : plain n (.str s) = true := plain_str n s
@[simp] theorem plain_int' (s : Int) : plain n (.int s) = true := plain_int n s
@[simp] theorem plain_bl' (s : Bool) : plain n (.bl s) = true := plain_bl n s
@[simp] theorem plain_non' : plain n .non = true := plain_non n
@[simp] theorem isiOk_int (x : Int) : isiOk (.int x) = true := rfl
@[simp] theorem isiOk_str (x : List Nat) : isiOk (.str x) = true := rfl
@[simp] theorem isiOk_bl (x : Bool) : isiOk (.bl x) = true := rfl
@[simp] theorem isiOk_tup (x : List D) : isiOk (.tup x) = true := rfl
@[simp] theorem isiOk_lst (x : List D) : isiOk (.lst x) = true := rfl
@[simp] theorem isiOk_non : isiOk .non = true := rfl
end
end Pv
namespace Pv
def maxOf (xs : List Int) : Int := (maxI xs).getD 0
def lookN (k : Nat) : Nat → D → Bool × Int × Int
  | h + 1, .tup (.str w :: ys) =>
    if joins w = true then
      (if (if w = wNot then decide (ys.length = 1) else decide (2 ≤ ys.length) && decide (ys.length ≤ 6)) = true then
        (ys.all (fun y => (lookN k h y).1), 1 + sumI (ys.map fun y => (lookN k h y).2.1), 1 + maxOf (ys.map fun y => (lookN k h y).2.2)) else (false, 1, 1))
    else (bareD k w ys, 1, 1)
  | _, _ => (false, 1, 1)
def lookD (x : Bool × Int × Int) : D := .tup [.bl x.1, .int x.2.1, .int x.2.2]
def b_look (f fs : Nat) : List MS := [.ife (.or [.not (.isi (.v 1) [.tuple]), .cmp (.eq) (.bi (.len) [.v 1]) (.c (.int 0)), .not (.isi (.ix (.v 1) (.c (.int 0))) [.str])]) [.ret (.tup [.c (.bl false), .c (.int 1), .c (.int 1)])] [], .ife (.cmp (.notin) (.ix (.v 1) (.c (.int 0))) (.lst [.c (.str [110, 111, 116]), .c (.str [97, 110, 100]), .c (.str [111, 114])])) [.ret (.tup [.call fs [.v 0, .v 1] [0, 1] [], .c (.int 1), .c (.int 1)])] [], .set 2 (.lc (.call f [.v 0, .v 4] [0, 1] []) (.nm 4) (.seq) [.sl (.v 1) (some (.c (.int 1))) none] [] [4]), .set 3 (.ife (.cmp (.eq) (.ix (.v 1) (.c (.int 0))) (.c (.str [110, 111, 116]))) (.cmp (.eq) (.bi (.len) [.v 2]) (.c (.int 1))) (.cmp2 (.le) (.le) (.c (.int 2)) (.bi (.len) [.v 2]) (.c (.int 6)))), .ife (.not (.v 3)) [.ret (.tup [.c (.bl false), .c (.int 1), .c (.int 1)])] [], .ret (.tup [.bi (.all) [.lc (.ix (.v 5) (.c (.int 0))) (.nm 5) (.seq) [.v 2] [] [5]], .bin (.add) (.c (.int 1)) (.bi (.sum) [.lc (.ix (.v 5) (.c (.int 1))) (.nm 5) (.seq) [.v 2] [] [5]]), .bin (.add) (.c (.int 1)) (.bi (.max) [.lc (.ix (.v 5) (.c (.int 2))) (.nm 5) (.seq) [.v 2] [] [5]])])]
structure LF1 (Z : Sys) (N : LN) : Prop extends LF0 Z N where
  single : Z.fns[N.single]? = some ⟨2, 4, [false, false, false, false], b_lawSingle N.within N.letter N.text⟩
  look : Z.fns[N.look]? = some ⟨2, 6, [false, false, false, false, false, false], b_look N.look N.single⟩
theorem maxI_some : ∀ {xs : List Int}, xs ≠ [] → maxI xs = some (maxOf xs)
  | x :: r, _ => rfl
@[simp] theorem ati_two {α : Type} (x y z : α) (xs : List α) : ati (x :: y :: z :: xs) 2 = some z := by
  have : (2 : Int) < xs.length + 1 + 1 + 1 := by omega
  simp [ati, ixn, this]
theorem look_f {Z : Sys} {N : LN} (q : LF1 Z N) {k n W : Nat} (hk : k ≤ 4) (hW : W ≤ LIM) : ∀ (h : Nat) (d : D), h ≤ DEEP → Gd h W d →
    (callN Z (n + h + 3) N.look [.v (.int k), .v d]).Ok (Pu (lookD (lookN k h d)) 2) := by
  intro h
  induction h with
  | zero =>
    intro d hh g
    refine call_pu q.look rfl rfl rfl (by intro i hi; rcases i with _ | _ | i <;> first | rfl | omega) ?_
    have ok := g.okv
    have pl := g.pl
    cases d <;> first
      | (simp [okv] at ok; done)
      | (simp [plain] at pl; done)
      | (simp [b_look, exB, exS, evE, evF, evOr, tru, isiOk, isTy, lookN, lookD]; done)
  | succ h ih =>
    intro d hh g
    rw [show n + (h + 1) + 3 = (n + h + 3) + 1 by omega]
    refine call_pu q.look rfl rfl rfl (by intro i hi; rcases i with _ | _ | i <;> first | rfl | omega) ?_
    have ok := g.okv
    have fk : fkeep Z N.look 0 = false ∧ fkeep Z N.look 1 = false ∧ fkeep Z N.single 0 = false ∧ fkeep Z N.single 1 = false := by simp [fkeep, q.look, q.single]
    cases d <;> first
      | (simp [okv] at ok; done)
      | (simp [b_look, exB, exS, evE, evF, evOr, tru, isiOk, isTy, lookN, lookD]; done)
      | skip
    rename_i xs
    obtain ⟨m, e, gx, pl⟩ := plainT hh g
    cases e
    match xs with
    | [] => simp [b_look, exB, exS, evE, evF, evL, evOr, tru, rdAll, isiOk, isTy, plain_int, eqD_ii, lookN, lookD]
    | y :: ys =>
      have oy := (gx y (by simp)).okv
      have ry := (gx y (by simp)).ref
      have z1 : ¬ (ys.length : Int) + 1 = 0 := by omega
      cases y <;> first
        | (simp [okv] at oy; done)
        | (simp [b_look, exB, exS, evE, evF, evL, evOr, tru, rdAll, isiOk, isTy, plain_int, eqD_ii, z1, lookN, lookD]; done)
        | skip
      rename_i w
      have bar : ∀ r, callE Z (callN Z (n + h + 3)) N.single [0, 1] [] [(.int k, false), (.tup (.str w :: ys), false)] r = .ok (.bl (bareD k w ys), false) r := fun r =>
        callE_eq q.single (sl := [.int k, .tup (.str w :: ys)]) (by intro y hy; simp at hy; rcases hy with rfl | rfl <;> rfl) (by simp) (by simp [argSl, List.range_succ, List.findIdx?, List.findIdx?.go]) (lawSingle_f (n := n + h + 1) q.toLF0 q.single hk hh hW g)
      have rcl : ∀ r x, x ∈ ys → callE Z (callN Z (n + h + 3)) N.look [0, 1] [] [(.int k, false), (x, false)] r = .ok (lookD (lookN k h x), false) r := fun r x hx => by
        have hr := (gx x (List.mem_cons_of_mem _ hx)).ref
        refine callE_eq q.look (sl := [.int k, x]) (by intro y hy; simp at hy; rcases hy with rfl | rfl <;> first | rfl | exact hr) (by simp) (by simp [argSl, argOf_pl hr, List.range_succ, List.findIdx?, List.findIdx?.go]) (ih x (by omega) (gx x (List.mem_cons_of_mem _ hx)))
      have hl : 2 * ys.length ≤ W := by have := g.len; simp at this; omega
      have hl2 : ys.length ≤ 16777216 := by unfold LIM at hW; omega
      have hl3 : ys.length ≤ LIM := hl2
      have cwb : inL (.str w) [.str [110, 111, 116], .str [97, 110, 100], .str [111, 114]] = joins w := by
        simp only [inL, eqD_ss, joins, wNot, wAnd, wOr, Bool.or_false]
        have e : ∀ v : List Nat, (v == w) = decide (w = v) := fun v => by
          by_cases c : v = w
          · subst c; simp
          · have c' : ¬ w = v := fun z => c z.symm
            simp [c, c']
        rw [e, e, e, Bool.or_assoc]
        rfl
      by_cases cj : joins w = true
      · have L1 := lc_map (P := Z) (cl := callN Z (n + h + 3)) (r := [.v (.int k), .v (.tup (.str w :: ys)), .e, .e, .e, .e]) (i := 4) (w := .seq) (e := .call N.look [.v 0, .v 4] [0, 1] []) (es := [.sl (.v 1) (some (.c (.int 1))) none]) (g := fun x => lookD (lookN k h x)) (xs := ys)
          (by simp [cut1]; rfl) rfl rfl rfl (by simp) rfl (fun x hx => ⟨false, by simp [fk, (gx x (List.mem_cons_of_mem _ hx)).ref, rcl _ x hx], rfl⟩) hl3
        have LJ : ∀ (j : Int) (u : Sl) (f : D → D), (∀ x, isRef (f x) = false ∧ ixD (lookD (lookN k h x)) (.int j) = some (f x)) → evE Z (callN Z (n + h + 3)) (.lc (.ix (.v 5) (.c (.int j))) (.nm 5) .seq [.v 2] [] [5]) [.v (.int k), .v (.tup (.str w :: ys)), .v (.lst (ys.map fun x => lookD (lookN k h x))), u, .e, .e] =
            .ok (.lst (ys.map f), true) [.v (.int k), .v (.tup (.str w :: ys)), .v (.lst (ys.map fun x => lookD (lookN k h x))), u, .e, .e] := fun j u f hf => by
          have := lc_map (P := Z) (cl := callN Z (n + h + 3)) (r := [.v (.int k), .v (.tup (.str w :: ys)), .v (.lst (ys.map fun x => lookD (lookN k h x))), u, .e, .e]) (i := 5) (w := .seq) (e := .ix (.v 5) (.c (.int j))) (es := [.v 2]) (g := fun d => (ixD d (.int j)).getD .non) (xs := ys.map fun x => lookD (lookN k h x))
            (by simp; rfl) rfl rfl rfl (by simp) rfl (fun d hd => by
              obtain ⟨x, _, rfl⟩ := List.mem_map.mp hd
              obtain ⟨h1, h2⟩ := hf x
              refine ⟨false, ?_, by rw [h2]; exact h1⟩
              have : isRef (lookD (lookN k h x)) = false := rfl
              simp [this, h2]) (by simpa using hl3)
          rw [this, List.map_map]
          congr 3
          refine List.map_congr_left fun x _ => ?_
          simp [(hf x).2]
        have L2 := fun u => LJ 0 u (fun x => .bl (lookN k h x).1) (fun x => ⟨rfl, by simp [lookD]⟩)
        have L3 := fun u => LJ 1 u (fun x => .int (lookN k h x).2.1) (fun x => ⟨rfl, by simp [lookD]⟩)
        have L4 := fun u => LJ 2 u (fun x => .int (lookN k h x).2.2) (fun x => ⟨rfl, by simp [lookD]⟩)
        have B1 := bools_map (fun x => (lookN k h x).1) ys
        have B2 := ints_map (fun x => (lookN k h x).2.1) ys
        have B3 := ints_map (fun x => (lookN k h x).2.2) ys
        have cj2 : joins w = true := cj
        simp [b_look, cwb, cj, z1, isTy, L1, keepL, setSl, isBox]
        by_cases c1 : w = wNot
        · have c1' : w = [110, 111, 116] := c1
          by_cases l1 : ys.length = 1
          · have l1' : (ys.length : Int) = 1 := by omega
            have M := maxI_some (xs := ys.map fun x => (lookN k h x).2.2) (by intro e; simp at e; rw [e] at l1; simp at l1)
            rw [if_pos c1', if_pos l1']
            simp [L2, L3, L4, B1, B2, B3, M]
            rw [lookN, if_pos cj2, if_pos (by rw [if_pos c1]; simpa using l1)]
            rfl
          · have l1' : ¬ (ys.length : Int) = 1 := by omega
            rw [if_pos c1', if_neg l1', lookN, if_pos cj2, if_neg (by rw [if_pos c1]; simpa using l1)]
            rfl
        · have c1' : ¬ w = [110, 111, 116] := c1
          by_cases l1 : 2 ≤ ys.length
          · have l1' : (2 : Int) ≤ ys.length := by omega
            by_cases l2 : ys.length ≤ 6
            · have l2' : ¬ (6 : Int) < ys.length := by omega
              have M := maxI_some (xs := ys.map fun x => (lookN k h x).2.2) (by intro e; simp at e; rw [e] at l1; simp at l1)
              simp [c1', l1', l2', L2, L3, L4, B1, B2, B3, M]
              simp [lookD, lookN, cj2, c1, l1, l2]
            · have l2' : (6 : Int) < ys.length := by omega
              simp [c1', l1', l2', lookD, lookN, cj2, c1, l1, l2]
          · have l1' : ¬ (2 : Int) ≤ ys.length := by omega
            simp [c1', l1', lookD, lookN, cj2, c1, l1]
      · have cj' : joins w = false := by simpa using cj
        simp [b_look, cwb, cj', fk, bar, lookN, lookD, z1, isTy]
end Pv
namespace Pv
theorem foldl_max (r : List Int) : ∀ x : Int, x ≤ r.foldl (fun a b => if a < b then b else a) x ∧ (∀ y, y ∈ r → y ≤ r.foldl (fun a b => if a < b then b else a) x) ∧ (r.foldl (fun a b => if a < b then b else a) x = x ∨ r.foldl (fun a b => if a < b then b else a) x ∈ r) := by
  induction r with
  | nil => intro x; simp
  | cons y r ih =>
    intro x
    simp only [List.foldl_cons]
    obtain ⟨h1, h2, h3⟩ := ih (if x < y then y else x)
    have h4 : x ≤ (if x < y then y else x) ∧ y ≤ (if x < y then y else x) := by split <;> omega
    refine ⟨by omega, ?_, ?_⟩
    · intro z hz
      rcases List.mem_cons.mp hz with rfl | hz
      · omega
      · exact h2 z hz
    · rcases h3 with h3 | h3
      · rw [h3]
        split
        · exact .inr List.mem_cons_self
        · exact .inl rfl
      · exact .inr (List.mem_cons_of_mem _ h3)
theorem maxOf_le {xs : List Int} (h : xs ≠ []) (b : Int) : maxOf xs ≤ b ↔ ∀ y, y ∈ xs → y ≤ b := by
  cases xs with
  | nil => exact absurd rfl h
  | cons x r =>
    obtain ⟨h1, h2, h3⟩ := foldl_max r x
    have e : maxOf (x :: r) = r.foldl (fun a b => if a < b then b else a) x := rfl
    rw [e]
    constructor
    · intro h y hy
      rcases List.mem_cons.mp hy with rfl | hy
      · omega
      · have := h2 y hy; omega
    · intro h
      rcases h3 with h3 | h3
      · rw [h3]; exact h x List.mem_cons_self
      · exact h _ (List.mem_cons_of_mem _ h3)
theorem look_deep (k : Nat) : ∀ (h : Nat) (d : D), 1 ≤ (lookN k h d).2.2 := by
  intro h
  induction h with
  | zero => intro d; simp [lookN]
  | succ h ih =>
    intro d
    match d with
    | .tup (.str w :: ys) =>
      have main : ∀ ok : Bool, 1 ≤ ((if ok = true then (ys.all (fun y => (lookN k h y).1), 1 + sumI (ys.map fun y => (lookN k h y).2.1), 1 + maxOf (ys.map fun y => (lookN k h y).2.2)) else (false, 1, 1) : Bool × Int × Int).2.2) := by
        intro ok
        cases ok with
        | false => simp
        | true =>
          simp only [if_true]
          cases ys with
          | nil => simp [maxOf, maxI]
          | cons y ys =>
            have h0 := ih y
            have : (lookN k h y).2.2 ≤ maxOf ((y :: ys).map fun y => (lookN k h y).2.2) := (maxOf_le (by simp) _).mp (Int.le_refl _) _ (by simp)
            omega
      rw [lookN]
      by_cases cj : joins w = true
      · rw [if_pos cj]
        exact main _
      · rw [if_neg cj]
        simp
    | .tup [] => simp [lookN]
    | .tup (.non :: _) => simp [lookN]
    | .tup (.bl _ :: _) => simp [lookN]
    | .tup (.int _ :: _) => simp [lookN]
    | .tup (.tup _ :: _) => simp [lookN]
    | .tup (.lst _ :: _) => simp [lookN]
    | .tup (.dic _ _ :: _) => simp [lookN]
    | .tup (.sset _ :: _) => simp [lookN]
    | .tup (.ins _ _ _ :: _) => simp [lookN]
    | .tup (.fn _ :: _) => simp [lookN]
    | .tup (.clo _ _ :: _) => simp [lookN]
    | .tup (.exn _ _ :: _) => simp [lookN]
    | .tup (.ref _ :: _) => simp [lookN]
    | .tup (.scr _ :: _) => simp [lookN]
    | .tup (.dead :: _) => simp [lookN]
    | .non => simp [lookN]
    | .bl _ => simp [lookN]
    | .int _ => simp [lookN]
    | .str _ => simp [lookN]
    | .lst _ => simp [lookN]
    | .dic _ _ => simp [lookN]
    | .sset _ => simp [lookN]
    | .ins _ _ _ => simp [lookN]
    | .fn _ => simp [lookN]
    | .clo _ _ => simp [lookN]
    | .exn _ _ => simp [lookN]
    | .ref _ => simp [lookN]
    | .scr _ => simp [lookN]
    | .dead => simp [lookN]
/-- what is_built and size_of say, and the look -/
theorem same_look (k : Nat) : ∀ (h dep : Nat) (d : D), plain h d = true → builtN k dep d = ((lookN k h d).1 && decide ((lookN k h d).2.2 ≤ dep)) ∧ (builtN k dep d = true → sizeN dep d = (lookN k h d).2.1) := by
  intro h
  induction h with
  | zero =>
    intro dep d hp
    cases d <;> first
      | (simp [plain] at hp; done)
      | (cases dep <;> simp [builtN, lookN]; done)
  | succ h ih =>
    intro dep d hp
    cases dep with
    | zero =>
      have h1 := look_deep k (h + 1) d
      have h2 : ¬ (lookN k (h + 1) d).2.2 ≤ ((0 : Nat) : Int) := by simp; omega
      simp [builtN, h2]
      intro _
      omega
    | succ dep =>
      cases d with
      | tup xs =>
        cases xs with
        | nil => simp [builtN, lookN]
        | cons y ys =>
          cases y with
          | str w =>
            have pp : ∀ x, x ∈ ys → plain h x = true := fun x hx => by
              simp only [plain, List.all_eq_true] at hp
              exact hp x (List.mem_cons_of_mem _ hx)
            have main : ∀ ok : Bool, (ok = true → ys ≠ []) →
                (ok && ys.all (builtN k dep)) = ((if ok = true then (ys.all (fun y => (lookN k h y).1), 1 + sumI (ys.map fun y => (lookN k h y).2.1), 1 + maxOf (ys.map fun y => (lookN k h y).2.2)) else (false, 1, 1) : Bool × Int × Int).1 && decide ((if ok = true then (ys.all (fun y => (lookN k h y).1), 1 + sumI (ys.map fun y => (lookN k h y).2.1), 1 + maxOf (ys.map fun y => (lookN k h y).2.2)) else (false, 1, 1) : Bool × Int × Int).2.2 ≤ ((dep + 1 : Nat) : Int))) := by
              intro ok hok
              cases ok with
              | false => simp
              | true =>
                simp only [Bool.true_and, if_true]
                have hne : (ys.map fun y => (lookN k h y).2.2) ≠ [] := by simpa using hok rfl
                rw [Bool.eq_iff_iff]
                simp only [List.all_eq_true, Bool.and_eq_true, decide_eq_true_eq]
                have e : (1 + maxOf (ys.map fun y => (lookN k h y).2.2) ≤ ((dep + 1 : Nat) : Int)) ↔ maxOf (ys.map fun y => (lookN k h y).2.2) ≤ (dep : Int) := by omega
                rw [e, maxOf_le hne]
                constructor
                · intro hb
                  refine ⟨fun x hx => ?_, fun m hm => ?_⟩
                  · have := hb x hx
                    rw [(ih dep x (pp x hx)).1, Bool.and_eq_true] at this
                    exact this.1
                  · obtain ⟨x, hx, rfl⟩ := List.mem_map.mp hm
                    have := hb x hx
                    rw [(ih dep x (pp x hx)).1, Bool.and_eq_true, decide_eq_true_eq] at this
                    exact this.2
                · rintro ⟨h1, h2⟩ x hx
                  rw [(ih dep x (pp x hx)).1, Bool.and_eq_true, decide_eq_true_eq]
                  exact ⟨h1 x hx, h2 _ (List.mem_map.mpr ⟨x, hx, rfl⟩)⟩
            have size : (∀ x, x ∈ ys → builtN k dep x = true) → sumI (ys.map (sizeN dep)) = sumI (ys.map fun y => (lookN k h y).2.1) := fun hb => by
              congr 1
              refine List.map_congr_left fun x hx => ?_
              exact (ih dep x (pp x hx)).2 (hb x hx)
            by_cases c1 : w = wNot
            · have cj : joins w = true := by simp [joins, c1]
              have m := main (decide (ys.length = 1)) (by intro e z; rw [z] at e; simp at e)
              simp only [builtN, lookN, cj, c1, if_true, sizeN, partsD]
              have cj' : joins wNot = true := by simp [joins]
              simp only [cj', if_true]
              refine ⟨m, fun hb => ?_⟩
              rw [Bool.and_eq_true] at hb
              rw [if_pos hb.1]
              simp only
              rw [size (by have := hb.2; rw [List.all_eq_true] at this; exact this)]
            · by_cases c2 : w = wAnd ∨ w = wOr
              · have cj : joins w = true := by
                  rcases c2 with c2 | c2 <;> simp [joins, c2]
                have m := main (decide (2 ≤ ys.length) && decide (ys.length ≤ 6)) (by intro e z; rw [z] at e; simp at e)
                simp only [builtN, lookN, cj, c1, c2, if_true, if_false, sizeN, partsD]
                refine ⟨m, fun hb => ?_⟩
                rw [Bool.and_eq_true] at hb
                rw [if_pos hb.1]
                simp only
                rw [size (by have := hb.2; rw [List.all_eq_true] at this; exact this)]
              · have cj : joins w = false := by
                  simp only [not_or] at c2
                  simp [joins, c1, c2.1, c2.2]
                simp only [builtN, lookN, cj, c1, c2, if_false, sizeN, partsD, Bool.false_eq_true]
                have : (1 : Int) ≤ ((dep + 1 : Nat) : Int) := by omega
                simp [sumI]
                intro _
                omega
          | _ => simp [builtN, lookN]
      | _ => simp [builtN, lookN]
theorem same_query {k h W : Nat} {d : D} (g : Gd h W d) : queryB k d = ((lookN k h d).1 && decide ((lookN k h d).2.1 ≤ 40) && decide ((lookN k h d).2.2 ≤ 8)) := by
  obtain ⟨h1, h2⟩ := same_look k h 8 d g.pl
  unfold queryB
  cases hb : builtN k 8 d with
  | false =>
    rw [hb] at h1
    cases e : (lookN k h d).1 with
    | false => simp
    | true =>
      rw [e] at h1
      simp only [Bool.true_and] at h1
      have h1' : decide ((lookN k h d).2.2 ≤ 8) = false := h1.symm
      simp [h1']
  | true =>
    rw [h2 hb]
    rw [hb] at h1
    have := Bool.and_eq_true_iff.mp h1.symm
    have t2 : decide ((lookN k h d).2.2 ≤ 8) = true := this.2
    simp [this.1, t2]
def b_lawQuery (fl : Nat) : List MS := [.asg (.tp [.nm 2, .nm 3, .nm 4]) (.call fl [.v 0, .v 1] [0, 1] []), .ret (.and [.v 2, .cmp (.le) (.v 3) (.c (.int 40)), .cmp (.le) (.v 4) (.c (.int 8))])]
theorem look_dic {Z : Sys} {N : LN} (q : LF1 Z N) (n k : Nat) : (callN Z (n + 1) N.look [.v (.int k), .v (.dic [] [])]).Ok (Pu (lookD (false, 1, 1)) 2) := by
  refine call_pu q.look rfl rfl rfl (by intro i hi; rcases i with _ | _ | i <;> first | rfl | omega) ?_
  simp [b_look, isiOk, isTy, lookD]
theorem lawQuery_f {Z : Sys} {N : LN} (q : LF1 Z N) {f : Nat} (hf : Z.fns[f]? = some ⟨2, 5, [false, false, false, false, false], b_lawQuery N.look⟩) {k n h W : Nat} (hk : k ≤ 4) (hW : W ≤ LIM) (hh : h ≤ DEEP) (d : D) (v : Vl h W d) :
    (callN Z (n + h + 4) f [.v (.int k), .v d]).Ok (Pu (.bl (queryB k d)) 2) := by
  refine call_pu hf rfl rfl rfl (by intro i hi; rcases i with _ | _ | i <;> first | rfl | omega) ?_
  have fk : fkeep Z N.look 0 = false ∧ fkeep Z N.look 1 = false := by simp [fkeep, q.look]
  have rx := v.ref
  obtain ⟨u, hu, hb⟩ : ∃ u, (callN Z (n + h + 3) N.look [.v (.int k), .v d]).Ok (Pu (lookD u) 2) ∧ queryB k d = (u.1 && decide (u.2.1 ≤ 40) && decide (u.2.2 ≤ 8)) := by
    cases v with
    | gd g => exact ⟨_, look_f q hk hW h d hh g, same_query g⟩
    | dic => exact ⟨_, look_dic q (n + h + 2) k, rfl⟩
  have el := fun r => callE_eq q.look (r := r) (n := n + h + 3) (ix := [0, 1]) (df := []) (as := [(.int k, false), (d, false)]) (sl := [.int k, d]) (by intro y hy; simp at hy; rcases hy with rfl | rfl <;> first | rfl | exact rx) (by simp) (by simp [argSl, argOf_pl rx, List.range_succ, List.findIdx?, List.findIdx?.go]) hu
  simp [b_lawQuery, fk, rx, el, lookD, stT, stTs, keepL, putV]
  rw [hb]
  cases u.1 with
  | false => simp
  | true => by_cases c : u.2.1 ≤ 40 <;> simp [c]
end Pv
namespace Pv
theorem small {i : Int} (h : i.natAbs < 2 ^ 80) : i.natAbs < 2 ^ 1900 := Nat.lt_of_lt_of_le h (Nat.pow_le_pow_right (by omega) (by omega))
theorem leaf_int {i : Int} (h : i.natAbs < 2 ^ 80) : leafOk (.int i) = true := by simp only [leafOk, decide_eq_true_eq]; exact small h
theorem leaf_lt {k : Int} (hk : k ≤ 4) {s : List Nat} (h : ∀ c, c ∈ s → Lt k c) : leafOk (.str s) = true := by
  simp only [leafOk, List.all_eq_true, decide_eq_true_eq]
  intro c hc
  have := h c hc
  unfold Lt at this
  omega
theorem lt_one {k : Int} {c : Nat} (h : Lt k c) : ∀ x, x ∈ [c] → Lt k x := by simp; exact h
theorem Sg.gd {k : Int} (hk : k ≤ 4) {d : D} (h : Sg k d) : ∃ w ys, d = .tup (.str w :: ys) ∧ joins w = false ∧ Gd 1 4100 d := by
  have I : ∀ i : Int, 0 ≤ i → i < 100 → leafOk (.int i) = true := fun i a b => leaf_int (by omega)
  cases h with
  | word c h => exact ⟨_, _, rfl, by decide, by simp [plain], by simp [leafOk, leafL]; unfold Lt at h; omega, by simp [wtD, wtL]⟩
  | row s a b h => exact ⟨_, _, rfl, by decide, by simp [plain], by have := leaf_lt hk h; simp [leafOk, leafL] at this ⊢; exact this, by simp [wtD, wtL]; omega⟩
  | near c d i h1 h2 h3 h4 => exact ⟨_, _, rfl, by decide, by simp [plain], by simp only [leafOk, leafL, I i h3 (by omega), leaf_lt hk (lt_one h1), leaf_lt hk (lt_one h2)]; have := leaf_lt hk (lt_one h1); have t2 := leaf_lt hk (lt_one h2); simp only [leafOk] at this t2; rw [this, t2]; have := I i h3 (by omega); simp only [leafOk] at this; rw [this]; rfl, by simp [wtD, wtL]⟩
  | ahead c d h1 h2 => exact ⟨_, _, rfl, by decide, by simp [plain], by unfold Lt at h1 h2; simp [leafOk, leafL]; omega, by simp [wtD, wtL]⟩
  | first s a h => exact ⟨_, _, rfl, by decide, by simp [plain], by have := leaf_lt hk h; simp [leafOk, leafL] at this ⊢; exact this, by simp [wtD, wtL]; omega⟩
  | last s a h => exact ⟨_, _, rfl, by decide, by simp [plain], by have := leaf_lt hk h; simp [leafOk, leafL] at this ⊢; exact this, by simp [wtD, wtL]; omega⟩
  | often c i h1 h3 h4 => exact ⟨_, _, rfl, by decide, by simp [plain], by have := leaf_lt hk (lt_one h1); have t2 := I i h3 (by omega); simp only [leafOk] at this t2; simp only [leafOk, leafL]; rw [this, t2]; rfl, by simp [wtD, wtL]⟩
  | long i h3 h4 => exact ⟨_, _, rfl, by decide, by simp [plain], by have t2 := I i h3 (by omega); simp only [leafOk] at t2; simp only [leafOk, leafL]; rw [t2]; rfl, by simp [wtD, wtL]⟩
  | rest c m i h1 h2 h3 h4 h5 => exact ⟨_, _, rfl, by decide, by simp [plain], by have := leaf_lt hk (lt_one h1); have t2 := I i h4 (by omega); have t3 := I m (by omega) (by omega); simp only [leafOk] at this t2 t3; simp only [leafOk, leafL]; rw [this, t2, t3]; rfl, by simp [wtD, wtL]⟩
  | all => exact ⟨_, _, rfl, by decide, by simp [plain], by decide, by simp [wtD, wtL]⟩
  | none => exact ⟨_, _, rfl, by decide, by simp [plain], by decide, by simp [wtD, wtL]⟩
def wQ : Nat → Nat
  | 0 => 4100
  | m + 1 => 3 * wQ m + 60
theorem wQ_mono : ∀ m, 4100 ≤ wQ m
  | 0 => by simp [wQ]
  | m + 1 => by have := wQ_mono m; simp only [wQ]; omega
theorem wtL_le {w : Nat} : ∀ {xs : List D}, (∀ x, x ∈ xs → wtD x ≤ w) → wtL xs ≤ xs.length * (w + 2)
  | [], _ => by simp [wtL]
  | x :: xs, h => by
    have h1 := h x (by simp)
    have h2 := wtL_le (xs := xs) fun y hy => h y (List.mem_cons_of_mem _ hy)
    simp only [wtL, List.length_cons, Nat.add_mul, Nat.one_mul]
    omega
theorem leafL_all : ∀ {xs : List D}, (∀ x, x ∈ xs → leafOk x = true) → leafL xs = true
  | [], _ => rfl
  | x :: xs, h => by
    simp only [leafL, h x (by simp), leafL_all (xs := xs) fun y hy => h y (List.mem_cons_of_mem _ hy)]
    rfl
theorem Qy.gd {k : Int} (hk : k ≤ 4) : ∀ {m : Nat} {d : D}, Qy k m d → ∃ w ys, d = .tup (.str w :: ys) ∧ Gd (m + 1) (wQ m) d ∧ (joins w = true → ∃ m', m = m' + 1 ∧ ∀ y, y ∈ ys → Qy k m' y) := by
  intro m d h
  induction h with
  | sg h =>
    obtain ⟨w, ys, e, j, g⟩ := h.gd hk
    exact ⟨w, ys, e, g.mono (by omega) (wQ_mono _), fun z => by rw [j] at z; cases z⟩
  | no h ih =>
    obtain ⟨w, ys, e, g, _⟩ := ih
    refine ⟨_, _, rfl, ⟨?_, ?_, ?_⟩, fun _ => ⟨_, rfl, by simp; exact h⟩⟩
    · simp only [plain, List.all_cons, List.all_nil, g.pl, plain_str, Bool.and_self]
    · simp only [leafOk, leafL, g.lf]; rfl
    · have := g.wt; simp [wtD, wtL, wQ]; omega
  | @ao n w xs hw h1 h2 h3 ih =>
    have G : ∀ x, x ∈ xs → Gd (n + 1) (wQ n) x := fun x hx => by obtain ⟨_, _, _, g, _⟩ := ih x hx; exact g
    refine ⟨_, _, rfl, ⟨?_, ?_, ?_⟩, fun _ => ⟨_, rfl, h3⟩⟩
    · simp only [plain, List.all_cons, plain_str, Bool.true_and, List.all_eq_true]
      exact fun x hx => (G x hx).pl
    · have l1 : leafOk (.str w) = true := by rcases hw with rfl | rfl <;> rfl
      have l2 := leafL_all (xs := xs) fun x hx => (G x hx).lf
      show (leafOk (.str w) && leafL xs) = true
      rw [l1, l2]; rfl
    · have l2 := wtL_le (xs := xs) fun x hx => (G x hx).wt
      have l3 : xs.length * (wQ n + 2) ≤ 3 * (wQ n + 2) := Nat.mul_le_mul_right _ h2
      have lw : w.length ≤ 3 := by rcases hw with rfl | rfl <;> simp
      simp only [wtD, wtL, wQ]
      omega
end Pv
namespace Pv
theorem cut_to {α : Type} (xs : List α) {i : Int} (h : 0 ≤ i) : cut xs none (some i) = xs.take i.toNat := by
  have e : ¬ i < 0 := by omega
  simp only [cut, six, e, if_false, List.drop_zero, Nat.sub_zero]
  by_cases c : i.toNat ≤ xs.length
  · rw [Nat.min_eq_left c]
  · rw [Nat.min_eq_right (by omega), List.take_length, List.take_of_length_le (by omega)]
theorem cut_from {α : Type} (xs : List α) {i : Int} (h : 0 ≤ i) : cut xs (some i) none = xs.drop i.toNat := by
  have e : ¬ i < 0 := by omega
  simp only [cut, six, e, if_false]
  by_cases c : i.toNat ≤ xs.length
  · rw [Nat.min_eq_left c, List.take_of_length_le (by simp)]
  · rw [Nat.min_eq_right (by omega), List.drop_length, List.drop_of_length_le (by omega)]
    simp
structure GL (h w : Nat) (xs : List D) : Prop where
  pl : ∀ x, x ∈ xs → plain h x = true
  lf : leafL xs = true
  wt : wtL xs ≤ w
theorem wtL_app : ∀ xs ys : List D, wtL (xs ++ ys) = wtL xs + wtL ys
  | [], ys => by simp [wtL]
  | x :: xs, ys => by simp only [List.cons_append, wtL, wtL_app xs ys]; omega
theorem leafL_app : ∀ xs ys : List D, leafL (xs ++ ys) = (leafL xs && leafL ys)
  | [], ys => by simp [leafL]
  | x :: xs, ys => by simp only [List.cons_append, leafL, leafL_app xs ys, Bool.and_assoc]
theorem GL.app {h w w' : Nat} {xs ys : List D} (a : GL h w xs) (b : GL h w' ys) : GL h (w + w') (xs ++ ys) :=
  ⟨fun x hx => by exact (List.mem_append.mp hx).elim (a.pl x) (b.pl x), by rw [leafL_app, a.lf, b.lf]; rfl, by rw [wtL_app]; have := a.wt; have := b.wt; omega⟩
theorem GL.cons {h w w' : Nat} {x : D} {xs : List D} (a : Gd h w x) (b : GL h w' xs) : GL h (w + w' + 2) (x :: xs) :=
  ⟨fun y hy => by exact (List.mem_cons.mp hy).elim (fun z => z ▸ a.pl) (b.pl y), by show (leafOk x && leafL xs) = true; rw [a.lf, b.lf]; rfl, by show wtD x + 2 + wtL xs ≤ _; have := a.wt; have := b.wt; omega⟩
theorem GL.nil {h : Nat} : GL h 0 [] := ⟨fun x hx => absurd hx (by simp), rfl, by simp [wtL]⟩
theorem GL.mono {h w h' w' : Nat} {xs : List D} (g : GL h w xs) (a : h ≤ h') (b : w ≤ w') : GL h' w' xs := ⟨fun x hx => plain_mono a (g.pl x hx), g.lf, Nat.le_trans g.wt b⟩
theorem GL.take {h w : Nat} {xs : List D} (g : GL h w xs) (i : Nat) : GL h w (xs.take i) := by
  have e := congrArg wtL (List.take_append_drop i xs)
  have e2 := congrArg leafL (List.take_append_drop i xs)
  rw [wtL_app] at e
  rw [leafL_app, g.lf, Bool.and_eq_true] at e2
  have := g.wt
  exact ⟨fun x hx => g.pl x (List.mem_of_mem_take hx), e2.1, by omega⟩
theorem GL.drop {h w : Nat} {xs : List D} (g : GL h w xs) (i : Nat) : GL h w (xs.drop i) := by
  have e := congrArg wtL (List.take_append_drop i xs)
  have e2 := congrArg leafL (List.take_append_drop i xs)
  rw [wtL_app] at e
  rw [leafL_app, g.lf, Bool.and_eq_true] at e2
  have := g.wt
  exact ⟨fun x hx => g.pl x (List.mem_of_mem_drop hx), e2.2, by omega⟩
theorem GL.tup {h w : Nat} {xs : List D} (g : GL h w xs) : Gd (h + 1) (w + 3) (.tup xs) := Gd.tup g.pl g.lf (by have := g.wt; omega)
theorem GL.lst {h w : Nat} {xs : List D} (g : GL h w xs) : Gd (h + 1) (w + 3) (.lst xs) :=
  ⟨by simp only [plain, List.all_eq_true]; exact g.pl, g.lf, by simp only [wtD]; have := g.wt; omega⟩
theorem GL.len {h w : Nat} {xs : List D} (g : GL h w xs) : 2 * xs.length ≤ w := by have := wtL_len xs; have := g.wt; omega
theorem Gd.list {h w : Nat} {xs : List D} (g : Gd (h + 1) w (.tup xs)) : GL h w xs :=
  ⟨by have := g.pl; simp only [plain, List.all_eq_true] at this; exact this, g.lf, by have := g.wt; simp only [wtD] at this; omega⟩
theorem Gd.str {h : Nat} {s : List Nat} (l : leafOk (.str s) = true) : Gd h (10 * s.length + 2) (.str s) := ⟨plain_str h s, l, by simp [wtD]⟩
theorem GL.rep {h w : Nat} {x : D} (a : Gd h w x) : ∀ n, GL h (n * (w + 2)) (List.replicate n x)
  | 0 => by simpa using (GL.nil (h := h))
  | n + 1 => (GL.cons a (GL.rep a n)).mono (Nat.le_refl _) (by rw [Nat.add_mul]; omega)
theorem GL.all {h w n : Nat} {xs : List D} (g : ∀ x, x ∈ xs → Gd h w x) (hn : xs.length ≤ n) : GL h (n * (w + 2)) xs :=
  ⟨fun x hx => (g x hx).pl, leafL_all fun x hx => (g x hx).lf, Nat.le_trans (wtL_le fun x hx => (g x hx).wt) (Nat.mul_le_mul_right _ hn)⟩
theorem Gd.str_of {h : Nat} {s : List Nat} (l : s.all (fun c => decide (c < 4294967296)) = true) {w : Nat} (hw : 10 * s.length + 2 ≤ w) : Gd h w (.str s) := ⟨plain_str h s, l, by simp only [wtD]; exact hw⟩
theorem Gd.int_of {h : Nat} {i : Int} (l : i.natAbs < 2 ^ 80) {w : Nat} (hw : 2000 ≤ w) : Gd h w (.int i) := ⟨plain_int h i, leaf_int l, by simp only [wtD]; exact hw⟩
theorem Gd.bl_of {h : Nat} {b : Bool} {w : Nat} (hw : 2000 ≤ w) : Gd h w (.bl b) := ⟨plain_bl h b, rfl, by simp only [wtD]; exact hw⟩
end Pv
namespace Pv
section
variable (P : Sys) (cl : CL) (k : Nat → Nat) (r r' : Env) (t : Tg) (w : Wk) (es ifs : List ME) (b : List MS) (e : ME) (own : List Nat)
@[simp] theorem exS_for : exS P cl k (.for t w es b) r = hb (evL P cl es r) (fun as r1 => ho (rdAll r1 as) (fun ds => ho (walk w ds) (fun xs => if (tgIx t).all (fun i => k i != 2) then
      hb (forI t (exB P cl k b) xs (lockE (refsOf as) r1)) (fun f r => .ok f (unlkE (refsOf as) r1 r)) ⟨⟩ else .no) ⟨⟩) ⟨⟩) ⟨⟩ := by
  simp only [hb, ho]
  rw [exS]
@[simp] theorem lockE_nil : lockE [] r = r := rfl
@[simp] theorem unlkE_nil : unlkE [] r r' = r' := rfl
@[simp] theorem walk_r1 (i : Int) : walk .range [.int i] = if rngOk i then some (ranged 0 i) else none := by rw [walk]
@[simp] theorem walk_r2 (i j : Int) : walk .range [.int i, .int j] = if rngOk i && rngOk j then some (ranged i j) else none := by rw [walk]
theorem evE_lc : evE P cl (.lc e t w es ifs own) r = hb (evL P cl es r) (fun as r1 => ho (rdAll r1 as) (fun ds => ho (walk w ds) (fun xs =>
      if ownless own r1 then
        hb (compI own t (evI P cl ifs) (evE P cl e) xs (lockE (refsOf as) r1)) (fun ys r3 =>
          if ys.length ≤ LIM then .ok (.lst ys, true) (unlkE (refsOf as) r1 (back own r1 r3)) else .no) ⟨⟩
      else .no) ⟨⟩) ⟨⟩) ⟨⟩ := by
  simp only [hb, ho]
  rw [evE]
end
theorem rngOk_of {i : Int} (h : 0 ≤ i) (h2 : i < 1000000) : rngOk i = true := by unfold rngOk; simp; omega
theorem ranged_len {i : Int} (h : 0 ≤ i) : (ranged 0 i).length = i.toNat := by simp [ranged]
/-- a for whose turns keep I -/
theorem forI_inv {tg : Tg} {body : Env → Res Fl} (I : Nat → Env → Prop) : ∀ (xs : List D) (j : Nat) (r : Env),
    (∀ x, x ∈ xs → ∀ j r, I j r → ∃ r1, bindT tg x r = some r1 ∧ (body r1).Ok fun f r2 => (f = .nx ∨ f = .ct) ∧ I (j + 1) r2) → I j r →
    (forI tg body xs r).Ok fun f r' => f = .nx ∧ I (j + xs.length) r' := by
  intro xs
  induction xs with
  | nil => intro j r _ h; exact ⟨rfl, h⟩
  | cons x xs ih =>
    intro j r hb h
    obtain ⟨r1, e1, h1⟩ := hb x (by simp) j r h
    unfold forI
    rw [e1]
    simp only [opt_some, Res.Ok_bind]
    refine h1.mono fun f r2 h2 => ?_
    have := ih (j + 1) r2 (fun y hy => hb y (List.mem_cons_of_mem _ hy)) h2.2
    rw [show j + (x :: xs).length = j + 1 + xs.length by simp; omega]
    rcases h2.1 with rfl | rfl <;> exact this
/-- a comprehension whose parts draw: the pot in slot 0 -/
theorem compI_dr {P : Sys} {cl : CL} {e : ME} {j : Nat} {R : Env} {p : D → Prop} (xs : List D) (a b : Int) (hp : PotOk a b) (hj : j < R.length)
    (h : ∀ x, x ∈ xs → ∀ a b, PotOk a b → (evE P cl e (pt a b :: R.set j (.v x))).Ok fun d r => isRef d.1 = false ∧ p d.1 ∧ ∃ a' b', PotOk a' b' ∧ r = pt a' b' :: R.set j (.v x)) :
    (compI [j + 1] (.nm (j + 1)) (evI P cl []) (evE P cl e) xs (pt a b :: R)).Ok fun ys r => ys.length = xs.length ∧ (∀ y, y ∈ ys → p y) ∧ ∃ a' b' s, PotOk a' b' ∧ r = pt a' b' :: R.set j s := by
  suffices H : ∀ (xs : List D), (∀ x, x ∈ xs → ∀ a b, PotOk a b → (evE P cl e (pt a b :: R.set j (.v x))).Ok fun d r => isRef d.1 = false ∧ p d.1 ∧ ∃ a' b', PotOk a' b' ∧ r = pt a' b' :: R.set j (.v x)) → ∀ (a b : Int) (s : Sl), PotOk a b →
      (compI [j + 1] (.nm (j + 1)) (evI P cl []) (evE P cl e) xs (pt a b :: R.set j s)).Ok fun ys r => ys.length = xs.length ∧ (∀ y, y ∈ ys → p y) ∧ ∃ a' b' s, PotOk a' b' ∧ r = pt a' b' :: R.set j s by
    have := H xs h a b (R[j]) hp
    rwa [List.set_getElem_self hj] at this
  intro xs
  induction xs with
  | nil => intro _ a b s hp; exact ⟨rfl, fun y hy => absurd hy (by simp), a, b, s, hp, rfl⟩
  | cons x xs ih =>
    intro h a b s hp
    have hb : bindT (.nm (j + 1)) x (wipeE [j + 1] (pt a b :: R.set j s)) = some (pt a b :: R.set j (.v x)) := by simp [wipeE, bindT, putV, hj]
    unfold compI
    rw [hb]
    simp only [opt_some, Res.Ok_bind, evI_nil, Res.Ok_ok, if_true]
    refine (h x (by simp) a b hp).mono fun d r3 h3 => ?_
    obtain ⟨q1, q2, a', b', hp', rfl⟩ := h3
    rw [fz_of _ _ q1]
    simp only [opt_some, Res.Ok_bind]
    refine (ih (fun y hy => h y (List.mem_cons_of_mem _ hy)) a' b' (.v x) hp').mono fun ys r5 h5 => ?_
    refine ⟨by simp [h5.1], fun y hy => ?_, h5.2.2⟩
    rcases List.mem_cons.mp hy with rfl | hy
    · exact q2
    · exact h5.2.1 y hy
@[simp] theorem ranged_lenN (n : Nat) : (ranged 0 (n : Int)).length = n := by simp [ranged]
end Pv
namespace Pv
theorem inL_one (c : Nat) : ∀ y : List Nat, inL (.str [c]) (chars y) = decide (c ∈ y)
  | [] => rfl
  | d :: y => by
    have ih := inL_one c y
    have e : chars (d :: y) = .str [d] :: chars y := rfl
    rw [e]
    simp only [inL, ih, eqD_ss']
    by_cases h : c = d
    · subst h; simp
    · have : ¬ d = c := fun z => h z.symm
      simp [h, this]
/-- what inS of one sign says -/
def InMem (Z : Sys) : Prop := ∀ (c : Nat) (s : List Nat), Z.inS [c] s = decide (c ∈ s)
theorem InMem.one {Z : Sys} (h : InMem Z) : InOne Z := fun c k _ => by rw [h, inL_one]
theorem mem_lets {k : Nat} (hk : k ≤ 4) {c : Nat} : c ∈ lets k ↔ Lt k c := by
  unfold Lt
  have : k = 0 ∨ k = 1 ∨ k = 2 ∨ k = 3 ∨ k = 4 := by omega
  rcases this with rfl | rfl | rfl | rfl | rfl <;> simp [lets] <;> omega
theorem textD_str {k m : Nat} (hk : k ≤ 4) {s : List Nat} (hs : s.length ≤ m) (h : ∀ c, c ∈ s → Lt k c) : textD k m (.str s) = true := by
  simp only [textD, Bool.and_eq_true, decide_eq_true_eq, List.all_eq_true]
  exact ⟨hs, fun c hc => by rw [inL_one]; simpa using (mem_lets hk).mpr (h c hc)⟩
theorem set2 {α : Type} (r : List α) {i j : Nat} (hij : i ≠ j) (a b c d : α) : (((r.set i a).set j b).set i c).set j d = (r.set i c).set j d := by
  rw [List.set_comm a b hij, List.set_set, List.set_comm b c hij.symm, List.set_set]
theorem compI_pure2 {elt : Env → Res (D × Bool)} {tests : Env → Res Bool} {i j : Nat} {r : Env} {g : D × D → D} {p : D × D → Bool} (hi : i < r.length) (hj : j < r.length) :
    ∀ (ps : List (D × D)) (s t : Sl), (∀ x, x ∈ ps → tests ((r.set i (.v x.1)).set j (.v x.2)) = .ok (p x) ((r.set i (.v x.1)).set j (.v x.2)) ∧ (p x = true → ∃ b, elt ((r.set i (.v x.1)).set j (.v x.2)) = .ok (g x, b) ((r.set i (.v x.1)).set j (.v x.2)) ∧ isRef (g x) = false)) → i ≠ j →
      ∃ s' t', compI [i, j] (.tp [.nm i, .nm j]) tests elt (ps.map fun x => .tup [x.1, x.2]) ((r.set i s).set j t) = .ok ((ps.filter p).map g) ((r.set i s').set j t') := by
  intro ps
  induction ps with
  | nil => intro s t _ _; exact ⟨s, t, rfl⟩
  | cons x ps ih =>
    intro s t h hij
    obtain ⟨h1, h2⟩ := h x (by simp)
    obtain ⟨s', t', e⟩ := ih (.v x.1) (.v x.2) (fun y hy => h y (List.mem_cons_of_mem _ hy)) hij
    have hb : bindT (.tp [.nm i, .nm j]) (.tup [x.1, x.2]) (wipeE [i, j] ((r.set i s).set j t)) = some ((r.set i (.v x.1)).set j (.v x.2)) := by
      have w : wipeE [i, j] ((r.set i s).set j t) = (r.set i .e).set j .e := by
        unfold wipeE
        simp only [List.foldl_cons, List.foldl_nil]
        exact set2 r hij s t .e .e
      rw [w]
      have hji : ¬ j = i := fun z => hij z.symm
      have g1 : ((r.set i .e).set j .e)[i]? = some Sl.e := by simp [List.getElem?_set, hi, hj, hij, hji]
      have g2 : (((r.set i .e).set j .e).set i (.v x.1))[j]? = some Sl.e := by simp [List.getElem?_set, hi, hj, hij, hji]
      show (putV i x.1 ((r.set i .e).set j .e)).bind (putV j x.2) = _
      unfold putV
      simp only [g1, Option.bind_some, g2]
      exact congrArg some (set2 r hij .e .e (.v x.1) (.v x.2))
    refine ⟨s', t', ?_⟩
    rw [List.map_cons]
    unfold compI
    rw [hb]
    simp only [opt_some, h1, Res.bind_ok]
    cases hp : p x with
    | false => simp only [Bool.false_eq_true, if_false]; rw [e]; simp [hp]
    | true =>
      obtain ⟨b, h3, h4⟩ := h2 hp
      simp only [if_true, h3, Res.bind_ok]
      rw [fz_of _ _ h4]
      simp only [opt_some]
      rw [e]
      simp [hp]
theorem lc_eq2 {P : Sys} {cl : CL} {e : ME} {i j : Nat} {w : Wk} {es ifs : List ME} {r : Env} {as : List (D × Bool)} {ds : List D} {ps : List (D × D)} {g : D × D → D} {p : D × D → Bool}
    (hs : evL P cl es r = .ok as r) (hn : refsOf as = []) (hd : rdAll r as = some ds) (hw : walk w ds = some (ps.map fun x => .tup [x.1, x.2])) (hi : i < r.length) (hj : j < r.length) (hij : i ≠ j) (ho : ownless [i, j] r = true)
    (h : ∀ x, x ∈ ps → evI P cl ifs ((r.set i (.v x.1)).set j (.v x.2)) = .ok (p x) ((r.set i (.v x.1)).set j (.v x.2)) ∧ (p x = true → ∃ b, evE P cl e ((r.set i (.v x.1)).set j (.v x.2)) = .ok (g x, b) ((r.set i (.v x.1)).set j (.v x.2)) ∧ isRef (g x) = false)) (hl : ps.length ≤ LIM) :
    evE P cl (.lc e (.tp [.nm i, .nm j]) w es ifs [i, j]) r = .ok (.lst ((ps.filter p).map g), true) r := by
  obtain ⟨s', t', hc⟩ := compI_pure2 hi hj ps (r[i]) (r[j]) h hij
  rw [show r.set i r[i] = r from List.set_getElem_self hi, show r.set j r[j] = r from List.set_getElem_self hj] at hc
  have hl2 : ((ps.filter p).map g).length ≤ LIM := by
    rw [List.length_map]
    exact Nat.le_trans (List.length_filter_le _ _) hl
  have hb : back [i, j] r ((r.set i s').set j t') = r := by
    have gi : r.getD i .e = r[i] := by simp [List.getD_eq_getElem?_getD, hi]
    have gj : r.getD j .e = r[j] := by simp [List.getD_eq_getElem?_getD, hj]
    unfold back
    simp only [List.foldl_cons, List.foldl_nil, gi, gj]
    rw [set2 r hij s' t' r[i] r[j], List.set_getElem_self hi, List.set_getElem_self hj]
  unfold evE
  simp only [hs, Res.bind_ok, hd, opt_some, hw, ho, if_true, hn, lockE, List.isEmpty_nil, hc, hl2, unlkE, hb]
/-- the places and the signs of a text -/
def ipairs : Nat → List Nat → List (D × D)
  | _, [] => []
  | k, c :: s => (.int k, .str [c]) :: ipairs (k + 1) s
theorem enum_pairs : ∀ (s : List Nat) (k : Nat), enumFrom k (chars s) = (ipairs k s).map fun x => .tup [x.1, x.2]
  | [], _ => rfl
  | c :: s, k => by
    have := enum_pairs s (k + 1)
    simp only [chars, List.map_cons, enumFrom, ipairs] at this ⊢
    rw [this]
theorem ipairs_len : ∀ (s : List Nat) (k : Nat), (ipairs k s).length = s.length
  | [], _ => rfl
  | c :: s, k => by simp [ipairs, ipairs_len s (k + 1)]
theorem ipairs_mem : ∀ {s : List Nat} {k : Nat} {x : D × D}, x ∈ ipairs k s → ∃ i c, s[i]? = some c ∧ x = (.int ((k + i : Nat) : Int), .str [c])
  | c :: s, k, x, h => by
    rcases List.mem_cons.mp h with rfl | h
    · exact ⟨0, c, rfl, by simp⟩
    · obtain ⟨i, d, h1, rfl⟩ := ipairs_mem h
      exact ⟨i + 1, d, by simpa using h1, by congr 2; omega⟩
@[simp] theorem walk_enumS (s : List Nat) : walk .enum [.str s] = if s.length ≤ LIM then some (enumFrom 0 (chars s)) else none := by rw [walk]
@[simp] theorem walk_enumL (s : List D) : walk .enum [.lst s] = some (enumFrom 0 s) := rfl
/-- a for whose turns keep I, by the turn's number -/
theorem forI_ix {tg : Tg} {body : Env → Res Fl} (I : Nat → Env → Prop) : ∀ (xs : List D) (j : Nat) (r : Env),
    (∀ i x, xs[i]? = some x → ∀ r, I (j + i) r → ∃ r1, bindT tg x r = some r1 ∧ (body r1).Ok fun f r2 => (f = .nx ∨ f = .ct) ∧ I (j + i + 1) r2) → I j r →
    (forI tg body xs r).Ok fun f r' => f = .nx ∧ I (j + xs.length) r' := by
  intro xs
  induction xs with
  | nil => intro j r _ h; exact ⟨rfl, h⟩
  | cons x xs ih =>
    intro j r hb h
    obtain ⟨r1, e1, h1⟩ := hb 0 x rfl r h
    unfold forI
    rw [e1]
    simp only [opt_some, Res.Ok_bind]
    refine h1.mono fun f r2 h2 => ?_
    have := ih (j + 1) r2 (fun i y hy r hr => by
      have := hb (i + 1) y (by simpa using hy) r (by rw [show j + (i + 1) = j + 1 + i by omega]; exact hr)
      rw [show j + (i + 1) + 1 = j + 1 + i + 1 by omega] at this
      exact this) h2.2
    rw [show j + (x :: xs).length = j + 1 + xs.length by simp; omega]
    rcases h2.1 with rfl | rfl <;> exact this
theorem forI_ix0 {tg : Tg} {body : Env → Res Fl} (I : Nat → Env → Prop) (xs : List D) (r : Env)
    (hb : ∀ i x, xs[i]? = some x → ∀ r, I i r → ∃ r1, bindT tg x r = some r1 ∧ (body r1).Ok fun f r2 => (f = .nx ∨ f = .ct) ∧ I (i + 1) r2) (h : I 0 r) :
    (forI tg body xs r).Ok fun f r' => f = .nx ∧ I xs.length r' := by
  have := forI_ix I xs 0 r (fun i x hx r hr => by
    have e : 0 + i = i := Nat.zero_add i
    rw [e] at hr ⊢
    exact hb i x hx r hr) h
  rwa [Nat.zero_add] at this
theorem strs_map {α : Type} (g : α → List Nat) : ∀ xs : List α, strsOf (xs.map fun x => .str (g x)) = some (xs.map g)
  | [] => rfl
  | x :: xs => by simp [strsOf, strs_map g xs]
theorem join_flat : ∀ xs : List (List Nat), joinS [] xs = xs.flatten
  | [] => rfl
  | [x] => by simp [joinS]
  | x :: y :: r => by simp [joinS, join_flat (y :: r)]
end Pv
namespace Pv
theorem letterD_of {k : Nat} (hk : k ≤ 4) {c : Nat} (h : Lt k c) : letterD k (.str [c]) = true := by
  simp only [letterD, isStr, Bool.true_and, inL_one]
  simpa using (mem_lets hk).mpr h
theorem within_of {i a b : Int} (h1 : a ≤ i) (h2 : i ≤ b) : within (.int i) (.int a) (.int b) = true := by simp [within, h1, h2]
theorem Sg.bare {k : Nat} (hk : k ≤ 4) {d : D} (h : Sg k d) : ∃ w ys, d = .tup (.str w :: ys) ∧ joins w = false ∧ bareD k w ys = true := by
  cases h with
  | word c h => exact ⟨_, _, rfl, by decide, by simp [bareD, wWord, letterD_of hk h]⟩
  | row s a b h => exact ⟨_, _, rfl, by decide, by
      have e : eqD (.str s) (.str []) = false := by simpa using b
      simp [bareD, wRow, wWord, wLong, wFirst, wLast, textD_str (m := 60) hk (by omega) h]
      exact b⟩
  | near c d i h1 h2 h3 h4 => exact ⟨_, _, rfl, by decide, by simp [bareD, wNear, letterD_of hk h1, letterD_of hk h2, within_of h3 (show i ≤ 5 by omega)]⟩
  | ahead c d h1 h2 => exact ⟨_, _, rfl, by decide, by simp [bareD, wAhead, letterD_of hk h1, letterD_of hk h2]⟩
  | first s a h => exact ⟨_, _, rfl, by decide, by simp [bareD, wRow, wWord, wLong, wFirst, wLast, textD_str (m := 60) hk (by omega) h]⟩
  | last s a h => exact ⟨_, _, rfl, by decide, by simp [bareD, wRow, wWord, wLong, wFirst, wLast, textD_str (m := 60) hk (by omega) h]⟩
  | often c i h1 h3 h4 => exact ⟨_, _, rfl, by decide, by simp [bareD, wOften, wAhead, letterD_of hk h1, within_of h3 (show i ≤ 6 by omega)]⟩
  | long i h3 h4 => exact ⟨_, _, rfl, by decide, by simp [bareD, wLong, within_of h3 (show i ≤ 9 by omega)]⟩
  | rest c m i h1 h2 h3 h4 h5 => exact ⟨_, _, rfl, by decide, by simp [bareD, wRest, wNear, letterD_of hk h1, within_of h2 h3, withinTo, within_of h4 (show i ≤ m - 1 by omega)]⟩
  | all => exact ⟨_, _, rfl, by decide, by simp [bareD, wAll]⟩
  | none => exact ⟨_, _, rfl, by decide, by simp [bareD, wNone]⟩
/-- a query drawn is built -/
theorem Qy.built {k : Nat} (hk : k ≤ 4) : ∀ {m : Nat} {d : D}, Qy k m d → ∀ dep, m + 1 ≤ dep → builtN k dep d = true := by
  intro m d h
  induction h with
  | sg h =>
    intro dep hd
    obtain ⟨dep, rfl⟩ : ∃ e, dep = e + 1 := ⟨dep - 1, by omega⟩
    obtain ⟨w, ys, rfl, j, b⟩ := h.bare hk
    simp only [joins, Bool.or_eq_false_iff, decide_eq_false_iff_not] at j
    have j2 : ¬ (w = wAnd ∨ w = wOr) := fun z => z.elim j.1.2 j.2
    simp only [builtN, j.1.1, j2, if_false]
    exact b
  | no h ih =>
    intro dep hd
    obtain ⟨dep, rfl⟩ : ∃ e, dep = e + 1 := ⟨dep - 1, by omega⟩
    have := ih dep (by omega)
    simp [builtN, wNot, this]
  | @ao n w xs hw h1 h2 h3 ih =>
    intro dep hd
    obtain ⟨dep, rfl⟩ : ∃ e, dep = e + 1 := ⟨dep - 1, by omega⟩
    have hn : ¬ w = wNot := by rcases hw with rfl | rfl <;> decide
    have ha : w = wAnd ∨ w = wOr := hw
    have h2' : xs.length ≤ 6 := by omega
    simp only [builtN, hn, ha, if_false, if_true, h1, h2', decide_true, Bool.true_and, List.all_eq_true]
    exact fun x hx => ih x hx dep (by omega)
/-- of more letters, too -/
theorem Lt.mono {k k' : Int} (h : k ≤ k') {c : Nat} (l : Lt k c) : Lt k' c := ⟨l.1, by have := l.2; omega⟩
theorem Sg.mono {k k' : Int} (h : k ≤ k') {d : D} (s : Sg k d) : Sg k' d := by
  cases s with
  | word c a => exact .word c (a.mono h)
  | row s a b c => exact .row s a b fun x hx => (c x hx).mono h
  | near c d i a b e f => exact .near c d i (a.mono h) (b.mono h) e f
  | ahead c d a b => exact .ahead c d (a.mono h) (b.mono h)
  | first s a b => exact .first s a fun x hx => (b x hx).mono h
  | last s a b => exact .last s a fun x hx => (b x hx).mono h
  | often c i a b e => exact .often c i (a.mono h) b e
  | long i a b => exact .long i a b
  | rest c m i a b e f g => exact .rest c m i (a.mono h) b e f g
  | all => exact .all
  | none => exact .none
theorem Qy.mono {k k' : Int} (h : k ≤ k') : ∀ {m : Nat} {d : D}, Qy k m d → Qy k' m d := by
  intro m d q
  induction q with
  | sg s => exact .sg (s.mono h)
  | no _ ih => exact .no ih
  | ao a b c _ ih => exact .ao a b c ih
theorem Qy.up {k : Int} : ∀ {m m' : Nat} {d : D}, Qy k m d → m ≤ m' → Qy k m' d := by
  intro m m' d q
  induction q generalizing m' with
  | sg s => exact fun _ => .sg s
  | no _ ih => intro hm; obtain ⟨e, rfl⟩ : ∃ e, m' = e + 1 := ⟨m' - 1, by omega⟩; exact .no (ih (by omega))
  | ao a b c _ ih => intro hm; obtain ⟨e, rfl⟩ : ∃ e, m' = e + 1 := ⟨m' - 1, by omega⟩; exact .ao a b c fun x hx => ih x hx (by omega)
def depthN : Nat → D → Int
  | m + 1, .tup (.str w :: ys) => 1 + maxOf (0 :: (partsD w ys).map (depthN m))
  | _, _ => 1
def b_depth (f fp : Nat) : List MS := [.ret (.bin (.add) (.c (.int 1)) (.bi (.max) [.bin (.add) (.lst [.c (.int 0)]) (.lc (.call f [.v 1] [0] []) (.nm 1) (.seq) [.call fp [.v 0] [0] []] [] [1])]))]
theorem parts_built {k dep : Nat} {w : List Nat} {ys : List D} (hb : builtN k (dep + 1) (.tup (.str w :: ys)) = true) : ∀ x, x ∈ partsD w ys → builtN k dep x = true ∧ x ∈ ys := fun x hx => by
  by_cases cj : joins w = true
  · have e : partsD w ys = ys := by simp [partsD, cj]
    rw [e] at hx
    refine ⟨?_, hx⟩
    simp only [builtN] at hb
    by_cases c1 : w = wNot
    · simp only [c1, if_true, Bool.and_eq_true, List.all_eq_true] at hb
      exact hb.2 x hx
    · simp only [c1, if_false] at hb
      have c2 : w = wAnd ∨ w = wOr := by simp [joins, c1] at cj; exact cj
      simp only [c2, if_true, Bool.and_eq_true, List.all_eq_true] at hb
      exact hb.2 x hx
  · have e : partsD w ys = [] := by simp [partsD, cj]
    rw [e] at hx
    cases hx
theorem depth_f {Z : Sys} {fp f : Nat} (hp : Z.fns[fp]? = some ⟨1, 1, [false], b_parts⟩) (hf : Z.fns[f]? = some ⟨1, 2, [false, false], b_depth f fp⟩) {k n W : Nat} (hW : W ≤ LIM) : ∀ (dep h : Nat) (d : D), h ≤ DEEP → Gd h W d → builtN k dep d = true →
    (callN Z (n + dep + 1) f [.v d]).Ok (Pu (.int (depthN dep d)) 1) := by
  intro dep
  induction dep with
  | zero => intro h d hh g hb; simp [builtN] at hb
  | succ dep ih =>
    intro h d hh g hb
    rw [show n + (dep + 1) + 1 = (n + dep + 1) + 1 by omega]
    have fk : fkeep Z f 0 = false ∧ fkeep Z fp 0 = false := by simp [fkeep, hp, hf]
    match d, hb with
    | .tup (.str w :: ys), hb =>
      refine call_pu hf rfl rfl rfl (by intro i hi; rcases i with _ | i <;> first | rfl | omega) ?_
      obtain ⟨m, rfl, gx, pl⟩ := plainT hh g
      have hb' := parts_built hb
      have hl : 2 * ys.length ≤ W := by have := g.len; simp at this; omega
      have hl2 : (partsD w ys).length ≤ ys.length := by unfold partsD; split <;> simp
      have hl3 : (partsD w ys).length ≤ LIM := by omega
      have hl4 : 1 + (partsD w ys).length ≤ LIM := by simp only [LIM] at *; omega
      have hP : ∀ r, callE Z (callN Z (n + dep + 1)) fp [0] [] [(.tup (.str w :: ys), false)] r = .ok (.lst (partsD w ys), true) r := fun r =>
        callE_eqF (m := 1) hp (sl := [.tup (.str w :: ys)]) (by intro y hy; simp at hy; subst hy; rfl) (by simp) (by simp [argSl, List.range_succ, List.findIdx?, List.findIdx?.go]) (parts_f hp (n + dep) w ys) rfl
      have hR : ∀ r x, x ∈ partsD w ys → callE Z (callN Z (n + dep + 1)) f [0] [] [(x, false)] r = .ok (.int (depthN dep x), false) r := fun r x hx => by
        have gxx := gx x (List.mem_cons_of_mem _ (hb' x hx).2)
        have rx := gxx.ref
        exact callE_eq hf (sl := [x]) (by intro y hy; simp at hy; subst hy; exact rx) (by simp) (by simp [argSl, argOf_pl rx, List.range_succ, List.findIdx?, List.findIdx?.go]) (ih m x (by omega) gxx (hb' x hx).1)
      have L1 := lc_map (P := Z) (cl := callN Z (n + dep + 1)) (r := [.v (.tup (.str w :: ys)), .e]) (i := 1) (w := .seq) (e := .call f [.v 1] [0] []) (es := [.call fp [.v 0] [0] []]) (g := fun x => .int (depthN dep x)) (xs := partsD w ys)
        (by simp [fk, hP]; rfl) rfl rfl rfl (by simp) rfl (fun x hx => ⟨false, by simp [fk, (gx x (List.mem_cons_of_mem _ (hb' x hx).2)).ref, hR _ x hx], rfl⟩) hl3
      have B := ints_map (fun x => depthN dep x) (partsD w ys)
      have B2 : intsOf (.int 0 :: (partsD w ys).map fun x => .int (depthN dep x)) = some (0 :: (partsD w ys).map fun x => depthN dep x) := by simp [intsOf, B]
      have M := maxI_some (xs := 0 :: (partsD w ys).map fun x => depthN dep x) (by simp)
      simp [b_depth, L1, hl4, B2, M, depthN]
end Pv
namespace Pv
def strsCat : List D → List Nat
  | .str s :: r => s ++ strsCat r
  | _ :: r => strsCat r
  | [] => []
def lettersN : Nat → D → List Nat
  | m + 1, .tup (.str w :: ys) => if joins w = true then (ys.map (lettersN m)).flatten else strsCat ys
  | _, _ => []
theorem strsCat_len : ∀ ys : List D, (strsCat ys).length ≤ wtL ys
  | [] => by simp [strsCat]
  | y :: r => by
    have := strsCat_len r
    cases y <;> simp [strsCat, wtL, wtD] <;> omega
theorem flat_len {f : D → List Nat} : ∀ ys : List D, (∀ y, y ∈ ys → (f y).length ≤ wtD y) → (ys.map f).flatten.length ≤ wtL ys
  | [], _ => by simp
  | y :: r, h => by
    have h1 := h y (by simp)
    have h2 := flat_len r fun z hz => h z (List.mem_cons_of_mem _ hz)
    simp only [List.map_cons, List.flatten_cons, List.length_append, wtL]
    omega
theorem lettersN_len : ∀ (m : Nat) (d : D), (lettersN m d).length ≤ wtD d := by
  intro m
  induction m with
  | zero => intro d; simp [lettersN]
  | succ m ih =>
    intro d
    match d with
    | .tup (.str w :: ys) =>
      simp only [lettersN]
      split
      · have := flat_len ys fun y _ => ih y
        simp only [wtD, wtL]; omega
      · have := strsCat_len ys
        simp only [wtD, wtL]; omega
    | .tup [] => simp [lettersN]
    | .tup (.non :: _) => simp [lettersN]
    | .tup (.bl _ :: _) => simp [lettersN]
    | .tup (.int _ :: _) => simp [lettersN]
    | .tup (.tup _ :: _) => simp [lettersN]
    | .tup (.lst _ :: _) => simp [lettersN]
    | .tup (.dic _ _ :: _) => simp [lettersN]
    | .tup (.sset _ :: _) => simp [lettersN]
    | .tup (.ins _ _ _ :: _) => simp [lettersN]
    | .tup (.fn _ :: _) => simp [lettersN]
    | .tup (.clo _ _ :: _) => simp [lettersN]
    | .tup (.exn _ _ :: _) => simp [lettersN]
    | .tup (.ref _ :: _) => simp [lettersN]
    | .tup (.scr _ :: _) => simp [lettersN]
    | .tup (.dead :: _) => simp [lettersN]
    | .non => simp [lettersN]
    | .bl _ => simp [lettersN]
    | .int _ => simp [lettersN]
    | .str _ => simp [lettersN]
    | .lst _ => simp [lettersN]
    | .dic _ _ => simp [lettersN]
    | .sset _ => simp [lettersN]
    | .ins _ _ _ => simp [lettersN]
    | .fn _ => simp [lettersN]
    | .clo _ _ => simp [lettersN]
    | .exn _ _ => simp [lettersN]
    | .ref _ => simp [lettersN]
    | .scr _ => simp [lettersN]
    | .dead => simp [lettersN]
def b_lettersIn (f : Nat) : List MS := [.ife (.or [.cmp (.isin) (.ix (.v 0) (.c (.int 0))) (.g 0 (.tup [.str [97, 110, 100], .str [111, 114]])), .cmp (.eq) (.ix (.v 0) (.c (.int 0))) (.c (.str [110, 111, 116]))]) [.ret (.mt (.join) (.c (.str [])) [.lc (.call f [.v 1] [0] []) (.nm 1) (.seq) [.sl (.v 0) (some (.c (.int 1))) none] [] [1]])] [], .ife (.cmp (.isin) (.ix (.v 0) (.c (.int 0))) (.tup [.c (.str [114, 111, 119]), .c (.str [102, 105, 114, 115, 116]), .c (.str [108, 97, 115, 116]), .c (.str [119, 111, 114, 100])])) [.ret (.ix (.v 0) (.c (.int 1)))] [], .ife (.cmp (.isin) (.ix (.v 0) (.c (.int 0))) (.tup [.c (.str [110, 101, 97, 114]), .c (.str [97, 104, 101, 97, 100])])) [.ret (.bin (.add) (.ix (.v 0) (.c (.int 1))) (.ix (.v 0) (.c (.int 2))))] [], .ret (.ife (.cmp (.isin) (.ix (.v 0) (.c (.int 0))) (.tup [.c (.str [111, 102, 116, 101, 110]), .c (.str [114, 101, 115, 116])])) (.ix (.v 0) (.c (.int 1))) (.c (.str [])))]
def b_measures (f : Nat) : List MS := [.ife (.cmp (.isin) (.ix (.v 0) (.c (.int 0))) (.lst [.c (.str [110, 111, 116]), .c (.str [97, 110, 100]), .c (.str [111, 114])])) [.set 1 (.lc (.call f [.v 2] [0] []) (.nm 2) (.seq) [.sl (.v 0) (some (.c (.int 1))) none] [] [2]), .ret (.tup [.bin (.add) (.c (.int 1)) (.bi (.sum) [.lc (.ix (.v 4) (.c (.int 0))) (.nm 4) (.seq) [.v 1] [] [4]]), .bin (.add) (.c (.int 1)) (.bi (.max) [.lc (.ix (.v 4) (.c (.int 1))) (.nm 4) (.seq) [.v 1] [] [4]]), .mt (.join) (.c (.str [])) [.lc (.ix (.v 4) (.c (.int 2))) (.nm 4) (.seq) [.v 1] [] [4]]])] [], .ret (.tup [.c (.int 1), .c (.int 1), .mt (.join) (.c (.str [])) [.lc (.v 3) (.nm 3) (.seq) [.sl (.v 0) (some (.c (.int 1))) none] [.isi (.v 3) [.str]] [3]]])]
/-- a query drawn: one tuple, or a joined one -/
theorem Qy.cases {k : Nat} (hk : k ≤ 4) {m : Nat} {d : D} (h : Qy k m d) : Sg k d ∨ ∃ w ys m', m = m' + 1 ∧ d = .tup (.str w :: ys) ∧ joins w = true ∧ ys ≠ [] ∧ (∀ y, y ∈ ys → Qy k m' y) := by
  cases h with
  | sg h => exact .inl h
  | no h => exact .inr ⟨_, _, _, rfl, rfl, by decide, by simp, by simp; exact h⟩
  | ao hw h1 h2 h3 => exact .inr ⟨_, _, _, rfl, rfl, by rcases hw with rfl | rfl <;> decide, by intro e; rw [e] at h1; simp at h1, h3⟩
theorem joins_in {w : List Nat} (h : joins w = true) : (inL (.str w) [.str [97, 110, 100], .str [111, 114]] || (w == [110, 111, 116])) = true := by
  simp only [joins, Bool.or_eq_true, decide_eq_true_eq] at h
  rcases h with (rfl | rfl) | rfl <;> decide
theorem joins_in3 {w : List Nat} (h : joins w = true) : inL (.str w) [.str [110, 111, 116], .str [97, 110, 100], .str [111, 114]] = true := by
  simp only [joins, Bool.or_eq_true, decide_eq_true_eq] at h
  rcases h with (rfl | rfl) | rfl <;> decide
theorem lettersIn_f {Z : Sys} {f : Nat} (hf : Z.fns[f]? = some ⟨1, 2, [false, false], b_lettersIn f⟩) {k : Nat} (hk : k ≤ 4) (n : Nat) : ∀ (m : Nat) (d : D), Qy k m d → m ≤ 4 → ∀ dep, m + 1 ≤ dep →
    (callN Z (n + m + 1) f [.v d]).Ok (Pu (.str (lettersN dep d)) 1) := by
  intro m
  induction m using Nat.strongRecOn with
  | _ m ih =>
    intro d hq hm dep hd
    obtain ⟨dep, rfl⟩ : ∃ e, dep = e + 1 := ⟨dep - 1, by omega⟩
    obtain ⟨_, _, _, g0, _⟩ := hq.gd (show (k : Int) ≤ 4 by omega)
    have hw : wQ m ≤ 400000 := by
      have : m = 0 ∨ m = 1 ∨ m = 2 ∨ m = 3 ∨ m = 4 := by omega
      rcases this with rfl | rfl | rfl | rfl | rfl <;> decide
    refine call_pu hf rfl rfl rfl (by intro i hi; rcases i with _ | i <;> first | rfl | omega) ?_
    rcases hq.cases hk with hs | ⟨w, ys, m', rfl, rfl, cj, hne, hy⟩
    · cases hs
      all_goals simp [b_lettersIn, inL, keepL, lettersN, joins, wNot, wAnd, wOr, strsCat]
      all_goals decide
    · have fk : fkeep Z f 0 = false := by simp [fkeep, hf]
      have c1 := joins_in cj
      have hl := g0.len
      have hl3 : ys.length ≤ LIM := by simp only [List.length_cons, LIM] at *; omega
      have ry : ∀ x, x ∈ ys → isRef x = false := fun x hx => (hy x hx).noRef
      have hR : ∀ r x, x ∈ ys → callE Z (callN Z (n + (m' + 1))) f [0] [] [(x, false)] r = .ok (.str (lettersN dep x), false) r := fun r x hx => by
        have rx := ry x hx
        exact callE_eq hf (sl := [x]) (by intro y hy; simp at hy; subst hy; exact rx) (by simp) (by simp [argSl, argOf_pl rx, List.range_succ, List.findIdx?, List.findIdx?.go]) (ih m' (by omega) x (hy x hx) (by omega) dep (by omega))
      have L1 := lc_map (P := Z) (cl := callN Z (n + (m' + 1))) (r := [.v (.tup (.str w :: ys)), .e]) (i := 1) (w := .seq) (e := .call f [.v 1] [0] []) (es := [.sl (.v 0) (some (.c (.int 1))) none]) (g := fun x => .str (lettersN dep x)) (xs := ys)
        (by simp [cut1]; rfl) rfl rfl rfl (by simp) rfl (fun x hx => ⟨false, by simp [fk, ry x hx, hR _ x hx], rfl⟩) hl3
      have B := strs_map (fun x => lettersN dep x) ys
      have hfl : (ys.map fun x => (lettersN dep x)).flatten.length ≤ LIM := by
        have := flat_len (f := fun x => lettersN dep x) ys fun y _ => lettersN_len dep y
        have := g0.wt
        simp only [wtD, wtL] at this
        simp only [LIM]; omega
      have hfl2 : (ys.map ((fun x => x.length) ∘ fun x => lettersN dep x)).sum ≤ LIM := by
        rw [List.length_flatten, List.map_map] at hfl
        exact hfl
      have w3 : w = wNot ∨ w = wAnd ∨ w = wOr := by
        simp only [joins, Bool.or_eq_true, decide_eq_true_eq] at cj
        rcases cj with (h | h) | h
        · exact .inl h
        · exact .inr (.inl h)
        · exact .inr (.inr h)
      rcases w3 with rfl | rfl | rfl
      all_goals
        simp only [wNot, wAnd, wOr] at L1
        simp [b_lettersIn, wNot, wAnd, wOr, inL, L1, B, join_flat, kindN, lettersN, joins, hfl2]
def measD (dep : Nat) (d : D) : D := .tup [.int (sizeN dep d), .int (depthN dep d), .str (lettersN dep d)]
theorem zero_le_maxOf (xs : List Int) : 0 ≤ maxOf (0 :: xs) := (maxOf_le (xs := 0 :: xs) (by simp) (maxOf (0 :: xs))).mp (Int.le_refl _) 0 (by simp)
theorem depthN_pos : ∀ (m : Nat) (d : D), 1 ≤ depthN m d := by
  intro m d
  unfold depthN
  split
  · have := zero_le_maxOf ((partsD ‹List Nat› ‹List D›).map (depthN ‹Nat›))
    rename_i m w ys
    have := zero_le_maxOf ((partsD w ys).map (depthN m))
    omega
  · omega
def strsIn : List D → List (List Nat)
  | .str s :: r => s :: strsIn r
  | _ :: r => strsIn r
  | [] => []
theorem strsIn_of : ∀ zs : List D, strsOf (zs.filter isStr) = some (strsIn zs)
  | [] => rfl
  | z :: zs => by
    have := strsIn_of zs
    cases z <;> first
      | (rw [List.filter_cons_of_pos (by rfl)]; simp [strsOf, strsIn, this]; done)
      | (rw [List.filter_cons_of_neg (by simp [isStr])]; exact this)
theorem strsIn_cat : ∀ zs : List D, (strsIn zs).flatten = strsCat zs
  | [] => rfl
  | z :: zs => by
    have := strsIn_cat zs
    cases z <;> simp [strsIn, strsCat, this]
theorem maxOf_zero {xs : List Int} (h : xs ≠ []) (hp : ∀ x, x ∈ xs → 1 ≤ x) : maxOf (0 :: xs) = maxOf xs := by
  have h1 : maxOf (0 :: xs) ≤ maxOf xs := (maxOf_le (by simp) _).mpr fun y hy => by
    rcases List.mem_cons.mp hy with rfl | hy
    · obtain ⟨z, hz⟩ := List.exists_mem_of_ne_nil xs h
      have := hp z hz
      have := (maxOf_le h (maxOf xs)).mp (Int.le_refl _) z hz
      omega
    · exact (maxOf_le h (maxOf xs)).mp (Int.le_refl _) y hy
  have h2 : maxOf xs ≤ maxOf (0 :: xs) := (maxOf_le h _).mpr fun y hy => (maxOf_le (by simp) _).mp (Int.le_refl _) y (List.mem_cons_of_mem _ hy)
  omega
theorem measures_f {Z : Sys} {f : Nat} (hf : Z.fns[f]? = some ⟨1, 5, [false, false, false, false, false], b_measures f⟩) {k : Nat} (hk : k ≤ 4) (n : Nat) : ∀ (m : Nat) (d : D), Qy k m d → m ≤ 4 → ∀ dep, m + 1 ≤ dep →
    (callN Z (n + m + 1) f [.v d]).Ok (Pu (measD dep d) 1) := by
  intro m
  induction m using Nat.strongRecOn with
  | _ m ih =>
    intro d hq hm dep hd
    obtain ⟨dep, rfl⟩ : ∃ e, dep = e + 1 := ⟨dep - 1, by omega⟩
    obtain ⟨_, _, _, g0, _⟩ := hq.gd (show (k : Int) ≤ 4 by omega)
    have hw : wQ m ≤ 400000 := by
      have : m = 0 ∨ m = 1 ∨ m = 2 ∨ m = 3 ∨ m = 4 := by omega
      rcases this with rfl | rfl | rfl | rfl | rfl <;> decide
    refine call_pu hf rfl rfl rfl (by intro i hi; rcases i with _ | i <;> first | rfl | omega) ?_
    rcases hq.cases hk with hs | ⟨w, ys, m', rfl, rfl, cj, hne, hy⟩
    · obtain ⟨w, ys, rfl, j, b⟩ := hs.bare hk
      have hin : inL (.str w) [.str [110, 111, 116], .str [97, 110, 100], .str [111, 114]] = false := by
        simp only [joins, Bool.or_eq_false_iff, decide_eq_false_iff_not] at j
        have e : ∀ v : List Nat, w ≠ v → (v == w) = false := fun v hv => by simpa using hv.symm
        simp only [inL, eqD_ss', Bool.or_false, Bool.or_eq_false_iff]
        exact ⟨e _ j.1.1, e _ j.1.2, e _ j.2⟩
      have hl := g0.len
      have hl3 : ys.length ≤ LIM := by simp only [List.length_cons, LIM] at *; omega
      have gx : ∀ x, x ∈ ys → isRef x = false ∧ isiOk x = true := fun x hx => by
        have g1 := (g0.part (List.mem_cons_of_mem _ hx)).okv
        refine ⟨okv_ref g1, ?_⟩
        cases x <;> first | rfl | (simp [okv] at g1; done)
      have L1 := lc_eq (P := Z) (cl := callN Z (n + m)) (r := [.v (.tup (.str w :: ys)), .e, .e, .e, .e]) (i := 3) (w := .seq) (e := .v 3) (es := [.sl (.v 0) (some (.c (.int 1))) none]) (ifs := [.isi (.v 3) [.str]]) (g := fun x => x) (p := isStr) (xs := ys)
        (by simp [cut1]; rfl) rfl rfl rfl (by simp) rfl (fun x hx => ⟨by
          obtain ⟨r1, r2⟩ := gx x hx
          simp [r1, r2]
          cases x <;> simp [isTy, isStr], fun _ => ⟨false, by simp, (gx x hx).1⟩⟩) hl3
      have hsum : ((strsIn ys).map (·.length)).sum ≤ LIM := by
        have h1 := strsCat_len ys
        rw [← strsIn_cat ys, List.length_flatten] at h1
        have h2 : ((strsIn ys).map fun x => x.length).sum ≤ wtL ys := h1
        have := g0.wt
        simp only [wtD, wtL] at this
        simp only [LIM]; omega
      have B' := strsIn_of ys
      have C' := strsIn_cat ys
      simp only [List.map_id'] at L1
      simp [b_measures, hin, L1, B', join_flat, kindN, hsum, measD, sizeN, depthN, lettersN, j, partsD, C', sumI]
      rfl
    · have fk : fkeep Z f 0 = false := by simp [fkeep, hf]
      have c3 := joins_in3 cj
      have hl := g0.len
      have hl3 : ys.length ≤ LIM := by simp only [List.length_cons, LIM] at *; omega
      have ry : ∀ x, x ∈ ys → isRef x = false := fun x hx => (hy x hx).noRef
      have hR : ∀ r x, x ∈ ys → callE Z (callN Z (n + (m' + 1))) f [0] [] [(x, false)] r = .ok (measD dep x, false) r := fun r x hx => by
        have rx := ry x hx
        exact callE_eq hf (sl := [x]) (by intro y hy; simp at hy; subst hy; exact rx) (by simp) (by simp [argSl, argOf_pl rx, List.range_succ, List.findIdx?, List.findIdx?.go]) (ih m' (by omega) x (hy x hx) (by omega) dep (by omega))
      have L1 := lc_map (P := Z) (cl := callN Z (n + (m' + 1))) (r := [.v (.tup (.str w :: ys)), .e, .e, .e, .e]) (i := 2) (w := .seq) (e := .call f [.v 2] [0] []) (es := [.sl (.v 0) (some (.c (.int 1))) none]) (g := fun x => measD dep x) (xs := ys)
        (by simp [cut1]; rfl) rfl rfl rfl (by simp) rfl (fun x hx => ⟨false, by simp [fk, ry x hx, hR _ x hx], rfl⟩) hl3
      have LJ : ∀ (j : Int) (g : D → D), (∀ x, isRef (g x) = false ∧ ixD (measD dep x) (.int j) = some (g x)) → evE Z (callN Z (n + (m' + 1))) (.lc (.ix (.v 4) (.c (.int j))) (.nm 4) .seq [.v 1] [] [4]) [.v (.tup (.str w :: ys)), .v (.lst (ys.map fun x => measD dep x)), .e, .e, .e] =
          .ok (.lst (ys.map g), true) [.v (.tup (.str w :: ys)), .v (.lst (ys.map fun x => measD dep x)), .e, .e, .e] := fun j g hg => by
        have := lc_map (P := Z) (cl := callN Z (n + (m' + 1))) (r := [.v (.tup (.str w :: ys)), .v (.lst (ys.map fun x => measD dep x)), .e, .e, .e]) (i := 4) (w := .seq) (e := .ix (.v 4) (.c (.int j))) (es := [.v 1]) (g := fun d => (ixD d (.int j)).getD .non) (xs := ys.map fun x => measD dep x)
          (by simp; rfl) rfl rfl rfl (by simp) rfl (fun d hd => by
            obtain ⟨x, _, rfl⟩ := List.mem_map.mp hd
            obtain ⟨h1, h2⟩ := hg x
            refine ⟨false, ?_, by rw [h2]; exact h1⟩
            have : isRef (measD dep x) = false := rfl
            simp [this, h2]) (by simpa using hl3)
        rw [this, List.map_map]
        congr 3
        refine List.map_congr_left fun x _ => ?_
        simp [(hg x).2]
      have L2 := LJ 0 (fun x => .int (sizeN dep x)) (fun x => ⟨rfl, by simp [measD]⟩)
      have L3 := LJ 1 (fun x => .int (depthN dep x)) (fun x => ⟨rfl, by simp [measD]⟩)
      have L4 := LJ 2 (fun x => .str (lettersN dep x)) (fun x => ⟨rfl, by simp [measD]⟩)
      have B1 := ints_map (fun x => sizeN dep x) ys
      have B2 := ints_map (fun x => depthN dep x) ys
      have B3 := strs_map (fun x => lettersN dep x) ys
      have M := maxI_some (xs := ys.map fun x => depthN dep x) (by simpa using hne)
      have M0 := maxOf_zero (xs := ys.map fun x => depthN dep x) (by simpa using hne) (fun y hy => by obtain ⟨x, _, rfl⟩ := List.mem_map.mp hy; exact depthN_pos _ _)
      have hfl : (ys.map fun x => (lettersN dep x)).flatten.length ≤ LIM := by
        have := flat_len (f := fun x => lettersN dep x) ys fun y _ => lettersN_len dep y
        have := g0.wt
        simp only [wtD, wtL] at this
        simp only [LIM]; omega
      have hfl2 : (ys.map ((fun x => x.length) ∘ fun x => lettersN dep x)).sum ≤ LIM := by
        rw [List.length_flatten, List.map_map] at hfl
        exact hfl
      have pD : partsD w ys = ys := by simp [partsD, cj]
      simp [b_measures, c3, L1, L2, L3, L4, B1, B2, B3, M, keepL, setSl, isBox, join_flat, kindN, hfl2]
      simp [measD, sizeN, depthN, lettersN, cj, pD]
      exact M0.symm
end Pv
namespace Pv
def b_checkText (ft : Nat) : List MS := [.ife (.not (.call ft [.v 0, .v 1] [0, 1] [(2, .int 60)])) [.raise 0 []] []]
def b_checkQuery (fo : Nat) : List MS := [.ife (.not (.call fo [.v 0, .v 1] [0, 1] [])) [.raise 0 []] []]
structure CN where
  check : Nat
  ctext : Nat
  qof : Nat
  cquery : Nat
structure CF (Z : Sys) (N : QN) (C : CN) : Prop extends QF2 Z N where
  check : Z.fns[C.check]? = some ⟨1, 1, [false], b_check N.within⟩
  ctext : Z.fns[C.ctext]? = some ⟨2, 2, [false, false], b_checkText N.text⟩
  qof : Z.fns[C.qof]? = some ⟨2, 2, [false, false], b_queryOf N.built N.size⟩
  cquery : Z.fns[C.cquery]? = some ⟨2, 2, [false, false], b_checkQuery C.qof⟩
section
variable {Z : Sys} {N : QN} {C : CN} (q : CF Z N C)
include q
theorem CF.fk : fkeep Z C.check 0 = false ∧ fkeep Z C.ctext 0 = false ∧ fkeep Z C.ctext 1 = false ∧ fkeep Z C.qof 0 = false ∧ fkeep Z C.qof 1 = false ∧ fkeep Z C.cquery 0 = false ∧ fkeep Z C.cquery 1 = false := by
  simp [fkeep, q.check, q.ctext, q.qof, q.cquery]
theorem CF.checkE {n : Nat} (hn : 3 ≤ n) {k : Nat} (h1 : 1 ≤ k) (hk : k ≤ 4) (r : Env) : callE Z (callN Z n) C.check [0] [] [(.int k, false)] r = .ok (.non, false) r := by
  obtain ⟨n, rfl⟩ : ∃ e, n = e + 3 := ⟨n - 3, by omega⟩
  exact callE_eq q.check (sl := [.int k]) (by intro y hy; simp at hy; subst hy; rfl) (by simp) (by simp [argSl, List.range_succ, List.findIdx?, List.findIdx?.go]) (check_f q.toQF0 q.check n k h1 hk)
theorem CF.ctextE {n : Nat} (hn : 3 ≤ n) {k : Nat} (hk : k ≤ 4) {s : List Nat} (hs : s.length ≤ 60) (hc : ∀ c, c ∈ s → Lt k c) (r : Env) : callE Z (callN Z n) C.ctext [0, 1] [] [(.int k, false), (.str s, false)] r = .ok (.non, false) r := by
  obtain ⟨n, rfl⟩ : ∃ e, n = e + 3 := ⟨n - 3, by omega⟩
  refine callE_eq q.ctext (sl := [.int k, .str s]) (by intro y hy; simp at hy; rcases hy with rfl | rfl <;> rfl) (by simp) (by simp [argSl, List.range_succ, List.findIdx?, List.findIdx?.go]) (call_nx (n := n + 2) q.ctext rfl rfl (by intro i hi; rcases i with _ | _ | i <;> first | rfl | omega) ?_)
  have fk := q.toQF0.fk
  have e := fun r => q.toQF0.textE (n := n) (r := r) hk (x := .str s) rfl (fun t ht => by cases ht; simp only [LIM]; omega)
  simp [b_checkText, fk, e, textD_str hk hs hc]
theorem CF.qofE {n : Nat} (hn : 14 ≤ n) {k h W : Nat} (hk : k ≤ 4) (hW : W ≤ LIM) (hh : h ≤ DEEP) {d : D} (v : Vl h W d) (r : Env) : callE Z (callN Z n) C.qof [0, 1] [] [(.int k, false), (d, false)] r = .ok (.bl (queryB k d), false) r := by
  obtain ⟨n, rfl⟩ : ∃ e, n = e + 14 := ⟨n - 14, by omega⟩
  have rx := v.ref
  exact callE_eq q.qof (sl := [.int k, d]) (by intro y hy; simp at hy; rcases hy with rfl | rfl <;> first | rfl | exact rx) (by simp) (by simp [argSl, argOf_pl rx, List.range_succ, List.findIdx?, List.findIdx?.go]) (queryOf_f q.toQF2 q.qof hk hW hh d v)
theorem CF.cqueryE {n : Nat} (hn : 15 ≤ n) {k h W : Nat} (hk : k ≤ 4) (hW : W ≤ LIM) (hh : h ≤ DEEP) {d : D} (v : Vl h W d) (hq : queryB k d = true) (r : Env) : callE Z (callN Z n) C.cquery [0, 1] [] [(.int k, false), (d, false)] r = .ok (.non, false) r := by
  obtain ⟨n, rfl⟩ : ∃ e, n = e + 15 := ⟨n - 15, by omega⟩
  have rx := v.ref
  refine callE_eq q.cquery (sl := [.int k, d]) (by intro y hy; simp at hy; rcases hy with rfl | rfl <;> first | rfl | exact rx) (by simp) (by simp [argSl, argOf_pl rx, List.range_succ, List.findIdx?, List.findIdx?.go]) (call_nx (n := n + 14) q.cquery rfl rfl (by intro i hi; rcases i with _ | _ | i <;> first | rfl | omega) ?_)
  have fk := q.fk
  have e := fun r => q.qofE (n := n + 14) (by omega) hk hW hh v r
  simp [b_checkQuery, fk, rx, e, hq]
end
def b_two (fc fq fx : Nat) : List MS := [.expr (.call fc [.v 0] [0] []), .expr (.call fq [.v 0, .v 1] [0, 1] []), .ret (.call fx [.v 1] [0] [])]
/-- a query that passes -/
structure Pass (k : Nat) (d : D) : Prop where
  k1 : 1 ≤ k
  k4 : k ≤ 4
  q : Qy k 4 d
  ok : queryB k d = true
theorem Pass.gd {k : Nat} {d : D} (p : Pass k d) : Gd 5 400000 d := by
  obtain ⟨_, _, _, g, _⟩ := p.q.gd (show (k : Int) ≤ 4 by have := p.k4; omega)
  exact g.mono (by omega) (by decide)
section
variable {Z : Sys} {N : QN} {C : CN} (q : CF Z N C) {n k : Nat} {d : D} (p : Pass k d)
include q p
theorem CF.sizeE {f : Nat} (hf : Z.fns[f]? = some ⟨2, 2, [false, false], b_two C.check C.cquery N.size⟩) (hn : 16 ≤ n) (r : Env) : callE Z (callN Z n) f [0, 1] [] [(.int k, false), (d, false)] r = .ok (.int (sizeN 8 d), false) r ∧ callE Z (callN Z n) f [1, 0] [] [(d, false), (.int k, false)] r = .ok (.int (sizeN 8 d), false) r := by
  obtain ⟨n, rfl⟩ : ∃ e, n = e + 16 := ⟨n - 16, by omega⟩
  have g := p.gd
  have rx := g.ref
  have fk := q.fk
  have fz0 : fkeep Z N.size 0 = false := by simp [fkeep, q.size]
  have hb := p.q.built p.k4 8 (by omega)
  have main : (callN Z (n + 16) f [.v (.int k), .v d]).Ok (Pu (.int (sizeN 8 d)) 2) := by
    refine call_pu hf rfl rfl rfl (by intro i hi; rcases i with _ | _ | i <;> first | rfl | omega) ?_
    have e1 := q.checkE (n := n + 15) (by omega) p.k1 p.k4
    have e2 := q.cqueryE (n := n + 15) (by omega) p.k4 (by decide) (by decide) (.gd g) p.ok
    have e3 := fun r => callE_eq q.size (r := r) (n := n + 15) (ix := [0]) (df := []) (as := [(d, false)]) (sl := [d]) (by intro y hy; simp at hy; subst hy; exact rx) (by simp) (by simp [argSl, argOf_pl rx, List.range_succ, List.findIdx?, List.findIdx?.go]) (size_f (n := n + 6) q.parts q.size (by decide) 8 5 d (by decide) g hb)
    simp [b_two, fk, fz0, rx, e1, e2, e3]
  exact ⟨callE_eq hf (sl := [.int k, d]) (by intro y hy; simp at hy; rcases hy with rfl | rfl <;> first | rfl | exact rx) (by simp) (by simp [argSl, argOf_pl rx, List.range_succ, List.findIdx?, List.findIdx?.go]) main,
    callE_eq hf (sl := [.int k, d]) (by intro y hy; simp at hy; rcases hy with rfl | rfl <;> first | rfl | exact rx) (by simp) (by simp [argSl, argOf_pl rx, List.range_succ, List.findIdx?, List.findIdx?.go]) main⟩
theorem CF.depthE {f fd : Nat} (hd : Z.fns[fd]? = some ⟨1, 2, [false, false], b_depth fd N.parts⟩) (hf : Z.fns[f]? = some ⟨2, 2, [false, false], b_two C.check C.cquery fd⟩) (hn : 16 ≤ n) (r : Env) : callE Z (callN Z n) f [0, 1] [] [(.int k, false), (d, false)] r = .ok (.int (depthN 8 d), false) r ∧ callE Z (callN Z n) f [1, 0] [] [(d, false), (.int k, false)] r = .ok (.int (depthN 8 d), false) r := by
  obtain ⟨n, rfl⟩ : ∃ e, n = e + 16 := ⟨n - 16, by omega⟩
  have g := p.gd
  have rx := g.ref
  have fk := q.fk
  have fz0 : fkeep Z fd 0 = false := by simp [fkeep, hd]
  have hb := p.q.built p.k4 8 (by omega)
  have main : (callN Z (n + 16) f [.v (.int k), .v d]).Ok (Pu (.int (depthN 8 d)) 2) := by
    refine call_pu hf rfl rfl rfl (by intro i hi; rcases i with _ | _ | i <;> first | rfl | omega) ?_
    have e1 := q.checkE (n := n + 15) (by omega) p.k1 p.k4
    have e2 := q.cqueryE (n := n + 15) (by omega) p.k4 (by decide) (by decide) (.gd g) p.ok
    have e3 := fun r => callE_eq hd (r := r) (n := n + 15) (ix := [0]) (df := []) (as := [(d, false)]) (sl := [d]) (by intro y hy; simp at hy; subst hy; exact rx) (by simp) (by simp [argSl, argOf_pl rx, List.range_succ, List.findIdx?, List.findIdx?.go]) (depth_f (n := n + 6) q.parts hd (by decide) 8 5 d (by decide) g hb)
    simp [b_two, fk, fz0, rx, e1, e2, e3]
  exact ⟨callE_eq hf (sl := [.int k, d]) (by intro y hy; simp at hy; rcases hy with rfl | rfl <;> first | rfl | exact rx) (by simp) (by simp [argSl, argOf_pl rx, List.range_succ, List.findIdx?, List.findIdx?.go]) main,
    callE_eq hf (sl := [.int k, d]) (by intro y hy; simp at hy; rcases hy with rfl | rfl <;> first | rfl | exact rx) (by simp) (by simp [argSl, argOf_pl rx, List.range_succ, List.findIdx?, List.findIdx?.go]) main⟩
end
/-- the letters of the first k that stand in s -/
def namedL (k : Nat) (s : List Nat) : List Nat := (lets k).filter fun c => decide (c ∈ s)
def b_named (fc fq fl fL : Nat) : List MS := [.expr (.call fc [.v 0] [0] []), .expr (.call fq [.v 0, .v 1] [0, 1] []), .set 2 (.call fl [.v 1] [0] []), .ret (.lc (.v 3) (.nm 3) (.seq) [.call fL [.v 0] [0] []] [.cmp (.isin) (.v 3) (.v 2)] [3])]
theorem filter_chars {p : D → Bool} {q : Nat → Bool} (h : ∀ c, p (.str [c]) = q c) : ∀ s : List Nat, (chars s).filter p = chars (s.filter q)
  | [] => rfl
  | c :: s => by
    have ih := filter_chars h s
    have e : chars (c :: s) = .str [c] :: chars s := rfl
    rw [e]
    by_cases hc : q c = true
    · rw [List.filter_cons_of_pos (by rw [h]; exact hc), List.filter_cons_of_pos hc, ih]; rfl
    · rw [List.filter_cons_of_neg (by rw [h]; exact hc), List.filter_cons_of_neg hc, ih]
theorem lets_len (k : Nat) : (lets k).length ≤ 4 := by unfold lets; simp; omega
theorem CF.namedE {Z : Sys} {N : QN} {C : CN} (q : CF Z N C) (hm : InMem Z) {n k : Nat} {d : D} (p : Pass k d) {f fl : Nat} (hl : Z.fns[fl]? = some ⟨1, 2, [false, false], b_lettersIn fl⟩) (hf : Z.fns[f]? = some ⟨2, 4, [false, false, false, false], b_named C.check C.cquery fl N.letters⟩) (hn : 16 ≤ n) (r : Env) :
    callE Z (callN Z n) f [0, 1] [] [(.int k, false), (d, false)] r = .ok (.lst (chars (namedL k (lettersN 8 d))), true) r ∧ callE Z (callN Z n) f [1, 0] [] [(d, false), (.int k, false)] r = .ok (.lst (chars (namedL k (lettersN 8 d))), true) r := by
  obtain ⟨n, rfl⟩ : ∃ e, n = e + 16 := ⟨n - 16, by omega⟩
  have g := p.gd
  have rx := g.ref
  have fk := q.fk
  have fk2 : fkeep Z fl 0 = false ∧ fkeep Z N.letters 0 = false := by simp [fkeep, hl, q.letters]
  have main : (callN Z (n + 16) f [.v (.int k), .v d]).Ok fun e fr o => e = .lst (chars (namedL k (lettersN 8 d))) ∧ fr = true ∧ o = List.replicate 2 .e := by
    refine call_of hf rfl rfl ?_
    show (exB Z (callN Z (n + 15)) (keepL 2 [false, false, false, false]) (b_named C.check C.cquery fl N.letters) [.v (.int k), .v d, .e, .e]).Ok _
    have e1 := q.checkE (n := n + 15) (by omega) p.k1 p.k4
    have e2 := q.cqueryE (n := n + 15) (by omega) p.k4 (by decide) (by decide) (.gd g) p.ok
    have e3 := fun r => callE_eq hl (r := r) (n := n + 15) (ix := [0]) (df := []) (as := [(d, false)]) (sl := [d]) (by intro y hy; simp at hy; subst hy; exact rx) (by simp) (by simp [argSl, argOf_pl rx, List.range_succ, List.findIdx?, List.findIdx?.go]) (lettersIn_f hl p.k4 (n + 10) 4 d p.q (by omega) 8 (by omega))
    have e4 := fun r => callE_eqF (m := 1) q.letters (r := r) (n := n + 15) (ix := [0]) (df := []) (as := [(.int k, false)]) (sl := [.int k]) (by intro y hy; simp at hy; subst hy; rfl) (by simp) (by simp [argSl, List.range_succ, List.findIdx?, List.findIdx?.go]) (lettersOf_f q.letters (n + 14) k p.k4) rfl
    have L1 := lc_eq (P := Z) (cl := callN Z (n + 15)) (r := [.v (.int k), .v d, .v (.str (lettersN 8 d)), .e]) (i := 3) (w := .seq) (e := .v 3) (es := [.call N.letters [.v 0] [0] []]) (ifs := [.cmp (.isin) (.v 3) (.v 2)]) (g := fun x => x) (p := fun x => match x with | .str [c] => decide (c ∈ lettersN 8 d) | _ => false) (xs := chars (lets k))
      (by simp [fk2, e4]; rfl) rfl rfl rfl (by simp) rfl (fun x hx => by
        obtain ⟨c, _, rfl⟩ := List.mem_map.mp hx
        exact ⟨by by_cases h : c ∈ lettersN 8 d <;> simp [hm c, h], fun _ => ⟨false, by simp, rfl⟩⟩) (by have := lets_len k; simp only [chars, List.length_map, LIM]; omega)
    rw [filter_chars (q := fun c => decide (c ∈ lettersN 8 d)) (fun c => rfl), List.map_id'] at L1
    simp [b_named, fk, fk2, rx, e1, e2, e3, keepL, setSl, isBox, L1]
    exact fin_fr rfl rfl ⟨rfl, rfl, rfl⟩
  exact ⟨callE_eqF (m := 2) hf (sl := [.int k, d]) (by intro y hy; simp at hy; rcases hy with rfl | rfl <;> first | rfl | exact rx) (by simp) (by simp [argSl, argOf_pl rx, List.range_succ, List.findIdx?, List.findIdx?.go]) main rfl,
    callE_eqF (m := 2) hf (sl := [.int k, d]) (by intro y hy; simp at hy; rcases hy with rfl | rfl <;> first | rfl | exact rx) (by simp) (by simp [argSl, argOf_pl rx, List.range_succ, List.findIdx?, List.findIdx?.go]) main rfl⟩
end Pv
namespace Pv
def bentT (fp : Nat) : List MS := [.set 4 (.lst [.bin (.add) (.bin (.add) (.sl (.v 1) none (some (.v 2))) (.tup [.v 3])) (.sl (.v 1) (some (.v 2)) none), .bin (.add) (.bin (.add) (.sl (.v 1) none (some (.v 2))) (.tup [.v 3])) (.sl (.v 1) (some (.bin (.add) (.v 2) (.c (.int 1)))) none), .bin (.add) (.sl (.v 1) none (some (.v 2))) (.sl (.v 1) (some (.bin (.add) (.v 2) (.c (.int 1)))) none), .bi (.list) [.v 1], .sl (.v 1) (some (.c (.int 1))) none, .bin (.add) (.v 1) (.sl (.v 1) (some (.c (.int 1))) none)]), .set 5 (.call fp [.v 0, .lst [.c (.str [97, 108, 108]), .c (.str [110, 111, 110, 101]), .c (.str [119, 111, 114, 100]), .c (.str [114, 111, 119]), .c (.str [110, 101, 97, 114]), .c (.str [97, 104, 101, 97, 100]), .c (.str [102, 105, 114, 115, 116]), .c (.str [108, 97, 115, 116]), .c (.str [111, 102, 116, 101, 110]), .c (.str [108, 111, 110, 103]), .c (.str [114, 101, 115, 116]), .c (.str [110, 111, 116]), .c (.str [97, 110, 100]), .c (.str [111, 114]), .c (.str [65, 108, 108]), .c (.str [115, 111, 109, 101]), .c (.str [])]] [0, 1] []), .ret (.call fp [.v 0, .bin (.add) (.v 4) (.lst [.bin (.add) (.tup [.v 5]) (.sl (.v 1) (some (.c (.int 1))) none), .tup [.v 1], .tup [.c (.str [110, 111, 116]), .v 1], .tup [.c (.str [97, 110, 100]), .v 1], .tup [.c (.str [111, 114]), .v 1, .v 1], .bin (.add) (.tup [.c (.str [97, 110, 100])]) (.bin (.mul) (.tup [.v 1]) (.c (.int 7)))])] [0, 1] [])]
def b_bent (f fd fp : Nat) : List MS := [.par [2, 3] [.call fd [.v 0, .bin (.add) (.bi (.len) [.v 1]) (.c (.int 1))] [0, 1] [], .call fp [.v 0, .lst [.c (.non), .c (.bl true), .c (.bl false), .neg (.c (.int 1)), .c (.int 0), .c (.int 1), .c (.int 7), .c (.int 10), .c (.str [101]), .c (.str [97, 98]), .c (.str []), .c (.str [97]), .tup [.c (.str [97, 108, 108])], .lst [], .tup [], .lst [.c (.str [97, 108, 108])], .bin (.pow) (.c (.int 10)) (.c (.int 20))]] [0, 1] []], .ife (.and [.cmp (.isin) (.ix (.v 1) (.c (.int 0))) (.lst [.c (.str [110, 111, 116]), .c (.str [97, 110, 100]), .c (.str [111, 114])]), .cmp2 (.lt) (.lt) (.c (.int 0)) (.v 2) (.bi (.len) [.v 1]), .cmp (.gt) (.call fd [.v 0, .c (.int 3)] [0, 1] []) (.c (.int 0))]) [.ret (.bin (.add) (.bin (.add) (.sl (.v 1) none (some (.v 2))) (.tup [.call f [.v 0, .ix (.v 1) (.v 2)] [0, 1] []])) (.sl (.v 1) (some (.bin (.add) (.v 2) (.c (.int 1)))) none))] []] ++ bentT fp
def gBent (f fd fp : Nat) : Fn := ⟨2, 6, [true, false, false, false, false, false], b_bent f fd fp⟩
/-- what bent hands back of q -/
def BtP (m w : Nat) : D → Bool → Prop := fun d fr => fr = false ∧ Gd (m + 2) (8 * w + 3000) d
theorem callPickN {Z : Sys} {f fd : Nat} (hd : DrawF Z fd) (hf : Z.fns[f]? = some (gPick fd)) {N : Nat} (hN : 2 ≤ N) {a b : Int} {xs : List D} {r : Env} {Q : D × Bool → Env → Prop} {j : Nat} (hr : r[j]? = some (pt a b)) (h : PotOk a b) (h1 : xs ≠ []) (h2 : xs.length < 1073741824) (hx : ∀ x, x ∈ xs → isRef x = false)
    (q : ∀ d a' b', d ∈ xs → PotOk a' b' → Q (d, false) (r.set j (pt a' b'))) :
    (callE Z (callN Z N) f [0, 1] [] [(.ref j, false), (.lst xs, false)] r).Ok Q := by
  obtain ⟨n, rfl⟩ : ∃ n, N = n + 2 := ⟨N - 2, by omega⟩
  exact callPick hd hf hr h h1 h2 hx q
theorem ati_split {x : D} {xs : List D} {i : Int} (h : 0 < i) (h2 : i < xs.length + 1) : ∃ c, ati (x :: xs) i = some c ∧ c ∈ xs ∧ x :: xs = (x :: xs).take i.toNat ++ c :: (x :: xs).drop (i + 1).toNat := by
  obtain ⟨j, hj⟩ : ∃ j : Nat, i = j + 1 := ⟨(i - 1).toNat, by omega⟩
  have hl : j < xs.length := by omega
  refine ⟨xs[j], ?_, List.getElem_mem _, ?_⟩
  · have e : i.toNat = j + 1 := by omega
    have e2 : i < ((x :: xs).length : Int) := by simp; omega
    simp [ati, ixn, show 0 ≤ i by omega, show i < (xs.length : Int) + 1 by omega, e, hl]
  · have e : i.toNat = j + 1 := by omega
    have e2 : (i + 1).toNat = j + 2 := by omega
    rw [e, e2]
    simp
theorem moved_pot {d : D} (h : isRef d = false) {i j k : Nat} {b c : Bool} : moved [i, k] [(.ref j, b), (d, c)] = [(i, j)] := by
  cases d <;> first | rfl | cases h
theorem bent_f {Z : Sys} {f fd fp : Nat} (hd : DrawF Z fd) (hp : Z.fns[fp]? = some (gPick fd)) (hf : Z.fns[f]? = some (gBent f fd fp)) {k : Int} (hk : k ≤ 4) (n : Nat) :
    ∀ (m : Nat) (a b : Int) (q : D), PotOk a b → Qy k m q → m ≤ 3 → (callN Z (n + m + 3) f [pt a b, .v q]).Ok (Dr (BtP m (wtD q)) 1) := by
  intro m
  have e0 := fk_draw hd
  have e1 : fkeep Z fp 0 = true ∧ fkeep Z fp 1 = false := by simp [fkeep, hp, gPick]
  have e2 : fkeep Z f 0 = true ∧ fkeep Z f 1 = false := by simp [fkeep, hf, gBent]
  induction m using Nat.strongRecOn with
  | _ m ih =>
    intro a b q h hq hm
    obtain ⟨w, ys, rfl, g, sub⟩ := hq.gd hk
    refine call_of hf rfl rfl ?_
    simp only [gBent, keepK_eq]
    have hw : wQ m ≤ 120000 := by
      have : m = 0 ∨ m = 1 ∨ m = 2 ∨ m = 3 := by omega
      rcases this with rfl | rfl | rfl | rfl <;> decide
    have hlen : 2 * (ys.length + 1) ≤ 120000 := by have := g.len; simp at this; omega
    have gy := fun x hx => g.part (x := x) hx
    have ry : ∀ x, x ∈ ys → isRef x = false := fun x hx => (gy x (List.mem_cons_of_mem _ hx)).ref
    have pw : op2 .pow (.int 10) (.int 20) = some (.int 100000000000000000000, false) := by rfl
    have T : ∀ (a b : Int) (i : Int) (od : D), PotOk a b → 0 ≤ i → i < ys.length + 2 → Gd 1 2000 od → (exB Z (callN Z (n + m + 2)) (keepL 2 [true, false, false, false, false, false]) (bentT fp) [pt a b, .v (.tup (.str w :: ys)), .v (.int i), .v od, .e, .e]).Ok (fin (gBent f fd fp) (Dr (BtP m (wtD (.tup (.str w :: ys)))) 1)) := by
      intro a b i od hp0 l0 u0 god
      have rod := god.ref
      have G := g.list
      have W0 : wtL (D.str w :: ys) + 3 = wtD (.tup (.str w :: ys)) := rfl
      have hWT : wtD (.tup (.str w :: ys)) ≤ 120000 := Nat.le_trans g.wt hw
      generalize hWe : wtD (.tup (.str w :: ys)) = W at *
      have G' : GL m W (D.str w :: ys) := ⟨G.pl, G.lf, by omega⟩
      have GA := (G'.take i.toNat)
      have GB := (G'.drop i.toNat)
      have GC := (G'.drop (i + 1).toNat)
      have lA := GA.len
      have lB := GB.len
      have lC := GC.len
      have GY : GL m W ys := G'.drop 1
      have lY := GY.len
      have god' : Gd (m + 1) 2000 od := god.mono (by omega) (by omega)
      have up : ∀ {w' : Nat} {xs : List D}, GL m w' xs → GL (m + 1) w' xs := fun g => g.mono (by omega) (Nat.le_refl _)
      have gq : Gd (m + 1) W (.tup (.str w :: ys)) := ⟨g.pl, g.lf, by omega⟩
      simp [bentT, pt, e0, e1, e2, keepL, setSl, isBox, rod, cut_to _ l0, cut_from _ l0, cut_from _ (show 0 ≤ i + 1 by omega), cut1]
      refine ⟨by simp only [LIM]; simp only [List.length_take, List.length_drop, List.length_cons] at *; omega, by simp only [LIM]; simp only [List.length_take, List.length_drop, List.length_cons] at *; omega, by simp only [LIM]; simp only [List.length_take, List.length_drop, List.length_cons] at *; omega, by simp only [LIM]; simp only [List.length_take, List.length_drop, List.length_cons] at *; omega, by simp only [LIM]; simp only [List.length_take, List.length_drop, List.length_cons] at *; omega, by simp only [LIM]; omega, ?_⟩
      refine callPickN hd hp (by omega) (j := 0) rfl hp0 (by simp) (by simp) (by simp) fun wd a3 b3 m3 p3 => ?_
      have gwd : Gd (m + 1) 100 wd ∧ isRef wd = false := by
        simp only [List.mem_cons, List.not_mem_nil, or_false] at m3
        rcases m3 with rfl | rfl | rfl | rfl | rfl | rfl | rfl | rfl | rfl | rfl | rfl | rfl | rfl | rfl | rfl | rfl | rfl <;>
          exact ⟨⟨plain_str _ _, by decide, by decide⟩, rfl⟩
      simp [pt, e0, e1, e2, keepL, setSl, isBox, gwd.2, cut1]
      refine ⟨by simp only [LIM]; omega, by decide, by decide, ?_⟩
      have gn : Gd (m + 1) 40 (.str [110, 111, 116]) := ⟨plain_str _ _, by decide, by decide⟩
      have ga : Gd (m + 1) 40 (.str [97, 110, 100]) := ⟨plain_str _ _, by decide, by decide⟩
      have go : Gd (m + 1) 40 (.str [111, 114]) := ⟨plain_str _ _, by decide, by decide⟩
      have GD : ∀ x, x ∈ [D.tup (List.take i.toNat (D.str w :: ys) ++ od :: List.drop i.toNat (D.str w :: ys)), D.tup (List.take i.toNat (D.str w :: ys) ++ od :: List.drop (i + 1).toNat (D.str w :: ys)), D.tup (List.take i.toNat (D.str w :: ys) ++ List.drop (i + 1).toNat (D.str w :: ys)), D.lst (D.str w :: ys), D.tup ys, D.tup (D.str w :: (ys ++ ys)), D.tup (wd :: ys), D.tup [D.tup (D.str w :: ys)], D.tup [D.str [110, 111, 116], D.tup (D.str w :: ys)], D.tup [D.str [97, 110, 100], D.tup (D.str w :: ys)], D.tup [D.str [111, 114], D.tup (D.str w :: ys), D.tup (D.str w :: ys)], D.tup [D.str [97, 110, 100], D.tup (D.str w :: ys), D.tup (D.str w :: ys), D.tup (D.str w :: ys), D.tup (D.str w :: ys), D.tup (D.str w :: ys), D.tup (D.str w :: ys), D.tup (D.str w :: ys)]] → Gd (m + 2) (8 * W + 3000) x := by
        intro x hx
        simp only [List.mem_cons, List.not_mem_nil, or_false] at hx
        rcases hx with rfl | rfl | rfl | rfl | rfl | rfl | rfl | rfl | rfl | rfl | rfl | rfl
        · exact ((up GA).app (GL.cons god' (up GB))).tup.mono (Nat.le_refl _) (by omega)
        · exact ((up GA).app (GL.cons god' (up GC))).tup.mono (Nat.le_refl _) (by omega)
        · exact ((up GA).app (up GC)).tup.mono (Nat.le_refl _) (by omega)
        · exact (up G').lst.mono (Nat.le_refl _) (by omega)
        · exact (up GY).tup.mono (Nat.le_refl _) (by omega)
        · exact ((up G').app (up GY)).tup.mono (Nat.le_refl _) (by omega)
        · exact (GL.cons gwd.1 (up GY)).tup.mono (Nat.le_refl _) (by omega)
        · exact (GL.cons gq .nil).tup.mono (Nat.le_refl _) (by omega)
        · exact (GL.cons gn (GL.cons gq .nil)).tup.mono (Nat.le_refl _) (by omega)
        · exact (GL.cons ga (GL.cons gq .nil)).tup.mono (Nat.le_refl _) (by omega)
        · exact (GL.cons go (GL.cons gq (GL.cons gq .nil))).tup.mono (Nat.le_refl _) (by omega)
        · exact (GL.cons ga (GL.cons gq (GL.cons gq (GL.cons gq (GL.cons gq (GL.cons gq (GL.cons gq (GL.cons gq .nil)))))))).tup.mono (Nat.le_refl _) (by omega)
      refine callPickN hd hp (by omega) (j := 0) rfl p3 (by simp) (by simp) (fun x hx => (GD x hx).ref) fun v a4 b4 m4 p4 => ?_
      have gv := GD v m4
      exact fin_pot gv.ref ⟨rfl, gv⟩ p4 (by simp [outs, gBent, List.range_succ, pt])
    have cwb : inL (.str w) [.str [110, 111, 116], .str [97, 110, 100], .str [111, 114]] = joins w := by
      simp only [inL, eqD_ss, joins, wNot, wAnd, wOr, Bool.or_false]
      have e : ∀ v : List Nat, (v == w) = decide (w = v) := fun v => by
        by_cases c : v = w
        · subst c; simp
        · have c' : ¬ w = v := fun z => c z.symm
          simp [c, c']
      rw [e, e, e, Bool.or_assoc]
      rfl
    simp [b_bent, pt, e0, e1, e2, keepL]
    refine callDrawN hd (by omega) (j := 0) rfl h (by omega) (by omega) fun i a1 b1 l1 u1 p1 => ?_
    simp [pt, e0, e1, e2, keepL, pw, setAll, setSl, isBox]
    refine callPickN hd hp (by omega) (j := 0) rfl p1 (by simp) (by simp) (by simp) fun od a2 b2 m2 p2 => ?_
    have god : Gd 1 2000 od := by
      simp only [List.mem_cons, List.not_mem_nil, or_false] at m2
      rcases m2 with rfl | rfl | rfl | rfl | rfl | rfl | rfl | rfl | rfl | rfl | rfl | rfl | rfl | rfl | rfl | rfl | rfl <;>
        first | exact ⟨rfl, leaf_int (by decide), by decide⟩ | exact ⟨by decide, by decide, by decide⟩
    have rod := god.ref
    simp [pt, e0, e1, e2, keepL, pw, setAll, setSl, isBox, rod, cwb]
    by_cases cj : joins w = true
    · by_cases c1 : 0 < i
      · by_cases c2 : i < ys.length + 1
        · simp [cj, c1, c2]
          refine callDrawN hd (by omega) (j := 0) rfl p2 (by omega) (by omega) fun i3 a3 b3 l3 u3 p3 => ?_
          by_cases c3 : 0 < i3
          · obtain ⟨c, ec, hc, dec⟩ := ati_split (x := .str w) (xs := ys) c1 c2
            obtain ⟨m', rfl, hq'⟩ := sub cj
            have qc := hq' c hc
            have rc := qc.noRef
            have hm' : min i.toNat (ys.length + 1) + 1 ≤ LIM := by simp only [LIM]; omega
            simp [pt, c3, cut_to _ l1, cut_from _ (show 0 ≤ i + 1 by omega), ec, rc, e2]
            refine callPot (ds := [c]) hf (j := 0) rfl rfl (by unfold callOk; rw [moved_pot rc]; rfl) (moved_pot rc) ?_ (ih m' (by omega) a3 b3 c p3 qc (by omega)) ?_
            · simp [argSl, gBent, fkeep, argOf, hf, List.range_succ, List.findIdx?, List.findIdx?.go, pt]
              cases c <;> first | rfl | cases rc
            · rintro d fr a4 b4 ⟨rfl, gd⟩ rd p4
              have G := g.list
              have W0 : wtL (D.str w :: ys) + 3 = wtD (.tup (.str w :: ys)) := rfl
              have hWT : wtD (.tup (.str w :: ys)) ≤ 120000 := Nat.le_trans g.wt hw
              have W1 := congrArg wtL dec
              rw [wtL_app] at W1
              simp only [wtL] at W1
              simp only [wtL] at W0
              have G' : GL (m' + 1) (wQ (m' + 1) - 3) (D.str w :: ys) := ⟨G.pl, G.lf, by have := g.wt; simp only [wtD] at this; exact Nat.le_sub_of_add_le this⟩
              have lA := wtL_len ((D.str w :: ys).take i.toNat)
              have lC := wtL_len ((D.str w :: ys).drop (i + 1).toNat)
              have hm2 : ((D.str w :: ys).take i.toNat).length + 1 + ((D.str w :: ys).drop (i + 1).toNat).length ≤ LIM := by
                simp only [LIM, List.length_take, List.length_drop, List.length_cons] at *; omega
              have GR : Gd (m' + 1 + 2) (8 * wtD (.tup (.str w :: ys)) + 3000) (.tup ((D.str w :: ys).take i.toNat ++ d :: (D.str w :: ys).drop (i + 1).toNat)) := by
                have g1 := (G'.take i.toNat)
                have g2 := (G'.drop (i + 1).toNat)
                have h1 : GL (m' + 2) (wtL ((D.str w :: ys).take i.toNat)) ((D.str w :: ys).take i.toNat) := ⟨fun x hx => plain_mono (by omega) (g1.pl x hx), g1.lf, Nat.le_refl _⟩
                have h2 : GL (m' + 2) (wtL ((D.str w :: ys).drop (i + 1).toNat)) ((D.str w :: ys).drop (i + 1).toNat) := ⟨fun x hx => plain_mono (by omega) (g2.pl x hx), g2.lf, Nat.le_refl _⟩
                exact (h1.app (GL.cons gd h2)).tup.mono (Nat.le_refl _) (by omega)
              simp [rd, pt, hm', cut_from _ (show 0 ≤ i + 1 by omega), hm2]
              refine ⟨by simpa using hm2, ?_⟩
              exact fin_pot rfl ⟨rfl, GR⟩ p4 (by simp [outs, List.range_succ, pt])
          · simp [pt, c3]
            exact T a3 b3 i od p3 l1 (by omega) god
        · simp [cj, c1, c2]
          exact T a2 b2 i od p2 l1 (by omega) god
      · simp [cj, c1]
        exact T a2 b2 i od p2 l1 (by omega) god
    · simp [cj]
      exact T a2 b2 i od p2 l1 (by omega) god
end Pv
namespace Pv
def b_great (fs fd fp : Nat) : List MS := [.set 2 (.call fs [.v 0, .v 1] [0, 1] []), .for (.nm 3) (.range) [.call fd [.v 0, .c (.int 9)] [0, 1] []] [.set 2 (.call fp [.v 0, .lst [.tup [.c (.str [110, 111, 116]), .v 2], .tup [.c (.str [97, 110, 100]), .v 2, .tup [.c (.str [97, 108, 108])]], .tup [.c (.str [111, 114]), .tup [.c (.str [110, 111, 110, 101])], .v 2, .v 2], .tup [.c (.str [110, 111, 116]), .v 2]]] [0, 1] [])], .ret (.v 2)]
def gGreat (fs fd fp : Nat) : Fn := ⟨2, 4, [true, false, false, false], b_great fs fd fp⟩
def GtP : D → Bool → Prop := fun d fr => fr = false ∧ Gd 10 1100800 d
theorem great_f {Z : Sys} {f fd fp fs n0 : Nat} (hd : DrawF Z fd) (hp : Z.fns[fp]? = some (gPick fd)) (hs : SingleF Z fs n0) (hf : Z.fns[f]? = some (gGreat fs fd fp)) {k : Int} (hk1 : 0 < k) (hk : k ≤ 4) (n : Nat) (a b : Int) (h : PotOk a b) :
    (callN Z (n + n0 + 3) f [pt a b, .v (.int k)]).Ok (Dr GtP 1) := by
  have e0 := fk_draw hd
  have e1 : fkeep Z fp 0 = true ∧ fkeep Z fp 1 = false := by simp [fkeep, hp, gPick]
  have e2 : fkeep Z fs 0 = true ∧ fkeep Z fs 1 = false := by
    obtain ⟨F, hF, hn, hk, hc⟩ := hs
    cases hh : F.keep with
    | nil => rw [hh] at hk; cases hk
    | cons x xs => cases xs with
      | nil => rw [hh] at hk; cases hk
      | cons y ys => rw [hh] at hk; simp at hk; simp [fkeep, hF, hh, hk]
  refine call_of hf rfl rfl ?_
  show (exB Z (callN Z (n + n0 + 2)) (keepL 2 [true, false, false, false]) (b_great fs fd fp) _).Ok _
  simp [gGreat, b_great, pt, e0, e1, e2, keepL]
  refine callSingleN hs (by omega) (j := 0) rfl h hk1 hk fun d0 a1 b1 g p1 => ?_
  have r0 := g.noRef
  simp [setSl, isBox, r0, e0, pt]
  refine callDrawN hd (by omega) (j := 0) rfl p1 (by omega) (by omega) fun i a2 b2 l2 u2 p2 => ?_
  have hr := rngOk_of l2 (by omega)
  obtain ⟨_, _, _, _, g0⟩ := g.gd hk
  simp [pt, hr, tgIx, keepL]
  refine hk_of (forI_inv (fun j r => ∃ a b d s, r = [pt a b, .v (.int k), .v d, s] ∧ PotOk a b ∧ (s = .e ∨ ∃ u, s = .v u) ∧ Gd (1 + j) (2 ^ j * 4300 - 200) d) _ 0 _ ?_ ⟨a2, b2, d0, .e, rfl, p2, .inl rfl, g0.mono (by omega) (by omega)⟩) ?_
  · rintro x _ j r ⟨a, b, d, s, rfl, hp0, hs0, gd⟩
    have rd := gd.ref
    refine ⟨[pt a b, .v (.int k), .v d, .v x], by rcases hs0 with rfl | ⟨u, rfl⟩ <;> simp [bindT, putV, pt], ?_⟩
    simp [pt, e0, e1, rd, setSl]
    have pw : 1 ≤ 2 ^ j := Nat.one_le_two_pow
    have pw2 : 2 ^ (j + 1) = 2 * 2 ^ j := by rw [Nat.pow_succ]; omega
    have gn : ∀ h, Gd h 40 (.str [110, 111, 116]) := fun h => ⟨plain_str _ _, by decide, by decide⟩
    have ga : ∀ h, Gd h 40 (.str [97, 110, 100]) := fun h => ⟨plain_str _ _, by decide, by decide⟩
    have go : ∀ h, Gd h 40 (.str [111, 114]) := fun h => ⟨plain_str _ _, by decide, by decide⟩
    have gal : Gd (1 + j) 50 (.tup [.str [97, 108, 108]]) := Gd.mono (h := 1) ⟨rfl, by decide, by decide⟩ (by omega) (Nat.le_refl _)
    have gno : Gd (1 + j) 60 (.tup [.str [110, 111, 110, 101]]) := Gd.mono (h := 1) ⟨rfl, by decide, by decide⟩ (by omega) (Nat.le_refl _)
    have GD : ∀ x, x ∈ [D.tup [D.str [110, 111, 116], d], D.tup [D.str [97, 110, 100], d, D.tup [D.str [97, 108, 108]]], D.tup [D.str [111, 114], D.tup [D.str [110, 111, 110, 101]], d, d], D.tup [D.str [110, 111, 116], d]] → Gd (1 + (j + 1)) (2 ^ (j + 1) * 4300 - 200) x := by
      intro x hx
      simp only [List.mem_cons, List.not_mem_nil, or_false] at hx
      rw [pw2]
      rcases hx with rfl | rfl | rfl | rfl
      · exact (GL.cons (gn _) (GL.cons gd .nil)).tup.mono (by omega) (by omega)
      · exact (GL.cons (ga _) (GL.cons gd (GL.cons gal .nil))).tup.mono (by omega) (by omega)
      · exact (GL.cons (go _) (GL.cons gno (GL.cons gd (GL.cons gd .nil)))).tup.mono (by omega) (by omega)
      · exact (GL.cons (gn _) (GL.cons gd .nil)).tup.mono (by omega) (by omega)
    refine callPickN hd hp (by omega) (j := 0) rfl hp0 (by simp) (by simp) (fun x hx => (GD x hx).ref) fun v a4 b4 m4 p4 => ?_
    have gv := GD v m4
    simp [pt, gv.ref, keepL]
    exact ⟨a4, b4, v, .v x, ⟨⟨rfl, rfl⟩, rfl, rfl⟩, p4, .inr ⟨x, rfl⟩, gv⟩
  · rintro f r ⟨rfl, a, b, d, s, rfl, hp0, hs0, gd⟩
    rw [ranged_len l2] at gd
    have hi : i.toNat ≤ 8 := by omega
    have pw : 2 ^ (0 + i.toNat) ≤ 2 ^ 8 := Nat.pow_le_pow_right (by omega) (by omega)
    have gd' : Gd 10 1100800 d := gd.mono (by omega) (by omega)
    simp [pt]
    exact fin_pot gd.ref ⟨rfl, gd'⟩ hp0 (by simp [outs, List.range_succ, pt])
end Pv
namespace Pv
def b_values (fq fb fg fd fp : Nat) : List MS := [.set 2 (.call fq [.v 0, .v 1, .c (.int 4)] [0, 1, 2] []), .set 3 (.bin (.add) (.bin (.add) (.lst [.v 2]) (.lc (.call fb [.v 0, .v 2] [0, 1] []) (.nm 6) (.range) [.c (.int 20)] [] [6])) (.lc (.call fg [.v 0, .v 1] [0, 1] []) (.nm 6) (.range) [.c (.int 5)] [] [6])), .set 4 (.bin (.mul) (.ix (.sl (.c (.str [97, 98, 99, 100])) none (some (.v 1))) (.call fd [.v 0, .v 1] [0, 1] [])) (.call fp [.v 0, .lst [.c (.int 1), .c (.int 59), .c (.int 60), .c (.int 61)]] [0, 1] [])), .expr (.mu (.extend) 3 [.lst [.tup [.c (.str [114, 111, 119]), .v 4], .tup [.c (.str [102, 105, 114, 115, 116]), .v 4], .tup [.c (.str [108, 97, 115, 116]), .v 4], .tup [.c (.str [119, 111, 114, 100]), .v 4], .tup [.c (.str [114, 111, 119]), .bi (.list) [.sl (.v 4) none (some (.c (.int 3)))]], .tup [.c (.str [114, 111, 119]), .bi (.tuple) [.sl (.v 4) none (some (.c (.int 3)))]], .tup [.c (.str [114, 111, 119]), .c (.str [])]]]), .expr (.mu (.extend) 3 [.lst [.tup [.c (.str [110, 101, 97, 114]), .c (.str [97]), .c (.str [97]), .bin (.sub) (.call fd [.v 0, .c (.int 8)] [0, 1] []) (.c (.int 1))], .tup [.c (.str [111, 102, 116, 101, 110]), .c (.str [97]), .bin (.sub) (.call fd [.v 0, .c (.int 9)] [0, 1] []) (.c (.int 1))], .tup [.c (.str [108, 111, 110, 103]), .bin (.sub) (.call fd [.v 0, .c (.int 12)] [0, 1] []) (.c (.int 1))]]]), .expr (.mu (.extend) 3 [.lst [.tup [.c (.str [114, 101, 115, 116]), .c (.str [97]), .call fd [.v 0, .c (.int 6)] [0, 1] [], .bin (.sub) (.call fd [.v 0, .c (.int 6)] [0, 1] []) (.c (.int 1))], .tup [.c (.str [114, 101, 115, 116]), .c (.str [97]), .c (.int 2), .c (.bl true)], .tup [.c (.str [108, 111, 110, 103]), .c (.bl true)], .tup [.c (.str [111, 102, 116, 101, 110]), .c (.str [97]), .c (.bl false)]]]), .set 5 (.bin (.mul) (.tup [.tup [.c (.str [97, 108, 108])]]) (.bin (.add) (.c (.int 5)) (.call fd [.v 0, .c (.int 3)] [0, 1] []))), .expr (.mu (.extend) 3 [.lst [.bin (.add) (.tup [.c (.str [97, 110, 100])]) (.v 5), .bin (.add) (.tup [.c (.str [111, 114])]) (.bin (.mul) (.tup [.bin (.add) (.tup [.c (.str [97, 110, 100])]) (.sl (.v 5) none (some (.c (.int 6))))]) (.bin (.add) (.c (.int 4)) (.call fd [.v 0, .c (.int 4)] [0, 1] []))), .bin (.add) (.bin (.add) (.tup [.c (.str [97, 110, 100])]) (.bin (.mul) (.tup [.bin (.add) (.tup [.c (.str [111, 114])]) (.sl (.v 5) none (some (.c (.int 6))))]) (.c (.int 5)))) (.bin (.mul) (.tup [.tup [.c (.str [97, 108, 108])]]) (.call fd [.v 0, .c (.int 2)] [0, 1] []))]]), .ret (.bin (.add) (.v 3) (.lst [.c (.non), .c (.int 0), .c (.str []), .c (.str [97, 108, 108]), .tup [], .lst [], .dic [] [], .c (.bl true), .tup [.c (.str [97, 108, 108])], .tup [.c (.str [110, 111, 110, 101])], .tup [.tup [.c (.str [97, 108, 108])]], .tup [.c (.str [97, 108, 108]), .tup []], .tup [.c (.str [110, 111, 116]), .c (.str [97, 108, 108])], .tup [.c (.str [110, 111, 116]), .tup [.c (.str [97, 108, 108])], .tup [.c (.str [97, 108, 108])]]]))]
def gValues (fq fb fg fd fp : Nat) : Fn := ⟨2, 7, [true, false, false, true, false, false, false], b_values fq fb fg fd fp⟩
abbrev VV : D → Prop := Vl 12 2000000
def VaP : D → Bool → Prop := fun d fr => fr = true ∧ ∃ xs, d = .lst xs ∧ (∀ x, x ∈ xs → VV x) ∧ xs.length ≤ 100
theorem argOf_o {kp : Bool} {r : Env} {j : Nat} {b : Bool} (h : kp = true) : argOf kp r (.ref j, b) = (match r[j]? with | some (.o d) => some (.o d) | some (.l d) => some (.l d) | some (.v d) => some (.v d) | _ => none) := by subst h; rfl
theorem values_f {Z : Sys} {f fq fb fg fd fp fs n0 : Nat} (hd : DrawF Z fd) (hp : Z.fns[fp]? = some (gPick fd)) (hs : SingleF Z fs n0) (hq : Z.fns[fq]? = some (gQuery fq fd fs)) (hb : Z.fns[fb]? = some (gBent fb fd fp)) (hg : Z.fns[fg]? = some (gGreat fs fd fp))
    (hf : Z.fns[f]? = some (gValues fq fb fg fd fp)) {k : Int} (hk1 : 0 < k) (hk : k ≤ 4) (n : Nat) (a b : Int) (h : PotOk a b) :
    (callN Z (n + n0 + 9) f [pt a b, .v (.int k)]).Ok (Dr VaP 1) := by
  have e0 := fk_draw hd
  have e1 : fkeep Z fp 0 = true ∧ fkeep Z fp 1 = false := by simp [fkeep, hp, gPick]
  have e2 : fkeep Z fq 0 = true ∧ fkeep Z fq 1 = false ∧ fkeep Z fq 2 = false := by simp [fkeep, hq, gQuery]
  have e3 : fkeep Z fb 0 = true ∧ fkeep Z fb 1 = false := by simp [fkeep, hb, gBent]
  have e4 : fkeep Z fg 0 = true ∧ fkeep Z fg 1 = false := by simp [fkeep, hg, gGreat]
  refine call_of hf rfl rfl ?_
  show (exB Z (callN Z (n + n0 + 8)) (keepL 2 [true, false, false, true, false, false, false]) (b_values fq fb fg fd fp) [pt a b, .v (.int k), .e, .e, .e, .e, .e]).Ok (fin (gValues fq fb fg fd fp) (Dr VaP 1))
  simp [b_values, pt, e0, e1, e2, e3, e4]
  refine callQuery hq (m := 3) (j := 0) rfl (by have := query_f hd hs hq (n + 3) k hk1 hk 3 a b h; simpa [pt, show n + 3 + (3 + 2 + n0) = n + n0 + 8 by omega] using this) fun q a1 b1 gq p1 => ?_
  have rq := gq.noRef
  simp [pt, e0, e1, e2, e3, e4, rq, keepL, setSl, isBox, evE_lc, ownless, show rngOk 20 = true from by decide]
  have r20 : rngOk 20 = true := by decide
  have r5 : rngOk 5 = true := by decide
  have gB : ∀ (a b : Int), PotOk a b → (callN Z (n + n0 + 8) fb [pt a b, .v q]).Ok (Dr (fun d fr => fr = false ∧ VV d) 1) := fun a b hp0 => by
    have := bent_f hd hp hb hk (n + n0 + 2) 3 a b q hp0 gq (by omega)
    refine this.mono ?_
    rintro d fr o ⟨a', b', rfl, hp', hr, rfl, gd⟩
    obtain ⟨_, _, _, g0, _⟩ := gq.gd hk
    have hw : wtD q ≤ 120000 := Nat.le_trans g0.wt (by decide)
    exact ⟨a', b', rfl, hp', hr, rfl, .gd (gd.mono (by omega) (by omega))⟩
  refine hk_of (compI_dr (p := VV) (j := 5) (R := [.v (.int k), .v q, .e, .e, .e, .e]) (ranged 0 20) a1 b1 p1 (by simp) ?_) ?_
  · intro x _ a2 b2 p2
    simp [pt, e3, rq]
    refine callPot (ds := [q]) hb (j := 0) rfl rfl (by unfold callOk; rw [moved_pot rq]; rfl) (moved_pot rq) ?_ (gB a2 b2 p2) ?_
    · simp [argSl, gBent, fkeep, argOf_pl rq, argOf_o, hb, List.range_succ, List.findIdx?, List.findIdx?.go, pt]
    · rintro d fr a4 b4 ⟨rfl, gd⟩ rd p4
      exact ⟨rd, gd, a4, b4, p4, rfl⟩
  rintro bs r ⟨lb, hbs, a2, b2, s2, p2, rfl⟩
  have lb' : bs.length = 20 := by rw [lb]; rfl
  simp [back, pt, lb', LIM, r5, evE_lc, ownless, keepL, setSl, isBox]
  refine hk_of (compI_dr (p := VV) (j := 5) (R := [.v (.int k), .v q, .e, .e, .e, .e]) (ranged 0 5) a2 b2 p2 (by simp) ?_) ?_
  · intro x _ a3 b3 p3
    simp [pt, e4]
    refine callPot (ds := [.int k]) hg (j := 0) rfl rfl rfl rfl ?_ (by have := great_f hd hp hs hg hk1 hk (n + 5) a3 b3 p3; rwa [show n + 5 + n0 + 3 = n + n0 + 8 by omega] at this) ?_
    · simp [argSl, gGreat, fkeep, argOf_o, hg, List.range_succ, List.findIdx?, List.findIdx?.go, pt]
    · rintro d fr a4 b4 ⟨rfl, gd⟩ rd p4
      exact ⟨rd, .gd (gd.mono (by omega) (by omega)), a4, b4, p4, rfl⟩
  rintro gs r ⟨lg, hgs, a3, b3, s3, p3, rfl⟩
  have lg' : gs.length = 5 := by rw [lg]; rfl
  simp [back, pt, LIM, lb', lg', keepL, setSl, isBox, e0]
  refine callDrawN hd (by omega) (j := 0) rfl p3 hk1 (by omega) fun i a4 b4 l4 u4 p4 => ?_
  obtain ⟨kn, rfl⟩ : ∃ kn : Nat, k = kn := ⟨k.toNat, by omega⟩
  have hc := cut_lets kn (by omega)
  obtain ⟨c, ec, lc⟩ : ∃ c, ati (lets kn) i = some c ∧ Lt kn c := by
    have hk' : kn = 1 ∨ kn = 2 ∨ kn = 3 ∨ kn = 4 := by omega
    have hi : i = 0 ∨ i = 1 ∨ i = 2 ∨ i = 3 := by omega
    rcases hk' with rfl | rfl | rfl | rfl <;> rcases hi with rfl | rfl | rfl | rfl <;> first | omega | exact ⟨97, rfl, by unfold Lt; omega⟩ | exact ⟨98, rfl, by unfold Lt; omega⟩ | exact ⟨99, rfl, by unfold Lt; omega⟩ | exact ⟨100, rfl, by unfold Lt; omega⟩
  have ll : (lets kn).length ≤ 16777216 := by unfold lets; simp; omega
  simp [pt, hc, ec, ll, LIM, e1]
  refine callPickN hd hp (by omega) (j := 0) rfl p4 (by simp) (by simp) (by simp) fun v a5 b5 m5 p5 => ?_
  obtain ⟨m, rfl, hm1, hm2⟩ : ∃ m : Int, v = .int m ∧ 1 ≤ m ∧ m ≤ 61 := by
    simp only [List.mem_cons, List.not_mem_nil, or_false] at m5
    rcases m5 with rfl | rfl | rfl | rfl <;> exact ⟨_, rfl, by omega, by omega⟩
  obtain ⟨row, hrow, lrow, crow⟩ : ∃ row : List Nat, (List.replicate m.toNat [c]).flatten = row ∧ row.length ≤ 61 ∧ ∀ x, x ∈ row → x = c := by
    refine ⟨_, rfl, ?_, ?_⟩
    · simp; omega
    · intro x hx; simp at hx; exact hx.2
  have lm1 : m.toNat ≤ 16777216 := by omega
  have lm2 : m < 1000000 := by omega
  have lm3 : -1000000 < m := by omega
  have lrow' : row.length ≤ 16777216 := by omega
  have gl0 : (bs ++ gs).length = 25 := by simp; omega
  have hr3 : cut row none (some 3) = row.take 3 := cut_to row (by omega)
  have lr3 : (row.take 3).length ≤ 16777216 := by simp; omega
  have lr3' : min 3 row.length ≤ 16777216 := by omega
  simp [pt, lm1, lm2, lm3, hrow, ownsL, putO, lrow', LIM, lb', lg', e0, hr3, lr3', keepL, setSl, isBox]
  refine callDrawN hd (by omega) (j := 0) rfl p5 (by omega) (by omega) fun i6 a6 b6 l6 u6 p6 => ?_
  simp [pt, ownsL, putO, LIM, lb', lg', e0, keepL, setSl, isBox]
  refine callDrawN hd (by omega) (j := 0) rfl p6 (by omega) (by omega) fun i7 a7 b7 l7 u7 p7 => ?_
  simp [pt, ownsL, putO, LIM, lb', lg', e0, keepL, setSl, isBox]
  refine callDrawN hd (by omega) (j := 0) rfl p7 (by omega) (by omega) fun i8 a8 b8 l8 u8 p8 => ?_
  simp [pt, ownsL, putO, LIM, lb', lg', e0, keepL, setSl, isBox]
  refine callDrawN hd (by omega) (j := 0) rfl p8 (by omega) (by omega) fun i9 a9 b9 l9 u9 p9 => ?_
  simp [pt, ownsL, putO, LIM, lb', lg', e0, keepL, setSl, isBox]
  refine callDrawN hd (by omega) (j := 0) rfl p9 (by omega) (by omega) fun i10 a10 b10 l10 u10 p10 => ?_
  simp [pt, ownsL, putO, LIM, lb', lg', e0, keepL, setSl, isBox]
  refine callDrawN hd (by omega) (j := 0) rfl p10 (by omega) (by omega) fun i11 a11 b11 l11 u11 p11 => ?_
  have k1 : 2 ≤ 5 + i11 := by omega
  have k2 : 5 + i11 ≤ 1000 := by omega
  obtain ⟨sm, hsm, lsm, csm⟩ : ∃ sm : List D, (List.replicate (5 + i11).toNat [D.tup [D.str [97, 108, 108]]]).flatten = sm ∧ sm.length ≤ 7 ∧ ∀ x, x ∈ sm → x = D.tup [D.str [97, 108, 108]] := by
    refine ⟨_, rfl, ?_, ?_⟩
    · simp; omega
    · intro x hx; simp at hx; exact hx.2
  have hs6 : cut sm none (some 6) = sm.take 6 := cut_to sm (by omega)
  have l0 : 1 + sm.length ≤ 16777216 := by omega
  have l2' : 1 + min 6 sm.length ≤ 16777216 := by omega
  simp [pt, ownsL, putO, LIM, lb', lg', e0, k1, k2, hsm, keepL, setSl, isBox, hs6, l0, l2']
  refine callDrawN hd (by omega) (j := 0) rfl p11 (by omega) (by omega) fun i12 a12 b12 l12 u12 p12 => ?_
  have k3 : 2 ≤ 4 + i12 := by omega
  have k4 : 4 + i12 ≤ 1000 := by omega
  obtain ⟨rr, hrr, lrr, crr⟩ : ∃ rr : List D, (List.replicate (4 + i12).toNat [D.tup (D.str [97, 110, 100] :: sm.take 6)]).flatten = rr ∧ rr.length ≤ 7 ∧ ∀ x, x ∈ rr → x = D.tup (D.str [97, 110, 100] :: sm.take 6) := by
    refine ⟨_, rfl, ?_, ?_⟩
    · simp; omega
    · intro x hx; simp at hx; exact hx.2
  have l1 : 1 + rr.length ≤ 16777216 := by omega
  have l2 : 1 + (sm.take 6).length ≤ 16777216 := by simp; omega
  simp [pt, ownsL, putO, LIM, lb', lg', e0, hs6, k3, k4, hrr, l1, l2', keepL, setSl, isBox]
  refine callDrawN hd (by omega) (j := 0) rfl p12 (by omega) (by omega) fun i13 a13 b13 l13 u13 p13 => ?_
  obtain ⟨zz, hzz, czz⟩ : ∃ zz : List D, op2 .mul (.tup [D.tup [D.str [97, 108, 108]]]) (.int i13) = some (.tup zz, false) ∧ (zz = [] ∨ zz = [D.tup [D.str [97, 108, 108]]]) := by
    have : i13 = 0 ∨ i13 = 1 := by omega
    rcases this with rfl | rfl
    · exact ⟨[], rfl, .inl rfl⟩
    · exact ⟨_, rfl, .inr rfl⟩
  have lzz : 6 + zz.length ≤ 16777216 := by rcases czz with rfl | rfl <;> simp
  have h55 : op2 .mul (.tup [D.tup (D.str [111, 114] :: sm.take 6)]) (.int 5) = some (.tup (List.replicate 5 (D.tup (D.str [111, 114] :: sm.take 6))), false) := by rfl
  simp [pt, ownsL, putO, LIM, lb', lg', e0, hs6, hzz, lzz, -op2_mul_t, h55, l2', List.replicate, keepL, setSl, isBox]
  have S : ∀ (s : List Nat), (s.all (fun c => decide (c < 4294967296)) && decide (s.length ≤ 9)) = true → Gd 8 100 (.str s) := fun s hs => by
    rw [Bool.and_eq_true, decide_eq_true_eq] at hs
    exact Gd.str_of hs.1 (by omega)
  have hcc : c < 4294967296 := by unfold Lt at lc; omega
  have Grow : Gd 8 700 (.str row) := Gd.str_of (by rw [List.all_eq_true]; intro x hx; rw [crow x hx]; simpa using hcc) (by omega)
  have G3 : GL 8 50 (chars (row.take 3)) := (GL.all (h := 8) (w := 12) (n := 3) (fun x hx => by
    obtain ⟨y, hy, rfl⟩ := List.mem_map.mp hx
    have := crow y (List.mem_of_mem_take hy)
    subst this
    exact Gd.str_of (by simpa using hcc) (by simp)) (by simp [chars]; omega)).mono (Nat.le_refl _) (by omega)
  have Gal : Gd 8 60 (.tup [.str [97, 108, 108]]) := Gd.mono (h := 1) (w := 60) ⟨rfl, by decide, by decide⟩ (by omega) (by omega)
  have Gsm : GL 8 500 sm := (GL.all (h := 8) (w := 60) (n := 7) (fun x hx => by rw [csm x hx]; exact Gal) lsm).mono (Nat.le_refl _) (by omega)
  have Gs6 : GL 8 500 (sm.take 6) := Gsm.take 6
  have Grr : GL 9 5000 rr := (GL.all (h := 9) (w := 700) (n := 7) (fun x hx => by rw [crr x hx]; exact (GL.cons (S _ (by decide)) Gs6).tup.mono (Nat.le_refl _) (by omega)) lrr).mono (Nat.le_refl _) (by omega)
  have Gor : Gd 9 700 (.tup (.str [111, 114] :: sm.take 6)) := (GL.cons (S _ (by decide)) Gs6).tup.mono (Nat.le_refl _) (by omega)
  have Gzz : GL 9 100 zz := by
    rcases czz with rfl | rfl
    · exact GL.nil.mono (Nat.le_refl _) (by omega)
    · exact (GL.cons (Gal.mono (by omega) (Nat.le_refl _)) .nil).mono (Nat.le_refl _) (by omega)
  have I : ∀ i : Int, -10 ≤ i → i < 100 → Gd 8 2000 (.int i) := fun i h1 h2 => Gd.int_of (by omega) (Nat.le_refl _)
  have T2 : ∀ {x y : D} {w1 w2 : Nat}, Gd 8 w1 x → Gd 8 w2 y → w1 + w2 ≤ 10000 → VV (.tup [x, y]) := fun a b h => .gd ((GL.cons a (GL.cons b .nil)).tup.mono (by omega) (by omega))
  have T3 : ∀ {x y z : D} {w1 w2 w3 : Nat}, Gd 8 w1 x → Gd 8 w2 y → Gd 8 w3 z → w1 + w2 + w3 ≤ 10000 → VV (.tup [x, y, z]) := fun a b c h => .gd ((GL.cons a (GL.cons b (GL.cons c .nil))).tup.mono (by omega) (by omega))
  have T4 : ∀ {x y z u : D} {w1 w2 w3 w4 : Nat}, Gd 8 w1 x → Gd 8 w2 y → Gd 8 w3 z → Gd 8 w4 u → w1 + w2 + w3 + w4 ≤ 10000 → VV (.tup [x, y, z, u]) := fun a b c d h => .gd ((GL.cons a (GL.cons b (GL.cons c (GL.cons d .nil)))).tup.mono (by omega) (by omega))
  have G1 : ∀ {x : D} {h w : Nat}, Gd h w x → h ≤ 12 → w ≤ 10000 → VV x := fun a h1 h2 => .gd (a.mono h1 (by omega))
  have VQ : VV q := by
    obtain ⟨_, _, _, g0, _⟩ := gq.gd hk
    exact .gd (g0.mono (by omega) (Nat.le_trans (show wQ 3 ≤ 120000 by decide) (by omega)))
  refine fin_fr (o := [pt a13 b13, .e]) rfl (by simp [outs, gValues, List.range_succ, pt]) ⟨a13, b13, rfl, p13, rfl, rfl, _, rfl, ?_, by simp; omega⟩
  intro x hx
  rcases List.mem_cons.mp hx with rfl | hx
  · exact VQ
  rcases List.mem_append.mp hx with hx | hx
  · exact hbs x hx
  rcases List.mem_append.mp hx with hx | hx
  · exact hgs x hx
  clear hbs hgs VQ
  simp only [List.mem_cons, List.not_mem_nil, or_false] at hx
  rcases hx with rfl | rfl | rfl | rfl | rfl | rfl | rfl | rfl | rfl | rfl | rfl | rfl | rfl | rfl | rfl | rfl | rfl | rfl | rfl | rfl | rfl | rfl | rfl | rfl | rfl | rfl | rfl | rfl | rfl | rfl | rfl
  · exact T2 (S _ (by decide)) Grow (by omega)
  · exact T2 (S _ (by decide)) Grow (by omega)
  · exact T2 (S _ (by decide)) Grow (by omega)
  · exact T2 (S _ (by decide)) Grow (by omega)
  · exact .gd ((GL.cons (S _ (by decide) |>.mono (show 8 ≤ 9 by omega) (Nat.le_refl _)) (GL.cons G3.lst .nil)).tup.mono (by omega) (by omega))
  · exact .gd ((GL.cons (S _ (by decide) |>.mono (show 8 ≤ 9 by omega) (Nat.le_refl _)) (GL.cons G3.tup .nil)).tup.mono (by omega) (by omega))
  · exact T2 (S _ (by decide)) (S _ (by decide)) (by omega)
  · exact T4 (S _ (by decide)) (S _ (by decide)) (S _ (by decide)) (I _ (by omega) (by omega)) (by omega)
  · exact T3 (S _ (by decide)) (S _ (by decide)) (I _ (by omega) (by omega)) (by omega)
  · exact T2 (S _ (by decide)) (I _ (by omega) (by omega)) (by omega)
  · exact T4 (S _ (by decide)) (S _ (by decide)) (I _ (by omega) (by omega)) (I _ (by omega) (by omega)) (by omega)
  · exact T4 (S _ (by decide)) (S _ (by decide)) (I _ (by omega) (by omega)) (Gd.bl_of (Nat.le_refl _)) (by omega)
  · exact T2 (S _ (by decide)) (Gd.bl_of (Nat.le_refl _)) (by omega)
  · exact T3 (S _ (by decide)) (S _ (by decide)) (Gd.bl_of (Nat.le_refl _)) (by omega)
  · exact .gd ((GL.cons (S _ (by decide)) Gsm).tup.mono (by omega) (by omega))
  · exact .gd ((GL.cons (S _ (by decide) |>.mono (show 8 ≤ 9 by omega) (Nat.le_refl _)) Grr).tup.mono (by omega) (by omega))
  · exact .gd ((GL.cons (S _ (by decide) |>.mono (show 8 ≤ 9 by omega) (Nat.le_refl _)) (GL.cons Gor (GL.cons Gor (GL.cons Gor (GL.cons Gor (GL.cons Gor Gzz)))))).tup.mono (by omega) (by omega))
  · exact .gd ⟨by decide, by decide, by decide⟩
  · exact G1 (I 0 (by omega) (by omega)) (by omega) (by omega)
  · exact G1 (S _ (by decide)) (by omega) (by omega)
  · exact G1 (S _ (by decide)) (by omega) (by omega)
  · exact .gd ⟨by decide, by decide, by decide⟩
  · exact .gd ⟨by decide, by decide, by decide⟩
  · exact .dic
  · exact G1 (Gd.bl_of (h := 8) (Nat.le_refl _)) (by omega) (by omega)
  · exact .gd ⟨by decide, by decide, by decide⟩
  · exact .gd ⟨by decide, by decide, by decide⟩
  · exact .gd ⟨by decide, by decide, by decide⟩
  · exact .gd ⟨by decide, by decide, by decide⟩
  · exact .gd ⟨by decide, by decide, by decide⟩
  · exact .gd ⟨by decide, by decide, by decide⟩
end Pv
namespace Pv
def b_right11 (fv fl fi fd : Nat) : List MS := [.set 1 (.bin (.add) (.c (.int 1)) (.call fd [.v 0, .c (.int 4)] [0, 1] [])), .for (.nm 2) (.seq) [.call fv [.v 0, .v 1] [0, 1] []] [.set 5 (.bi (.repr) [.v 2]), .for (.nm 3) (.seq) [.lst [.v 1, .bin (.add) (.c (.int 1)) (.call fd [.v 0, .c (.int 4)] [0, 1] [])]] [.set 4 (.call fl [.v 3, .v 2] [0, 1] []), .ife (.or [.cmp (.ne) (.bi (.reprl) [.call fi [.v 3, .v 2] [0, 1] [], .call fi [.v 2, .v 3] [1, 0] []]) (.bi (.reprl) [.v 4, .v 4]), .cmp (.ne) (.bi (.repr) [.v 2]) (.v 5)]) [.ret (.c (.bl false))] []]], .ret (.c (.bl true))]
def gRight11 (fv fl fi fd : Nat) : Fn := ⟨1, 6, [true, false, false, false, false, false], b_right11 fv fl fi fd⟩
def Fr (s : Sl) : Prop := s = .e ∨ ∃ u, s = .v u
theorem bi_repr (Z : Sys) {d : D} (nd : ∀ a b, d ≠ .dic a b) : biD Z .repr [d] = if showOk d then some (.str (Z.rp d), false) else none := by
  cases d <;> first | rfl | exact absurd rfl (nd _ _)
theorem bi_reprl (Z : Sys) (ds : List D) : biD Z .reprl ds = if showOk (.lst ds) then some (.str (Z.rp (.lst ds)), false) else none := by
  unfold biD
  rfl
theorem repr_ok (Z : Sys) {d : D} (v : VV d) : ∃ s, biD Z .repr [d] = some (.str s, false) := by
  cases v with
  | gd g =>
    have h := g.show (by decide) (by decide)
    have nd : ∀ a b, d ≠ .dic a b := fun a b e => by subst e; have := g.pl; simp [plain] at this
    exact ⟨_, by rw [bi_repr Z nd, if_pos h]⟩
  | dic => exact ⟨_, rfl⟩
/-- the def f says whether a value is a query -/
structure SaysQ (Z : Sys) (f n0 : Nat) : Prop where
  ex : ∃ F, Z.fns[f]? = some F ∧ F.np = 2 ∧ F.keep.take 2 = [false, false]
  ok : ∀ (n k : Nat) (d : D), 1 ≤ k → k ≤ 4 → VV d → (callN Z (n + n0) f [.v (.int k), .v d]).Ok (Pu (.bl (queryB k d)) 2)
theorem SaysQ.fk {Z : Sys} {f n0 : Nat} (q : SaysQ Z f n0) : fkeep Z f 0 = false ∧ fkeep Z f 1 = false := by
  obtain ⟨F, hF, hn, hk⟩ := q.ex
  cases hh : F.keep with
  | nil => rw [hh] at hk; cases hk
  | cons x xs => cases xs with
    | nil => rw [hh] at hk; cases hk
    | cons y ys => rw [hh] at hk; simp at hk; simp [fkeep, hF, hh, hk]
theorem SaysQ.eq1 {Z : Sys} {f n0 : Nat} (q : SaysQ Z f n0) {N : Nat} (hN : n0 ≤ N) {k : Nat} {d : D} (h1 : 1 ≤ k) (h4 : k ≤ 4) (v : VV d) (r : Env) : callE Z (callN Z N) f [0, 1] [] [(.int k, false), (d, false)] r = .ok (.bl (queryB k d), false) r := by
  obtain ⟨n, rfl⟩ : ∃ n, N = n + n0 := ⟨N - n0, by omega⟩
  obtain ⟨F, hF, hn, hk⟩ := q.ex
  have rx := v.ref
  refine callE_eq hF (sl := [.int k, d]) (by intro y hy; simp at hy; rcases hy with rfl | rfl <;> first | rfl | exact rx) (by rw [hn]; simp) (by rw [hn]; simp [argSl, argOf_pl rx, List.range_succ, List.findIdx?, List.findIdx?.go]) (q.ok n k d h1 h4 v)
theorem SaysQ.eq2 {Z : Sys} {f n0 : Nat} (q : SaysQ Z f n0) {N : Nat} (hN : n0 ≤ N) {k : Nat} {d : D} (h1 : 1 ≤ k) (h4 : k ≤ 4) (v : VV d) (r : Env) : callE Z (callN Z N) f [1, 0] [] [(d, false), (.int k, false)] r = .ok (.bl (queryB k d), false) r := by
  obtain ⟨n, rfl⟩ : ∃ n, N = n + n0 := ⟨N - n0, by omega⟩
  obtain ⟨F, hF, hn, hk⟩ := q.ex
  have rx := v.ref
  refine callE_eq hF (sl := [.int k, d]) (by intro y hy; simp at hy; rcases hy with rfl | rfl <;> first | rfl | exact rx) (by rw [hn]; simp) (by rw [hn]; simp [argSl, argOf_pl rx, List.range_succ, List.findIdx?, List.findIdx?.go]) (q.ok n k d h1 h4 v)
theorem show_bb (b : Bool) : showOk (.lst [.bl b, .bl b]) = true := by cases b <;> decide
theorem right11_f {Z : Sys} {f fv fl fi fd n0 : Nat} (hd : DrawF Z fd) (hl : SaysQ Z fl n0) (hi : SaysQ Z fi n0)
    (hv : ∃ F, Z.fns[fv]? = some F ∧ F.np = 2 ∧ F.keep.take 2 = [true, false] ∧ ∀ (n : Nat) (k : Int), 0 < k → k ≤ 4 → ∀ a b, PotOk a b → (callN Z (n + n0) fv [pt a b, .v (.int k)]).Ok (Dr VaP 1))
    (hf : Z.fns[f]? = some (gRight11 fv fl fi fd)) (n : Nat) (hn0 : 1 ≤ n0) (a b : Int) (h : PotOk a b) :
    (callN Z (n + n0 + 1) f [pt a b]).Ok (Dr (fun d fr => d = .bl true ∧ fr = false) 0) := by
  have e0 := fk_draw hd
  have e1 := hl.fk
  have e2 := hi.fk
  have e3 : fkeep Z fv 0 = true ∧ fkeep Z fv 1 = false := by
    obtain ⟨F, hF, hn, hk, _⟩ := hv
    cases hh : F.keep with
    | nil => rw [hh] at hk; cases hk
    | cons x xs => cases xs with
      | nil => rw [hh] at hk; cases hk
      | cons y ys => rw [hh] at hk; simp at hk; simp [fkeep, hF, hh, hk]
  refine call_of hf rfl rfl ?_
  show (exB Z (callN Z (n + n0)) (keepL 1 [true, false, false, false, false, false]) (b_right11 fv fl fi fd) [pt a b, .e, .e, .e, .e, .e]).Ok (fin (gRight11 fv fl fi fd) (Dr (fun d fr => d = .bl true ∧ fr = false) 0))
  simp [b_right11, pt, e0, e3, keepL]
  refine callDrawN hd (by omega) (j := 0) rfl h (by omega) (by omega) fun i a1 b1 l1 u1 p1 => ?_
  obtain ⟨k, hk, hk1, hk4⟩ : ∃ k : Nat, 1 + i = (k : Int) ∧ 1 ≤ k ∧ k ≤ 4 := ⟨(1 + i).toNat, by omega, by omega, by omega⟩
  simp [pt, e0, e3, setSl, hk]
  obtain ⟨F, hF, hnp, hkp, hvv⟩ := hv
  refine callPot (ds := [.int k]) hF (j := 0) rfl rfl (by unfold callOk; rw [hnp]; rfl) rfl ?_ (hvv n k (by omega) (by omega) a1 b1 p1) ?_
  · rw [hnp]; simp [argSl, e3, argOf_o, List.range_succ, List.findIdx?, List.findIdx?.go, pt]
  rintro d fr a2 b2 ⟨rfl, vs, rfl, hvs, lvs⟩ _ p2
  simp [pt, tgIx, keepL]
  refine hk_of (forI_inv (fun _ r => ∃ a b s2 s3 s4 s5, r = [pt a b, .v (.int k), s2, s3, s4, s5] ∧ PotOk a b ∧ Fr s2 ∧ Fr s3 ∧ Fr s4 ∧ Fr s5) _ 0 _ ?_ ⟨a2, b2, .e, .e, .e, .e, rfl, p2, .inl rfl, .inl rfl, .inl rfl, .inl rfl⟩) ?_
  · rintro x hx _ r ⟨a, b, s2, s3, s4, s5, rfl, hp, f2, f3, f4, f5⟩
    have vx := hvs x hx
    have rx := vx.ref
    obtain ⟨s, hs⟩ := repr_ok Z vx
    refine ⟨[pt a b, .v (.int k), .v x, s3, s4, s5], by rcases f2 with rfl | ⟨u, rfl⟩ <;> simp [bindT, putV, pt], ?_⟩
    have h5 : setSl 0 5 (.str s) false [pt a b, .v (.int k), .v x, s3, s4, s5] = some [pt a b, .v (.int k), .v x, s3, s4, .v (.str s)] := by
      rcases f5 with rfl | ⟨u, rfl⟩ <;> simp [setSl]
    have h5' : setSl (keepL 1 [true, false, false, false, false, false] 5) 5 (.str s) false [pt a b, .v (.int k), .v x, s3, s4, s5] = some [pt a b, .v (.int k), .v x, s3, s4, .v (.str s)] := h5
    simp only [pt] at h5
    simp [pt, rx, hs, h5, e0, tgIx, keepL]
    refine callDrawN hd (by omega) (j := 0) rfl hp (by omega) (by omega) fun i3 a3 b3 l3 u3 p3 => ?_
    obtain ⟨k', hk', hk1', hk4'⟩ : ∃ k : Nat, 1 + i3 = (k : Int) ∧ 1 ≤ k ∧ k ≤ 4 := ⟨(1 + i3).toNat, by omega, by omega, by omega⟩
    simp [pt, hk']
    refine hk_of (forI_inv (fun _ r => ∃ s3 s4, r = [pt a3 b3, .v (.int k), .v x, s3, s4, .v (.str s)] ∧ Fr s3 ∧ Fr s4) _ 0 _ ?_ ⟨s3, s4, rfl, f3, f4⟩) ?_
    · rintro y hy _ r ⟨s3, s4, rfl, f3, f4⟩
      obtain ⟨m, rfl, m1, m4⟩ : ∃ m : Nat, y = .int m ∧ 1 ≤ m ∧ m ≤ 4 := by
        simp only [List.mem_cons, List.not_mem_nil, or_false] at hy
        rcases hy with rfl | rfl
        · exact ⟨k, rfl, hk1, hk4⟩
        · exact ⟨k', rfl, hk1', hk4'⟩
      refine ⟨[pt a3 b3, .v (.int k), .v x, .v (.int m), s4, .v (.str s)], by rcases f3 with rfl | ⟨u, rfl⟩ <;> simp [bindT, putV, pt], ?_⟩
      have h4 : setSl 0 4 (.bl (queryB m x)) false [pt a3 b3, .v (.int k), .v x, .v (.int m), s4, .v (.str s)] = some [pt a3 b3, .v (.int k), .v x, .v (.int m), .v (.bl (queryB m x)), .v (.str s)] := by
        rcases f4 with rfl | ⟨u, rfl⟩ <;> simp [setSl]
      simp only [pt] at h4
      have q1 := fun r => hl.eq1 (N := n + n0) (by omega) m1 m4 vx r
      have q2 := fun r => hi.eq1 (N := n + n0) (by omega) m1 m4 vx r
      have q3 := fun r => hi.eq2 (N := n + n0) (by omega) m1 m4 vx r
      have sb := show_bb (queryB m x)
      have rb : biD Z .reprl [.bl (queryB m x), .bl (queryB m x)] = some (.str (Z.rp (.lst [.bl (queryB m x), .bl (queryB m x)])), false) := by rw [bi_reprl, if_pos sb]
      simp [pt, e1, e2, rx, q1, q2, q3, h4, keepL, rb, hs]
      exact ⟨_, _, ⟨rfl, rfl⟩, .inr ⟨_, rfl⟩, .inr ⟨_, rfl⟩⟩
    · rintro f r ⟨rfl, s3, s4, rfl, f3, f4⟩
      simp
      exact ⟨a3, b3, _, _, _, _, ⟨rfl, rfl, rfl, rfl, rfl⟩, p3, .inr ⟨_, rfl⟩, f3, f4, .inr ⟨_, rfl⟩⟩
  · rintro f r ⟨rfl, a, b, s2, s3, s4, s5, rfl, hp, f2, f3, f4, f5⟩
    simp [pt]
    exact fin_pot rfl ⟨rfl, rfl⟩ hp (by simp [outs, gRight11, List.range_succ, pt])
def b_lawTop (fr fp : Nat) : List MS := [.ret (.bi (.all) [.lc (.call fr [.call fp [.v 0, .v 1] [0, 1] []] [0] []) (.nm 1) (.range) [.bi (.max2) [.c (.int 1), .bi (.min2) [.c (.int 2), .bi (.len) [.v 0]]]] [] [1]])]
/-- a law over the pots of a script's first cells -/
theorem lawTop_f {Z : Sys} {f fr fp : Nat} {F1 F2 : Fn} (h1 : Z.fns[fr]? = some F1) (h1n : F1.np = 1) (h1k : F1.keep.getD 0 false = true) (h2 : Z.fns[fp]? = some F2) (h2n : F2.np = 2) (h2k : F2.keep.getD 0 false = false ∧ F2.keep.getD 1 false = false)
    (hf : Z.fns[f]? = some ⟨1, 2, [false, false], b_lawTop fr fp⟩) (n : Nat)
    (hr : ∀ a b, PotOk a b → (callN Z n fr [pt a b]).Ok (Dr (fun d fr => d = .bl true ∧ fr = false) 0))
    (hp : ∀ (xs : List D), (∀ x, x ∈ xs → ∃ i, x = .int i) → ∀ k : Int, 0 ≤ k → k < 1000000 → (callN Z n fp [.v (.scr xs), .v (.int k)]).Ok fun d fr o => fr = true ∧ ∃ a b, d = .lst [.int a, .int b] ∧ PotOk a b ∧ o = [.e, .e])
    (ns : List Int) (hns : ns.length ≤ 63) : (callN Z (n + 1) f [.v (.scr (ns.map .int))]).Ok fun d fr o => d = .bl true := by
  have k1 : fkeep Z fr 0 = true := by simpa [fkeep, h1] using h1k
  have k2 : fkeep Z fp 0 = false ∧ fkeep Z fp 1 = false := by simpa [fkeep, h2] using h2k
  refine call_of hf rfl rfl ?_
  simp [b_lawTop, keepK_eq, evE_lc, ownless]
  refine ⟨?_, ?_⟩
  · unfold rngOk
    simp
    split <;> split <;> omega
  refine hk_of (compI_map (fun r => ∃ t, r = [.v (.scr (ns.map .int)), t] ∧ Fr t) (fun _ => .bl true) _ _ ?_ ⟨_, rfl, .inl rfl⟩) ?_
  · rintro x hx r ⟨t, rfl, ht⟩
    obtain ⟨c, hc, rfl⟩ := List.mem_map.mp (show x ∈ ranged 0 _ from hx)
    have hc1 := List.mem_range.mp hc
    refine ⟨[.v (.scr (ns.map .int)), .v (.int (0 + (c : Int)))], by simp [wipeE, bindT, putV], ?_⟩
    have hc2 : (c : Int) < 1000000 := by
      have : c < 64 := by
        refine Nat.lt_of_lt_of_le hc1 ?_
        simp
        split <;> split <;> omega
      omega
    simp [k1, k2]
    refine callE_of h2 (by unfold callOk; rw [h2n]; rfl) (sl := [.v (.scr (ns.map .int)), .v (.int c)]) (by rw [h2n]; simp [argSl, k2, argOf, List.range_succ, List.findIdx?, List.findIdx?.go]) ((hp (ns.map .int) (by intro x hx; obtain ⟨i, _, rfl⟩ := List.mem_map.mp hx; exact ⟨i, rfl⟩) c (by omega) hc2).mono ?_)
    rintro d fr o ⟨rfl, a, b, rfl, po, rfl⟩
    refine ⟨rfl, ?_⟩
    simp [moved, wback, k1, k2]
    refine callE_of h1 (by unfold callOk; rw [h1n]; rfl) (sl := [pt a b]) (by rw [h1n]; simp [argSl, k1, argOf, isBox, List.range_succ, List.findIdx?, List.findIdx?.go, pt]) ((hr a b po).mono ?_)
    rintro d fr o ⟨a', b', rfl, po', hd, rfl, rfl⟩
    refine ⟨rfl, ?_⟩
    simp [moved, wback]
    exact .inr ⟨_, rfl⟩
  · rintro ys r ⟨rfl, t, rfl, ht⟩
    have hl : (ranged 0 (if 1 < if (ns.length : Int) < 2 then (ns.length : Int) else 2 then if (ns.length : Int) < 2 then (ns.length : Int) else 2 else 1)).length ≤ LIM := by
      simp [ranged, LIM]
      split <;> split <;> omega
    have hb := bools_map (fun _ => true) (ranged 0 (if 1 < if (ns.length : Int) < 2 then (ns.length : Int) else 2 then if (ns.length : Int) < 2 then (ns.length : Int) else 2 else 1))
    simp only [List.length_map, hl, if_true]
    simp [hb, back, fin, outD]
end Pv
namespace Pv
def b_queriesRight (fq fm fi fs fd fn : Nat) : List MS := [.set 2 (.call fq [.v 0, .v 1, .c (.int 5)] [0, 1, 2] []), .asg (.tp [.nm 3, .nm 4, .nm 5]) (.call fm [.v 2] [0] []), .ife (.cmp (.gt) (.v 3) (.c (.int 40))) [.ret (.cmp (.is) (.call fi [.v 1, .v 2] [0, 1] []) (.c (.bl false)))] [], .par [6, 7] [.lc (.v 9) (.nm 9) (.seq) [.sl (.c (.str [97, 98, 99, 100])) none (some (.v 1))] [.cmp (.isin) (.v 9) (.v 5)] [9], .bi (.repr) [.v 2]], .set 8 (.lst [.call fs [.v 1, .v 2] [0, 1] [], .call fd [.v 1, .v 2] [0, 1] [], .call fs [.v 2, .v 1] [1, 0] [], .call fd [.v 2, .v 1] [1, 0] []]), .ife (.cmp (.ne) (.bi (.repr) [.v 8]) (.bi (.repr) [.bin (.mul) (.lst [.v 3, .v 4]) (.c (.int 2))])) [.ret (.c (.bl false))] [], .set 8 (.call fn [.v 1, .v 2] [0, 1] []), .ife (.cmp (.ne) (.bi (.reprl) [.v 8, .call fn [.v 2, .v 1] [1, 0] []]) (.bi (.reprl) [.v 6, .v 6])) [.ret (.c (.bl false))] [], .expr (.mu (.append) 8 [.c (.str [120])]), .ret (.and [.cmp (.eq) (.bi (.reprl) [.call fn [.v 1, .v 2] [0, 1] [], .call fn [.c (.int 4), .v 2] [0, 1] [], .call fs [.c (.int 4), .v 2] [0, 1] []]) (.bi (.reprl) [.v 6, .v 6, .v 3]), .cmp (.eq) (.bi (.repr) [.v 2]) (.v 7)])]
def gQueriesRight (fq fm fi fs fd fn : Nat) : Fn := ⟨2, 10, [true, false, false, false, false, false, false, false, true, false], b_queriesRight fq fm fi fs fd fn⟩
theorem namedL_more {k : Nat} (hk : k ≤ 4) {s : List Nat} (h : ∀ c, c ∈ s → Lt k c) : namedL 4 s = namedL k s := by
  unfold namedL
  have n1 : ∀ c, ¬ Lt k c → decide (c ∈ s) = false := fun c hc => by simpa using fun z => hc (h c z)
  have : k = 0 ∨ k = 1 ∨ k = 2 ∨ k = 3 ∨ k = 4 := by omega
  rcases this with rfl | rfl | rfl | rfl | rfl
  · have a := n1 97 (by unfold Lt; omega); have b := n1 98 (by unfold Lt; omega); have c := n1 99 (by unfold Lt; omega); have d := n1 100 (by unfold Lt; omega)
    simp only [lets, List.take, List.filter, a, b, c, d]
  · have b := n1 98 (by unfold Lt; omega); have c := n1 99 (by unfold Lt; omega); have d := n1 100 (by unfold Lt; omega)
    simp only [lets, List.take, List.filter, b, c, d]
  · have c := n1 99 (by unfold Lt; omega); have d := n1 100 (by unfold Lt; omega)
    simp only [lets, List.take, List.filter, c, d]
  · have d := n1 100 (by unfold Lt; omega)
    simp only [lets, List.take, List.filter, d]
  · rfl
/-- the letters of a query drawn of the first k letters -/
theorem Qy.letters {k : Nat} (hk : k ≤ 4) : ∀ {m : Nat} {d : D}, Qy k m d → ∀ dep, m + 1 ≤ dep → ∀ c, c ∈ lettersN dep d → Lt k c := by
  intro m
  induction m using Nat.strongRecOn with
  | _ m ih =>
    intro d hq dep hd c hc
    obtain ⟨dep, rfl⟩ : ∃ e, dep = e + 1 := ⟨dep - 1, by omega⟩
    rcases hq.cases hk with hs | ⟨w, ys, m', rfl, rfl, cj, hne, hy⟩
    · cases hs with
      | word x a => simp [lettersN, joins, wNot, wAnd, wOr, strsCat] at hc; subst hc; exact a
      | row s a b h => simp [lettersN, joins, wNot, wAnd, wOr, strsCat] at hc; exact h c hc
      | near x y i a b => simp [lettersN, joins, wNot, wAnd, wOr, strsCat] at hc; rcases hc with rfl | rfl; exact a; exact b
      | ahead x y a b => simp [lettersN, joins, wNot, wAnd, wOr, strsCat] at hc; rcases hc with rfl | rfl; exact a; exact b
      | first s a h => simp [lettersN, joins, wNot, wAnd, wOr, strsCat] at hc; exact h c hc
      | last s a h => simp [lettersN, joins, wNot, wAnd, wOr, strsCat] at hc; exact h c hc
      | often x i a => simp [lettersN, joins, wNot, wAnd, wOr, strsCat] at hc; subst hc; exact a
      | long i a b => simp [lettersN, joins, wNot, wAnd, wOr, strsCat] at hc
      | rest x m i a => simp [lettersN, joins, wNot, wAnd, wOr, strsCat] at hc; subst hc; exact a
      | all => simp [lettersN, joins, wNot, wAnd, wOr, strsCat] at hc
      | none => simp [lettersN, joins, wNot, wAnd, wOr, strsCat] at hc
    · simp only [lettersN, cj, if_true, List.mem_flatten, List.mem_map] at hc
      obtain ⟨l, ⟨y, hy1, rfl⟩, hl⟩ := hc
      exact ih m' (by omega) (hy y hy1) dep (by omega) c hl
theorem sizeN_succ (m : Nat) (d : D) : sizeN (m + 1) d = 1 ∨ ∃ w ys, sizeN (m + 1) d = 1 + sumI ((partsD w ys).map (sizeN m)) := by
  cases d <;> first | exact .inl rfl | skip
  rename_i xs
  cases xs with
  | nil => exact .inl rfl
  | cons y ys => cases y <;> first | exact .inl rfl | exact .inr ⟨_, _, rfl⟩
theorem depthN_succ (m : Nat) (d : D) : depthN (m + 1) d = 1 ∨ ∃ w ys, depthN (m + 1) d = 1 + maxOf (0 :: (partsD w ys).map (depthN m)) := by
  cases d <;> first | exact .inl rfl | skip
  rename_i xs
  cases xs with
  | nil => exact .inl rfl
  | cons y ys => cases y <;> first | exact .inl rfl | exact .inr ⟨_, _, rfl⟩
theorem sizeN_pos (m : Nat) : ∀ d : D, 1 ≤ sizeN m d := by
  induction m with
  | zero => intro d; simp [sizeN]
  | succ m ih =>
    have fold : ∀ (ys : List D) (a : Int), 0 ≤ a → 0 ≤ (ys.map (sizeN m)).foldl (· + ·) a := by
      intro ys
      induction ys with
      | nil => intro a h; exact h
      | cons y ys ihy =>
        intro a h
        have := ih y
        exact ihy (a + sizeN m y) (by omega)
    intro d
    rcases sizeN_succ m d with e | ⟨w, ys, e⟩
    · omega
    · have := fold (partsD w ys) 0 (by omega)
      unfold sumI at e
      omega
theorem depthN_le (m : Nat) : ∀ d : D, depthN m d ≤ m + 1 := by
  induction m with
  | zero => intro d; simp [depthN]
  | succ m ih =>
    intro d
    rcases depthN_succ m d with e | ⟨w, ys, e⟩
    · omega
    · have : maxOf (0 :: (partsD w ys).map (depthN m)) ≤ m + 1 := (maxOf_le (by simp) _).mpr fun y hy => by
        rcases List.mem_cons.mp hy with rfl | hy
        · omega
        · obtain ⟨x, _, rfl⟩ := List.mem_map.mp hy; exact ih x
      omega
theorem named_gl (k : Nat) (s : List Nat) : GL 1 60 (chars (namedL k s)) := by
  refine (GL.all (w := 12) (n := 4) (fun x hx => ?_) ?_).mono (Nat.le_refl _) (by omega)
  · obtain ⟨c, hc, rfl⟩ := List.mem_map.mp hx
    have h4 : c ∈ [97, 98, 99, 100] := List.mem_of_mem_take (List.mem_filter.mp hc).1
    refine Gd.str_of ?_ (by simp)
    simp only [List.mem_cons, List.not_mem_nil, or_false] at h4
    rcases h4 with rfl | rfl | rfl | rfl <;> rfl
  · have := List.length_filter_le (fun c => decide (c ∈ s)) (lets k)
    have := lets_len k
    simp only [chars, List.length_map, namedL]
    omega
@[simp] theorem cmp_is_bl (f : List Nat → List Nat → Bool) (a b : Bool) : cmpD f .is (.bl a) (.bl b) = some (a == b) := rfl
@[simp] theorem bi_repr_l (Z : Sys) (xs : List D) : biD Z .repr [.lst xs] = if showOk (.lst xs) then some (.str (Z.rp (.lst xs)), false) else none := rfl
@[simp] theorem bi_reprl' (Z : Sys) (xs : List D) : biD Z .reprl xs = if showOk (.lst xs) then some (.str (Z.rp (.lst xs)), false) else none := bi_reprl Z xs
theorem queriesRight_f {Z : Sys} {N : QN} {C : CN} {f fd fq fs fm fi fsz fdp fdo fn fl n0 : Nat} (q : CF Z N C) (hmem : InMem Z) (hd : DrawF Z fd) (hs : SingleF Z fs n0) (hq : Z.fns[fq]? = some (gQuery fq fd fs))
    (hm : Z.fns[fm]? = some ⟨1, 5, [false, false, false, false, false], b_measures fm⟩) (hi : Z.fns[fi]? = some ⟨2, 2, [false, false], b_query C.check C.qof⟩)
    (hsz : Z.fns[fsz]? = some ⟨2, 2, [false, false], b_two C.check C.cquery N.size⟩) (hdo : Z.fns[fdo]? = some ⟨1, 2, [false, false], b_depth fdo N.parts⟩) (hdp : Z.fns[fdp]? = some ⟨2, 2, [false, false], b_two C.check C.cquery fdo⟩)
    (hl : Z.fns[fl]? = some ⟨1, 2, [false, false], b_lettersIn fl⟩) (hn : Z.fns[fn]? = some ⟨2, 4, [false, false, false, false], b_named C.check C.cquery fl N.letters⟩)
    (hf : Z.fns[f]? = some (gQueriesRight fq fm fi fsz fdp fn)) (n k : Nat) (h1 : 1 ≤ k) (hk : k ≤ 4) (a b : Int) (h : PotOk a b) :
    (callN Z (n + n0 + 20) f [pt a b, .v (.int k)]).Ok (Dr (fun d fr => d = .bl true ∧ fr = false) 1) := by
  have e0 := fk_draw hd
  have e2 : fkeep Z fq 0 = true ∧ fkeep Z fq 1 = false ∧ fkeep Z fq 2 = false := by simp [fkeep, hq, gQuery]
  have fk := q.fk
  have f1 : fkeep Z fm 0 = false ∧ fkeep Z fi 0 = false ∧ fkeep Z fi 1 = false ∧ fkeep Z fsz 0 = false ∧ fkeep Z fsz 1 = false ∧ fkeep Z fdp 0 = false ∧ fkeep Z fdp 1 = false ∧ fkeep Z fn 0 = false ∧ fkeep Z fn 1 = false := by
    simp [fkeep, hm, hi, hsz, hdp, hn]
  refine call_of hf rfl rfl ?_
  show (exB Z (callN Z (n + n0 + 19)) (keepL 2 [true, false, false, false, false, false, false, false, true, false]) (b_queriesRight fq fm fi fsz fdp fn) [pt a b, .v (.int k), .e, .e, .e, .e, .e, .e, .e, .e]).Ok (fin (gQueriesRight fq fm fi fsz fdp fn) (Dr (fun d fr => d = .bl true ∧ fr = false) 1))
  simp [b_queriesRight, pt, e0, e2]
  refine callQuery hq (m := 4) (j := 0) rfl (by have := query_f hd hs hq (n + 13) k (by omega) (by omega) 4 a b h; simpa [pt, show n + 13 + (4 + 2 + n0) = n + n0 + 19 by omega] using this) fun d a1 b1 gq p1 => ?_
  have g := gq.gd (show (k : Int) ≤ 4 by omega)
  obtain ⟨_, _, _, g0, _⟩ := g
  have g1 : Gd 5 400000 d := g0.mono (by omega) (by decide)
  have rd := g1.ref
  have hb := gq.built hk 8 (by omega)
  have em := fun r => callE_eq hm (r := r) (n := n + n0 + 19) (ix := [0]) (df := []) (as := [(d, false)]) (sl := [d]) (by intro y hy; simp at hy; subst hy; exact rd) (by simp) (by simp [argSl, argOf_pl rd, List.range_succ, List.findIdx?, List.findIdx?.go]) (by have := measures_f hm hk (n + n0 + 14) 4 d gq (by omega) 8 (by omega); exact this)
  simp [pt, f1, rd, em, keepL, setSl, isBox, stT, stTs, putV, measD]
  by_cases c40 : 40 < sizeN 8 d
  · have qf : queryB k d = false := by simp [queryB, show ¬ sizeN 8 d ≤ 40 by omega]
    have ei := fun r => callE_eq hi (r := r) (n := n + n0 + 19) (ix := [0, 1]) (df := []) (as := [(.int k, false), (d, false)]) (sl := [.int k, d]) (by intro y hy; simp at hy; rcases hy with rfl | rfl <;> first | rfl | exact rd) (by simp) (by simp [argSl, argOf_pl rd, List.range_succ, List.findIdx?, List.findIdx?.go])
      (by have := isQuery_f (n := n + n0 + 4) q.toQF2 q.check q.qof hi h1 hk (by decide) (by decide) d (.gd g1); exact this)
    simp [c40, ei, qf, pt]
    exact fin_pot rfl ⟨rfl, rfl⟩ p1 (by simp [outs, gQueriesRight, List.range_succ, pt])
  · have le40 : sizeN 8 d ≤ 40 := by omega
    have pk : Pass k d := ⟨h1, hk, gq, by simp [queryB, hb, le40]⟩
    have gq4 : Qy (4 : Nat) 4 d := gq.mono (by omega)
    have p4 : Pass 4 d := ⟨by omega, by omega, gq4, by simp [queryB, gq4.built (by omega) 8 (by omega), le40]⟩
    have s1 := fun r => (q.sizeE pk hsz (n := n + n0 + 19) (by omega) r).1
    have s2 := fun r => (q.sizeE pk hsz (n := n + n0 + 19) (by omega) r).2
    have s3 := fun r => (q.sizeE p4 hsz (n := n + n0 + 19) (by omega) r).1
    have d1 := fun r => (q.depthE pk hdo hdp (n := n + n0 + 19) (by omega) r).1
    have d2 := fun r => (q.depthE pk hdo hdp (n := n + n0 + 19) (by omega) r).2
    have n1 := fun r => (q.namedE hmem pk hl hn (n := n + n0 + 19) (by omega) r).1
    have n2 := fun r => (q.namedE hmem pk hl hn (n := n + n0 + 19) (by omega) r).2
    have n3 := fun r => (q.namedE hmem p4 hl hn (n := n + n0 + 19) (by omega) r).1
    have e4 : namedL 4 (lettersN 8 d) = namedL k (lettersN 8 d) := namedL_more hk (gq.letters hk 8 (by omega))
    rw [e4] at n3
    have c4 : ((4 : Nat) : Int) = 4 := rfl
    simp only [c4] at s3 n3
    have gN := named_gl k (lettersN 8 d)
    generalize hN : chars (namedL k (lettersN 8 d)) = NL at *
    have z1 := sizeN_pos 8 d
    have z2 := depthN_pos 8 d
    have z3 := depthN_le 8 d
    have gi : ∀ i : Int, 0 ≤ i → i < 100 → Gd 1 2000 (.int i) := fun i a b => Gd.int_of (by omega) (Nat.le_refl _)
    have w1 : showOk (.lst [.int (sizeN 8 d), .int (depthN 8 d), .int (sizeN 8 d), .int (depthN 8 d)]) = true :=
      (GL.cons (gi _ (by omega) (by omega)) (GL.cons (gi _ (by omega) (by omega)) (GL.cons (gi _ (by omega) (by omega)) (GL.cons (gi _ (by omega) (by omega)) .nil)))).lst.show (by decide) (by decide)
    have w2 : showOk (.lst [.lst NL, .lst NL]) = true := (GL.cons gN.lst (GL.cons gN.lst .nil)).lst.show (by decide) (by decide)
    have w3 : showOk (.lst [.lst NL, .lst NL, .int (sizeN 8 d)]) = true := (GL.cons gN.lst (GL.cons gN.lst (GL.cons ((gi _ (by omega) (by omega)).mono (by omega) (Nat.le_refl _)) .nil))).lst.show (by decide) (by decide)
    have hrd : biD Z .repr [d] = some (.str (Z.rp d), false) := by
      rw [bi_repr Z (fun a b e => by subst e; have := g1.pl; simp [plain] at this), if_pos (g1.show (by decide) (by decide))]
    have L1 := lc_eq (P := Z) (cl := callN Z (n + n0 + 19)) (r := [.o (.lst [.int a1, .int b1]), .v (.int k), .v d, .v (.int (sizeN 8 d)), .v (.int (depthN 8 d)), .v (.str (lettersN 8 d)), .e, .e, .e, .e]) (i := 9) (w := .seq) (e := .v 9) (es := [.sl (.c (.str [97, 98, 99, 100])) none (some (.v 1))]) (ifs := [.cmp (.isin) (.v 9) (.v 5)]) (g := fun x => x) (p := fun x => match x with | .str [c] => decide (c ∈ lettersN 8 d) | _ => false) (xs := chars (lets k))
      (by simp [cut_lets k hk, show 4 ≤ LIM by decide]; rfl) rfl rfl (by have := lets_len k; simp [show (lets k).length ≤ LIM by simp only [LIM]; omega]) (by simp) rfl (fun x hx => by
        obtain ⟨c, _, rfl⟩ := List.mem_map.mp hx
        exact ⟨by by_cases h : c ∈ lettersN 8 d <;> simp [hmem c, h], fun _ => ⟨false, by simp, rfl⟩⟩) (by have := lets_len k; simp only [chars, List.length_map, LIM]; omega)
    rw [filter_chars (q := fun c => decide (c ∈ lettersN 8 d)) (fun c => rfl), List.map_id', show chars ((lets k).filter fun c => decide (c ∈ lettersN 8 d)) = NL from hN] at L1
    have nl := gN.len
    have nl2 : NL.length + 1 ≤ LIM := by simp only [LIM]; omega
    simp [c40, pt, f1, L1, hrd, rd, s1, s2, d1, d2, setAll, setSl, isBox, keepL, List.replicate, LIM, w1]
    simp [n1, n2, n3, s3, w2, w3, f1, rd, keepL, setSl, isBox, ownsL, putO, nl2, hrd]
    exact fin_pot rfl ⟨rfl, rfl⟩ p1 (by simp [outs, gQueriesRight, List.range_succ, pt])
end Pv
namespace Pv
def b_standsAt : List MS := [.ret (.lc (.v 2) (.nm 2) (.range) [.bin (.add) (.bin (.sub) (.bi (.len) [.v 1]) (.bi (.len) [.v 0])) (.c (.int 1))] [.cmp (.eq) (.sl (.v 1) (some (.v 2)) (some (.bin (.add) (.v 2) (.bi (.len) [.v 0])))) (.v 0)] [2])]
def b_placesOf (fc fct fs : Nat) : List MS := [.expr (.call fc [.v 0] [0] []), .expr (.call fct [.v 0, .v 1] [0, 1] []), .expr (.call fct [.v 0, .v 2] [0, 1] []), .ret (.call fs [.v 1, .v 2] [0, 1] [])]
def b_lawStands : List MS := [.set 2 (.lst []), .for (.nm 3) (.range) [.bin (.add) (.bi (.len) [.v 1]) (.c (.int 1))] [.ife (.and [.cmp (.ge) (.bin (.sub) (.bi (.len) [.v 1]) (.v 3)) (.bi (.len) [.v 0]), .bi (.all) [.lc (.cmp (.eq) (.ix (.v 1) (.bin (.add) (.v 3) (.v 4))) (.v 5)) (.tp [.nm 4, .nm 5]) (.enum) [.v 0] [] [4, 5]]]) [.expr (.mu (.append) 2 [.v 3])] []], .ret (.v 2)]
/-- does the row stand at p -/
def standsB (row text : List Nat) (p : Nat) : Bool := decide (p + row.length ≤ text.length) && ((text.drop p).take row.length == row)
def standsL (row text : List Nat) : List Nat := (List.range (text.length + 1)).filter (standsB row text)
def natsD (xs : List Nat) : List D := xs.map fun (p : Nat) => .int (p : Int)
theorem filter_range (q : Nat → Bool) : ∀ (n m : Nat), m ≤ n → (∀ p, m ≤ p → p < n → q p = false) → (List.range n).filter q = (List.range m).filter q := by
  intro n
  induction n with
  | zero => intro m h _; rw [Nat.le_zero.mp h]
  | succ n ih =>
    intro m h hq
    by_cases c : m = n + 1
    · rw [c]
    · rw [List.range_succ, List.filter_append, ih m (by omega) fun p h1 h2 => hq p h1 (by omega)]
      simp [hq n (by omega) (by omega)]
theorem filter_ranged {q : Nat → Bool} {p : D → Bool} (h : ∀ i : Nat, p (.int i) = q i) (n : Nat) : (ranged 0 (n : Int)).filter p = natsD ((List.range n).filter q) := by
  unfold ranged natsD
  have e : (fun (k : Nat) => D.int (0 + (k : Int))) = fun (k : Nat) => D.int (k : Int) := funext fun k => by rw [Int.zero_add]
  rw [show ((n : Int) - 0).toNat = n by omega, e, List.filter_map]
  congr 1
  refine List.filter_congr fun i _ => ?_
  exact h i
theorem cut_mid {α : Type} (xs : List α) (p m : Nat) : cut xs (some (p : Int)) (some ((p : Int) + (m : Int))) = (xs.drop p).take m := by
  unfold cut six
  have e1 : ¬ ((p : Int)) < 0 := by omega
  have e2 : ¬ ((p : Int) + (m : Int)) < 0 := by omega
  simp only [e1, e2, if_false, Int.toNat_natCast, show ((p : Int) + (m : Int)).toNat = p + m by omega]
  by_cases c : p ≤ xs.length
  · rw [Nat.min_eq_left c]
    by_cases c2 : p + m ≤ xs.length
    · rw [Nat.min_eq_left c2, Nat.add_sub_cancel_left]
    · rw [Nat.min_eq_right (by omega), List.take_of_length_le (by simp), List.take_of_length_le (by simp; omega)]
  · have m1 : min p xs.length = xs.length := Nat.min_eq_right (by omega)
    have m2 : min (p + m) xs.length = xs.length := Nat.min_eq_right (by omega)
    rw [m1, m2, List.drop_length, List.drop_of_length_le (by omega)]
    simp
theorem standsAt_f {Z : Sys} {f : Nat} (hf : Z.fns[f]? = some ⟨2, 3, [false, false, false], b_standsAt⟩) (n : Nat) (row text : List Nat) (h1 : row.length ≤ 1000) (h2 : text.length ≤ 1000) :
    (callN Z (n + 1) f [.v (.str row), .v (.str text)]).Ok fun d fr o => d = .lst (natsD (standsL row text)) ∧ fr = true ∧ o = List.replicate 2 .e := by
  refine call_of hf rfl rfl ?_
  show (exB Z (callN Z n) (keepL 2 [false, false, false]) b_standsAt [.v (.str row), .v (.str text), .e]).Ok _
  have l1 : row.length ≤ LIM := by simp only [LIM]; omega
  have l2 : text.length ≤ LIM := by simp only [LIM]; omega
  have hr : rngOk ((text.length : Int) - (row.length : Int) + 1) = true := by unfold rngOk; simp; omega
  have L1 := lc_eq (P := Z) (cl := callN Z n) (r := [.v (.str row), .v (.str text), .e]) (i := 2) (w := .range) (e := .v 2) (es := [.bin (.add) (.bin (.sub) (.bi (.len) [.v 1]) (.bi (.len) [.v 0])) (.c (.int 1))]) (ifs := [.cmp (.eq) (.sl (.v 1) (some (.v 2)) (some (.bin (.add) (.v 2) (.bi (.len) [.v 0])))) (.v 0)]) (g := fun x => x)
    (p := fun x => match x with | .int i => (text.drop i.toNat).take row.length == row | _ => false) (xs := ranged 0 ((text.length : Int) - (row.length : Int) + 1))
    (by simp [l1, l2]; rfl) rfl rfl (by simp [hr]) (by simp) rfl (fun x hx => by
      obtain ⟨c, _, rfl⟩ := List.mem_map.mp (show x ∈ ranged 0 _ from hx)
      have e0 : (0 : Int) + (c : Int) = (c : Int) := by omega
      rw [e0]
      refine ⟨?_, fun _ => ⟨false, by simp, rfl⟩⟩
      have hc := cut_mid text c row.length
      by_cases h : (text.drop c).take row.length = row <;> simp [l1, l2, hc, h]) (by unfold ranged; simp [LIM]; omega)
  have main : ((ranged 0 ((text.length : Int) - (row.length : Int) + 1)).filter (fun x => match x with | .int i => (text.drop i.toNat).take row.length == row | _ => false)) = natsD (standsL row text) := by
    by_cases c : row.length ≤ text.length
    · have e : (text.length : Int) - (row.length : Int) + 1 = ((text.length - row.length + 1 : Nat) : Int) := by omega
      rw [e, filter_ranged (q := fun i => (text.drop i).take row.length == row) (fun i => by simp)]
      congr 1
      unfold standsL
      rw [filter_range (standsB row text) (text.length + 1) (text.length - row.length + 1) (by omega) (fun p h1 h2 => by
        unfold standsB
        rw [decide_eq_false (by omega)]
        rfl)]
      refine List.filter_congr fun p hp => ?_
      have := List.mem_range.mp hp
      unfold standsB
      rw [decide_eq_true (by omega)]
      rfl
    · have e : ranged 0 ((text.length : Int) - (row.length : Int) + 1) = [] := by unfold ranged; rw [show ((text.length : Int) - (row.length : Int) + 1 - 0).toNat = 0 by omega]; rfl
      rw [e, List.filter_nil]
      unfold standsL
      rw [List.filter_eq_nil_iff.mpr (fun p _ => by unfold standsB; rw [decide_eq_false (by omega)]; simp)]
      rfl
  rw [main, List.map_id'] at L1
  simp [b_standsAt, L1]
  exact fin_fr rfl rfl ⟨rfl, rfl, rfl⟩
def pairB (text : List Nat) (j : Nat) : D × D → D
  | (.int i, .str s) => .bl (decide ((text[j + i.toNat]?).map (fun c => [c]) = some s))
  | _ => .non
theorem stands_all (text : List Nat) (j : Nat) : ∀ (r : List Nat) (k : Nat), j + k + r.length ≤ text.length → ∃ bs, boolsOf ((ipairs k r).map (pairB text j)) = some bs ∧ bs.all id = ((text.drop (j + k)).take r.length == r)
  | [], k, _ => ⟨[], rfl, by simp⟩
  | c :: r, k, h => by
    simp only [List.length_cons] at h
    obtain ⟨bs, h1, h2⟩ := stands_all text j r (k + 1) (by omega)
    have hlt : j + k < text.length := by omega
    refine ⟨decide (text[j + k] = c) :: bs, ?_, ?_⟩
    · simp only [ipairs, List.map_cons, pairB, boolsOf, Int.toNat_natCast, h1, Option.map_some]
      simp [List.getElem?_eq_getElem hlt]
    · rw [List.drop_eq_getElem_cons hlt, List.length_cons, List.take_succ_cons, List.all_cons, h2]
      rw [show j + (k + 1) = j + k + 1 by omega]
      by_cases e : text[j + k] = c <;> simp [e]
theorem lawStands_f {Z : Sys} {f : Nat} (hf : Z.fns[f]? = some ⟨2, 6, [false, false, true, false, false, false], b_lawStands⟩) (n : Nat) (row text : List Nat) (h1 : row.length ≤ 1000) (h2 : text.length ≤ 1000) :
    (callN Z (n + 1) f [.v (.str row), .v (.str text)]).Ok fun d fr o => d = .lst (natsD (standsL row text)) ∧ fr = true ∧ o = List.replicate 2 .e := by
  refine call_of hf rfl rfl ?_
  show (exB Z (callN Z n) (keepL 2 [false, false, true, false, false, false]) b_lawStands [.v (.str row), .v (.str text), .e, .e, .e, .e]).Ok _
  have l1 : row.length ≤ LIM := by simp only [LIM]; omega
  have l2 : text.length ≤ LIM := by simp only [LIM]; omega
  have hr : rngOk ((text.length : Int) + 1) = true := rngOk_of (by omega) (by omega)
  simp [b_lawStands, keepL, setSl, isBox, l2, hr, tgIx]
  refine hk_of (forI_ix0 (fun j r => ∃ s3 s4 s5, r = [.v (.str row), .v (.str text), .o (.lst (natsD ((List.range j).filter (standsB row text)))), s3, s4, s5] ∧ Fr s3 ∧ Fr s4 ∧ Fr s5) _ _ ?_ ⟨.e, .e, .e, rfl, .inl rfl, .inl rfl, .inl rfl⟩) ?_
  · rintro i x hx r ⟨s3, s4, s5, rfl, f3, f4, f5⟩
    have hi : i < text.length + 1 ∧ x = .int (i : Int) := by
      unfold ranged at hx
      rw [List.getElem?_map] at hx
      obtain ⟨j, hj, rfl⟩ := Option.map_eq_some_iff.mp hx
      have := List.getElem?_range (n := ((text.length : Int) + 1 - 0).toNat) (i := i)
      obtain ⟨hlt, hv⟩ := List.getElem?_eq_some_iff.mp hj
      simp at hlt hv
      subst hv
      exact ⟨by omega, by rw [Int.zero_add]⟩
    obtain ⟨hi, rfl⟩ := hi
    refine ⟨[.v (.str row), .v (.str text), .o (.lst (natsD ((List.range i).filter (standsB row text)))), .v (.int i), s4, s5], by rcases f3 with rfl | ⟨u, rfl⟩ <;> simp [bindT, putV], ?_⟩
    have hlen : (natsD ((List.range i).filter (standsB row text))).length + 1 ≤ LIM := by
      have := List.length_filter_le (standsB row text) (List.range i)
      simp only [natsD, List.length_map, List.length_range, LIM] at *
      omega
    have next : (List.range (i + 1)).filter (standsB row text) = (List.range i).filter (standsB row text) ++ (if standsB row text i then [i] else []) := by
      rw [List.range_succ, List.filter_append]
      by_cases c : standsB row text i = true
      · rw [if_pos c, List.filter_cons_of_pos c, List.filter_nil]
      · rw [if_neg c, List.filter_cons_of_neg c, List.filter_nil]
    by_cases c : row.length ≤ text.length - i ∧ i + row.length ≤ text.length
    · have c1 : (row.length : Int) ≤ (text.length : Int) - (i : Int) := by omega
      obtain ⟨bs, b1, b2⟩ := stands_all text i row 0 (by omega)
      rw [Nat.add_zero] at b2
      have L1 := lc_eq2 (P := Z) (cl := callN Z n) (r := [.v (.str row), .v (.str text), .o (.lst (natsD ((List.range i).filter (standsB row text)))), .v (.int i), s4, s5]) (i := 4) (j := 5) (w := .enum) (e := .cmp (.eq) (.ix (.v 1) (.bin (.add) (.v 3) (.v 4))) (.v 5)) (es := [.v 0]) (ifs := []) (g := pairB text i) (p := fun _ => true) (ps := ipairs 0 row)
        (by simp; rfl) rfl rfl (by simp [l1, enum_pairs]) (by simp) (by simp) (by decide) (by rcases f4 with rfl | ⟨u, rfl⟩ <;> rcases f5 with rfl | ⟨v, rfl⟩ <;> rfl) (fun x hx => by
          obtain ⟨m, cc, hm, rfl⟩ := ipairs_mem hx
          have hml : m < row.length := (List.getElem?_eq_some_iff.mp hm).1
          have e0 : ((0 + m : Nat) : Int) = (m : Int) := by omega
          have hlt : i + m < text.length := by omega
          have ea : ati text ((i : Int) + (m : Int)) = some text[i + m] := by
            have a1 : (0 : Int) ≤ (i : Int) + (m : Int) := by omega
            have a2 : (i : Int) + (m : Int) < (text.length : Int) := by omega
            simp only [ati, ixn, a1, a2, if_true, Option.bind_some, show ((i : Int) + (m : Int)).toNat = i + m by omega]
            exact List.getElem?_eq_getElem hlt
          rw [e0]
          refine ⟨by simp, fun _ => ⟨false, ?_, ?_⟩⟩
          · simp [l2, ea, pairB, hlt]
            rw [Bool.eq_iff_iff]; simp
          · simp [pairB]) (by rw [ipairs_len]; exact l1)
      have fs : (ipairs 0 row).filter (fun _ => true) = ipairs 0 row := List.filter_eq_self.mpr (by simp)
      rw [fs] at L1
      have es : standsB row text i = bs.all id := by
        unfold standsB
        rw [decide_eq_true (by omega), b2]
        rfl
      have fr3 : Fr (.v (.int i)) := .inr ⟨_, rfl⟩
      cases hb : bs.all id with
      | true =>
        have nf : ¬ false ∈ bs := by
          intro hc
          have := List.all_eq_true.mp hb false hc
          cases this
        have e2 : natsD ((List.range i).filter (standsB row text)) ++ [.int (i : Int)] = natsD ((List.range (i + 1)).filter (standsB row text)) := by
          rw [next, if_pos (by rw [es, hb])]
          simp [natsD]
        simp [l1, l2, c1, L1, b1, nf, ownsL, putO, hlen]
        exact ⟨_, _, _, ⟨e2, rfl, rfl, rfl⟩, fr3, f4, f5⟩
      | false =>
        have nf : false ∈ bs := by
          have := hb
          rw [List.all_eq_false] at this
          obtain ⟨x, hx, hx2⟩ := this
          cases x with
          | true => simp at hx2
          | false => exact hx
        have e2 : (List.range (i + 1)).filter (standsB row text) = (List.range i).filter (standsB row text) := by
          rw [next, if_neg (by rw [es, hb]; simp), List.append_nil]
        simp [l1, l2, c1, L1, b1, nf]
        exact ⟨_, _, _, ⟨by rw [e2], rfl, rfl, rfl⟩, fr3, f4, f5⟩
    · have c1 : ¬ (row.length : Int) ≤ (text.length : Int) - (i : Int) := by omega
      have es : standsB row text i = false := by
        unfold standsB
        rw [decide_eq_false (by omega)]
        rfl
      simp [l1, l2, c1, next, es]
      exact ⟨_, _, _, ⟨rfl, rfl, rfl⟩, .inr ⟨_, rfl⟩, f4, f5⟩
  · rintro fl r ⟨rfl, s3, s4, s5, rfl, f3, f4, f5⟩
    have hl : (ranged 0 ((text.length : Int) + 1)).length = text.length + 1 := by unfold ranged; simp
    rw [hl]
    have e : standsL row text = (List.range (text.length + 1)).filter (standsB row text) := rfl
    rw [← e]
    generalize natsD (standsL row text) = zs
    simp [fin, outD, outs, List.range_succ]
end Pv
namespace Pv
def b_placesRight (fd ft fs fp : Nat) : List MS := [.set 2 (.bin (.add) (.c (.int 1)) (.call fd [.v 0, .bi (.min2) [.c (.int 2), .v 1]] [0, 1] [])), .set 3 (.call ft [.v 0, .v 2, .c (.int 3)] [0, 1, 2] []), .set 4 (.sl (.bin (.add) (.bin (.add) (.call ft [.v 0, .v 2, .c (.int 20)] [0, 1, 2] []) (.bin (.mul) (.v 3) (.call fd [.v 0, .c (.int 5)] [0, 1] []))) (.call ft [.v 0, .v 2, .c (.int 20)] [0, 1, 2] [])) none (some (.c (.int 60)))), .set 5 (.call fd [.v 0, .bin (.add) (.bi (.len) [.v 4]) (.c (.int 1))] [0, 1] []), .set 6 (.lst [.c (.str []), .v 3, .bin (.add) (.v 3) (.v 3), .v 4, .bin (.add) (.v 4) (.c (.str [97])), .sl (.v 4) (some (.v 5)) none, .sl (.v 4) none (some (.v 5)), .sl (.v 4) (some (.v 5)) (some (.bin (.add) (.v 5) (.c (.int 2)))), .call ft [.v 0, .v 1, .c (.int 3)] [0, 1, 2] [], .bin (.mul) (.c (.str [97])) (.c (.int 60)), .c (.str [97, 97])]), .for (.nm 7) (.seq) [.lc (.sl (.v 10) none (some (.c (.int 60)))) (.nm 10) (.seq) [.v 6] [] [10]] [.set 9 (.call fs [.v 7, .v 4] [0, 1] []), .set 8 (.call fp [.v 1, .v 7, .v 4] [0, 1, 2] []), .ife (.cmp (.ne) (.bi (.reprl) [.v 8, .call fp [.v 4, .v 7, .v 1] [2, 1, 0] []]) (.bi (.reprl) [.v 9, .v 9])) [.ret (.c (.bl false))] [], .expr (.mu (.append) 8 [.c (.non)]), .ife (.cmp (.ne) (.bi (.repr) [.call fp [.v 1, .v 7, .v 4] [0, 1, 2] []]) (.bi (.repr) [.v 9])) [.ret (.c (.bl false))] []], .ret (.c (.bl true))]
def gPlacesRight (fd ft fs fp : Nat) : Fn := ⟨2, 11, [true, false, false, false, false, false, false, false, true, false, false], b_placesRight fd ft fs fp⟩
def b_isTextP (fc ft : Nat) : List MS := [.expr (.call fc [.v 0] [0] []), .ret (.call ft [.v 0, .v 1] [0, 1] [(2, .int 60)])]
def b_lawIsText : List MS := [.ife (.or [.not (.isi (.v 1) [.str]), .cmp (.gt) (.bi (.len) [.v 1]) (.c (.int 60))]) [.ret (.c (.bl false))] [], .ret (.bi (.all) [.lc (.cmp (.isin) (.v 2) (.bi (.list) [.sl (.c (.str [97, 98, 99, 100])) none (some (.v 0))])) (.nm 2) (.seq) [.v 1] [] [2]])]
def b_textsRight (fd fk ft fs fp : Nat) : List MS := [.set 2 (.call ft [.v 0, .v 1, .c (.int 60)] [0, 1, 2] []), .set 3 (.call fk [.v 0, .lst [.c (.str [101]), .c (.str [65]), .c (.str [32]), .c (.str [10]), .c (.str [48]), .sl (.c (.str [97, 98, 99, 100])) (some (.v 1)) (some (.bin (.add) (.v 1) (.c (.int 1)))), .c (.str [122])]] [0, 1] []), .set 4 (.call fd [.v 0, .bin (.add) (.bi (.len) [.v 2]) (.c (.int 1))] [0, 1] []), .set 5 (.lst [.v 2, .bin (.add) (.bin (.add) (.sl (.v 2) none (some (.v 4))) (.v 3)) (.sl (.v 2) (some (.v 4)) none), .bin (.mul) (.c (.str [97])) (.c (.int 60)), .bin (.mul) (.c (.str [97])) (.c (.int 61)), .c (.str []), .c (.non), .c (.int 0), .c (.bl true), .lst [], .bi (.list) [.v 2], .tup [.v 2], .tup [.c (.str [97])], .dic [] [], .c (.str [97, 98, 99, 100]), .c (.str [97, 98, 99]), .c (.str [97, 98])]), .for (.nm 6) (.seq) [.v 5] [.set 7 (.call fs [.v 1, .v 6] [0, 1] []), .ife (.cmp (.ne) (.bi (.reprl) [.call fp [.v 1, .v 6] [0, 1] [], .call fp [.v 6, .v 1] [1, 0] []]) (.bi (.reprl) [.v 7, .v 7])) [.ret (.c (.bl false))] []], .ret (.c (.bl true))]
def gTextsRight (fd fk ft fs fp : Nat) : Fn := ⟨2, 8, [true, false, false, false, false, false, false, false], b_textsRight fd fk ft fs fp⟩
/-- a text of the first k letters, of at most 60 signs -/
structure Txt (k : Nat) (s : List Nat) : Prop where
  len : s.length ≤ 60
  lt : ∀ c, c ∈ s → Lt k c
theorem standsAtE {Z : Sys} {f : Nat} (hf : Z.fns[f]? = some ⟨2, 3, [false, false, false], b_standsAt⟩) (n : Nat) {row text : List Nat} (h1 : row.length ≤ 1000) (h2 : text.length ≤ 1000) (r : Env) :
    callE Z (callN Z (n + 1)) f [0, 1] [] [(.str row, false), (.str text, false)] r = .ok (.lst (natsD (standsL row text)), true) r :=
  callE_eqF (m := 2) hf (sl := [.str row, .str text]) (by intro y hy; simp at hy; rcases hy with rfl | rfl <;> rfl) (by simp) (by simp [argSl, List.range_succ, List.findIdx?, List.findIdx?.go]) (standsAt_f hf n row text h1 h2) rfl
theorem lawStandsE {Z : Sys} {f : Nat} (hf : Z.fns[f]? = some ⟨2, 6, [false, false, true, false, false, false], b_lawStands⟩) {n : Nat} (hn : 1 ≤ n) {row text : List Nat} (h1 : row.length ≤ 1000) (h2 : text.length ≤ 1000) (r : Env) :
    callE Z (callN Z n) f [0, 1] [] [(.str row, false), (.str text, false)] r = .ok (.lst (natsD (standsL row text)), true) r := by
  obtain ⟨n, rfl⟩ : ∃ e, n = e + 1 := ⟨n - 1, by omega⟩
  exact callE_eqF (m := 2) hf (sl := [.str row, .str text]) (by intro y hy; simp at hy; rcases hy with rfl | rfl <;> rfl) (by simp) (by simp [argSl, List.range_succ, List.findIdx?, List.findIdx?.go]) (lawStands_f hf n row text h1 h2) rfl
theorem CF.placesE {Z : Sys} {N : QN} {C : CN} (q : CF Z N C) {f fs : Nat} (hs : Z.fns[fs]? = some ⟨2, 3, [false, false, false], b_standsAt⟩) (hf : Z.fns[f]? = some ⟨3, 3, [false, false, false], b_placesOf C.check C.ctext fs⟩) {n k : Nat} (hn : 5 ≤ n) (h1 : 1 ≤ k) (hk : k ≤ 4) {row text : List Nat} (hr : Txt k row) (ht : Txt k text) (r : Env) :
    callE Z (callN Z n) f [0, 1, 2] [] [(.int k, false), (.str row, false), (.str text, false)] r = .ok (.lst (natsD (standsL row text)), true) r ∧
    callE Z (callN Z n) f [2, 1, 0] [] [(.str text, false), (.str row, false), (.int k, false)] r = .ok (.lst (natsD (standsL row text)), true) r := by
  obtain ⟨n, rfl⟩ : ∃ e, n = e + 5 := ⟨n - 5, by omega⟩
  have fk := q.fk
  have fs0 : fkeep Z fs 0 = false ∧ fkeep Z fs 1 = false := by simp [fkeep, hs]
  have main : (callN Z (n + 5) f [.v (.int k), .v (.str row), .v (.str text)]).Ok fun e fr o => e = .lst (natsD (standsL row text)) ∧ fr = true ∧ o = List.replicate 3 .e := by
    refine call_of hf rfl rfl ?_
    show (exB Z (callN Z (n + 4)) (keepL 3 [false, false, false]) (b_placesOf C.check C.ctext fs) [.v (.int k), .v (.str row), .v (.str text)]).Ok _
    have e1 := q.checkE (n := n + 4) (by omega) h1 hk
    have e2 := q.ctextE (n := n + 4) (by omega) hk hr.len hr.lt
    have e3 := q.ctextE (n := n + 4) (by omega) hk ht.len ht.lt
    have e4 := standsAtE hs (n + 3) (row := row) (text := text) (by have := hr.len; omega) (by have := ht.len; omega)
    simp [b_placesOf, fk, fs0, e1, e2, e3, e4]
    exact fin_fr rfl rfl ⟨rfl, rfl, rfl⟩
  exact ⟨callE_eqF (m := 3) hf (sl := [.int k, .str row, .str text]) (by intro y hy; simp at hy; rcases hy with rfl | rfl | rfl <;> rfl) (by simp) (by simp [argSl, List.range_succ, List.findIdx?, List.findIdx?.go]) main rfl,
    callE_eqF (m := 3) hf (sl := [.int k, .str row, .str text]) (by intro y hy; simp at hy; rcases hy with rfl | rfl | rfl <;> rfl) (by simp) (by simp [argSl, List.range_succ, List.findIdx?, List.findIdx?.go]) main rfl⟩
theorem nats_gl {row text : List Nat} (h : text.length ≤ 100) : GL 1 250000 (natsD (standsL row text)) := by
  refine (GL.all (w := 2000) (n := 101) (fun x hx => ?_) ?_).mono (Nat.le_refl _) (by omega)
  · obtain ⟨p, hp, rfl⟩ := List.mem_map.mp hx
    have := List.mem_range.mp (List.mem_filter.mp hp).1
    exact Gd.int_of (by omega) (Nat.le_refl _)
  · have := List.length_filter_le (standsB row text) (List.range (text.length + 1))
    simp only [natsD, standsL, List.length_map, List.length_range] at *
    omega
theorem callTextN {Z : Sys} {f fd : Nat} (hd : DrawF Z fd) (hf : Z.fns[f]? = some (gText fd)) {N : Nat} (hN : 2 ≤ N) {a b k m : Int} {r : Env} {Q : D × Bool → Env → Prop} {j : Nat} (hr : r[j]? = some (pt a b)) (h : PotOk a b) (h1 : 0 < k) (h2 : k ≤ 4) (h3 : 0 ≤ m) (h4 : m ≤ 1000)
    (q : ∀ (s : List Nat) a' b', (s.length : Int) ≤ m → (∀ c, c ∈ s → Lt k c) → PotOk a' b' → Q (.str s, false) (r.set j (pt a' b'))) :
    (callE Z (callN Z N) f [0, 1, 2] [] [(.ref j, false), (.int k, false), (.int m, false)] r).Ok Q := by
  obtain ⟨n, rfl⟩ : ∃ n, N = n + 2 := ⟨N - 2, by omega⟩
  exact callText hd hf hr h h1 h2 h3 h4 q
theorem placesRight_f {Z : Sys} {N : QN} {C : CN} {f fd ft fs fp fsa : Nat} (q : CF Z N C) (hd : DrawF Z fd) (ht : Z.fns[ft]? = some (gText fd)) (hs : Z.fns[fs]? = some ⟨2, 6, [false, false, true, false, false, false], b_lawStands⟩)
    (hsa : Z.fns[fsa]? = some ⟨2, 3, [false, false, false], b_standsAt⟩) (hp : Z.fns[fp]? = some ⟨3, 3, [false, false, false], b_placesOf C.check C.ctext fsa⟩)
    (hf : Z.fns[f]? = some (gPlacesRight fd ft fs fp)) (n k : Nat) (h1 : 1 ≤ k) (hk : k ≤ 4) (a b : Int) (h : PotOk a b) :
    (callN Z (n + 10) f [pt a b, .v (.int k)]).Ok (Dr (fun d fr => d = .bl true ∧ fr = false) 1) := by
  have e0 := fk_draw hd
  have e2 : fkeep Z ft 0 = true ∧ fkeep Z ft 1 = false ∧ fkeep Z ft 2 = false := by simp [fkeep, ht, gText]
  have e3 : fkeep Z fs 0 = false ∧ fkeep Z fs 1 = false ∧ fkeep Z fp 0 = false ∧ fkeep Z fp 1 = false ∧ fkeep Z fp 2 = false := by simp [fkeep, hs, hp]
  refine call_of hf rfl rfl ?_
  show (exB Z (callN Z (n + 9)) (keepL 2 [true, false, false, false, false, false, false, false, true, false, false]) (b_placesRight fd ft fs fp) [pt a b, .v (.int k), .e, .e, .e, .e, .e, .e, .e, .e, .e]).Ok (fin (gPlacesRight fd ft fs fp) (Dr (fun d fr => d = .bl true ∧ fr = false) 1))
  have hmin : ∃ m : Int, (if (k : Int) < 2 then (k : Int) else 2) = m ∧ 1 ≤ m ∧ m ≤ 2 ∧ m ≤ k := ⟨_, rfl, by split <;> omega, by split <;> omega, by split <;> omega⟩
  obtain ⟨m, em, m1, m2, m3⟩ := hmin
  simp [b_placesRight, pt, e0, em]
  refine callDrawN hd (by omega) (j := 0) rfl h (by omega) (by omega) fun i a1 b1 l1 u1 p1 => ?_
  simp [pt, e2, keepL, setSl, isBox]
  refine callTextN hd ht (by omega) (j := 0) rfl p1 (by omega) (by omega) (by omega) (by omega) fun row a2 b2 lr cr p2 => ?_
  simp [pt, e2, e0, keepL, setSl, isBox]
  refine callTextN hd ht (by omega) (j := 0) rfl p2 (by omega) (by omega) (by omega) (by omega) fun t1 a3 b3 lt1 ct1 p3 => ?_
  simp [pt, e2, e0, keepL, setSl, isBox]
  refine callDrawN hd (by omega) (j := 0) rfl p3 (by omega) (by omega) fun i4 a4 b4 l4 u4 p4 => ?_
  have lm : row.length * i4.toNat ≤ LIM ∧ i4 < 1000000 ∧ -1000000 < i4 := by
    refine ⟨?_, by omega, by omega⟩
    have : row.length * i4.toNat ≤ 3 * 5 := Nat.mul_le_mul (by omega) (by omega)
    simp only [LIM]; omega
  simp [pt, e2, e0, keepL, setSl, isBox, lm]
  have lm2 : t1.length + i4.toNat * row.length ≤ LIM := by
    have : i4.toNat * row.length ≤ 5 * 3 := Nat.mul_le_mul (by omega) (by omega)
    simp only [LIM]; omega
  simp [lm2]
  refine callTextN hd ht (by omega) (j := 0) rfl p4 (by omega) (by omega) (by omega) (by omega) fun t2 a5 b5 lt2 ct2 p5 => ?_
  have lm3 : t1.length + (i4.toNat * row.length + t2.length) ≤ LIM := by
    have : i4.toNat * row.length ≤ 5 * 3 := Nat.mul_le_mul (by omega) (by omega)
    simp only [LIM]; omega
  simp [pt, e2, e0, keepL, setSl, isBox, lm3, cut_to]
  refine ⟨by omega, by simp only [LIM]; omega, ?_⟩
  obtain ⟨tx, etx, xt⟩ : ∃ tx, List.take 60 (t1 ++ ((List.replicate i4.toNat row).flatten ++ t2)) = tx ∧ Txt k tx := by
    refine ⟨_, rfl, ⟨by simp; omega, fun c hc => ?_⟩⟩
    have hc := List.mem_of_mem_take hc
    simp only [List.mem_append, List.mem_flatten, List.mem_replicate] at hc
    rcases hc with hc | ⟨l, ⟨_, el⟩, hc⟩ | hc
    · exact (ct1 c hc).mono (by omega)
    · rw [el] at hc; exact (cr c hc).mono (by omega)
    · exact (ct2 c hc).mono (by omega)
  have elen : min 60 (t1.length + (i4.toNat * row.length + t2.length)) = tx.length := by rw [← etx]; simp
  rw [etx, elen]
  have xl := xt.len
  have xr : Txt k row := ⟨by omega, fun c hc => (cr c hc).mono (by omega)⟩
  clear etx elen lm lm2 lm3 ct1 ct2 lt1 lt2 t1 t2
  refine callDrawN hd (by omega) (j := 0) rfl p5 (by omega) (by omega) fun at' a6 b6 l6 u6 p6 => ?_
  have g1 : row.length + row.length ≤ LIM ∧ tx.length + 1 ≤ LIM := by simp only [LIM]; omega
  simp [pt, e2, e0, keepL, setSl, isBox, g1, cut_to, cut_from, l6]
  refine ⟨by simp only [LIM]; omega, ?_⟩
  refine callTextN hd ht (by omega) (j := 0) rfl p6 (by omega) (by omega) (by omega) (by omega) fun t3 a7 b7 lt3 ct3 p7 => ?_
  have g2 : 60 ≤ LIM := by decide
  simp [pt, e2, e0, e3, keepL, setSl, isBox, g2, tgIx]
  have L1 : ∀ X : List (List Nat), X.length ≤ 100 → (∀ s, s ∈ X → s.length ≤ 1000) → (evE Z (callN Z (n + 9)) (.lc (.sl (.v 10) none (some (.c (.int 60)))) (.nm 10) (.seq) [.v 6] [] [10]) [pt a7 b7, .v (.int k), .v (.int (1 + i)), .v (.str row), .v (.str tx), .v (.int at'), .v (.lst (X.map .str)), .e, .e, .e, .e]).Ok
      fun v r => v = (.lst (X.map fun s => .str (s.take 60)), true) ∧ r = [pt a7 b7, .v (.int k), .v (.int (1 + i)), .v (.str row), .v (.str tx), .v (.int at'), .v (.lst (X.map .str)), .e, .e, .e, .e] := by
    intro X hX hXl
    have := lc_map (P := Z) (cl := callN Z (n + 9)) (r := [pt a7 b7, .v (.int k), .v (.int (1 + i)), .v (.str row), .v (.str tx), .v (.int at'), .v (.lst (X.map .str)), .e, .e, .e, .e]) (i := 10) (w := .seq) (e := .sl (.v 10) none (some (.c (.int 60)))) (es := [.v 6]) (g := fun x => match x with | .str s => .str (s.take 60) | _ => .non) (xs := X.map .str)
      (by simp; rfl) rfl rfl (by simp [show X.length ≤ LIM by simp only [LIM]; omega]) (by simp) rfl (fun x hx => by
        obtain ⟨s, hs, rfl⟩ := List.mem_map.mp hx
        have := hXl s hs
        exact ⟨false, by simp [cut_to, show s.length ≤ LIM by simp only [LIM]; omega], rfl⟩) (by simp only [List.length_map, LIM]; omega)
    rw [this]
    exact ⟨by simp, rfl⟩
  have XL : ∀ s, s ∈ [[], row, row ++ row, tx, tx ++ [97], List.drop at'.toNat tx, List.take at'.toNat tx, cut tx (some at') (some (at' + 2)), t3, List.replicate 60 97, [97, 97]] → s.length ≤ 100 ∧ ∀ c, c ∈ s → Lt k c := by
    have a1 : Lt (k : Int) 97 := ⟨by omega, by omega⟩
    have cm := cut_mid tx at'.toNat 2
    rw [show ((at'.toNat : Nat) : Int) = at' by omega] at cm
    have cm : cut tx (some at') (some (at' + 2)) = (tx.drop at'.toNat).take 2 := cm
    intro s hs
    rw [cm] at hs
    simp only [List.mem_cons, List.not_mem_nil, or_false] at hs
    have mk : ∀ s : List Nat, s.length ≤ 100 → (∀ c, c ∈ s → c ∈ row ∨ c ∈ tx ∨ c ∈ t3 ∨ c = 97) → s.length ≤ 100 ∧ ∀ c, c ∈ s → Lt k c := fun s a b => ⟨a, fun c hc => by
      rcases b c hc with h | h | h | rfl
      · exact xr.lt c h
      · exact xt.lt c h
      · exact ct3 c h
      · exact a1⟩
    rcases hs with rfl | rfl | rfl | rfl | rfl | rfl | rfl | rfl | rfl | rfl | rfl
    · exact mk _ (by simp) (by simp)
    · exact mk _ (by omega) fun c h => .inl h
    · exact mk _ (by simp; omega) fun c h => by rcases List.mem_append.mp h with h | h <;> exact .inl h
    · exact mk _ (by omega) fun c h => .inr (.inl h)
    · exact mk _ (by simp; omega) fun c h => by rcases List.mem_append.mp h with h | h; exact .inr (.inl h); exact .inr (.inr (.inr (by simpa using h)))
    · exact mk _ (by simp; omega) fun c h => .inr (.inl (List.mem_of_mem_drop h))
    · exact mk _ (by simp; omega) fun c h => .inr (.inl (List.mem_of_mem_take h))
    · exact mk _ (by simp; omega) fun c h => .inr (.inl (List.mem_of_mem_drop (List.mem_of_mem_take h)))
    · exact mk _ (by omega) fun c h => .inr (.inr (.inl h))
    · exact mk _ (by simp) fun c h => .inr (.inr (.inr (List.eq_of_mem_replicate h)))
    · exact mk _ (by simp) fun c h => .inr (.inr (.inr (by simpa using h)))
  have L2 := L1 [[], row, row ++ row, tx, tx ++ [97], List.drop at'.toNat tx, List.take at'.toNat tx, cut tx (some at') (some (at' + 2)), t3, List.replicate 60 97, [97, 97]] (by simp) (fun s hs => by
    have := XL s hs
    omega)
  refine hk_of L2 ?_
  rintro _ _ ⟨rfl, rfl⟩
  have XT : ∀ x, x ∈ ([[], row, row ++ row, tx, tx ++ [97], List.drop at'.toNat tx, List.take at'.toNat tx, cut tx (some at') (some (at' + 2)), t3, List.replicate 60 97, [97, 97]].map fun (s : List Nat) => D.str (s.take 60)) → ∃ s, x = .str s ∧ Txt k s := by
    intro x hx
    obtain ⟨s, hs, rfl⟩ := List.mem_map.mp hx
    obtain ⟨s1, s2⟩ := XL s hs
    exact ⟨_, rfl, by simp; omega, fun c hc => s2 c (List.mem_of_mem_take hc)⟩
  clear XL
  generalize [[], row, row ++ row, tx, tx ++ [97], List.drop at'.toNat tx, List.take at'.toNat tx, cut tx (some at') (some (at' + 2)), t3, List.replicate 60 97, [97, 97]].map (fun (s : List Nat) => D.str (s.take 60)) = XS at *
  generalize ([[], row, row ++ row, tx, tx ++ [97], List.drop at'.toNat tx, List.take at'.toNat tx, cut tx (some at') (some (at' + 2)), t3, List.replicate 60 97, [97, 97]].map D.str) = YS at *
  simp [pt, tgIx, keepL]
  clear L1 L2
  refine hk_of (forI_inv (fun _ r => ∃ s7 s8 s9, r = [pt a7 b7, .v (.int k), .v (.int (1 + i)), .v (.str row), .v (.str tx), .v (.int at'), .v (.lst YS), s7, s8, s9, .e] ∧ Fr s7 ∧ (s8 = .e ∨ ∃ u, s8 = .o u) ∧ Fr s9) _ 0 _ ?_ ⟨.e, .e, .e, rfl, .inl rfl, .inl rfl, .inl rfl⟩) ?_
  · rintro x hx _ r ⟨s7, s8, s9, rfl, f7, f8, f9⟩
    obtain ⟨rw, rfl, xw⟩ := XT x hx
    have lw := xw.len
    refine ⟨[pt a7 b7, .v (.int k), .v (.int (1 + i)), .v (.str row), .v (.str tx), .v (.int at'), .v (.lst YS), .v (.str rw), s8, s9, .e], by rcases f7 with rfl | ⟨u, rfl⟩ <;> simp [bindT, putV, pt], ?_⟩
    have c1 := fun r => lawStandsE hs (n := n + 9) (by omega) (row := rw) (text := tx) (by omega) (by omega) r
    have c2 := fun r => (q.placesE hsa hp (n := n + 9) (by omega) h1 hk xw xt r).1
    have c3 := fun r => (q.placesE hsa hp (n := n + 9) (by omega) h1 hk xw xt r).2
    have gz := nats_gl (row := rw) (text := tx) (by omega)
    generalize natsD (standsL rw tx) = zs at *
    have w1 : showOk (.lst [.lst zs, .lst zs]) = true := (GL.cons gz.lst (GL.cons gz.lst .nil)).lst.show (by decide) (by decide)
    have w2 : showOk (.lst zs) = true := gz.lst.show (by decide) (by decide)
    have lz := gz.len
    have lz2 : zs.length + 1 ≤ LIM := by simp only [LIM]; omega
    have h9 : ∀ s8, setSl 0 9 (.lst zs) true [pt a7 b7, .v (.int k), .v (.int (1 + i)), .v (.str row), .v (.str tx), .v (.int at'), .v (.lst YS), .v (.str rw), s8, s9, .e] = some [pt a7 b7, .v (.int k), .v (.int (1 + i)), .v (.str row), .v (.str tx), .v (.int at'), .v (.lst YS), .v (.str rw), s8, .v (.lst zs), .e] := by
      intro s8
      rcases f9 with rfl | ⟨u, rfl⟩ <;> simp [setSl]
    have h8 : setSl 1 8 (.lst zs) true [pt a7 b7, .v (.int k), .v (.int (1 + i)), .v (.str row), .v (.str tx), .v (.int at'), .v (.lst YS), .v (.str rw), s8, .v (.lst zs), .e] = some [pt a7 b7, .v (.int k), .v (.int (1 + i)), .v (.str row), .v (.str tx), .v (.int at'), .v (.lst YS), .v (.str rw), .o (.lst zs), .v (.lst zs), .e] := by
      rcases f8 with rfl | ⟨u, rfl⟩ <;> simp [setSl, isBox]
    simp only [pt] at h8 h9
    simp [pt, e3, c1, c2, c3, keepL, h8, h9, w1, w2, ownsL, putO, lz2]
    exact ⟨_, _, _, ⟨rfl, rfl, rfl⟩, .inr ⟨_, rfl⟩, .inr ⟨_, rfl⟩, .inr ⟨_, rfl⟩⟩
  · rintro fl r ⟨rfl, s7, s8, s9, rfl, f7, f8, f9⟩
    simp [pt]
    exact fin_pot rfl ⟨rfl, rfl⟩ p7 (by simp [outs, gPlacesRight, List.range_succ, pt])
end Pv
namespace Pv
theorem lawIsText_f {Z : Sys} {f : Nat} (hi : InOne Z) (hf : Z.fns[f]? = some ⟨2, 3, [false, false, false], b_lawIsText⟩) (n k : Nat) (hk : k ≤ 4) (d : D) (h : okv d = true) (hs : ∀ s, d = .str s → s.length ≤ LIM) :
    (callN Z (n + 1) f [.v (.int k), .v d]).Ok (Pu (.bl (textD k 60 d)) 2) := by
  refine call_of hf rfl rfl ?_
  show (exB Z (callN Z n) (keepL 2 [false, false, false]) b_lawIsText [.v (.int k), .v d, .e]).Ok _
  cases d <;> first
    | (simp [okv] at h; done)
    | (simp [b_lawIsText, isTy, isiOk, textD, fin, outD, outs, Pu, isRef, List.range_succ]; done)
    | skip
  rename_i s
  have hl := hs s rfl
  have hc := cut_lets k hk
  have h4 : 4 ≤ LIM := by decide
  have h5 : (lets k).length ≤ LIM := by have := lets_len k; simp only [LIM]; omega
  have e2 := plain_chars DEEP (lets k)
  by_cases c : s.length ≤ 60
  · have c' : ¬ (60 : Int) < (s.length : Int) := by omega
    have L1 := lc_map (P := Z) (cl := callN Z n) (r := [.v (.int k), .v (.str s), .e]) (i := 2) (w := .seq) (e := .cmp (.isin) (.v 2) (.bi (.list) [.sl (.c (.str [97, 98, 99, 100])) none (some (.v 0))])) (es := [.v 1]) (g := fun x => .bl (inL x (chars (lets k)))) (xs := chars s)
      (by simp; rfl) rfl rfl (by simp [hl]) (by simp) rfl (fun x hx => by
        obtain ⟨c0, _, rfl⟩ := List.mem_map.mp hx
        simp only [List.all_eq_true] at e2
        exact ⟨false, by simp [hc, h4, h5]; exact fun x hx => e2 x hx, rfl⟩) (by simp only [chars, List.length_map]; exact hl)
    simp [b_lawIsText, isTy, hl, c', L1]
    rw [bools_map (fun x => inL x (chars (lets k)))]
    simp [fin, outD, outs, Pu, isRef, List.range_succ, textD, c, chars, Function.comp_def]
  · have c' : (60 : Int) < (s.length : Int) := by omega
    simp [b_lawIsText, isTy, hl, c']
    simp [fin, outD, outs, Pu, isRef, List.range_succ, textD, c]
theorem isTextP_f {Z : Sys} {N : QN} {C : CN} (q : CF Z N C) {f : Nat} (hf : Z.fns[f]? = some ⟨2, 2, [false, false], b_isTextP C.check N.text⟩) (n k : Nat) (h1 : 1 ≤ k) (hk : k ≤ 4) (d : D) (h : okv d = true) (hs : ∀ s, d = .str s → s.length ≤ LIM) :
    (callN Z (n + 4) f [.v (.int k), .v d]).Ok (Pu (.bl (textD k 60 d)) 2) := by
  refine call_of hf rfl rfl ?_
  show (exB Z (callN Z (n + 3)) (keepL 2 [false, false]) (b_isTextP C.check N.text) [.v (.int k), .v d]).Ok _
  have e1 := q.checkE (n := n + 3) (by omega) h1 hk
  have e2 := fun r => q.toQF0.textE (n := n + 1) (r := r) hk h hs
  have fk := q.fk
  have fk0 := q.toQF0.fk
  have rd := okv_ref h
  simp [b_isTextP, fk, fk0, rd, e1, e2]
  exact fin_pu rfl rfl
theorem textsRight_f {Z : Sys} {N : QN} {C : CN} {f fd fk' ft fs fp : Nat} (q : CF Z N C) (hone : InOne Z) (hd : DrawF Z fd) (hkp : Z.fns[fk']? = some (gPick fd)) (ht : Z.fns[ft]? = some (gText fd)) (hs : Z.fns[fs]? = some ⟨2, 3, [false, false, false], b_lawIsText⟩)
    (hp : Z.fns[fp]? = some ⟨2, 2, [false, false], b_isTextP C.check N.text⟩)
    (hf : Z.fns[f]? = some (gTextsRight fd fk' ft fs fp)) (n k : Nat) (h1 : 1 ≤ k) (hk : k ≤ 4) (a b : Int) (h : PotOk a b) :
    (callN Z (n + 10) f [pt a b, .v (.int k)]).Ok (Dr (fun d fr => d = .bl true ∧ fr = false) 1) := by
  have e0 := fk_draw hd
  have e2 : fkeep Z ft 0 = true ∧ fkeep Z ft 1 = false ∧ fkeep Z ft 2 = false ∧ fkeep Z fk' 0 = true ∧ fkeep Z fk' 1 = false := by simp [fkeep, ht, gText, hkp, gPick]
  have e3 : fkeep Z fs 0 = false ∧ fkeep Z fs 1 = false ∧ fkeep Z fp 0 = false ∧ fkeep Z fp 1 = false := by simp [fkeep, hs, hp]
  refine call_of hf rfl rfl ?_
  show (exB Z (callN Z (n + 9)) (keepL 2 [true, false, false, false, false, false, false, false]) (b_textsRight fd fk' ft fs fp) [pt a b, .v (.int k), .e, .e, .e, .e, .e, .e]).Ok (fin (gTextsRight fd fk' ft fs fp) (Dr (fun d fr => d = .bl true ∧ fr = false) 1))
  simp [b_textsRight, pt, e2]
  refine callTextN hd ht (by omega) (j := 0) rfl h (by omega) (by omega) (by omega) (by omega) fun tx a1 b1 lt ct p1 => ?_
  have hcut : ∃ ks, cut [97, 98, 99, 100] (some (k : Int)) (some ((k : Int) + 1)) = ks ∧ ks.length ≤ 1 := ⟨_, rfl, by
    have := cut_mid [97, 98, 99, 100] k 1
    have e : cut [97, 98, 99, 100] (some (k : Int)) (some ((k : Int) + 1)) = ([97, 98, 99, 100].drop k).take 1 := this
    rw [e]; simp; omega⟩
  obtain ⟨kx, ek, lk⟩ := hcut
  have g4 : 4 ≤ LIM := by decide
  simp [pt, e2, e0, keepL, setSl, isBox, ek, g4]
  refine callPickN hd hkp (by omega) (j := 0) rfl p1 (by simp) (by simp) (by simp) fun kd a2 b2 mk p2 => ?_
  obtain ⟨ks, rfl, lks⟩ : ∃ ks, kd = .str ks ∧ ks.length ≤ 1 := by
    simp only [List.mem_cons, List.not_mem_nil, or_false] at mk
    rcases mk with rfl | rfl | rfl | rfl | rfl | rfl | rfl <;> exact ⟨_, rfl, by first | exact lk | simp⟩
  have l1 : tx.length ≤ LIM := by simp only [LIM]; omega
  simp [pt, e2, e0, keepL, setSl, isBox, l1]
  refine callDrawN hd (by omega) (j := 0) rfl p2 (by omega) (by omega) fun at' a3 b3 l3 u3 p3 => ?_
  simp [pt, e2, e0, keepL, setSl, isBox, l1, cut_to, cut_from, l3]
  refine ⟨by simp only [LIM]; omega, by simp only [LIM]; omega, by decide, by decide, by simp [tgIx], ?_⟩
  refine hk_of (forI_inv (fun _ r => ∃ s5 s6 s7, r = [pt a3 b3, .v (.int k), .v (.str tx), .v (.str ks), .v (.int at'), s5, s6, s7] ∧ Fr s6 ∧ Fr s7) _ 0 _ ?_ ⟨_, .e, .e, rfl, .inl rfl, .inl rfl⟩) ?_
  · rintro x hx _ r ⟨s5, s6, s7, rfl, f6, f7⟩
    have hv : okv x = true ∧ ∀ s, x = .str s → s.length ≤ LIM := by
      have L : ∀ y : List Nat, y.length ≤ 1000 → okv (.str y) = true ∧ ∀ s, D.str y = .str s → s.length ≤ LIM := fun y hy => ⟨rfl, fun s hs => by cases hs; simp only [LIM]; omega⟩
      have O : ∀ d : D, okv d = true → (∀ s, d ≠ .str s) → okv d = true ∧ ∀ s, d = .str s → s.length ≤ LIM := fun d a b => ⟨a, fun s hs => absurd hs (b s)⟩
      simp only [List.mem_cons, List.not_mem_nil, or_false] at hx
      rcases hx with rfl | rfl | rfl | rfl | rfl | rfl | rfl | rfl | rfl | rfl | rfl | rfl | rfl | rfl | rfl | rfl
      · exact L _ (by omega)
      · exact L _ (by simp; omega)
      · exact L _ (by simp)
      · exact L _ (by simp)
      · exact L _ (by simp)
      · exact O _ rfl (by simp)
      · exact O _ rfl (by simp)
      · exact O _ rfl (by simp)
      · exact O _ rfl (by simp)
      · exact O _ rfl (by simp)
      · exact O _ rfl (by simp)
      · exact O _ rfl (by simp)
      · exact O _ rfl (by simp)
      · exact L _ (by simp)
      · exact L _ (by simp)
      · exact L _ (by simp)
    obtain ⟨ox, lx⟩ := hv
    clear hx
    have rx := okv_ref ox
    refine ⟨[pt a3 b3, .v (.int k), .v (.str tx), .v (.str ks), .v (.int at'), s5, .v x, s7], by rcases f6 with rfl | ⟨u, rfl⟩ <;> simp [bindT, putV, pt], ?_⟩
    have c1 := fun r => callE_eq hs (r := r) (n := n + 9) (ix := [0, 1]) (df := []) (as := [(.int k, false), (x, false)]) (sl := [.int k, x]) (by intro y hy; simp at hy; rcases hy with rfl | rfl <;> first | rfl | exact rx) (by simp) (by simp [argSl, argOf_pl rx, List.range_succ, List.findIdx?, List.findIdx?.go]) (lawIsText_f hone hs (n + 8) k hk x ox lx)
    have c2 := fun r => callE_eq hp (r := r) (n := n + 9) (ix := [0, 1]) (df := []) (as := [(.int k, false), (x, false)]) (sl := [.int k, x]) (by intro y hy; simp at hy; rcases hy with rfl | rfl <;> first | rfl | exact rx) (by simp) (by simp [argSl, argOf_pl rx, List.range_succ, List.findIdx?, List.findIdx?.go]) (isTextP_f q hp (n + 5) k h1 hk x ox lx)
    have c3 := fun r => callE_eq hp (r := r) (n := n + 9) (ix := [1, 0]) (df := []) (as := [(x, false), (.int k, false)]) (sl := [.int k, x]) (by intro y hy; simp at hy; rcases hy with rfl | rfl <;> first | rfl | exact rx) (by simp) (by simp [argSl, argOf_pl rx, List.range_succ, List.findIdx?, List.findIdx?.go]) (isTextP_f q hp (n + 5) k h1 hk x ox lx)
    have sb := show_bb (textD k 60 x)
    have h7 : ∀ d, setSl 0 7 (.bl d) false [pt a3 b3, .v (.int k), .v (.str tx), .v (.str ks), .v (.int at'), s5, .v x, s7] = some [pt a3 b3, .v (.int k), .v (.str tx), .v (.str ks), .v (.int at'), s5, .v x, .v (.bl d)] := by
      intro d
      rcases f7 with rfl | ⟨u, rfl⟩ <;> simp [setSl]
    simp only [pt] at h7
    simp [pt, e3, rx, c1, c2, c3, keepL, h7, sb]
    exact ⟨_, _, _, ⟨rfl, rfl, rfl⟩, .inr ⟨_, rfl⟩, .inr ⟨_, rfl⟩⟩
  · rintro fl r ⟨rfl, s5, s6, s7, rfl, f6, f7⟩
    simp [pt]
    exact fin_pot rfl ⟨rfl, rfl⟩ p3 (by simp [outs, gTextsRight, List.range_succ, pt])
/-- the def f draws from a pot and answers True -/
structure YesF (Z : Sys) (f n0 : Nat) : Prop where
  ex : ∃ F, Z.fns[f]? = some F ∧ F.np = 2 ∧ F.keep.take 2 = [true, false]
  ok : ∀ (n k : Nat) (a b : Int), 1 ≤ k → k ≤ 4 → PotOk a b → (callN Z (n + n0) f [pt a b, .v (.int k)]).Ok (Dr (fun d fr => d = .bl true ∧ fr = false) 1)
theorem YesF.fk {Z : Sys} {f n0 : Nat} (q : YesF Z f n0) : fkeep Z f 0 = true ∧ fkeep Z f 1 = false := by
  obtain ⟨F, hF, hn, hk⟩ := q.ex
  cases hh : F.keep with
  | nil => rw [hh] at hk; cases hk
  | cons x xs => cases xs with
    | nil => rw [hh] at hk; cases hk
    | cons y ys => rw [hh] at hk; simp at hk; simp [fkeep, hF, hh, hk]
theorem callYes {Z : Sys} {f n0 : Nat} (q : YesF Z f n0) {M : Nat} (hM : n0 ≤ M) {k : Nat} {a b : Int} {r : Env} {Q : D × Bool → Env → Prop} {j : Nat} (hr : r[j]? = some (pt a b)) (h : PotOk a b) (h1 : 1 ≤ k) (hk : k ≤ 4)
    (g : ∀ a' b', PotOk a' b' → Q (.bl true, false) (r.set j (pt a' b'))) :
    (callE Z (callN Z M) f [0, 1] [] [(.ref j, false), (.int k, false)] r).Ok Q := by
  obtain ⟨n, rfl⟩ : ∃ n, M = n + n0 := ⟨M - n0, by omega⟩
  have fk := q.fk
  obtain ⟨F, hF, hnp, hkp⟩ := q.ex
  refine callPot (ds := [.int k]) hF hr rfl (by unfold callOk; rw [hnp]; rfl) rfl ?_ (q.ok n k a b h1 hk h) ?_
  · rw [hnp]; simp [argSl, fk, hr, argOf_o, List.range_succ, List.findIdx?, List.findIdx?.go, pt]
  · rintro d fr a' b' ⟨rfl, rfl⟩ _ hp
    exact g a' b' hp
def b_right13 (fd f1 f2 f3 : Nat) : List MS := [.set 1 (.bin (.add) (.c (.int 1)) (.call fd [.v 0, .c (.int 4)] [0, 1] [])), .ret (.and [.call f1 [.v 0, .v 1] [0, 1] [], .call f2 [.v 0, .v 1] [0, 1] [], .call f3 [.v 0, .v 1] [0, 1] []])]
def gRight13 (fd f1 f2 f3 : Nat) : Fn := ⟨1, 2, [true, false], b_right13 fd f1 f2 f3⟩
theorem right13_f {Z : Sys} {f fd f1 f2 f3 n0 : Nat} (hd : DrawF Z fd) (q1 : YesF Z f1 n0) (q2 : YesF Z f2 n0) (q3 : YesF Z f3 n0) (hf : Z.fns[f]? = some (gRight13 fd f1 f2 f3)) (n : Nat) (hn : 2 ≤ n0) (a b : Int) (h : PotOk a b) :
    (callN Z (n + n0 + 1) f [pt a b]).Ok (Dr (fun d fr => d = .bl true ∧ fr = false) 0) := by
  have e0 := fk_draw hd
  have k1 := q1.fk
  have k2 := q2.fk
  have k3 := q3.fk
  refine call_of hf rfl rfl ?_
  show (exB Z (callN Z (n + n0)) (keepL 1 [true, false]) (b_right13 fd f1 f2 f3) [pt a b, .e]).Ok (fin (gRight13 fd f1 f2 f3) (Dr (fun d fr => d = .bl true ∧ fr = false) 0))
  simp [b_right13, pt, e0]
  refine callDrawN hd (by omega) (j := 0) rfl h (by omega) (by omega) fun i a1 b1 l1 u1 p1 => ?_
  obtain ⟨k, hk, hk1, hk4⟩ : ∃ k : Nat, 1 + i = (k : Int) ∧ 1 ≤ k ∧ k ≤ 4 := ⟨(1 + i).toNat, by omega, by omega, by omega⟩
  simp [pt, k1, keepL, setSl, isBox, hk]
  refine callYes q1 (by omega) (j := 0) rfl p1 hk1 hk4 fun a2 b2 p2 => ?_
  simp [pt, k2]
  refine callYes q2 (by omega) (j := 0) rfl p2 hk1 hk4 fun a3 b3 p3 => ?_
  simp [pt, k3]
  refine callYes q3 (by omega) (j := 0) rfl p3 hk1 hk4 fun a4 b4 p4 => ?_
  simp [pt]
  exact fin_pot rfl ⟨rfl, rfl⟩ p4 (by simp [outs, gRight13, List.range_succ, pt])
end Pv
namespace Pv
/-- the places of a letter -/
def posF (c : Nat) : Nat → List Nat → List Nat
  | _, [] => []
  | k, x :: t => if x = c then k :: posF c (k + 1) t else posF c (k + 1) t
theorem mem_posF {c i : Nat} : ∀ {t : List Nat} {k : Nat}, i ∈ posF c k t ↔ ∃ j, i = k + j ∧ t[j]? = some c
  | [], k => by simp [posF]
  | x :: t, k => by
    have ih := mem_posF (c := c) (i := i) (t := t) (k := k + 1)
    have mv : (∃ j, i = k + j ∧ (x :: t)[j]? = some c) ↔ (i = k ∧ x = c) ∨ ∃ j, i = k + 1 + j ∧ t[j]? = some c := by
      constructor
      · rintro ⟨j, h1, h2⟩
        cases j with
        | zero => exact .inl ⟨h1, by simpa using h2⟩
        | succ j => exact .inr ⟨j, by omega, by simpa using h2⟩
      · rintro (⟨h1, h2⟩ | ⟨j, h1, h2⟩)
        · exact ⟨0, h1, by simpa using h2⟩
        · exact ⟨j + 1, by omega, by simpa using h2⟩
    rw [mv, ← ih]
    by_cases h : x = c <;> simp [posF, h]
theorem posF_len {c : Nat} : ∀ (t : List Nat) (k : Nat), (posF c k t).length = t.count c
  | [], k => rfl
  | x :: t, k => by by_cases h : x = c <;> simp [posF, h, posF_len t (k + 1)]
theorem posF_ge {c k : Nat} {t : List Nat} {i : Nat} (h : i ∈ posF c k t) : k ≤ i := by obtain ⟨j, h, _⟩ := mem_posF.mp h; omega
theorem posF_sorted {c : Nat} : ∀ (t : List Nat) (k : Nat), (posF c k t).Pairwise (· < ·)
  | [], k => by simp [posF]
  | x :: t, k => by
    by_cases h : x = c
    · simp only [posF, h, if_true, List.pairwise_cons]
      exact ⟨fun i hi => by have := posF_ge hi; omega, posF_sorted t (k + 1)⟩
    · simp only [posF, h, if_false]
      exact posF_sorted t (k + 1)
def posN (c : Nat) (t : List Nat) : List Nat := posF c 0 t
theorem mem_posN {c i : Nat} {t : List Nat} : i ∈ posN c t ↔ t[i]? = some c := by
  unfold posN
  rw [mem_posF]
  constructor
  · rintro ⟨j, h, e⟩; rw [show i = j by omega]; exact e
  · exact fun h => ⟨i, by omega, h⟩
theorem posN_len (c : Nat) (t : List Nat) : (posN c t).length = t.count c := posF_len t 0
theorem posN_le (c : Nat) (t : List Nat) : (posN c t).length ≤ t.length := by rw [posN_len]; exact List.count_le_length
def hasRow (s t : List Nat) : Bool := !(standsL s t).isEmpty
def preB (s t : List Nat) : Bool := decide (s.length ≤ t.length) && (t.take s.length == s)
def sufB (s t : List Nat) : Bool := decide (s.length ≤ t.length) && ((t.drop (t.length - s.length)).take s.length == s)
def nearI (n p j : Int) : Bool := decide (0 < (if p - j < 0 then -(p - j) else p - j)) && decide ((if p - j < 0 then -(p - j) else p - j) ≤ n + 1)
def nearB (a b : Nat) (n : Int) (t : List Nat) : Bool := (posN a t).any fun (i : Nat) => (posN b t).any fun (j : Nat) => nearI n (i : Int) (j : Int)
def aheadB (a b : Nat) (t : List Nat) : Bool := (posN a t).any fun i => (posN b t).any fun j => decide (i < j)
def bareH (w : List Nat) (ys : List D) (t : List Nat) : Bool :=
  match ys with
  | [] => w == [97, 108, 108]
  | [.str s] => if w = wFirst then preB s t else if w = wLast then sufB s t else hasRow s t
  | [.int n] => decide (n ≤ (t.length : Int))
  | [.str [a], .str [b]] => aheadB a b t
  | [.str [a], .int n] => decide (n ≤ (t.count a : Int))
  | [.str [a], .str [b], .int n] => nearB a b n t
  | [.str [a], .int m, .int r] => decide ((t.count a : Int) % m = r)
  | _ => false
def holdsN : Nat → D → List Nat → Bool
  | m + 1, .tup (.str w :: ys), t => if w = wNot then (match ys with | y :: _ => !holdsN m y t | [] => false) else if w = wAnd then ys.all (fun y => holdsN m y t) else if w = wOr then ys.any (fun y => holdsN m y t) else bareH w ys t
  | _, _, _ => false
/-- bare queries, of any letters -/
inductive Wb : D → Prop
  | word (c : Nat) : Wb (.tup [.str [119, 111, 114, 100], .str [c]])
  | row (s : List Nat) : s.length ≤ 1000 → Wb (.tup [.str [114, 111, 119], .str s])
  | near (c d : Nat) (i : Int) : 0 ≤ i → i < 1000 → Wb (.tup [.str [110, 101, 97, 114], .str [c], .str [d], .int i])
  | ahead (c d : Nat) : Wb (.tup [.str [97, 104, 101, 97, 100], .str [c], .str [d]])
  | first (s : List Nat) : s.length ≤ 1000 → Wb (.tup [.str [102, 105, 114, 115, 116], .str s])
  | last (s : List Nat) : s.length ≤ 1000 → Wb (.tup [.str [108, 97, 115, 116], .str s])
  | often (c : Nat) (i : Int) : 0 ≤ i → i < 1000 → Wb (.tup [.str [111, 102, 116, 101, 110], .str [c], .int i])
  | long (i : Int) : 0 ≤ i → i < 1000 → Wb (.tup [.str [108, 111, 110, 103], .int i])
  | rest (c : Nat) (m i : Int) : 1 ≤ m → m ≤ 1000 → 0 ≤ i → i < m → Wb (.tup [.str [114, 101, 115, 116], .str [c], .int m, .int i])
  | all : Wb (.tup [.str [97, 108, 108]])
  | none : Wb (.tup [.str [110, 111, 110, 101]])
inductive Wq : Nat → D → Prop
  | sg {n : Nat} {d : D} : Wb d → Wq n d
  | no {n : Nat} {d : D} : Wq n d → Wq (n + 1) (.tup [.str [110, 111, 116], d])
  | ao {n : Nat} {w : List Nat} {xs : List D} : (w = [97, 110, 100] ∨ w = [111, 114]) → xs ≠ [] → xs.length ≤ 1000 → (∀ x, x ∈ xs → Wq n x) → Wq (n + 1) (.tup (.str w :: xs))
theorem Sg.wb {k : Int} {d : D} (h : Sg k d) : Wb d := by
  cases h with
  | word x a => exact .word x
  | row s a b h => exact .row s (by omega)
  | near x y i a b c d => exact .near x y i c (by omega)
  | ahead x y a b => exact .ahead x y
  | first s a h => exact .first s (by omega)
  | last s a h => exact .last s (by omega)
  | often x i a b c => exact .often x i b (by omega)
  | long i a b => exact .long i a (by omega)
  | rest x m i a b c d e => exact .rest x m i (by omega) (by omega) d e
  | all => exact .all
  | none => exact .none
theorem Qy.wq {k : Int} : ∀ {m : Nat} {d : D}, Qy k m d → Wq m d := by
  intro m d h
  induction h with
  | sg h => exact .sg h.wb
  | no _ ih => exact .no ih
  | ao hw h1 h2 _ ih => exact .ao hw (by intro e; rw [e] at h1; simp at h1) (by omega) ih
theorem Wb.noRef {d : D} (h : Wb d) : isRef d = false := by cases h <;> rfl
theorem Wq.noRef {n : Nat} {d : D} (h : Wq n d) : isRef d = false := by cases h with | sg h => exact h.noRef | no _ => rfl | ao _ _ _ _ => rfl
/-- how a program's world finds rows in texts and counts letters -/
structure StrF (Z : Sys) : Prop where
  ins : ∀ s t, Z.inS s t = hasRow s t
  cnt : ∀ c t, Z.cnt [c] t = t.count c
def b_spotsOf : List MS := [.ret (.lc (.v 2) (.tp [.nm 2, .nm 3]) (.enum) [.v 1] [.cmp (.eq) (.v 3) (.v 0)] [2, 3])]
def gSpots : Fn := ⟨2, 4, [false, false, false, false], b_spotsOf⟩
theorem posF_pairs (c : Nat) : ∀ (t : List Nat) (k : Nat), ((ipairs k t).filter (fun x => eqD x.2 (.str [c]))).map (·.1) = natsD (posF c k t)
  | [], k => rfl
  | x :: t, k => by
    have ih := posF_pairs c t (k + 1)
    by_cases h : x = c
    · simp only [ipairs, posF, h, if_true, List.filter, eqD_ss', beq_self_eq_true, List.map_cons, ih, natsD]
    · have h2 : ([x] == [c]) = false := by simpa using h
      simp only [ipairs, posF, h, if_false, List.filter, eqD_ss', h2, ih]
theorem spots_f {Z : Sys} {f : Nat} (hf : Z.fns[f]? = some gSpots) (n c : Nat) (t : List Nat) (h : t.length ≤ 1000) :
    (callN Z (n + 1) f [.v (.str [c]), .v (.str t)]).Ok fun d fr o => d = .lst (natsD (posN c t)) ∧ fr = true ∧ o = List.replicate 2 .e := by
  refine call_of hf rfl rfl ?_
  show (exB Z (callN Z n) (keepL 2 [false, false, false, false]) b_spotsOf [.v (.str [c]), .v (.str t), .e, .e]).Ok _
  have l1 : t.length ≤ LIM := by simp only [LIM]; omega
  have L1 := lc_eq2 (P := Z) (cl := callN Z n) (r := [.v (.str [c]), .v (.str t), .e, .e]) (i := 2) (j := 3) (w := .enum) (e := .v 2) (es := [.v 1]) (ifs := [.cmp (.eq) (.v 3) (.v 0)]) (g := (·.1)) (p := fun x => eqD x.2 (.str [c])) (ps := ipairs 0 t)
    (by simp; rfl) rfl rfl (by simp [l1, enum_pairs]) (by simp) (by simp) (by decide) rfl (fun x hx => by
      obtain ⟨m, cc, hm, rfl⟩ := ipairs_mem hx
      refine ⟨?_, fun _ => ⟨false, by simp, rfl⟩⟩
      by_cases h : cc = c <;> simp [h]) (by rw [ipairs_len]; exact l1)
  rw [posF_pairs] at L1
  simp [b_spotsOf, L1]
  exact fin_fr rfl rfl ⟨rfl, rfl, rfl⟩
theorem spotsE {Z : Sys} {f : Nat} (hf : Z.fns[f]? = some gSpots) {n : Nat} (hn : 1 ≤ n) (c : Nat) {t : List Nat} (h : t.length ≤ 1000) (r : Env) :
    callE Z (callN Z n) f [0, 1] [] [(.str [c], false), (.str t, false)] r = .ok (.lst (natsD (posN c t)), true) r := by
  obtain ⟨n, rfl⟩ : ∃ e, n = e + 1 := ⟨n - 1, by omega⟩
  exact callE_eqF (m := 2) hf (sl := [.str [c], .str t]) (by intro y hy; simp at hy; rcases hy with rfl | rfl <;> rfl) (by simp [gSpots]) (by simp [gSpots, argSl, List.range_succ, List.findIdx?, List.findIdx?.go]) (spots_f hf n c t h) rfl
theorem forI_ret {tg : Tg} {body : Env → Res Fl} (q : D → Bool) (I : Env → Prop) : ∀ (xs : List D) (r : Env),
    (∀ x, x ∈ xs → ∀ r, I r → ∃ r1, bindT tg x r = some r1 ∧ (body r1).Ok fun f r2 => I r2 ∧ if q x then f = .rt (.bl true) false else f = .nx) → I r →
    (forI tg body xs r).Ok fun f r' => I r' ∧ if xs.any q then f = .rt (.bl true) false else f = .nx := by
  intro xs
  induction xs with
  | nil => intro r _ h; exact ⟨h, rfl⟩
  | cons x xs ih =>
    intro r hb h
    obtain ⟨r1, e1, h1⟩ := hb x List.mem_cons_self r h
    unfold forI
    rw [e1]
    simp only [opt_some, Res.Ok_bind]
    refine h1.mono fun f r2 h2 => ?_
    obtain ⟨i2, h2⟩ := h2
    by_cases c : q x = true
    · rw [if_pos c] at h2
      subst h2
      simp only [List.any_cons, c, Bool.true_or, if_true]
      exact ⟨i2, rfl⟩
    · rw [if_neg c] at h2
      subst h2
      have c' : q x = false := by simpa using c
      simp only [List.any_cons, c', Bool.false_or]
      exact ih r2 (fun y hy => hb y (List.mem_cons_of_mem _ hy)) i2
end Pv
namespace Pv
open PySem
theorem sS_ln (x : List Nat) : (sS x).length = x.length := by simp [sS, Str.length]
theorem sS_ls (x : List Nat) : (sS x).cps.toList = x := by simp [sS]
theorem inStr_row (s t : List Nat) : inStr s t = hasRow s t := by
  rw [Bool.eq_iff_iff, hasRow]
  unfold inStr
  rw [PySem.StrLaws.found_iff]
  have e : ∀ i, (i + (sS s).length ≤ (sS t).length ∧ Builtin.Str.subAt (sS t) (sS s) i = true) ↔ standsB s t i = true := by
    intro i
    rw [PySem.StrLaws.subAt_eq, sS_ln, sS_ln, sS_ls, sS_ls]
    unfold standsB
    simp only [Bool.and_eq_true, decide_eq_true_eq]
  constructor
  · rintro ⟨i, hi⟩
    have hi := (e i).mp hi
    have m : i ∈ standsL s t := by
      unfold standsL
      rw [List.mem_filter, List.mem_range]
      refine ⟨?_, hi⟩
      unfold standsB at hi
      simp at hi
      omega
    cases h : standsL s t with
    | nil => rw [h] at m; cases m
    | cons p ps => rfl
  · intro h
    cases h2 : standsL s t with
    | nil => rw [h2] at h; cases h
    | cons p ps =>
      have m : p ∈ standsL s t := by rw [h2]; exact List.mem_cons_self
      unfold standsL at m
      exact ⟨p, (e p).mpr (List.mem_filter.mp m).2⟩
theorem chain_count (c : Nat) (x : Str) : ∀ (cuts : List Nat) (a f : Nat), PySem.StrLaws.ChainG x ⟨#[c]⟩ x.length a cuts f → (∀ k, f ≤ k → ¬ PySem.StrLaws.At x ⟨#[c]⟩ x.length k) →
    cuts.length = (x.cps.toList.drop a).count c := by
  intro cuts
  induction cuts with
  | nil =>
    intro a f h hn
    have e : f = a := h
    subst e
    symm
    rw [List.length_nil, List.count_eq_zero]
    intro hm
    obtain ⟨j, hj⟩ := List.getElem?_of_mem hm
    rw [List.getElem?_drop] at hj
    exact hn (f + j) (by omega) ((PySem.StrLaws.subAt_one x c (f + j)).mpr hj)
  | cons d r ih =>
    intro a f h hn
    obtain ⟨h1, h2, h3, h4⟩ := h
    have hd : x.cps.toList[d]? = some c := (PySem.StrLaws.subAt_one x c d).mp h2
    have := ih (d + 1) f h4 hn
    rw [List.length_cons, this]
    have sp : x.cps.toList.drop a = (x.cps.toList.drop a).take (d - a) ++ x.cps.toList.drop d := by
      have := List.take_append_drop (d - a) (x.cps.toList.drop a)
      rw [List.drop_drop, show a + (d - a) = d by omega] at this
      exact this.symm
    have z : ((x.cps.toList.drop a).take (d - a)).count c = 0 := by
      rw [List.count_eq_zero]
      intro hm
      obtain ⟨j, hj⟩ := List.getElem?_of_mem hm
      have hlt : j < d - a := by
        have h1 : j < ((x.cps.toList.drop a).take (d - a)).length := (List.getElem?_eq_some_iff.mp hj).1
        simp at h1
        omega
      rw [List.getElem?_take_of_lt hlt, List.getElem?_drop] at hj
      exact h3 (a + j) (by omega) (by omega) ((PySem.StrLaws.subAt_one x c (a + j)).mpr hj)
    obtain ⟨hlt, hv⟩ := List.getElem?_eq_some_iff.mp hd
    have dd : x.cps.toList.drop d = c :: x.cps.toList.drop (d + 1) := by
      rw [List.drop_eq_getElem_cons hlt, hv]
    rw [sp, List.count_append, z, dd]
    simp
theorem cntStr_one (c : Nat) (t : List Nat) : cntStr [c] t = t.count c := by
  unfold cntStr
  obtain ⟨f, h, hn⟩ := PySem.StrLaws.occ_tight (sS t) ⟨#[c]⟩ (by simp [Str.length])
  have := chain_count c (sS t) _ 0 f h hn
  rw [List.drop_zero, sS_ls] at this
  exact this
theorem strF_of {Z : Sys} (h1 : Z.inS = inStr) (h2 : Z.cnt = cntStr) : StrF Z := ⟨fun s t => by rw [h1, inStr_row], fun c t => by rw [h2, cntStr_one]⟩
theorem inStr_one (c : Nat) (y : List Nat) : inStr [c] y = decide (c ∈ y) := by
  unfold inStr
  have := PySem.StrLaws.found_one (sS y) c
  simpa [sS] using this
theorem inMem_of {Z : Sys} (h : Z.inS = inStr) : InMem Z := fun c s => by rw [h, inStr_one]
end Pv
namespace K12
open Pv PySem L2
def st (i : Nat) : Stmt := PySem.Challenge.pw_tellindex_k12_whole_reading.main.body.getD i (.Pass ⟨0, 0, 0, 0⟩)
def n_is_integer : List Str := ["value"]
def n_is_within : List Str := ["value", "least", "most"]
def n_check_letters : List Str := ["value"]
def n_letter_list : List Str := ["letters"]
def n_is_letter : List Str := ["letters", "value"]
def n_is_text_of : List Str := ["letters", "value", "most", "some", "letter"]
def n_check_text : List Str := ["letters", "value"]
def n_is_bare : List Str := ["letters", "value", "word", "rest", "one"]
def n_is_bare_one : List Str := ["letters", "word", "value"]
def n_parts_of : List Str := ["query"]
def n_is_built : List Str := ["letters", "value", "depth", "part"]
def n_size_of : List Str := ["query", "part"]
def n_is_query_of : List Str := ["letters", "value"]
def n_check_query : List Str := ["letters", "value"]
def n_spots_of : List Str := ["letter", "text", "place", "one"]
def n_are_near : List Str := ["query", "text", "far", "place", "other"]
def n_are_ahead : List Str := ["query", "text", "near", "far"]
def n_holds_bare : List Str := ["query", "text", "word", "many"]
def n_holds : List Str := ["query", "text", "part"]
def n_reads : List Str := ["letters", "query", "text"]
def n_trace : List Str := ["letters", "query", "text", "place"]
def n__law_pot : List Str := ["script", "k", "cell"]
def n__law_draw : List Str := ["pot", "many", "digit"]
def n__law_pick : List Str := ["pot", "some"]
def n__law_text : List Str := ["pot", "letters", "most", "at"]
def n__law_letter : List Str := ["pot", "letters"]
def n__law_single : List Str := ["pot", "letters", "one", "other", "row", "by", "some"]
def n__law_query : List Str := ["pot", "letters", "deep", "way", "at"]
def n__law_spots : List Str := ["letter", "text", "at", "one"]
def n__law_stands : List Str := ["row", "text", "at"]
def n__law_single_holds : List Str := ["query", "text", "word", "many", "one", "other", "near", "far"]
def n__law_holds : List Str := ["query", "text", "told", "part"]
def n__law_texts : List Str := ["letters", "most", "found", "last", "turn", "text", "late", "letter"]
def n__law_texts_right : List Str := ["pot", "letters", "query", "most", "text", "due", "told", "at", "turn"]
def n__law_same : List Str := ["pot", "letters", "one", "other", "some", "number", "part", "late"]
def n__law_right : List Str := ["pot", "letters", "query", "shown", "texts", "one", "other", "text", "turn"]
def n_law : List Str := ["script", "k"]
def M : Tab := { N := [], gl := [("SIGNS", .str [97, 98, 99, 100]), ("MOST_LENGTH", .int 60), ("MOST_SIZE", .int 40), ("MOST_DEPTH", .int 8), ("MOST_PARTS", .int 6), ("PARTED", .tup [.str [97, 110, 100], .str [111, 114]]), ("MOST_BETWEEN", .int 5), ("MOST_OFTEN", .int 6), ("MOST_LONG", .int 9), ("MOST_DIVISOR", .int 4)], fn := ([("is_integer", 0), ("is_within", 1), ("check_letters", 2), ("letter_list", 3), ("is_letter", 4), ("is_text_of", 5), ("check_text", 6), ("is_bare", 7), ("is_bare_one", 8), ("parts_of", 9), ("is_built", 10), ("size_of", 11), ("is_query_of", 12), ("check_query", 13), ("spots_of", 14), ("are_near", 15), ("are_ahead", 16), ("holds_bare", 17), ("holds", 18), ("reads", 19)] : List (Str × Nat)) ++ ([("trace", 20), ("_law_pot", 21), ("_law_draw", 22), ("_law_pick", 23), ("_law_text", 24), ("_law_letter", 25), ("_law_single", 26), ("_law_query", 27), ("_law_spots", 28), ("_law_stands", 29), ("_law_single_holds", 30), ("_law_holds", 31), ("_law_texts", 32), ("_law_texts_right", 33), ("_law_same", 34), ("_law_right", 35), ("law", 36)] : List (Str × Nat)), bl := ["len", "abs", "int", "bool", "repr", "str", "sum", "any", "all", "list", "tuple", "min", "max", "divmod", "range", "enumerate", "isinstance"], pt := ([⟨3, 1, [], [0], []⟩, ⟨7, 2, [], [0, 1], []⟩, ⟨14, 2, [], [0, 1], []⟩, ⟨17, 2, [], [0, 1], []⟩, ⟨2, 1, [], [0], []⟩, ⟨13, 2, [], [0, 1], []⟩, ⟨6, 2, [], [0, 1], []⟩, ⟨18, 2, [], [0, 1], []⟩, ⟨23, 2, [], [0, 1], []⟩, ⟨26, 2, [], [0, 1], []⟩, ⟨28, 2, [], [0, 1], []⟩, ⟨30, 2, [], [0, 1], []⟩, ⟨24, 3, [], [0, 1, 2], []⟩, ⟨20, 3, [], [0, 1, 2], []⟩, ⟨22, 2, [], [0, 1], []⟩, ⟨27, 3, [], [0, 1, 2], []⟩, ⟨34, 2, [], [0, 1], []⟩, ⟨0, 1, [], [0], []⟩, ⟨1, 3, [], [0, 1, 2], []⟩, ⟨5, 2, [], [0, 1], [(2, .int 60)]⟩] : List Pat) ++ ([⟨4, 2, [], [0, 1], []⟩, ⟨10, 3, [], [0, 1, 2], []⟩, ⟨12, 2, [], [0, 1], []⟩, ⟨15, 2, [], [0, 1], []⟩, ⟨16, 2, [], [0, 1], []⟩, ⟨25, 2, [], [0, 1], []⟩, ⟨32, 2, [], [0, 1], []⟩, ⟨31, 2, [], [0, 1], []⟩, ⟨8, 3, [], [0, 1, 2], []⟩, ⟨11, 1, [], [0], []⟩, ⟨29, 2, [], [0, 1], []⟩, ⟨33, 3, [], [0, 1, 2], []⟩, ⟨35, 1, [], [0], []⟩, ⟨19, 3, [], [0, 1, 2], []⟩, ⟨20, 0, ["text", "query", "letters"], [2, 1, 0], []⟩, ⟨19, 0, ["text", "query", "letters"], [2, 1, 0], []⟩, ⟨21, 2, [], [0, 1], []⟩, ⟨9, 1, [], [0], []⟩, ⟨36, 1, [], [0], []⟩] : List Pat) }
def c_is_integer : List MS := (defBody (st 7)).map (cS { M with N := n_is_integer } 30 (defScope (st 7)))
def c_is_within : List MS := (defBody (st 8)).map (cS { M with N := n_is_within } 30 (defScope (st 8)))
def c_check_letters : List MS := (defBody (st 9)).map (cS { M with N := n_check_letters } 30 (defScope (st 9)))
def c_letter_list : List MS := (defBody (st 10)).map (cS { M with N := n_letter_list } 30 (defScope (st 10)))
def c_is_letter : List MS := (defBody (st 11)).map (cS { M with N := n_is_letter } 30 (defScope (st 11)))
def c_is_text_of : List MS := (defBody (st 14)).map (cS { M with N := n_is_text_of } 30 (defScope (st 14)))
def c_check_text : List MS := (defBody (st 15)).map (cS { M with N := n_check_text } 30 (defScope (st 15)))
def c_is_bare : List MS := (defBody (st 25)).map (cS { M with N := n_is_bare } 30 (defScope (st 25)))
def c_is_bare_one : List MS := (defBody (st 26)).map (cS { M with N := n_is_bare_one } 30 (defScope (st 26)))
def c_parts_of : List MS := (defBody (st 27)).map (cS { M with N := n_parts_of } 30 (defScope (st 27)))
def c_is_built : List MS := (defBody (st 28)).map (cS { M with N := n_is_built } 30 (defScope (st 28)))
def c_size_of : List MS := (defBody (st 29)).map (cS { M with N := n_size_of } 30 (defScope (st 29)))
def c_is_query_of : List MS := (defBody (st 30)).map (cS { M with N := n_is_query_of } 30 (defScope (st 30)))
def c_check_query : List MS := (defBody (st 31)).map (cS { M with N := n_check_query } 30 (defScope (st 31)))
def c_spots_of : List MS := (defBody (st 33)).map (cS { M with N := n_spots_of } 30 (defScope (st 33)))
def c_are_near : List MS := (defBody (st 34)).map (cS { M with N := n_are_near } 30 (defScope (st 34)))
def c_are_ahead : List MS := (defBody (st 35)).map (cS { M with N := n_are_ahead } 30 (defScope (st 35)))
def c_holds_bare : List MS := (defBody (st 36)).map (cS { M with N := n_holds_bare } 30 (defScope (st 36)))
def c_holds : List MS := (defBody (st 37)).map (cS { M with N := n_holds } 30 (defScope (st 37)))
def c_reads : List MS := (defBody (st 38)).map (cS { M with N := n_reads } 30 (defScope (st 38)))
def c_trace : List MS := (defBody (st 39)).map (cS { M with N := n_trace } 30 (defScope (st 39)))
def c__law_pot : List MS := (defBody (st 41)).map (cS { M with N := n__law_pot } 30 (defScope (st 41)))
def c__law_draw : List MS := (defBody (st 42)).map (cS { M with N := n__law_draw } 30 (defScope (st 42)))
def c__law_pick : List MS := (defBody (st 43)).map (cS { M with N := n__law_pick } 30 (defScope (st 43)))
def c__law_text : List MS := (defBody (st 44)).map (cS { M with N := n__law_text } 30 (defScope (st 44)))
def c__law_letter : List MS := (defBody (st 45)).map (cS { M with N := n__law_letter } 30 (defScope (st 45)))
def c__law_single : List MS := (defBody (st 46)).map (cS { M with N := n__law_single } 30 (defScope (st 46)))
def c__law_query : List MS := (defBody (st 47)).map (cS { M with N := n__law_query } 30 (defScope (st 47)))
def c__law_spots : List MS := (defBody (st 48)).map (cS { M with N := n__law_spots } 30 (defScope (st 48)))
def c__law_stands : List MS := (defBody (st 49)).map (cS { M with N := n__law_stands } 30 (defScope (st 49)))
def c__law_single_holds : List MS := (defBody (st 50)).map (cS { M with N := n__law_single_holds } 30 (defScope (st 50)))
def c__law_holds : List MS := (defBody (st 51)).map (cS { M with N := n__law_holds } 30 (defScope (st 51)))
def c__law_texts : List MS := (defBody (st 52)).map (cS { M with N := n__law_texts } 30 (defScope (st 52)))
def c__law_texts_right : List MS := (defBody (st 53)).map (cS { M with N := n__law_texts_right } 30 (defScope (st 53)))
def c__law_same : List MS := (defBody (st 54)).map (cS { M with N := n__law_same } 30 (defScope (st 54)))
def c__law_right : List MS := (defBody (st 55)).map (cS { M with N := n__law_right } 30 (defScope (st 55)))
def c_law : List MS := (defBody (st 56)).map (cS { M with N := n_law } 30 (defScope (st 56)))
def f_is_integer : Fn := ⟨1, 1, [false], c_is_integer⟩
def f_is_within : Fn := ⟨3, 3, [false, false, false], c_is_within⟩
def f_check_letters : Fn := ⟨1, 1, [false], c_check_letters⟩
def f_letter_list : Fn := ⟨1, 1, [false], c_letter_list⟩
def f_is_letter : Fn := ⟨2, 2, [false, false], c_is_letter⟩
def f_is_text_of : Fn := ⟨3, 5, [false, false, false, false, false], c_is_text_of⟩
def f_check_text : Fn := ⟨2, 2, [false, false], c_check_text⟩
def f_is_bare : Fn := ⟨2, 5, [false, false, false, false, false], c_is_bare⟩
def f_is_bare_one : Fn := ⟨3, 3, [false, false, false], c_is_bare_one⟩
def f_parts_of : Fn := ⟨1, 1, [false], c_parts_of⟩
def f_is_built : Fn := ⟨3, 4, [false, false, false, false], c_is_built⟩
def f_size_of : Fn := ⟨1, 2, [false, false], c_size_of⟩
def f_is_query_of : Fn := ⟨2, 2, [false, false], c_is_query_of⟩
def f_check_query : Fn := ⟨2, 2, [false, false], c_check_query⟩
def f_spots_of : Fn := ⟨2, 4, [false, false, false, false], c_spots_of⟩
def f_are_near : Fn := ⟨2, 5, [false, false, false, false, false], c_are_near⟩
def f_are_ahead : Fn := ⟨2, 4, [false, false, false, false], c_are_ahead⟩
def f_holds_bare : Fn := ⟨2, 4, [false, false, false, false], c_holds_bare⟩
def f_holds : Fn := ⟨2, 3, [false, false, false], c_holds⟩
def f_reads : Fn := ⟨3, 3, [false, false, false], c_reads⟩
def f_trace : Fn := ⟨3, 4, [false, false, false, false], c_trace⟩
def f__law_pot : Fn := ⟨2, 3, [false, false, false], c__law_pot⟩
def f__law_draw : Fn := ⟨2, 3, [true, false, false], c__law_draw⟩
def f__law_pick : Fn := ⟨2, 2, [true, false], c__law_pick⟩
def f__law_text : Fn := ⟨3, 4, [true, false, false, false], c__law_text⟩
def f__law_letter : Fn := ⟨2, 2, [true, false], c__law_letter⟩
def f__law_single : Fn := ⟨2, 7, [true, false, false, false, false, false, true], c__law_single⟩
def f__law_query : Fn := ⟨3, 5, [true, false, false, false, false], c__law_query⟩
def f__law_spots : Fn := ⟨2, 4, [false, false, false, false], c__law_spots⟩
def f__law_stands : Fn := ⟨2, 3, [false, false, false], c__law_stands⟩
def f__law_single_holds : Fn := ⟨2, 8, [false, false, false, false, false, false, false, false], c__law_single_holds⟩
def f__law_holds : Fn := ⟨2, 4, [false, false, false, false], c__law_holds⟩
def f__law_texts : Fn := ⟨2, 8, [false, false, false, false, false, false, true, false], c__law_texts⟩
def f__law_texts_right : Fn := ⟨3, 9, [true, false, false, false, false, false, true, false, false], c__law_texts_right⟩
def f__law_same : Fn := ⟨2, 8, [true, false, false, false, true, false, false, false], c__law_same⟩
def f__law_right : Fn := ⟨1, 9, [true, false, false, false, false, false, false, false, false], c__law_right⟩
def f_law : Fn := ⟨1, 2, [false, false], c_law⟩
def P : Sys := { rp := reprS, inS := inStr, cnt := cntStr, fns := [f_is_integer, f_is_within, f_check_letters, f_letter_list, f_is_letter, f_is_text_of, f_check_text, f_is_bare, f_is_bare_one, f_parts_of, f_is_built, f_size_of, f_is_query_of, f_check_query, f_spots_of, f_are_near, f_are_ahead, f_holds_bare, f_holds, f_reads, f_trace, f__law_pot, f__law_draw, f__law_pick, f__law_text, f__law_letter, f__law_single, f__law_query, f__law_spots, f__law_stands, f__law_single_holds, f__law_holds, f__law_texts, f__law_texts_right, f__law_same, f__law_right, f_law], fuel := 100000 }
end K12
namespace K12
open Pv
def b_is_integer : List MS := [.ret (.and [.isi (.v 0) [.int], .not (.isi (.v 0) [.bool])])]
def b_is_within : List MS := [.ret (.and [.call 0 [.v 0] [0] [], .cmp2 (.le) (.le) (.v 1) (.v 0) (.v 2)])]
def b_check_letters : List MS := [.ife (.not (.call 1 [.v 0, .c (.int 1), .bi (.len) [.g 0 (.str [97, 98, 99, 100])]] [0, 1, 2] [])) [.raise 0 []] []]
def b_letter_list : List MS := [.ret (.bi (.list) [.sl (.g 0 (.str [97, 98, 99, 100])) none (some (.v 0))])]
def b_is_letter : List MS := [.ret (.and [.isi (.v 1) [.str], .cmp (.isin) (.v 1) (.call 3 [.v 0] [0] [])])]
def b_is_text_of : List MS := [.ife (.or [.not (.isi (.v 1) [.str]), .cmp (.gt) (.bi (.len) [.v 1]) (.v 2)]) [.ret (.c (.bl false))] [], .set 3 (.call 3 [.v 0] [0] []), .ret (.bi (.all) [.lc (.cmp (.isin) (.v 4) (.v 3)) (.nm 4) (.seq) [.v 1] [] [4]])]
def b_check_text : List MS := [.ife (.not (.call 5 [.v 0, .v 1] [0, 1] [(2, .int 60)])) [.raise 0 []] []]
def b_is_bare : List MS := [.par [2, 3] [.ix (.v 1) (.c (.int 0)), .sl (.v 1) (some (.c (.int 1))) none], .ife (.cmp (.isin) (.v 2) (.tup [.c (.str [97, 108, 108]), .c (.str [110, 111, 110, 101])])) [.ret (.cmp (.eq) (.v 3) (.tup []))] [], .ife (.cmp (.isin) (.v 2) (.tup [.c (.str [119, 111, 114, 100]), .c (.str [114, 111, 119]), .c (.str [102, 105, 114, 115, 116]), .c (.str [108, 97, 115, 116]), .c (.str [108, 111, 110, 103])])) [.ret (.and [.cmp (.eq) (.bi (.len) [.v 3]) (.c (.int 1)), .call 8 [.v 0, .v 2, .ix (.v 3) (.c (.int 0))] [0, 1, 2] []])] [], .ife (.cmp (.eq) (.v 2) (.c (.str [97, 104, 101, 97, 100]))) [.ret (.and [.cmp (.eq) (.bi (.len) [.v 3]) (.c (.int 2)), .bi (.all) [.lc (.call 4 [.v 0, .v 4] [0, 1] []) (.nm 4) (.seq) [.v 3] [] [4]]])] [], .ife (.cmp (.eq) (.v 2) (.c (.str [111, 102, 116, 101, 110]))) [.ret (.and [.cmp (.eq) (.bi (.len) [.v 3]) (.c (.int 2)), .call 4 [.v 0, .ix (.v 3) (.c (.int 0))] [0, 1] [], .call 1 [.ix (.v 3) (.c (.int 1)), .c (.int 0), .g 0 (.int 6)] [0, 1, 2] []])] [], .ife (.or [.cmp (.ne) (.bi (.len) [.v 3]) (.c (.int 3)), .not (.call 4 [.v 0, .ix (.v 3) (.c (.int 0))] [0, 1] [])]) [.ret (.c (.bl false))] [], .ife (.cmp (.eq) (.v 2) (.c (.str [110, 101, 97, 114]))) [.ret (.and [.call 4 [.v 0, .ix (.v 3) (.c (.int 1))] [0, 1] [], .call 1 [.ix (.v 3) (.c (.int 2)), .c (.int 0), .g 0 (.int 5)] [0, 1, 2] []])] [], .ret (.and [.cmp (.eq) (.v 2) (.c (.str [114, 101, 115, 116])), .call 1 [.ix (.v 3) (.c (.int 1)), .c (.int 2), .g 0 (.int 4)] [0, 1, 2] [], .call 1 [.ix (.v 3) (.c (.int 2)), .c (.int 0), .bin (.sub) (.ix (.v 3) (.c (.int 1))) (.c (.int 1))] [0, 1, 2] []])]
def b_is_bare_one : List MS := [.ife (.cmp (.eq) (.v 1) (.c (.str [119, 111, 114, 100]))) [.ret (.call 4 [.v 0, .v 2] [0, 1] [])] [], .ife (.cmp (.eq) (.v 1) (.c (.str [108, 111, 110, 103]))) [.ret (.call 1 [.v 2, .c (.int 0), .g 0 (.int 9)] [0, 1, 2] [])] [], .ret (.and [.call 5 [.v 0, .v 2] [0, 1] [(2, .int 60)], .or [.cmp (.ne) (.v 1) (.c (.str [114, 111, 119])), .cmp (.ne) (.v 2) (.c (.str []))]])]
def b_parts_of : List MS := [.ret (.ife (.or [.cmp (.isin) (.ix (.v 0) (.c (.int 0))) (.g 0 (.tup [.str [97, 110, 100], .str [111, 114]])), .cmp (.eq) (.ix (.v 0) (.c (.int 0))) (.c (.str [110, 111, 116]))]) (.bi (.list) [.sl (.v 0) (some (.c (.int 1))) none]) (.lst []))]
def b_is_built : List MS := [.ife (.or [.cmp (.lt) (.v 2) (.c (.int 1)), .not (.isi (.v 1) [.tuple]), .cmp (.eq) (.v 1) (.tup []), .not (.isi (.ix (.v 1) (.c (.int 0))) [.str])]) [.ret (.c (.bl false))] [], .ife (.cmp (.eq) (.ix (.v 1) (.c (.int 0))) (.c (.str [110, 111, 116]))) [.ret (.and [.cmp (.eq) (.bi (.len) [.v 1]) (.c (.int 2)), .call 10 [.v 0, .ix (.v 1) (.c (.int 1)), .bin (.sub) (.v 2) (.c (.int 1))] [0, 1, 2] []])] [], .ife (.cmp (.isin) (.ix (.v 1) (.c (.int 0))) (.g 0 (.tup [.str [97, 110, 100], .str [111, 114]]))) [.ife (.not (.cmp2 (.le) (.le) (.c (.int 2)) (.bin (.sub) (.bi (.len) [.v 1]) (.c (.int 1))) (.g 0 (.int 6)))) [.ret (.c (.bl false))] [], .ret (.bi (.all) [.lc (.call 10 [.v 0, .v 3, .bin (.sub) (.v 2) (.c (.int 1))] [0, 1, 2] []) (.nm 3) (.seq) [.sl (.v 1) (some (.c (.int 1))) none] [] [3]])] [], .ret (.call 7 [.v 0, .v 1] [0, 1] [])]
def b_size_of : List MS := [.ret (.bin (.add) (.c (.int 1)) (.bi (.sum) [.lc (.call 11 [.v 1] [0] []) (.nm 1) (.seq) [.call 9 [.v 0] [0] []] [] [1]]))]
def b_is_query_of : List MS := [.ret (.and [.call 10 [.v 0, .v 1, .g 0 (.int 8)] [0, 1, 2] [], .cmp (.le) (.call 11 [.v 1] [0] []) (.g 0 (.int 40))])]
def b_check_query : List MS := [.ife (.not (.call 12 [.v 0, .v 1] [0, 1] [])) [.raise 0 []] []]
def b_spots_of : List MS := [.ret (.lc (.v 2) (.tp [.nm 2, .nm 3]) (.enum) [.v 1] [.cmp (.eq) (.v 3) (.v 0)] [2, 3])]
def b_are_near : List MS := [.set 2 (.call 14 [.ix (.v 0) (.c (.int 2)), .v 1] [0, 1] []), .for (.nm 3) (.seq) [.call 14 [.ix (.v 0) (.c (.int 1)), .v 1] [0, 1] []] [.ife (.bi (.any) [.lc (.cmp2 (.lt) (.le) (.c (.int 0)) (.bi (.abs) [.bin (.sub) (.v 3) (.v 4)]) (.bin (.add) (.ix (.v 0) (.c (.int 3))) (.c (.int 1)))) (.nm 4) (.seq) [.v 2] [] [4]]) [.ret (.c (.bl true))] []], .ret (.c (.bl false))]
def b_are_ahead : List MS := [.par [2, 3] [.call 14 [.ix (.v 0) (.c (.int 1)), .v 1] [0, 1] [], .call 14 [.ix (.v 0) (.c (.int 2)), .v 1] [0, 1] []], .ret (.and [.cmp (.ne) (.v 2) (.lst []), .cmp (.ne) (.v 3) (.lst []), .cmp (.lt) (.ix (.v 2) (.c (.int 0))) (.ix (.v 3) (.neg (.c (.int 1))))])]
def b_holds_bare : List MS := [.set 2 (.ix (.v 0) (.c (.int 0))), .ife (.cmp (.isin) (.v 2) (.tup [.c (.str [97, 108, 108]), .c (.str [110, 111, 110, 101])])) [.ret (.cmp (.eq) (.v 2) (.c (.str [97, 108, 108])))] [], .ife (.cmp (.isin) (.v 2) (.tup [.c (.str [119, 111, 114, 100]), .c (.str [114, 111, 119])])) [.ret (.cmp (.isin) (.ix (.v 0) (.c (.int 1))) (.v 1))] [], .ife (.cmp (.isin) (.v 2) (.tup [.c (.str [102, 105, 114, 115, 116]), .c (.str [108, 97, 115, 116])])) [.ret (.ife (.cmp (.eq) (.v 2) (.c (.str [102, 105, 114, 115, 116]))) (.mt (.startswith) (.v 1) [.ix (.v 0) (.c (.int 1))]) (.mt (.endswith) (.v 1) [.ix (.v 0) (.c (.int 1))]))] [], .ife (.cmp (.eq) (.v 2) (.c (.str [108, 111, 110, 103]))) [.ret (.cmp (.ge) (.bi (.len) [.v 1]) (.ix (.v 0) (.c (.int 1))))] [], .ife (.cmp (.eq) (.v 2) (.c (.str [110, 101, 97, 114]))) [.ret (.call 15 [.v 0, .v 1] [0, 1] [])] [], .ife (.cmp (.eq) (.v 2) (.c (.str [97, 104, 101, 97, 100]))) [.ret (.call 16 [.v 0, .v 1] [0, 1] [])] [], .set 3 (.mt (.count) (.v 1) [.ix (.v 0) (.c (.int 1))]), .ret (.ife (.cmp (.eq) (.v 2) (.c (.str [111, 102, 116, 101, 110]))) (.cmp (.ge) (.v 3) (.ix (.v 0) (.c (.int 2)))) (.cmp (.eq) (.bin (.mod) (.bi (.int) [.v 3]) (.ix (.v 0) (.c (.int 2)))) (.ix (.v 0) (.c (.int 3)))))]
def b_holds : List MS := [.ife (.cmp (.eq) (.ix (.v 0) (.c (.int 0))) (.c (.str [110, 111, 116]))) [.ret (.not (.call 18 [.ix (.v 0) (.c (.int 1)), .v 1] [0, 1] []))] [], .ife (.cmp (.eq) (.ix (.v 0) (.c (.int 0))) (.c (.str [97, 110, 100]))) [.ret (.bi (.all) [.lc (.call 18 [.v 2, .v 1] [0, 1] []) (.nm 2) (.seq) [.sl (.v 0) (some (.c (.int 1))) none] [] [2]])] [], .ife (.cmp (.eq) (.ix (.v 0) (.c (.int 0))) (.c (.str [111, 114]))) [.ret (.bi (.any) [.lc (.call 18 [.v 2, .v 1] [0, 1] []) (.nm 2) (.seq) [.sl (.v 0) (some (.c (.int 1))) none] [] [2]])] [], .ret (.call 17 [.v 0, .v 1] [0, 1] [])]
def b_reads : List MS := [.expr (.call 2 [.v 0] [0] []), .expr (.call 13 [.v 0, .v 1] [0, 1] []), .expr (.call 6 [.v 0, .v 2] [0, 1] []), .ret (.call 18 [.v 1, .v 2] [0, 1] [])]
def b_trace : List MS := [.expr (.call 2 [.v 0] [0] []), .expr (.call 13 [.v 0, .v 1] [0, 1] []), .expr (.call 6 [.v 0, .v 2] [0, 1] []), .ret (.lc (.call 18 [.v 1, .sl (.v 2) none (some (.v 3))] [0, 1] []) (.nm 3) (.range) [.bin (.add) (.bi (.len) [.v 2]) (.c (.int 1))] [] [3])]
def b__law_pot : List MS := [.set 2 (.bin (.add) (.bin (.mul) (.c (.int 1409)) (.v 1)) (.c (.int 773))), .ife (.cmp (.lt) (.v 1) (.bi (.len) [.v 0])) [.set 2 (.bi (.abs) [.ix (.v 0) (.v 1)])] [], .ret (.lst [.bi (.max2) [.c (.int 0), .bin (.sub) (.v 2) (.bin (.pow) (.c (.int 10)) (.c (.int 18)))], .bin (.add) (.bin (.mod) (.bi (.int) [.bin (.add) (.bin (.add) (.bin (.mul) (.bin (.mod) (.bi (.int) [.v 2]) (.c (.int 2147483549))) (.c (.int 48271))) (.bin (.mul) (.c (.int 1409)) (.v 1))) (.c (.int 773))]) (.c (.int 2147483563))) (.c (.int 1))])]
def b__law_draw : List MS := [.ife (.cmp (.gt) (.ix (.v 0) (.c (.int 0))) (.c (.int 0))) [.asg (.tp [.sb 0 (.c (.int 0)), .nm 2]) (.bi (.divmod) [.ix (.v 0) (.c (.int 0)), .v 1]), .ret (.v 2)] [], .asg (.sb 0 (.c (.int 1))) (.bin (.mod) (.bi (.int) [.bin (.add) (.bin (.mul) (.ix (.v 0) (.c (.int 1))) (.c (.int 40014))) (.c (.int 2087))]) (.c (.int 2147483587))), .ret (.bin (.mod) (.bi (.int) [.bin (.fdiv) (.bin (.mod) (.bi (.int) [.bin (.mul) (.ix (.v 0) (.c (.int 1))) (.ix (.v 0) (.c (.int 1)))]) (.c (.int 2147483629))) (.c (.int 19))]) (.v 1))]
def b__law_pick : List MS := [.ret (.ix (.v 1) (.call 22 [.v 0, .bi (.len) [.v 1]] [0, 1] []))]
def b__law_text : List MS := [.ret (.mt (.join) (.c (.str [])) [.lc (.ix (.c (.str [97, 98, 99, 100])) (.call 22 [.v 0, .v 1] [0, 1] [])) (.nm 3) (.range) [.call 22 [.v 0, .bin (.add) (.v 2) (.c (.int 1))] [0, 1] []] [] [3]])]
def b__law_letter : List MS := [.ret (.ix (.c (.str [97, 98, 99, 100])) (.call 22 [.v 0, .v 1] [0, 1] []))]
def b__law_single : List MS := [.par [2, 3, 4] [.call 25 [.v 0, .v 1] [0, 1] [], .call 25 [.v 0, .v 1] [0, 1] [], .call 24 [.v 0, .v 1, .c (.int 3)] [0, 1, 2] []], .set 5 (.bin (.add) (.c (.int 2)) (.call 22 [.v 0, .c (.int 3)] [0, 1] [])), .set 6 (.lst [.tup [.c (.str [119, 111, 114, 100]), .v 2], .tup [.c (.str [114, 111, 119]), .bin (.add) (.v 4) (.v 2)], .tup [.c (.str [110, 101, 97, 114]), .v 2, .v 3, .call 22 [.v 0, .c (.int 6)] [0, 1] []], .tup [.c (.str [97, 104, 101, 97, 100]), .v 2, .v 3], .tup [.c (.str [102, 105, 114, 115, 116]), .v 4]]), .expr (.mu (.extend) 6 [.lst [.tup [.c (.str [108, 97, 115, 116]), .v 4], .tup [.c (.str [111, 102, 116, 101, 110]), .v 2, .call 22 [.v 0, .c (.int 7)] [0, 1] []], .tup [.c (.str [108, 111, 110, 103]), .call 22 [.v 0, .c (.int 10)] [0, 1] []], .tup [.c (.str [114, 101, 115, 116]), .v 2, .v 5, .call 22 [.v 0, .v 5] [0, 1] []]]]), .ret (.call 23 [.v 0, .ife (.cmp (.eq) (.call 22 [.v 0, .c (.int 8)] [0, 1] []) (.c (.int 0))) (.bin (.add) (.v 6) (.lst [.tup [.c (.str [97, 108, 108])], .tup [.c (.str [110, 111, 110, 101])]])) (.v 6)] [0, 1] [])]
def b__law_query : List MS := [.set 3 (.ife (.cmp (.gt) (.v 2) (.c (.int 1))) (.call 22 [.v 0, .c (.int 5)] [0, 1] []) (.c (.int 4))), .ife (.cmp (.eq) (.v 3) (.c (.int 0))) [.ret (.tup [.c (.str [110, 111, 116]), .call 27 [.v 0, .v 1, .bin (.sub) (.v 2) (.c (.int 1))] [0, 1, 2] []])] [], .ife (.cmp (.lt) (.v 3) (.c (.int 3))) [.ret (.bin (.add) (.tup [.ife (.cmp (.eq) (.v 3) (.c (.int 1))) (.c (.str [97, 110, 100])) (.c (.str [111, 114]))]) (.bi (.tuple) [.lc (.call 27 [.v 0, .v 1, .bin (.sub) (.v 2) (.c (.int 1))] [0, 1, 2] []) (.nm 4) (.range) [.bin (.add) (.c (.int 2)) (.call 22 [.v 0, .c (.int 2)] [0, 1] [])] [] [4]]))] [], .ret (.call 26 [.v 0, .v 1] [0, 1] [])]
def b__law_spots : List MS := [.ret (.lc (.v 2) (.tp [.nm 2, .nm 3]) (.enum) [.v 1] [.cmp (.eq) (.v 3) (.v 0)] [2, 3])]
def b__law_stands : List MS := [.ret (.lc (.v 2) (.nm 2) (.range) [.bin (.add) (.bi (.len) [.v 1]) (.c (.int 1))] [.and [.cmp (.eq) (.sl (.v 1) (some (.v 2)) (some (.bin (.add) (.v 2) (.bi (.len) [.v 0])))) (.v 0), .cmp (.le) (.bin (.add) (.v 2) (.bi (.len) [.v 0])) (.bi (.len) [.v 1])]] [2])]
def b__law_single_holds : List MS := [.par [2, 3] [.ix (.v 0) (.c (.int 0)), .bi (.len) [.v 1]], .ife (.cmp (.isin) (.v 2) (.lst [.c (.str [97, 108, 108]), .c (.str [110, 111, 110, 101])])) [.ret (.cmp (.eq) (.v 2) (.c (.str [97, 108, 108])))] [], .ife (.cmp (.isin) (.v 2) (.lst [.c (.str [119, 111, 114, 100]), .c (.str [114, 111, 119])])) [.ret (.cmp (.ne) (.call 29 [.ix (.v 0) (.c (.int 1)), .v 1] [0, 1] []) (.lst []))] [], .ife (.cmp (.eq) (.v 2) (.c (.str [102, 105, 114, 115, 116]))) [.ret (.cmp (.isin) (.c (.int 0)) (.call 29 [.ix (.v 0) (.c (.int 1)), .v 1] [0, 1] []))] [], .ife (.cmp (.eq) (.v 2) (.c (.str [108, 97, 115, 116]))) [.ret (.cmp (.isin) (.bin (.sub) (.v 3) (.bi (.len) [.ix (.v 0) (.c (.int 1))])) (.call 29 [.ix (.v 0) (.c (.int 1)), .v 1] [0, 1] []))] [], .ife (.cmp (.eq) (.v 2) (.c (.str [108, 111, 110, 103]))) [.ret (.cmp (.ge) (.v 3) (.ix (.v 0) (.c (.int 1))))] [], .set 4 (.call 28 [.ix (.v 0) (.c (.int 1)), .v 1] [0, 1] []), .ife (.cmp (.eq) (.v 2) (.c (.str [111, 102, 116, 101, 110]))) [.ret (.cmp (.ge) (.bi (.len) [.v 4]) (.ix (.v 0) (.c (.int 2))))] [], .ife (.cmp (.eq) (.v 2) (.c (.str [114, 101, 115, 116]))) [.ret (.cmp (.eq) (.bin (.sub) (.bi (.len) [.v 4]) (.bin (.mul) (.bin (.fdiv) (.bi (.len) [.v 4]) (.ix (.v 0) (.c (.int 2)))) (.ix (.v 0) (.c (.int 2))))) (.ix (.v 0) (.c (.int 3))))] [], .set 5 (.call 28 [.ix (.v 0) (.c (.int 2)), .v 1] [0, 1] []), .ife (.cmp (.eq) (.v 2) (.c (.str [97, 104, 101, 97, 100]))) [.ret (.bi (.any) [.lc (.bi (.any) [.lc (.cmp (.lt) (.v 6) (.v 7)) (.nm 7) (.seq) [.v 5] [] [7]]) (.nm 6) (.seq) [.v 4] [] [6]])] [], .ret (.bi (.any) [.lc (.bi (.any) [.lc (.and [.cmp (.ne) (.v 6) (.v 7), .cmp (.le) (.bin (.sub) (.bi (.abs) [.bin (.sub) (.v 6) (.v 7)]) (.c (.int 1))) (.ix (.v 0) (.c (.int 3)))]) (.nm 7) (.seq) [.v 5] [] [7]]) (.nm 6) (.seq) [.v 4] [] [6]])]
def b__law_holds : List MS := [.ife (.cmp (.eq) (.ix (.v 0) (.c (.int 0))) (.c (.str [110, 111, 116]))) [.ret (.not (.call 31 [.ix (.v 0) (.c (.int 1)), .v 1] [0, 1] []))] [], .ife (.cmp (.isin) (.ix (.v 0) (.c (.int 0))) (.lst [.c (.str [97, 110, 100]), .c (.str [111, 114])])) [.set 2 (.lc (.call 31 [.v 3, .v 1] [0, 1] []) (.nm 3) (.seq) [.sl (.v 0) (some (.c (.int 1))) none] [] [3]), .ret (.ife (.cmp (.eq) (.ix (.v 0) (.c (.int 0))) (.c (.str [97, 110, 100]))) (.cmp (.notin) (.c (.bl false)) (.v 2)) (.cmp (.isin) (.c (.bl true)) (.v 2)))] [], .ret (.call 30 [.v 0, .v 1] [0, 1] [])]
def b__law_texts : List MS := [.par [2, 3] [.lst [.c (.str [])], .lst [.c (.str [])]], .for (.nm 4) (.range) [.v 1] [.set 6 (.lst []), .for (.nm 5) (.seq) [.v 3] [.expr (.mu (.extend) 6 [.lc (.bin (.add) (.v 5) (.v 7)) (.nm 7) (.seq) [.sl (.c (.str [97, 98, 99, 100])) none (some (.v 0))] [] [7]])], .par [2, 3] [.bin (.add) (.v 2) (.v 6), .v 6]], .ret (.v 2)]
def b__law_texts_right : List MS := [.set 3 (.ix (.lst [.c (.int 8), .c (.int 5), .c (.int 4), .c (.int 3)]) (.bin (.sub) (.v 1) (.c (.int 1)))), .for (.nm 4) (.seq) [.bin (.add) (.call 32 [.v 1, .v 3] [0, 1] []) (.lc (.call 24 [.v 0, .v 1, .c (.int 12)] [0, 1, 2] []) (.nm 8) (.range) [.c (.int 20)] [] [8])] [.set 5 (.call 31 [.v 2, .v 4] [0, 1] []), .ife (.cmp (.ne) (.bi (.repr) [.call 19 [.v 1, .v 2, .v 4] [0, 1, 2] []]) (.bi (.repr) [.v 5])) [.ret (.c (.bl false))] []], .set 4 (.call 24 [.v 0, .v 1, .c (.int 12)] [0, 1, 2] []), .set 5 (.lc (.call 31 [.v 2, .sl (.v 4) none (some (.v 7))] [0, 1] []) (.nm 7) (.range) [.bin (.add) (.bi (.len) [.v 4]) (.c (.int 1))] [] [7]), .set 6 (.call 20 [.v 1, .v 2, .v 4] [0, 1, 2] []), .ife (.cmp (.ne) (.bi (.reprl) [.v 6, .call 20 [.v 4, .v 2, .v 1] [2, 1, 0] []]) (.bi (.reprl) [.v 5, .v 5])) [.ret (.c (.bl false))] [], .expr (.mu (.append) 6 [.c (.non)]), .ret (.cmp (.eq) (.bi (.reprl) [.call 20 [.v 1, .v 2, .v 4] [0, 1, 2] [], .call 19 [.v 4, .v 2, .v 1] [2, 1, 0] []]) (.bi (.reprl) [.v 5, .ix (.v 5) (.neg (.c (.int 1)))]))]
def b__law_same : List MS := [.par [2, 3] [.call 25 [.v 0, .v 1] [0, 1] [], .call 25 [.v 0, .v 1] [0, 1] []], .set 4 (.lst [.tup [.tup [.c (.str [119, 111, 114, 100]), .v 2], .tup [.c (.str [114, 111, 119]), .v 2]], .tup [.tup [.c (.str [119, 111, 114, 100]), .v 2], .tup [.c (.str [111, 102, 116, 101, 110]), .v 2, .c (.int 1)]], .tup [.tup [.c (.str [111, 102, 116, 101, 110]), .v 2, .c (.int 0)], .tup [.c (.str [97, 108, 108])]], .tup [.tup [.c (.str [108, 111, 110, 103]), .c (.int 0)], .tup [.c (.str [102, 105, 114, 115, 116]), .c (.str [])]]]), .expr (.mu (.extend) 4 [.lst [.tup [.tup [.c (.str [108, 97, 115, 116]), .c (.str [])], .tup [.c (.str [110, 111, 116]), .tup [.c (.str [110, 111, 110, 101])]]], .tup [.tup [.c (.str [110, 101, 97, 114]), .v 2, .v 2, .c (.int 0)], .tup [.c (.str [114, 111, 119]), .bin (.add) (.v 2) (.v 2)]]]]), .set 5 (.call 22 [.v 0, .c (.int 6)] [0, 1] []), .expr (.mu (.append) 4 [.tup [.tup [.c (.str [110, 101, 97, 114]), .v 2, .v 3, .v 5], .tup [.c (.str [110, 101, 97, 114]), .v 3, .v 2, .v 5]]]), .ife (.cmp (.ne) (.v 2) (.v 3)) [.expr (.mu (.append) 4 [.tup [.tup [.c (.str [110, 101, 97, 114]), .v 2, .v 3, .c (.int 0)], .tup [.c (.str [111, 114]), .tup [.c (.str [114, 111, 119]), .bin (.add) (.v 2) (.v 3)], .tup [.c (.str [114, 111, 119]), .bin (.add) (.v 3) (.v 2)]]]])] [], .par [6, 7] [.call 27 [.v 0, .v 1, .c (.int 2)] [0, 1, 2] [], .call 27 [.v 0, .v 1, .c (.int 2)] [0, 1, 2] []], .expr (.mu (.extend) 4 [.lst [.tup [.tup [.c (.str [97, 110, 100]), .v 6, .v 7], .tup [.c (.str [97, 110, 100]), .v 7, .v 6]], .tup [.tup [.c (.str [111, 114]), .v 6, .v 7], .tup [.c (.str [111, 114]), .v 7, .v 6, .v 7]], .tup [.tup [.c (.str [97, 110, 100]), .v 6, .v 6], .v 6]]]), .ret (.bin (.add) (.v 4) (.lst [.tup [.tup [.c (.str [110, 111, 116]), .tup [.c (.str [97, 110, 100]), .v 6, .v 7]], .tup [.c (.str [111, 114]), .tup [.c (.str [110, 111, 116]), .v 6], .tup [.c (.str [110, 111, 116]), .v 7]]], .tup [.tup [.c (.str [110, 111, 116]), .tup [.c (.str [110, 111, 116]), .v 6]], .v 6]]))]
def b__law_right : List MS := [.set 1 (.bin (.add) (.c (.int 1)) (.call 22 [.v 0, .c (.int 4)] [0, 1] [])), .set 2 (.call 27 [.v 0, .v 1, .c (.int 4)] [0, 1, 2] []), .set 3 (.bi (.repr) [.v 2]), .ife (.or [.not (.call 33 [.v 0, .v 1, .v 2] [0, 1, 2] []), .not (.call 33 [.v 0, .v 1, .call 26 [.v 0, .v 1] [0, 1] []] [0, 1, 2] [])]) [.ret (.c (.bl false))] [], .set 4 (.lc (.call 24 [.v 0, .v 1, .c (.int 9)] [0, 1, 2] []) (.nm 8) (.range) [.c (.int 6)] [] [8]), .for (.tp [.nm 5, .nm 6]) (.seq) [.call 34 [.v 0, .v 1] [0, 1] []] [.for (.nm 7) (.seq) [.v 4] [.ife (.cmp (.ne) (.bi (.repr) [.call 19 [.v 1, .v 5, .v 7] [0, 1, 2] []]) (.bi (.repr) [.call 19 [.v 1, .v 6, .v 7] [0, 1, 2] []])) [.ret (.c (.bl false))] []]], .ret (.cmp (.eq) (.bi (.repr) [.v 2]) (.v 3))]
def b_law : List MS := [.ret (.bi (.all) [.lc (.call 35 [.call 21 [.v 0, .v 1] [0, 1] []] [0] []) (.nm 1) (.range) [.bi (.max2) [.c (.int 1), .bi (.min2) [.c (.int 2), .bi (.len) [.v 0]]]] [] [1]])]
def g_is_integer : Fn := ⟨1, 1, [false], b_is_integer⟩
def g_is_within : Fn := ⟨3, 3, [false, false, false], b_is_within⟩
def g_check_letters : Fn := ⟨1, 1, [false], b_check_letters⟩
def g_letter_list : Fn := ⟨1, 1, [false], b_letter_list⟩
def g_is_letter : Fn := ⟨2, 2, [false, false], b_is_letter⟩
def g_is_text_of : Fn := ⟨3, 5, [false, false, false, false, false], b_is_text_of⟩
def g_check_text : Fn := ⟨2, 2, [false, false], b_check_text⟩
def g_is_bare : Fn := ⟨2, 5, [false, false, false, false, false], b_is_bare⟩
def g_is_bare_one : Fn := ⟨3, 3, [false, false, false], b_is_bare_one⟩
def g_parts_of : Fn := ⟨1, 1, [false], b_parts_of⟩
def g_is_built : Fn := ⟨3, 4, [false, false, false, false], b_is_built⟩
def g_size_of : Fn := ⟨1, 2, [false, false], b_size_of⟩
def g_is_query_of : Fn := ⟨2, 2, [false, false], b_is_query_of⟩
def g_check_query : Fn := ⟨2, 2, [false, false], b_check_query⟩
def g_spots_of : Fn := ⟨2, 4, [false, false, false, false], b_spots_of⟩
def g_are_near : Fn := ⟨2, 5, [false, false, false, false, false], b_are_near⟩
def g_are_ahead : Fn := ⟨2, 4, [false, false, false, false], b_are_ahead⟩
def g_holds_bare : Fn := ⟨2, 4, [false, false, false, false], b_holds_bare⟩
def g_holds : Fn := ⟨2, 3, [false, false, false], b_holds⟩
def g_reads : Fn := ⟨3, 3, [false, false, false], b_reads⟩
def g_trace : Fn := ⟨3, 4, [false, false, false, false], b_trace⟩
def g__law_pot : Fn := ⟨2, 3, [false, false, false], b__law_pot⟩
def g__law_draw : Fn := ⟨2, 3, [true, false, false], b__law_draw⟩
def g__law_pick : Fn := ⟨2, 2, [true, false], b__law_pick⟩
def g__law_text : Fn := ⟨3, 4, [true, false, false, false], b__law_text⟩
def g__law_letter : Fn := ⟨2, 2, [true, false], b__law_letter⟩
def g__law_single : Fn := ⟨2, 7, [true, false, false, false, false, false, true], b__law_single⟩
def g__law_query : Fn := ⟨3, 5, [true, false, false, false, false], b__law_query⟩
def g__law_spots : Fn := ⟨2, 4, [false, false, false, false], b__law_spots⟩
def g__law_stands : Fn := ⟨2, 3, [false, false, false], b__law_stands⟩
def g__law_single_holds : Fn := ⟨2, 8, [false, false, false, false, false, false, false, false], b__law_single_holds⟩
def g__law_holds : Fn := ⟨2, 4, [false, false, false, false], b__law_holds⟩
def g__law_texts : Fn := ⟨2, 8, [false, false, false, false, false, false, true, false], b__law_texts⟩
def g__law_texts_right : Fn := ⟨3, 9, [true, false, false, false, false, false, true, false, false], b__law_texts_right⟩
def g__law_same : Fn := ⟨2, 8, [true, false, false, false, true, false, false, false], b__law_same⟩
def g__law_right : Fn := ⟨1, 9, [true, false, false, false, false, false, false, false, false], b__law_right⟩
def g_law : Fn := ⟨1, 2, [false, false], b_law⟩
def fns : List Fn := [g_is_integer, g_is_within, g_check_letters, g_letter_list, g_is_letter, g_is_text_of, g_check_text, g_is_bare, g_is_bare_one, g_parts_of, g_is_built, g_size_of, g_is_query_of, g_check_query, g_spots_of, g_are_near, g_are_ahead, g_holds_bare, g_holds, g_reads, g_trace, g__law_pot, g__law_draw, g__law_pick, g__law_text, g__law_letter, g__law_single, g__law_query, g__law_spots, g__law_stands, g__law_single_holds, g__law_holds, g__law_texts, g__law_texts_right, g__law_same, g__law_right, g_law]
def Y (X : Sys) : Sys := { X with fns := fns }
theorem F_is_integer (X : Sys) : (Y X).fns[0]? = some g_is_integer := rfl
theorem F_is_within (X : Sys) : (Y X).fns[1]? = some g_is_within := rfl
theorem F_check_letters (X : Sys) : (Y X).fns[2]? = some g_check_letters := rfl
theorem F_letter_list (X : Sys) : (Y X).fns[3]? = some g_letter_list := rfl
theorem F_is_letter (X : Sys) : (Y X).fns[4]? = some g_is_letter := rfl
theorem F_is_text_of (X : Sys) : (Y X).fns[5]? = some g_is_text_of := rfl
theorem F_check_text (X : Sys) : (Y X).fns[6]? = some g_check_text := rfl
theorem F_is_bare (X : Sys) : (Y X).fns[7]? = some g_is_bare := rfl
theorem F_is_bare_one (X : Sys) : (Y X).fns[8]? = some g_is_bare_one := rfl
theorem F_parts_of (X : Sys) : (Y X).fns[9]? = some g_parts_of := rfl
theorem F_is_built (X : Sys) : (Y X).fns[10]? = some g_is_built := rfl
theorem F_size_of (X : Sys) : (Y X).fns[11]? = some g_size_of := rfl
theorem F_is_query_of (X : Sys) : (Y X).fns[12]? = some g_is_query_of := rfl
theorem F_check_query (X : Sys) : (Y X).fns[13]? = some g_check_query := rfl
theorem F_spots_of (X : Sys) : (Y X).fns[14]? = some g_spots_of := rfl
theorem F_are_near (X : Sys) : (Y X).fns[15]? = some g_are_near := rfl
theorem F_are_ahead (X : Sys) : (Y X).fns[16]? = some g_are_ahead := rfl
theorem F_holds_bare (X : Sys) : (Y X).fns[17]? = some g_holds_bare := rfl
theorem F_holds (X : Sys) : (Y X).fns[18]? = some g_holds := rfl
theorem F_reads (X : Sys) : (Y X).fns[19]? = some g_reads := rfl
theorem F_trace (X : Sys) : (Y X).fns[20]? = some g_trace := rfl
theorem F__law_pot (X : Sys) : (Y X).fns[21]? = some g__law_pot := rfl
theorem F__law_draw (X : Sys) : (Y X).fns[22]? = some g__law_draw := rfl
theorem F__law_pick (X : Sys) : (Y X).fns[23]? = some g__law_pick := rfl
theorem F__law_text (X : Sys) : (Y X).fns[24]? = some g__law_text := rfl
theorem F__law_letter (X : Sys) : (Y X).fns[25]? = some g__law_letter := rfl
theorem F__law_single (X : Sys) : (Y X).fns[26]? = some g__law_single := rfl
theorem F__law_query (X : Sys) : (Y X).fns[27]? = some g__law_query := rfl
theorem F__law_spots (X : Sys) : (Y X).fns[28]? = some g__law_spots := rfl
theorem F__law_stands (X : Sys) : (Y X).fns[29]? = some g__law_stands := rfl
theorem F__law_single_holds (X : Sys) : (Y X).fns[30]? = some g__law_single_holds := rfl
theorem F__law_holds (X : Sys) : (Y X).fns[31]? = some g__law_holds := rfl
theorem F__law_texts (X : Sys) : (Y X).fns[32]? = some g__law_texts := rfl
theorem F__law_texts_right (X : Sys) : (Y X).fns[33]? = some g__law_texts_right := rfl
theorem F__law_same (X : Sys) : (Y X).fns[34]? = some g__law_same := rfl
theorem F__law_right (X : Sys) : (Y X).fns[35]? = some g__law_right := rfl
theorem F_law (X : Sys) : (Y X).fns[36]? = some g_law := rfl
end K12
namespace K12
open Pv
theorem e_is_integer : c_is_integer = b_is_integer := by rfl
theorem e_is_within : c_is_within = b_is_within := by rfl
theorem e_check_letters : c_check_letters = b_check_letters := by rfl
theorem e_letter_list : c_letter_list = b_letter_list := by rfl
theorem e_is_letter : c_is_letter = b_is_letter := by rfl
theorem e_is_text_of : c_is_text_of = b_is_text_of := by rfl
theorem e_check_text : c_check_text = b_check_text := by rfl
theorem e_is_bare : c_is_bare = b_is_bare := by rfl
theorem e_is_bare_one : c_is_bare_one = b_is_bare_one := by rfl
theorem e_parts_of : c_parts_of = b_parts_of := by rfl
theorem e_is_built : c_is_built = b_is_built := by rfl
theorem e_size_of : c_size_of = b_size_of := by rfl
theorem e_is_query_of : c_is_query_of = b_is_query_of := by rfl
theorem e_check_query : c_check_query = b_check_query := by rfl
theorem e_spots_of : c_spots_of = b_spots_of := by rfl
theorem e_are_near : c_are_near = b_are_near := by rfl
theorem e_are_ahead : c_are_ahead = b_are_ahead := by rfl
theorem e_holds_bare : c_holds_bare = b_holds_bare := by rfl
theorem e_holds : c_holds = b_holds := by rfl
theorem e_reads : c_reads = b_reads := by rfl
theorem e_trace : c_trace = b_trace := by rfl
theorem e__law_pot : c__law_pot = b__law_pot := by rfl
theorem e__law_draw : c__law_draw = b__law_draw := by rfl
theorem e__law_pick : c__law_pick = b__law_pick := by rfl
theorem e__law_text : c__law_text = b__law_text := by rfl
theorem e__law_letter : c__law_letter = b__law_letter := by rfl
theorem e__law_single : c__law_single = b__law_single := by rfl
theorem e__law_query : c__law_query = b__law_query := by rfl
theorem e__law_spots : c__law_spots = b__law_spots := by rfl
theorem e__law_stands : c__law_stands = b__law_stands := by rfl
theorem e__law_single_holds : c__law_single_holds = b__law_single_holds := by rfl
theorem e__law_holds : c__law_holds = b__law_holds := by rfl
theorem e__law_texts : c__law_texts = b__law_texts := by rfl
theorem e__law_texts_right : c__law_texts_right = b__law_texts_right := by rfl
theorem e__law_same : c__law_same = b__law_same := by rfl
theorem e__law_right : c__law_right = b__law_right := by rfl
theorem e_law : c_law = b_law := by rfl
theorem h_is_integer : f_is_integer = g_is_integer := by unfold f_is_integer g_is_integer; rw [e_is_integer]
theorem h_is_within : f_is_within = g_is_within := by unfold f_is_within g_is_within; rw [e_is_within]
theorem h_check_letters : f_check_letters = g_check_letters := by unfold f_check_letters g_check_letters; rw [e_check_letters]
theorem h_letter_list : f_letter_list = g_letter_list := by unfold f_letter_list g_letter_list; rw [e_letter_list]
theorem h_is_letter : f_is_letter = g_is_letter := by unfold f_is_letter g_is_letter; rw [e_is_letter]
theorem h_is_text_of : f_is_text_of = g_is_text_of := by unfold f_is_text_of g_is_text_of; rw [e_is_text_of]
theorem h_check_text : f_check_text = g_check_text := by unfold f_check_text g_check_text; rw [e_check_text]
theorem h_is_bare : f_is_bare = g_is_bare := by unfold f_is_bare g_is_bare; rw [e_is_bare]
theorem h_is_bare_one : f_is_bare_one = g_is_bare_one := by unfold f_is_bare_one g_is_bare_one; rw [e_is_bare_one]
theorem h_parts_of : f_parts_of = g_parts_of := by unfold f_parts_of g_parts_of; rw [e_parts_of]
theorem h_is_built : f_is_built = g_is_built := by unfold f_is_built g_is_built; rw [e_is_built]
theorem h_size_of : f_size_of = g_size_of := by unfold f_size_of g_size_of; rw [e_size_of]
theorem h_is_query_of : f_is_query_of = g_is_query_of := by unfold f_is_query_of g_is_query_of; rw [e_is_query_of]
theorem h_check_query : f_check_query = g_check_query := by unfold f_check_query g_check_query; rw [e_check_query]
theorem h_spots_of : f_spots_of = g_spots_of := by unfold f_spots_of g_spots_of; rw [e_spots_of]
theorem h_are_near : f_are_near = g_are_near := by unfold f_are_near g_are_near; rw [e_are_near]
theorem h_are_ahead : f_are_ahead = g_are_ahead := by unfold f_are_ahead g_are_ahead; rw [e_are_ahead]
theorem h_holds_bare : f_holds_bare = g_holds_bare := by unfold f_holds_bare g_holds_bare; rw [e_holds_bare]
theorem h_holds : f_holds = g_holds := by unfold f_holds g_holds; rw [e_holds]
theorem h_reads : f_reads = g_reads := by unfold f_reads g_reads; rw [e_reads]
theorem h_trace : f_trace = g_trace := by unfold f_trace g_trace; rw [e_trace]
theorem h__law_pot : f__law_pot = g__law_pot := by unfold f__law_pot g__law_pot; rw [e__law_pot]
theorem h__law_draw : f__law_draw = g__law_draw := by unfold f__law_draw g__law_draw; rw [e__law_draw]
theorem h__law_pick : f__law_pick = g__law_pick := by unfold f__law_pick g__law_pick; rw [e__law_pick]
theorem h__law_text : f__law_text = g__law_text := by unfold f__law_text g__law_text; rw [e__law_text]
theorem h__law_letter : f__law_letter = g__law_letter := by unfold f__law_letter g__law_letter; rw [e__law_letter]
theorem h__law_single : f__law_single = g__law_single := by unfold f__law_single g__law_single; rw [e__law_single]
theorem h__law_query : f__law_query = g__law_query := by unfold f__law_query g__law_query; rw [e__law_query]
theorem h__law_spots : f__law_spots = g__law_spots := by unfold f__law_spots g__law_spots; rw [e__law_spots]
theorem h__law_stands : f__law_stands = g__law_stands := by unfold f__law_stands g__law_stands; rw [e__law_stands]
theorem h__law_single_holds : f__law_single_holds = g__law_single_holds := by unfold f__law_single_holds g__law_single_holds; rw [e__law_single_holds]
theorem h__law_holds : f__law_holds = g__law_holds := by unfold f__law_holds g__law_holds; rw [e__law_holds]
theorem h__law_texts : f__law_texts = g__law_texts := by unfold f__law_texts g__law_texts; rw [e__law_texts]
theorem h__law_texts_right : f__law_texts_right = g__law_texts_right := by unfold f__law_texts_right g__law_texts_right; rw [e__law_texts_right]
theorem h__law_same : f__law_same = g__law_same := by unfold f__law_same g__law_same; rw [e__law_same]
theorem h__law_right : f__law_right = g__law_right := by unfold f__law_right g__law_right; rw [e__law_right]
theorem h_law : f_law = g_law := by unfold f_law g_law; rw [e_law]
theorem P_eq : P = Y P := by
  unfold Y P fns
  rw [h_is_integer, h_is_within, h_check_letters, h_letter_list, h_is_letter, h_is_text_of, h_check_text, h_is_bare, h_is_bare_one, h_parts_of, h_is_built, h_size_of, h_is_query_of, h_check_query, h_spots_of, h_are_near, h_are_ahead, h_holds_bare, h_holds, h_reads, h_trace, h__law_pot, h__law_draw, h__law_pick, h__law_text, h__law_letter, h__law_single, h__law_query, h__law_spots, h__law_stands, h__law_single_holds, h__law_holds, h__law_texts, h__law_texts_right, h__law_same, h__law_right, h_law]
end K12
namespace Pv
def b_areNear (f : Nat) : List MS := [.set 2 (.call f [.ix (.v 0) (.c (.int 2)), .v 1] [0, 1] []), .for (.nm 3) (.seq) [.call f [.ix (.v 0) (.c (.int 1)), .v 1] [0, 1] []] [.ife (.bi (.any) [.lc (.cmp2 (.lt) (.le) (.c (.int 0)) (.bi (.abs) [.bin (.sub) (.v 3) (.v 4)]) (.bin (.add) (.ix (.v 0) (.c (.int 3))) (.c (.int 1)))) (.nm 4) (.seq) [.v 2] [] [4]]) [.ret (.c (.bl true))] []], .ret (.c (.bl false))]
def b_areAhead (f : Nat) : List MS := [.par [2, 3] [.call f [.ix (.v 0) (.c (.int 1)), .v 1] [0, 1] [], .call f [.ix (.v 0) (.c (.int 2)), .v 1] [0, 1] []], .ret (.and [.cmp (.ne) (.v 2) (.lst []), .cmp (.ne) (.v 3) (.lst []), .cmp (.lt) (.ix (.v 2) (.c (.int 0))) (.ix (.v 3) (.neg (.c (.int 1))))])]
@[simp] theorem ati_three {α : Type} (x y z u : α) (xs : List α) : ati (x :: y :: z :: u :: xs) 3 = some u := by
  have : (3 : Int) < xs.length + 1 + 1 + 1 + 1 := by omega
  simp [ati, ixn, this]
def gNear (f : Nat) : Fn := ⟨2, 5, [false, false, false, false, false], b_areNear f⟩
def gAhead (f : Nat) : Fn := ⟨2, 4, [false, false, false, false], b_areAhead f⟩
theorem near_f {Z : Sys} {f fs : Nat} (hs : Z.fns[fs]? = some gSpots) (hf : Z.fns[f]? = some (gNear fs)) (n : Nat) (w : List Nat) (a b : Nat) (i : Int) (h0 : 0 ≤ i) (h9 : i < 1000) (t : List Nat) (h : t.length ≤ 1000) :
    (callN Z (n + 2) f [.v (.tup [.str w, .str [a], .str [b], .int i]), .v (.str t)]).Ok (Pu (.bl (nearB a b i t)) 2) := by
  refine call_pu hf rfl rfl rfl (by intro i hi; rcases i with _ | _ | i <;> first | rfl | omega) ?_
  show (exB Z (callN Z (n + 1)) (keepL 2 [false, false, false, false, false]) (b_areNear fs) [.v (.tup [.str w, .str [a], .str [b], .int i]), .v (.str t), .e, .e, .e]).Ok _
  have fk : fkeep Z fs 0 = false ∧ fkeep Z fs 1 = false := by simp [fkeep, hs, gSpots]
  have e1 := spotsE hs (n := n + 1) (by omega) a h
  have e2 := spotsE hs (n := n + 1) (by omega) b h
  have hla := posN_le a t
  have hlb := posN_le b t
  simp [b_areNear, fk, e1, e2, keepL, setSl, isBox, tgIx]
  refine hk_of (forI_ret (fun x => match x with | .int p => (posN b t).any fun j => nearI i p (j : Int) | _ => false) (fun r => ∃ s3, r = [.v (.tup [.str w, .str [a], .str [b], .int i]), .v (.str t), .v (.lst (natsD (posN b t))), s3, .e] ∧ Fr s3) _ _ ?_ ⟨.e, rfl, .inl rfl⟩) ?_
  · rintro x hx r ⟨s3, rfl, f3⟩
    obtain ⟨p, _, rfl⟩ := List.mem_map.mp (show x ∈ natsD _ from hx)
    refine ⟨[.v (.tup [.str w, .str [a], .str [b], .int i]), .v (.str t), .v (.lst (natsD (posN b t))), .v (.int p), .e], by rcases f3 with rfl | ⟨u, rfl⟩ <;> simp [bindT, putV], ?_⟩
    have L1 := lc_map (P := Z) (cl := callN Z (n + 1)) (r := [.v (.tup [.str w, .str [a], .str [b], .int i]), .v (.str t), .v (.lst (natsD (posN b t))), .v (.int p), .e]) (i := 4) (w := .seq) (e := .cmp2 (.lt) (.le) (.c (.int 0)) (.bi (.abs) [.bin (.sub) (.v 3) (.v 4)]) (.bin (.add) (.ix (.v 0) (.c (.int 3))) (.c (.int 1)))) (es := [.v 2]) (g := fun x => match x with | .int j => .bl (nearI i p j) | _ => .non) (xs := natsD (posN b t))
      (by simp; rfl) rfl rfl rfl (by simp) rfl (fun x hx => by
        obtain ⟨j, _, rfl⟩ := List.mem_map.mp (show x ∈ natsD _ from hx)
        refine ⟨false, ?_, rfl⟩
        by_cases c : 0 < (if (p : Int) - (j : Int) < 0 then -((p : Int) - (j : Int)) else (p : Int) - (j : Int)) <;> simp only [nearI, c] <;> simp [c]) (by simp only [natsD, List.length_map, LIM]; omega)
    have e : (natsD (posN b t)).map (fun x => match x with | .int j => D.bl (nearI i p j) | _ => .non) = (posN b t).map fun (j : Nat) => D.bl (nearI i p (j : Int)) := by
      simp only [natsD, List.map_map]; rfl
    rw [e] at L1
    have B := bools_map (fun (j : Nat) => nearI i p (j : Int)) (posN b t)
    cases hq : (posN b t).any fun j => nearI i p (j : Int) with
    | true =>
      simp [L1, B, hq]
      exact .inr ⟨_, rfl⟩
    | false =>
      simp [L1, B, hq]
      exact .inr ⟨_, rfl⟩
  · rintro fl r ⟨⟨s3, rfl, f3⟩, hfl⟩
    have en : nearB a b i t = (natsD (posN a t)).any (fun x => match x with | .int p => (posN b t).any fun j => nearI i p (j : Int) | _ => false) := by
      simp only [nearB, natsD, List.any_map]
      rfl
    cases hq : nearB a b i t with
    | true =>
      rw [← en, hq] at hfl
      rw [show fl = _ from hfl]
      simp
    | false =>
      rw [← en, hq] at hfl
      rw [show fl = _ from hfl]
      simp
theorem nats_plain (xs : List Nat) : plain DEEP (.lst (natsD xs)) = true := by
  show (natsD xs).all (plain _) = true
  rw [List.all_eq_true]
  intro x hx
  obtain ⟨p, _, rfl⟩ := List.mem_map.mp hx
  exact plain_int _ _
theorem ati_last {α : Type} (xs : List α) (h : xs ≠ []) : ati xs (-1) = some (xs.getLast h) := by
  have hl : 0 < xs.length := List.length_pos_iff.mpr h
  have e : ixn xs.length (-1) = some (xs.length - 1) := by
    unfold ixn
    have : ¬ (0 : Int) ≤ -1 := by omega
    simp [this]
    omega
  unfold ati
  rw [e]
  simp [List.getLast_eq_getElem]
theorem sorted_last : ∀ {y : Nat} {ys : List Nat}, (y :: ys).Pairwise (· < ·) → ∃ z, z ∈ y :: ys ∧ (∀ u, u ∈ y :: ys → u ≤ z) ∧ (y :: ys).getLast (by simp) = z
  | y, [], _ => ⟨y, by simp, by simp, rfl⟩
  | y, x :: ys, h => by
    have h1 := List.pairwise_cons.mp h
    obtain ⟨z, zm, zl, e⟩ := sorted_last h1.2
    refine ⟨z, List.mem_cons_of_mem _ zm, fun u hu => ?_, by rw [List.getLast_cons (by simp)]; exact e⟩
    rcases List.mem_cons.mp hu with rfl | hu
    · exact Nat.le_of_lt (h1.1 z zm)
    · exact zl u hu
theorem ahead_f {Z : Sys} {f fs : Nat} (hs : Z.fns[fs]? = some gSpots) (hf : Z.fns[f]? = some (gAhead fs)) (n : Nat) (w : List Nat) (a b : Nat) (t : List Nat) (h : t.length ≤ 1000) :
    (callN Z (n + 2) f [.v (.tup [.str w, .str [a], .str [b]]), .v (.str t)]).Ok (Pu (.bl (aheadB a b t)) 2) := by
  refine call_pu hf rfl rfl rfl (by intro i hi; rcases i with _ | _ | i <;> first | rfl | omega) ?_
  show (exB Z (callN Z (n + 1)) (keepL 2 [false, false, false, false]) (b_areAhead fs) [.v (.tup [.str w, .str [a], .str [b]]), .v (.str t), .e, .e]).Ok _
  have fk : fkeep Z fs 0 = false ∧ fkeep Z fs 1 = false := by simp [fkeep, hs, gSpots]
  have e1 := spotsE hs (n := n + 1) (by omega) a h
  have e2 := spotsE hs (n := n + 1) (by omega) b h
  have p1 := nats_plain (posN a t)
  have p2 := nats_plain (posN b t)
  have p3 : plain DEEP (.lst []) = true := rfl
  have hsa := posF_sorted (c := a) t 0
  have hsb := posF_sorted (c := b) t 0
  cases ha : posN a t with
  | nil =>
    rw [ha] at e1 p1
    simp [b_areAhead, fk, e1, e2, keepL, setAll, setSl, isBox, List.replicate, p1, p3, natsD, eqD, eqL, aheadB, ha]
  | cons x xs =>
    cases hb : posN b t with
    | nil =>
      rw [ha] at e1 p1
      rw [hb] at e2 p2
      simp [b_areAhead, fk, e1, e2, keepL, setAll, setSl, isBox, List.replicate, p1, p2, p3, aheadB, ha, hb]
      simp [natsD, eqD, eqL]
    | cons y ys =>
      rw [ha] at e1 p1
      rw [hb] at e2 p2
      rw [show posF a 0 t = x :: xs from ha] at hsa
      rw [show posF b 0 t = y :: ys from hb] at hsb
      obtain ⟨z, zm, zl, ez⟩ := sorted_last hsb
      have el : ati (natsD (y :: ys)) (-1) = some (.int (z : Int)) := by
        rw [ati_last (natsD (y :: ys)) (by simp [natsD])]
        simp only [natsD, List.getLast_map, ez]
      have eh : aheadB a b t = decide (x < z) := by
        rw [Bool.eq_iff_iff]
        simp only [aheadB, ha, hb, List.any_eq_true, decide_eq_true_eq]
        constructor
        · rintro ⟨i, hi, j, hj, hlt⟩
          have h2 := zl j hj
          rcases List.mem_cons.mp hi with rfl | hi
          · omega
          · have := (List.pairwise_cons.mp hsa).1 i hi
            omega
        · exact fun h => ⟨x, List.mem_cons_self, z, zm, h⟩
      have a0 : ati (natsD (x :: xs)) 0 = some (.int (x : Int)) := by simp [natsD, ati, ixn]
      have q1 : eqD (.lst (natsD (x :: xs))) (.lst []) = false := rfl
      have q2 : eqD (.lst (natsD (y :: ys))) (.lst []) = false := rfl
      simp [b_areAhead, fk, e1, e2, keepL, setAll, setSl, isBox, List.replicate, p1, p2, p3, q1, q2, a0, el, eh]
def b_holdsBare (fn fa : Nat) : List MS := [.set 2 (.ix (.v 0) (.c (.int 0))), .ife (.cmp (.isin) (.v 2) (.tup [.c (.str [97, 108, 108]), .c (.str [110, 111, 110, 101])])) [.ret (.cmp (.eq) (.v 2) (.c (.str [97, 108, 108])))] [], .ife (.cmp (.isin) (.v 2) (.tup [.c (.str [119, 111, 114, 100]), .c (.str [114, 111, 119])])) [.ret (.cmp (.isin) (.ix (.v 0) (.c (.int 1))) (.v 1))] [], .ife (.cmp (.isin) (.v 2) (.tup [.c (.str [102, 105, 114, 115, 116]), .c (.str [108, 97, 115, 116])])) [.ret (.ife (.cmp (.eq) (.v 2) (.c (.str [102, 105, 114, 115, 116]))) (.mt (.startswith) (.v 1) [.ix (.v 0) (.c (.int 1))]) (.mt (.endswith) (.v 1) [.ix (.v 0) (.c (.int 1))]))] [], .ife (.cmp (.eq) (.v 2) (.c (.str [108, 111, 110, 103]))) [.ret (.cmp (.ge) (.bi (.len) [.v 1]) (.ix (.v 0) (.c (.int 1))))] [], .ife (.cmp (.eq) (.v 2) (.c (.str [110, 101, 97, 114]))) [.ret (.call fn [.v 0, .v 1] [0, 1] [])] [], .ife (.cmp (.eq) (.v 2) (.c (.str [97, 104, 101, 97, 100]))) [.ret (.call fa [.v 0, .v 1] [0, 1] [])] [], .set 3 (.mt (.count) (.v 1) [.ix (.v 0) (.c (.int 1))]), .ret (.ife (.cmp (.eq) (.v 2) (.c (.str [111, 102, 116, 101, 110]))) (.cmp (.ge) (.v 3) (.ix (.v 0) (.c (.int 2)))) (.cmp (.eq) (.bin (.mod) (.bi (.int) [.v 3]) (.ix (.v 0) (.c (.int 2)))) (.ix (.v 0) (.c (.int 3)))))]
def gHoldsBare (fn fa : Nat) : Fn := ⟨2, 4, [false, false, false, false], b_holdsBare fn fa⟩
structure RN where
  spots : Nat
  near : Nat
  ahead : Nat
  bare : Nat
  holds : Nat
def b_holds (f fb : Nat) : List MS := [.ife (.cmp (.eq) (.ix (.v 0) (.c (.int 0))) (.c (.str [110, 111, 116]))) [.ret (.not (.call f [.ix (.v 0) (.c (.int 1)), .v 1] [0, 1] []))] [], .ife (.cmp (.eq) (.ix (.v 0) (.c (.int 0))) (.c (.str [97, 110, 100]))) [.ret (.bi (.all) [.lc (.call f [.v 2, .v 1] [0, 1] []) (.nm 2) (.seq) [.sl (.v 0) (some (.c (.int 1))) none] [] [2]])] [], .ife (.cmp (.eq) (.ix (.v 0) (.c (.int 0))) (.c (.str [111, 114]))) [.ret (.bi (.any) [.lc (.call f [.v 2, .v 1] [0, 1] []) (.nm 2) (.seq) [.sl (.v 0) (some (.c (.int 1))) none] [] [2]])] [], .ret (.call fb [.v 0, .v 1] [0, 1] [])]
structure RF (Z : Sys) (R : RN) : Prop extends StrF Z where
  spots : Z.fns[R.spots]? = some gSpots
  near : Z.fns[R.near]? = some (gNear R.spots)
  ahead : Z.fns[R.ahead]? = some (gAhead R.spots)
  bare : Z.fns[R.bare]? = some (gHoldsBare R.near R.ahead)
  holds : Z.fns[R.holds]? = some ⟨2, 3, [false, false, false], b_holds R.holds R.bare⟩
def unb : D → List Nat × List D
  | .tup (.str w :: ys) => (w, ys)
  | _ => ([], [])
theorem bareW_f {Z : Sys} {R : RN} (q : RF Z R) (n : Nat) {d : D} (hd : Wb d) (t : List Nat) (h : t.length ≤ 1000) :
    (callN Z (n + 3) R.bare [.v d, .v (.str t)]).Ok (Pu (.bl (bareH (unb d).1 (unb d).2 t)) 2) := by
  refine call_pu q.bare rfl rfl rfl (by intro i hi; rcases i with _ | _ | i <;> first | rfl | omega) ?_
  have fk : fkeep Z R.near 0 = false ∧ fkeep Z R.near 1 = false ∧ fkeep Z R.ahead 0 = false ∧ fkeep Z R.ahead 1 = false := by simp [fkeep, q.near, q.ahead, gNear, gAhead]
  have l1 : t.length ≤ LIM := by simp only [LIM]; omega
  show (exB Z (callN Z (n + 2)) (keepL 2 [false, false, false, false]) (b_holdsBare R.near R.ahead) [.v d, .v (.str t), .e, .e]).Ok _
  cases hd with
  | word c => simp [b_holdsBare, inL, keepL, setSl, isBox, q.ins, unb, bareH, wFirst, wLast]
  | row s hs => simp [b_holdsBare, inL, keepL, setSl, isBox, q.ins, unb, bareH, wFirst, wLast]
  | all => simp [b_holdsBare, inL, keepL, setSl, isBox, unb, bareH]
  | none => simp [b_holdsBare, inL, keepL, setSl, isBox, unb, bareH]
  | first s hs => simp [b_holdsBare, inL, keepL, setSl, isBox, unb, bareH, wFirst, wLast, preB, mtD]
  | last s hs => simp [b_holdsBare, inL, keepL, setSl, isBox, unb, bareH, wFirst, wLast, sufB, mtD]
  | long i h0 h1 => simp [b_holdsBare, inL, keepL, setSl, isBox, unb, bareH, l1]
  | often c i h0 h1 => simp [b_holdsBare, inL, keepL, setSl, isBox, unb, bareH, l1, mtD, q.cnt]
  | rest c m i h0 h1 h2 h3 =>
    simp [b_holdsBare, inL, keepL, setSl, isBox, unb, bareH, l1, mtD, q.cnt]
    refine ⟨by omega, ?_⟩
    by_cases h : ((t.count c : Nat) : Int) % m = i <;> simp [h]
  | near a b i h0 h1 =>
    have e := fun r => callE_eq q.near (r := r) (n := n + 2) (ix := [0, 1]) (df := []) (as := [(.tup [.str [110, 101, 97, 114], .str [a], .str [b], .int i], false), (.str t, false)]) (sl := [.tup [.str [110, 101, 97, 114], .str [a], .str [b], .int i], .str t]) (by intro y hy; simp at hy; rcases hy with rfl | rfl <;> rfl) (by simp [gNear]) (by simp [gNear, argSl, argOf_pl, List.range_succ, List.findIdx?, List.findIdx?.go, isRef]) (near_f q.spots q.near n _ a b i h0 h1 t h)
    simp [b_holdsBare, inL, keepL, setSl, isBox, unb, bareH, fk, e]
  | ahead a b =>
    have e := fun r => callE_eq q.ahead (r := r) (n := n + 2) (ix := [0, 1]) (df := []) (as := [(.tup [.str [97, 104, 101, 97, 100], .str [a], .str [b]], false), (.str t, false)]) (sl := [.tup [.str [97, 104, 101, 97, 100], .str [a], .str [b]], .str t]) (by intro y hy; simp at hy; rcases hy with rfl | rfl <;> rfl) (by simp [gAhead]) (by simp [gAhead, argSl, argOf_pl, List.range_succ, List.findIdx?, List.findIdx?.go, isRef]) (ahead_f q.spots q.ahead n _ a b t h)
    simp [b_holdsBare, inL, keepL, setSl, isBox, unb, bareH, fk, e]
theorem Wb.form {d : D} (h : Wb d) : d = .tup (.str (unb d).1 :: (unb d).2) ∧ (unb d).1 ≠ wNot ∧ (unb d).1 ≠ wAnd ∧ (unb d).1 ≠ wOr := by
  cases h <;> exact ⟨rfl, by simp [unb, wNot], by simp [unb, wAnd], by simp [unb, wOr]⟩
theorem holdsN_bare {d : D} (h : Wb d) (m : Nat) (t : List Nat) : holdsN (m + 1) d t = bareH (unb d).1 (unb d).2 t := by
  obtain ⟨e, a, b, c⟩ := h.form
  generalize (unb d).1 = w at *
  generalize (unb d).2 = ys at *
  rw [e]
  simp [holdsN, a, b, c]
theorem holdsN_not (m : Nat) (d : D) (t : List Nat) : holdsN (m + 1) (.tup [.str [110, 111, 116], d]) t = !holdsN m d t := by
  simp [holdsN, wNot]
theorem holdsN_and (m : Nat) (xs : List D) (t : List Nat) : holdsN (m + 1) (.tup (.str [97, 110, 100] :: xs)) t = xs.all fun y => holdsN m y t := by
  simp [holdsN, wNot, wAnd]
theorem holdsN_or (m : Nat) (xs : List D) (t : List Nat) : holdsN (m + 1) (.tup (.str [111, 114] :: xs)) t = xs.any fun y => holdsN m y t := by
  simp [holdsN, wNot, wAnd, wOr]
theorem holds_f {Z : Sys} {R : RN} (q : RF Z R) (t : List Nat) (h : t.length ≤ 1000) : ∀ (m : Nat) (d : D), Wq m d → ∀ dep, m + 1 ≤ dep → ∀ n, m + 4 ≤ n →
    (callN Z n R.holds [.v d, .v (.str t)]).Ok (Pu (.bl (holdsN dep d t)) 2) := by
  intro m
  induction m using Nat.strongRecOn with
  | _ m ih =>
    intro d hq dep hd n hn
    obtain ⟨dep, rfl⟩ : ∃ e, dep = e + 1 := ⟨dep - 1, by omega⟩
    obtain ⟨n, rfl⟩ : ∃ e, n = e + 4 := ⟨n - 4, by omega⟩
    refine call_pu q.holds rfl rfl rfl (by intro i hi; rcases i with _ | _ | i <;> first | rfl | omega) ?_
    show (exB Z (callN Z (n + 3)) (keepL 2 [false, false, false]) (b_holds R.holds R.bare) [.v d, .v (.str t), .e]).Ok _
    have fk : fkeep Z R.holds 0 = false ∧ fkeep Z R.holds 1 = false ∧ fkeep Z R.bare 0 = false ∧ fkeep Z R.bare 1 = false := by simp [fkeep, q.holds, q.bare, gHoldsBare]
    have hR : ∀ m' (x : D), m' < m → Wq m' x → m' + 1 ≤ dep → ∀ r, callE Z (callN Z (n + 3)) R.holds [0, 1] [] [(x, false), (.str t, false)] r = .ok (.bl (holdsN dep x t), false) r := fun m' x hm hx hdep r => by
      have rx := hx.noRef
      refine callE_eq (m := 2) q.holds (sl := [x, .str t]) (by intro y hy; simp at hy; rcases hy with rfl | rfl <;> first | rfl | exact rx) (by simp) (by simp [argSl, argOf_pl rx, List.range_succ, List.findIdx?, List.findIdx?.go]) ?_
      exact ih m' hm x hx dep hdep (n + 3) (by omega)
    cases hq with
    | sg hs =>
      have e := fun r => callE_eq q.bare (r := r) (n := n + 3) (ix := [0, 1]) (df := []) (as := [(d, false), (.str t, false)]) (sl := [d, .str t]) (by intro y hy; simp at hy; rcases hy with rfl | rfl <;> first | rfl | exact hs.noRef) (by simp [gHoldsBare]) (by simp [gHoldsBare, argSl, argOf_pl hs.noRef, List.range_succ, List.findIdx?, List.findIdx?.go]) (bareW_f q n hs t h)
      rw [holdsN_bare hs]
      cases hs <;> simp [b_holds, fk, e]
    | no hx =>
      rename_i m' d
      rw [holdsN_not]
      have e := hR m' d (by omega) hx (by omega)
      simp [b_holds, fk, hx.noRef, e]
    | ao hw hne hl hx =>
      rename_i m' w xs
      have hl3 : xs.length ≤ LIM := by simp only [LIM]; omega
      have e := fun x hxm => hR m' x (by omega) (hx x hxm) (by omega)
      have L1 := lc_map (P := Z) (cl := callN Z (n + 3)) (r := [.v (.tup (.str w :: xs)), .v (.str t), .e]) (i := 2) (w := .seq) (e := .call R.holds [.v 2, .v 1] [0, 1] []) (es := [.sl (.v 0) (some (.c (.int 1))) none]) (g := fun x => .bl (holdsN dep x t)) (xs := xs)
        (by simp [cut1]; rfl) rfl rfl rfl (by simp) rfl (fun x hx' => ⟨false, by simp [fk, (hx x hx').noRef, e x hx'], rfl⟩) hl3
      have B := bools_map (fun x => holdsN dep x t) xs
      rcases hw with rfl | rfl
      · rw [holdsN_and]
        simp [b_holds, L1, B]
      · rw [holdsN_or]
        simp [b_holds, L1, B]
end Pv
namespace Pv
def b_stands12 : List MS := [.ret (.lc (.v 2) (.nm 2) (.range) [.bin (.add) (.bi (.len) [.v 1]) (.c (.int 1))] [.and [.cmp (.eq) (.sl (.v 1) (some (.v 2)) (some (.bin (.add) (.v 2) (.bi (.len) [.v 0])))) (.v 0), .cmp (.le) (.bin (.add) (.v 2) (.bi (.len) [.v 0])) (.bi (.len) [.v 1])]] [2])]
def gStands12 : Fn := ⟨2, 3, [false, false, false], b_stands12⟩
theorem stands12_f {Z : Sys} {f : Nat} (hf : Z.fns[f]? = some gStands12) (n : Nat) (row text : List Nat) (h1 : row.length ≤ 1000) (h2 : text.length ≤ 1000) :
    (callN Z (n + 1) f [.v (.str row), .v (.str text)]).Ok fun d fr o => d = .lst (natsD (standsL row text)) ∧ fr = true ∧ o = List.replicate 2 .e := by
  refine call_of hf rfl rfl ?_
  show (exB Z (callN Z n) (keepL 2 [false, false, false]) b_stands12 [.v (.str row), .v (.str text), .e]).Ok _
  have l1 : row.length ≤ LIM := by simp only [LIM]; omega
  have l2 : text.length ≤ LIM := by simp only [LIM]; omega
  have hr : rngOk ((text.length : Int) + 1) = true := rngOk_of (by omega) (by omega)
  have L1 := lc_eq (P := Z) (cl := callN Z n) (r := [.v (.str row), .v (.str text), .e]) (i := 2) (w := .range) (e := .v 2) (es := [.bin (.add) (.bi (.len) [.v 1]) (.c (.int 1))]) (ifs := [.and [.cmp (.eq) (.sl (.v 1) (some (.v 2)) (some (.bin (.add) (.v 2) (.bi (.len) [.v 0])))) (.v 0), .cmp (.le) (.bin (.add) (.v 2) (.bi (.len) [.v 0])) (.bi (.len) [.v 1])]]) (g := fun x => x)
    (p := fun x => match x with | .int i => standsB row text i.toNat | _ => false) (xs := ranged 0 ((text.length : Int) + 1))
    (by simp [l2]; rfl) rfl rfl (by simp [hr]) (by simp) rfl (fun x hx => by
      obtain ⟨c, _, rfl⟩ := List.mem_map.mp (show x ∈ ranged 0 _ from hx)
      have e0 : (0 : Int) + (c : Int) = (c : Int) := by omega
      rw [e0]
      refine ⟨?_, fun _ => ⟨false, by simp, rfl⟩⟩
      have hc := cut_mid text c row.length
      by_cases h : (text.drop c).take row.length = row
      · by_cases h3 : c + row.length ≤ text.length
        · have h4 : (c : Int) + (row.length : Int) ≤ (text.length : Int) := by omega
          simp [l1, l2, hc, h, h3, h4, standsB]
        · have h4 : ¬ (c : Int) + (row.length : Int) ≤ (text.length : Int) := by omega
          simp [l1, l2, hc, h, h3, h4, standsB]
      · simp [l1, l2, hc, h, standsB]) (by unfold ranged; simp [LIM]; omega)
  have e := filter_ranged (p := fun x => match x with | .int i => standsB row text i.toNat | _ => false) (q := standsB row text) (fun i => by simp) (text.length + 1)
  rw [show ((text.length + 1 : Nat) : Int) = (text.length : Int) + 1 by omega] at e
  rw [e, List.map_id'] at L1
  simp [b_stands12, L1]
  exact fin_fr rfl rfl ⟨rfl, rfl, rfl⟩
theorem stands12E {Z : Sys} {f : Nat} (hf : Z.fns[f]? = some gStands12) {n : Nat} (hn : 1 ≤ n) {row text : List Nat} (h1 : row.length ≤ 1000) (h2 : text.length ≤ 1000) (r : Env) :
    callE Z (callN Z n) f [0, 1] [] [(.str row, false), (.str text, false)] r = .ok (.lst (natsD (standsL row text)), true) r := by
  obtain ⟨n, rfl⟩ : ∃ e, n = e + 1 := ⟨n - 1, by omega⟩
  exact callE_eqF (m := 2) hf (sl := [.str row, .str text]) (by intro y hy; simp at hy; rcases hy with rfl | rfl <;> rfl) (by simp [gStands12]) (by simp [gStands12, argSl, List.range_succ, List.findIdx?, List.findIdx?.go]) (stands12_f hf n row text h1 h2) rfl
theorem inL_nats (i : Int) : ∀ xs : List Nat, inL (.int i) (natsD xs) = xs.any fun (p : Nat) => decide ((p : Int) = i)
  | [] => rfl
  | x :: xs => by
    have ih := inL_nats i xs
    show (eqD (.int (x : Int)) (.int i) || inL (.int i) (natsD xs)) = _
    rw [ih, List.any_cons]
    congr 1
theorem mem_stands {s t : List Nat} {p : Nat} : p ∈ standsL s t ↔ standsB s t p = true := by
  unfold standsL
  rw [List.mem_filter, List.mem_range]
  constructor
  · exact fun h => h.2
  · intro h
    refine ⟨?_, h⟩
    unfold standsB at h
    simp at h
    omega
theorem pre_stands (s t : List Nat) : inL (.int 0) (natsD (standsL s t)) = preB s t := by
  rw [inL_nats, Bool.eq_iff_iff, List.any_eq_true]
  have : standsB s t 0 = preB s t := by simp [standsB, preB]
  rw [← this]
  constructor
  · rintro ⟨p, hp, h⟩
    have h : p = 0 := by simpa using h
    exact h ▸ mem_stands.mp hp
  · exact fun h => ⟨0, mem_stands.mpr h, by simp⟩
theorem suf_stands (s t : List Nat) : inL (.int ((t.length : Int) - (s.length : Int))) (natsD (standsL s t)) = sufB s t := by
  rw [inL_nats, Bool.eq_iff_iff, List.any_eq_true]
  constructor
  · rintro ⟨p, hp, h⟩
    have h : (p : Int) = (t.length : Int) - (s.length : Int) := by simpa using h
    have hp := mem_stands.mp hp
    have e : p = t.length - s.length := by omega
    subst e
    simp only [standsB, Bool.and_eq_true, decide_eq_true_eq] at hp
    simp only [sufB, Bool.and_eq_true, decide_eq_true_eq]
    exact ⟨by omega, hp.2⟩
  · intro h
    simp only [sufB, Bool.and_eq_true, decide_eq_true_eq] at h
    refine ⟨t.length - s.length, mem_stands.mpr ?_, by simp; omega⟩
    simp only [standsB, Bool.and_eq_true, decide_eq_true_eq]
    exact ⟨by omega, h.2⟩
theorem nats_all (xs : List Nat) : (natsD xs).all (plain DEEP) = true := by
  rw [List.all_eq_true]
  intro x hx
  obtain ⟨p, _, rfl⟩ := List.mem_map.mp hx
  exact plain_int _ _
theorem nats_nil (xs : List Nat) : eqD (.lst (natsD xs)) (.lst []) = xs.isEmpty := by cases xs <;> rfl
theorem nats_len (xs : List Nat) : (natsD xs).length = xs.length := by simp [natsD]
def b_singleHolds (fs fp : Nat) : List MS := [.par [2, 3] [.ix (.v 0) (.c (.int 0)), .bi (.len) [.v 1]], .ife (.cmp (.isin) (.v 2) (.lst [.c (.str [97, 108, 108]), .c (.str [110, 111, 110, 101])])) [.ret (.cmp (.eq) (.v 2) (.c (.str [97, 108, 108])))] [], .ife (.cmp (.isin) (.v 2) (.lst [.c (.str [119, 111, 114, 100]), .c (.str [114, 111, 119])])) [.ret (.cmp (.ne) (.call fs [.ix (.v 0) (.c (.int 1)), .v 1] [0, 1] []) (.lst []))] [], .ife (.cmp (.eq) (.v 2) (.c (.str [102, 105, 114, 115, 116]))) [.ret (.cmp (.isin) (.c (.int 0)) (.call fs [.ix (.v 0) (.c (.int 1)), .v 1] [0, 1] []))] [], .ife (.cmp (.eq) (.v 2) (.c (.str [108, 97, 115, 116]))) [.ret (.cmp (.isin) (.bin (.sub) (.v 3) (.bi (.len) [.ix (.v 0) (.c (.int 1))])) (.call fs [.ix (.v 0) (.c (.int 1)), .v 1] [0, 1] []))] [], .ife (.cmp (.eq) (.v 2) (.c (.str [108, 111, 110, 103]))) [.ret (.cmp (.ge) (.v 3) (.ix (.v 0) (.c (.int 1))))] [], .set 4 (.call fp [.ix (.v 0) (.c (.int 1)), .v 1] [0, 1] []), .ife (.cmp (.eq) (.v 2) (.c (.str [111, 102, 116, 101, 110]))) [.ret (.cmp (.ge) (.bi (.len) [.v 4]) (.ix (.v 0) (.c (.int 2))))] [], .ife (.cmp (.eq) (.v 2) (.c (.str [114, 101, 115, 116]))) [.ret (.cmp (.eq) (.bin (.sub) (.bi (.len) [.v 4]) (.bin (.mul) (.bin (.fdiv) (.bi (.len) [.v 4]) (.ix (.v 0) (.c (.int 2)))) (.ix (.v 0) (.c (.int 2))))) (.ix (.v 0) (.c (.int 3))))] [], .set 5 (.call fp [.ix (.v 0) (.c (.int 2)), .v 1] [0, 1] []), .ife (.cmp (.eq) (.v 2) (.c (.str [97, 104, 101, 97, 100]))) [.ret (.bi (.any) [.lc (.bi (.any) [.lc (.cmp (.lt) (.v 6) (.v 7)) (.nm 7) (.seq) [.v 5] [] [7]]) (.nm 6) (.seq) [.v 4] [] [6]])] [], .ret (.bi (.any) [.lc (.bi (.any) [.lc (.and [.cmp (.ne) (.v 6) (.v 7), .cmp (.le) (.bin (.sub) (.bi (.abs) [.bin (.sub) (.v 6) (.v 7)]) (.c (.int 1))) (.ix (.v 0) (.c (.int 3)))]) (.nm 7) (.seq) [.v 5] [] [7]]) (.nm 6) (.seq) [.v 4] [] [6]])]
def gSingleHolds (fs fp : Nat) : Fn := ⟨2, 8, [false, false, false, false, false, false, false, false], b_singleHolds fs fp⟩
/-- any of any, over two lists of places -/
theorem any2 {Z : Sys} {cl : CL} {e : ME} {A B : List Nat} {g : Nat → Nat → Bool} {d x2 x3 : D} {tx : List Nat} (hA : A.length ≤ LIM) (hB : B.length ≤ LIM)
    (he : ∀ i j : Nat, ∃ b, evE Z cl e [.v d, .v (.str tx), .v x2, .v x3, .v (.lst (natsD A)), .v (.lst (natsD B)), .v (.int i), .v (.int j)] = .ok (.bl (g i j), b) [.v d, .v (.str tx), .v x2, .v x3, .v (.lst (natsD A)), .v (.lst (natsD B)), .v (.int i), .v (.int j)]) :
    evE Z cl (.lc (.bi (.any) [.lc e (.nm 7) (.seq) [.v 5] [] [7]]) (.nm 6) (.seq) [.v 4] [] [6]) [.v d, .v (.str tx), .v x2, .v x3, .v (.lst (natsD A)), .v (.lst (natsD B)), .e, .e] =
      .ok (.lst (A.map fun i => .bl (B.any fun j => g i j)), true) [.v d, .v (.str tx), .v x2, .v x3, .v (.lst (natsD A)), .v (.lst (natsD B)), .e, .e] := by
  have L := lc_map (P := Z) (cl := cl) (r := [.v d, .v (.str tx), .v x2, .v x3, .v (.lst (natsD A)), .v (.lst (natsD B)), .e, .e]) (i := 6) (w := .seq) (e := .bi (.any) [.lc e (.nm 7) (.seq) [.v 5] [] [7]]) (es := [.v 4]) (g := fun x => match x with | .int i => .bl (B.any fun j => g i.toNat j) | _ => .non) (xs := natsD A)
    (by simp; rfl) rfl rfl rfl (by simp) rfl (fun x hx => by
      obtain ⟨i, _, rfl⟩ := List.mem_map.mp (show x ∈ natsD _ from hx)
      have L2 := lc_map (P := Z) (cl := cl) (r := [.v d, .v (.str tx), .v x2, .v x3, .v (.lst (natsD A)), .v (.lst (natsD B)), .v (.int i), .e]) (i := 7) (w := .seq) (e := e) (es := [.v 5]) (g := fun x => match x with | .int j => .bl (g i j.toNat) | _ => .non) (xs := natsD B)
        (by simp; rfl) rfl rfl rfl (by simp) rfl (fun x hx => by
          obtain ⟨j, _, rfl⟩ := List.mem_map.mp (show x ∈ natsD _ from hx)
          obtain ⟨b, h⟩ := he i j
          exact ⟨b, by simpa using h, rfl⟩) (by simp only [natsD, List.length_map]; exact hB)
      have e2 : (natsD B).map (fun x => match x with | .int j => D.bl (g i j.toNat) | _ => .non) = B.map fun (j : Nat) => D.bl (g i j) := by
        simp only [natsD, List.map_map]; rfl
      rw [e2] at L2
      have BM := bools_map (fun (j : Nat) => g i j) B
      exact ⟨false, by simp [L2, BM, List.any_map, Function.comp_def], rfl⟩) (by simp only [natsD, List.length_map]; exact hA)
  have e1 : (natsD A).map (fun x => match x with | .int i => D.bl (B.any fun j => g i.toNat j) | _ => .non) = A.map fun (i : Nat) => D.bl (B.any fun j => g i j) := by
    simp only [natsD, List.map_map]; rfl
  rw [e1] at L
  exact L
theorem singleHolds_f {Z : Sys} {f fs fp : Nat} (hs : Z.fns[fs]? = some gStands12) (hp : Z.fns[fp]? = some gSpots) (hf : Z.fns[f]? = some (gSingleHolds fs fp)) (n : Nat) {d : D} (hd : Wb d) (t : List Nat) (h : t.length ≤ 1000) :
    (callN Z (n + 2) f [.v d, .v (.str t)]).Ok (Pu (.bl (bareH (unb d).1 (unb d).2 t)) 2) := by
  refine call_pu hf rfl rfl rfl (by intro i hi; rcases i with _ | _ | i <;> first | rfl | omega) ?_
  have fk : fkeep Z fs 0 = false ∧ fkeep Z fs 1 = false ∧ fkeep Z fp 0 = false ∧ fkeep Z fp 1 = false := by simp [fkeep, hs, hp, gStands12, gSpots]
  have l1 : t.length ≤ LIM := by simp only [LIM]; omega
  have E1 := fun (s : List Nat) (hl : s.length ≤ 1000) => stands12E hs (n := n + 1) (by omega) hl h
  have E2 := fun (c : Nat) => spotsE hp (n := n + 1) (by omega) c h
  have np := nats_all
  have npl := nats_plain
  have p3 : plain DEEP (.lst []) = true := rfl
  show (exB Z (callN Z (n + 1)) (keepL 2 [false, false, false, false, false, false, false, false]) (b_singleHolds fs fp) [.v d, .v (.str t), .e, .e, .e, .e, .e, .e]).Ok _
  cases hd with
  | word c =>
    have e := E1 [c] (by simp)
    simp [b_singleHolds, inL, keepL, setAll, setSl, isBox, List.replicate, unb, bareH, wFirst, wLast, l1, fk, e, npl, p3, nats_nil, hasRow]

  | row s hs =>
    have e := E1 s hs
    simp [b_singleHolds, inL, keepL, setAll, setSl, isBox, List.replicate, unb, bareH, wFirst, wLast, l1, fk, e, npl, p3, nats_nil, hasRow]

  | all => simp [b_singleHolds, inL, keepL, setAll, setSl, isBox, List.replicate, unb, bareH, l1]
  | none => simp [b_singleHolds, inL, keepL, setAll, setSl, isBox, List.replicate, unb, bareH, l1]
  | first s hs =>
    have e := E1 s hs
    simp [b_singleHolds, inL, keepL, setAll, setSl, isBox, List.replicate, unb, bareH, wFirst, wLast, l1, fk, e, np, pre_stands]
  | last s hs =>
    have e := E1 s hs
    have ls : s.length ≤ LIM := by simp only [LIM]; omega
    simp [b_singleHolds, inL, keepL, setAll, setSl, isBox, List.replicate, unb, bareH, wFirst, wLast, l1, ls, fk, e, np, suf_stands]
  | long i h0 h1 => simp [b_singleHolds, inL, keepL, setAll, setSl, isBox, List.replicate, unb, bareH, l1]
  | often c i h0 h1 =>
    have e := E2 c
    simp [b_singleHolds, inL, keepL, setAll, setSl, isBox, List.replicate, unb, bareH, l1, fk, e, nats_len, posN_len]
  | rest c m i h0 h1 h2 h3 =>
    have e := E2 c
    have e2 : ((t.count c : Nat) : Int) - ((t.count c : Nat) : Int) / m * m = ((t.count c : Nat) : Int) % m := by
      have := Int.mul_ediv_add_emod ((t.count c : Nat) : Int) m
      rw [Int.mul_comm] at this
      omega
    have e3 : mulOk (((t.count c : Nat) : Int) / m) m = true := by
      unfold mulOk
      have a : -BIG < m := by unfold BIG; omega
      have b : m < BIG := by unfold BIG; omega
      simp [a, b]
    simp [b_singleHolds, inL, keepL, setAll, setSl, isBox, List.replicate, unb, bareH, l1, fk, e, nats_len, posN_len, e2, e3]
    refine ⟨⟨by omega, by omega⟩, ?_⟩
    by_cases h : ((t.count c : Nat) : Int) % m = i <;> simp [h]
  | near a b i h0 h1 =>
    have ea := E2 a
    have eb := E2 b
    have la : (posN a t).length ≤ LIM := Nat.le_trans (posN_le a t) l1
    have lb : (posN b t).length ≤ LIM := Nat.le_trans (posN_le b t) l1
    have L1 := any2 (Z := Z) (cl := callN Z (n + 1)) (e := .and [.cmp (.ne) (.v 6) (.v 7), .cmp (.le) (.bin (.sub) (.bi (.abs) [.bin (.sub) (.v 6) (.v 7)]) (.c (.int 1))) (.ix (.v 0) (.c (.int 3)))]) (g := fun p j => nearI i p j) (d := .tup [.str [110, 101, 97, 114], .str [a], .str [b], .int i]) (x2 := .str [110, 101, 97, 114]) (x3 := .int t.length) (tx := t) la lb (fun p j => by
      by_cases c : (p : Int) = (j : Int)
      · refine ⟨false, ?_⟩
        have c2 : nearI i p j = false := by simp [nearI, c]
        simp [c, c2]
        have : nearI i (j : Int) j = false := by simp [nearI]
        simp [this]
      · refine ⟨false, ?_⟩
        have c2 : nearI i p j = decide ((if (p : Int) - (j : Int) < 0 then -((p : Int) - (j : Int)) else (p : Int) - (j : Int)) - 1 ≤ i) := by
          unfold nearI
          rw [Bool.eq_iff_iff]
          simp only [Bool.and_eq_true, decide_eq_true_eq]
          split <;> omega
        simp [c, c2])
    have B := bools_map (fun (p : Nat) => (posN b t).any fun (j : Nat) => nearI i p j) (posN a t)
    simp [b_singleHolds, inL, keepL, setAll, setSl, isBox, List.replicate, unb, bareH, l1, fk, ea, eb, L1, B, nearB, List.any_map, Function.comp_def]
  | ahead a b =>
    have ea := E2 a
    have eb := E2 b
    have la : (posN a t).length ≤ LIM := Nat.le_trans (posN_le a t) l1
    have lb : (posN b t).length ≤ LIM := Nat.le_trans (posN_le b t) l1
    have L1 := any2 (Z := Z) (cl := callN Z (n + 1)) (e := .cmp (.lt) (.v 6) (.v 7)) (g := fun p j => decide (p < j)) (d := .tup [.str [97, 104, 101, 97, 100], .str [a], .str [b]]) (x2 := .str [97, 104, 101, 97, 100]) (x3 := .int t.length) (tx := t) la lb (fun p j => ⟨false, by simp⟩)
    have B := bools_map (fun (p : Nat) => (posN b t).any fun (j : Nat) => decide (p < j)) (posN a t)
    simp [b_singleHolds, inL, keepL, setAll, setSl, isBox, List.replicate, unb, bareH, l1, fk, ea, eb, L1, B, aheadB, List.any_map, Function.comp_def]

end Pv
namespace Pv
def b_lawHolds (f fs : Nat) : List MS := [.ife (.cmp (.eq) (.ix (.v 0) (.c (.int 0))) (.c (.str [110, 111, 116]))) [.ret (.not (.call f [.ix (.v 0) (.c (.int 1)), .v 1] [0, 1] []))] [], .ife (.cmp (.isin) (.ix (.v 0) (.c (.int 0))) (.lst [.c (.str [97, 110, 100]), .c (.str [111, 114])])) [.set 2 (.lc (.call f [.v 3, .v 1] [0, 1] []) (.nm 3) (.seq) [.sl (.v 0) (some (.c (.int 1))) none] [] [3]), .ret (.ife (.cmp (.eq) (.ix (.v 0) (.c (.int 0))) (.c (.str [97, 110, 100]))) (.cmp (.notin) (.c (.bl false)) (.v 2)) (.cmp (.isin) (.c (.bl true)) (.v 2)))] [], .ret (.call fs [.v 0, .v 1] [0, 1] [])]
theorem inL_bools (b : Bool) (g : D → Bool) : ∀ xs : List D, inL (.bl b) (xs.map fun x => .bl (g x)) = xs.any fun x => g x == b
  | [] => rfl
  | x :: xs => by
    have ih := inL_bools b g xs
    simp only [List.map_cons, inL, List.any_cons, ih, eqD_bb]
theorem bools_all (g : D → Bool) (xs : List D) : (xs.map fun x => D.bl (g x)).all (plain DEEP) = true := by
  rw [List.all_eq_true]
  intro x hx
  obtain ⟨p, _, rfl⟩ := List.mem_map.mp hx
  exact plain_bl _ _
/-- a def that reads: holds of a drawn or greater query and a text -/
structure HoldF (Z : Sys) (f : Nat) : Prop where
  ex : ∃ F, Z.fns[f]? = some F ∧ F.np = 2 ∧ F.keep.take 2 = [false, false]
  ok : ∀ (t : List Nat), t.length ≤ 1000 → ∀ (m : Nat) (d : D), Wq m d → ∀ dep, m + 1 ≤ dep → ∀ n, m + 4 ≤ n → (callN Z n f [.v d, .v (.str t)]).Ok (Pu (.bl (holdsN dep d t)) 2)
theorem HoldF.fk {Z : Sys} {f : Nat} (q : HoldF Z f) : fkeep Z f 0 = false ∧ fkeep Z f 1 = false := by
  obtain ⟨F, hF, hn, hk⟩ := q.ex
  cases hh : F.keep with
  | nil => rw [hh] at hk; cases hk
  | cons x xs => cases xs with
    | nil => rw [hh] at hk; cases hk
    | cons y ys => rw [hh] at hk; simp at hk; simp [fkeep, hF, hh, hk]
theorem HoldF.eq {Z : Sys} {f : Nat} (q : HoldF Z f) {m n dep : Nat} {d : D} (hd : Wq m d) (h1 : m + 1 ≤ dep) (h2 : m + 4 ≤ n) {t : List Nat} (h : t.length ≤ 1000) (r : Env) :
    callE Z (callN Z n) f [0, 1] [] [(d, false), (.str t, false)] r = .ok (.bl (holdsN dep d t), false) r := by
  have rx := hd.noRef
  obtain ⟨F, hF, hn, hk⟩ := q.ex
  refine callE_eq (m := 2) hF (sl := [d, .str t]) (by intro y hy; simp at hy; rcases hy with rfl | rfl <;> first | rfl | exact rx) (by rw [hn]; simp) (by rw [hn]; simp [argSl, argOf_pl rx, List.range_succ, List.findIdx?, List.findIdx?.go]) (q.ok t h m d hd dep h1 n h2)
theorem RF.hold {Z : Sys} {R : RN} (q : RF Z R) : HoldF Z R.holds := ⟨⟨_, q.holds, rfl, rfl⟩, fun t h m d hq dep hd n hn => holds_f q t h m d hq dep hd n hn⟩
theorem lawHolds_f {Z : Sys} {f fs f1 f2 : Nat} (h1 : Z.fns[f1]? = some gStands12) (h2 : Z.fns[f2]? = some gSpots) (hs : Z.fns[fs]? = some (gSingleHolds f1 f2)) (hf : Z.fns[f]? = some ⟨2, 4, [false, false, false, false], b_lawHolds f fs⟩) : HoldF Z f := by
  refine ⟨⟨_, hf, rfl, rfl⟩, fun t h m => ?_⟩
  induction m using Nat.strongRecOn with
  | _ m ih =>
    intro d hq dep hd n hn
    obtain ⟨dep, rfl⟩ : ∃ e, dep = e + 1 := ⟨dep - 1, by omega⟩
    obtain ⟨n, rfl⟩ : ∃ e, n = e + 4 := ⟨n - 4, by omega⟩
    refine call_pu hf rfl rfl rfl (by intro i hi; rcases i with _ | _ | i <;> first | rfl | omega) ?_
    show (exB Z (callN Z (n + 3)) (keepL 2 [false, false, false, false]) (b_lawHolds f fs) [.v d, .v (.str t), .e, .e]).Ok _
    have fk : fkeep Z f 0 = false ∧ fkeep Z f 1 = false ∧ fkeep Z fs 0 = false ∧ fkeep Z fs 1 = false := by simp [fkeep, hf, hs, gSingleHolds]
    have hR : ∀ m' (x : D), m' < m → Wq m' x → m' + 1 ≤ dep → ∀ r, callE Z (callN Z (n + 3)) f [0, 1] [] [(x, false), (.str t, false)] r = .ok (.bl (holdsN dep x t), false) r := fun m' x hm hx hdep r => by
      have rx := hx.noRef
      refine callE_eq (m := 2) hf (sl := [x, .str t]) (by intro y hy; simp at hy; rcases hy with rfl | rfl <;> first | rfl | exact rx) (by simp) (by simp [argSl, argOf_pl rx, List.range_succ, List.findIdx?, List.findIdx?.go]) ?_
      exact ih m' hm x hx dep hdep (n + 3) (by omega)
    cases hq with
    | sg hb =>
      have e := fun r => callE_eq hs (r := r) (n := n + 3) (ix := [0, 1]) (df := []) (as := [(d, false), (.str t, false)]) (sl := [d, .str t]) (by intro y hy; simp at hy; rcases hy with rfl | rfl <;> first | rfl | exact hb.noRef) (by simp [gSingleHolds]) (by simp [gSingleHolds, argSl, argOf_pl hb.noRef, List.range_succ, List.findIdx?, List.findIdx?.go]) (singleHolds_f h1 h2 hs (n + 1) hb t h)
      rw [holdsN_bare hb]
      cases hb <;> simp [b_lawHolds, fk, e, inL]
    | no hx =>
      rename_i m' d
      rw [holdsN_not]
      have e := hR m' d (by omega) hx (by omega)
      simp [b_lawHolds, fk, hx.noRef, e]
    | ao hw hne hl hx =>
      rename_i m' w xs
      have hl3 : xs.length ≤ LIM := by simp only [LIM]; omega
      have e := fun x hxm => hR m' x (by omega) (hx x hxm) (by omega)
      have L1 := lc_map (P := Z) (cl := callN Z (n + 3)) (r := [.v (.tup (.str w :: xs)), .v (.str t), .e, .e]) (i := 3) (w := .seq) (e := .call f [.v 3, .v 1] [0, 1] []) (es := [.sl (.v 0) (some (.c (.int 1))) none]) (g := fun x => .bl (holdsN dep x t)) (xs := xs)
        (by simp [cut1]; rfl) rfl rfl rfl (by simp) rfl (fun x hx' => ⟨false, by simp [fk, (hx x hx').noRef, e x hx'], rfl⟩) hl3
      have B1 := inL_bools true (fun x => holdsN dep x t) xs
      have B2 := inL_bools false (fun x => holdsN dep x t) xs
      have B3 := bools_all (fun x => holdsN dep x t) xs
      rcases hw with rfl | rfl
      · rw [holdsN_and]
        simp [b_lawHolds, L1, inL, keepL, setSl, isBox, -List.all_map, B2, B3]
        rw [Bool.eq_iff_iff]
        simp
      · rw [holdsN_or]
        simp [b_lawHolds, L1, inL, keepL, setSl, isBox, -List.all_map, B1, B3]
def sz4 : Nat → Int
  | 0 => 1
  | m + 1 => 1 + 3 * sz4 m
theorem sumI_le {g : D → Int} {c : Int} (hc : 0 ≤ c) : ∀ (ys : List D), (∀ y, y ∈ ys → g y ≤ c) → sumI (ys.map g) ≤ ys.length * c := by
  have fold : ∀ (ys : List D) (a : Int), (∀ y, y ∈ ys → g y ≤ c) → (ys.map g).foldl (· + ·) a ≤ a + ys.length * c := by
    intro ys
    induction ys with
    | nil => intro a _; simp
    | cons y ys ih =>
      intro a h
      have h1 := h y List.mem_cons_self
      have h2 := ih (a + g y) (fun z hz => h z (List.mem_cons_of_mem _ hz))
      simp only [List.map_cons, List.foldl_cons, List.length_cons]
      have : ((ys.length + 1 : Nat) : Int) * c = ys.length * c + c := by rw [show ((ys.length + 1 : Nat) : Int) = (ys.length : Int) + 1 by omega, Int.add_mul, Int.one_mul]
      omega
  intro ys h
  have := fold ys 0 h
  unfold sumI
  omega
theorem Qy.size {k : Nat} : ∀ {m : Nat} {d : D}, Qy k m d → ∀ dep, sizeN dep d ≤ sz4 m := by
  have pos : ∀ m, 1 ≤ sz4 m := by intro m; induction m with | zero => simp [sz4] | succ m ih => simp [sz4]; omega
  intro m d h
  induction h with
  | sg hs =>
    intro dep
    rename_i m' d
    have := pos m'
    cases dep with
    | zero => simp [sizeN]; exact this
    | succ dep =>
      have : sizeN (dep + 1) d = 1 := by
        cases hs <;> simp [sizeN, partsD, joins, wNot, wAnd, wOr, sumI]
      omega
  | no h ih =>
    intro dep
    rename_i m' d
    have := pos m'
    cases dep with
    | zero => simp [sizeN, sz4]; omega
    | succ dep =>
      have h1 := ih dep
      have : sizeN (dep + 1) (.tup [.str [110, 111, 116], d]) = 1 + sizeN dep d := by simp [sizeN, partsD, joins, wNot, wAnd, wOr, sumI]
      simp only [sz4]
      omega
  | ao hw h2 h3 h ih =>
    intro dep
    rename_i m' w xs
    have := pos m'
    cases dep with
    | zero => simp [sizeN, sz4]; omega
    | succ dep =>
      have h1 := sumI_le (g := sizeN dep) (c := sz4 m') (by omega) xs (fun y hy => ih y hy dep)
      have e : sizeN (dep + 1) (.tup (.str w :: xs)) = 1 + sumI (xs.map (sizeN dep)) := by
        rcases hw with rfl | rfl <;> simp [sizeN, partsD, joins, wNot, wAnd, wOr]
      have h4 : (xs.length : Int) * sz4 m' ≤ 3 * sz4 m' := Int.mul_le_mul_of_nonneg_right (by omega) (by omega)
      simp only [sz4]
      omega
theorem Qy.pass {k : Nat} (h1 : 1 ≤ k) (hk : k ≤ 4) {m : Nat} {d : D} (h : Qy k m d) (hm : m ≤ 3) : Pass k d := by
  refine ⟨h1, hk, h.up (by omega), ?_⟩
  have s := h.size 8
  have b := h.built hk 8 (by omega)
  have : sz4 m ≤ 40 := by
    have : m = 0 ∨ m = 1 ∨ m = 2 ∨ m = 3 := by omega
    rcases this with rfl | rfl | rfl | rfl <;> decide
  simp [queryB, b, show sizeN 8 d ≤ 40 by omega]
def b_reads (fc fq ft fh : Nat) : List MS := [.expr (.call fc [.v 0] [0] []), .expr (.call fq [.v 0, .v 1] [0, 1] []), .expr (.call ft [.v 0, .v 2] [0, 1] []), .ret (.call fh [.v 1, .v 2] [0, 1] [])]
def b_trace (fc fq ft fh : Nat) : List MS := [.expr (.call fc [.v 0] [0] []), .expr (.call fq [.v 0, .v 1] [0, 1] []), .expr (.call ft [.v 0, .v 2] [0, 1] []), .ret (.lc (.call fh [.v 1, .sl (.v 2) none (some (.v 3))] [0, 1] []) (.nm 3) (.range) [.bin (.add) (.bi (.len) [.v 2]) (.c (.int 1))] [] [3])]
def gReads (C : CN) (fh : Nat) : Fn := ⟨3, 3, [false, false, false], b_reads C.check C.cquery C.ctext fh⟩
def gTrace (C : CN) (fh : Nat) : Fn := ⟨3, 4, [false, false, false, false], b_trace C.check C.cquery C.ctext fh⟩
def traceD (d : D) (t : List Nat) : List D := (List.range (t.length + 1)).map fun p => .bl (holdsN 8 d (t.take p))
section
variable {Z : Sys} {N : QN} {C : CN} (q : CF Z N C) {fh : Nat} (hh : HoldF Z fh) {k : Nat} {d : D} (p : Pass k d) {t : List Nat} (ht : Txt k t)
include q hh p ht
theorem CF.readsE {f : Nat} (hf : Z.fns[f]? = some (gReads C fh)) {n : Nat} (hn : 17 ≤ n) (r : Env) :
    callE Z (callN Z n) f [0, 1, 2] [] [(.int k, false), (d, false), (.str t, false)] r = .ok (.bl (holdsN 8 d t), false) r ∧
    callE Z (callN Z n) f [2, 1, 0] [] [(.str t, false), (d, false), (.int k, false)] r = .ok (.bl (holdsN 8 d t), false) r := by
  obtain ⟨n, rfl⟩ : ∃ e, n = e + 17 := ⟨n - 17, by omega⟩
  have g := p.gd
  have rd := g.ref
  have hl := ht.len
  have main : (callN Z (n + 17) f [.v (.int k), .v d, .v (.str t)]).Ok (Pu (.bl (holdsN 8 d t)) 3) := by
    refine call_pu hf rfl rfl rfl (by intro i hi; rcases i with _ | _ | _ | i <;> first | rfl | omega) ?_
    show (exB Z (callN Z (n + 16)) (keepL 3 [false, false, false]) (b_reads C.check C.cquery C.ctext fh) [.v (.int k), .v d, .v (.str t)]).Ok _
    have fk := q.fk
    have fk2 := hh.fk
    have e1 := fun r => q.checkE (n := n + 16) (by omega) p.k1 p.k4 r
    have e2 := fun r => q.cqueryE (n := n + 16) (by omega) p.k4 (by decide) (by decide) (.gd g) p.ok r
    have e3 := fun r => q.ctextE (n := n + 16) (by omega) p.k4 ht.len ht.lt r
    have e4 := fun r => hh.eq (n := n + 16) p.q.wq (dep := 8) (by omega) (by omega) (t := t) (by omega) r
    simp [b_reads, fk, fk2, rd, e1, e2, e3, e4]
  exact ⟨callE_eq (m := 3) hf (sl := [.int k, d, .str t]) (by intro y hy; simp at hy; rcases hy with rfl | rfl | rfl <;> first | rfl | exact rd) (by simp [gReads]) (by simp [gReads, argSl, argOf_pl rd, List.range_succ, List.findIdx?, List.findIdx?.go]) main,
    callE_eq (m := 3) hf (sl := [.int k, d, .str t]) (by intro y hy; simp at hy; rcases hy with rfl | rfl | rfl <;> first | rfl | exact rd) (by simp [gReads]) (by simp [gReads, argSl, argOf_pl rd, List.range_succ, List.findIdx?, List.findIdx?.go]) main⟩
theorem CF.traceE {f : Nat} (hf : Z.fns[f]? = some (gTrace C fh)) {n : Nat} (hn : 17 ≤ n) (r : Env) :
    callE Z (callN Z n) f [0, 1, 2] [] [(.int k, false), (d, false), (.str t, false)] r = .ok (.lst (traceD d t), true) r ∧
    callE Z (callN Z n) f [2, 1, 0] [] [(.str t, false), (d, false), (.int k, false)] r = .ok (.lst (traceD d t), true) r := by
  obtain ⟨n, rfl⟩ : ∃ e, n = e + 17 := ⟨n - 17, by omega⟩
  have g := p.gd
  have rd := g.ref
  have hl := ht.len
  have main : (callN Z (n + 17) f [.v (.int k), .v d, .v (.str t)]).Ok fun e fr o => e = .lst (traceD d t) ∧ fr = true ∧ o = List.replicate 3 .e := by
    refine call_of hf rfl rfl ?_
    show (exB Z (callN Z (n + 16)) (keepL 3 [false, false, false, false]) (b_trace C.check C.cquery C.ctext fh) [.v (.int k), .v d, .v (.str t), .e]).Ok _
    have fk := q.fk
    have fk2 := hh.fk
    have e1 := fun r => q.checkE (n := n + 16) (by omega) p.k1 p.k4 r
    have e2 := fun r => q.cqueryE (n := n + 16) (by omega) p.k4 (by decide) (by decide) (.gd g) p.ok r
    have e3 := fun r => q.ctextE (n := n + 16) (by omega) p.k4 ht.len ht.lt r
    have e4 := fun (i : Nat) r => hh.eq (n := n + 16) p.q.wq (dep := 8) (by omega) (by omega) (t := t.take i) (by simp; omega) r
    have l1 : t.length ≤ LIM := by simp only [LIM]; omega
    have hr : rngOk ((t.length : Int) + 1) = true := rngOk_of (by omega) (by omega)
    have L1 := lc_map (P := Z) (cl := callN Z (n + 16)) (r := [.v (.int k), .v d, .v (.str t), .e]) (i := 3) (w := .range) (e := .call fh [.v 1, .sl (.v 2) none (some (.v 3))] [0, 1] []) (es := [.bin (.add) (.bi (.len) [.v 2]) (.c (.int 1))]) (g := fun x => match x with | .int i => .bl (holdsN 8 d (t.take i.toNat)) | _ => .non) (xs := ranged 0 ((t.length : Int) + 1))
      (by simp [l1]; rfl) rfl rfl (by simp [hr]) (by simp) rfl (fun x hx => by
        obtain ⟨c, _, rfl⟩ := List.mem_map.mp (show x ∈ ranged 0 _ from hx)
        have e0 : (0 : Int) + (c : Int) = (c : Int) := by omega
        rw [e0]
        exact ⟨false, by simp [fk2, rd, l1, cut_to, e4], rfl⟩) (by unfold ranged; simp [LIM]; omega)
    have e5 : (ranged 0 ((t.length : Int) + 1)).map (fun x => match x with | .int i => D.bl (holdsN 8 d (t.take i.toNat)) | _ => .non) = traceD d t := by
      unfold ranged traceD
      rw [List.map_map, show ((t.length : Int) + 1 - 0).toNat = t.length + 1 by omega]
      refine List.map_congr_left fun c _ => ?_
      simp
    rw [e5] at L1
    simp [b_trace, fk, rd, e1, e2, e3, L1]
    exact fin_fr rfl rfl ⟨rfl, rfl, rfl⟩
  exact ⟨callE_eqF (m := 3) hf (sl := [.int k, d, .str t]) (by intro y hy; simp at hy; rcases hy with rfl | rfl | rfl <;> first | rfl | exact rd) (by simp [gTrace]) (by simp [gTrace, argSl, argOf_pl rd, List.range_succ, List.findIdx?, List.findIdx?.go]) main rfl,
    callE_eqF (m := 3) hf (sl := [.int k, d, .str t]) (by intro y hy; simp at hy; rcases hy with rfl | rfl | rfl <;> first | rfl | exact rd) (by simp [gTrace]) (by simp [gTrace, argSl, argOf_pl rd, List.range_succ, List.findIdx?, List.findIdx?.go]) main rfl⟩
end
end Pv
namespace Pv
def b_allTexts : List MS := [.par [2, 3] [.lst [.c (.str [])], .lst [.c (.str [])]], .for (.nm 4) (.range) [.v 1] [.set 6 (.lst []), .for (.nm 5) (.seq) [.v 3] [.expr (.mu (.extend) 6 [.lc (.bin (.add) (.v 5) (.v 7)) (.nm 7) (.seq) [.sl (.c (.str [97, 98, 99, 100])) none (some (.v 0))] [] [7]])], .par [2, 3] [.bin (.add) (.v 2) (.v 6), .v 6]], .ret (.v 2)]
def gAllTexts : Fn := ⟨2, 8, [false, false, false, false, false, false, true, false], b_allTexts⟩
/-- texts of the first k letters, of at most j signs -/
def Txs (k j : Nat) (X : List (List Nat)) : Prop := ∀ s, s ∈ X → s.length ≤ j ∧ ∀ c, c ∈ s → Lt k c
theorem allTexts_f {Z : Sys} {f : Nat} (hf : Z.fns[f]? = some gAllTexts) (n k most : Nat) (h1 : 1 ≤ k) (hk : k ≤ 4) (hm : most ≤ 8) (hb : ∀ j, j ≤ most → k ^ j ≤ 100) :
    (callN Z (n + 1) f [.v (.int k), .v (.int most)]).Ok fun d fr o => fr = false ∧ o = List.replicate 2 .e ∧ ∃ X : List (List Nat), d = .lst (X.map .str) ∧ Txs k most X ∧ X.length ≤ 1000 := by
  refine call_of hf rfl rfl ?_
  show (exB Z (callN Z n) (keepL 2 [false, false, false, false, false, false, true, false]) b_allTexts [.v (.int k), .v (.int most), .e, .e, .e, .e, .e, .e]).Ok _
  have TX1 : ∀ j, Txs k j [] := by intro j s hs; cases hs
  have TX0 : Txs k 0 [[]] := by intro s hs; simp at hs; subst hs; simp
  have hr : rngOk (most : Int) = true := rngOk_of (by omega) (by omega)
  simp [b_allTexts, keepL, setAll, setSl, isBox, List.replicate, hr, tgIx]
  refine hk_of (forI_ix0 (fun j r => ∃ X L s4 s5 s6, r = [.v (.int k), .v (.int most), .v (.lst (X.map .str)), .v (.lst (L.map .str)), s4, s5, s6, .e] ∧ Fr s4 ∧ Fr s5 ∧ (s6 = .e ∨ ∃ u, s6 = .v u) ∧ Txs k j X ∧ Txs k j L ∧ X.length ≤ (j + 1) * 100 ∧ L.length ≤ k ^ j) _ _ ?_ ⟨[[]], [[]], .e, .e, .e, rfl, .inl rfl, .inl rfl, .inl rfl, TX0, TX0, by simp, by simp⟩) ?_
  · rintro j x hx r ⟨X, L, s4, s5, s6, rfl, f4, f5, f6, hX, hL, lX, lL⟩
    have hj : j < most ∧ x = .int (j : Int) := by
      unfold ranged at hx
      rw [List.getElem?_map] at hx
      obtain ⟨i, hi, rfl⟩ := Option.map_eq_some_iff.mp hx
      obtain ⟨hlt, hv⟩ := List.getElem?_eq_some_iff.mp hi
      simp at hlt hv
      subst hv
      exact ⟨by omega, by rw [Int.zero_add]⟩
    obtain ⟨hj, rfl⟩ := hj
    refine ⟨[.v (.int k), .v (.int most), .v (.lst (X.map .str)), .v (.lst (L.map .str)), .v (.int j), s5, s6, .e], by rcases f4 with rfl | ⟨u, rfl⟩ <;> simp [bindT, putV], ?_⟩
    have hkj := hb j (by omega)
    have hkj1 := hb (j + 1) (by omega)
    have e6 : setSl 1 6 (.lst []) true [.v (.int k), .v (.int most), .v (.lst (X.map .str)), .v (.lst (L.map .str)), .v (.int j), s5, s6, .e] = some [.v (.int k), .v (.int most), .v (.lst (X.map .str)), .v (.lst (L.map .str)), .v (.int j), s5, .o (.lst []), .e] := by
      rcases f6 with rfl | ⟨u, rfl⟩ <;> simp [setSl, isBox]
    simp [keepL, e6, tgIx]
    refine hk_of (forI_ix0 (fun i r => ∃ G s5, r = [.v (.int k), .v (.int most), .v (.lst (X.map .str)), .v (.lst (L.map .str)), .v (.int j), s5, .o (.lst (G.map .str)), .e] ∧ Fr s5 ∧ Txs k (j + 1) G ∧ G.length ≤ i * k) _ _ ?_ ⟨[], s5, rfl, f5, TX1 _, by simp⟩) ?_
    · rintro i x hx r ⟨G, s5, rfl, f5, hG, lG⟩
      rw [List.getElem?_map] at hx
      obtain ⟨s, hs, rfl⟩ := Option.map_eq_some_iff.mp hx
      obtain ⟨hi, _⟩ := List.getElem?_eq_some_iff.mp hs
      obtain ⟨ls, cs⟩ := hL s (List.mem_of_getElem? hs)
      refine ⟨[.v (.int k), .v (.int most), .v (.lst (X.map .str)), .v (.lst (L.map .str)), .v (.int j), .v (.str s), .o (.lst (G.map .str)), .e], by rcases f5 with rfl | ⟨u, rfl⟩ <;> simp [bindT, putV], ?_⟩
      have g4 : 4 ≤ LIM := by decide
      have l4 := lets_len k
      have L1 := lc_map (P := Z) (cl := callN Z n) (r := [.v (.int k), .v (.int most), .v (.lst (X.map .str)), .v (.lst (L.map .str)), .v (.int j), .v (.str s), .o (.lst (G.map .str)), .e]) (i := 7) (w := .seq) (e := .bin (.add) (.v 5) (.v 7)) (es := [.sl (.c (.str [97, 98, 99, 100])) none (some (.v 0))]) (g := fun x => match x with | .str c => .str (s ++ c) | _ => .non) (xs := chars (lets k))
        (by simp [cut_lets k hk, g4]; rfl) rfl rfl (by simp [show (lets k).length ≤ LIM by simp only [LIM]; omega]) (by simp) rfl (fun x hx => by
          obtain ⟨c, _, rfl⟩ := List.mem_map.mp hx
          exact ⟨false, by simp [show s.length + 1 ≤ LIM by simp only [LIM]; omega], rfl⟩) (by simp only [chars, List.length_map, LIM]; omega)
      have e7 : (chars (lets k)).map (fun x => match x with | .str c => D.str (s ++ c) | _ => .non) = ((lets k).map fun c => s ++ [c]).map .str := by
        simp only [chars, List.map_map]; rfl
      rw [e7] at L1
      have lk : (lets k).length = k := by unfold lets; simp; omega
      have lG2 : i * k ≤ 100 * 4 := Nat.mul_le_mul (by omega) hk
      simp [L1, ownsL, putO]
      refine ⟨by simp only [LIM]; omega, G ++ (lets k).map fun c => s ++ [c], _, ⟨rfl, by simp [List.map_append, Function.comp_def]⟩, .inr ⟨_, rfl⟩, ?_, ?_⟩
      · intro u hu
        rcases List.mem_append.mp hu with hu | hu
        · exact hG u hu
        · obtain ⟨c, hc, rfl⟩ := List.mem_map.mp hu
          refine ⟨by simp; omega, fun x hx => ?_⟩
          rcases List.mem_append.mp hx with hx | hx
          · exact cs x hx
          · have : x = c := by simpa using hx
            subst this
            exact (mem_lets hk).mp hc
      · have : (i + 1) * k = i * k + k := by rw [Nat.add_mul, Nat.one_mul]
        simp only [List.length_append, List.length_map, lk]
        omega
    · rintro fl r ⟨rfl, G, s5, rfl, f5, hG, lG⟩
      rw [List.length_map] at lG
      have lG3 : G.length ≤ k ^ (j + 1) := Nat.le_trans lG (by rw [Nat.pow_succ]; exact Nat.mul_le_mul_right k lL)
      have lX2 : (j + 1) * 100 ≤ 9 * 100 := Nat.mul_le_mul_right 100 (by omega)
      simp [keepL, setAll, setSl, isBox, List.replicate]
      refine ⟨by simp only [LIM]; omega, X ++ G, G, _, _, _, ⟨by simp, rfl, rfl, rfl, rfl⟩, .inr ⟨_, rfl⟩, f5, .inr ⟨_, rfl⟩, ?_, hG, ?_, lG3⟩
      · intro u hu
        rcases List.mem_append.mp hu with hu | hu
        · have := hX u hu
          exact ⟨by omega, this.2⟩
        · exact hG u hu
      · have : (j + 1 + 1) * 100 = (j + 1) * 100 + 100 := by rw [Nat.add_mul, Nat.one_mul]
        simp only [List.length_append]
        omega
  · rintro fl r ⟨rfl, X, L, s4, s5, s6, rfl, f4, f5, f6, hX, hL, lX, lL⟩
    have lm : (ranged 0 (most : Int)).length = most := by unfold ranged; simp
    rw [lm] at hX lX
    have lX2 : (most + 1) * 100 ≤ 9 * 100 := Nat.mul_le_mul_right 100 (by omega)
    simp
    refine fin_fr rfl rfl ⟨rfl, rfl, X, rfl, hX, by omega⟩
end Pv
namespace Pv
theorem allTextsE {Z : Sys} {f : Nat} (hf : Z.fns[f]? = some gAllTexts) {n k most : Nat} (hn : 1 ≤ n) (h1 : 1 ≤ k) (hk : k ≤ 4) (hm : most ≤ 8) (hb : ∀ j, j ≤ most → k ^ j ≤ 100) :
    ∃ X : List (List Nat), Txs k most X ∧ X.length ≤ 1000 ∧ ∀ r, callE Z (callN Z n) f [0, 1] [] [(.int k, false), (.int most, false)] r = .ok (.lst (X.map .str), false) r := by
  obtain ⟨n, rfl⟩ : ∃ e, n = e + 1 := ⟨n - 1, by omega⟩
  have h := allTexts_f hf n k most h1 hk hm hb
  cases hc : callN Z (n + 1) f [.v (.int k), .v (.int most)] with
  | ok d fr o =>
    rw [hc] at h
    obtain ⟨rfl, rfl, X, rfl, a, b⟩ := h
    exact ⟨X, a, b, fun r => callE_eqF (m := 2) hf (sl := [.int k, .int most]) (by intro y hy; simp at hy; rcases hy with rfl | rfl <;> rfl) (by simp [gAllTexts]) (by simp [gAllTexts, argSl, List.range_succ, List.findIdx?, List.findIdx?.go]) (by show (callN Z (n + 1) f [.v (.int k), .v (.int most)]).Ok _; rw [hc]; exact ⟨rfl, rfl, rfl⟩) rfl⟩
  | exc _ _ => rw [hc] at h; exact absurd h id
  | no => rw [hc] at h; exact absurd h id
theorem repr_bl (Z : Sys) (b : Bool) : biD Z .repr [.bl b] = some (.str (Z.rp (.bl b)), false) := by cases b <;> rfl
def b_right12t (fT ft fh fr ftr : Nat) : List MS := [.set 3 (.ix (.lst [.c (.int 8), .c (.int 5), .c (.int 4), .c (.int 3)]) (.bin (.sub) (.v 1) (.c (.int 1)))), .for (.nm 4) (.seq) [.bin (.add) (.call fT [.v 1, .v 3] [0, 1] []) (.lc (.call ft [.v 0, .v 1, .c (.int 12)] [0, 1, 2] []) (.nm 8) (.range) [.c (.int 20)] [] [8])] [.set 5 (.call fh [.v 2, .v 4] [0, 1] []), .ife (.cmp (.ne) (.bi (.repr) [.call fr [.v 1, .v 2, .v 4] [0, 1, 2] []]) (.bi (.repr) [.v 5])) [.ret (.c (.bl false))] []], .set 4 (.call ft [.v 0, .v 1, .c (.int 12)] [0, 1, 2] []), .set 5 (.lc (.call fh [.v 2, .sl (.v 4) none (some (.v 7))] [0, 1] []) (.nm 7) (.range) [.bin (.add) (.bi (.len) [.v 4]) (.c (.int 1))] [] [7]), .set 6 (.call ftr [.v 1, .v 2, .v 4] [0, 1, 2] []), .ife (.cmp (.ne) (.bi (.reprl) [.v 6, .call ftr [.v 4, .v 2, .v 1] [2, 1, 0] []]) (.bi (.reprl) [.v 5, .v 5])) [.ret (.c (.bl false))] [], .expr (.mu (.append) 6 [.c (.non)]), .ret (.cmp (.eq) (.bi (.reprl) [.call ftr [.v 1, .v 2, .v 4] [0, 1, 2] [], .call fr [.v 4, .v 2, .v 1] [2, 1, 0] []]) (.bi (.reprl) [.v 5, .ix (.v 5) (.neg (.c (.int 1)))]))]
def gRight12t (fT ft fh fr ftr : Nat) : Fn := ⟨3, 9, [true, false, false, false, false, false, true, false, false], b_right12t fT ft fh fr ftr⟩
theorem trace_gl (d : D) {t : List Nat} (h : t.length ≤ 100) : GL 1 250000 (traceD d t) := by
  refine (GL.all (w := 2000) (n := 101) (fun x hx => ?_) ?_).mono (Nat.le_refl _) (by omega)
  · obtain ⟨p, hp, rfl⟩ := List.mem_map.mp hx
    exact Gd.bl_of (Nat.le_refl _)
  · simp only [traceD, List.length_map, List.length_range]
    omega
theorem right12t_f {Z : Sys} {N : QN} {C : CN} {R : Nat} {f fd fT ft fh fr ftr : Nat} (q : CF Z N C) (hR : HoldF Z R) (hh : HoldF Z fh) (hd : DrawF Z fd) (ht : Z.fns[ft]? = some (gText fd)) (hT : Z.fns[fT]? = some gAllTexts)
    (hr : Z.fns[fr]? = some (gReads C R)) (htr : Z.fns[ftr]? = some (gTrace C R)) (hf : Z.fns[f]? = some (gRight12t fT ft fh fr ftr)) (n k : Nat) {d : D} (p : Pass k d) (a b : Int) (h : PotOk a b) :
    (callN Z (n + 18) f [pt a b, .v (.int k), .v d]).Ok (Dr (fun d fr => d = .bl true ∧ fr = false) 2) := by
  have h1 := p.k1
  have hk := p.k4
  have g := p.gd
  have rd := g.ref
  have e2 : fkeep Z ft 0 = true ∧ fkeep Z ft 1 = false ∧ fkeep Z ft 2 = false := by simp [fkeep, ht, gText]
  have e3 : fkeep Z fT 0 = false ∧ fkeep Z fT 1 = false ∧ fkeep Z fr 0 = false ∧ fkeep Z fr 1 = false ∧ fkeep Z fr 2 = false ∧ fkeep Z ftr 0 = false ∧ fkeep Z ftr 1 = false ∧ fkeep Z ftr 2 = false := by simp [fkeep, hT, hr, htr, gAllTexts, gReads, gTrace]
  have e4 := hh.fk
  refine call_of hf rfl rfl ?_
  show (exB Z (callN Z (n + 17)) (keepL 3 [true, false, false, false, false, false, true, false, false]) (b_right12t fT ft fh fr ftr) [pt a b, .v (.int k), .v d, .e, .e, .e, .e, .e, .e]).Ok (fin (gRight12t fT ft fh fr ftr) (Dr (fun d fr => d = .bl true ∧ fr = false) 2))
  obtain ⟨most, hm, hix, hb⟩ : ∃ most : Nat, most ≤ 8 ∧ ati [D.int 8, .int 5, .int 4, .int 3] ((k : Int) - 1) = some (.int (most : Int)) ∧ ∀ j, j ≤ most → k ^ j ≤ 100 := by
    have up : ∀ m k, 1 ≤ k → k ^ m ≤ 100 → ∀ j, j ≤ m → k ^ j ≤ 100 := fun m k h hm j hj => Nat.le_trans (Nat.pow_le_pow_right h hj) hm
    have : k = 1 ∨ k = 2 ∨ k = 3 ∨ k = 4 := by omega
    rcases this with rfl | rfl | rfl | rfl
    · exact ⟨8, by omega, rfl, up 8 1 (by omega) (by decide)⟩
    · exact ⟨5, by omega, rfl, up 5 2 (by omega) (by decide)⟩
    · exact ⟨4, by omega, rfl, up 4 3 (by omega) (by decide)⟩
    · exact ⟨3, by omega, rfl, up 3 4 (by omega) (by decide)⟩
  obtain ⟨X, hX, lX, eT⟩ := allTextsE hT (n := n + 17) (by omega) h1 hk hm hb
  simp [b_right12t, pt, keepL, setSl, isBox, hix, tgIx, e3, eT, evE_lc, ownless]
  refine ⟨by decide, ?_⟩
  refine hk_of (compI_dr (p := fun d => ∃ s, d = .str s ∧ Txt k s) (j := 7) (R := [.v (.int k), .v d, .v (.int most), .e, .e, .e, .e, .e]) (ranged 0 20) a b h (by simp) ?_) ?_
  · intro x _ a2 b2 p2
    simp [pt, e2]
    exact callTextN hd ht (by omega) (j := 0) rfl p2 (by omega) (by omega) (by omega) (by omega) fun s a3 b3 ls cs p3 => ⟨rfl, ⟨s, rfl, by omega, cs⟩, a3, b3, p3, rfl⟩
  rintro ys r ⟨ly, hys, a2, b2, s2, p2, rfl⟩
  have ly' : ys.length = 20 := by rw [ly]; rfl
  simp [back, pt, ly', LIM, show X.length + 20 ≤ 16777216 by omega, tgIx, keepL]
  have TX : ∀ x, x ∈ X.map D.str ++ ys → ∃ s, x = .str s ∧ Txt k s := by
    intro x hx
    rcases List.mem_append.mp hx with hx | hx
    · obtain ⟨s, hs, rfl⟩ := List.mem_map.mp hx
      have := hX s hs
      exact ⟨s, rfl, by omega, this.2⟩
    · exact hys x hx
  refine hk_of (forI_inv (fun _ r => ∃ s4 s5, r = [pt a2 b2, .v (.int k), .v d, .v (.int most), s4, s5, .e, .e, .e] ∧ Fr s4 ∧ Fr s5) _ 0 _ ?_ ⟨.e, .e, rfl, .inl rfl, .inl rfl⟩) ?_
  · rintro x hx _ r ⟨s4, s5, rfl, f4, f5⟩
    obtain ⟨s, rfl, xs⟩ := TX x hx
    have ls := xs.len
    refine ⟨[pt a2 b2, .v (.int k), .v d, .v (.int most), .v (.str s), s5, .e, .e, .e], by rcases f4 with rfl | ⟨u, rfl⟩ <;> simp [bindT, putV, pt], ?_⟩
    have c1 := fun r => hh.eq (m := 4) (n := n + 17) (d := d) p.q.wq (dep := 8) (by omega) (by omega) (t := s) (by omega) r
    have c2 := fun r => (q.readsE hR p xs hr (n := n + 17) (by omega) r).1
    have h5 : ∀ b, setSl 0 5 (.bl b) false [pt a2 b2, .v (.int k), .v d, .v (.int most), .v (.str s), s5, .e, .e, .e] = some [pt a2 b2, .v (.int k), .v d, .v (.int most), .v (.str s), .v (.bl b), .e, .e, .e] := by
      intro b
      rcases f5 with rfl | ⟨u, rfl⟩ <;> simp [setSl]
    simp only [pt] at h5
    simp [pt, rd, e3, e4, c1, c2, h5, keepL, repr_bl]
    exact ⟨_, _, ⟨rfl, rfl⟩, .inr ⟨_, rfl⟩, .inr ⟨_, rfl⟩⟩
  rintro fl r ⟨rfl, s4, s5, rfl, f4, f5⟩
  simp [pt, e2]
  refine callTextN hd ht (by omega) (j := 0) rfl p2 (by omega) (by omega) (by omega) (by omega) fun s a3 b3 ls cs p3 => ?_
  have h4 : setSl 0 4 (.str s) false [pt a3 b3, .v (.int k), .v d, .v (.int most), s4, s5, .e, .e, .e] = some [pt a3 b3, .v (.int k), .v d, .v (.int most), .v (.str s), s5, .e, .e, .e] := by
    rcases f4 with rfl | ⟨u, rfl⟩ <;> simp [setSl]
  simp only [pt] at h4
  have xs : Txt k s := ⟨by omega, cs⟩
  have l1 : s.length ≤ LIM := by simp only [LIM]; omega
  have hrn : rngOk ((s.length : Int) + 1) = true := rngOk_of (by omega) (by omega)
  have fr5 : ownless [7] [pt a3 b3, .v (.int k), .v d, .v (.int most), .v (.str s), s5, .e, .e, .e] = true := rfl
  have L1 := lc_map (P := Z) (cl := callN Z (n + 17)) (r := [pt a3 b3, .v (.int k), .v d, .v (.int most), .v (.str s), s5, .e, .e, .e]) (i := 7) (w := .range) (e := .call fh [.v 2, .sl (.v 4) none (some (.v 7))] [0, 1] []) (es := [.bin (.add) (.bi (.len) [.v 4]) (.c (.int 1))]) (g := fun x => match x with | .int i => .bl (holdsN 8 d (s.take i.toNat)) | _ => .non) (xs := ranged 0 ((s.length : Int) + 1))
    (by simp [l1]; rfl) rfl rfl (by simp [hrn]) (by simp) rfl (fun x hx => by
      obtain ⟨c, _, rfl⟩ := List.mem_map.mp (show x ∈ ranged 0 _ from hx)
      have e0 : (0 : Int) + (c : Int) = (c : Int) := by omega
      rw [e0]
      have c1 := fun r => hh.eq (m := 4) (n := n + 17) (d := d) p.q.wq (dep := 8) (by omega) (by omega) (t := s.take c) (by simp; omega) r
      exact ⟨false, by simp [e4, rd, l1, cut_to, c1], rfl⟩) (by unfold ranged; simp [LIM]; omega)
  have e5 : (ranged 0 ((s.length : Int) + 1)).map (fun x => match x with | .int i => D.bl (holdsN 8 d (s.take i.toNat)) | _ => .non) = traceD d s := by
    unfold ranged traceD
    rw [List.map_map, show ((s.length : Int) + 1 - 0).toNat = s.length + 1 by omega]
    refine List.map_congr_left fun c _ => ?_
    simp
  rw [e5] at L1
  simp only [pt] at L1
  have h5 : ∀ d', setSl 0 5 (.lst d') true [pt a3 b3, .v (.int k), .v d, .v (.int most), .v (.str s), s5, .e, .e, .e] = some [pt a3 b3, .v (.int k), .v d, .v (.int most), .v (.str s), .v (.lst d'), .e, .e, .e] := by
    intro d'
    rcases f5 with rfl | ⟨u, rfl⟩ <;> simp [setSl]
  simp only [pt] at h5
  have c2 := fun r => (q.readsE hR p xs hr (n := n + 17) (by omega) r).2
  have c3 := fun r => (q.traceE hR p xs htr (n := n + 17) (by omega) r).1
  have c4 := fun r => (q.traceE hR p xs htr (n := n + 17) (by omega) r).2
  have gz := trace_gl d (t := s) (by omega)
  have hlast : ati (traceD d s) (-1) = some (.bl (holdsN 8 d s)) := by
    rw [ati_last _ (by simp [traceD])]
    simp [traceD, List.range_succ]
  generalize traceD d s = zs at *
  have w1 : showOk (.lst [.lst zs, .lst zs]) = true := (GL.cons gz.lst (GL.cons gz.lst .nil)).lst.show (by decide) (by decide)
  have w2 : showOk (.lst [.lst zs, .bl (holdsN 8 d s)]) = true := (GL.cons gz.lst (GL.cons (Gd.bl_of (w := 2000) (Nat.le_refl _)) .nil)).lst.show (by decide) (by decide)
  have lz := gz.len
  have lz2 : zs.length + 1 ≤ LIM := by simp only [LIM]; omega
  clear h4 h5
  rcases f4 with rfl | ⟨u4, rfl⟩ <;> rcases f5 with rfl | ⟨u5, rfl⟩
  all_goals
    simp [pt, L1, e3, rd, c2, c3, c4, keepL, setSl, isBox, w1, w2, ownsL, putO, lz2, hlast]
    exact fin_pot rfl ⟨rfl, rfl⟩ p3 (by simp [outs, gRight12t, List.range_succ, pt])
end Pv
namespace Pv
theorem holdsN_fuel {m : Nat} {d : D} (h : Wq m d) (t : List Nat) : ∀ a b, m + 1 ≤ a → m + 1 ≤ b → holdsN a d t = holdsN b d t := by
  induction h with
  | sg hs =>
    intro a b ha hb
    obtain ⟨a, rfl⟩ : ∃ e, a = e + 1 := ⟨a - 1, by omega⟩
    obtain ⟨b, rfl⟩ : ∃ e, b = e + 1 := ⟨b - 1, by omega⟩
    rw [holdsN_bare hs, holdsN_bare hs]
  | no _ ih =>
    intro a b ha hb
    obtain ⟨a, rfl⟩ : ∃ e, a = e + 1 := ⟨a - 1, by omega⟩
    obtain ⟨b, rfl⟩ : ∃ e, b = e + 1 := ⟨b - 1, by omega⟩
    rw [holdsN_not, holdsN_not, ih a b (by omega) (by omega)]
  | ao hw h1 h2 hx ih =>
    intro a b ha hb
    obtain ⟨a, rfl⟩ : ∃ e, a = e + 1 := ⟨a - 1, by omega⟩
    obtain ⟨b, rfl⟩ : ∃ e, b = e + 1 := ⟨b - 1, by omega⟩
    rename_i n w xs
    have e : ∀ y, y ∈ xs → holdsN a y t = holdsN b y t := fun y hy => ih y hy a b (by omega) (by omega)
    rcases hw with rfl | rfl
    · rw [holdsN_and, holdsN_and, Bool.eq_iff_iff, List.all_eq_true, List.all_eq_true]
      exact ⟨fun h y hy => by rw [← e y hy]; exact h y hy, fun h y hy => by rw [e y hy]; exact h y hy⟩
    · rw [holdsN_or, holdsN_or, Bool.eq_iff_iff, List.any_eq_true, List.any_eq_true]
      exact ⟨fun ⟨y, hy, h⟩ => ⟨y, hy, by rw [← e y hy]; exact h⟩, fun ⟨y, hy, h⟩ => ⟨y, hy, by rw [e y hy]; exact h⟩⟩
theorem hasRow_iff {s t : List Nat} : hasRow s t = true ↔ ∃ p, standsB s t p = true := by
  unfold hasRow
  constructor
  · intro h
    cases e : standsL s t with
    | nil => rw [e] at h; cases h
    | cons p ps => exact ⟨p, mem_stands.mp (by rw [e]; exact List.mem_cons_self)⟩
  · rintro ⟨p, hp⟩
    have := mem_stands.mpr hp
    cases e : standsL s t with
    | nil => rw [e] at this; cases this
    | cons p ps => rfl
theorem stands_one {c : Nat} {t : List Nat} {p : Nat} : standsB [c] t p = true ↔ t[p]? = some c := by
  unfold standsB
  simp only [Bool.and_eq_true, decide_eq_true_eq, List.length_singleton]
  have e : t[p]? = (t.drop p)[0]? := by rw [List.getElem?_drop]; rfl
  rw [e]
  cases h : t.drop p with
  | nil => simp
  | cons x xs =>
    have : p < t.length := by
      have := congrArg List.length h
      simp at this
      omega
    simp; omega
theorem stands_two {a b : Nat} {t : List Nat} {p : Nat} : standsB [a, b] t p = true ↔ t[p]? = some a ∧ t[p + 1]? = some b := by
  unfold standsB
  simp only [Bool.and_eq_true, decide_eq_true_eq, List.length_cons, List.length_nil]
  have e : t[p]? = (t.drop p)[0]? := by rw [List.getElem?_drop]; rfl
  have e2 : t[p + 1]? = (t.drop p)[1]? := by rw [List.getElem?_drop]
  rw [e, e2]
  cases h : t.drop p with
  | nil => simp
  | cons x xs =>
    cases xs with
    | nil => simp
    | cons y ys =>
      have : p + 1 < t.length := by
        have := congrArg List.length h
        simp at this
        omega
      simp; omega
theorem nearI_zero {i j : Nat} : nearI 0 i j = true ↔ i = j + 1 ∨ j = i + 1 := by
  unfold nearI
  simp only [Bool.and_eq_true, decide_eq_true_eq]
  split <;> omega
theorem nearI_comm (n i j : Int) : nearI n i j = nearI n j i := by
  have e : (if i - j < 0 then -(i - j) else i - j) = if j - i < 0 then -(j - i) else j - i := by split <;> split <;> omega
  unfold nearI
  rw [e]
theorem near_zero {a b : Nat} {t : List Nat} : nearB a b 0 t = (hasRow [a, b] t || hasRow [b, a] t) := by
  rw [Bool.eq_iff_iff, Bool.or_eq_true, hasRow_iff, hasRow_iff]
  simp only [nearB, List.any_eq_true, mem_posN, nearI_zero]
  constructor
  · rintro ⟨i, hi, j, hj, rfl | rfl⟩
    · exact .inr ⟨j, stands_two.mpr ⟨hj, hi⟩⟩
    · exact .inl ⟨i, stands_two.mpr ⟨hi, hj⟩⟩
  · rintro (⟨p, hp⟩ | ⟨p, hp⟩)
    · have := stands_two.mp hp
      exact ⟨p, this.1, p + 1, this.2, .inr rfl⟩
    · have := stands_two.mp hp
      exact ⟨p + 1, this.2, p, this.1, .inl rfl⟩
theorem near_comm (a b : Nat) (n : Int) (t : List Nat) : nearB a b n t = nearB b a n t := by
  rw [Bool.eq_iff_iff]
  simp only [nearB, List.any_eq_true]
  constructor
  · rintro ⟨i, hi, j, hj, h⟩
    exact ⟨j, hj, i, hi, by rw [nearI_comm]; exact h⟩
  · rintro ⟨i, hi, j, hj, h⟩
    exact ⟨j, hj, i, hi, by rw [nearI_comm]; exact h⟩
theorem row_one (c : Nat) (t : List Nat) : hasRow [c] t = decide (1 ≤ (t.count c : Int)) := by
  rw [Bool.eq_iff_iff, hasRow_iff, decide_eq_true_eq]
  constructor
  · rintro ⟨p, hp⟩
    have := List.mem_of_getElem? (stands_one.mp hp)
    have := List.count_pos_iff.mpr this
    omega
  · intro h
    have : c ∈ t := List.count_pos_iff.mp (by omega)
    obtain ⟨p, hp⟩ := List.getElem?_of_mem this
    exact ⟨p, stands_one.mpr hp⟩
/-- two queries that hold of the same texts -/
structure Same (k : Int) (x : D) : Prop where
  pr : ∃ d1 d2, x = .tup [d1, d2] ∧ Qy k 3 d1 ∧ Qy k 3 d2 ∧ ∀ t, holdsN 8 d1 t = holdsN 8 d2 t
theorem Same.of {k : Int} {d1 d2 : D} (h1 : Qy k 3 d1) (h2 : Qy k 3 d2) (h : ∀ t, holdsN 8 d1 t = holdsN 8 d2 t) : Same k (.tup [d1, d2]) := ⟨d1, d2, rfl, h1, h2, h⟩
theorem Sg.qy {k : Int} {d : D} (h : Sg k d) : Qy k 3 d := .sg h
section
variable {k : Int}
theorem same_1 {c : Nat} (h : Lt k c) : Same k (.tup [.tup [.str [119, 111, 114, 100], .str [c]], .tup [.str [114, 111, 119], .str [c]]]) :=
  have a := Sg.word c h
  have b : Sg k (.tup [.str [114, 111, 119], .str [c]]) := .row [c] (by simp) (by simp) (by simpa using h)
  .of a.qy b.qy fun t => by rw [holdsN_bare a.wb, holdsN_bare b.wb]; rfl
theorem same_2 {c : Nat} (h : Lt k c) : Same k (.tup [.tup [.str [119, 111, 114, 100], .str [c]], .tup [.str [111, 102, 116, 101, 110], .str [c], .int 1]]) :=
  have a := Sg.word c h
  have b := Sg.often c 1 h (by omega) (by omega)
  .of a.qy b.qy fun t => by rw [holdsN_bare a.wb, holdsN_bare b.wb]; exact row_one c t
theorem same_3 {c : Nat} (h : Lt k c) : Same k (.tup [.tup [.str [111, 102, 116, 101, 110], .str [c], .int 0], .tup [.str [97, 108, 108]]]) :=
  have a := Sg.often c 0 h (by omega) (by omega)
  have b : Sg k _ := Sg.all
  .of a.qy b.qy fun t => by rw [holdsN_bare a.wb, holdsN_bare b.wb]; simp [bareH, unb]
theorem same_4 : Same k (.tup [.tup [.str [108, 111, 110, 103], .int 0], .tup [.str [102, 105, 114, 115, 116], .str []]]) :=
  have a : Sg k _ := Sg.long 0 (by omega) (by omega)
  have b : Sg k _ := Sg.first [] (by simp) (by simp)
  .of a.qy b.qy fun t => by rw [holdsN_bare a.wb, holdsN_bare b.wb]; simp [bareH, unb, wFirst, preB]
theorem same_5 : Same k (.tup [.tup [.str [108, 97, 115, 116], .str []], .tup [.str [110, 111, 116], .tup [.str [110, 111, 110, 101]]]]) :=
  have a : Sg k _ := Sg.last [] (by simp) (by simp)
  have b : Sg k _ := Sg.none
  .of a.qy (.no (.sg b)) fun t => by rw [holdsN_bare a.wb, holdsN_not, holdsN_bare b.wb]; simp [bareH, unb, wFirst, wLast, sufB]
theorem same_6 {c : Nat} (h : Lt k c) : Same k (.tup [.tup [.str [110, 101, 97, 114], .str [c], .str [c], .int 0], .tup [.str [114, 111, 119], .str [c, c]]]) :=
  have a := Sg.near c c 0 h h (by omega) (by omega)
  have b : Sg k (.tup [.str [114, 111, 119], .str [c, c]]) := .row [c, c] (by simp) (by simp) (by simpa using h)
  .of a.qy b.qy fun t => by rw [holdsN_bare a.wb, holdsN_bare b.wb]; simp [bareH, unb, wFirst, wLast, near_zero]
theorem same_7 {c d : Nat} {i : Int} (h : Lt k c) (h2 : Lt k d) (i0 : 0 ≤ i) (i6 : i < 6) : Same k (.tup [.tup [.str [110, 101, 97, 114], .str [c], .str [d], .int i], .tup [.str [110, 101, 97, 114], .str [d], .str [c], .int i]]) :=
  have a := Sg.near c d i h h2 i0 i6
  have b := Sg.near d c i h2 h i0 i6
  .of a.qy b.qy fun t => by rw [holdsN_bare a.wb, holdsN_bare b.wb]; exact near_comm c d i t
theorem same_8 {c d : Nat} (h : Lt k c) (h2 : Lt k d) : Same k (.tup [.tup [.str [110, 101, 97, 114], .str [c], .str [d], .int 0], .tup [.str [111, 114], .tup [.str [114, 111, 119], .str [c, d]], .tup [.str [114, 111, 119], .str [d, c]]]]) :=
  have a := Sg.near c d 0 h h2 (by omega) (by omega)
  have b : Sg k (.tup [.str [114, 111, 119], .str [c, d]]) := .row [c, d] (by simp) (by simp) (by simp; exact ⟨h, h2⟩)
  have b2 : Sg k (.tup [.str [114, 111, 119], .str [d, c]]) := .row [d, c] (by simp) (by simp) (by simp; exact ⟨h2, h⟩)
  .of a.qy (.ao (.inr rfl) (by simp) (by simp) (by simp; exact ⟨.sg b, .sg b2⟩)) fun t => by
    rw [holdsN_bare a.wb, holdsN_or]
    simp [holdsN_bare b.wb, holdsN_bare b2.wb, bareH, unb, wFirst, wLast, near_zero]
variable {p l : D} (hp : Qy k 1 p) (hl : Qy k 1 l)
include hp
theorem up1 {m : Nat} (h : 1 ≤ m) : Qy k m p := hp.up h
theorem same_11 : Same k (.tup [.tup [.str [97, 110, 100], p, p], p]) :=
  .of (.ao (.inl rfl) (by simp) (by simp) (by simp; exact hp.up (by omega))) (hp.up (by omega)) fun t => by
    rw [holdsN_and, holdsN_fuel hp.wq t 8 7 (by omega) (by omega)]
    simp
theorem same_13 : Same k (.tup [.tup [.str [110, 111, 116], .tup [.str [110, 111, 116], p]], p]) :=
  .of (.no (.no hp)) (hp.up (by omega)) fun t => by
    rw [holdsN_not, holdsN_not, holdsN_fuel hp.wq t 8 6 (by omega) (by omega)]
    simp
include hl
theorem same_9 : Same k (.tup [.tup [.str [97, 110, 100], p, l], .tup [.str [97, 110, 100], l, p]]) :=
  .of (.ao (.inl rfl) (by simp) (by simp) (by simp; exact ⟨hp.up (by omega), hl.up (by omega)⟩)) (.ao (.inl rfl) (by simp) (by simp) (by simp; exact ⟨hl.up (by omega), hp.up (by omega)⟩)) fun t => by
    rw [holdsN_and, holdsN_and]
    simp [Bool.and_comm]
theorem same_10 : Same k (.tup [.tup [.str [111, 114], p, l], .tup [.str [111, 114], l, p, l]]) :=
  .of (.ao (.inr rfl) (by simp) (by simp) (by intro x hx; simp at hx; rcases hx with rfl | rfl; exact hp.up (by omega); exact hl.up (by omega))) (.ao (.inr rfl) (by simp) (by simp) (by intro x hx; simp only [List.mem_cons, List.not_mem_nil, or_false] at hx; rcases hx with rfl | rfl | rfl; exact hl.up (by omega); exact hp.up (by omega); exact hl.up (by omega))) fun t => by
    rw [holdsN_or, holdsN_or]
    simp only [List.any_cons, List.any_nil, Bool.or_false]
    cases holdsN 7 p t <;> cases holdsN 7 l t <;> rfl
theorem same_12 : Same k (.tup [.tup [.str [110, 111, 116], .tup [.str [97, 110, 100], p, l]], .tup [.str [111, 114], .tup [.str [110, 111, 116], p], .tup [.str [110, 111, 116], l]]]) :=
  .of (.no (.ao (.inl rfl) (by simp) (by simp) (by simp; exact ⟨hp, hl⟩))) (.ao (.inr rfl) (by simp) (by simp) (by simp; exact ⟨.no hp, .no hl⟩)) fun t => by
    rw [holdsN_not, holdsN_and, holdsN_or]
    simp only [List.any_cons, List.any_nil, Bool.or_false, List.all_cons, List.all_nil, Bool.and_true, holdsN_not]
    cases holdsN 6 p t <;> cases holdsN 6 l t <;> rfl
end
end Pv
namespace Pv
def b_same (fl fd fq : Nat) : List MS := [.par [2, 3] [.call fl [.v 0, .v 1] [0, 1] [], .call fl [.v 0, .v 1] [0, 1] []], .set 4 (.lst [.tup [.tup [.c (.str [119, 111, 114, 100]), .v 2], .tup [.c (.str [114, 111, 119]), .v 2]], .tup [.tup [.c (.str [119, 111, 114, 100]), .v 2], .tup [.c (.str [111, 102, 116, 101, 110]), .v 2, .c (.int 1)]], .tup [.tup [.c (.str [111, 102, 116, 101, 110]), .v 2, .c (.int 0)], .tup [.c (.str [97, 108, 108])]], .tup [.tup [.c (.str [108, 111, 110, 103]), .c (.int 0)], .tup [.c (.str [102, 105, 114, 115, 116]), .c (.str [])]]]), .expr (.mu (.extend) 4 [.lst [.tup [.tup [.c (.str [108, 97, 115, 116]), .c (.str [])], .tup [.c (.str [110, 111, 116]), .tup [.c (.str [110, 111, 110, 101])]]], .tup [.tup [.c (.str [110, 101, 97, 114]), .v 2, .v 2, .c (.int 0)], .tup [.c (.str [114, 111, 119]), .bin (.add) (.v 2) (.v 2)]]]]), .set 5 (.call fd [.v 0, .c (.int 6)] [0, 1] []), .expr (.mu (.append) 4 [.tup [.tup [.c (.str [110, 101, 97, 114]), .v 2, .v 3, .v 5], .tup [.c (.str [110, 101, 97, 114]), .v 3, .v 2, .v 5]]]), .ife (.cmp (.ne) (.v 2) (.v 3)) [.expr (.mu (.append) 4 [.tup [.tup [.c (.str [110, 101, 97, 114]), .v 2, .v 3, .c (.int 0)], .tup [.c (.str [111, 114]), .tup [.c (.str [114, 111, 119]), .bin (.add) (.v 2) (.v 3)], .tup [.c (.str [114, 111, 119]), .bin (.add) (.v 3) (.v 2)]]]])] [], .par [6, 7] [.call fq [.v 0, .v 1, .c (.int 2)] [0, 1, 2] [], .call fq [.v 0, .v 1, .c (.int 2)] [0, 1, 2] []], .expr (.mu (.extend) 4 [.lst [.tup [.tup [.c (.str [97, 110, 100]), .v 6, .v 7], .tup [.c (.str [97, 110, 100]), .v 7, .v 6]], .tup [.tup [.c (.str [111, 114]), .v 6, .v 7], .tup [.c (.str [111, 114]), .v 7, .v 6, .v 7]], .tup [.tup [.c (.str [97, 110, 100]), .v 6, .v 6], .v 6]]]), .ret (.bin (.add) (.v 4) (.lst [.tup [.tup [.c (.str [110, 111, 116]), .tup [.c (.str [97, 110, 100]), .v 6, .v 7]], .tup [.c (.str [111, 114]), .tup [.c (.str [110, 111, 116]), .v 6], .tup [.c (.str [110, 111, 116]), .v 7]]], .tup [.tup [.c (.str [110, 111, 116]), .tup [.c (.str [110, 111, 116]), .v 6]], .v 6]]))]
def gSame (fl fd fq : Nat) : Fn := ⟨2, 8, [true, false, false, false, true, false, false, false], b_same fl fd fq⟩
theorem same_f {Z : Sys} {f fl fd fq fs n0 : Nat} (hd : DrawF Z fd) (hl : Z.fns[fl]? = some (gLetter fd)) (hs : SingleF Z fs n0) (hq : Z.fns[fq]? = some (gQuery fq fd fs)) (hf : Z.fns[f]? = some (gSame fl fd fq)) (n : Nat) (k : Nat) (h1 : 1 ≤ k) (hk : k ≤ 4) (a b : Int) (h : PotOk a b) :
    (callN Z (n + n0 + 4) f [pt a b, .v (.int k)]).Ok (Dr (fun d fr => ∃ xs, d = .lst xs ∧ (∀ x, x ∈ xs → Same k x) ∧ xs.length ≤ 100) 1) := by
  have e0 := fk_draw hd
  have e1 : fkeep Z fl 0 = true ∧ fkeep Z fl 1 = false := by simp [fkeep, hl, gLetter]
  have e2 : fkeep Z fq 0 = true ∧ fkeep Z fq 1 = false ∧ fkeep Z fq 2 = false := by simp [fkeep, hq, gQuery]
  have Q := fun a b po => query_f hd hs hq n (k : Int) (by omega) (by omega) 1 a b po
  refine call_of hf rfl rfl ?_
  show (exB Z (callN Z (n + n0 + 3)) (keepL 2 [true, false, false, false, true, false, false, false]) (b_same fl fd fq) [pt a b, .v (.int k), .e, .e, .e, .e, .e, .e]).Ok (fin (gSame fl fd fq) (Dr (fun d fr => ∃ xs, d = .lst xs ∧ (∀ x, x ∈ xs → Same k x) ∧ xs.length ≤ 100) 1))
  simp [b_same, pt, e1, keepL]
  refine callLetter (k := (k : Int)) (n := n + n0 + 1) hd hl (j := 0) rfl h (by omega) (by omega) fun c a1 b1 m1 p1 => ?_
  simp [pt, e1]
  refine callLetter (k := (k : Int)) (n := n + n0 + 1) hd hl (j := 0) rfl p1 (by omega) (by omega) fun c2 a2 b2 m2 p2 => ?_
  simp [pt, keepL, setAll, setSl, isBox, List.replicate, ownsL, putO, e0, show 2 ≤ LIM by decide, show 6 ≤ LIM by decide]
  refine callDrawN hd (by omega) (j := 0) rfl p2 (by omega) (by omega) fun i a3 b3 l3 u3 p3 => ?_
  simp [pt, keepL, setSl, isBox, ownsL, putO, show 7 ≤ LIM by decide]
  have RI : ∀ d, d ∈ [D.str [c], .str [c2], .int i] → isRef d = false := by simp
  by_cases hc : c = c2
  · subst hc
    simp [pt, e2, show 7 ≤ LIM by decide]
    refine callQuery hq (m := 1) (j := 0) rfl (by have := Q a3 b3 p3; simpa [pt, show n + (1 + 2 + n0) = n + n0 + 3 by omega] using this) fun p a4 b4 gp p4 => ?_
    have rp := gp.noRef
    simp [pt, e2, rp]
    refine callQuery hq (m := 1) (j := 0) rfl (by have := Q a4 b4 p4; simpa [pt, show n + (1 + 2 + n0) = n + n0 + 3 by omega] using this) fun l a5 b5 gl p5 => ?_
    have rl := gl.noRef
    simp [pt, rp, rl, keepL, setAll, setSl, isBox, List.replicate, ownsL, putO]
    refine ⟨by decide, by decide, fin_pot rfl ⟨_, rfl, ?_, by simp⟩ p5 (by simp [outs, gSame, List.range_succ, pt])⟩
    intro x hx
    simp only [List.mem_cons, List.not_mem_nil, or_false] at hx
    rcases hx with rfl | rfl | rfl | rfl | rfl | rfl | rfl | rfl | rfl | rfl | rfl | rfl
    · exact same_1 m1
    · exact same_2 m1
    · exact same_3 m1
    · exact same_4
    · exact same_5
    · exact same_6 m1
    · exact same_7 m1 m1 l3 u3
    · exact same_9 gp gl
    · exact same_10 gp gl
    · exact same_11 gp
    · exact same_12 gp gl
    · exact same_13 gp
  · have hc' : ¬ [c] = [c2] := by simpa using hc
    simp [pt, e2, show 7 ≤ LIM by decide, show 8 ≤ LIM by decide, show 2 ≤ LIM by decide, hc, ownsL, putO, keepL]
    refine callQuery hq (m := 1) (j := 0) rfl (by have := Q a3 b3 p3; simpa [pt, show n + (1 + 2 + n0) = n + n0 + 3 by omega] using this) fun p a4 b4 gp p4 => ?_
    have rp := gp.noRef
    simp [pt, e2, rp]
    refine callQuery hq (m := 1) (j := 0) rfl (by have := Q a4 b4 p4; simpa [pt, show n + (1 + 2 + n0) = n + n0 + 3 by omega] using this) fun l a5 b5 gl p5 => ?_
    have rl := gl.noRef
    simp [pt, rp, rl, keepL, setAll, setSl, isBox, List.replicate, ownsL, putO]
    refine ⟨by decide, by decide, fin_pot rfl ⟨_, rfl, ?_, by simp⟩ p5 (by simp [outs, gSame, List.range_succ, pt])⟩
    intro x hx
    simp only [List.mem_cons, List.not_mem_nil, or_false] at hx
    rcases hx with rfl | rfl | rfl | rfl | rfl | rfl | rfl | rfl | rfl | rfl | rfl | rfl | rfl
    · exact same_1 m1
    · exact same_2 m1
    · exact same_3 m1
    · exact same_4
    · exact same_5
    · exact same_6 m1
    · exact same_7 m1 m2 l3 u3
    · exact same_8 m1 m2
    · exact same_9 gp gl
    · exact same_10 gp gl
    · exact same_11 gp
    · exact same_12 gp gl
    · exact same_13 gp

def b_right12 (fd fq fR fs ft fS fr : Nat) : List MS := [.set 1 (.bin (.add) (.c (.int 1)) (.call fd [.v 0, .c (.int 4)] [0, 1] [])), .set 2 (.call fq [.v 0, .v 1, .c (.int 4)] [0, 1, 2] []), .set 3 (.bi (.repr) [.v 2]), .ife (.or [.not (.call fR [.v 0, .v 1, .v 2] [0, 1, 2] []), .not (.call fR [.v 0, .v 1, .call fs [.v 0, .v 1] [0, 1] []] [0, 1, 2] [])]) [.ret (.c (.bl false))] [], .set 4 (.lc (.call ft [.v 0, .v 1, .c (.int 9)] [0, 1, 2] []) (.nm 8) (.range) [.c (.int 6)] [] [8]), .for (.tp [.nm 5, .nm 6]) (.seq) [.call fS [.v 0, .v 1] [0, 1] []] [.for (.nm 7) (.seq) [.v 4] [.ife (.cmp (.ne) (.bi (.repr) [.call fr [.v 1, .v 5, .v 7] [0, 1, 2] []]) (.bi (.repr) [.call fr [.v 1, .v 6, .v 7] [0, 1, 2] []])) [.ret (.c (.bl false))] []]], .ret (.cmp (.eq) (.bi (.repr) [.v 2]) (.v 3))]
def gRight12 (fd fq fR fs ft fS fr : Nat) : Fn := ⟨1, 9, [true, false, false, false, false, false, false, false, false], b_right12 fd fq fR fs ft fS fr⟩
theorem hk_tru {x : Res (D × Bool)} {Q : Bool → Env → Prop} {t : Tk Q} (h : x.Ok fun a r => hk (tru (.ok a r)) Q t) : hk (tru x) Q t := by
  cases x <;> first | exact h | exact absurd h id
theorem callYes2 {Z : Sys} {f a1 a2 a3 a4 a5 : Nat} (hf : Z.fns[f]? = some (gRight12t a1 a2 a3 a4 a5)) {M k : Nat} {d : D} (rd : isRef d = false) {a b : Int} {r : Env} {Q : D × Bool → Env → Prop} {j : Nat} (hr : r[j]? = some (pt a b))
    (hc : (callN Z M f [pt a b, .v (.int k), .v d]).Ok (Dr (fun d fr => d = .bl true ∧ fr = false) 2))
    (g : ∀ a' b', PotOk a' b' → Q (.bl true, false) (r.set j (pt a' b'))) :
    (callE Z (callN Z M) f [0, 1, 2] [] [(.ref j, false), (.int k, false), (d, false)] r).Ok Q := by
  have mv : moved [0, 1, 2] [(.ref j, false), (.int k, false), (d, false)] = [(0, j)] := by
    cases d <;> first | rfl | (simp [isRef] at rd; done)
  refine callPot (ds := [.int k, d]) hf hr rfl ?_ mv ?_ hc ?_
  · unfold callOk; rw [mv]; rfl
  · simp [argSl, gRight12t, fkeep, argOf_o, argOf_pl rd, hf, hr, List.range_succ, List.findIdx?, List.findIdx?.go, pt]
  · rintro d fr a' b' ⟨rfl, rfl⟩ _ hp
    exact g a' b' hp
theorem right12_f {Z : Sys} {N : QN} {C : CN} {R n0 : Nat} {f fd fq fR fs ft fS fr fl fT fh ftr : Nat} (q : CF Z N C) (hR : HoldF Z R) (hh : HoldF Z fh) (hd : DrawF Z fd) (hl : Z.fns[fl]? = some (gLetter fd)) (ht : Z.fns[ft]? = some (gText fd)) (hs : SingleF Z fs n0) (hq : Z.fns[fq]? = some (gQuery fq fd fs))
    (hT : Z.fns[fT]? = some gAllTexts) (hr : Z.fns[fr]? = some (gReads C R)) (htr : Z.fns[ftr]? = some (gTrace C R)) (hRR : Z.fns[fR]? = some (gRight12t fT ft fh fr ftr)) (hS : Z.fns[fS]? = some (gSame fl fd fq))
    (hf : Z.fns[f]? = some (gRight12 fd fq fR fs ft fS fr)) (n : Nat) (a b : Int) (h : PotOk a b) :
    (callN Z (n + n0 + 19) f [pt a b]).Ok (Dr (fun d fr => d = .bl true ∧ fr = false) 0) := by
  have e0 := fk_draw hd
  have e1 : fkeep Z fq 0 = true ∧ fkeep Z fq 1 = false ∧ fkeep Z fq 2 = false := by simp [fkeep, hq, gQuery]
  have e2 : fkeep Z fR 0 = true ∧ fkeep Z fR 1 = false ∧ fkeep Z fR 2 = false := by simp [fkeep, hRR, gRight12t]
  have e3 : fkeep Z ft 0 = true ∧ fkeep Z ft 1 = false ∧ fkeep Z ft 2 = false := by simp [fkeep, ht, gText]
  have e4 : fkeep Z fS 0 = true ∧ fkeep Z fS 1 = false ∧ fkeep Z fr 0 = false ∧ fkeep Z fr 1 = false ∧ fkeep Z fr 2 = false := by simp [fkeep, hS, gSame, hr, gReads]
  refine call_of hf rfl rfl ?_
  show (exB Z (callN Z (n + n0 + 18)) (keepL 1 [true, false, false, false, false, false, false, false, false]) (b_right12 fd fq fR fs ft fS fr) [pt a b, .e, .e, .e, .e, .e, .e, .e, .e]).Ok (fin (gRight12 fd fq fR fs ft fS fr) (Dr (fun d fr => d = .bl true ∧ fr = false) 0))
  simp [b_right12, pt, e0]
  refine callDrawN hd (by omega) (j := 0) rfl h (by omega) (by omega) fun i a1 b1 l1 u1 p1 => ?_
  obtain ⟨k, hk, hk1, hk4⟩ : ∃ k : Nat, 1 + i = (k : Int) ∧ 1 ≤ k ∧ k ≤ 4 := ⟨(1 + i).toNat, by omega, by omega, by omega⟩
  simp [pt, e1, keepL, setSl, isBox, hk]
  refine callQuery hq (m := 3) (j := 0) rfl (by have := query_f hd hs hq (n + 13) (k : Int) (by omega) (by omega) 3 a1 b1 p1; simpa [pt, show n + 13 + (3 + 2 + n0) = n + n0 + 18 by omega] using this) fun d a2 b2 gd p2 => ?_
  have pd := gd.pass hk1 hk4 (by omega)
  have rd := gd.noRef
  have hrd : biD Z .repr [d] = some (.str (Z.rp d), false) := by
    rw [bi_repr Z (fun a b e => by subst e; have := pd.gd.pl; simp [plain] at this), if_pos (pd.gd.show (by decide) (by decide))]
  simp [pt, e2, rd, hrd, keepL, setSl, isBox]
  refine hk_tru (callYes2 hRR rd (j := 0) rfl (by have := right12t_f q hR hh hd ht hT hr htr hRR (n + n0) k pd a2 b2 p2; exact this) fun a3 b3 p3 => ?_)
  have e5 : fkeep Z fs 0 = true ∧ fkeep Z fs 1 = false := by
    obtain ⟨F, hF, hn, hkk, _⟩ := hs
    cases hh : F.keep with
    | nil => rw [hh] at hkk; cases hkk
    | cons x xs => cases xs with
      | nil => rw [hh] at hkk; cases hkk
      | cons y ys => rw [hh] at hkk; simp at hkk; simp [fkeep, hF, hh, hkk]
  simp [pt, e2, e5]
  refine callSingleN (k := (k : Int)) hs (by omega) (j := 0) rfl p3 (by omega) (by omega) fun d2 a4 b4 sd p4 => ?_
  have pd2 := (Qy.sg (n := 0) sd).pass hk1 hk4 (by omega)
  have rd2 := sd.noRef
  simp [pt, e2, rd2]
  refine hk_tru (callYes2 hRR rd2 (j := 0) rfl (by have := right12t_f q hR hh hd ht hT hr htr hRR (n + n0) k pd2 a4 b4 p4; exact this) fun a5 b5 p5 => ?_)
  simp [pt, evE_lc, ownless]
  refine ⟨by decide, ?_⟩
  refine hk_of (compI_dr (p := fun d => ∃ s, d = .str s ∧ Txt k s) (j := 7) (R := [.v (.int k), .v d, .v (.str (Z.rp d)), .e, .e, .e, .e, .e]) (ranged 0 6) a5 b5 p5 (by simp) ?_) ?_
  · intro x _ a2 b2 p2
    simp [pt, e3]
    exact callTextN hd ht (by omega) (j := 0) rfl p2 (by omega) (by omega) (by omega) (by omega) fun s a3 b3 ls cs p3 => ⟨rfl, ⟨s, rfl, by omega, cs⟩, a3, b3, p3, rfl⟩
  rintro ys r ⟨ly, hys, a6, b6, s6, p6, rfl⟩
  have ly' : ys.length = 6 := by rw [ly]; rfl
  simp [back, pt, ly', LIM, keepL, setSl, isBox, e4]
  refine callPot (ds := [.int k]) hS (j := 0) rfl rfl rfl rfl ?_ (by have := same_f hd hl hs hq hS (n + 14) k hk1 hk4 a6 b6 p6; rwa [show n + 14 + n0 + 4 = n + n0 + 18 by omega] at this) ?_
  · simp [argSl, gSame, fkeep, argOf_o, hS, List.range_succ, List.findIdx?, List.findIdx?.go, pt]
  rintro sd' fr' a7 b7 ⟨ps, rfl, hps, lps⟩ _ p7
  simp [pt, tgIx, keepL]
  refine hk_of (forI_inv (fun _ r => ∃ s5 s6 s7, r = [pt a7 b7, .v (.int k), .v d, .v (.str (Z.rp d)), .v (.lst ys), s5, s6, s7, .e] ∧ Fr s5 ∧ Fr s6 ∧ Fr s7) _ 0 _ ?_ ⟨.e, .e, .e, rfl, .inl rfl, .inl rfl, .inl rfl⟩) ?_
  · rintro x hx _ r ⟨s5, s6, s7, rfl, f5, f6, f7⟩
    obtain ⟨d1, d3, rfl, q1, q3, same⟩ := (hps x hx).pr
    have p1 := q1.pass hk1 hk4 (by omega)
    have p3 := q3.pass hk1 hk4 (by omega)
    have r1 := q1.noRef
    have r3 := q3.noRef
    refine ⟨[pt a7 b7, .v (.int k), .v d, .v (.str (Z.rp d)), .v (.lst ys), .v d1, .v d3, s7, .e], by rcases f5 with rfl | ⟨u, rfl⟩ <;> rcases f6 with rfl | ⟨v, rfl⟩ <;> simp [bindT, putV, pt], ?_⟩
    simp [pt, tgIx, keepL]
    refine hk_of (forI_inv (fun _ r => ∃ s7, r = [pt a7 b7, .v (.int k), .v d, .v (.str (Z.rp d)), .v (.lst ys), .v d1, .v d3, s7, .e] ∧ Fr s7) _ 0 _ ?_ ⟨s7, rfl, f7⟩) ?_
    · rintro y hy _ r ⟨s7, rfl, f7⟩
      obtain ⟨t, rfl, xt⟩ := hys y hy
      refine ⟨[pt a7 b7, .v (.int k), .v d, .v (.str (Z.rp d)), .v (.lst ys), .v d1, .v d3, .v (.str t), .e], by rcases f7 with rfl | ⟨u, rfl⟩ <;> simp [bindT, putV, pt], ?_⟩
      have c1 := fun r => (q.readsE hR p1 xt hr (n := n + n0 + 18) (by omega) r).1
      have c2 := fun r => (q.readsE hR p3 xt hr (n := n + n0 + 18) (by omega) r).1
      simp [pt, e4, r1, r3, c1, c2, same, repr_bl]
      exact .inr ⟨_, rfl⟩
    · rintro fl r ⟨rfl, s7, rfl, f7⟩
      simp
      exact ⟨_, _, _, ⟨rfl, rfl, rfl, rfl⟩, .inr ⟨_, rfl⟩, .inr ⟨_, rfl⟩, f7⟩
  · rintro fl r ⟨rfl, s5, s6, s7, rfl, f5, f6, f7⟩
    simp [pt, rd, hrd]
    exact fin_pot rfl ⟨rfl, rfl⟩ p7 (by simp [outs, gRight12, List.range_succ, pt])
end Pv
namespace K12
open Pv
def qn : QN := ⟨0, 1, 3, 4, 5, 7, 8, 9, 10, 11⟩
def cn : CN := ⟨2, 6, 12, 13⟩
def rn : RN := ⟨14, 15, 16, 17, 18⟩
theorem law_all (X : Sys) (hm : InMem (Y X)) (hst : StrF (Y X)) (ns : List Int) (h : ns.length ≤ 63) : (callN (Y X) 40 36 [.v (.scr (ns.map .int))]).Ok fun d _ _ => d = .bl true := by
  have hi : InOne (Y X) := hm.one
  have hd : DrawF (Y X) 22 := draw_f (k1 := 40014) (k2 := 2087) (m1 := 2147483587) (m2 := 2147483629) (q := 19) (F__law_draw X) (by decide) (by decide) (by decide) (by decide) (by decide) (by decide) (by decide) (by decide)
  have qf : QF2 (Y X) qn := { isint := F_is_integer X, within := F_is_within X, letters := F_letter_list X, letter := F_is_letter X, text := F_is_text_of X, one := F_is_bare_one X, bare := F_is_bare X, built := F_is_built X, parts := F_parts_of X, size := F_size_of X }
  have cf : CF (Y X) qn cn := { toQF2 := qf, check := F_check_letters X, ctext := F_check_text X, qof := F_is_query_of X, cquery := F_check_query X }
  have rf : RF (Y X) rn := { toStrF := hst, spots := F_spots_of X, near := F_are_near X, ahead := F_are_ahead X, bare := F_holds_bare X, holds := F_holds X }
  have hs : SingleF (Y X) 26 3 := ⟨_, F__law_single X, rfl, rfl, fun n a b k po h1 h2 => single_f hd (F__law_letter X) (F__law_text X) (F__law_pick X) (F__law_single X) n a b k po h1 h2⟩
  have hh : HoldF (Y X) 31 := lawHolds_f (F__law_stands X) (F__law_spots X) (F__law_single_holds X) (F__law_holds X)
  have hr := right12_f (n0 := 3) cf rf.hold hh hd (F__law_letter X) (F__law_text X) hs (F__law_query X) (F__law_texts X) (F_reads X) (F_trace X) (F__law_texts_right X) (F__law_same X) (F__law_right X)
  refine lawTop_f (fr := 35) (fp := 21) (F__law_right X) rfl rfl (F__law_pot X) rfl ⟨rfl, rfl⟩ (F_law X) 39 (fun a b po => ?_) (fun xs hx k h1 h2 => ?_) ns h
  · exact hr 17 a b po
  · exact pot_f (F__law_pot X) (by decide) (by decide) (by decide) (by decide) 38 xs hx k h1 h2
end K12
namespace K12
open Pv
theorem law_ok (ns : List Int) (h : ns.length ≤ 63) : ∃ fr o, callN P 40 36 [.v (scriptD ns)] = .ok (.bl true) fr o := by
  have := law_all P (inMem_of rfl) (strF_of rfl rfl) ns h
  rw [P_eq]
  unfold scriptD
  generalize callN (Y P) 40 36 [.v (.scr (ns.map .int))] = x at this
  cases x with
  | ok d fr o => exact ⟨fr, o, by rw [show d = .bl true from this]⟩
  | exc _ _ => exact absurd this id
  | no => exact absurd this id
end K12
namespace K12
open PySem PySem.Spec PyProof.Rows L2 Pv
def r_is_integer : Rw := ⟨"is_integer", st 7, n_is_integer, ["value"], f_is_integer, []⟩
def r_is_within : Rw := ⟨"is_within", st 8, n_is_within, ["value", "least", "most"], f_is_within, []⟩
def r_check_letters : Rw := ⟨"check_letters", st 9, n_check_letters, ["value"], f_check_letters, []⟩
def r_letter_list : Rw := ⟨"letter_list", st 10, n_letter_list, ["letters"], f_letter_list, []⟩
def r_is_letter : Rw := ⟨"is_letter", st 11, n_is_letter, ["letters", "value"], f_is_letter, []⟩
def r_is_text_of : Rw := ⟨"is_text_of", st 14, n_is_text_of, ["letters", "value", "most"], f_is_text_of, [.int (60)]⟩
def r_check_text : Rw := ⟨"check_text", st 15, n_check_text, ["letters", "value"], f_check_text, []⟩
def r_is_bare : Rw := ⟨"is_bare", st 25, n_is_bare, ["letters", "value"], f_is_bare, []⟩
def r_is_bare_one : Rw := ⟨"is_bare_one", st 26, n_is_bare_one, ["letters", "word", "value"], f_is_bare_one, []⟩
def r_parts_of : Rw := ⟨"parts_of", st 27, n_parts_of, ["query"], f_parts_of, []⟩
def r_is_built : Rw := ⟨"is_built", st 28, n_is_built, ["letters", "value", "depth"], f_is_built, []⟩
def r_size_of : Rw := ⟨"size_of", st 29, n_size_of, ["query"], f_size_of, []⟩
def r_is_query_of : Rw := ⟨"is_query_of", st 30, n_is_query_of, ["letters", "value"], f_is_query_of, []⟩
def r_check_query : Rw := ⟨"check_query", st 31, n_check_query, ["letters", "value"], f_check_query, []⟩
def r_spots_of : Rw := ⟨"spots_of", st 33, n_spots_of, ["letter", "text"], f_spots_of, []⟩
def r_are_near : Rw := ⟨"are_near", st 34, n_are_near, ["query", "text"], f_are_near, []⟩
def r_are_ahead : Rw := ⟨"are_ahead", st 35, n_are_ahead, ["query", "text"], f_are_ahead, []⟩
def r_holds_bare : Rw := ⟨"holds_bare", st 36, n_holds_bare, ["query", "text"], f_holds_bare, []⟩
def r_holds : Rw := ⟨"holds", st 37, n_holds, ["query", "text"], f_holds, []⟩
def r_reads : Rw := ⟨"reads", st 38, n_reads, ["letters", "query", "text"], f_reads, []⟩
def r_trace : Rw := ⟨"trace", st 39, n_trace, ["letters", "query", "text"], f_trace, []⟩
def r__law_pot : Rw := ⟨"_law_pot", st 41, n__law_pot, ["script", "k"], f__law_pot, []⟩
def r__law_draw : Rw := ⟨"_law_draw", st 42, n__law_draw, ["pot", "many"], f__law_draw, []⟩
def r__law_pick : Rw := ⟨"_law_pick", st 43, n__law_pick, ["pot", "some"], f__law_pick, []⟩
def r__law_text : Rw := ⟨"_law_text", st 44, n__law_text, ["pot", "letters", "most"], f__law_text, []⟩
def r__law_letter : Rw := ⟨"_law_letter", st 45, n__law_letter, ["pot", "letters"], f__law_letter, []⟩
def r__law_single : Rw := ⟨"_law_single", st 46, n__law_single, ["pot", "letters"], f__law_single, []⟩
def r__law_query : Rw := ⟨"_law_query", st 47, n__law_query, ["pot", "letters", "deep"], f__law_query, []⟩
def r__law_spots : Rw := ⟨"_law_spots", st 48, n__law_spots, ["letter", "text"], f__law_spots, []⟩
def r__law_stands : Rw := ⟨"_law_stands", st 49, n__law_stands, ["row", "text"], f__law_stands, []⟩
def r__law_single_holds : Rw := ⟨"_law_single_holds", st 50, n__law_single_holds, ["query", "text"], f__law_single_holds, []⟩
def r__law_holds : Rw := ⟨"_law_holds", st 51, n__law_holds, ["query", "text"], f__law_holds, []⟩
def r__law_texts : Rw := ⟨"_law_texts", st 52, n__law_texts, ["letters", "most"], f__law_texts, []⟩
def r__law_texts_right : Rw := ⟨"_law_texts_right", st 53, n__law_texts_right, ["pot", "letters", "query"], f__law_texts_right, []⟩
def r__law_same : Rw := ⟨"_law_same", st 54, n__law_same, ["pot", "letters"], f__law_same, []⟩
def r__law_right : Rw := ⟨"_law_right", st 55, n__law_right, ["pot"], f__law_right, []⟩
def r_law : Rw := ⟨"law", st 56, n_law, ["script"], f_law, []⟩
def rows : List Rw := [r_is_integer, r_is_within, r_check_letters, r_letter_list, r_is_letter, r_is_text_of, r_check_text, r_is_bare, r_is_bare_one, r_parts_of, r_is_built, r_size_of, r_is_query_of, r_check_query, r_spots_of, r_are_near, r_are_ahead, r_holds_bare, r_holds, r_reads, r_trace, r__law_pot, r__law_draw, r__law_pick, r__law_text, r__law_letter, r__law_single, r__law_query, r__law_spots, r__law_stands, r__law_single_holds, r__law_holds, r__law_texts, r__law_texts_right, r__law_same, r__law_right, r_law]
theorem k_is_integer : RwOk M r_is_integer := ⟨⟨rfl, rfl, rfl, by decide +kernel, rfl, by decide +kernel, by decide +kernel⟩, rfl, rfl, rfl⟩
theorem k_is_within : RwOk M r_is_within := ⟨⟨rfl, rfl, rfl, by decide +kernel, rfl, by decide +kernel, by decide +kernel⟩, rfl, rfl, rfl⟩
theorem k_check_letters : RwOk M r_check_letters := ⟨⟨rfl, rfl, rfl, by decide +kernel, rfl, by decide +kernel, by decide +kernel⟩, rfl, rfl, rfl⟩
theorem k_letter_list : RwOk M r_letter_list := ⟨⟨rfl, rfl, rfl, by decide +kernel, rfl, by decide +kernel, by decide +kernel⟩, rfl, rfl, rfl⟩
theorem k_is_letter : RwOk M r_is_letter := ⟨⟨rfl, rfl, rfl, by decide +kernel, rfl, by decide +kernel, by decide +kernel⟩, rfl, rfl, rfl⟩
theorem k_is_text_of : RwOk M r_is_text_of := ⟨⟨rfl, rfl, rfl, by decide +kernel, rfl, by decide +kernel, by decide +kernel⟩, rfl, rfl, rfl⟩
theorem k_check_text : RwOk M r_check_text := ⟨⟨rfl, rfl, rfl, by decide +kernel, rfl, by decide +kernel, by decide +kernel⟩, rfl, rfl, rfl⟩
theorem k_is_bare : RwOk M r_is_bare := ⟨⟨rfl, rfl, rfl, by decide +kernel, rfl, by decide +kernel, by decide +kernel⟩, rfl, rfl, rfl⟩
theorem k_is_bare_one : RwOk M r_is_bare_one := ⟨⟨rfl, rfl, rfl, by decide +kernel, rfl, by decide +kernel, by decide +kernel⟩, rfl, rfl, rfl⟩
theorem k_parts_of : RwOk M r_parts_of := ⟨⟨rfl, rfl, rfl, by decide +kernel, rfl, by decide +kernel, by decide +kernel⟩, rfl, rfl, rfl⟩
theorem k_is_built : RwOk M r_is_built := ⟨⟨rfl, rfl, rfl, by decide +kernel, rfl, by decide +kernel, by decide +kernel⟩, rfl, rfl, rfl⟩
theorem k_size_of : RwOk M r_size_of := ⟨⟨rfl, rfl, rfl, by decide +kernel, rfl, by decide +kernel, by decide +kernel⟩, rfl, rfl, rfl⟩
theorem k_is_query_of : RwOk M r_is_query_of := ⟨⟨rfl, rfl, rfl, by decide +kernel, rfl, by decide +kernel, by decide +kernel⟩, rfl, rfl, rfl⟩
theorem k_check_query : RwOk M r_check_query := ⟨⟨rfl, rfl, rfl, by decide +kernel, rfl, by decide +kernel, by decide +kernel⟩, rfl, rfl, rfl⟩
theorem k_spots_of : RwOk M r_spots_of := ⟨⟨rfl, rfl, rfl, by decide +kernel, rfl, by decide +kernel, by decide +kernel⟩, rfl, rfl, rfl⟩
theorem k_are_near : RwOk M r_are_near := ⟨⟨rfl, rfl, rfl, by decide +kernel, rfl, by decide +kernel, by decide +kernel⟩, rfl, rfl, rfl⟩
theorem k_are_ahead : RwOk M r_are_ahead := ⟨⟨rfl, rfl, rfl, by decide +kernel, rfl, by decide +kernel, by decide +kernel⟩, rfl, rfl, rfl⟩
theorem k_holds_bare : RwOk M r_holds_bare := ⟨⟨rfl, rfl, rfl, by decide +kernel, rfl, by decide +kernel, by decide +kernel⟩, rfl, rfl, rfl⟩
theorem k_holds : RwOk M r_holds := ⟨⟨rfl, rfl, rfl, by decide +kernel, rfl, by decide +kernel, by decide +kernel⟩, rfl, rfl, rfl⟩
theorem k_reads : RwOk M r_reads := ⟨⟨rfl, rfl, rfl, by decide +kernel, rfl, by decide +kernel, by decide +kernel⟩, rfl, rfl, rfl⟩
theorem k_trace : RwOk M r_trace := ⟨⟨rfl, rfl, rfl, by decide +kernel, rfl, by decide +kernel, by decide +kernel⟩, rfl, rfl, rfl⟩
theorem k__law_pot : RwOk M r__law_pot := ⟨⟨rfl, rfl, rfl, by decide +kernel, rfl, by decide +kernel, by decide +kernel⟩, rfl, rfl, rfl⟩
theorem k__law_draw : RwOk M r__law_draw := ⟨⟨rfl, rfl, rfl, by decide +kernel, rfl, by decide +kernel, by decide +kernel⟩, rfl, rfl, rfl⟩
theorem k__law_pick : RwOk M r__law_pick := ⟨⟨rfl, rfl, rfl, by decide +kernel, rfl, by decide +kernel, by decide +kernel⟩, rfl, rfl, rfl⟩
theorem k__law_text : RwOk M r__law_text := ⟨⟨rfl, rfl, rfl, by decide +kernel, rfl, by decide +kernel, by decide +kernel⟩, rfl, rfl, rfl⟩
theorem k__law_letter : RwOk M r__law_letter := ⟨⟨rfl, rfl, rfl, by decide +kernel, rfl, by decide +kernel, by decide +kernel⟩, rfl, rfl, rfl⟩
theorem k__law_single : RwOk M r__law_single := ⟨⟨rfl, rfl, rfl, by decide +kernel, rfl, by decide +kernel, by decide +kernel⟩, rfl, rfl, rfl⟩
theorem k__law_query : RwOk M r__law_query := ⟨⟨rfl, rfl, rfl, by decide +kernel, rfl, by decide +kernel, by decide +kernel⟩, rfl, rfl, rfl⟩
theorem k__law_spots : RwOk M r__law_spots := ⟨⟨rfl, rfl, rfl, by decide +kernel, rfl, by decide +kernel, by decide +kernel⟩, rfl, rfl, rfl⟩
theorem k__law_stands : RwOk M r__law_stands := ⟨⟨rfl, rfl, rfl, by decide +kernel, rfl, by decide +kernel, by decide +kernel⟩, rfl, rfl, rfl⟩
theorem k__law_single_holds : RwOk M r__law_single_holds := ⟨⟨rfl, rfl, rfl, by decide +kernel, rfl, by decide +kernel, by decide +kernel⟩, rfl, rfl, rfl⟩
theorem k__law_holds : RwOk M r__law_holds := ⟨⟨rfl, rfl, rfl, by decide +kernel, rfl, by decide +kernel, by decide +kernel⟩, rfl, rfl, rfl⟩
theorem k__law_texts : RwOk M r__law_texts := ⟨⟨rfl, rfl, rfl, by decide +kernel, rfl, by decide +kernel, by decide +kernel⟩, rfl, rfl, rfl⟩
theorem k__law_texts_right : RwOk M r__law_texts_right := ⟨⟨rfl, rfl, rfl, by decide +kernel, rfl, by decide +kernel, by decide +kernel⟩, rfl, rfl, rfl⟩
theorem k__law_same : RwOk M r__law_same := ⟨⟨rfl, rfl, rfl, by decide +kernel, rfl, by decide +kernel, by decide +kernel⟩, rfl, rfl, rfl⟩
theorem k__law_right : RwOk M r__law_right := ⟨⟨rfl, rfl, rfl, by decide +kernel, rfl, by decide +kernel, by decide +kernel⟩, rfl, rfl, rfl⟩
theorem k_law : RwOk M r_law := ⟨⟨rfl, rfl, rfl, by decide +kernel, rfl, by decide +kernel, by decide +kernel⟩, rfl, rfl, rfl⟩
theorem rows_ok : ∀ r ∈ rows, RwOk M r := by
  intro r hr
  simp only [rows, List.mem_cons, List.not_mem_nil, or_false] at hr
  rcases hr with rfl | rfl | rfl | rfl | rfl | rfl | rfl | rfl | rfl | rfl | rfl | rfl | rfl | rfl | rfl | rfl | rfl | rfl | rfl | rfl | rfl | rfl | rfl | rfl | rfl | rfl | rfl | rfl | rfl | rfl | rfl | rfl | rfl | rfl | rfl | rfl | rfl
  · exact k_is_integer
  · exact k_is_within
  · exact k_check_letters
  · exact k_letter_list
  · exact k_is_letter
  · exact k_is_text_of
  · exact k_check_text
  · exact k_is_bare
  · exact k_is_bare_one
  · exact k_parts_of
  · exact k_is_built
  · exact k_size_of
  · exact k_is_query_of
  · exact k_check_query
  · exact k_spots_of
  · exact k_are_near
  · exact k_are_ahead
  · exact k_holds_bare
  · exact k_holds
  · exact k_reads
  · exact k_trace
  · exact k__law_pot
  · exact k__law_draw
  · exact k__law_pick
  · exact k__law_text
  · exact k__law_letter
  · exact k__law_single
  · exact k__law_query
  · exact k__law_spots
  · exact k__law_stands
  · exact k__law_single_holds
  · exact k__law_holds
  · exact k__law_texts
  · exact k__law_texts_right
  · exact k__law_same
  · exact k__law_right
  · exact k_law
theorem p_0 (K : PySem.W.Frag) (f : Addr) (fd : FuncData) (F : FunD K r_letter_list.x r_letter_list.x (defArgs r_letter_list.st) (defBody r_letter_list.st) (defScope r_letter_list.st) (r_letter_list.dfl.map (He.Dv.v K)) [] f fd) : PatOk K fd r_letter_list.ps (⟨3, 1, [], [0], []⟩ : Pat) :=
  PatOk.row F rfl rfl fun kV doc pm an cdv ct us ws h1 h2 => match us, ws, h1, h2 with | [_], [], _, _ => rfl
theorem p_1 (K : PySem.W.Frag) (f : Addr) (fd : FuncData) (F : FunD K r_is_bare.x r_is_bare.x (defArgs r_is_bare.st) (defBody r_is_bare.st) (defScope r_is_bare.st) (r_is_bare.dfl.map (He.Dv.v K)) [] f fd) : PatOk K fd r_is_bare.ps (⟨7, 2, [], [0, 1], []⟩ : Pat) :=
  PatOk.row F rfl rfl fun kV doc pm an cdv ct us ws h1 h2 => match us, ws, h1, h2 with | [_, _], [], _, _ => rfl
theorem p_2 (K : PySem.W.Frag) (f : Addr) (fd : FuncData) (F : FunD K r_spots_of.x r_spots_of.x (defArgs r_spots_of.st) (defBody r_spots_of.st) (defScope r_spots_of.st) (r_spots_of.dfl.map (He.Dv.v K)) [] f fd) : PatOk K fd r_spots_of.ps (⟨14, 2, [], [0, 1], []⟩ : Pat) :=
  PatOk.row F rfl rfl fun kV doc pm an cdv ct us ws h1 h2 => match us, ws, h1, h2 with | [_, _], [], _, _ => rfl
theorem p_3 (K : PySem.W.Frag) (f : Addr) (fd : FuncData) (F : FunD K r_holds_bare.x r_holds_bare.x (defArgs r_holds_bare.st) (defBody r_holds_bare.st) (defScope r_holds_bare.st) (r_holds_bare.dfl.map (He.Dv.v K)) [] f fd) : PatOk K fd r_holds_bare.ps (⟨17, 2, [], [0, 1], []⟩ : Pat) :=
  PatOk.row F rfl rfl fun kV doc pm an cdv ct us ws h1 h2 => match us, ws, h1, h2 with | [_, _], [], _, _ => rfl
theorem p_4 (K : PySem.W.Frag) (f : Addr) (fd : FuncData) (F : FunD K r_check_letters.x r_check_letters.x (defArgs r_check_letters.st) (defBody r_check_letters.st) (defScope r_check_letters.st) (r_check_letters.dfl.map (He.Dv.v K)) [] f fd) : PatOk K fd r_check_letters.ps (⟨2, 1, [], [0], []⟩ : Pat) :=
  PatOk.row F rfl rfl fun kV doc pm an cdv ct us ws h1 h2 => match us, ws, h1, h2 with | [_], [], _, _ => rfl
theorem p_5 (K : PySem.W.Frag) (f : Addr) (fd : FuncData) (F : FunD K r_check_query.x r_check_query.x (defArgs r_check_query.st) (defBody r_check_query.st) (defScope r_check_query.st) (r_check_query.dfl.map (He.Dv.v K)) [] f fd) : PatOk K fd r_check_query.ps (⟨13, 2, [], [0, 1], []⟩ : Pat) :=
  PatOk.row F rfl rfl fun kV doc pm an cdv ct us ws h1 h2 => match us, ws, h1, h2 with | [_, _], [], _, _ => rfl
theorem p_6 (K : PySem.W.Frag) (f : Addr) (fd : FuncData) (F : FunD K r_check_text.x r_check_text.x (defArgs r_check_text.st) (defBody r_check_text.st) (defScope r_check_text.st) (r_check_text.dfl.map (He.Dv.v K)) [] f fd) : PatOk K fd r_check_text.ps (⟨6, 2, [], [0, 1], []⟩ : Pat) :=
  PatOk.row F rfl rfl fun kV doc pm an cdv ct us ws h1 h2 => match us, ws, h1, h2 with | [_, _], [], _, _ => rfl
theorem p_7 (K : PySem.W.Frag) (f : Addr) (fd : FuncData) (F : FunD K r_holds.x r_holds.x (defArgs r_holds.st) (defBody r_holds.st) (defScope r_holds.st) (r_holds.dfl.map (He.Dv.v K)) [] f fd) : PatOk K fd r_holds.ps (⟨18, 2, [], [0, 1], []⟩ : Pat) :=
  PatOk.row F rfl rfl fun kV doc pm an cdv ct us ws h1 h2 => match us, ws, h1, h2 with | [_, _], [], _, _ => rfl
theorem p_8 (K : PySem.W.Frag) (f : Addr) (fd : FuncData) (F : FunD K r__law_pick.x r__law_pick.x (defArgs r__law_pick.st) (defBody r__law_pick.st) (defScope r__law_pick.st) (r__law_pick.dfl.map (He.Dv.v K)) [] f fd) : PatOk K fd r__law_pick.ps (⟨23, 2, [], [0, 1], []⟩ : Pat) :=
  PatOk.row F rfl rfl fun kV doc pm an cdv ct us ws h1 h2 => match us, ws, h1, h2 with | [_, _], [], _, _ => rfl
theorem p_9 (K : PySem.W.Frag) (f : Addr) (fd : FuncData) (F : FunD K r__law_single.x r__law_single.x (defArgs r__law_single.st) (defBody r__law_single.st) (defScope r__law_single.st) (r__law_single.dfl.map (He.Dv.v K)) [] f fd) : PatOk K fd r__law_single.ps (⟨26, 2, [], [0, 1], []⟩ : Pat) :=
  PatOk.row F rfl rfl fun kV doc pm an cdv ct us ws h1 h2 => match us, ws, h1, h2 with | [_, _], [], _, _ => rfl
theorem p_10 (K : PySem.W.Frag) (f : Addr) (fd : FuncData) (F : FunD K r__law_spots.x r__law_spots.x (defArgs r__law_spots.st) (defBody r__law_spots.st) (defScope r__law_spots.st) (r__law_spots.dfl.map (He.Dv.v K)) [] f fd) : PatOk K fd r__law_spots.ps (⟨28, 2, [], [0, 1], []⟩ : Pat) :=
  PatOk.row F rfl rfl fun kV doc pm an cdv ct us ws h1 h2 => match us, ws, h1, h2 with | [_, _], [], _, _ => rfl
theorem p_11 (K : PySem.W.Frag) (f : Addr) (fd : FuncData) (F : FunD K r__law_single_holds.x r__law_single_holds.x (defArgs r__law_single_holds.st) (defBody r__law_single_holds.st) (defScope r__law_single_holds.st) (r__law_single_holds.dfl.map (He.Dv.v K)) [] f fd) : PatOk K fd r__law_single_holds.ps (⟨30, 2, [], [0, 1], []⟩ : Pat) :=
  PatOk.row F rfl rfl fun kV doc pm an cdv ct us ws h1 h2 => match us, ws, h1, h2 with | [_, _], [], _, _ => rfl
theorem p_12 (K : PySem.W.Frag) (f : Addr) (fd : FuncData) (F : FunD K r__law_text.x r__law_text.x (defArgs r__law_text.st) (defBody r__law_text.st) (defScope r__law_text.st) (r__law_text.dfl.map (He.Dv.v K)) [] f fd) : PatOk K fd r__law_text.ps (⟨24, 3, [], [0, 1, 2], []⟩ : Pat) :=
  PatOk.row F rfl rfl fun kV doc pm an cdv ct us ws h1 h2 => match us, ws, h1, h2 with | [_, _, _], [], _, _ => rfl
theorem p_13 (K : PySem.W.Frag) (f : Addr) (fd : FuncData) (F : FunD K r_trace.x r_trace.x (defArgs r_trace.st) (defBody r_trace.st) (defScope r_trace.st) (r_trace.dfl.map (He.Dv.v K)) [] f fd) : PatOk K fd r_trace.ps (⟨20, 3, [], [0, 1, 2], []⟩ : Pat) :=
  PatOk.row F rfl rfl fun kV doc pm an cdv ct us ws h1 h2 => match us, ws, h1, h2 with | [_, _, _], [], _, _ => rfl
theorem p_14 (K : PySem.W.Frag) (f : Addr) (fd : FuncData) (F : FunD K r__law_draw.x r__law_draw.x (defArgs r__law_draw.st) (defBody r__law_draw.st) (defScope r__law_draw.st) (r__law_draw.dfl.map (He.Dv.v K)) [] f fd) : PatOk K fd r__law_draw.ps (⟨22, 2, [], [0, 1], []⟩ : Pat) :=
  PatOk.row F rfl rfl fun kV doc pm an cdv ct us ws h1 h2 => match us, ws, h1, h2 with | [_, _], [], _, _ => rfl
theorem p_15 (K : PySem.W.Frag) (f : Addr) (fd : FuncData) (F : FunD K r__law_query.x r__law_query.x (defArgs r__law_query.st) (defBody r__law_query.st) (defScope r__law_query.st) (r__law_query.dfl.map (He.Dv.v K)) [] f fd) : PatOk K fd r__law_query.ps (⟨27, 3, [], [0, 1, 2], []⟩ : Pat) :=
  PatOk.row F rfl rfl fun kV doc pm an cdv ct us ws h1 h2 => match us, ws, h1, h2 with | [_, _, _], [], _, _ => rfl
theorem p_16 (K : PySem.W.Frag) (f : Addr) (fd : FuncData) (F : FunD K r__law_same.x r__law_same.x (defArgs r__law_same.st) (defBody r__law_same.st) (defScope r__law_same.st) (r__law_same.dfl.map (He.Dv.v K)) [] f fd) : PatOk K fd r__law_same.ps (⟨34, 2, [], [0, 1], []⟩ : Pat) :=
  PatOk.row F rfl rfl fun kV doc pm an cdv ct us ws h1 h2 => match us, ws, h1, h2 with | [_, _], [], _, _ => rfl
theorem p_17 (K : PySem.W.Frag) (f : Addr) (fd : FuncData) (F : FunD K r_is_integer.x r_is_integer.x (defArgs r_is_integer.st) (defBody r_is_integer.st) (defScope r_is_integer.st) (r_is_integer.dfl.map (He.Dv.v K)) [] f fd) : PatOk K fd r_is_integer.ps (⟨0, 1, [], [0], []⟩ : Pat) :=
  PatOk.row F rfl rfl fun kV doc pm an cdv ct us ws h1 h2 => match us, ws, h1, h2 with | [_], [], _, _ => rfl
theorem p_18 (K : PySem.W.Frag) (f : Addr) (fd : FuncData) (F : FunD K r_is_within.x r_is_within.x (defArgs r_is_within.st) (defBody r_is_within.st) (defScope r_is_within.st) (r_is_within.dfl.map (He.Dv.v K)) [] f fd) : PatOk K fd r_is_within.ps (⟨1, 3, [], [0, 1, 2], []⟩ : Pat) :=
  PatOk.row F rfl rfl fun kV doc pm an cdv ct us ws h1 h2 => match us, ws, h1, h2 with | [_, _, _], [], _, _ => rfl
theorem p_19 (K : PySem.W.Frag) (f : Addr) (fd : FuncData) (F : FunD K r_is_text_of.x r_is_text_of.x (defArgs r_is_text_of.st) (defBody r_is_text_of.st) (defScope r_is_text_of.st) (r_is_text_of.dfl.map (He.Dv.v K)) [] f fd) : PatOk K fd r_is_text_of.ps (⟨5, 2, [], [0, 1], [(2, .int 60)]⟩ : Pat) :=
  PatOk.dfl F 0 [(2, .int (60))] (by decide) rfl rfl
    (fun p d h => by
      simp only [List.lookup_cons, List.lookup_nil] at h
      split at h
      · rename_i e; cases h; have e2 := eq_of_beq e; subst e2; exact ⟨.int (60), rfl, fun _ _ => by simp [Rp]⟩
      cases h)
    (fun vs h => match vs, h with | [_, _], _ => rfl)
    (fun T kV doc pm an cdv ct us its h1 h2 => match us, its, h1, h2 with | [_, _], [_], _, _ => ⟨_, rfl, rfl⟩)
theorem p_20 (K : PySem.W.Frag) (f : Addr) (fd : FuncData) (F : FunD K r_is_letter.x r_is_letter.x (defArgs r_is_letter.st) (defBody r_is_letter.st) (defScope r_is_letter.st) (r_is_letter.dfl.map (He.Dv.v K)) [] f fd) : PatOk K fd r_is_letter.ps (⟨4, 2, [], [0, 1], []⟩ : Pat) :=
  PatOk.row F rfl rfl fun kV doc pm an cdv ct us ws h1 h2 => match us, ws, h1, h2 with | [_, _], [], _, _ => rfl
theorem p_21 (K : PySem.W.Frag) (f : Addr) (fd : FuncData) (F : FunD K r_is_built.x r_is_built.x (defArgs r_is_built.st) (defBody r_is_built.st) (defScope r_is_built.st) (r_is_built.dfl.map (He.Dv.v K)) [] f fd) : PatOk K fd r_is_built.ps (⟨10, 3, [], [0, 1, 2], []⟩ : Pat) :=
  PatOk.row F rfl rfl fun kV doc pm an cdv ct us ws h1 h2 => match us, ws, h1, h2 with | [_, _, _], [], _, _ => rfl
theorem p_22 (K : PySem.W.Frag) (f : Addr) (fd : FuncData) (F : FunD K r_is_query_of.x r_is_query_of.x (defArgs r_is_query_of.st) (defBody r_is_query_of.st) (defScope r_is_query_of.st) (r_is_query_of.dfl.map (He.Dv.v K)) [] f fd) : PatOk K fd r_is_query_of.ps (⟨12, 2, [], [0, 1], []⟩ : Pat) :=
  PatOk.row F rfl rfl fun kV doc pm an cdv ct us ws h1 h2 => match us, ws, h1, h2 with | [_, _], [], _, _ => rfl
theorem p_23 (K : PySem.W.Frag) (f : Addr) (fd : FuncData) (F : FunD K r_are_near.x r_are_near.x (defArgs r_are_near.st) (defBody r_are_near.st) (defScope r_are_near.st) (r_are_near.dfl.map (He.Dv.v K)) [] f fd) : PatOk K fd r_are_near.ps (⟨15, 2, [], [0, 1], []⟩ : Pat) :=
  PatOk.row F rfl rfl fun kV doc pm an cdv ct us ws h1 h2 => match us, ws, h1, h2 with | [_, _], [], _, _ => rfl
theorem p_24 (K : PySem.W.Frag) (f : Addr) (fd : FuncData) (F : FunD K r_are_ahead.x r_are_ahead.x (defArgs r_are_ahead.st) (defBody r_are_ahead.st) (defScope r_are_ahead.st) (r_are_ahead.dfl.map (He.Dv.v K)) [] f fd) : PatOk K fd r_are_ahead.ps (⟨16, 2, [], [0, 1], []⟩ : Pat) :=
  PatOk.row F rfl rfl fun kV doc pm an cdv ct us ws h1 h2 => match us, ws, h1, h2 with | [_, _], [], _, _ => rfl
theorem p_25 (K : PySem.W.Frag) (f : Addr) (fd : FuncData) (F : FunD K r__law_letter.x r__law_letter.x (defArgs r__law_letter.st) (defBody r__law_letter.st) (defScope r__law_letter.st) (r__law_letter.dfl.map (He.Dv.v K)) [] f fd) : PatOk K fd r__law_letter.ps (⟨25, 2, [], [0, 1], []⟩ : Pat) :=
  PatOk.row F rfl rfl fun kV doc pm an cdv ct us ws h1 h2 => match us, ws, h1, h2 with | [_, _], [], _, _ => rfl
theorem p_26 (K : PySem.W.Frag) (f : Addr) (fd : FuncData) (F : FunD K r__law_texts.x r__law_texts.x (defArgs r__law_texts.st) (defBody r__law_texts.st) (defScope r__law_texts.st) (r__law_texts.dfl.map (He.Dv.v K)) [] f fd) : PatOk K fd r__law_texts.ps (⟨32, 2, [], [0, 1], []⟩ : Pat) :=
  PatOk.row F rfl rfl fun kV doc pm an cdv ct us ws h1 h2 => match us, ws, h1, h2 with | [_, _], [], _, _ => rfl
theorem p_27 (K : PySem.W.Frag) (f : Addr) (fd : FuncData) (F : FunD K r__law_holds.x r__law_holds.x (defArgs r__law_holds.st) (defBody r__law_holds.st) (defScope r__law_holds.st) (r__law_holds.dfl.map (He.Dv.v K)) [] f fd) : PatOk K fd r__law_holds.ps (⟨31, 2, [], [0, 1], []⟩ : Pat) :=
  PatOk.row F rfl rfl fun kV doc pm an cdv ct us ws h1 h2 => match us, ws, h1, h2 with | [_, _], [], _, _ => rfl
theorem p_28 (K : PySem.W.Frag) (f : Addr) (fd : FuncData) (F : FunD K r_is_bare_one.x r_is_bare_one.x (defArgs r_is_bare_one.st) (defBody r_is_bare_one.st) (defScope r_is_bare_one.st) (r_is_bare_one.dfl.map (He.Dv.v K)) [] f fd) : PatOk K fd r_is_bare_one.ps (⟨8, 3, [], [0, 1, 2], []⟩ : Pat) :=
  PatOk.row F rfl rfl fun kV doc pm an cdv ct us ws h1 h2 => match us, ws, h1, h2 with | [_, _, _], [], _, _ => rfl
theorem p_29 (K : PySem.W.Frag) (f : Addr) (fd : FuncData) (F : FunD K r_size_of.x r_size_of.x (defArgs r_size_of.st) (defBody r_size_of.st) (defScope r_size_of.st) (r_size_of.dfl.map (He.Dv.v K)) [] f fd) : PatOk K fd r_size_of.ps (⟨11, 1, [], [0], []⟩ : Pat) :=
  PatOk.row F rfl rfl fun kV doc pm an cdv ct us ws h1 h2 => match us, ws, h1, h2 with | [_], [], _, _ => rfl
theorem p_30 (K : PySem.W.Frag) (f : Addr) (fd : FuncData) (F : FunD K r__law_stands.x r__law_stands.x (defArgs r__law_stands.st) (defBody r__law_stands.st) (defScope r__law_stands.st) (r__law_stands.dfl.map (He.Dv.v K)) [] f fd) : PatOk K fd r__law_stands.ps (⟨29, 2, [], [0, 1], []⟩ : Pat) :=
  PatOk.row F rfl rfl fun kV doc pm an cdv ct us ws h1 h2 => match us, ws, h1, h2 with | [_, _], [], _, _ => rfl
theorem p_31 (K : PySem.W.Frag) (f : Addr) (fd : FuncData) (F : FunD K r__law_texts_right.x r__law_texts_right.x (defArgs r__law_texts_right.st) (defBody r__law_texts_right.st) (defScope r__law_texts_right.st) (r__law_texts_right.dfl.map (He.Dv.v K)) [] f fd) : PatOk K fd r__law_texts_right.ps (⟨33, 3, [], [0, 1, 2], []⟩ : Pat) :=
  PatOk.row F rfl rfl fun kV doc pm an cdv ct us ws h1 h2 => match us, ws, h1, h2 with | [_, _, _], [], _, _ => rfl
theorem p_32 (K : PySem.W.Frag) (f : Addr) (fd : FuncData) (F : FunD K r__law_right.x r__law_right.x (defArgs r__law_right.st) (defBody r__law_right.st) (defScope r__law_right.st) (r__law_right.dfl.map (He.Dv.v K)) [] f fd) : PatOk K fd r__law_right.ps (⟨35, 1, [], [0], []⟩ : Pat) :=
  PatOk.row F rfl rfl fun kV doc pm an cdv ct us ws h1 h2 => match us, ws, h1, h2 with | [_], [], _, _ => rfl
theorem p_33 (K : PySem.W.Frag) (f : Addr) (fd : FuncData) (F : FunD K r_reads.x r_reads.x (defArgs r_reads.st) (defBody r_reads.st) (defScope r_reads.st) (r_reads.dfl.map (He.Dv.v K)) [] f fd) : PatOk K fd r_reads.ps (⟨19, 3, [], [0, 1, 2], []⟩ : Pat) :=
  PatOk.row F rfl rfl fun kV doc pm an cdv ct us ws h1 h2 => match us, ws, h1, h2 with | [_, _, _], [], _, _ => rfl
theorem p_34 (K : PySem.W.Frag) (f : Addr) (fd : FuncData) (F : FunD K r_trace.x r_trace.x (defArgs r_trace.st) (defBody r_trace.st) (defScope r_trace.st) (r_trace.dfl.map (He.Dv.v K)) [] f fd) : PatOk K fd r_trace.ps (⟨20, 0, ["text", "query", "letters"], [2, 1, 0], []⟩ : Pat) :=
  PatOk.row F rfl rfl fun kV doc pm an cdv ct us ws h1 h2 => match us, ws, h1, h2 with | [], [_, _, _], _, _ => rfl
theorem p_35 (K : PySem.W.Frag) (f : Addr) (fd : FuncData) (F : FunD K r_reads.x r_reads.x (defArgs r_reads.st) (defBody r_reads.st) (defScope r_reads.st) (r_reads.dfl.map (He.Dv.v K)) [] f fd) : PatOk K fd r_reads.ps (⟨19, 0, ["text", "query", "letters"], [2, 1, 0], []⟩ : Pat) :=
  PatOk.row F rfl rfl fun kV doc pm an cdv ct us ws h1 h2 => match us, ws, h1, h2 with | [], [_, _, _], _, _ => rfl
theorem p_36 (K : PySem.W.Frag) (f : Addr) (fd : FuncData) (F : FunD K r__law_pot.x r__law_pot.x (defArgs r__law_pot.st) (defBody r__law_pot.st) (defScope r__law_pot.st) (r__law_pot.dfl.map (He.Dv.v K)) [] f fd) : PatOk K fd r__law_pot.ps (⟨21, 2, [], [0, 1], []⟩ : Pat) :=
  PatOk.row F rfl rfl fun kV doc pm an cdv ct us ws h1 h2 => match us, ws, h1, h2 with | [_, _], [], _, _ => rfl
theorem p_37 (K : PySem.W.Frag) (f : Addr) (fd : FuncData) (F : FunD K r_parts_of.x r_parts_of.x (defArgs r_parts_of.st) (defBody r_parts_of.st) (defScope r_parts_of.st) (r_parts_of.dfl.map (He.Dv.v K)) [] f fd) : PatOk K fd r_parts_of.ps (⟨9, 1, [], [0], []⟩ : Pat) :=
  PatOk.row F rfl rfl fun kV doc pm an cdv ct us ws h1 h2 => match us, ws, h1, h2 with | [_], [], _, _ => rfl
theorem p_38 (K : PySem.W.Frag) (f : Addr) (fd : FuncData) (F : FunD K r_law.x r_law.x (defArgs r_law.st) (defBody r_law.st) (defScope r_law.st) (r_law.dfl.map (He.Dv.v K)) [] f fd) : PatOk K fd r_law.ps (⟨36, 1, [], [0], []⟩ : Pat) :=
  PatOk.row F rfl rfl fun kV doc pm an cdv ct us ws h1 h2 => match us, ws, h1, h2 with | [_], [], _, _ => rfl
theorem pts_ok : PtOk M rows := by
  intro pt hpt r hr K f fd F
  simp only [M, List.append_eq, List.mem_append, List.mem_cons, List.not_mem_nil, or_false, or_assoc] at hpt
  rcases hpt with rfl | rfl | rfl | rfl | rfl | rfl | rfl | rfl | rfl | rfl | rfl | rfl | rfl | rfl | rfl | rfl | rfl | rfl | rfl | rfl | rfl | rfl | rfl | rfl | rfl | rfl | rfl | rfl | rfl | rfl | rfl | rfl | rfl | rfl | rfl | rfl | rfl | rfl | rfl
  · cases hr; exact p_0 K f fd F
  · cases hr; exact p_1 K f fd F
  · cases hr; exact p_2 K f fd F
  · cases hr; exact p_3 K f fd F
  · cases hr; exact p_4 K f fd F
  · cases hr; exact p_5 K f fd F
  · cases hr; exact p_6 K f fd F
  · cases hr; exact p_7 K f fd F
  · cases hr; exact p_8 K f fd F
  · cases hr; exact p_9 K f fd F
  · cases hr; exact p_10 K f fd F
  · cases hr; exact p_11 K f fd F
  · cases hr; exact p_12 K f fd F
  · cases hr; exact p_13 K f fd F
  · cases hr; exact p_14 K f fd F
  · cases hr; exact p_15 K f fd F
  · cases hr; exact p_16 K f fd F
  · cases hr; exact p_17 K f fd F
  · cases hr; exact p_18 K f fd F
  · cases hr; exact p_19 K f fd F
  · cases hr; exact p_20 K f fd F
  · cases hr; exact p_21 K f fd F
  · cases hr; exact p_22 K f fd F
  · cases hr; exact p_23 K f fd F
  · cases hr; exact p_24 K f fd F
  · cases hr; exact p_25 K f fd F
  · cases hr; exact p_26 K f fd F
  · cases hr; exact p_27 K f fd F
  · cases hr; exact p_28 K f fd F
  · cases hr; exact p_29 K f fd F
  · cases hr; exact p_30 K f fd F
  · cases hr; exact p_31 K f fd F
  · cases hr; exact p_32 K f fd F
  · cases hr; exact p_33 K f fd F
  · cases hr; exact p_34 K f fd F
  · cases hr; exact p_35 K f fd F
  · cases hr; exact p_36 K f fd F
  · cases hr; exact p_37 K f fd F
  · cases hr; exact p_38 K f fd F
abbrev R : PySem.W.OpenRow := PySem.W.OpenLaw.row PySem.Challenge.rw_tellindex_k12_whole_reading
abbrev hk : PySem.W.Hook := hookP 4 M.bl M.gl (rows.map Rw.dd)
def ob (s : PySem.W.SharedT) : He.AlD := obsPG 4 M.bl M.gl (rows.map Rw.dd) (HandSHeadRun.getT s)
theorem ob_eq (s : PySem.W.SharedT) : ob s = hk.obs s.abs := obsPG_eq (HandSHeadRun.getT_eq s)
def loose0 : List Str := ["TellError", "InvalidLetters", "InvalidText", "InvalidQuery", "SIGNS", "is_integer", "is_within", "check_letters", "letter_list", "is_letter", "MOST_LENGTH", "is_text_of", "check_text", "MOST_SIZE", "MOST_DEPTH", "MOST_PARTS", "PARTED", "MOST_BETWEEN", "MOST_OFTEN", "MOST_LONG", "MOST_DIVISOR", "is_bare", "is_bare_one", "parts_of", "is_built", "size_of", "is_query_of", "check_query", "spots_of", "are_near"]
def loose1 : List Str := ["are_ahead", "holds_bare", "holds", "reads", "trace", "_law_pot", "_law_draw", "_law_pick", "_law_text", "_law_letter", "_law_single", "_law_query", "_law_spots", "_law_stands", "_law_single_holds", "_law_holds", "_law_texts", "_law_texts_right", "_law_same", "_law_right"]
def loose : List Str := loose0 ++ loose1
set_option maxHeartbeats 0 in
theorem run (w : World) : HandSHeadRun.RunEq R (PySem.W.view R.prog [56]) hk ob 4000 loose w := by
  intro os
  kernel_rfl
end K12
open PySem PySem.W PySem.Calls PyProof.Rows
set_option maxRecDepth 100000 in
set_option maxHeartbeats 0 in
theorem PySem.Challenge.cw_tellindex_k12_whole_reading_holds : PySem.Challenge.rw_tellindex_k12_whole_reading.Holds := by
  w_on; o_law
  refine HandSHeadRun.head_any (r := OpenLaw.row PySem.Challenge.rw_tellindex_k12_whole_reading) (q := view (OpenLaw.row PySem.Challenge.rw_tellindex_k12_whole_reading).prog [56]) (H := K12.hk) (ob := K12.ob) (M := 4000) (loose := K12.loose) (d := HandSHeadRun.topDef (OpenLaw.row PySem.Challenge.rw_tellindex_k12_whole_reading).prog 56) (kwd := []) K12.ob_eq
    (by kernel_rfl) (fun s => by kernel_rfl) K12.run (by kernel_rfl) (by kernel_rfl) (by kernel_rfl) (by rfl) (by first | assumption | decide +kernel) (by decide +kernel) ⟨rfl, rfl, rfl, rfl, rfl, by decide +kernel⟩ ?hw ?hc
  case hw => w_witness2
  case hc =>
    refine Pv.walk_law (l := PySem.Challenge.rw_tellindex_k12_whole_reading) (n := 63) (k := 40) (f := 36) (M := K12.M) (P := K12.P) rfl (by decide) (by kernel_rfl) ⟨rfl, by decide, by decide⟩ (by kernel_rfl) (by simp [K12.M]) (fun F h => by cases h; rfl) ?F K12.law_ok
    intro w mg fa h Y G hmg0
    obtain ⟨K, KX, c⟩ := Y
    exact ⟨K, KX, Pv.modOk_of (rows := K12.rows) rfl rfl K12.rows_ok K12.pts_ok rfl rfl rfl KX G c⟩
