import PyProof.Rows.All
import Wide.All
import OpenK.AllK
import Wide.FinOn
import HandS.ForMost
import HandS.Codes
import HandS.TupAny
import HandS.TupMul
import HandS.Conv
import HandS.Deep
import HandS.Flow
import HandS.Style
import HandS.Comp
import HandS.DictComp
import HandS.Iter
import HandS.Zip
import HandS.Rev
import KE.GoesEnum
import KE.GoesZip
import KE.GoesMore
import HandS.IsInst
import PyProof.Rows.NestShow
import PyProof.DictUpdate
import KE.KDictList
import HandS.RevTup
import HandS.Defaults
import HandS.HeadHook2
import HandS.HeadEnd
import HandS.Head0
import HandS.Head1
import HandS.Head2
import HandS.HeadHook1
import PySem.Challenge.RW_nomiddle_k69_rows_handed_on
set_option Elab.async false
set_option linter.all false
set_option maxRecDepth 100000
set_option maxHeartbeats 4000000
/-! NmA: the evaluator over plain data (values without addresses, a heap that is a list). -/
namespace NM
open PySem

/-- a value: tuples are data, lists, dicts and instances stand in the heap -/
inductive AV where
  | non | bl (b : Bool) | int (i : Int) | str (s : List Nat) | tup (xs : List AV) | ref (n : Nat)
inductive AO where
  | lst (xs : List AV) | rol (xs : List AV) | dic (kvs : List (List Nat × AV)) | fdc (kvs : List (List Nat × AV)) | ins (C : Nat) (fs : List (Nat × AV))
abbrev Hh := List AO
inductive Res (α : Type) where
  | ok (a : α) (S : Hh) | exc (c : Nat) (vs : List AV) (S : Hh) | bad
def Res.bind {α β : Type} (m : Res α) (f : α → Hh → Res β) : Res β := match m with
  | .ok a S => f a S | .exc c v S => .exc c v S | .bad => .bad
@[simp] theorem bind_ok {α β : Type} (a : α) (S : Hh) (f : α → Hh → Res β) : (Res.ok a S).bind f = f a S := rfl
@[simp] theorem bind_exc {α β : Type} (c : Nat) (v : List AV) (S : Hh) (f : α → Hh → Res β) : (Res.exc c v S).bind f = .exc c v S := rfl
@[simp] theorem bind_bad {α β : Type} (f : α → Hh → Res β) : (Res.bad : Res α).bind f = .bad := rfl
theorem bind_of {α β : Type} {m : Res α} {f : α → Hh → Res β} {b : β} {S' : Hh} (h : m.bind f = .ok b S') : ∃ a S, m = .ok a S ∧ f a S = .ok b S' := by
  cases m with
  | ok a S => exact ⟨a, S, rfl, h⟩
  | exc c v S => cases h
  | bad => cases h
abbrev Ls := List (Option AV)

mutual
def AV.flat : AV → Bool
  | .ref _ => false
  | .tup xs => flatAll xs
  | _ => true
def flatAll : List AV → Bool
  | [] => true
  | x :: xs => x.flat && flatAll xs
end
/-- numbers that fit: what arithmetic asks -/
def mulOk (i j : Int) : Bool := (decide (-(2 ^ 64) < i) && decide (i < 2 ^ 64)) || (decide (-(2 ^ 64) < j) && decide (j < 2 ^ 64))

mutual
def aeq : AV → AV → Bool
  | .non, .non => true
  | .bl a, .bl b => a == b
  | .bl a, .int b => (if a then 1 else 0) == b
  | .int a, .bl b => a == (if b then 1 else 0)
  | .int a, .int b => a == b
  | .str a, .str b => a == b
  | .tup a, .tup b => aeqs a b
  | _, _ => false
def aeqs : List AV → List AV → Bool
  | [], [] => true
  | x :: xs, y :: ys => aeq x y && aeqs xs ys
  | _, _ => false
end
mutual
def AV.dp : Nat → AV → Bool
  | _, .ref _ => false
  | 0, .tup _ => false
  | n + 1, .tup xs => dpAll n xs
  | _, _ => true
def dpAll : Nat → List AV → Bool
  | _, [] => true
  | n, x :: xs => x.dp n && dpAll n xs
end
mutual
def toD : AV → PyData
  | .non => .none
  | .bl b => .bool b
  | .int i => .int i
  | .str s => .str ⟨s.toArray⟩
  | .tup xs => .tuple (toDs xs)
  | .ref _ => .none
def toDs : List AV → List PyData
  | [] => []
  | x :: xs => toD x :: toDs xs
end
def AV.atom : AV → Bool
  | .non => true | .bl _ => true | .int _ => true | .str _ => true | _ => false
def sca : AV → AV → Bool
  | .bl _, .int _ => false | .int _, .bl _ => false
  | x, y => x.atom && y.atom

def line : Nat := 1000000

def putN (f : Nat) (v : AV) : List (Nat × AV) → List (Nat × AV)
  | [] => [(f, v)]
  | (g, w) :: r => if g = f then (g, v) :: r else (g, w) :: putN f v r
def putD (k : List Nat) (v : AV) (kvs : List (List Nat × AV)) : List (List Nat × AV) :=
  if (kvs.any fun kv => decide (kv.1 = k)) = true then kvs.map (fun kv => if kv.1 = k then (kv.1, v) else kv) else kvs ++ [(k, v)]
def getD (kvs : List (List Nat × AV)) (k : List Nat) : Option AV := (kvs.find? fun kv => decide (kv.1 = k)).map (·.2)

def alloc (o : AO) (S : Hh) : Res AV := .ok (.ref S.length) (S ++ [o])
def AO.ro : AO → Option (List AV)
  | .lst xs => some xs | .rol xs => some xs | _ => none
/-- the items of a list or a tuple -/
def seqOf (v : AV) (S : Hh) : Option (List AV) := match v with
  | .tup xs => some xs
  | .ref n => (S[n]?).bind AO.ro
  | _ => none
def ixA {α : Type} (xs : List α) (i : Int) : Option α := if 0 ≤ i then xs[i.toNat]? else if -i ≤ (xs.length : Int) then xs[xs.length - (-i).toNat]? else none
/-- the places of a slice's ends -/
def sIx (n : Nat) (d : Nat) : Option Int → Nat
  | none => d
  | some i => if 0 ≤ i then min i.toNat n else (n - (-i).toNat)
def cutA {α : Type} (xs : List α) (lo hi : Option Int) : List α := (xs.take (sIx xs.length xs.length hi)).drop (sIx xs.length 0 lo)

inductive Op2 where | add | sub | mul | fdiv | mod | pow
inductive OpC where | eq | ne | lt | le | gt | ge | isN | notN | inn | notin
def bin2 : Op2 → AV → AV → Hh → Res AV
  | .add, .int i, .int j, S => .ok (.int (i + j)) S
  | .add, .str a, .str b, S => if a.length + b.length ≤ line then .ok (.str (a ++ b)) S else .bad
  | .add, .tup a, .tup b, S => if a.length + b.length ≤ line then .ok (.tup (a ++ b)) S else .bad
  | .add, .ref n, .ref m, S => match S[n]?, S[m]? with
    | some (.lst a), some (.lst b) => if a.length + b.length ≤ line then alloc (.lst (a ++ b)) S else .bad
    | _, _ => .bad
  | .sub, .int i, .int j, S => .ok (.int (i - j)) S
  | .mul, .int i, .int j, S => if mulOk i j then .ok (.int (i * j)) S else .bad
  | .mul, .str a, .int j, S => if a.length ≤ 1 ∧ 0 ≤ j ∧ j ≤ 1 then .ok (.str (List.replicate j.toNat a).flatten) S else .bad
  | .mul, .tup a, .int j, S => if a.isEmpty = false ∧ 2 ≤ j ∧ j ≤ 1000 ∧ a.length ≤ 1000 then .ok (.tup (List.replicate j.toNat a).flatten) S else .bad
  | .mul, .ref n, .int j, S => match S[n]? with
    | some (.lst a) => if -1000 ≤ j ∧ j ≤ 1000 ∧ a.length ≤ 1000 then alloc (.lst (List.replicate j.toNat a).flatten) S else .bad
    | _ => .bad
  | .fdiv, .int i, .int j, S => if 0 < j ∧ j < 1073741824 then .ok (.int (i / j)) S else .bad
  | .mod, .int i, .int j, S => if 0 < j then .ok (.int (i % j)) S else .bad
  | .pow, .int i, .int j, S => if 0 ≤ j ∧ j ≤ 100 ∧ i = 10 then .ok (.int (10 ^ j.toNat)) S else .bad
  | _, _, _, _ => .bad
/-- == as a truth -/
def eq2 (x y : AV) : Option Bool := if sca x y = true then some (aeq x y) else if (x.dp 60 && y.dp 60 && SeqAt.shaped (toD x) && SeqAt.shaped (toD y)) = true then some (aeq x y) else none
/-- x in y -/
def in2 (x y : AV) (S : Hh) : Option Bool := match y with
  | .ref n => match S[n]?, x with
    | some (.dic kvs), .str k => some (getD kvs k).isSome
    | some (.fdc kvs), .str k => some (getD kvs k).isSome
    | some (.lst xs), .str k => if xs.all (fun z => match z with | .str _ => true | _ => false) = true then some (xs.any fun z => aeq z (.str k)) else none
    | _, _ => none
  | .tup xs => match x with
    | .str k => if xs.all (fun z => match z with | .str _ => true | _ => false) = true then some (xs.any fun z => aeq z (.str k)) else none
    | _ => none
  | .str t => match x with
    | .str [c] => some (decide (c ∈ t))
    | _ => none
  | _ => none
def ofB (o : Option Bool) (neg : Bool) (S : Hh) : Res AV := match o with
  | some b => .ok (.bl (b != neg)) S
  | none => .bad
def isNon : AV → Bool
  | .non => true | _ => false
def cmp2 : OpC → AV → AV → Hh → Res AV
  | .eq, x, y, S => ofB (eq2 x y) false S
  | .ne, x, y, S => ofB (eq2 x y) true S
  | .lt, .int i, .int j, S => .ok (.bl (decide (i < j))) S
  | .le, .int i, .int j, S => .ok (.bl (decide (i ≤ j))) S
  | .gt, .int i, .int j, S => .ok (.bl (decide (j < i))) S
  | .ge, .int i, .int j, S => .ok (.bl (decide (j ≤ i))) S
  | .isN, x, .non, S => .ok (.bl (isNon x)) S
  | .notN, x, .non, S => .ok (.bl (!isNon x)) S
  | .inn, x, y, S => ofB (in2 x y S) false S
  | .notin, x, y, S => ofB (in2 x y S) true S
  | _, _, _, _ => .bad
def tru (x : AV) (S : Hh) : Res Bool := match x with
  | .non => .ok false S
  | .bl b => .ok b S
  | .int i => .ok (i != 0) S
  | _ => .bad
def idx2 (x i : AV) (S : Hh) : Res AV := match x, i with
  | .tup xs, .int i => match ixA xs i with | some v => .ok v S | none => .bad
  | .str t, .int i => if t.length ≤ line then (match ixA t i with | some c => .ok (.str [c]) S | none => .bad) else .bad
  | .ref n, .int i => match (S[n]?).bind AO.ro with
    | some xs => (match ixA xs i with | some v => .ok v S | none => .bad)
    | none => .bad
  | .ref n, .str k => match S[n]? with
    | some (.dic kvs) => (match getD kvs k with | some v => .ok v S | none => .bad)
    | some (.fdc kvs) => (match getD kvs k with | some v => .ok v S | none => .bad)
    | _ => .bad
  | _, _ => .bad
def slc2 (x : AV) (lo hi : Option Int) (S : Hh) : Res AV := match x with
  | .tup xs => .ok (.tup (cutA xs lo hi)) S
  | .str t => match lo, hi with
    | none, some i => if 0 ≤ i ∧ t.length ≤ line then .ok (.str (t.take i.toNat)) S else .bad
    | some i, none => if 0 ≤ i ∧ t.length ≤ line then .ok (.str (t.drop i.toNat)) S else .bad
    | _, _ => .bad
  | .ref n => match (S[n]?).bind AO.ro with
    | some xs => alloc (.lst (cutA xs lo hi)) S
    | none => .bad
  | _ => .bad
def getF (x : AV) (f : Nat) (S : Hh) : Res AV := match x with
  | .ref n => match S[n]? with
    | some (.ins _ fs) => (match fs.lookup f with | some v => .ok v S | none => .bad)
    | _ => .bad
  | _ => .bad
def clsOf (x : AV) (S : Hh) : Option Nat := match x with
  | .ref n => match S[n]? with | some (.ins C _) => some C | _ => none
  | _ => none
def setF (x : AV) (f : Nat) (v : AV) (S : Hh) : Res Unit := match x with
  | .ref n => match S[n]? with
    | some (.ins C fs) => if fs.length < 900 then .ok () (S.set n (.ins C (putN f v fs))) else .bad
    | _ => .bad
  | _ => .bad
def setI (x i v : AV) (S : Hh) : Res Unit := match x, i with
  | .ref n, .str k => match S[n]? with
    | some (.dic kvs) => if kvs.length < line then .ok () (S.set n (.dic (putD k v kvs))) else .bad
    | _ => .bad
  | _, _ => .bad
inductive Bi where | len | int | max2 | min2 | sum | tuple | list | dict | repr | str1
/-- the sum of ints -/
def sumI : List AV → Option Int
  | [] => some 0
  | .int i :: r => (sumI r).map (i + ·)
  | _ :: _ => none
def lenA (x : AV) (S : Hh) : Option Nat := match x with
  | .str t => if t.length ≤ line then some t.length else none
  | .tup xs => some xs.length
  | .ref n => match S[n]? with
    | some (.dic kvs) => some kvs.length
    | some (.lst xs) => some xs.length
    | some (.rol xs) => some xs.length
    | _ => none
  | _ => none
def on1 (vs : List AV) (f : AV → Res AV) : Res AV := match vs with
  | [x] => f x | _ => .bad
def on2 (vs : List AV) (f : AV → AV → Res AV) : Res AV := match vs with
  | [x, y] => f x y | _ => .bad
def biInt (x : AV) (S : Hh) : Res AV := match x with
  | .bl b => .ok (.int (if b then 1 else 0)) S
  | .int i => .ok (.int i) S
  | _ => .bad
def biMax (x y : AV) (S : Hh) : Res AV := match x, y with
  | .int i, .int j => .ok (.int (if j > i then j else i)) S
  | _, _ => .bad
def biMin (x y : AV) (S : Hh) : Res AV := match x, y with
  | .int i, .int j => .ok (.int (if j < i then j else i)) S
  | _, _ => .bad
def biSum (x : AV) (S : Hh) : Res AV := match x with
  | .ref n => match (S[n]?).bind AO.ro with
    | some xs => (match sumI xs with | some i => .ok (.int i) S | none => .bad)
    | none => .bad
  | _ => .bad
def biDict (x : AV) (S : Hh) : Res AV := match x with
  | .ref n => match S[n]? with | some (.dic kvs) => alloc (.dic kvs) S | _ => .bad
  | _ => .bad
def bi1 (b : Bi) (vs : List AV) (S : Hh) : Res AV := match b with
  | .len => on1 vs fun x => match lenA x S with | some n => .ok (.int n) S | none => .bad
  | .int => on1 vs fun x => biInt x S
  | .max2 => on2 vs fun x y => biMax x y S
  | .min2 => on2 vs fun x y => biMin x y S
  | .sum => on1 vs fun x => biSum x S
  | .tuple => on1 vs fun x => match seqOf x S with | some xs => .ok (.tup xs) S | none => .bad
  | .list => on1 vs fun x => match seqOf x S with | some xs => alloc (.lst xs) S | none => .bad
  | .dict => on1 vs fun x => biDict x S
  | .repr => on1 vs fun x => if (x.dp 60 && !x.atom && (toD x).showable && decide ((toD x).shown.length ≤ line)) = true then .ok (.str (toD x).shown.cps.toList) S else .bad
  | .str1 => .bad
inductive Bm where | append | extend | pop | join | update
def bmTy (m : Bm) (x : AV) (S : Hh) : Bool := match m, x with
  | .join, .str _ => true
  | .update, .ref n => match S[n]? with | some (.dic _) => true | _ => false
  | .append, .ref n => match S[n]? with | some (.lst _) => true | _ => false
  | .extend, .ref n => match S[n]? with | some (.lst _) => true | _ => false
  | .pop, .ref n => match S[n]? with | some (.lst _) => true | _ => false
  | _, _ => false
def strsOf : List AV → Option (List (List Nat))
  | [] => some []
  | .str s :: r => (strsOf r).map (s :: ·)
  | _ :: _ => none
def joinN (sep : List Nat) : List (List Nat) → List Nat
  | [] => []
  | [a] => a
  | a :: b :: r => a ++ sep ++ joinN sep (b :: r)
def onL (x : AV) (S : Hh) (f : Nat → List AV → Res AV) : Res AV := match x with
  | .ref n => match S[n]? with | some (.lst xs) => f n xs | _ => .bad
  | _ => .bad
def onD (x : AV) (S : Hh) (f : Nat → List (List Nat × AV) → Res AV) : Res AV := match x with
  | .ref n => match S[n]? with | some (.dic xs) => f n xs | _ => .bad
  | _ => .bad
def bmPop (x : AV) (vs : List AV) (S : Hh) : Res AV := match vs with
  | [] => onL x S fun n xs => match xs.getLast? with | some v => .ok v (S.set n (.lst xs.dropLast)) | none => .bad
  | _ => .bad
def bmJoin (x y : AV) (S : Hh) : Res AV := match x with
  | .str sep => match (seqOf y S).bind strsOf with
    | some ys => if (ys.map List.length).sum + ys.length * sep.length ≤ line then .ok (.str (joinN sep ys)) S else .bad
    | none => .bad
  | _ => .bad
def bm1 (m : Bm) (x : AV) (vs : List AV) (S : Hh) : Res AV := match m with
  | .append => on1 vs fun v => onL x S fun n xs => if xs.length < line then .ok .non (S.set n (.lst (xs ++ [v]))) else .bad
  | .extend => on1 vs fun v => onL x S fun n xs => onL v S fun _ ys => if xs.length + ys.length ≤ line then .ok .non (S.set n (.lst (xs ++ ys))) else .bad
  | .pop => bmPop x vs S
  | .join => on1 vs fun y => bmJoin x y S
  | .update => on1 vs fun v => onD x S fun n xs => onD v S fun m ys => if n ≠ m ∧ xs.length + ys.length ≤ line then .ok .non (S.set n (.dic (ys.foldl (fun a kv => putD kv.1 kv.2 a) xs))) else .bad

/-- the targets of loops and of unpacking: names and tuples of such -/
inductive Tg where | nm (i : Nat) | tp (ts : List Tg)
mutual
def asgT : Tg → AV → Ls → Hh → Option Ls
  | .nm i, v, ls, _ => some (ls.set i (some v))
  | .tp ts, v, ls, S => match v with
    | .tup xs => asgTs ts xs ls S
    | _ => none
def asgTs : List Tg → List AV → Ls → Hh → Option Ls
  | [], [], ls, _ => some ls
  | t :: ts, x :: xs, ls, S => (asgT t x ls S).bind fun ls' => asgTs ts xs ls' S
  | _, _, _, _ => none
end
def wipeA (ls : Ls) : List Nat → Ls
  | [] => ls
  | v :: vs => (wipeA ls vs).set v none

mutual
inductive E where
  | var (i : Nat) | cst (v : AV) | glob (v : AV)
  | bin (op : Op2) (a b : E) | neg (a : E)
  | cmp (op : OpC) (a b : E)
  | band (a b : E) | bor (a b : E) | bnot (a : E)
  | ifx (c : T) (a b : E)
  | tup (es : List E) | lst (es : List E) | dic (ks : List (List Nat)) (es : List E)
  | idx (a i : E) | slc (a : E) (lo hi : Option E)
  | call (f : Nat) (es : List E) (ds : List AV)
  | callk (f : Nat) (es ks : List E)
  | meth (m : Nat) (o : E) (es : List E)
  | make (c : Nat) (es : List E) (ds : List AV)
  | bi (b : Bi) (es : List E)
  | bm (m : Bm) (o : E) (es : List E)
  | isTup (a : E) | lrev (a : E)
  | fld (o : E) (f : Nat)
  | lc (elt : E) (tg : Tg) (it : It) (cs : List T) (own : List Nat)
  | dc (k v : E) (tg : Tg) (it : It) (cs : List T) (own : List Nat)
  | lock (i : Nat) (e : E)
inductive T where
  | val (e : E) | and (a b : T) | or (a b : T) | not (a : T)
inductive It where
  | val (e : E) | rng (es : List E) | enm (e : E) | zip (a b : E) | rev (e : E)
end

/-- what the world around gives: calls of defs, of methods, of classes' __init__ -/
structure Gam where
  fn : Nat → List AV → Hh → Res AV
  mt : Nat → Nat → List AV → Hh → Res AV
  ini : Nat → List AV → Hh → Res AV

abbrev Gd := List (Nat × AO)
open Classical in
noncomputable def gdOk (gs : Gd) (S : Hh) : Bool := gs.all fun g => decide (S[g.1]? = some g.2)
/-- the loop of a comprehension -/
noncomputable def lcGo (g : AV → Hh → Res (Option AV)) (gs : Gd) (D : Nat) : List AV → Hh → Res Unit
  | [], S => if gdOk gs S = true then .ok () S else .bad
  | x :: xs, S => if gdOk gs S = true then (g x S).bind fun r S1 => match r with
      | none => lcGo g gs D xs S1
      | some y => match S1[D]? with
        | some (.lst acc) => if acc.length < line then lcGo g gs D xs (S1.set D (.lst (acc ++ [y]))) else .bad
        | _ => .bad
    else .bad
noncomputable def dcGo (g : AV → Hh → Res (Option (AV × AV))) (gs : Gd) (D : Nat) : List AV → Hh → Res Unit
  | [], S => if gdOk gs S = true then .ok () S else .bad
  | x :: xs, S => if gdOk gs S = true then (g x S).bind fun r S1 => match r with
      | none => dcGo g gs D xs S1
      | some (k, y) => match k, S1[D]? with
        | .str k, some (.dic kvs) => if kvs.length < line then dcGo g gs D xs (S1.set D (.dic (putD k y kvs))) else .bad
        | _, _ => .bad
    else .bad
def enumA (i : Nat) : List AV → List AV
  | [] => []
  | x :: xs => .tup [.int i, x] :: enumA (i + 1) xs
def zipA : List AV → List AV → List AV
  | x :: xs, y :: ys => .tup [x, y] :: zipA xs ys
  | _, _ => []
/-- what is walked, and what must stand while it is -/
def walkN (v : AV) (S : Hh) : Option (List AV × Gd) := match v with
  | .tup xs => some (xs, [])
  | .ref n => match S[n]? with
    | some (.lst xs) => some (xs, [(n, .lst xs)])
    | some (.rol xs) => some (xs, [(n, .rol xs)])
    | _ => none
  | _ => none
def walkF (v : AV) (S : Hh) : Option (List AV × Gd) := match v with
  | .ref n => match S[n]? with
    | some (.fdc kvs) => some (kvs.map fun kv => .str kv.1, [(n, .fdc kvs)])
    | _ => none
  | _ => none
def walkOf (v : AV) (S : Hh) : Option (List AV × Gd) := (walkN v S).or (walkF v S)
def rngA (lo : Int) (n : Nat) : List AV := (List.range n).map fun i => .int (lo + (i : Nat))

mutual
noncomputable def ev (G : Gam) : E → Ls → Hh → Res AV
  | .var i, ls, S => match ls[i]? with | some (some v) => .ok v S | _ => .bad
  | .cst v, _, S => .ok v S
  | .glob v, _, S => .ok v S
  | .bin op a b, ls, S => (ev G a ls S).bind fun x S1 => (ev G b ls S1).bind fun y S2 => bin2 op x y S2
  | .neg a, ls, S => (ev G a ls S).bind fun x S1 => match x with | .int i => .ok (.int (-i)) S1 | _ => .bad
  | .cmp op a b, ls, S => (ev G a ls S).bind fun x S1 => (ev G b ls S1).bind fun y S2 => cmp2 op x y S2
  | .band a b, ls, S => (ev G a ls S).bind fun x S1 => match x with | .bl true => ev G b ls S1 | .bl false => .ok (.bl false) S1 | _ => .bad
  | .bor a b, ls, S => (ev G a ls S).bind fun x S1 => match x with | .bl true => .ok (.bl true) S1 | .bl false => ev G b ls S1 | _ => .bad
  | .bnot a, ls, S => (ev G a ls S).bind fun x S1 => match x with | .bl b => .ok (.bl (!b)) S1 | _ => .bad
  | .ifx c a b, ls, S => (evT G c ls S).bind fun t S1 => if t = true then ev G a ls S1 else ev G b ls S1
  | .tup es, ls, S => (evs G es ls S).bind fun vs S1 => .ok (.tup vs) S1
  | .lst es, ls, S => (evs G es ls S).bind fun vs S1 => alloc (.lst vs) S1
  | .dic ks es, ls, S => (evs G es ls (S ++ [.dic []])).bind fun vs S1 => match S1[S.length]? with
      | some (.dic []) => .ok (.ref S.length) (S1.set S.length (.dic ((ks.zip vs).foldl (fun a kv => putD kv.1 kv.2 a) [])))
      | _ => .bad
  | .idx a i, ls, S => (ev G a ls S).bind fun x S1 => (ev G i ls S1).bind fun y S2 => idx2 x y S2
  | .slc a lo hi, ls, S => (ev G a ls S).bind fun x S1 => (evO G lo ls S1).bind fun l S2 => (evO G hi ls S2).bind fun h S3 => slc2 x l h S3
  | .call f es ds, ls, S => (evs G es ls S).bind fun vs S1 => G.fn f (vs ++ ds) S1
  | .callk f es ks, ls, S => (evs G es ls S).bind fun vs S1 => (evs G ks ls S1).bind fun zs S2 => G.fn f (vs ++ zs) S2
  | .meth m o es, ls, S => (ev G o ls S).bind fun x S1 => match x with
      | .ref n => match S1[n]? with
        | some (.ins C _) => (evs G es ls S1).bind fun vs S2 => G.mt C m (x :: vs) S2
        | _ => .bad
      | _ => .bad
  | .make c es ds, ls, S => (evs G es ls S).bind fun vs S1 => (G.ini c (.ref S1.length :: (vs ++ ds)) (S1 ++ [.ins c []])).bind fun r S2 => match r with
      | .non => .ok (.ref S1.length) S2
      | _ => .bad
  | .bi b es, ls, S => (evs G es ls S).bind fun vs S1 => bi1 b vs S1
  | .bm m o es, ls, S => (ev G o ls S).bind fun x S1 => if bmTy m x S1 = true then (evs G es ls S1).bind fun vs S2 => bm1 m x vs S2 else .bad
  | .isTup a, ls, S => (ev G a ls S).bind fun x S1 => match x with
      | .ref _ => .bad
      | .tup _ => .ok (.bl true) S1
      | _ => .ok (.bl false) S1
  | .lrev a, ls, S => (ev G a ls S).bind fun x S1 => match x with
      | .ref n => match S1[n]? with
        | some (.lst xs) => alloc (.lst xs.reverse) S1
        | _ => .bad
      | _ => .bad
  | .fld o f, ls, S => (ev G o ls S).bind fun x S1 => getF x f S1
  | .lc elt tg it cs own, ls, S => (evIt G it ls S).bind fun w S1 =>
      (lcGo (fun x S => match asgT tg x (wipeA ls own) S with
        | some ls' => (evTs G cs ls' S).bind fun b S => if b = true then (ev G elt ls' S).bind fun y S => .ok (some y) S else .ok none S
        | none => .bad) w.2 S1.length w.1 (S1 ++ [.lst []])).bind fun _ S2 => .ok (.ref S1.length) S2
  | .dc k v tg it cs own, ls, S => (evIt G it ls S).bind fun w S1 =>
      (dcGo (fun x S => match asgT tg x (wipeA ls own) S with
        | some ls' => (evTs G cs ls' S).bind fun b S => if b = true then (ev G k ls' S).bind fun kk S => (ev G v ls' S).bind fun y S => .ok (some (kk, y)) S else .ok none S
        | none => .bad) w.2 S1.length w.1 (S1 ++ [.dic []])).bind fun _ S2 => .ok (.ref S1.length) S2
  | .lock i e, ls, S => match ls[i]? with
      | some (some (.ref n)) => match S[n]? with
        | some (.dic kvs) => (ev G e ls (S.set n (.fdc kvs))).bind fun v S1 => open Classical in if S1[n]? = some (.fdc kvs) then .ok v (S1.set n (.dic kvs)) else .bad
        | _ => .bad
      | _ => .bad
noncomputable def evs (G : Gam) : List E → Ls → Hh → Res (List AV)
  | [], _, S => .ok [] S
  | e :: es, ls, S => (ev G e ls S).bind fun x S1 => (evs G es ls S1).bind fun xs S2 => .ok (x :: xs) S2
noncomputable def evO (G : Gam) : Option E → Ls → Hh → Res (Option Int)
  | none, _, S => .ok none S
  | some e, ls, S => (ev G e ls S).bind fun x S1 => match x with | .int i => .ok (some i) S1 | _ => .bad
noncomputable def evT (G : Gam) : T → Ls → Hh → Res Bool
  | .val e, ls, S => (ev G e ls S).bind fun x S1 => tru x S1
  | .and a b, ls, S => (evT G a ls S).bind fun t S1 => if t = true then evT G b ls S1 else .ok false S1
  | .or a b, ls, S => (evT G a ls S).bind fun t S1 => if t = true then .ok true S1 else evT G b ls S1
  | .not a, ls, S => (evT G a ls S).bind fun t S1 => .ok (!t) S1
noncomputable def evTs (G : Gam) : List T → Ls → Hh → Res Bool
  | [], _, S => .ok true S
  | c :: cs, ls, S => (evT G c ls S).bind fun t S1 => if t = true then evTs G cs ls S1 else .ok false S1
noncomputable def evIt (G : Gam) : It → Ls → Hh → Res (List AV × Gd)
  | .val e, ls, S => (ev G e ls S).bind fun x S1 => match walkOf x S1 with | some w => .ok w S1 | none => .bad
  | .rng es, ls, S => (evs G es ls S).bind fun vs S1 => match vs with
      | [.int j] => if -line < j ∧ j < line then .ok (rngA 0 j.toNat, []) S1 else .bad
      | [.int i, .int j] => if -line < i ∧ i < line ∧ -line < j ∧ j < line then .ok (rngA i (j - i).toNat, []) S1 else .bad
      | _ => .bad
  | .enm e, ls, S => (ev G e ls S).bind fun x S1 => match walkN x S1 with | some w => .ok (enumA 0 w.1, w.2) S1 | none => .bad
  | .zip a b, ls, S => (ev G a ls S).bind fun x S1 => (ev G b ls S1).bind fun y S2 => match walkN x S2, walkN y S2 with
      | some w, some z => .ok (zipA w.1 z.1, w.2 ++ z.2) S2
      | _, _ => .bad
  | .rev e, ls, S => (ev G e ls S).bind fun x S1 => match walkN x S1 with | some w => .ok (w.1.reverse, w.2) S1 | none => .bad
end

/-! ### statements -/
inductive L where
  | nm (i : Nat) | tp (ts : List Tg) | fld (o : E) (f : Nat) | idx (o i : E) | slcFrom (o lo : E)
inductive C where
  | asg (t : L) (e : E) | asg2 (t u : L) (e : E)
  | augN (i : Nat) (op : Op2) (e : E) | augF (o : E) (f : Nat) (op : Op2) (e : E)
  | expr (e : E) | ret (e : E) | retN | pass
  | ifs (c : T) (a b : List C)
  | whl (c : T) (b : List C)
  | forr (tg : Tg) (it : It) (b : List C)
  | brk | cont | never | lockS (i : Nat) (c : C)
inductive Fl where | nx | rt (v : AV) | bk | ct

noncomputable def asgL (G : Gam) : L → AV → Ls → Hh → Res Ls
  | .nm i, v, ls, S => .ok (ls.set i (some v)) S
  | .tp ts, v, ls, S => match asgT (.tp ts) v ls S with | some ls' => .ok ls' S | none => .bad
  | .fld o f, v, ls, S => (ev G o ls S).bind fun x S1 => (setF x f v S1).bind fun _ S2 => .ok ls S2
  | .idx o i, v, ls, S => (ev G o ls S).bind fun x S1 => (ev G i ls S1).bind fun y S2 => (setI x y v S2).bind fun _ S3 => .ok ls S3
  | .slcFrom o lo, v, ls, S => (ev G o ls S).bind fun x S1 => (ev G lo ls S1).bind fun y S2 => match x, y, v with
      | .ref n, .int a, .ref m => match S2[n]?, S2[m]? with
        | some (.lst xs), some (.lst ys) => if n ≠ m ∧ 0 ≤ a ∧ a ≤ xs.length ∧ xs.length + ys.length ≤ line then .ok ls (S2.set n (.lst (xs.take a.toNat ++ ys))) else .bad
        | _, _ => .bad
      | _, _, _ => .bad
/-- a while, by its turns -/
inductive Wh (c : Ls → Hh → Res Bool) (b : Ls → Hh → Res (Fl × Ls)) : Nat → Ls → Hh → Fl × Ls → Hh → Prop
  | done {ls S S1} : c ls S = .ok false S1 → Wh c b 0 ls S (.nx, ls) S1
  | next {n ls S S1 ls1 S2 r S3} : c ls S = .ok true S1 → b ls S1 = .ok (.nx, ls1) S2 → Wh c b n ls1 S2 r S3 → Wh c b (n + 1) ls S r S3
  | cont {n ls S S1 ls1 S2 r S3} : c ls S = .ok true S1 → b ls S1 = .ok (.ct, ls1) S2 → Wh c b n ls1 S2 r S3 → Wh c b (n + 1) ls S r S3
  | brk {ls S S1 ls1 S2} : c ls S = .ok true S1 → b ls S1 = .ok (.bk, ls1) S2 → Wh c b 1 ls S (.nx, ls1) S2
  | ret {ls S S1 ls1 S2 v} : c ls S = .ok true S1 → b ls S1 = .ok (.rt v, ls1) S2 → Wh c b 1 ls S (.rt v, ls1) S2
open Classical in
noncomputable def whR (c : Ls → Hh → Res Bool) (b : Ls → Hh → Res (Fl × Ls)) (ls : Ls) (S : Hh) : Res (Fl × Ls) :=
  if h : ∃ p : Nat × (Fl × Ls) × Hh, Wh c b p.1 ls S p.2.1 p.2.2 then .ok h.choose.2.1 h.choose.2.2 else .bad
/-- a for, by its items -/
noncomputable def forGo (g : AV → Ls → Hh → Res (Fl × Ls)) (gs : Gd) : List AV → Ls → Hh → Res (Fl × Ls)
  | [], ls, S => if gdOk gs S = true then .ok (.nx, ls) S else .bad
  | x :: xs, ls, S => if gdOk gs S = true then (g x ls S).bind fun r S1 => match r with
      | (.nx, ls') => forGo g gs xs ls' S1
      | (.ct, ls') => forGo g gs xs ls' S1
      | (.bk, ls') => .ok (.nx, ls') S1
      | (.rt v, ls') => .ok (.rt v, ls') S1
    else .bad
mutual
noncomputable def evC (G : Gam) : C → Ls → Hh → Res (Fl × Ls)
  | .asg t e, ls, S => (ev G e ls S).bind fun v S1 => (asgL G t v ls S1).bind fun ls' S2 => .ok (.nx, ls') S2
  | .asg2 t u e, ls, S => (ev G e ls S).bind fun v S1 => (asgL G t v ls S1).bind fun ls' S2 => (asgL G u v ls' S2).bind fun ls'' S3 => .ok (.nx, ls'') S3
  | .augN i op e, ls, S => match ls[i]? with
      | some (some (.int x)) => (ev G e ls S).bind fun y S1 => match y, op with
        | .int y, .add => .ok (.nx, ls.set i (some (.int (x + y)))) S1
        | .int y, .sub => .ok (.nx, ls.set i (some (.int (x - y)))) S1
        | _, _ => .bad
      | _ => .bad
  | .augF o f op e, ls, S => (ev G o ls S).bind fun x S1 => (getF x f S1).bind fun a S2 => (ev G e ls S2).bind fun y S3 => if clsOf x S2 = clsOf x S3 then match a, y, op with
      | .int a, .int y, .add => (setF x f (.int (a + y)) S3).bind fun _ S4 => .ok (.nx, ls) S4
      | .int a, .int y, .sub => (setF x f (.int (a - y)) S3).bind fun _ S4 => .ok (.nx, ls) S4
      | _, _, _ => .bad
      else .bad
  | .expr e, ls, S => (ev G e ls S).bind fun _ S1 => .ok (.nx, ls) S1
  | .ret e, ls, S => (ev G e ls S).bind fun v S1 => .ok (.rt v, ls) S1
  | .retN, ls, S => .ok (.rt .non, ls) S
  | .pass, ls, S => .ok (.nx, ls) S
  | .ifs c a b, ls, S => (evT G c ls S).bind fun t S1 => if t = true then evCs G a ls S1 else evCs G b ls S1
  | .whl c b, ls, S => whR (evT G c) (evCs G b) ls S
  | .forr tg it b, ls, S => (evIt G it ls S).bind fun w S1 =>
      forGo (fun x ls S => match asgT tg x ls S with | some ls' => evCs G b ls' S | none => .bad) w.2 w.1 ls S1
  | .brk, ls, S => .ok (.bk, ls) S
  | .cont, ls, S => .ok (.ct, ls) S
  | .never, _, _ => .bad
  | .lockS i c, ls, S => match ls[i]? with
      | some (some (.ref n)) => match S[n]? with
        | some (.dic kvs) => (evC G c ls (S.set n (.fdc kvs))).bind fun r S1 => open Classical in if S1[n]? = some (.fdc kvs) then .ok r (S1.set n (.dic kvs)) else .bad
        | _ => .bad
      | _ => .bad
noncomputable def evCs (G : Gam) : List C → Ls → Hh → Res (Fl × Ls)
  | [], ls, S => .ok (.nx, ls) S
  | c :: cs, ls, S => (evC G c ls S).bind fun r S1 => match r with
      | (.nx, ls') => evCs G cs ls' S1
      | r => .ok r S1
end
open Classical in
noncomputable def sweep (S : Hh) (v : AV) (S' : Hh) : Res AV := if v.flat = true ∧ S'.take S.length = S then .ok v S else .ok v S'
structure Fn where
  np : Nat
  nl : Nat
  body : List C
noncomputable def runF (G : Gam) (F : Fn) (vs : List AV) (S : Hh) : Res AV :=
  if vs.length = F.np then (evCs G F.body (vs.map some ++ List.replicate (F.nl - F.np) none) S).bind fun r S' => match r with
    | (.rt v, _) => sweep S v S'
    | (.nx, _) => sweep S .non S'
    | _ => .bad
  else .bad
/-- the program: its defs by number, methods by class and number, classes' __init__ -/
structure Tbl where
  fn : Nat → Option Fn
  mt : Nat → Nat → Option Nat
  ini : Nat → Option Nat
/-- the world of a body: p answers its calls, q the classes' __init__ -/
def gam (t : Tbl) (p q : Nat → List AV → Hh → Res AV) : Gam := ⟨p, fun C m vs S => (match t.mt C m with | some f => p f vs S | none => .bad), fun c vs S => (match t.ini c with | some f => q f vs S | none => .bad)⟩
noncomputable def phi (t : Tbl) : Nat → Nat → List AV → Hh → Res AV
  | 0, _, _, _ => .bad
  | 1, _, _, _ => .bad
  | k + 2, f, vs, S => match t.fn f with
    | some F => runF (gam t (phi t (k + 1)) (phi t k)) F vs S
    | none => .bad
end NM
set_option Elab.async false
set_option linter.all false
set_option maxRecDepth 100000
set_option maxHeartbeats 4000000
/-! NmB: how plain data lies in the abstract heap; the judgements by data. -/
namespace NM
open PySem PySem.Spec L2

abbrev sS (l : List Nat) : Str := ⟨l.toArray⟩
theorem sS_inj {a b : List Nat} (h : sS a = sS b) : a = b := congrArg (fun x : Str => x.cps.toList) h
theorem sS_len (a : List Nat) : (sS a).length = a.length := by simp [sS, Str.length]
/-- the names of the attributes, the classes' places -/
structure Nam where
  cls : Nat → Addr
  fn : Nat → Str
  inj : ∀ f g, fn f = fn g → f = g

section
variable (K : PySem.W.Frag) (H : Hp) (as : List Addr)
inductive RA : AV → V → Prop
  | non : RA .non .non
  | bl (b : Bool) : RA (.bl b) (.bl b)
  | int (i : Int) : RA (.int i) (.int i)
  | str (s : List Nat) : RA (.str s) (.str (sS s))
  | ref {n : Nat} {a : Addr} : as[n]? = some a → RA (.ref n) (.ref a)
  | tup {xs : List AV} {vs : List V} {a : Addr} : SqT K H a vs → xs.length = vs.length → (∀ (i : Nat) (x : AV) (v : V), xs[i]? = some x → vs[i]? = some v → RA x v) → RA (.tup xs) (.ref a)
end
abbrev RL (K : PySem.W.Frag) (H : Hp) (as : List Addr) : List AV → List V → Prop := Paired (RA K H as)
theorem prd_of {α β : Type} {R : α → β → Prop} : ∀ {xs : List α} {ys : List β}, xs.length = ys.length → (∀ (i : Nat) (x : α) (y : β), xs[i]? = some x → ys[i]? = some y → R x y) → Paired R xs ys
  | [], [], _, _ => .nil
  | x :: xs, y :: ys, hl, h => .cons (h 0 x y rfl rfl) (prd_of (by simpa using hl) fun i a b e f => h (i + 1) a b (by simpa using e) (by simpa using f))
  | [], _ :: _, hl, _ => by simp at hl
  | _ :: _, [], hl, _ => by simp at hl
theorem prd_get {α β : Type} {R : α → β → Prop} : ∀ {xs : List α} {ys : List β}, Paired R xs ys → ∀ (i : Nat) (x : α) (y : β), xs[i]? = some x → ys[i]? = some y → R x y
  | _, _, .nil, i, x, y, e, _ => by simp at e
  | _, _, .cons r t, 0, x, y, e, f => by simp at e f; subst e; subst f; exact r
  | _, _, .cons r t, i + 1, x, y, e, f => prd_get t i x y (by simpa using e) (by simpa using f)
theorem prd_len {α β : Type} {R : α → β → Prop} {xs : List α} {ys : List β} (h : Paired R xs ys) : xs.length = ys.length := Paired.length h
theorem prd_imp {α β : Type} {R R' : α → β → Prop} : ∀ {xs : List α} {ys : List β}, Paired R xs ys → (∀ x y, R x y → R' x y) → Paired R' xs ys
  | _, _, .nil, _ => .nil
  | _, _, .cons r t, h => .cons (h _ _ r) (prd_imp t h)
theorem prd_app {α β : Type} {R : α → β → Prop} : ∀ {xs xs' : List α} {ys ys' : List β}, Paired R xs ys → Paired R xs' ys' → Paired R (xs ++ xs') (ys ++ ys')
  | _, _, _, _, .nil, s => s
  | _, _, _, _, .cons r t, s => .cons r (prd_app t s)
theorem prd_take {α β : Type} {R : α → β → Prop} : ∀ (n : Nat) {xs : List α} {ys : List β}, Paired R xs ys → Paired R (xs.take n) (ys.take n)
  | 0, _, _, _ => by simp; exact .nil
  | n + 1, _, _, .nil => by simp; exact .nil
  | n + 1, _, _, .cons r t => by simp only [List.take_succ_cons]; exact .cons r (prd_take n t)
theorem prd_drop {α β : Type} {R : α → β → Prop} : ∀ (n : Nat) {xs : List α} {ys : List β}, Paired R xs ys → Paired R (xs.drop n) (ys.drop n)
  | 0, _, _, h => by simpa using h
  | n + 1, _, _, .nil => by simp; exact .nil
  | n + 1, _, _, .cons r t => by simp only [List.drop_succ_cons]; exact prd_drop n t
theorem prd_rep {α β : Type} {R : α → β → Prop} {xs : List α} {ys : List β} (h : Paired R xs ys) : ∀ n : Nat, Paired R (List.replicate n xs).flatten (List.replicate n ys).flatten
  | 0 => .nil
  | n + 1 => by simp only [List.replicate_succ, List.flatten_cons]; exact prd_app h (prd_rep h n)
theorem prd_rev {α β : Type} {R : α → β → Prop} : ∀ {xs : List α} {ys : List β}, Paired R xs ys → Paired R xs.reverse ys.reverse
  | _, _, .nil => .nil
  | _, _, .cons r t => by simp only [List.reverse_cons]; exact prd_app (prd_rev t) (.cons r .nil)
theorem prd_some {α β : Type} {R : α → β → Prop} {xs : List α} {ys : List β} (h : Paired R xs ys) {i : Nat} {x : α} (e : xs[i]? = some x) : ∃ y, ys[i]? = some y ∧ R x y := by
  have hi := (List.getElem?_eq_some_iff.mp e).1
  have hl := prd_len h
  exact ⟨ys[i]'(by omega), by simp [show i < ys.length by omega], prd_get h i x _ e (by simp [show i < ys.length by omega])⟩
theorem prd_none {α β : Type} {R : α → β → Prop} {xs : List α} {ys : List β} (h : Paired R xs ys) {i : Nat} (e : xs[i]? = none) : ys[i]? = none := by
  have hl := prd_len h
  have := List.getElem?_eq_none_iff.mp e
  exact List.getElem?_eq_none_iff.mpr (by omega)
theorem prd_isEmpty {α β : Type} {R : α → β → Prop} {xs : List α} {ys : List β} (h : Paired R xs ys) : xs.isEmpty = ys.isEmpty := by cases h <;> rfl

section
variable {K : PySem.W.Frag} {H H' H2 : Hp} {as as' as2 : List Addr}
theorem RA.of_tup {xs : List AV} {v : V} (h : RA K H as (.tup xs) v) : ∃ a vs, v = .ref a ∧ SqT K H a vs ∧ RL K H as xs vs := by
  cases h with
  | tup s l k => exact ⟨_, _, rfl, s, prd_of l k⟩
theorem RA.mk_tup {xs : List AV} {vs : List V} {a : Addr} (s : SqT K H a vs) (r : RL K H as xs vs) : RA K H as (.tup xs) (.ref a) := .tup s (prd_len r) (prd_get r)
structure Ext (K : PySem.W.Frag) (H : Hp) (as : List Addr) (H' : Hp) (as' : List Addr) : Prop where
  pre : ∀ (n : Nat) (a : Addr), as[n]? = some a → as'[n]? = some a
  tup : ∀ a xs, SqT K H a xs → SqT K H' a xs
  frz : ∀ a o u, H a = some (.frz o u) → H' a = some (.frz o u)
theorem Ext.refl : Ext K H as H as := ⟨fun _ _ h => h, fun _ _ h => h, fun _ _ _ h => h⟩
theorem Ext.trans (a : Ext K H as H' as') (b : Ext K H' as' H2 as2) : Ext K H as H2 as2 := ⟨fun n x h => b.pre n x (a.pre n x h), fun n x h => b.tup n x (a.tup n x h), fun n o u h => b.frz n o u (a.frz n o u h)⟩
/-- a place that may be written: no tuple, nothing locked -/
structure Wr (H : Hp) (p : Addr) : Prop where
  tup : ∀ xs, ¬ Rd H p (.tup xs)
  frz : ∀ o u, H p ≠ some (.frz o u)
theorem RA.mono (e : Ext K H as H' as') {x : AV} {v : V} (h : RA K H as x v) : RA K H' as' x v := by
  induction h with
  | non => exact .non
  | bl b => exact .bl b
  | int i => exact .int i
  | str s => exact .str s
  | ref h => exact .ref (e.pre _ _ h)
  | tup s l k ih => exact .tup (e.tup _ _ s) l ih
theorem RL.mono (e : Ext K H as H' as') {xs : List AV} {vs : List V} (h : RL K H as xs vs) : RL K H' as' xs vs := prd_imp h fun _ _ => RA.mono e
/-- the slots -/
structure RS (K : PySem.W.Frag) (H : Hp) (as : List Addr) (ls : Ls) (σ : St) : Prop where
  len : ls.length = σ.length
  at_ : ∀ (i : Nat) (x : AV), ls[i]? = some (some x) → ∃ v, σ[i]? = some (some v) ∧ RA K H as x v
theorem RS.mono (e : Ext K H as H' as') {ls : Ls} {σ : St} (h : RS K H as ls σ) : RS K H' as' ls σ := ⟨h.len, fun i x q => let ⟨v, a, b⟩ := h.at_ i x q; ⟨v, a, b.mono e⟩⟩
theorem RS.set {ls : Ls} {σ : St} (h : RS K H as ls σ) (i : Nat) {x : AV} {v : V} (r : RA K H as x v) : RS K H as (ls.set i (some x)) (σ.set i (some v)) := by
  refine ⟨by simp [h.len], fun j y e => ?_⟩
  by_cases hj : i = j
  · subst hj
    by_cases hi : i < ls.length
    · rw [List.getElem?_set_self hi] at e
      cases e
      exact ⟨v, by rw [List.getElem?_set_self (by rw [← h.len]; exact hi)], r⟩
    · rw [List.getElem?_eq_none (by simpa using hi)] at e; cases e
  · rw [List.getElem?_set_ne hj] at e ⊢
    exact h.at_ j y e
theorem RS.wipe {ls : Ls} {σ : St} (h : RS K H as ls σ) : ∀ own : List Nat, RS K H as (wipeA ls own) (wipe σ own)
  | [] => h
  | v :: vs => by
    have ih := RS.wipe h vs
    refine ⟨by simp [wipeA, L2.wipe, ih.len], fun j y e => ?_⟩
    unfold wipeA at e
    unfold L2.wipe
    by_cases hj : v = j
    · subst hj
      by_cases hi : v < (wipeA ls vs).length
      · rw [List.getElem?_set_self hi] at e; cases e
      · rw [List.getElem?_eq_none (by simpa using hi)] at e; cases e
    · rw [List.getElem?_set_ne hj] at e ⊢
      exact ih.at_ j y e
end

/-- an object -/
def RO (N : Nam) (K : PySem.W.Frag) (H : Hp) (as : List Addr) (a : Addr) : AO → Prop
  | .lst xs => ∃ vs, H a = some (.lst vs) ∧ RL K H as xs vs
  | .rol xs => (∃ o vs, H a = some (.frz o (.lst vs)) ∧ RL K H as xs vs) ∨ ∃ (vs : List V) (o : Obj) (its : Array Value) (n : Nat), (K.lookup a = some o ∧ o.cls = .type "list" ∧ o.dict = none ∧ o.data = .seq its n ∧ its.size ≤ sizeLine ∧ Vals vs its.toList) ∧ RL K H as xs vs
  | .dic kvs => ∃ vs, H a = some (.dK vs) ∧ Paired (fun (p : List Nat × AV) (q : Key × V) => q.1 = .inr (sS p.1) ∧ RA K H as p.2 q.2) kvs vs
  | .fdc kvs => ∃ o vs, H a = some (.frz o (.dK vs)) ∧ Paired (fun (p : List Nat × AV) (q : Key × V) => q.1 = .inr (sS p.1) ∧ RA K H as p.2 q.2) kvs vs
  | .ins C fs => ∃ dx vs, H a = some (.ins (N.cls C) dx vs) ∧ Paired (fun (p : Nat × AV) (q : Str × V) => q.1 = N.fn p.1 ∧ RA K H as p.2 q.2) fs vs
def AO.isRol : AO → Bool
  | .rol _ => true | _ => false
structure RH (N : Nam) (K : PySem.W.Frag) (H : Hp) (as : List Addr) (S : Hh) : Prop where
  len : as.length = S.length
  ob : ∀ (n : Nat) (a : Addr) (o : AO), as[n]? = some a → S[n]? = some o → RO N K H as a o
  nd : ∀ (n m : Nat) (a : Addr) (o o' : AO), as[n]? = some a → as[m]? = some a → S[n]? = some o → S[m]? = some o' → o.isRol = false → o'.isRol = false → n = m
section
variable {N : Nam} {K : PySem.W.Frag} {H H' : Hp} {as as' : List Addr} {S : Hh}
theorem RH.addr (r : RH N K H as S) {n : Nat} {o : AO} (h : S[n]? = some o) : ∃ a, as[n]? = some a ∧ RO N K H as a o := by
  have hn := (List.getElem?_eq_some_iff.mp h).1
  have hl := r.len
  refine ⟨as[n]'(by omega), by simp [show n < as.length by omega], r.ob n _ o (by simp [show n < as.length by omega]) h⟩
/-- an object's word is kept where its own object, and the tuples, are kept -/
theorem RO.mono (e : Ext K H as H' as') {a : Addr} (ha : H' a = H a) {o : AO} (h : RO N K H as a o) : RO N K H' as' a o := by
  cases o with
  | lst xs => obtain ⟨vs, p, q⟩ := h; exact ⟨vs, by rw [ha]; exact p, q.mono e⟩
  | rol xs =>
    rcases h with ⟨o, vs, p, q⟩ | ⟨vs, o, its, n, p, q⟩
    · exact .inl ⟨o, vs, by rw [ha]; exact p, q.mono e⟩
    · exact .inr ⟨vs, o, its, n, p, q.mono e⟩
  | dic kvs => obtain ⟨vs, p, q⟩ := h; exact ⟨vs, by rw [ha]; exact p, prd_imp q fun _ _ z => ⟨z.1, z.2.mono e⟩⟩
  | fdc kvs => obtain ⟨o, vs, p, q⟩ := h; exact ⟨o, vs, by rw [ha]; exact p, prd_imp q fun _ _ z => ⟨z.1, z.2.mono e⟩⟩
  | ins C fs => obtain ⟨dx, vs, p, q⟩ := h; exact ⟨dx, vs, by rw [ha]; exact p, prd_imp q fun _ _ z => ⟨z.1, z.2.mono e⟩⟩
/-- .. of a rol that lies in the written part -/
theorem RO.rolK (e : Ext K H as H' as') {a : Addr} {xs : List AV} (h : RO N K H as a (.rol xs)) (hn : ∀ o vs, H a = some (.frz o (.lst vs)) → H' a = H a) : RO N K H' as' a (.rol xs) := by
  rcases h with ⟨o, vs, p, q⟩ | ⟨vs, o, its, n, p, q⟩
  · exact .inl ⟨o, vs, by rw [hn o vs p]; exact p, q.mono e⟩
  · exact .inr ⟨vs, o, its, n, p, q.mono e⟩
theorem sqT_upd {p : Addr} {u : HO} (hp : ∀ xs, ¬ Rd H p (.tup xs)) {a : Addr} {xs : List V} (h : SqT K H a xs) : SqT K (upd H p u) a xs := by
  rcases h with h | h
  · refine .inl ?_
    have hne : a ≠ p := fun z => by subst z; exact hp _ h
    rcases h with h | ⟨o, h⟩
    · exact .inl (by rw [upd_ne hne]; exact h)
    · exact .inr ⟨o, by rw [upd_ne hne]; exact h⟩
  · exact .inr h
theorem sqL_upd {p : Addr} {u : HO} (hp : ∀ xs, ¬ Rd H p (.lst xs)) {a : Addr} {xs : List V} (h : SqL K H a xs) : SqL K (upd H p u) a xs := by
  rcases h with h | h
  · refine .inl ?_
    have hne : a ≠ p := fun z => by subst z; exact hp _ h
    rcases h with h | ⟨o, h⟩
    · exact .inl (by rw [upd_ne hne]; exact h)
    · exact .inr ⟨o, by rw [upd_ne hne]; exact h⟩
  · exact .inr h
theorem noRd {p : Addr} (h : H p = none) (u : HO) : ¬ Rd H p u := fun z => by
  rcases z with z | ⟨o, z⟩ <;> rw [h] at z <;> cases z
theorem Wr.none {p : Addr} (h : H p = none) : Wr H p := ⟨fun xs => noRd h _, fun o u z => by rw [h] at z; cases z⟩
theorem Ext.new {p : Addr} {u : HO} (hp : H p = none) (more : List Addr) : Ext K H as (upd H p u) (as ++ more) :=
  ⟨fun n a h => by rw [List.getElem?_append_left (List.getElem?_eq_some_iff.mp h).1]; exact h, fun a xs h => sqT_upd (fun xs => noRd hp _) h, fun a o w h => by rw [upd_ne (fun z => by rw [z, hp] at h; cases h)]; exact h⟩
theorem Ext.same {p : Addr} {u : HO} (hp : Wr H p) : Ext K H as (upd H p u) as := ⟨fun _ _ h => h, fun a xs h => sqT_upd hp.tup h, fun a o w h => by rw [upd_ne (fun z => hp.frz o w (by rw [← z]; exact h))]; exact h⟩
/-- no tracked object stands where nothing stood -/
theorem RO.there {a : Addr} {o : AO} (h : RO N K H as a o) (hr : o.isRol = false) : H a ≠ none := by
  cases o with
  | lst xs => obtain ⟨vs, p, q⟩ := h; rw [p]; simp
  | rol xs => cases hr
  | dic kvs => obtain ⟨vs, p, q⟩ := h; rw [p]; simp
  | fdc kvs => obtain ⟨o, vs, p, q⟩ := h; rw [p]; simp
  | ins C fs => obtain ⟨dx, vs, p, q⟩ := h; rw [p]; simp
theorem RH.alloc (r : RH N K H as S) {p : Addr} {u : HO} (hp : H p = none) {o : AO} (hr : o.isRol = false) (new : RO N K (upd H p u) (as ++ [p]) p o) : RH N K (upd H p u) (as ++ [p]) (S ++ [o]) := by
  have e : Ext K H as (upd H p u) (as ++ [p]) := Ext.new hp _
  have hl := r.len
  refine ⟨by simp [r.len], fun n a o' h1 h2 => ?_, fun n m a o1 o2 h1 h2 h3 h4 h5 h6 => ?_⟩
  · by_cases hn : n < S.length
    · rw [List.getElem?_append_left (by omega)] at h1
      rw [List.getElem?_append_left hn] at h2
      have q := r.ob n a o' h1 h2
      cases o' with
      | rol xs => exact RO.rolK e q fun ob vs z => upd_ne fun w => by rw [w, hp] at z; cases z
      | _ => exact q.mono e (upd_ne fun w => q.there rfl (by rw [w]; exact hp))
    · have : n = S.length := by
        have := (List.getElem?_eq_some_iff.mp h2).1
        simp at this; omega
      subst this
      rw [List.getElem?_append_right (Nat.le_refl _)] at h2
      rw [← hl, List.getElem?_append_right (Nat.le_refl _)] at h1
      simp at h1 h2
      subst h1; subst h2
      exact new
  · have key : ∀ (k : Nat) (o' : AO), (as ++ [p])[k]? = some a → (S ++ [o])[k]? = some o' → o'.isRol = false → (k < S.length ∧ as[k]? = some a ∧ S[k]? = some o' ∧ a ≠ p) ∨ (k = S.length ∧ a = p) := fun k o' k1 k2 k3 => by
      by_cases hk : k < S.length
      · rw [List.getElem?_append_left (by omega)] at k1
        rw [List.getElem?_append_left hk] at k2
        exact .inl ⟨hk, k1, k2, fun w => (r.ob k a o' k1 k2).there k3 (by rw [w]; exact hp)⟩
      · have : k = S.length := by
          have := (List.getElem?_eq_some_iff.mp k2).1
          simp at this; omega
        subst this
        rw [← hl, List.getElem?_append_right (Nat.le_refl _)] at k1
        simp at k1
        exact .inr ⟨rfl, k1.symm⟩
    rcases key n o1 h1 h3 h5 with ⟨a1, a2, a3, a4⟩ | ⟨a1, a2⟩ <;> rcases key m o2 h2 h4 h6 with ⟨b1, b2, b3, b4⟩ | ⟨b1, b2⟩
    · exact r.nd n m a o1 o2 a2 b2 a3 b3 h5 h6
    · exact absurd b2 a4
    · exact absurd a2 b4
    · rw [a1, b1]
/-- a tuple laid (no object of ours) -/
theorem RH.laid (r : RH N K H as S) {p : Addr} {u : HO} (hp : H p = none) : RH N K (upd H p u) as S := by
  have e : Ext K H as (upd H p u) as := Ext.same (Wr.none hp)
  refine ⟨r.len, fun n a o h1 h2 => ?_, r.nd⟩
  have q := r.ob n a o h1 h2
  cases o with
  | rol xs => exact RO.rolK e q fun ob vs z => upd_ne fun w => by rw [w, hp] at z; cases z
  | _ => exact q.mono e (upd_ne fun w => q.there rfl (by rw [w]; exact hp))
/-- an object changed -/
theorem RH.write (r : RH N K H as S) {n : Nat} {a : Addr} {o o' : AO} {u : HO} (ha : as[n]? = some a) (ho : S[n]? = some o) (hr : o.isRol = false) (hr' : o'.isRol = false) (ht : Wr H a) (hf : ∀ ob vs, H a ≠ some (.frz ob (.lst vs)))
    (new : RO N K (upd H a u) as a o') : RH N K (upd H a u) as (S.set n o') ∧ Ext K H as (upd H a u) as := by
  have e : Ext K H as (upd H a u) as := Ext.same ht
  have hn := (List.getElem?_eq_some_iff.mp ho).1
  have look : ∀ (m : Nat) (o2 : AO), (S.set n o')[m]? = some o2 → (m = n ∧ o2 = o') ∨ (m ≠ n ∧ S[m]? = some o2) := fun m o2 h => by
    by_cases hm : n = m
    · subst hm; rw [List.getElem?_set_self hn] at h; cases h; exact .inl ⟨rfl, rfl⟩
    · rw [List.getElem?_set_ne hm] at h; exact .inr ⟨Ne.symm hm, h⟩
  refine ⟨⟨by simp [r.len], fun m b o2 h1 h2 => ?_, fun m k b o1 o2 h1 h2 h3 h4 h5 h6 => ?_⟩, e⟩
  · rcases look m o2 h2 with ⟨rfl, rfl⟩ | ⟨hm, h2⟩
    · rw [ha] at h1; cases h1; exact new
    · have q := r.ob m b o2 h1 h2
      cases o2 with
      | rol xs => exact RO.rolK e q fun ob vs z => upd_ne fun w => hf ob vs (by rw [← w]; exact z)
      | _ => exact q.mono e (upd_ne fun w => hm (r.nd m n a _ o (by rw [← w]; exact h1) ha h2 ho rfl hr))
  · rcases look m o1 h3 with ⟨e1, _⟩ | ⟨_, q3⟩ <;> rcases look k o2 h4 with ⟨e2, _⟩ | ⟨_, q4⟩
    · rw [e1, e2]
    · subst e1; exact r.nd _ _ b o o2 h1 h2 ho q4 hr h6
    · subst e2; exact r.nd _ _ b o1 o h1 h2 q3 ho h5 hr
    · exact r.nd _ _ b o1 o2 h1 h2 q3 q4 h5 h6
end
end NM
set_option Elab.async false
set_option linter.all false
set_option maxRecDepth 100000
set_option maxHeartbeats 4000000
/-! NmC: expressions by data. -/
namespace NM
open PySem PySem.Spec L2

section
variable (N : Nam) (K : PySem.W.Frag)
def Fin (H : Hp) (as : List Addr) (S' : Hh) (v : AV) (Q : VK) : Prop := ∀ H' as' v', Ext K H as H' as' → RH N K H' as' S' → RA K H' as' v v' → Q v' H'
def tD (f : Ls → Hh → Res AV) : TE := fun σ H Q => ∃ as ls S v S', RH N K H as S ∧ RS K H as ls σ ∧ f ls S = .ok v S' ∧ Fin N K H as S' v Q
def tDT (f : Ls → Hh → Res Bool) : TT := fun σ H Q => ∃ as ls S b S', RH N K H as S ∧ RS K H as ls σ ∧ f ls S = .ok b S' ∧ ∀ H' as', Ext K H as H' as' → RH N K H' as' S' → Q b H'
def tDA (f : Ls → Hh → Res (List AV)) : TA := fun σ H Q => ∃ as ls S vs S', RH N K H as S ∧ RS K H as ls σ ∧ f ls S = .ok vs S' ∧ ∀ H' as' vs', Ext K H as H' as' → RH N K H' as' S' → RL K H' as' vs vs' → Q vs' H'
def tDO (f : Ls → Hh → Res (Option Int)) : TO := fun σ H Q => ∃ as ls S o S', RH N K H as S ∧ RS K H as ls σ ∧ f ls S = .ok o S' ∧ ∀ H' as', Ext K H as H' as' → RH N K H' as' S' → Q o H'
/-- what follows a value -/
def tK (k : AV → Ls → Hh → Res AV) (x' : V) : TE := fun σ H Q => ∃ as ls S x v S', RH N K H as S ∧ RS K H as ls σ ∧ RA K H as x x' ∧ k x ls S = .ok v S' ∧ Fin N K H as S' v Q
def rD1 (h : AV → Hh → Res AV) : V → Hp → VK → Prop := fun x' H Q => ∃ as S x v S', RH N K H as S ∧ RA K H as x x' ∧ h x S = .ok v S' ∧ Fin N K H as S' v Q
def rD2 (h : AV → AV → Hh → Res AV) : R2 := fun x' y' H Q => ∃ as S x y v S', RH N K H as S ∧ RA K H as x x' ∧ RA K H as y y' ∧ h x y S = .ok v S' ∧ Fin N K H as S' v Q
def rDL (h : List AV → Hh → Res AV) : List V → Hp → VK → Prop := fun xs' H Q => ∃ as S xs v S', RH N K H as S ∧ RL K H as xs xs' ∧ h xs S = .ok v S' ∧ Fin N K H as S' v Q
def rDM (h : AV → List AV → Hh → Res AV) : V → List V → Hp → VK → Prop := fun x' xs' H Q => ∃ as S x xs v S', RH N K H as S ∧ RA K H as x x' ∧ RL K H as xs xs' ∧ h x xs S = .ok v S' ∧ Fin N K H as S' v Q
end
section
variable {N : Nam} {K : PySem.W.Frag} {H H' : Hp} {as as' : List Addr} {S S' : Hh} {σ : L2.St} {Q : VK}
theorem Fin.from {v : AV} (h : Fin N K H as S' v Q) (e : Ext K H as H' as') : Fin N K H' as' S' v Q := fun H2 as2 v' e2 r ra => h H2 as2 v' (e.trans e2) r ra
theorem Fin.now {v : AV} {v' : V} (h : Fin N K H as S v Q) (r : RH N K H as S) (ra : RA K H as v v') : Q v' H := h H as v' Ext.refl r ra
/-- a new object that we track -/
theorem Fin.obj {o : AO} {u : HO} (h : Fin N K H as (S ++ [o]) (.ref S.length) Q) (r : RH N K H as S) {p : Addr} (hp : H p = none) (hr : o.isRol = false) (new : RO N K (upd H p u) (as ++ [p]) p o) : Q (.ref p) (upd H p u) :=
  h _ (as ++ [p]) _ (Ext.new hp _) (r.alloc hp hr new) (.ref (by rw [← r.len]; simp))
/-- a new tuple -/
theorem Fin.tupl {xs : List AV} {vs : List V} (h : Fin N K H as S (.tup xs) Q) (r : RH N K H as S) {p : Addr} (hp : H p = none) (rl : RL K H as xs vs) : Q (.ref p) (upd H p (.tup vs)) :=
  have e : Ext K H as (upd H p (.tup vs)) as := Ext.same (Wr.none hp)
  h _ as _ e (r.laid hp) (RA.mk_tup (SqT.of upd_same) (rl.mono e))

theorem tD_seq {f : Ls → Hh → Res AV} {k : AV → Ls → Hh → Res AV} (h : tD N K (fun ls S => (f ls S).bind fun x S1 => k x ls S1) σ H Q) : tD N K f σ H fun x' H1 => tK N K k x' σ H1 Q := by
  obtain ⟨as, ls, S, v, S', r, rs, e, q⟩ := h
  obtain ⟨x, S1, e1, e2⟩ := bind_of e
  exact ⟨as, ls, S, x, S1, r, rs, e1, fun H1 as1 x' ex r1 ra => ⟨as1, ls, S1, x, v, S', r1, rs.mono ex, ra, e2, q.from ex⟩⟩
theorem tK_seq {g : Ls → Hh → Res AV} {k : AV → AV → Hh → Res AV} {x' : V} (h : tK N K (fun x ls S => (g ls S).bind fun y S1 => k x y S1) x' σ H Q) : tD N K g σ H fun y' H1 => rD2 N K k x' y' H1 Q := by
  obtain ⟨as, ls, S, x, v, S', r, rs, rx, e, q⟩ := h
  obtain ⟨y, S1, e1, e2⟩ := bind_of e
  exact ⟨as, ls, S, y, S1, r, rs, e1, fun H1 as1 y' ex r1 ra => ⟨as1, S1, x, y, v, S', r1, rx.mono ex, ra, e2, q.from ex⟩⟩
theorem tK_one {k : AV → Hh → Res AV} {x' : V} (h : tK N K (fun x _ S => k x S) x' σ H Q) : rD1 N K k x' H Q := by
  obtain ⟨as, ls, S, x, v, S', r, rs, rx, e, q⟩ := h
  exact ⟨as, S, x, v, S', r, rx, e, q⟩
end

theorem PE.imp {X : Cx} {e : Expr} {t t' : TE} (h : PE X e t) (i : ∀ σ H Q, t' σ H Q → t σ H Q) : PE X e t' := ⟨fun pins s σ H Q I q => h.run pins s σ H Q I (i σ H Q q)⟩
theorem PT.imp {X : Cx} {e : Expr} {t t' : TT} (h : PT X e t) (i : ∀ σ H Q, t' σ H Q → t σ H Q) : PT X e t' := ⟨fun pins s σ H Q I q => h.run pins s σ H Q I (i σ H Q q)⟩
theorem PW.imp {X : Cx} {e : Expr} {t t' : TT} (h : PW X e t) (i : ∀ σ H Q, t' σ H Q → t σ H Q) : PW X e t' := ⟨fun wh pins s σ H Q I q => h.run wh pins s σ H Q I (i σ H Q q)⟩
theorem PA.imp {X : Cx} {es : List Expr} {t t' : TA} (h : PA X es t) (i : ∀ σ H Q, t' σ H Q → t σ H Q) : PA X es t' := ⟨fun pos pins s σ H Q I q => h.run pos pins s σ H Q I (i σ H Q q)⟩
theorem PO.imp {X : Cx} {e : Option Expr} {t t' : TO} (h : PO X e t) (i : ∀ σ H Q, t' σ H Q → t σ H Q) : PO X e t' := ⟨fun pins s σ H Q I q => h.run pins s σ H Q I (i σ H Q q)⟩
theorem PS.imp {X : Cx} {e : Stmt} {t t' : TS} (h : PS X e t) (i : ∀ D σ H, t' D σ H → t D σ H) : PS X e t' := ⟨fun pins s σ H D I q => h.run pins s σ H D I (i D σ H q)⟩
theorem PSs.imp {X : Cx} {e : List Stmt} {t t' : TS} (h : PSs X e t) (i : ∀ D σ H, t' D σ H → t D σ H) : PSs X e t' := ⟨fun pins s σ H D I q => h.run pins s σ H D I (i D σ H q)⟩

/-! ### the judgements -/
section
variable (N : Nam) (G : Gam)
def DE (X : Cx) (e : Expr) (c : E) : Prop := PE X e (tD N X.K (ev G c))
def DT (X : Cx) (e : Expr) (c : T) : Prop := PT X e (tDT N X.K (evT G c))
def DW (X : Cx) (e : Expr) (c : T) : Prop := PW X e (tDT N X.K (evT G c))
def DA (X : Cx) (es : List Expr) (cs : List E) : Prop := PA X es (tDA N X.K (evs G cs))
def DO (X : Cx) (e : Option Expr) (c : Option E) : Prop := PO X e (tDO N X.K (evO G c))
end
section
variable {N : Nam} {G : Gam} {X : Cx} {a b c : Expr} {ca cb : E} {pos p : Pos} {es : List Expr} {cs : List E}

theorem de_var {i : Nat} {x : Str} (hN : X.N[i]? = some x) (hv : Vis X.env.scope x) (hd : (x == ("__debug__" : Str)) = false := by decide) (hcd : (x == ("__classdict__" : Str)) = false := by decide) : DE N G X (.Name x pos) (.var i) := by
  refine PE.imp (pe_var hN hv hd hcd) fun σ H Q h => ?_
  obtain ⟨as, ls, S, v, S', r, rs, e, q⟩ := h
  simp only [ev] at e
  split at e
  · rename_i w hw
    cases e
    obtain ⟨v', h1, h2⟩ := rs.at_ i _ hw
    exact ⟨v', h1, q.now r h2⟩
  · cases e
theorem de_cst {e : Expr} {v : AV} {v' : V} (h : PE X e (tC v')) (ra : ∀ H as, RA X.K H as v v') : DE N G X e (.cst v) := by
  refine PE.imp h fun σ H Q h => ?_
  obtain ⟨as, ls, S, w, S', r, rs, e, q⟩ := h
  cases e
  exact q.now r (ra H as)
theorem de_int {i j} : DE N G X (.Constant (.int i) j pos) (.cst (.int i)) := de_cst pe_int fun _ _ => .int i
theorem de_bl {i j} : DE N G X (.Constant (.bool i) j pos) (.cst (.bl i)) := de_cst pe_bl fun _ _ => .bl i
theorem de_non {j} : DE N G X (.Constant .none j pos) (.cst .non) := de_cst pe_non fun _ _ => .non
theorem de_str {x : Str} {l : List Nat} {j} (h : x = sS l := by rfl) : DE N G X (.Constant (.str x) j pos) (.cst (.str l)) := de_cst (h ▸ pe_str) fun _ _ => .str l
theorem de_glob {x : Str} {v : AV} {v' : V} {u : Value} (hg : Gl X x) (hm : X.mg x = some u) (rv : RelV v' u) (ra : ∀ H as, RA X.K H as v v') (hd : (x == ("__debug__" : Str)) = false := by decide) : DE N G X (.Name x pos) (.glob v) := by
  refine PE.imp (pe_glob hg hm rv hd) fun σ H Q h => ?_
  obtain ⟨as, ls, S, w, S', r, rs, e, q⟩ := h
  cases e
  exact q.now r (ra H as)

/-! operators by values -/
theorem de_bin {op : Operator} {o : Op2} (h : OpR X (binaryOp op) (rD2 N X.K (bin2 o))) (ha : DE N G X a ca) (hb : DE N G X b cb) : DE N G X (.BinOp a op b pos) (.bin o ca cb) :=
  PE.imp (pe_op h ha hb) fun σ H Q q => by
    obtain ⟨as, ls, S, v, S', r, rs, e, k⟩ := tD_seq (f := ev G ca) (k := fun x ls S => (ev G cb ls S).bind fun y S1 => bin2 o x y S1) q
    exact ⟨as, ls, S, v, S', r, rs, e, fun H' as' v' ex rr ra => tK_seq (k H' as' v' ex rr ra)⟩
theorem de_cmp {op : CmpOp} {o : OpC} (h : OpR X (compareOp op) (rD2 N X.K (cmp2 o))) (ha : DE N G X a ca) (hb : DE N G X b cb) (hm : behindInMarks op b = false := by rfl) : DE N G X (.Compare a [op] [b] pos) (.cmp o ca cb) :=
  PE.imp (pe_cmpR h ha hb hm) fun σ H Q q => by
    obtain ⟨as, ls, S, v, S', r, rs, e, k⟩ := tD_seq (f := ev G ca) (k := fun x ls S => (ev G cb ls S).bind fun y S1 => cmp2 o x y S1) q
    exact ⟨as, ls, S, v, S', r, rs, e, fun H' as' v' ex rr ra => tK_seq (k H' as' v' ex rr ra)⟩
theorem de_neg (ha : DE N G X a ca) : DE N G X (.UnaryOp .USub a pos) (.neg ca) :=
  PE.imp (pe_un un_neg ha) fun σ H Q q => by
    obtain ⟨as, ls, S, v, S', r, rs, e, k⟩ := tD_seq (f := ev G ca) (k := fun x ls S => match x with | .int i => .ok (.int (-i)) S | _ => .bad) q
    refine ⟨as, ls, S, v, S', r, rs, e, fun H' as' v' ex rr ra => ?_⟩
    obtain ⟨as2, ls2, S2, x, w, S3, r2, rs2, rx, e2, k2⟩ := k H' as' v' ex rr ra
    cases rx with
    | int i => cases e2; exact ⟨i, rfl, k2.now r2 (.int _)⟩
    | _ => cases e2
theorem de_bnot (ha : DE N G X a ca) : DE N G X (.UnaryOp .Not a pos) (.bnot ca) :=
  PE.imp (pe_not ha) fun σ H Q q => by
    obtain ⟨as, ls, S, v, S', r, rs, e, k⟩ := tD_seq (f := ev G ca) (k := fun x ls S => match x with | .bl b => .ok (.bl (!b)) S | _ => .bad) q
    refine ⟨as, ls, S, v, S', r, rs, e, fun H' as' v' ex rr ra => ?_⟩
    obtain ⟨as2, ls2, S2, x, w, S3, r2, rs2, rx, e2, k2⟩ := k H' as' v' ex rr ra
    cases rx with
    | bl i => cases e2; exact ⟨i, rfl, k2.now r2 (.bl _)⟩
    | _ => cases e2
theorem de_one {op} (ha : DE N G X a ca) : DE N G X (.BoolOp op [a] pos) ca := pe_one ha
theorem de_band (ha : DE N G X a ca) (hb : DE N G X (.BoolOp .And (b :: es) pos) cb) : DE N G X (.BoolOp .And (a :: b :: es) pos) (.band ca cb) :=
  PE.imp (pe_and ha hb) fun σ H Q q => by
    obtain ⟨as, ls, S, v, S', r, rs, e, k⟩ := tD_seq (f := ev G ca) (k := fun x ls S1 => match x with | .bl true => ev G cb ls S1 | .bl false => .ok (.bl false) S1 | _ => .bad) q
    refine ⟨as, ls, S, v, S', r, rs, e, fun H' as' v' ex rr ra => ?_⟩
    obtain ⟨as2, ls2, S2, x, w, S3, r2, rs2, rx, e2, k2⟩ := k H' as' v' ex rr ra
    cases rx with
    | bl i =>
      cases i with
      | true => exact ⟨true, rfl, as2, ls2, S2, w, S3, r2, rs2, e2, k2⟩
      | false => cases e2; exact ⟨false, rfl, k2.now r2 (.bl _)⟩
    | _ => cases e2
theorem de_bor (ha : DE N G X a ca) (hb : DE N G X (.BoolOp .Or (b :: es) pos) cb) : DE N G X (.BoolOp .Or (a :: b :: es) pos) (.bor ca cb) :=
  PE.imp (pe_or ha hb) fun σ H Q q => by
    obtain ⟨as, ls, S, v, S', r, rs, e, k⟩ := tD_seq (f := ev G ca) (k := fun x ls S1 => match x with | .bl true => .ok (.bl true) S1 | .bl false => ev G cb ls S1 | _ => .bad) q
    refine ⟨as, ls, S, v, S', r, rs, e, fun H' as' v' ex rr ra => ?_⟩
    obtain ⟨as2, ls2, S2, x, w, S3, r2, rs2, rx, e2, k2⟩ := k H' as' v' ex rr ra
    cases rx with
    | bl i =>
      cases i with
      | false => exact ⟨false, rfl, as2, ls2, S2, w, S3, r2, rs2, e2, k2⟩
      | true => cases e2; exact ⟨true, rfl, k2.now r2 (.bl _)⟩
    | _ => cases e2
theorem de_ifx {ct : T} (hc : DT N G X c ct) (ha : DE N G X a ca) (hb : DE N G X b cb) : DE N G X (.IfExp c a b pos) (.ifx ct ca cb) :=
  PE.imp (pe_ifExp hc ha hb) fun σ H Q q => by
    obtain ⟨as, ls, S, v, S', r, rs, e, k⟩ := q
    simp only [ev] at e
    obtain ⟨t, S1, e1, e2⟩ := bind_of e
    refine ⟨as, ls, S, t, S1, r, rs, e1, fun H' as' ex rr => ?_⟩
    cases t with
    | true => exact ⟨as', ls, S1, v, S', rr, rs.mono ex, e2, k.from ex⟩
    | false => exact ⟨as', ls, S1, v, S', rr, rs.mono ex, e2, k.from ex⟩

/-! tests -/
theorem dt_val (ha : DE N G X a ca) (he : ∀ whole, isTrue a X.env whole = (do let v ← whole; standAt a.pos; holding [v] (truthy v)) := by intro _; rfl) : DT N G X a (.val ca) :=
  PT.imp (pt_truth ha he) fun σ H Q q => by
    obtain ⟨as, ls, S, b, S', r, rs, e, k⟩ := q
    simp only [evT] at e
    obtain ⟨x, S1, e1, e2⟩ := bind_of e
    refine ⟨as, ls, S, x, S1, r, rs, e1, fun H' as' x' ex rr ra => ?_⟩
    cases ra with
    | non => cases e2; exact ⟨false, rfl, k _ _ ex rr⟩
    | bl i => cases e2; exact ⟨_, rfl, k _ _ ex rr⟩
    | int i => cases e2; exact ⟨_, rfl, k _ _ ex rr⟩
    | _ => cases e2
/-- a comparison as a test -/
theorem dt_cmp {op : CmpOp} {o : OpC} (h : OpR X (compareOp op) (rD2 N X.K (cmp2 o))) (ha : DE N G X a ca) (hb : DE N G X b cb) (hm : behindInMarks op b = false := by rfl) : DT N G X (.Compare a [op] [b] pos) (.val (.cmp o ca cb)) :=
  PT.imp (pt_cmpR h ha hb hm) fun σ H Q q => by
    obtain ⟨as, ls, S, t, S', r, rs, e, k⟩ := q
    simp only [evT] at e
    obtain ⟨x, S1, e1, e2⟩ := bind_of e
    have hb : ∃ i, x = .bl i ∧ i = t ∧ S1 = S' := by
      have hx : ∃ i, x = .bl i := by
        simp only [ev] at e1
        obtain ⟨y, S2, e3, e4⟩ := bind_of e1
        obtain ⟨z, S3, e5, e6⟩ := bind_of e4
        have ofb : ∀ o n S, ofB o n S = .ok x S1 → ∃ i, x = AV.bl i := fun o n S h => by
          cases o with
          | none => cases h
          | some b => cases h; exact ⟨_, rfl⟩
        cases o <;> cases y <;> cases z <;> simp only [cmp2] at e6 <;> first | exact ofb _ _ _ e6 | (cases e6; exact ⟨_, rfl⟩) | cases e6
      obtain ⟨i, rfl⟩ := hx
      cases e2
      exact ⟨_, rfl, rfl, rfl⟩
    obtain ⟨i, rfl, rfl, rfl⟩ := hb
    have q2 : tD N X.K (ev G (.cmp o ca cb)) σ H fun v' H' => v' = .bl i ∧ Q i H' := ⟨as, ls, S, .bl i, _, r, rs, e1, fun H' as' v' ex rr ra => by cases ra; exact ⟨rfl, k _ _ ex rr⟩⟩
    obtain ⟨as1, ls1, S1', v1, S2', r1, rs1, e3, k1⟩ := tD_seq (f := ev G ca) (k := fun x ls S => (ev G cb ls S).bind fun y S1 => cmp2 o x y S1) q2
    have fin : ∀ {x' y' : V} {H2 : Hp} {Q2 : VK}, (∀ v' H', Q2 v' H' → ∃ k, v' = V.bl k ∧ Q k H') → rD2 N X.K (cmp2 o) x' y' H2 Q2 → rD2 N X.K (cmp2 o) x' y' H2 fun z H' => ∃ k, z = V.bl k ∧ Q k H' := fun hq ⟨as, S, x, y, v, S', a1, a2, a3, a4, a5⟩ => ⟨as, S, x, y, v, S', a1, a2, a3, a4, fun H' as' v' ex rr ra => hq _ _ (a5 H' as' v' ex rr ra)⟩
    refine ⟨as1, ls1, S1', v1, S2', r1, rs1, e3, fun H' as' v' ex rr ra => ?_⟩
    obtain ⟨as2, ls2, S2, v2, S3, r2, rs2, e4, k2⟩ := tK_seq (k1 H' as' v' ex rr ra)
    exact ⟨as2, ls2, S2, v2, S3, r2, rs2, e4, fun H' as' v' ex rr ra => fin (fun v' H' ⟨z1, z2⟩ => ⟨i, z1, z2⟩) (k2 H' as' v' ex rr ra)⟩
theorem dt_not {ct : T} (ha : DT N G X a ct) : DT N G X (.UnaryOp .Not a pos) (.not ct) :=
  PT.imp (pt_not ha) fun σ H Q q => by
    obtain ⟨as, ls, S, b, S', r, rs, e, k⟩ := q
    simp only [evT] at e
    obtain ⟨t, S1, e1, e2⟩ := bind_of e
    cases e2
    exact ⟨as, ls, S, t, _, r, rs, e1, fun H' as' ex rr => k H' as' ex rr⟩
theorem dw_and1 {ct : T} (ha : DT N G X a ct) : DW N G X (.BoolOp .And [a] pos) ct := pw_and1 ha
theorem dw_or1 {ct : T} (ha : DT N G X a ct) : DW N G X (.BoolOp .Or [a] pos) ct := pw_or1 ha
theorem dt_w {ct : T} (h : DW N G X a ct) : DT N G X a ct := PW.pt h
theorem dw_and {ct cu : T} (ha : DT N G X a ct) (hb : DW N G X (.BoolOp .And (b :: es) pos) cu) : DW N G X (.BoolOp .And (a :: b :: es) pos) (.and ct cu) :=
  PW.imp (pw_and ha hb) fun σ H Q q => by
    obtain ⟨as, ls, S, b, S', r, rs, e, k⟩ := q
    simp only [evT] at e
    obtain ⟨t, S1, e1, e2⟩ := bind_of e
    refine ⟨as, ls, S, t, S1, r, rs, e1, fun H' as' ex rr => ?_⟩
    cases t with
    | true => exact ⟨as', ls, S1, b, S', rr, rs.mono ex, e2, fun H2 as2 e2 => k H2 as2 (ex.trans e2)⟩
    | false => cases e2; exact k H' as' ex rr
theorem dw_or {ct cu : T} (ha : DT N G X a ct) (hb : DW N G X (.BoolOp .Or (b :: es) pos) cu) : DW N G X (.BoolOp .Or (a :: b :: es) pos) (.or ct cu) :=
  PW.imp (pw_or ha hb) fun σ H Q q => by
    obtain ⟨as, ls, S, b, S', r, rs, e, k⟩ := q
    simp only [evT] at e
    obtain ⟨t, S1, e1, e2⟩ := bind_of e
    refine ⟨as, ls, S, t, S1, r, rs, e1, fun H' as' ex rr => ?_⟩
    cases t with
    | false => exact ⟨as', ls, S1, b, S', rr, rs.mono ex, e2, fun H2 as2 e2 => k H2 as2 (ex.trans e2)⟩
    | true => cases e2; exact k H' as' ex rr

/-! argument lists, displays -/
theorem da_nil : DA N G X [] [] := PA.imp pa_nil fun σ H Q q => by
  obtain ⟨as, ls, S, vs, S', r, rs, e, k⟩ := q
  cases e
  exact k H as [] Ext.refl r .nil
theorem da_cons (ha : DE N G X a ca) (hr : DA N G X es cs) (hs : starEach (a :: es) X.env = (false, eval a X.env) :: starEach es X.env := by rfl) : DA N G X (a :: es) (ca :: cs) :=
  PA.imp (pa_cons ha hr hs) fun σ H Q q => by
    obtain ⟨as, ls, S, vs, S', r, rs, e, k⟩ := q
    simp only [evs] at e
    obtain ⟨x, S1, e1, e2⟩ := bind_of e
    obtain ⟨xs, S2, e3, e4⟩ := bind_of e2
    cases e4
    refine ⟨as, ls, S, x, S1, r, rs, e1, fun H1 as1 x' ex rr ra => ⟨as1, ls, S1, xs, _, rr, rs.mono ex, e3, fun H2 as2 xs' ex2 rr2 rl => ?_⟩⟩
    exact k H2 as2 _ (ex.trans ex2) rr2 (.cons (ra.mono ex2) rl)
theorem evs_len {ls : Ls} : ∀ {cs : List E} {S : Hh} {vs : List AV} {S' : Hh}, evs G cs ls S = .ok vs S' → vs.length = cs.length
  | [], _, _, _, e => by cases e; rfl
  | c :: cs, S, vs, S', e => by
    simp only [evs] at e
    obtain ⟨x, S1, e1, e2⟩ := bind_of e
    obtain ⟨xs, S2, e3, e4⟩ := bind_of e2
    cases e4
    simp [evs_len e3]
theorem small_line {n : Nat} (h : n ≤ 4000000) : n ≤ sizeLine := by rw [sizeLine_eq]; omega
theorem small_line' {n : Nat} (h : n ≤ 4000000) : n < sizeLine := by rw [sizeLine_eq]; omega
theorem de_tup {k} (h : DA N G X es cs) (hl : cs.length ≤ 1000 := by decide) : DE N G X (.Tuple es k pos) (.tup cs) :=
  PE.imp (pe_tup h) fun σ H Q q => by
    obtain ⟨as, ls, S, v, S', r, rs, e, k⟩ := q
    simp only [ev] at e
    obtain ⟨vs, S1, e1, e2⟩ := bind_of e
    cases e2
    refine ⟨as, ls, S, vs, _, r, rs, e1, fun H1 as1 vs' ex rr rl => ⟨small_line ?_, fun p hp => ?_⟩⟩
    · have h1 := prd_len rl; have h2 := evs_len e1; omega
    · exact (k.from ex).tupl rr hp rl
theorem de_lst (h : DA N G X es cs) (hl : cs.length ≤ 1000 := by decide) : DE N G X (.List es pos) (.lst cs) :=
  PE.imp (pe_lst h) fun σ H Q q => by
    obtain ⟨as, ls, S, v, S', r, rs, e, k⟩ := q
    simp only [ev] at e
    obtain ⟨vs, S1, e1, e2⟩ := bind_of e
    cases e2
    refine ⟨as, ls, S, vs, S1, r, rs, e1, fun H1 as1 vs' ex rr rl => ⟨small_line ?_, fun p hp => ?_⟩⟩
    · have h1 := prd_len rl; have h2 := evs_len e1; omega
    · exact (k.from ex).obj rr hp rfl ⟨vs', upd_same, rl.mono (Ext.new hp _)⟩

/-! fields -/
theorem attr_get {fs : List (Nat × AV)} {gs : List (Str × V)} {K : PySem.W.Frag} {H : Hp} {as : List Addr} (h : Paired (fun (p : Nat × AV) (q : Str × V) => q.1 = N.fn p.1 ∧ RA K H as p.2 q.2) fs gs) {f : Nat} {v : AV} (e : fs.lookup f = some v) :
    ∃ v', gs.lookup (N.fn f) = some v' ∧ RA K H as v v' := by
  induction h with
  | nil => cases e
  | @cons p q _ _ z t ih =>
    obtain ⟨g, w⟩ := p
    obtain ⟨y, w'⟩ := q
    obtain ⟨z1, z2⟩ := z
    simp only at z1 z2
    subst z1
    rw [List.lookup_cons] at e ⊢
    by_cases hg : f = g
    · subst hg
      simp only [beq_self_eq_true] at e ⊢
      cases e
      exact ⟨w', rfl, z2⟩
    · have h1 : (f == g) = false := by simpa using hg
      have h2 : (N.fn f == N.fn g) = false := by
        have : N.fn f ≠ N.fn g := fun z => hg (N.inj _ _ z)
        simpa using this
      rw [h1] at e
      rw [h2]
      exact ih e
theorem de_fld {f : Nat} {x : Str} (hx : x = N.fn f) (he : DE N G X a ca) (hcls : ∀ C, Cls X.K (N.cls C) ∧ NoAttr X.K (N.cls C) x) (hb : attributeBase a x X.env (eval a X.env) = eval a X.env := by rfl) : DE N G X (.Attribute a x pos) (.fld ca f) := by
  subst hx
  refine PE.imp (pe_fld he hb) fun σ H Q q => ?_
  obtain ⟨as, ls, S, v, S', r, rs, e, k⟩ := tD_seq (f := ev G ca) (k := fun x _ S1 => getF x f S1) q
  refine ⟨as, ls, S, v, S', r, rs, e, fun H' as' v' ex rr ra => ?_⟩
  obtain ⟨as2, ls2, S2, x, w, S3, r2, rs2, rx, e2, k2⟩ := k H' as' v' ex rr ra
  cases rx with
  | @ref n p hn =>
    simp only [getF] at e2
    split at e2
    · rename_i C fs hS
      split at e2
      · rename_i w' hl
        cases e2
        obtain ⟨dx, vs, hH, pr⟩ := r2.ob n p _ hn hS
        obtain ⟨v', h1, h2⟩ := attr_get pr hl
        exact ⟨p, N.cls C, dx, vs, v', rfl, hH, (hcls C).1, (hcls C).2, h1, k2.now r2 h2⟩
      · cases e2
    · cases e2
  | _ => cases e2

/-! subscripts, slices -/
theorem do_none : DO N G X none none := PO.imp po_none fun σ H Q q => by
  obtain ⟨as, ls, S, v, S', r, rs, e, k⟩ := q
  cases e
  exact k H as Ext.refl r
theorem do_some (h : DE N G X a ca) : DO N G X (some a) (some ca) := PO.imp (po_some h) fun σ H Q q => by
  obtain ⟨as, ls, S, v, S', r, rs, e, k⟩ := q
  simp only [evO] at e
  obtain ⟨x, S1, e1, e2⟩ := bind_of e
  refine ⟨as, ls, S, x, S1, r, rs, e1, fun H' as' v' ex rr ra => ?_⟩
  cases ra with
  | int i => cases e2; exact ⟨i, rfl, k H' as' ex rr⟩
  | _ => cases e2
theorem de_ix (h : IxR X (rD2 N X.K idx2)) (ha : DE N G X a ca) (hb : DE N G X b cb) (hs : PlainIx b := by intro _ _; rfl) : DE N G X (.Subscript a b pos) (.idx ca cb) :=
  PE.imp (pe_ix h ha hb hs) fun σ H Q q => by
    obtain ⟨as, ls, S, v, S', r, rs, e, k⟩ := tD_seq (f := ev G ca) (k := fun x ls S => (ev G cb ls S).bind fun y S1 => idx2 x y S1) q
    exact ⟨as, ls, S, v, S', r, rs, e, fun H' as' v' ex rr ra => tK_seq (k H' as' v' ex rr ra)⟩
def rDS (N : Nam) (K : PySem.W.Frag) : V → Option Int → Option Int → Hp → VK → Prop := fun x' lo hi H Q => rD1 N K (fun x S => slc2 x lo hi S) x' H Q
theorem de_slc {lo hi : Option Expr} {cl ch : Option E} {p2 : Pos} (h : SlR X (rDS N X.K)) (ha : DE N G X a ca) (hl : DO N G X lo cl) (hh : DO N G X hi ch) : DE N G X (.Subscript a (.Slice lo hi none p2) pos) (.slc ca cl ch) :=
  PE.imp (pe_slice h ha hl hh) fun σ H Q q => by
    obtain ⟨as, ls, S, v, S', r, rs, e, k⟩ := q
    simp only [ev] at e
    obtain ⟨x, S1, e1, e2⟩ := bind_of e
    obtain ⟨l, S2, e3, e4⟩ := bind_of e2
    obtain ⟨u, S3, e5, e6⟩ := bind_of e4
    exact ⟨as, ls, S, x, S1, r, rs, e1, fun H1 as1 x' ex rr ra => ⟨as1, ls, S1, l, S2, rr, rs.mono ex, e3, fun H2 as2 ex2 rr2 => ⟨as2, ls, S2, u, S3, rr2, (rs.mono ex).mono ex2, e5, fun H3 as3 ex3 rr3 =>
      ⟨as3, S3, x, v, S', rr3, (ra.mono ex2).mono ex3, e6, k.from ((ex.trans ex2).trans ex3)⟩⟩⟩⟩

/-! calls -/
def spD (N : Nam) (K : PySem.W.Frag) (np : Nat) (g : List AV → Hh → Res AV) : Sp := fun vs' H Q _ => vs'.length = np ∧ ∃ as S vs v S', RH N K H as S ∧ RL K H as vs vs' ∧ g vs S = .ok v S' ∧ Fin N K H as S' v Q
theorem de_call {CX : CXT} {k np f : Nat} {fa : Addr} {fd : FuncData} {ps : List Str} {x : Str} {dvs : List V} {ds : List Value} {avs : List AV} {E : XK} (F : FnOk X.prog X.w X.K X.mg X.base CX k fa fd ps (spD N X.K np (G.fn f))) (hr : Room k X.A) (hg : Gl X x) (hm : X.mg x = some (.ref fa))
    (hk : PySem.W.keepIn X.K (.ref fa) = true) (hb : Binds X.K fd ps ds) (hd : Vals dvs ds) (rd : ∀ H as, RL X.K H as avs dvs) (hx : Passes CX X E) (ha : DA N G X (a :: es) cs) (hnp : cs.length + avs.length = np)
    (hdb : (x == ("__debug__" : Str)) = false := by decide) (he : starEach (a :: es) X.env = (false, eval a X.env) :: starEach es X.env := by rfl) (hpl : (backTo pos (starEach es X.env)).any (·.1) = false := by rfl) :
    DE N G X (.Call (.Name x p) (a :: es) [] pos) (.call f cs avs) :=
  PE.imp (pe_call F hr hg hm hk hb hd hx ha hdb he hpl) fun σ H Q q => by
    obtain ⟨as, ls, S, v, S', r, rs, e, k⟩ := q
    simp only [ev] at e
    obtain ⟨vs, S1, e1, e2⟩ := bind_of e
    refine ⟨as, ls, S, vs, S1, r, rs, e1, fun H1 as1 vs' ex rr rl => ⟨?_, as1, S1, vs ++ avs, v, S', rr, prd_app rl (rd H1 as1), e2, k.from ex⟩⟩
    have h1 := prd_len rl; have h2 := evs_len e1; have h3 := prd_len (rd H1 as1)
    simp; omega
theorem de_call0 {CX : CXT} {k np f : Nat} {fa : Addr} {fd : FuncData} {ps : List Str} {x : Str} {dvs : List V} {ds : List Value} {avs : List AV} {E : XK} (F : FnOk X.prog X.w X.K X.mg X.base CX k fa fd ps (spD N X.K np (G.fn f))) (hr : Room k X.A) (hg : Gl X x) (hm : X.mg x = some (.ref fa))
    (hk : PySem.W.keepIn X.K (.ref fa) = true) (hb : Binds X.K fd ps ds) (hd : Vals dvs ds) (rd : ∀ H as, RL X.K H as avs dvs) (hx : Passes CX X E) (hnp : avs.length = np)
    (hdb : (x == ("__debug__" : Str)) = false := by decide) : DE N G X (.Call (.Name x p) [] [] pos) (.call f [] avs) :=
  PE.imp (pe_call0 F hr hg hm hk hb hd hx hdb) fun σ H Q q => by
    obtain ⟨as, ls, S, v, S', r, rs, e, k⟩ := q
    simp only [ev] at e
    obtain ⟨vs, S1, e1, e2⟩ := bind_of e
    cases e1
    refine ⟨?_, as, S, avs, v, S', r, rd H as, e2, k⟩
    have h3 := prd_len (rd H as)
    simp; omega
def DK (N : Nam) (G : Gam) (X : Cx) (kws : List Keyword) (cs : List E) : Prop := PK X kws (tDA N X.K (evs G cs))
theorem PK.imp {kws : List Keyword} {t t' : TA} (h : PK X kws t) (i : ∀ σ H Q, t' σ H Q → t σ H Q) : PK X kws t' := ⟨fun pos pins s σ H Q I q => h.run pos pins s σ H Q I (i σ H Q q)⟩
theorem dk_nil : DK N G X [] [] := PK.imp pk_nil fun σ H Q q => by
  obtain ⟨as, ls, S, vs, S', r, rs, e, k⟩ := q
  cases e
  exact k H as [] Ext.refl r .nil
theorem dk_cons {nm : Option Str} {kpos : Pos} {kws : List Keyword} (ha : DE N G X a ca) (hr : DK N G X kws cs) : DK N G X (⟨nm, a, kpos⟩ :: kws) (ca :: cs) :=
  PK.imp (pk_cons ha hr) fun σ H Q q => by
    obtain ⟨as, ls, S, vs, S', r, rs, e, k⟩ := q
    simp only [evs] at e
    obtain ⟨x, S1, e1, e2⟩ := bind_of e
    obtain ⟨xs, S2, e3, e4⟩ := bind_of e2
    cases e4
    refine ⟨as, ls, S, x, S1, r, rs, e1, fun H1 as1 x' ex rr ra => ⟨as1, ls, S1, xs, _, rr, rs.mono ex, e3, fun H2 as2 xs' ex2 rr2 rl => ?_⟩⟩
    exact k H2 as2 _ (ex.trans ex2) rr2 (.cons (ra.mono ex2) rl)
theorem de_callk {CX : CXT} {k np f : Nat} {fa : Addr} {fd : FuncData} {ps ks : List Str} {x : Str} {kws : List Keyword} {zs : List E} {g : List Value → List Value → List Value} {E : XK} (F : FnOk X.prog X.w X.K X.mg X.base CX k fa fd ps (spD N X.K np (G.fn f))) (hr : Room k X.A) (hg : Gl X x) (hm : X.mg x = some (.ref fa))
    (hk : PySem.W.keepIn X.K (.ref fa) = true) (hb : KBinds X.K fd ps ks g (fun a b => a ++ b)) (hx : Passes CX X E) (ha : DA N G X (a :: es) cs) (hkw : DK N G X kws zs) (hnp : cs.length + zs.length = np)
    (hall : (backToKw pos (keywordEach kws X.env)).all (·.1.isSome) = true := by rfl) (hks : (backToKw pos (keywordEach kws X.env)).filterMap (·.1) = ks := by rfl)
    (hdb : (x == ("__debug__" : Str)) = false := by decide) (he : starEach (a :: es) X.env = (false, eval a X.env) :: starEach es X.env := by rfl)
    (hpl : ((backTo pos (starEach (a :: es) X.env)).any (·.1) || (backToKw pos (keywordEach kws X.env)).any (·.1.isNone)) = false := by rfl) :
    DE N G X (.Call (.Name x p) (a :: es) kws pos) (.callk f cs zs) :=
  PE.imp (pe_callK F hr hg hm hk hb hx ha hkw hall hks hdb he hpl) fun σ H Q q => by
    obtain ⟨as, ls, S, v, S', r, rs, e, k⟩ := q
    simp only [ev] at e
    obtain ⟨vs, S1, e1, e2⟩ := bind_of e
    obtain ⟨ws, S2, e3, e4⟩ := bind_of e2
    refine ⟨as, ls, S, vs, S1, r, rs, e1, fun H1 as1 vs' ex rr rl => ⟨as1, ls, S1, ws, S2, rr, rs.mono ex, e3, fun H2 as2 ws' ex2 rr2 rl2 => ⟨?_, as2, S2, vs ++ ws, v, S', rr2, prd_app (rl.mono ex2) rl2, e4, k.from (ex.trans ex2)⟩⟩⟩
    have h1 := prd_len rl; have h2 := evs_len e1; have h3 := prd_len rl2; have h4 := evs_len e3
    simp; omega
theorem de_make {CX : CXT} {k np c : Nat} {fa : Addr} {fd : FuncData} {ps : List Str} {x : Str} {dvs : List V} {ds : List Value} {avs : List AV} {E : XK} (M : Mk X.K (N.cls c) fa) (F : FnOk X.prog X.w X.K X.mg X.base CX k fa fd ps (spD N X.K np (G.ini c))) (hr : Room (k + 1) X.A) (hg : Gl X x) (hm : X.mg x = some (.ref (N.cls c)))
    (hb : Binds X.K fd ps ds) (hd : Vals dvs ds) (rd : ∀ H as, RL X.K H as avs dvs) (hx : Passes CX X E) (ha : DA N G X (a :: es) cs) (hnp : cs.length + avs.length + 1 = np)
    (hdb : (x == ("__debug__" : Str)) = false := by decide) (he : starEach (a :: es) X.env = (false, eval a X.env) :: starEach es X.env := by rfl) (hpl : (backTo pos (starEach es X.env)).any (·.1) = false := by rfl) :
    DE N G X (.Call (.Name x p) (a :: es) [] pos) (.make c cs avs) :=
  PE.imp (pe_make M F hr hg hm hb hd hx ha hdb he hpl) fun σ H Q q => by
    obtain ⟨as, ls, S, v, S', r, rs, e, k⟩ := q
    simp only [ev] at e
    obtain ⟨vs, S1, e1, e2⟩ := bind_of e
    obtain ⟨w, S2, e3, e4⟩ := bind_of e2
    refine ⟨as, ls, S, vs, S1, r, rs, e1, fun H1 as1 vs' ex rr rl q dx hq hdx hne => ?_⟩
    have hq2 : upd H1 dx (.own q) q = none := by rw [upd_ne (Ne.symm hne)]; exact hq
    have ex1 : Ext X.K H1 as1 (upd H1 dx (.own q)) as1 := Ext.same (Wr.none hdx)
    have rr1 := rr.laid (u := .own q) hdx
    have ex2 : Ext X.K (upd H1 dx (.own q)) as1 (upd (upd H1 dx (.own q)) q (.ins (N.cls c) dx [])) (as1 ++ [q]) := Ext.new hq2 _
    have rr2 := rr1.alloc (o := .ins c []) (u := .ins (N.cls c) dx []) hq2 rfl ⟨dx, [], upd_same, .nil⟩
    have ext := (ex.trans ex1).trans ex2
    refine ⟨?_, as1 ++ [q], S1 ++ [.ins c []], .ref S1.length :: (vs ++ avs), w, S2, rr2, ?_, e3, fun H3 as3 w' ex3 rr3 rw => ?_⟩
    · have h1 := prd_len rl; have h2 := evs_len e1; have h3 := prd_len (rd H1 as1)
      simp; omega
    · exact .cons (.ref (by rw [← rr.len]; simp)) (prd_app ((rl.mono ex1).mono ex2) (rd _ _))
    · cases w with
      | non =>
        cases e4
        cases rw
        exact ⟨rfl, k H3 as3 _ (ext.trans ex3) rr3 (.ref (ex3.pre _ _ (by rw [← rr.len]; simp)))⟩
      | _ => cases e4
/-- methods: one object, its class told by itself -/
structure MtD (N : Nam) (G : Gam) (X : Cx) (CX : CXT) (k np m : Nat) (nm : Str) (C : Nat) : Prop where
  ex : ∃ (fa : Addr) (fd : FuncData) (ps : List Str), Cls X.K (N.cls C) ∧ Meth X.K (N.cls C) nm fa ∧ FnOk X.prog X.w X.K X.mg X.base CX k fa fd ps (spD N X.K np (G.mt C m)) ∧ Binds X.K fd ps []
theorem PE.all {X : Cx} {e : Expr} {I : Type} {t : I → TE} (h : ∀ i, PE X e (t i)) : PE X e (fun σ H Q => ∃ i, t i σ H Q) := ⟨fun pins s σ H Q J ⟨i, q⟩ => (h i).run pins s σ H Q J q⟩
theorem no_meth {fs : List (Nat × AV)} {gs : List (Str × V)} {K : PySem.W.Frag} {H : Hp} {as : List Addr} (h : Paired (fun (p : Nat × AV) (q : Str × V) => q.1 = N.fn p.1 ∧ RA K H as p.2 q.2) fs gs) {nm : Str} (hn : ∀ f, N.fn f ≠ nm) : gs.lookup nm = none := by
  induction h with
  | nil => rfl
  | @cons p q _ _ z t ih =>
    obtain ⟨y, w'⟩ := q
    obtain ⟨z1, z2⟩ := z
    simp only at z1
    rw [List.lookup_cons]
    have h2 : (nm == y) = false := by
      have : nm ≠ y := fun z => hn p.1 (by rw [z, z1])
      simpa using this
    rw [h2]
    exact ih
theorem de_meth {CX : CXT} {k np m : Nat} {nm : Str} {apos : Pos} {pl : Sem Bool} {Cl : List Nat} (hcl : ∀ C, C ∈ Cl → MtD N G X CX k np m nm C) (hno : ∀ C, C ∉ Cl → ∀ vs S v S', G.mt C m vs S ≠ .ok v S') (hr : Room k X.A) (hx : Passes CX X E0) (ho : DE N G X b cb) (ha : DA N G X (a :: es) cs) (hnp : cs.length + 1 = np) (hnm : ∀ f, N.fn f ≠ nm)
    (hst : starEach (a :: es) X.env = (false, eval a X.env) :: starEach es X.env := by rfl) (hpl : (backTo pos (starEach es X.env)).any (·.1) = false := by rfl)
    (ht : eval (.Call (.Attribute b nm apos) (a :: es) [] pos) X.env = (do
      let ov ← eval b X.env
      standAt apos.atName
      let (f, first) ← holding [ov] (getMethod ov nm pl)
      callWith pos f first (backTo pos (starEach (a :: es) X.env)) (backToKw pos (keywordEach [] X.env))) := by rfl) :
    DE N G X (.Call (.Attribute b nm apos) (a :: es) [] pos) (.meth m cb cs) := by
  have key : ∀ i : {C // C ∈ Cl}, PE X (.Call (.Attribute b nm apos) (a :: es) [] pos) (tMeth (N.cls i.1) nm (spD N X.K np (G.mt i.1 m)) [] E0 (tD N X.K (ev G cb)) (tDA N X.K (evs G cs))) := fun i => by
    obtain ⟨fa, fd, ps, c, me, F, bi⟩ := (hcl i.1 i.2).ex
    exact pe_meth ho c me F hr bi .nil hx ha hst hpl ht
  refine PE.imp (PE.all key) fun σ H Q q => ?_
  obtain ⟨as, ls, S, v, S', r, rs, e, k⟩ := q
  simp only [ev] at e
  obtain ⟨x, S1, e1, e2⟩ := bind_of e
  cases x with
  | ref n =>
    simp only at e2
    split at e2
    · rename_i C fs hS
      obtain ⟨vs, S2, e3, e4⟩ := bind_of e2
      have hC : C ∈ Cl := by
        by_cases h : C ∈ Cl
        · exact h
        · exact absurd e4 (hno C h _ _ _ _)
      refine ⟨⟨C, hC⟩, as, ls, S, .ref n, S1, r, rs, e1, fun H1 as1 x' ex rr ra => ?_⟩
      cases ra with
      | @ref _ p hn =>
        obtain ⟨dx, gs, hH, pr⟩ := rr.ob n p _ hn hS
        refine ⟨p, dx, gs, rfl, hH, no_meth pr hnm, as1, ls, S1, vs, S2, rr, rs.mono ex, e3, fun H2 as2 vs' ex2 rr2 rl => ⟨?_, as2, S2, .ref n :: vs, v, S', rr2, .cons (.ref (ex2.pre _ _ hn)) (by rw [List.append_nil]; exact rl), e4, k.from (ex.trans ex2)⟩⟩
        have h1 := prd_len rl; have h2 := evs_len e3
        simp; omega
    · cases e2
  | _ => cases e2
theorem de_meth0 {CX : CXT} {k np m : Nat} {nm : Str} {apos : Pos} {pl : Sem Bool} {Cl : List Nat} (hcl : ∀ C, C ∈ Cl → MtD N G X CX k np m nm C) (hno : ∀ C, C ∉ Cl → ∀ vs S v S', G.mt C m vs S ≠ .ok v S') (hr : Room k X.A) (hx : Passes CX X E0) (ho : DE N G X b cb) (hnp : 1 = np) (hnm : ∀ f, N.fn f ≠ nm)
    (ht : eval (.Call (.Attribute b nm apos) [] [] pos) X.env = (do
      let ov ← eval b X.env
      standAt apos.atName
      let (f, first) ← holding [ov] (getMethod ov nm pl)
      callWith pos f first (backTo pos (starEach [] X.env)) (backToKw pos (keywordEach [] X.env))) := by rfl) :
    DE N G X (.Call (.Attribute b nm apos) [] [] pos) (.meth m cb []) := by
  have key : ∀ i : {C // C ∈ Cl}, PE X (.Call (.Attribute b nm apos) [] [] pos) (tMeth (N.cls i.1) nm (spD N X.K np (G.mt i.1 m)) [] E0 (tD N X.K (ev G cb)) tNil) := fun i => by
    obtain ⟨fa, fd, ps, c, me, F, bi⟩ := (hcl i.1 i.2).ex
    exact pe_meth0 ho c me F hr bi .nil hx ht
  refine PE.imp (PE.all key) fun σ H Q q => ?_
  obtain ⟨as, ls, S, v, S', r, rs, e, k⟩ := q
  simp only [ev] at e
  obtain ⟨x, S1, e1, e2⟩ := bind_of e
  cases x with
  | ref n =>
    simp only at e2
    split at e2
    · rename_i C fs hS
      obtain ⟨vs, S2, e3, e4⟩ := bind_of e2
      cases e3
      have hC : C ∈ Cl := by
        by_cases h : C ∈ Cl
        · exact h
        · exact absurd e4 (hno C h _ _ _ _)
      refine ⟨⟨C, hC⟩, as, ls, S, .ref n, S1, r, rs, e1, fun H1 as1 x' ex rr ra => ?_⟩
      cases ra with
      | @ref _ p hn =>
        obtain ⟨dx, gs, hH, pr⟩ := rr.ob n p _ hn hS
        exact ⟨p, dx, gs, rfl, hH, no_meth pr hnm, by simp [← hnp], as1, S1, [.ref n], v, S', rr, .cons (.ref hn) .nil, e4, k.from ex⟩
    · cases e2
  | _ => cases e2

/-! built-ins by values -/
theorem de_bi {id : String} {x : Str} {bb : Bi} (h : CallR X (.builtin id) (rDL N X.K (bi1 bb))) (hg : Gl X x) (hm : X.mg x = none) (hv : bootBuiltins x = some (.builtin id)) (ha : DA N G X (a :: es) cs) (hn : x ≠ "__name__" := by decide) (hdb : (x == ("__debug__" : Str)) = false := by decide)
    (he : starEach (a :: es) X.env = (false, eval a X.env) :: starEach es X.env := by rfl) (hpl : (backTo pos (starEach es X.env)).any (·.1) = false := by rfl) : DE N G X (.Call (.Name x p) (a :: es) [] pos) (.bi bb cs) :=
  PE.imp (pe_callB h hg hm hv ha hn hdb he hpl) fun σ H Q q => by
    obtain ⟨as, ls, S, v, S', r, rs, e, k⟩ := q
    simp only [ev] at e
    obtain ⟨vs, S1, e1, e2⟩ := bind_of e
    exact ⟨as, ls, S, vs, S1, r, rs, e1, fun H1 as1 vs' ex rr rl => ⟨as1, S1, vs, v, S', rr, rl, e2, k.from ex⟩⟩
theorem de_ty {Ty : String} {x : Str} {bb : Bi} (h : CallR X (.type Ty) (rDL N X.K (bi1 bb))) (hg : Gl X x) (hm : X.mg x = none) (hv : bootBuiltins x = some (.type Ty)) (ha : DA N G X (a :: es) cs) (hn : x ≠ "__name__" := by decide) (hdb : (x == ("__debug__" : Str)) = false := by decide)
    (he : starEach (a :: es) X.env = (false, eval a X.env) :: starEach es X.env := by rfl) (hpl : (backTo pos (starEach es X.env)).any (·.1) = false := by rfl) : DE N G X (.Call (.Name x p) (a :: es) [] pos) (.bi bb cs) :=
  PE.imp (pe_callTy h hg hm hv ha hn hdb he hpl) fun σ H Q q => by
    obtain ⟨as, ls, S, v, S', r, rs, e, k⟩ := q
    simp only [ev] at e
    obtain ⟨vs, S1, e1, e2⟩ := bind_of e
    exact ⟨as, ls, S, vs, S1, r, rs, e1, fun H1 as1 vs' ex rr rl => ⟨as1, S1, vs, v, S', rr, rl, e2, k.from ex⟩⟩
end
end NM
set_option Elab.async false
set_option linter.all false
set_option maxRecDepth 100000
set_option maxHeartbeats 4000000
/-! NmD: statements by data. -/
namespace NM
open PySem PySem.Spec L2

section
variable (N : Nam) (K : PySem.W.Frag)
def FinS (H : Hp) (as : List Addr) (S' : Hh) (r : Fl × Ls) (D : Ends) : Prop := match r.1 with
  | .nx => ∀ H' as' σ', Ext K H as H' as' → RH N K H' as' S' → RS K H' as' r.2 σ' → D.nx σ' H'
  | .bk => ∀ H' as' σ', Ext K H as H' as' → RH N K H' as' S' → RS K H' as' r.2 σ' → D.bk σ' H'
  | .ct => ∀ H' as' σ', Ext K H as H' as' → RH N K H' as' S' → RS K H' as' r.2 σ' → D.ct σ' H'
  | .rt v => ∀ H' as' v', Ext K H as H' as' → RH N K H' as' S' → RA K H' as' v v' → D.rt v' H'
def tDS (f : Ls → Hh → Res (Fl × Ls)) : TS := fun D σ H => ∃ as ls S r S', RH N K H as S ∧ RS K H as ls σ ∧ f ls S = .ok r S' ∧ FinS N K H as S' r D
def gD (f : AV → Ls → Hh → Res Ls) : TG := fun v' σ H Q => ∃ as ls S v ls' S', RH N K H as S ∧ RS K H as ls σ ∧ RA K H as v v' ∧ f v ls S = .ok ls' S' ∧ ∀ H' as' σ', Ext K H as H' as' → RH N K H' as' S' → RS K H' as' ls' σ' → Q σ' H'
end
theorem FinS.from {N : Nam} {K : PySem.W.Frag} {H H' : Hp} {as as' : List Addr} {S' : Hh} {r : Fl × Ls} {D : Ends} (h : FinS N K H as S' r D) (e : Ext K H as H' as') : FinS N K H' as' S' r D := by
  obtain ⟨f, l⟩ := r
  cases f with
  | nx => exact fun H2 as2 v' e2 r ra => h H2 as2 v' (e.trans e2) r ra
  | bk => exact fun H2 as2 v' e2 r ra => h H2 as2 v' (e.trans e2) r ra
  | ct => exact fun H2 as2 v' e2 r ra => h H2 as2 v' (e.trans e2) r ra
  | rt v => exact fun H2 as2 v' e2 r ra => h H2 as2 v' (e.trans e2) r ra
theorem FinS.nx {N : Nam} {K : PySem.W.Frag} {H H' : Hp} {as as' : List Addr} {S' : Hh} {ls : Ls} {D : Ends} {σ : L2.St} (h : FinS N K H as S' (.nx, ls) D) (e : Ext K H as H' as') (r : RH N K H' as' S') (rs : RS K H' as' ls σ) : D.nx σ H' := h H' as' σ e r rs
section
variable (N : Nam) (G : Gam)
def DS (X : Cx) (s : Stmt) (c : C) : Prop := PS X s (tDS N X.K (evC G c))
def DSs (X : Cx) (s : List Stmt) (c : List C) : Prop := PSs X s (tDS N X.K (evCs G c))
def DG (X : Cx) (e : Expr) (t : L) : Prop := PG X e (gD N X.K (asgL G t))
end
theorem PG.imp {X : Cx} {e : Expr} {t t' : TG} (h : PG X e t) (i : ∀ v σ H Q, t' v σ H Q → t v σ H Q) : PG X e t' := ⟨fun pins s σ H v u Q I r q => h.run pins s σ H v u Q I r (i v σ H Q q)⟩
theorem PGs.imp {X : Cx} {e : List Expr} {t t' : TGs} (h : PGs X e t) (i : ∀ v σ H Q, t' v σ H Q → t v σ H Q) : PGs X e t' := ⟨fun pins s σ H v u Q I r q => h.run pins s σ H v u Q I r (i v σ H Q q)⟩

section
variable {N : Nam} {G : Gam} {X : Cx} {a b c e : Expr} {ca cb ce : E} {pos p pos' : Pos} {es : List Expr} {cs : List E} {st : Stmt} {sts : List Stmt} {cst : C} {csts : List C}

theorem dss_nil : DSs N G X [] [] := PSs.imp pss_nil fun D σ H q => by
  obtain ⟨as, ls, S, r, S', rh, rs, e, k⟩ := q
  cases e
  exact k.nx Ext.refl rh rs
theorem dss_cons (h1 : DS N G X st cst) (h2 : DSs N G X sts csts) : DSs N G X (st :: sts) (cst :: csts) := PSs.imp (pss_cons h1 h2) fun D σ H q => by
  obtain ⟨as, ls, S, r, S', rh, rs, e, k⟩ := q
  simp only [evCs] at e
  obtain ⟨⟨f, l⟩, S1, e1, e2⟩ := bind_of e
  refine ⟨as, ls, S, (f, l), S1, rh, rs, e1, ?_⟩
  cases f with
  | nx => exact fun H1 as1 σ1 ex rr rs1 => ⟨as1, l, S1, r, S', rr, rs1, e2, k.from ex⟩
  | bk => cases e2; exact k
  | ct => cases e2; exact k
  | rt v => cases e2; exact k
theorem ds_never : DS N G X st .never := PS.imp ps_never fun D σ H q => by
  obtain ⟨as, ls, S, r, S', rh, rs, e, k⟩ := q
  cases e
theorem ds_pass : DS N G X (.Pass pos) .pass := PS.imp ps_pass fun D σ H q => by
  obtain ⟨as, ls, S, r, S', rh, rs, e, k⟩ := q
  cases e
  exact k.nx Ext.refl rh rs
theorem ds_brk : DS N G X (.Break pos) .brk := PS.imp ps_break fun D σ H q => by
  obtain ⟨as, ls, S, r, S', rh, rs, e, k⟩ := q
  cases e
  exact k H as σ Ext.refl rh rs
theorem ds_cont : DS N G X (.Continue pos) .cont := PS.imp ps_continue fun D σ H q => by
  obtain ⟨as, ls, S, r, S', rh, rs, e, k⟩ := q
  cases e
  exact k H as σ Ext.refl rh rs
theorem ds_expr (he : DE N G X a ca) (hs : swapsWith a none pos.line X.env = pure false := by rfl) : DS N G X (.Expr a pos) (.expr ca) := PS.imp (ps_expr he hs) fun D σ H q => by
  obtain ⟨as, ls, S, r, S', rh, rs, e, k⟩ := q
  simp only [evC] at e
  obtain ⟨x, S1, e1, e2⟩ := bind_of e
  cases e2
  exact ⟨as, ls, S, x, _, rh, rs, e1, fun H' as' v' ex rr ra => k.nx ex rr (rs.mono ex)⟩
theorem ds_ret (he : DE N G X a ca) : DS N G X (.Return (some a) pos) (.ret ca) := PS.imp (ps_ret he) fun D σ H q => by
  obtain ⟨as, ls, S, r, S', rh, rs, e, k⟩ := q
  simp only [evC] at e
  obtain ⟨x, S1, e1, e2⟩ := bind_of e
  cases e2
  exact ⟨as, ls, S, x, _, rh, rs, e1, fun H' as' v' ex rr ra => k H' as' v' ex rr ra⟩
theorem ds_retN : DS N G X (.Return none pos) .retN := PS.imp ps_retN fun D σ H q => by
  obtain ⟨as, ls, S, r, S', rh, rs, e, k⟩ := q
  cases e
  exact k H as _ Ext.refl rh .non
theorem ds_ifs {ct : T} {p1 p2 : List Stmt} {c1 c2 : List C} (hc : DT N G X c ct) (ha : DSs N G X p1 c1) (hb : DSs N G X p2 c2) : DS N G X (.If c p1 p2 pos) (.ifs ct c1 c2) := PS.imp (ps_if hc ha hb) fun D σ H q => by
  obtain ⟨as, ls, S, r, S', rh, rs, e, k⟩ := q
  simp only [evC] at e
  obtain ⟨t, S1, e1, e2⟩ := bind_of e
  refine ⟨as, ls, S, t, S1, rh, rs, e1, fun H' as' ex rr => ?_⟩
  cases t with
  | true => exact ⟨as', ls, S1, r, S', rr, rs.mono ex, e2, k.from ex⟩
  | false => exact ⟨as', ls, S1, r, S', rr, rs.mono ex, e2, k.from ex⟩

/-! targets -/
theorem asgT_heap : ∀ (t : Tg) (v : AV) (ls : Ls) (S S2 : Hh), asgT t v ls S = asgT t v ls S2 := by
  intro t
  induction t using Tg.rec (motive_2 := fun ts => ∀ xs ls S S2, asgTs ts xs ls S = asgTs ts xs ls S2) with
  | nm i => intro v ls S S2; rfl
  | tp ts ih =>
    intro v ls S S2
    cases v with
    | tup xs => exact ih _ _ _ _
    | _ => rfl
  | nil => rename_i xs ls S S2; cases xs <;> rfl
  | cons t ts h1 h2 =>
    rename_i xs ls S S2
    cases xs with
    | nil => rfl
    | cons x xs =>
      simp only [asgTs]
      rw [h1 x ls S S2]
      cases asgT t x ls S2 with
      | none => rfl
      | some l => exact h2 _ _ _ _
def Wi (is : List Nat) (σ σ' : L2.St) : Prop := ∀ own : List Nat, (∀ i ∈ is, i ∈ own) → L2.wipe σ' own = L2.wipe σ own
theorem wipe_set_out {i : Nat} {x : Option V} {σ : L2.St} : ∀ {own : List Nat}, i ∉ own → L2.wipe (σ.set i x) own = (L2.wipe σ own).set i x
  | [], _ => rfl
  | v :: vs, h => by
    have h1 : i ≠ v := fun z => h (by rw [z]; exact List.mem_cons_self)
    have h2 : i ∉ vs := fun z => h (List.mem_cons_of_mem _ z)
    simp only [L2.wipe]
    rw [wipe_set_out h2, List.set_comm _ _ h1]
theorem wipe_set_in {i : Nat} {x : Option V} {σ : L2.St} : ∀ {own : List Nat}, i ∈ own → L2.wipe (σ.set i x) own = L2.wipe σ own
  | v :: vs, h => by
    simp only [L2.wipe]
    by_cases h2 : i ∈ vs
    · rw [wipe_set_in h2]
    · have h1 : i = v := by
        rcases List.mem_cons.mp h with z | z
        · exact z
        · exact absurd z h2
      subst h1
      rw [wipe_set_out h2, List.set_set]
mutual
def tgN : Tg → List Nat
  | .nm i => [i]
  | .tp ts => tgNs ts
def tgNs : List Tg → List Nat
  | [] => []
  | t :: ts => tgN t ++ tgNs ts
end
def gT (K : PySem.W.Frag) (t : Tg) : TG := fun v' σ H Q => ∃ as ls v ls', RS K H as ls σ ∧ RA K H as v v' ∧ asgT t v ls [] = some ls' ∧ ∀ σ', RS K H as ls' σ' → Wi (tgN t) σ σ' → Q σ' H
def gTs (K : PySem.W.Frag) (ts : List Tg) : TGs := fun vs' σ H Q => ∃ as ls vs ls', RS K H as ls σ ∧ RL K H as vs vs' ∧ asgTs ts vs ls [] = some ls' ∧ ∀ σ', RS K H as ls' σ' → Wi (tgNs ts) σ σ' → Q σ' H
def DTg (X : Cx) (e : Expr) (t : Tg) : Prop := PG X e (gT X.K t)
def DTgs (X : Cx) (e : List Expr) (t : List Tg) : Prop := PGs X e (gTs X.K t)
theorem dtg_nm {i : Nat} {x : Str} (hN : X.N.Nodup) (hi : X.N[i]? = some x) (hx : Loc X.env.scope x) (hf : X.fn x = true ∨ X.env.scope.names.lookup x = some .local := by first | exact .inl rfl | exact .inr rfl | assumption) : DTg X (.Name x pos) (.nm i) :=
  PG.imp (pg_name hN hi hx hf) fun v' σ H Q q => by
    obtain ⟨as, ls, v, ls', rs, ra, e, k⟩ := q
    simp only [asgT] at e
    cases e
    exact k _ (rs.set i ra) fun own h => wipe_set_in (h i (by simp [tgN]))
theorem dtgs_nil : DTgs X [] [] := PGs.imp pgs_nil fun v' σ H Q q => by
  obtain ⟨as, ls, v, ls', rs, ra, e, k⟩ := q
  cases ra with
  | nil => simp only [asgTs] at e; cases e; exact ⟨rfl, k _ rs fun own h => rfl⟩
  | cons _ _ => simp only [asgTs] at e; cases e
theorem dtgs_cons {t : Tg} {ts : List Tg} (h1 : DTg X a t) (h2 : DTgs X es ts) (hs : (assignEach (a :: es) X.env).map (·.2) = assign a X.env :: (assignEach es X.env).map (·.2) := by rfl) : DTgs X (a :: es) (t :: ts) :=
  PGs.imp (pgs_cons h1 h2 hs) fun v' σ H Q q => by
    obtain ⟨as, ls, v, ls', rs, ra, e, k⟩ := q
    cases ra with
    | nil => simp only [asgTs] at e; cases e
    | @cons x x' xs xs' r1 r2 =>
      simp only [asgTs] at e
      cases h : asgT t x ls [] with
      | none => rw [h] at e; cases e
      | some l =>
        rw [h] at e
        exact ⟨x', xs', rfl, as, ls, x, l, rs, r1, h, fun σ' rs' w1 => ⟨as, l, xs, ls', rs', r2, e, fun σ2 rs2 w2 => k σ2 rs2 fun own h => by
          rw [w2 own fun i hi => h i (by simp [tgNs, hi]), w1 own fun i hi => h i (by simp [tgNs, hi])]⟩⟩
theorem asgTs_len {ts : List Tg} : ∀ {xs : List AV} {ls ls' : Ls} {S : Hh}, asgTs ts xs ls S = some ls' → xs.length = ts.length := by
  induction ts with
  | nil => intro xs ls ls' S e; cases xs with | nil => rfl | cons _ _ => simp only [asgTs] at e; cases e
  | cons t ts ih =>
    intro xs ls ls' S e
    cases xs with
    | nil => simp only [asgTs] at e; cases e
    | cons x xs =>
      simp only [asgTs] at e
      cases h : asgT t x ls S with
      | none => rw [h] at e; cases e
      | some l => rw [h] at e; simp [ih e]
theorem dtg_tp {k n : Nat} {ts : List Tg} (hc : X.calm = true) (h : DTgs X es ts) (hl : ts.length = n) (hn : (assignEach es X.env).length = n := by rfl) (hst : (assignEach es X.env).findIdx? (·.1) = none := by rfl) : DTg X (.Tuple es k pos) (.tp ts) :=
  PG.imp (pg_tup hc h hn hst) fun v' σ H Q q => by
    obtain ⟨as, ls, v, ls', rs, ra, e, k⟩ := q
    cases v with
    | tup xs =>
      obtain ⟨p, vs, rfl, sq, rl⟩ := ra.of_tup
      simp only [asgT] at e
      have h1 := asgTs_len e
      have h2 := prd_len rl
      exact ⟨p, vs, rfl, sq, by omega, as, ls, xs, ls', rs, rl, e, fun σ' rs' w => k σ' rs' w⟩
    | _ => simp only [asgT] at e; cases e
theorem dg_nm {i : Nat} (h : DTg X a (.nm i)) : DG N G X a (.nm i) := PG.imp h fun v' σ H Q q => by
  obtain ⟨as, ls, S, v, ls', S', rh, rs, ra, e, k⟩ := q
  simp only [asgL] at e
  cases e
  exact ⟨as, ls, v, _, rs, ra, rfl, fun σ' rs' _ => k H as σ' Ext.refl rh rs'⟩
theorem dg_tp {ts : List Tg} (h : DTg X a (.tp ts)) : DG N G X a (.tp ts) := PG.imp h fun v' σ H Q q => by
  obtain ⟨as, ls, S, v, ls', S', rh, rs, ra, e, k⟩ := q
  simp only [asgL] at e
  split at e
  · rename_i l hl
    cases e
    exact ⟨as, ls, v, _, rs, ra, by rw [asgT_heap _ _ _ [] S]; exact hl, fun σ' rs' _ => k H as σ' Ext.refl rh rs'⟩
  · cases e

/-! assignments -/
theorem ds_asgG {t : L} (he : DE N G X e ce) (hg : DG N G X a t) (hs : swapsWithSole [a] e pos.line X.env = pure false := by rfl) (hw : swappedStores [a] e X.env = pure none := by rfl)
    (h1 : (assignEach [a] X.env).map (·.2) = [assign a X.env] := by rfl) : DS N G X (.Assign [a] e pos) (.asg t ce) := PS.imp (ps_asg he hg hs hw h1) fun D σ H q => by
  obtain ⟨as, ls, S, r, S', rh, rs, e, k⟩ := q
  simp only [evC] at e
  obtain ⟨x, S1, e1, e2⟩ := bind_of e
  obtain ⟨l, S2, e3, e4⟩ := bind_of e2
  cases e4
  exact ⟨as, ls, S, x, S1, rh, rs, e1, fun H' as' v' ex rr ra => ⟨as', ls, S1, x, l, _, rr, rs.mono ex, ra, e3, fun H2 as2 σ2 ex2 rr2 rs2 => k.nx (ex.trans ex2) rr2 rs2⟩⟩
theorem ds_asg2 {t u : L} (he : DE N G X e ce) (hg : DG N G X a t) (hg2 : DG N G X b u) (ha : (assignEach [a, b] X.env).map (·.2) = [assign a X.env, assign b X.env] := by rfl) (hw : swappedStores [a, b] e X.env = pure none := by rfl) :
    DS N G X (.Assign [a, b] e pos) (.asg2 t u ce) := PS.imp (ps_asg2 he hg hg2 ha hw) fun D σ H q => by
  obtain ⟨as, ls, S, r, S', rh, rs, e, k⟩ := q
  simp only [evC] at e
  obtain ⟨x, S1, e1, e2⟩ := bind_of e
  obtain ⟨l, S2, e3, e4⟩ := bind_of e2
  obtain ⟨l2, S3, e5, e6⟩ := bind_of e4
  cases e6
  exact ⟨as, ls, S, x, S1, rh, rs, e1, fun H' as' v' ex rr ra => ⟨as', ls, S1, x, l, _, rr, rs.mono ex, ra, e3, fun H2 as2 σ2 ex2 rr2 rs2 => ⟨as2, l, S2, x, l2, _, rr2, rs2, ra.mono ex2, e5, fun H3 as3 σ3 ex3 rr3 rs3 => k.nx ((ex.trans ex2).trans ex3) rr3 rs3⟩⟩⟩
theorem ds_set {i : Nat} {x : Str} (hN : X.N.Nodup) (hi : X.N[i]? = some x) (hx : Loc X.env.scope x) (he : DE N G X e ce) (hs : swapsWith e (some (.Name x pos')) pos.line X.env = pure false := by rfl)
    (hf : X.fn x = true ∨ X.env.scope.names.lookup x = some .local := by first | exact .inl rfl | exact .inr rfl | assumption) : DS N G X (.Assign [.Name x pos'] e pos) (.asg (.nm i) ce) := PS.imp (ps_set hN hi hx he hs hf) fun D σ H q => by
  obtain ⟨as, ls, S, r, S', rh, rs, e, k⟩ := q
  simp only [evC, asgL] at e
  obtain ⟨x, S1, e1, e2⟩ := bind_of e
  cases e2
  exact ⟨as, ls, S, x, _, rh, rs, e1, fun H' as' v' ex rr ra => k.nx ex rr ((rs.mono ex).set i ra)⟩
theorem ds_par {i j : Nat} {x y : Str} {px py pt : Pos} {kt k2 pt2} (hc : X.calm = true) (hN : X.N.Nodup) (hi : X.N[i]? = some x) (hj : X.N[j]? = some y) (hij : i ≠ j)
    (hx : X.env.scope.names.lookup x = some .local) (hy : X.env.scope.names.lookup y = some .local) (ha : DA N G X [a, b] [ca, cb])
    (hw : swappedStores [.Tuple [.Name x px, .Name y py] kt pt] (.Tuple [a, b] k2 pt2) X.env = pure (some [x, y]))
    (hs : swapsWithSole [.Tuple [.Name x px, .Name y py] kt pt] (.Tuple [a, b] k2 pt2) pos.line X.env = pure false := by rfl) :
    DS N G X (.Assign [.Tuple [.Name x px, .Name y py] kt pt] (.Tuple [a, b] k2 pt2) pos) (.asg (.tp [.nm i, .nm j]) (.tup [ca, cb])) := PS.imp (ps_par hc hN hi hj hij hx hy ha hw hs) fun D σ H q => by
  obtain ⟨as, ls, S, r, S', rh, rs, e, k⟩ := q
  simp only [evC, ev] at e
  obtain ⟨t, S1, e1, e2⟩ := bind_of e
  obtain ⟨vs, S2, e3, e4⟩ := bind_of e1
  cases e4
  have hl := evs_len e3
  match vs, hl, e2, e3 with
  | [v, w], _, e2, e3 =>
    simp only [asgL, asgT, asgTs, Option.bind_some] at e2
    cases e2
    refine ⟨as, ls, S, [v, w], _, rh, rs, e3, fun H' as' vs' ex rr rl => ?_⟩
    cases rl with
    | cons r1 rl =>
      cases rl with
      | cons r2 rl =>
        cases rl
        exact ⟨_, _, rfl, k.nx ex rr (((rs.mono ex).set i r1).set j r2)⟩
theorem ds_par3 {i j l : Nat} {x y z : Str} {px py pz pt : Pos} {kt k2 pt2} {cc : E} (hc : X.calm = true) (hN : X.N.Nodup) (hi : X.N[i]? = some x) (hj : X.N[j]? = some y) (hl : X.N[l]? = some z) (hij : i ≠ j) (hil : i ≠ l) (hjl : j ≠ l)
    (hx : X.env.scope.names.lookup x = some .local) (hy : X.env.scope.names.lookup y = some .local) (hz : X.env.scope.names.lookup z = some .local) (ha : DA N G X [a, b, c] [ca, cb, cc])
    (hw : swappedStores [.Tuple [.Name x px, .Name y py, .Name z pz] kt pt] (.Tuple [a, b, c] k2 pt2) X.env = pure (some [x, y, z]))
    (hs : swapsWithSole [.Tuple [.Name x px, .Name y py, .Name z pz] kt pt] (.Tuple [a, b, c] k2 pt2) pos.line X.env = pure false := by rfl) :
    DS N G X (.Assign [.Tuple [.Name x px, .Name y py, .Name z pz] kt pt] (.Tuple [a, b, c] k2 pt2) pos) (.asg (.tp [.nm i, .nm j, .nm l]) (.tup [ca, cb, cc])) := PS.imp (ps_par3 hc hN hi hj hl hij hil hjl hx hy hz ha hw hs) fun D σ H q => by
  obtain ⟨as, ls, S, r, S', rh, rs, e, k⟩ := q
  simp only [evC, ev] at e
  obtain ⟨t, S1, e1, e2⟩ := bind_of e
  obtain ⟨vs, S2, e3, e4⟩ := bind_of e1
  cases e4
  have hl := evs_len e3
  match vs, hl, e2, e3 with
  | [v, w, u], _, e2, e3 =>
    simp only [asgL, asgT, asgTs, Option.bind_some] at e2
    cases e2
    refine ⟨as, ls, S, [v, w, u], _, rh, rs, e3, fun H' as' vs' ex rr rl => ?_⟩
    cases rl with
    | cons r1 rl =>
      cases rl with
      | cons r2 rl =>
        cases rl with
        | cons r3 rl =>
          cases rl
          exact ⟨_, _, _, rfl, k.nx ex rr ((((rs.mono ex).set i r1).set j r2).set l r3)⟩
/-! fields stored -/
theorem attr_put {fs : List (Nat × AV)} {gs : List (Str × V)} {K : PySem.W.Frag} {H : Hp} {as : List Addr} (h : Paired (fun (p : Nat × AV) (q : Str × V) => q.1 = N.fn p.1 ∧ RA K H as p.2 q.2) fs gs) {f : Nat} {v : AV} {v' : V} (rv : RA K H as v v') :
    Paired (fun (p : Nat × AV) (q : Str × V) => q.1 = N.fn p.1 ∧ RA K H as p.2 q.2) (putN f v fs) (putF (N.fn f) v' gs) := by
  induction h with
  | nil => exact .cons ⟨rfl, rv⟩ .nil
  | @cons p q _ _ z t ih =>
    obtain ⟨g, w⟩ := p
    obtain ⟨y, w'⟩ := q
    obtain ⟨z1, z2⟩ := z
    simp only at z1 z2
    subst z1
    unfold putN putF
    by_cases hg : g = f
    · subst hg
      rw [if_pos rfl, if_pos rfl]
      exact .cons ⟨rfl, rv⟩ t
    · rw [if_neg hg, if_neg (fun z => hg (N.inj _ _ z))]
      exact .cons ⟨rfl, z2⟩ ih
theorem not_tup {H : Hp} {a : Addr} {u : HO} (h : H a = some u) (n1 : ∀ xs, u ≠ .tup xs) (n2 : ∀ o w, u ≠ .frz o w) : Wr H a := ⟨fun xs z => by
  rcases z with z | ⟨o, z⟩
  · rw [h] at z; exact n1 _ (Option.some.inj z)
  · rw [h] at z; exact n2 _ _ (Option.some.inj z), fun o w z => by rw [h] at z; exact n2 _ _ (Option.some.inj z)⟩
theorem setF_ok {K : PySem.W.Frag} {H : Hp} {as : List Addr} {S S' : Hh} {x v : AV} {x' v' : V} {f : Nat} (rh : RH N K H as S) (rx : RA K H as x x') (rv : RA K H as v v') (e : setF x f v S = .ok () S') :
    ∃ p C dx gs, x' = .ref p ∧ H p = some (.ins (N.cls C) dx gs) ∧ gs.length < 1000 ∧ RH N K (upd H p (.ins (N.cls C) dx (putF (N.fn f) v' gs))) as S' ∧ Ext K H as (upd H p (.ins (N.cls C) dx (putF (N.fn f) v' gs))) as := by
  cases rx with
  | @ref n p hn =>
    simp only [setF] at e
    split at e
    · rename_i C fs hS
      split at e
      · rename_i hlt
        cases e
        obtain ⟨dx, gs, hH, pr⟩ := rh.ob n p _ hn hS
        have hl := prd_len pr
        have ext : Ext K H as (upd H p (.ins (N.cls C) dx (putF (N.fn f) v' gs))) as := Ext.same (not_tup hH (fun _ z => nomatch z) fun _ _ z => nomatch z)
        have w := rh.write (o' := .ins C (putN f v fs)) (u := .ins (N.cls C) dx (putF (N.fn f) v' gs)) hn hS rfl rfl (not_tup hH (fun _ z => nomatch z) fun _ _ z => nomatch z) (fun ob vs z => by rw [hH] at z; cases z)
          ⟨dx, _, upd_same, prd_imp (attr_put pr rv) fun _ _ z => ⟨z.1, z.2.mono ext⟩⟩
        exact ⟨p, C, dx, gs, rfl, hH, by omega, w.1, w.2⟩
      · cases e
    · cases e
  | _ => simp only [setF] at e; cases e
theorem ds_fld {f : Nat} {x : Str} (hx : x = N.fn f) (ho : DE N G X a ca) (he : DE N G X e ce) (hcls : ∀ C, Cls X.K (N.cls C) ∧ NoAttr X.K (N.cls C) x) (hs : swapsWith e (some (.Attribute a x pos')) pos.line X.env = pure false := by rfl) :
    DS N G X (.Assign [.Attribute a x pos'] e pos) (.asg (.fld ca f) ce) := by
  subst hx
  refine PS.imp (ps_fld ho he hs) fun D σ H q => ?_
  obtain ⟨as, ls, S, r, S', rh, rs, e, k⟩ := q
  simp only [evC, asgL] at e
  obtain ⟨x, S1, e1, e2⟩ := bind_of e
  obtain ⟨l, S2, e3, e4⟩ := bind_of e2
  obtain ⟨y, S3, e5, e6⟩ := bind_of e3
  obtain ⟨u, S4, e7, e8⟩ := bind_of e6
  cases e8; cases e4
  refine ⟨as, ls, S, x, S1, rh, rs, e1, fun H1 as1 x' ex rr ra => ⟨as1, ls, S1, y, S3, rr, rs.mono ex, e5, fun H2 as2 y' ex2 rr2 ry => ?_⟩⟩
  obtain ⟨p, C, dx, gs, e9, hH, hl, rh3, ex3⟩ := setF_ok rr2 ry (ra.mono ex2) e7
  exact ⟨p, N.cls C, dx, gs, e9, hH, (hcls C).1, (hcls C).2, hl, k.nx ((ex.trans ex2).trans ex3) rh3 (((rs.mono ex).mono ex2).mono ex3)⟩
def gFld (K : PySem.W.Frag) (to : TE) (f : Str) : TG := fun v σ H Q => to σ H fun x H2 => ∃ p C dx fs, x = .ref p ∧ H2 p = some (.ins C dx fs) ∧ Cls K C ∧ NoAttr K C f ∧ fs.length < 1000 ∧ Q σ (upd H2 p (.ins C dx (putF f v fs)))
theorem pg_fld {o : Expr} {f : Str} {to : TE} (ho : PE X o to) : PG X (.Attribute o f pos) (gFld X.K to f) := by
  refine ⟨fun pins s σ H v u Q I r h => ?_⟩
  rw [PySem.assign_Attribute]
  refine wpAny_bind (wpAny_holding (thn (ho.run pins s σ H _ I h) fun ov s1 ⟨x, H1, I1, r1, q1⟩ => ?_))
  obtain ⟨p, C, dx, fs, ex, ea, c, n, l, q2⟩ := q1
  subst ex
  obtain rfl : ov = Value.ref p := r1
  refine wpAny_bind (wpAny_standAt (wpAny_bind (wpAny_holding (setattr_ok I1 ea c n l r fun s3 I3 => ?_))))
  exact wpAny_release ⟨σ, _, I3, q2⟩
theorem dg_fld {f : Nat} {x : Str} (hx : x = N.fn f) (ho : DE N G X a ca) (hcls : ∀ C, Cls X.K (N.cls C) ∧ NoAttr X.K (N.cls C) x) : DG N G X (.Attribute a x pos) (.fld ca f) := by
  subst hx
  refine PG.imp (pg_fld ho) fun v' σ H Q q => ?_
  obtain ⟨as, ls, S, v, ls', S', rh, rs, ra, e, k⟩ := q
  simp only [asgL] at e
  obtain ⟨y, S3, e5, e6⟩ := bind_of e
  obtain ⟨u, S4, e7, e8⟩ := bind_of e6
  cases e8
  refine ⟨as, ls, S, y, S3, rh, rs, e5, fun H2 as2 y' ex2 rr2 ry => ?_⟩
  obtain ⟨p, C, dx, gs, e9, hH, hl, rh3, ex3⟩ := setF_ok rr2 ry (ra.mono ex2) e7
  exact ⟨p, N.cls C, dx, gs, e9, hH, (hcls C).1, (hcls C).2, hl, k _ _ _ (ex2.trans ex3) rh3 ((rs.mono ex2).mono ex3)⟩
/-! d[k] = v -/
theorem key_dec (a b : List Nat) : ((Sum.inr (sS a) : Key) = Sum.inr (sS b)) = (a = b) := propext ⟨fun z => sS_inj (Sum.inr.inj z), fun z => by rw [z]⟩
theorem dict_get {kvs : List (List Nat × AV)} {gs : List (Key × V)} {K : PySem.W.Frag} {H : Hp} {as : List Addr} (h : Paired (fun (p : List Nat × AV) (q : Key × V) => q.1 = .inr (sS p.1) ∧ RA K H as p.2 q.2) kvs gs) (k : List Nat) :
    (∀ v, getD kvs k = some v → ∃ v', valV gs (Sum.inr (sS k) : Key) = some v' ∧ RA K H as v v') ∧ (getD kvs k).isSome = (valV gs (Sum.inr (sS k) : Key)).isSome := by
  induction h with
  | nil => exact ⟨fun v e => (nomatch (show (none : Option AV) = some v from e)), rfl⟩
  | @cons p q r1 r2 z t ih =>
    obtain ⟨g, w⟩ := p
    obtain ⟨y, w'⟩ := q
    obtain ⟨z1, z2⟩ := z
    simp only at z1 z2
    subst z1
    by_cases hg : g = k
    · subst hg
      have e1 : getD ((g, w) :: r1) g = some w := by simp [getD]
      have e2 : valV ((Sum.inr (sS g), w') :: r2 : List (Key × V)) (Sum.inr (sS g)) = some w' := by simp [valV]
      rw [e1, e2]
      exact ⟨fun v e => ⟨w', rfl, by cases e; exact z2⟩, rfl⟩
    · have e1 : getD ((g, w) :: r1) k = getD r1 k := by simp [getD, hg]
      have hk : ¬ ((Sum.inr (sS g) : Key) = Sum.inr (sS k)) := by rw [key_dec]; exact hg
      have e2 : valV ((Sum.inr (sS g), w') :: r2 : List (Key × V)) (Sum.inr (sS k)) = valV r2 (Sum.inr (sS k)) := by
        unfold valV
        rw [List.find?_cons_of_neg (by simpa using hk)]
      rw [e1, e2]
      exact ih
theorem any_key {kvs : List (List Nat × AV)} {gs : List (Key × V)} {K : PySem.W.Frag} {H : Hp} {as : List Addr} (h : Paired (fun (p : List Nat × AV) (q : Key × V) => q.1 = .inr (sS p.1) ∧ RA K H as p.2 q.2) kvs gs) (k : List Nat) :
    (kvs.any fun kv => decide (kv.1 = k)) = (gs.any fun kv => decide (kv.1 = (Sum.inr (sS k) : Key))) := by
  induction h with
  | nil => rfl
  | @cons p q r1 r2 z t ih =>
    obtain ⟨g, w⟩ := p
    obtain ⟨y, w'⟩ := q
    obtain ⟨z1, z2⟩ := z
    simp only at z1
    subst z1
    rw [List.any_cons, List.any_cons, ih]
    congr 1
    simp only [key_dec]
theorem dict_map {kvs : List (List Nat × AV)} {gs : List (Key × V)} {K : PySem.W.Frag} {H : Hp} {as : List Addr} (h : Paired (fun (p : List Nat × AV) (q : Key × V) => q.1 = .inr (sS p.1) ∧ RA K H as p.2 q.2) kvs gs) (k : List Nat) {v : AV} {v' : V} (rv : RA K H as v v') :
    Paired (fun (p : List Nat × AV) (q : Key × V) => q.1 = .inr (sS p.1) ∧ RA K H as p.2 q.2) (kvs.map (fun kv => if kv.1 = k then (kv.1, v) else kv)) (gs.map (fun kv => if kv.1 = (Sum.inr (sS k) : Key) then (kv.1, v') else kv)) := by
  induction h with
  | nil => exact .nil
  | @cons p q r1 r2 z t ih =>
    obtain ⟨g, w⟩ := p
    obtain ⟨y, w'⟩ := q
    obtain ⟨z1, z2⟩ := z
    simp only at z1 z2
    subst z1
    rw [List.map_cons, List.map_cons]
    refine .cons ?_ ih
    simp only [key_dec]
    split
    · exact ⟨rfl, rv⟩
    · exact ⟨rfl, z2⟩
theorem dict_put {kvs : List (List Nat × AV)} {gs : List (Key × V)} {K : PySem.W.Frag} {H : Hp} {as : List Addr} (h : Paired (fun (p : List Nat × AV) (q : Key × V) => q.1 = .inr (sS p.1) ∧ RA K H as p.2 q.2) kvs gs) (k : List Nat) {v : AV} {v' : V} (rv : RA K H as v v') :
    Paired (fun (p : List Nat × AV) (q : Key × V) => q.1 = .inr (sS p.1) ∧ RA K H as p.2 q.2) (putD k v kvs) (putK gs (Sum.inr (sS k) : Key) v') := by
  unfold putD putK
  rw [any_key h k]
  split
  · exact dict_map h k rv
  · exact prd_app h (.cons ⟨rfl, rv⟩ .nil)
theorem ds_dput {i : Expr} {ci : E} (hu : X.A.units + 1 < cLine) (ho : DE N G X a ca) (hi : DE N G X i ci) (he : DE N G X e ce) (hs : swapsWith e (some (.Subscript a i pos')) pos.line X.env = pure false := by rfl) :
    DS N G X (.Assign [.Subscript a i pos'] e pos) (.asg (.idx ca ci) ce) := PS.imp (ps_dput hu ho hi he hs) fun D σ H q => by
  obtain ⟨as, ls, S, r, S', rh, rs, e, k⟩ := q
  simp only [evC, asgL] at e
  obtain ⟨x, S1, e1, e2⟩ := bind_of e
  obtain ⟨l, S2, e3, e4⟩ := bind_of e2
  obtain ⟨y, S3, e5, e6⟩ := bind_of e3
  obtain ⟨z, S4, e7, e8⟩ := bind_of e6
  obtain ⟨u, S5, e9, e10⟩ := bind_of e8
  cases e10; cases e4
  refine ⟨as, ls, S, x, S1, rh, rs, e1, fun H1 as1 x' ex rr ra => ⟨as1, ls, S1, y, S3, rr, rs.mono ex, e5, fun H2 as2 y' ex2 rr2 ry => ⟨as2, ls, S3, z, S4, rr2, (rs.mono ex).mono ex2, e7, fun H3 as3 z' ex3 rr3 rz => ?_⟩⟩⟩
  have ry := ry.mono ex3
  have rx := (ra.mono ex2).mono ex3
  cases ry with
  | @ref n p hn =>
    cases rz with
    | str kk =>
      simp only [setI] at e9
      split at e9
      · rename_i kvs hS
        split at e9
        · rename_i hlt
          cases e9
          obtain ⟨gs, hH, pr⟩ := rr3.ob n p _ hn hS
          have hl := prd_len pr
          have hz : gs.length < sizeLine := small_line' (by have : line = 1000000 := rfl; omega)
          have ext : Ext X.K H3 as3 (upd H3 p (.dK (putK gs (Sum.inr (sS kk) : Key) x'))) as3 := Ext.same (not_tup hH (fun _ z => nomatch z) fun _ _ z => nomatch z)
          have w := rr3.write (o' := .dic (putD kk x kvs)) (u := .dK (putK gs (Sum.inr (sS kk) : Key) x')) hn hS rfl rfl (not_tup hH (fun _ z => nomatch z) fun _ _ z => nomatch z) (fun ob vs z => by rw [hH] at z; cases z)
            ⟨_, upd_same, prd_imp (dict_put pr kk rx) fun _ _ z => ⟨z.1, z.2.mono ext⟩⟩
          exact ⟨p, _, rfl, DPut.k (k := (Sum.inr (sS kk) : Key)) hH hz, k.nx (((ex.trans ex2).trans ex3).trans w.2) w.1 ((((rs.mono ex).mono ex2).mono ex3).mono w.2)⟩
        · cases e9
      · cases e9
    | _ => simp only [setI] at e9; cases e9
  | _ => simp only [setI] at e9; cases e9

/-! op= -/
theorem ds_augN_add {i : Nat} {x : Str} (hN : X.N.Nodup) (hi : X.N[i]? = some x) (hx : Loc X.env.scope x) (he : DE N G X e ce) (hf : X.fn x = true ∨ X.env.scope.names.lookup x = some .local := by first | exact .inl rfl | exact .inr rfl | assumption) :
    DS N G X (.AugAssign (.Name x pos') .Add e pos) (.augN i .add ce) := PS.imp (ps_aug (ti := rAdd) hN hi hx he in_add hf) fun D σ H q => by
  obtain ⟨as, ls, S, r, S', rh, rs, e, k⟩ := q
  simp only [evC] at e
  split at e
  · rename_i x hx
    obtain ⟨y, S1, e1, e2⟩ := bind_of e
    obtain ⟨x', h1, h2⟩ := rs.at_ i _ hx
    cases h2
    refine ⟨_, h1, as, ls, S, y, S1, rh, rs, e1, fun H1 as1 y' ex rr ra => ?_⟩
    cases ra with
    | int j => cases e2; exact ⟨_, _, rfl, rfl, k.nx ex rr ((rs.mono ex).set i (.int _))⟩
    | _ => cases e2
  · cases e
theorem ds_augN_sub {i : Nat} {x : Str} (hN : X.N.Nodup) (hi : X.N[i]? = some x) (hx : Loc X.env.scope x) (he : DE N G X e ce) (hf : X.fn x = true ∨ X.env.scope.names.lookup x = some .local := by first | exact .inl rfl | exact .inr rfl | assumption) :
    DS N G X (.AugAssign (.Name x pos') .Sub e pos) (.augN i .sub ce) := PS.imp (ps_aug (ti := rSub) hN hi hx he in_sub hf) fun D σ H q => by
  obtain ⟨as, ls, S, r, S', rh, rs, e, k⟩ := q
  simp only [evC] at e
  split at e
  · rename_i x hx
    obtain ⟨y, S1, e1, e2⟩ := bind_of e
    obtain ⟨x', h1, h2⟩ := rs.at_ i _ hx
    cases h2
    refine ⟨_, h1, as, ls, S, y, S1, rh, rs, e1, fun H1 as1 y' ex rr ra => ?_⟩
    cases ra with
    | int j => cases e2; exact ⟨_, _, rfl, rfl, k.nx ex rr ((rs.mono ex).set i (.int _))⟩
    | _ => cases e2
  · cases e
theorem ds_augF_add {f : Nat} {x : Str} (hx : x = N.fn f) (ho : DE N G X a ca) (he : DE N G X e ce) (hcls : ∀ C, Cls X.K (N.cls C) ∧ NoAttr X.K (N.cls C) x) : DS N G X (.AugAssign (.Attribute a x pos') .Add e pos) (.augF ca f .add ce) := by
  subst hx
  refine PS.imp (ps_fldaug ho he in_add) fun D σ H q => ?_
  obtain ⟨as, ls, S, r, S', rh, rs, e, k⟩ := q
  simp only [evC] at e
  obtain ⟨x, S1, e1, e2⟩ := bind_of e
  obtain ⟨w, S2, e3, e4⟩ := bind_of e2
  obtain ⟨y, S3, e5, e6⟩ := bind_of e4
  refine ⟨as, ls, S, x, S1, rh, rs, e1, fun H1 as1 x' ex rr ra => ?_⟩
  cases ra with
  | @ref n p hn =>
    simp only [getF] at e3
    split at e3
    · rename_i C fs hS
      split at e3
      · rename_i w' hlk
        cases e3
        obtain ⟨dx, gs, hH, pr⟩ := rr.ob n p _ hn hS
        obtain ⟨w2, h1, h2⟩ := attr_get pr hlk
        refine ⟨p, N.cls C, dx, gs, w2, rfl, hH, (hcls C).1, (hcls C).2, h1, as1, ls, _, y, S3, rr, rs.mono ex, e5, fun H2 as2 y' ex2 rr2 ry => ?_⟩
        have h2 := h2.mono ex2
        cases h2 with
        | int i =>
          cases ry with
          | int j =>
            obtain ⟨hcl, e6⟩ : clsOf (.ref n) _ = clsOf (.ref n) S3 ∧ _ := by
              split at e6
              · rename_i hcl; exact ⟨hcl, e6⟩
              · cases e6
            obtain ⟨u, S5, e9, e10⟩ := bind_of e6
            cases e10
            obtain ⟨p', C', dx', gs', e11, hH', hl, rh3, ex3⟩ := setF_ok rr2 (.ref (ex2.pre _ _ hn)) (.int (i + j)) e9
            cases e11
            have hC : N.cls C' = N.cls C := by
              cases hS3 : S3[n]? with
              | none => simp only [setF, hS3] at e9; cases e9
              | some o3 =>
                cases o3 with
                | ins C2 fs2 =>
                  obtain ⟨dx2, gs2, hH2, _⟩ := rr2.ob n p _ (ex2.pre _ _ hn) hS3
                  rw [hH'] at hH2
                  have hcc : C = C2 := by simpa [clsOf, hS, hS3] using hcl
                  rw [hcc]
                  injection hH2 with hH2
                  injection hH2 with h1
                | _ => simp only [setF, hS3] at e9; cases e9
            refine ⟨i, j, rfl, rfl, dx', gs', hC ▸ hH', hl, k.nx ((ex.trans ex2).trans (hC ▸ ex3)) (hC ▸ rh3) (((rs.mono ex).mono ex2).mono (hC ▸ ex3))⟩
          | _ => split at e6 <;> cases e6
        | _ => split at e6 <;> cases e6
      · cases e3
    · cases e3
  | _ => simp only [getF] at e3; cases e3
end
end NM
set_option Elab.async false
set_option linter.all false
set_option maxRecDepth 100000
set_option maxHeartbeats 4000000
/-! NmE: loops and comprehensions by data. -/
namespace NM
open PySem PySem.Spec L2

/-- an iterator that gives these items while the guard stands -/
structure WkD (N : Nam) (K : PySem.W.Frag) (J : L2.It) (xs : List AV) (gd : Gd) (H0 : Hp) (as0 : List Addr) : Prop where
  go : ∀ i H as S, i < xs.length → Ext K H0 as0 H as → RH N K H as S → gdOk gd S = true → J.go i H
  stop : ∀ H as S, Ext K H0 as0 H as → RH N K H as S → gdOk gd S = true → J.stop xs.length H
  yld : ∀ i H as S x' H', i < xs.length → Ext K H0 as0 H as → RH N K H as S → gdOk gd S = true → J.yld i H x' H' → ∃ x, xs[i]? = some x ∧ RA K H' as x x' ∧ RH N K H' as S ∧ Ext K H as H' as
def tDI (N : Nam) (K : PySem.W.Frag) (f : Ls → Hh → Res (List AV × Gd)) : TI := fun σ H R => ∃ as ls S w S', RH N K H as S ∧ RS K H as ls σ ∧ f ls S = .ok w S' ∧ ∀ J H' as', Ext K H as H' as' → RH N K H' as' S' → WkD N K J w.1 w.2 H' as' → R J H'
def DI (N : Nam) (G : Gam) (X : Cx) (tg it : Expr) (c : NM.It) : Prop := PI X tg it (tDI N X.K (evIt G c))
theorem PI.imp {X : Cx} {tg e : Expr} {t t' : TI} (h : PI X tg e t) (i : ∀ σ H R, t' σ H R → t σ H R) : PI X tg e t' := ⟨fun pins s σ H R I q => h.run pins s σ H R I (i σ H R q)⟩
section
variable {N : Nam} {G : Gam} {X : Cx} {a b c e : Expr} {ca cb ce : E} {pos p pos' : Pos} {es : List Expr} {cs : List E}

theorem drop_cons {α : Type} {xs : List α} {i : Nat} {x : α} (h : xs[i]? = some x) : xs.drop i = x :: xs.drop (i + 1) := by
  obtain ⟨hi, e⟩ := List.getElem?_eq_some_iff.mp h
  rw [List.drop_eq_getElem_cons hi, e]
theorem forGo_ok {g : AV → Ls → Hh → Res (Fl × Ls)} {gs : Gd} {xs : List AV} {ls : Ls} {S S' : Hh} {r : Fl × Ls} (h : forGo g gs xs ls S = .ok r S') : gdOk gs S = true := by
  cases xs <;> simp only [forGo] at h <;> split at h <;> first | assumption | cases h
theorem ds_for {tg : Expr} {it : Expr} {body : List Stmt} {t : Tg} {ci : NM.It} {cb : List C} (hp : PassesOwn (model X.prog X.w) X.A X.env X.xe) (hc : X.calm = true) (hi : DI N G X tg it ci) (hg : DTg X tg t) (hb : DSs N G X body cb)
    (hs : ∀ x, foldedSetIterable it X.env x = pure x := by intro _; rfl) : DS N G X (.For tg it body [] pos) (.forr t ci cb) := PS.imp (ps_for hp hc hi hg hb hs) fun D σ H q => by
  obtain ⟨as, ls, S, r, S', rh, rs, e, k⟩ := q
  simp only [evC] at e
  obtain ⟨w, S1, e1, e2⟩ := bind_of e
  refine ⟨as, ls, S, w, S1, rh, rs, e1, fun J H1 as1 ex1 rh1 wk => ?_⟩
  generalize hgg : (fun x ls S => match asgT t x ls S with | some ls' => evCs G cb ls' S | none => Res.bad) = gg at e2
  refine ⟨fun i m σ H => i ≤ w.1.length ∧ m = w.1.length - i ∧ ∃ as ls S, Ext X.K H1 as1 H as ∧ RH N X.K H as S ∧ RS X.K H as ls σ ∧ forGo gg w.2 (w.1.drop i) ls S = .ok r S', ⟨_, Nat.zero_le _, rfl, as1, ls, S1, Ext.refl, rh1, rs.mono ex1, e2⟩, ?_⟩
  rintro i m σ2 H2 ⟨hi2, rfl, as2, ls2, S2, ex2, rh2, rs2, e3⟩
  have hgd := forGo_ok e3
  by_cases hlt : i < w.1.length
  · refine .inr ⟨wk.go i H2 as2 S2 hlt ex2 rh2 hgd, fun σ' H' => i + 1 ≤ w.1.length ∧ ∃ as ls S, Ext X.K H1 as1 H' as ∧ RH N X.K H' as S ∧ RS X.K H' as ls σ' ∧ forGo gg w.2 (w.1.drop (i + 1)) ls S = .ok r S', fun σ' H' h => ⟨w.1.length - (i + 1), by omega, h.1, rfl, h.2⟩, fun x' H3 y => ?_⟩
    obtain ⟨x, hx, ra, rh3, ex3⟩ := wk.yld i H2 as2 S2 x' H3 hlt ex2 rh2 hgd y
    rw [drop_cons hx] at e3
    simp only [forGo, hgd, if_true] at e3
    obtain ⟨⟨f, l⟩, S4, e4, e5⟩ := bind_of e3
    rw [← hgg] at e4
    simp only at e4
    cases hat : asgT t x ls2 S2 with
    | none => rw [hat] at e4; cases e4
    | some l2 =>
      rw [hat] at e4
      refine ⟨as2, ls2, x, l2, rs2.mono ex3, ra, by rw [asgT_heap _ _ _ [] S2]; exact hat, fun σ4 rs4 _ => ⟨as2, l2, S2, (f, l), S4, rh3, rs4, e4, ?_⟩⟩
      have exA := (ex2.trans ex3)
      cases f with
      | nx => exact fun H5 as5 σ5 ex5 rh5 rs5 => ⟨hlt, as5, l, S4, exA.trans ex5, rh5, rs5, e5⟩
      | ct => exact fun H5 as5 σ5 ex5 rh5 rs5 => ⟨hlt, as5, l, S4, exA.trans ex5, rh5, rs5, e5⟩
      | bk => cases e5; exact fun H5 as5 σ5 ex5 rh5 rs5 => k.nx ((ex1.trans exA).trans ex5) rh5 rs5
      | rt v => cases e5; exact (k.from (ex1.trans exA))
  · have : i = w.1.length := by omega
    subst this
    rw [List.drop_length] at e3
    simp only [forGo, hgd, if_true] at e3
    cases e3
    exact .inl ⟨wk.stop H2 as2 _ ex2 rh2 hgd, k.nx (ex1.trans ex2) rh2 rs2⟩
theorem ds_whl {ct : T} {body : List Stmt} {cb : List C} (hp : PassesOwn (model X.prog X.w) X.A X.env X.xe) (hc : DT N G X c ct) (hb : DSs N G X body cb) : DS N G X (.While c body [] pos) (.whl ct cb) := PS.imp (ps_while hp hc hb) fun D σ H q => by
  obtain ⟨as, ls, S, r, S', rh, rs, e, k⟩ := q
  simp only [evC, whR] at e
  split at e
  · rename_i h
    have hw := h.choose_spec
    generalize h.choose = z at e hw
    obtain ⟨n, r2, S3⟩ := z
    cases e
    refine ⟨fun m σ2 H2 => ∃ as2 ls2 S2, Ext X.K H as H2 as2 ∧ RH N X.K H2 as2 S2 ∧ RS X.K H2 as2 ls2 σ2 ∧ Wh (evT G ct) (evCs G cb) m ls2 S2 r2 S3, ⟨n, as, ls, S, Ext.refl, rh, rs, hw⟩, ?_⟩
    rintro m σ2 H2 ⟨as2, ls2, S2, ex2, rh2, rs2, hw2⟩
    cases hw2 with
    | done e1 => exact ⟨as2, ls2, S2, false, _, rh2, rs2, e1, fun H3 as3 ex3 rh3 => k.nx (ex2.trans ex3) rh3 (rs2.mono ex3)⟩
    | next e1 e2 w3 => exact ⟨as2, ls2, S2, true, _, rh2, rs2, e1, fun H3 as3 ex3 rh3 => ⟨fun σ' H' => ∃ as4 ls4 S4, Ext X.K H as H' as4 ∧ RH N X.K H' as4 S4 ∧ RS X.K H' as4 ls4 σ' ∧ Wh (evT G ct) (evCs G cb) _ ls4 S4 r2 S3, fun σ' H' h => ⟨_, Nat.lt_succ_self _, h⟩, as3, ls2, _, _, _, rh3, rs2.mono ex3, e2,
        fun H5 as5 σ5 ex5 rh5 rs5 => ⟨as5, _, _, (ex2.trans ex3).trans ex5, rh5, rs5, w3⟩⟩⟩
    | cont e1 e2 w3 => exact ⟨as2, ls2, S2, true, _, rh2, rs2, e1, fun H3 as3 ex3 rh3 => ⟨fun σ' H' => ∃ as4 ls4 S4, Ext X.K H as H' as4 ∧ RH N X.K H' as4 S4 ∧ RS X.K H' as4 ls4 σ' ∧ Wh (evT G ct) (evCs G cb) _ ls4 S4 r2 S3, fun σ' H' h => ⟨_, Nat.lt_succ_self _, h⟩, as3, ls2, _, _, _, rh3, rs2.mono ex3, e2,
        fun H5 as5 σ5 ex5 rh5 rs5 => ⟨as5, _, _, (ex2.trans ex3).trans ex5, rh5, rs5, w3⟩⟩⟩
    | brk e1 e2 => exact ⟨as2, ls2, S2, true, _, rh2, rs2, e1, fun H3 as3 ex3 rh3 => ⟨fun _ _ => False, fun _ _ h => h.elim, as3, ls2, _, _, _, rh3, rs2.mono ex3, e2, fun H5 as5 σ5 ex5 rh5 rs5 => k.nx ((ex2.trans ex3).trans ex5) rh5 rs5⟩⟩
    | ret e1 e2 => exact ⟨as2, ls2, S2, true, _, rh2, rs2, e1, fun H3 as3 ex3 rh3 => ⟨fun _ _ => False, fun _ _ h => h.elim, as3, ls2, _, _, _, rh3, rs2.mono ex3, e2, k.from (ex2.trans ex3)⟩⟩
  · cases e

/-! comprehensions -/
theorem lcGo_ok {g : AV → Hh → Res (Option AV)} {gs : Gd} {D : Nat} {xs : List AV} {S S' : Hh} (h : lcGo g gs D xs S = .ok () S') : gdOk gs S = true := by
  cases xs <;> simp only [lcGo] at h <;> split at h <;> first | assumption | cases h
theorem dcGo_ok {g : AV → Hh → Res (Option (AV × AV))} {gs : Gd} {D : Nat} {xs : List AV} {S S' : Hh} (h : dcGo g gs D xs S = .ok () S') : gdOk gs S = true := by
  cases xs <;> simp only [dcGo] at h <;> split at h <;> first | assumption | cases h
def DTs (N : Nam) (G : Gam) (X : Cx) (ifs : List Expr) (cts : List T) : Prop := PTs X ifs (tDT N X.K (evTs G cts))
theorem PTs.imp {X : Cx} {e : List Expr} {t t' : TT} (h : PTs X e t) (i : ∀ σ H Q, t' σ H Q → t σ H Q) : PTs X e t' := ⟨fun pins s σ H Q I q => h.run pins s σ H Q I (i σ H Q q)⟩
theorem dts_nil : DTs N G X [] [] := PTs.imp pts_nil fun σ H Q q => by
  obtain ⟨as, ls, S, b, S', r, rs, e, k⟩ := q
  cases e
  exact k H as Ext.refl r
theorem dts_one {ct : T} (h : DT N G X c ct) : DTs N G X [c] [ct] := PTs.imp (pts_one h) fun σ H Q q => by
  obtain ⟨as, ls, S, b, S', r, rs, e, k⟩ := q
  simp only [evTs] at e
  obtain ⟨t, S1, e1, e2⟩ := bind_of e
  refine ⟨as, ls, S, t, S1, r, rs, e1, fun H' as' ex rr => ?_⟩
  cases t with
  | true => cases e2; exact k H' as' ex rr
  | false => cases e2; exact k H' as' ex rr
theorem lc_imp {K : PySem.W.Frag} {σ : L2.St} {H : Hp} {Q : VK} {elt : E} {t : Tg} {ci : NM.It} {cts : List T} {own : List Nat} (hown : ∀ i ∈ tgN t, i ∈ own) (q : tD N K (ev G (.lc elt t ci cts own)) σ H Q) :
    tLc (tDI N K (evIt G ci)) (gT K t) (tDT N K (evTs G cts)) (tD N K (ev G elt)) own σ H Q := by
  obtain ⟨as, ls, S, v, S', rh, rs, e, k⟩ := q
  simp only [ev] at e
  obtain ⟨w, S1, e1, e2⟩ := bind_of e
  obtain ⟨u, S2, e3, e4⟩ := bind_of e2
  cases e4
  refine ⟨as, ls, S, w, S1, rh, rs, e1, fun J H1 as1 ex1 rh1 wk D hD => ?_⟩
  generalize hgg : (fun x S => match asgT t x (wipeA ls own) S with
        | some ls' => (evTs G cts ls' S).bind fun b S => if b = true then (ev G elt ls' S).bind fun y S => .ok (some y) S else .ok none S
        | none => Res.bad) = gg at e3
  have exD : Ext K H1 as1 (upd H1 D (.lst [])) (as1 ++ [D]) := Ext.new hD _
  have rhD := rh1.alloc (o := .lst []) (u := .lst []) hD rfl ⟨[], upd_same, .nil⟩
  have hDn : (as1 ++ [D])[S1.length]? = some D := by rw [← rh1.len]; simp
  refine ⟨fun i m H => i ≤ w.1.length ∧ m = w.1.length - i ∧ ∃ as S, Ext K (upd H1 D (.lst [])) (as1 ++ [D]) H as ∧ RH N K H as S ∧ lcGo gg w.2 S1.length (w.1.drop i) S = .ok () S', ⟨_, Nat.zero_le _, rfl, _, _, Ext.refl, rhD, e3⟩, ?_⟩
  rintro i m H2 ⟨hi2, rfl, as2, S3, ex2, rh2, e5⟩
  have hgd := lcGo_ok e5
  have exA := (ex1.trans exD).trans ex2
  by_cases hlt : i < w.1.length
  · refine .inr ⟨wk.go i H2 as2 S3 hlt (exD.trans ex2) rh2 hgd, fun H' => i + 1 ≤ w.1.length ∧ ∃ as S, Ext K (upd H1 D (.lst [])) (as1 ++ [D]) H' as ∧ RH N K H' as S ∧ lcGo gg w.2 S1.length (w.1.drop (i + 1)) S = .ok () S', fun H' h => ⟨w.1.length - (i + 1), by omega, h.1, rfl, h.2⟩, fun x' H3 y => ?_⟩
    obtain ⟨x, hx, ra, rh3, ex3⟩ := wk.yld i H2 as2 S3 x' H3 hlt (exD.trans ex2) rh2 hgd y
    rw [drop_cons hx] at e5
    simp only [lcGo, hgd, if_true] at e5
    obtain ⟨o, S4, e6, e7⟩ := bind_of e5
    rw [← hgg] at e6
    simp only at e6
    cases hat : asgT t x (wipeA ls own) S3 with
    | none => rw [hat] at e6; cases e6
    | some l2 =>
      rw [hat] at e6
      obtain ⟨b, S5, e8, e9⟩ := bind_of e6
      refine ⟨as2, wipeA ls own, x, l2, ((rs.mono exA).mono ex3).wipe own, ra, by rw [asgT_heap _ _ _ [] S3]; exact hat, fun σ4 rs4 hw => ⟨?_, as2, l2, S3, b, S5, rh3, rs4, e8, fun H4 as4 ex4 rh4 => ?_⟩⟩
      · rw [hw own hown]
        have : ∀ vs (τ : L2.St), (∀ v ∈ vs, v ∈ own) → L2.wipe (L2.wipe σ own) vs = L2.wipe σ own := fun vs => by
          induction vs with
          | nil => intro _ _; rfl
          | cons v vs ih =>
            intro τ h
            simp only [L2.wipe]
            rw [ih τ fun v hv => h v (List.mem_cons_of_mem _ hv)]
            have key : ∀ ws : List Nat, v ∈ ws → (L2.wipe σ ws).set v none = L2.wipe σ ws := fun ws => by
              induction ws with
              | nil => intro h; cases h
              | cons u us ihu =>
                intro h
                simp only [L2.wipe]
                by_cases huv : v = u
                · rw [huv, List.set_set]
                · rw [List.set_comm _ _ (Ne.symm huv), ihu ((List.mem_cons.mp h).resolve_left huv)]
            exact key own (h v List.mem_cons_self)
        exact this own σ fun _ h => h
      · cases b with
        | false =>
          cases e9
          exact ⟨hlt, as4, _, (ex2.trans ex3).trans ex4, rh4, e7⟩
        | true =>
          simp only [if_true] at e9 ⊢
          obtain ⟨yv, S6, e10, e11⟩ := bind_of e9
          cases e11
          refine ⟨as4, l2, S5, yv, _, rh4, rs4.mono ex4, e10, fun H5 as5 y' ex5 rh5 ry => ?_⟩
          simp only at e7
          split at e7
          · rename_i acc hacc
            split at e7
            · rename_i hlen
              have hDa : as5[S1.length]? = some D := ex5.pre _ _ (ex4.pre _ _ (ex3.pre _ _ (ex2.pre _ _ hDn)))
              obtain ⟨acc', hH, pr⟩ := rh5.ob _ _ _ hDa hacc
              have hl := prd_len pr
              have ext : Ext K H5 as5 (upd H5 D (.lst (acc' ++ [y']))) as5 := Ext.same (not_tup hH (fun _ z => nomatch z) fun _ _ z => nomatch z)
              have wr := rh5.write (o' := .lst (acc ++ [yv])) (u := .lst (acc' ++ [y'])) hDa hacc rfl rfl (not_tup hH (fun _ z => nomatch z) fun _ _ z => nomatch z) (fun ob vs z => by rw [hH] at z; cases z) ⟨_, upd_same, RL.mono ext (prd_app pr (.cons ry .nil))⟩
              exact ⟨acc', hH, small_line' (by have : line = 1000000 := rfl; omega), hlt, as5, _, (((ex2.trans ex3).trans ex4).trans ex5).trans wr.2, wr.1, e7⟩
            · cases e7
          · cases e7
  · have : i = w.1.length := by omega
    subst this
    rw [List.drop_length] at e5
    simp only [lcGo, hgd, if_true] at e5
    cases e5
    exact .inl ⟨wk.stop H2 as2 _ (exD.trans ex2) rh2 hgd, k _ _ _ exA rh2 (.ref (ex2.pre _ _ hDn))⟩
theorem dc_imp {K : PySem.W.Frag} {σ : L2.St} {H : Hp} {Q : VK} {kx elt : E} {t : Tg} {ci : NM.It} {cts : List T} {own : List Nat} (hown : ∀ i ∈ tgN t, i ∈ own) (q : tD N K (ev G (.dc kx elt t ci cts own)) σ H Q) :
    tDc (tDI N K (evIt G ci)) (gT K t) (tDT N K (evTs G cts)) (tD N K (ev G kx)) (tD N K (ev G elt)) own σ H Q := by
  obtain ⟨as, ls, S, v, S', rh, rs, e, k⟩ := q
  simp only [ev] at e
  obtain ⟨w, S1, e1, e2⟩ := bind_of e
  obtain ⟨u, S2, e3, e4⟩ := bind_of e2
  cases e4
  refine ⟨as, ls, S, w, S1, rh, rs, e1, fun J H1 as1 ex1 rh1 wk D hD => ?_⟩
  generalize hgg : (fun x S => match asgT t x (wipeA ls own) S with
        | some ls' => (evTs G cts ls' S).bind fun b S => if b = true then (ev G kx ls' S).bind fun kk S => (ev G elt ls' S).bind fun y S => .ok (some (kk, y)) S else .ok none S
        | none => Res.bad) = gg at e3
  have exD : Ext K H1 as1 (upd H1 D (.dK [])) (as1 ++ [D]) := Ext.new hD _
  have rhD := rh1.alloc (o := .dic []) (u := .dK []) hD rfl ⟨[], upd_same, .nil⟩
  have hDn : (as1 ++ [D])[S1.length]? = some D := by rw [← rh1.len]; simp
  refine ⟨fun i m H => i ≤ w.1.length ∧ m = w.1.length - i ∧ ∃ as S, Ext K (upd H1 D (.dK [])) (as1 ++ [D]) H as ∧ RH N K H as S ∧ dcGo gg w.2 S1.length (w.1.drop i) S = .ok () S', ⟨_, Nat.zero_le _, rfl, _, _, Ext.refl, rhD, e3⟩, ?_⟩
  rintro i m H2 ⟨hi2, rfl, as2, S3, ex2, rh2, e5⟩
  have hgd := dcGo_ok e5
  have exA := (ex1.trans exD).trans ex2
  by_cases hlt : i < w.1.length
  · refine .inr ⟨wk.go i H2 as2 S3 hlt (exD.trans ex2) rh2 hgd, fun H' => i + 1 ≤ w.1.length ∧ ∃ as S, Ext K (upd H1 D (.dK [])) (as1 ++ [D]) H' as ∧ RH N K H' as S ∧ dcGo gg w.2 S1.length (w.1.drop (i + 1)) S = .ok () S', fun H' h => ⟨w.1.length - (i + 1), by omega, h.1, rfl, h.2⟩, fun x' H3 y => ?_⟩
    obtain ⟨x, hx, ra, rh3, ex3⟩ := wk.yld i H2 as2 S3 x' H3 hlt (exD.trans ex2) rh2 hgd y
    rw [drop_cons hx] at e5
    simp only [dcGo, hgd, if_true] at e5
    obtain ⟨o, S4, e6, e7⟩ := bind_of e5
    rw [← hgg] at e6
    simp only at e6
    cases hat : asgT t x (wipeA ls own) S3 with
    | none => rw [hat] at e6; cases e6
    | some l2 =>
      rw [hat] at e6
      obtain ⟨b, S5, e8, e9⟩ := bind_of e6
      refine ⟨as2, wipeA ls own, x, l2, ((rs.mono exA).mono ex3).wipe own, ra, by rw [asgT_heap _ _ _ [] S3]; exact hat, fun σ4 rs4 hw => ⟨?_, as2, l2, S3, b, S5, rh3, rs4, e8, fun H4 as4 ex4 rh4 => ?_⟩⟩
      · rw [hw own hown]
        have : ∀ vs (τ : L2.St), (∀ v ∈ vs, v ∈ own) → L2.wipe (L2.wipe σ own) vs = L2.wipe σ own := fun vs => by
          induction vs with
          | nil => intro _ _; rfl
          | cons v vs ih =>
            intro τ h
            simp only [L2.wipe]
            rw [ih τ fun v hv => h v (List.mem_cons_of_mem _ hv)]
            have key : ∀ ws : List Nat, v ∈ ws → (L2.wipe σ ws).set v none = L2.wipe σ ws := fun ws => by
              induction ws with
              | nil => intro h; cases h
              | cons u us ihu =>
                intro h
                simp only [L2.wipe]
                by_cases huv : v = u
                · rw [huv, List.set_set]
                · rw [List.set_comm _ _ (Ne.symm huv), ihu ((List.mem_cons.mp h).resolve_left huv)]
            exact key own (h v List.mem_cons_self)
        exact this own σ fun _ h => h
      · cases b with
        | false =>
          cases e9
          exact ⟨hlt, as4, _, (ex2.trans ex3).trans ex4, rh4, e7⟩
        | true =>
          simp only [if_true] at e9 ⊢
          obtain ⟨kv, S6, e10, e11⟩ := bind_of e9
          obtain ⟨yv, S7, e12, e13⟩ := bind_of e11
          cases e13
          refine ⟨as4, l2, S5, kv, S6, rh4, rs4.mono ex4, e10, fun H5 as5 k' ex5 rh5 rk => ⟨as5, l2, S6, yv, _, rh5, (rs4.mono ex4).mono ex5, e12, fun H6 as6 y' ex6 rh6 ry => ?_⟩⟩
          simp only at e7
          have rk := rk.mono ex6
          cases rk with
          | str kk =>
            split at e7
            · rename_i kk2 kvs hkk hacc
              cases hkk
              split at e7
              · rename_i hlen
                have hDa : as6[S1.length]? = some D := ex6.pre _ _ (ex5.pre _ _ (ex4.pre _ _ (ex3.pre _ _ (ex2.pre _ _ hDn))))
                obtain ⟨gs, hH, pr⟩ := rh6.ob _ _ _ hDa hacc
                have hl := prd_len pr
                have ext : Ext K H6 as6 (upd H6 D (.dK (putK gs (Sum.inr (sS kk) : Key) y'))) as6 := Ext.same (not_tup hH (fun _ z => nomatch z) fun _ _ z => nomatch z)
                have wr := rh6.write (o' := .dic (putD kk yv kvs)) (u := .dK (putK gs (Sum.inr (sS kk) : Key) y')) hDa hacc rfl rfl (not_tup hH (fun _ z => nomatch z) fun _ _ z => nomatch z) (fun ob vs z => by rw [hH] at z; cases z) ⟨_, upd_same, prd_imp (dict_put pr kk ry) fun _ _ z => ⟨z.1, z.2.mono ext⟩⟩
                exact ⟨gs, Sum.inr (sS kk), rfl, hH, small_line' (by have : line = 1000000 := rfl; omega), hlt, as6, _, ((((ex2.trans ex3).trans ex4).trans ex5).trans ex6).trans wr.2, wr.1, e7⟩
              · cases e7
            · cases e7
          | _ => cases e7
  · have : i = w.1.length := by omega
    subst this
    rw [List.drop_length] at e5
    simp only [dcGo, hgd, if_true] at e5
    cases e5
    exact .inl ⟨wk.stop H2 as2 _ (exD.trans ex2) rh2 hgd, k _ _ _ exA rh2 (.ref (ex2.pre _ _ hDn))⟩
end
end NM
set_option Elab.async false
set_option linter.all false
set_option maxRecDepth 100000
set_option maxHeartbeats 4000000
/-! NmF: what is walked: enumerate and zip of tuples and lists in any mix; the iterables by data. -/
namespace NMW
open PySem PySem.Spec L2

/-- a list (false) or a tuple (true): its iterator, its object, its items -/
def SI (b : Bool) (h : Heap) (it a : Addr) (i : Nat) : Prop := match b with | true => h.IsTupleIter it a i | false => h.IsListIter it a i
def SO (b : Bool) (h : Heap) (a : Addr) (its : Array Value) : Prop := match b with | true => h.IsTuple a its | false => h.IsList a its
def SV (K : PySem.W.Frag) (H : Hp) (b : Bool) (a : Addr) (xs : List V) : Prop := match b with | true => SqT K H a xs | false => SqL K H a xs
theorem si_at {b : Bool} {h h' : Heap} {it a : Addr} {i : Nat} (x : SI b h it a i) (k : ∀ o, h.get? it = some o → h'.get? it = some o) : SI b h' it a i := by
  cases b
  · exact Heap.IsListIter.at x k
  · exact Heap.IsTupleIter.at x k
theorem si_obj {b : Bool} {h : Heap} {it a : Addr} {i : Nat} (x : SI b h it a i) : ∃ o c vs, h.get? it = some o ∧ o.cls = .type c ∧ o.data = .fields vs ∧ (c = "list_iterator" ∨ c = "tuple_iterator") := by
  cases b
  · obtain ⟨o, e, c, d⟩ := x; exact ⟨o, _, _, e, c, d, .inl rfl⟩
  · obtain ⟨o, e, c, d⟩ := x; exact ⟨o, _, _, e, c, d, .inr rfl⟩
theorem so_obj {b : Bool} {h : Heap} {a : Addr} {its : Array Value} (x : SO b h a its) : ∃ o vs n, h.get? a = some o ∧ o.data = .seq vs n := by
  cases b
  · obtain ⟨o, e, c, n, d⟩ := x; exact ⟨o, _, n, e, d⟩
  · obtain ⟨o, e, c, n, d⟩ := x; exact ⟨o, _, n, e, d⟩
theorem sv_obj {X : Cx} {pins : List (Addr × Obj)} {σ : L2.St} {H : Hp} {s : Shared} (I : Inv X pins σ H s) {b : Bool} {a : Addr} {xs : List V} (h : SV X.K H b a xs) : ∃ its : List Value, Vals xs its ∧ SO b s.heap a its.toArray := by
  cases b
  · obtain ⟨its, r, p, _⟩ := I.list h; exact ⟨its, r, p.isList⟩
  · obtain ⟨its, r, p, _⟩ := I.tuple h; exact ⟨its, r, p⟩
theorem sv_inj {X : Cx} {pins : List (Addr × Obj)} {σ : L2.St} {H : Hp} {s : Shared} (I : Inv X pins σ H s) {b : Bool} {a : Addr} {xs ys : List V} (h : SV X.K H b a xs) (h' : SV X.K H b a ys) : xs = ys := by
  cases b
  · exact I.list_inj h h'
  · exact I.tuple_inj h h'
theorem draws {P : Program} {w : World} {A : Around} (hh : A.handled = none) (b : Bool) (it a : Addr) (hne : a ≠ it) (its : Array Value) :
    Draws P w A it [it, a] its.size (fun i v => its[i]? = some v) (fun i h => SI b h it a i ∧ SO b h a its) := by
  cases b
  · exact Draws.list hh it a hne its
  · exact Draws.tuple hh it a hne its
def soO (b : Bool) (a : Addr) : Obj := match b with
  | true => { cls := .type "tuple_iterator", data := .fields #[.ref a, .int 0 0] }
  | false => { cls := .type "list_iterator", data := .fields #[.ref a, .int 0 0] }
theorem begins (b : Bool) (a : Addr) (its : Array Value) : Begins (.ref a) (soO b a) fun h => SO b h a its := by
  cases b
  · exact begins_list a its
  · exact begins_tuple a its
theorem si_new {b : Bool} {h : Heap} {it a : Addr} (e : h.get? it = some (soO b a)) : SI b h it a 0 := by
  cases b
  · exact ⟨_, e, rfl, rfl⟩
  · exact ⟨_, e, rfl, rfl⟩

/-! enumerate -/
def IteG (K : PySem.W.Frag) (b : Bool) (a : Addr) : L2.It :=
  ⟨fun i H => ∃ (xs : List V) (x : V), SV K H b a xs ∧ xs[i]? = some x, fun i H v H' => ∃ T x, v = .ref T ∧ H T = none ∧ H' = upd H T (.tup [.int (i : Nat), x]) ∧ ∀ xs, SV K H b a xs → xs[i]? = some x, fun i H => ∃ xs : List V, SV K H b a xs ∧ xs.length ≤ i⟩
theorem pair2 {b e it : Addr} (h : b ∈ [e, it]) : b = e ∨ b = it := by simpa using h
theorem turn_enumG {P : Program} {w : World} {K : PySem.W.Frag} {elts : List Expr} {kk : Nat} {tpos : Pos} (b : Bool) (a e it : Addr) :
    Turn P w K (.Tuple elts kk tpos) (IteG K b a) [e, it] e (fun i h => (∃ old, IsEnum h e it ((i : Nat) : Int) old) ∧ SI b h it a i ∧ e ≠ it) where
  mem := List.mem_cons_self
  obj := fun i h st c hc => by
    obtain ⟨⟨old, he⟩, hi, _⟩ := st
    rcases pair2 hc with z | z
    · subst z; exact ⟨_, he, fun v q => nomatch q⟩
    · subst z; obtain ⟨o, c, vs, e1, _, e2, _⟩ := si_obj hi; exact ⟨o, e1, fun v q => by rw [e2] at q; cases q⟩
  keep := fun i h h' st k => ⟨⟨st.1.choose, k e List.mem_cons_self _ st.1.choose_spec⟩, si_at st.2.1 fun o q => k it (by simp) o q, st.2.2⟩
  item := by
    intro X hP hw hK hc i pins s σ H E I hf st hg
    subst hP hw hK
    obtain ⟨⟨old, he⟩, hit, hne⟩ := st
    obtain ⟨xs, x, hq, hx⟩ := hg
    obtain ⟨its, rv, so⟩ := sv_obj I hq
    obtain ⟨u, hu, ru⟩ := rv.get hx
    obtain ⟨oi, ci, vi, ei1, ei2, ei3, ei4⟩ := si_obj hit
    obtain ⟨oa, va, na, ea1, ea2⟩ := so_obj so
    have hael : a ≠ it := fun z => by subst z; rw [ei1] at ea1; cases ea1; rw [ei3] at ea2; cases ea2
    have hae : e ≠ a := fun z => by subst z; have he' := he; unfold IsEnum at he'; rw [ea1] at he'; cases he'; cases ea2
    have hel : e < s.heap.objs.size := Heap.lt_size he
    have hil : it < s.heap.objs.size := Heap.lt_size ei1
    have hsz : its.toArray.size = its.length := List.size_toArray ..
    have hlt : i < its.toArray.size := by rw [hsz]; exact (List.getElem?_eq_some_iff.mp hu).1
    refine wpAny_pyNext_enum_itemD (draws (A := X.A.in1) (I.ok.hd hc) b it a hael its.toArray) he ⟨hit, so⟩ hlt hne (by simp; exact ⟨hne, hae⟩) fun x1 h' tk hP1 ho hst hT hsz2 hk => ?_
    have hx1 : x1 = u := by
      have h1 : its[i]? = some x1 := by simpa using hP1
      rw [hu] at h1; exact (Option.some.inj h1).symm
    subst hx1
    refine ⟨_, rfl, wpAny_letOwnedTupleGo_enum (s := { s with heap := h', toks := tk + 1 }) ho fun h'' he' sb => ?_⟩
    have hT2 : h''.get? s.heap.objs.size = some { cls := .type "tuple", data := .seq #[.int i tk, x1] } := (sb.2 _ (Nat.ne_of_gt hel)).trans hT
    have new : ObjOk X.prog X.w (upd H s.heap.objs.size (.tup [.int (i : Nat), x])) h'' s.heap.objs.size (.tup [.int (i : Nat), x]) :=
      ⟨NM.small_line (show (2 : Nat) ≤ 4000000 by decide), [.int i tk, x1], .cons ⟨_, rfl⟩ (.cons ru .nil), ⟨_, hT2, rfl, _, rfl⟩⟩
    have I1 : Inv X pins σ (upd H s.heap.objs.size (.tup [.int (i : Nat), x])) { s with heap := h'', toks := tk + 1 } :=
      I.turnedNew (ch := [e, it]) (fun c ob hb q => (sb.2 c (fun z => hb (by simp [z]))).trans (hk c ob (fun z => hb (by simp [z])) (fun z => hb (by simp [z])) q)) hf (Nat.le_refl _) new
    refine ⟨.ref s.heap.objs.size, _, I1, rfl, ⟨_, x, rfl, I.hok.fresh (Nat.le_refl _), rfl, fun ys hy => by rw [sv_inj I hy hq]; exact hx⟩, ⟨⟨x1, ?_⟩, si_at hst.1 fun o q => (sb.2 it (Ne.symm hne)).trans q, hne⟩, fun c hb => ?_⟩
    · rw [show ((i + 1 : Nat) : Int) = (i : Int) + 1 by omega]; exact he'
    · rw [upd_ne (Nat.ne_of_lt (by rcases pair2 hb with z | z <;> rw [z] <;> assumption))]
      exact (hf c hb).1
  done := by
    intro X hP hw hK hc i pins s σ H E I hf st hg
    subst hP hw hK
    obtain ⟨⟨old, he⟩, hit, hne⟩ := st
    obtain ⟨xs, hq, hx⟩ := hg
    obtain ⟨its, rv, so⟩ := sv_obj I hq
    obtain ⟨f0, f1, f2, f3, f4, f5⟩ := hf it (by simp)
    have hl := rv.length
    cases b
    · exact wpAny_pyNext_enum_end (I.ok.hd hc) he hit so (by simp; omega) fun h' eb => ⟨rfl, I.turned (t' := s.toks) (fun c o hb q => eb c o hb q) f0 f1 f3 f4 f5⟩
    · have hT : s.TypeIs (.ref e) "enumerate" := ⟨_, he, rfl⟩
      unfold pyNext
      refine wpAny_bind (wpAny_attempt (wpAny_callSpecial?_slot (name := Str.ofString "__next__") hT F.slot_enumerate_next (wpAny_call_entry F.slot_enumerate_next hT F.entry_enumerate_next ?_ (F.args_enumerate_next_1 _))))
      show wpAny _ _ (field (.ref e) 2 >>= _) _ _ _
      refine wpAny_bind (wpAny_field he rfl (x := .ref it) rfl ?_)
      refine wpAny_bind (wpAny_nextOf_tuple_end (items := its.toArray) (I.ok.hd hc) hit so (by simp; omega) fun h' x he' hx' => ?_)
      obtain ⟨o, ho, hcl⟩ := hx'
      refine wpAny_bind (wpAny_isInstance (T := "StopIteration") (b := true) ⟨o, ho, hcl⟩ isSubtype_stop (wpAny_pure ?_))
      exact ⟨rfl, I.turned (t' := s.toks) (fun c o hb q => he' c o hb q) f0 f1 f3 f4 f5⟩
  self := fun A i s Q E st h => wpAny_pyIter_enum st.1.choose_spec h

set_option maxHeartbeats 1000000 in
theorem meets_enum1 {v : Value} {o : Obj} {H : Heap → Prop} (B : Begins v o H) :
    Meets (Builtin.«enumerate.__new__» ⟨[.type "enumerate", v], []⟩) (fun _ R s => H s.heap ∧
      R (.ok (.ret (.ref (s.heap.push o).objs.size))) { s with heap := (s.heap.push o).push { cls := .type "enumerate", data := .fields #[.none, .bool false, .ref s.heap.objs.size, rawInt 0, .none, .none] } }) :=
  .of_wp fun prog w A R s h => by
    obtain ⟨hp, g, d, tk, os⟩ := s
    obtain ⟨h1, h⟩ := h
    have hsub := sub_enumerate
    have q1 : ∀ {A' : Around} {E : Value → Shared → Prop} {Q : Value → Shared → Prop}, Q (.ref hp.objs.size) ⟨hp.push o, g, d, tk, os⟩ → wpAny (model prog w) A' (pyIter v) Q E ⟨hp, g, d, tk, os⟩ := fun q => B.iter prog w _ _ ⟨hp, g, d, tk, os⟩ _ h1 q
    wp_walk using q1
    refine wpAny_stack_any fun st => wpAny_pure ?_
    split
    · rename_i c _ _ _ _ _
      cases (c == Value.type "enumerate")
      all_goals (wp_walk using q1; exact ⟨_, rfl, h⟩)
    · wp_walk using q1
      exact ⟨_, rfl, h⟩
theorem call_enum1 {prog : Program} {w : World} {A : Around} {E : Value → Shared → Prop} {s : Shared} {v : Value} {o : Obj} {H : Heap → Prop} {Q : Value → Shared → Prop} (B : Begins v o H) (h1 : H s.heap)
    (h : ∀ h', IsEnum h' (s.heap.objs.size + 1) s.heap.objs.size 0 .none → h'.get? s.heap.objs.size = some o → (∀ b o, s.heap.get? b = some o → h'.get? b = some o) → Q (.ref (s.heap.objs.size + 1)) { s with heap := h' }) :
    wpAny (model prog w) A (call (.type "enumerate") [v]) Q E s := by
  refine callType_new F.called_enumerate (by decide) (F.typeCall_enumerate_1 _) (F.newCall_enumerate_1 _) (fun obj => F.args_object_init_2 obj _) F.entry_enumerate_new (meets_enum1 B) ⟨h1, ?_⟩
  have hz : (s.heap.push o).objs.size = s.heap.objs.size + 1 := Heap.size_push ..
  show _ ∧ _
  rw [hz]
  have he := Heap.get?_push_size (s.heap.push o) (o := { cls := .type "enumerate", data := .fields #[.none, .bool false, .ref s.heap.objs.size, rawInt 0, .none, .none] }) rfl
  rw [hz] at he
  exact ⟨⟨_, he, rfl⟩, h _ he (Heap.get?_push_of_some _ (Heap.get?_push_size _ B.free)) fun b o x => Heap.get?_push_of_some _ (Heap.get?_push_of_some _ x)⟩
def iEnumG (K : PySem.W.Frag) (ta : TE) : TI := fun σ H R => ta σ H fun x H1 => ∃ b a xs, x = .ref a ∧ SV K H1 b a xs ∧ R (IteG K b a) H1
theorem pi_enumG {X : Cx} {e : Expr} {ta : TE} {p pos tpos : Pos} {elts : List Expr} {kk : Nat} (hg : Gl X "enumerate") (hm : X.mg "enumerate" = none) (ha : PE X e ta) (hs : starEach [e] X.env = (false, eval e X.env) :: starEach [] X.env := by rfl) :
    PI X (.Tuple elts kk tpos) (.Call (.Name "enumerate" p) [e] [] pos) (iEnumG X.K ta) := by
  refine ⟨fun pins s σ H R I h => ?_⟩
  refine PyProof.Rows.Call_ (ld_blt I hg hm PyProof.Rows.boot_enumerate (PyProof.Rows.callWith_type1 (thn ((pa_cons ha pa_nil hs).run pos pins s σ H (fun vs H1 => match vs with | [x] => ∃ b a xs, x = .ref a ∧ SV X.K H1 b a xs ∧ R (IteG X.K b a) H1 | _ => False) I h) fun us s1 ⟨vs, H1, I1, r1, q1⟩ => ?_) hs rfl))
  match vs, r1, q1 with
  | [x], r1, q1 =>
    obtain ⟨b, a, xs, ex, hq, q⟩ := q1
    subst ex
    cases r1 with
    | cons r rr =>
      cases rr
      cases r
      obtain ⟨its, rv, so⟩ := sv_obj I1 hq
      refine call_enum1 (begins b a its.toArray) so fun h' he hit hk => wpAny_pyIter_enum he ?_
      have I2 : Inv X pins σ H1 { s1 with heap := h' } := I1.kept (t' := s1.toks) hk
      refine ⟨s1.heap.objs.size + 1, [s1.heap.objs.size + 1, s1.heap.objs.size], _, _, H1, rfl, I2, turn_enumG b a (s1.heap.objs.size + 1) s1.heap.objs.size, ⟨⟨.none, he⟩, si_new hit, Nat.succ_ne_self _⟩, fun c hb => ?_, q⟩
      have hle : s1.heap.objs.size ≤ c := by
        rcases pair2 hb with z | z <;> rw [z]
        · exact Nat.le_succ _
        · exact Nat.le_refl _
      exact I1.fpOk hle (I1.hok.fresh hle)

/-! zip -/
theorem fp_ne {X : Cx} {pins : List (Addr × Obj)} {σ : L2.St} {H : Hp} {s : Shared} (I : Inv X pins σ H s) {d : Addr} (f : FpOk X pins H d) {b : Bool} {a : Addr} {xs : List V} (h : SV X.K H b a xs) : d ≠ a := by
  have key : ∀ u, Rd H a u → d ≠ a := fun u h z => by
    have h0 := f.1
    rw [z] at h0
    rcases h with h | ⟨o, h⟩ <;> rw [h] at h0 <;> cases h0
  have old : ∀ o, X.K.lookup a = some o → d ≠ a := fun o h z => by
    have h1 := I.ok.mod.kin a o h
    have h2 := (I.ok.bs a o h1).1
    rcases f.2.2.2.1 with q | q
    · exact I.ok.noex a o h1 (z ▸ q)
    · exact absurd (Nat.lt_of_lt_of_le (Heap.lt_size h2) (z ▸ q)) (Nat.lt_irrefl _)
  cases b
  · rcases h with h | ⟨o, its, n, h, _⟩
    · exact key _ h
    · exact old o h
  · rcases h with h | ⟨o, its, n, h, _⟩
    · exact key _ h
    · exact old o h
def ItzG (K : PySem.W.Frag) (b c : Bool) (a a2 : Addr) : L2.It :=
  ⟨fun i H => ∃ (xs ys : List V) (x y : V), SV K H b a xs ∧ SV K H c a2 ys ∧ xs[i]? = some x ∧ ys[i]? = some y,
    fun i H v H' => ∃ T x y, v = .ref T ∧ H T = none ∧ H' = upd H T (.tup [x, y]) ∧ (∀ xs, SV K H b a xs → xs[i]? = some x) ∧ ∀ ys, SV K H c a2 ys → ys[i]? = some y,
    fun i H => ∃ xs ys : List V, SV K H b a xs ∧ SV K H c a2 ys ∧ i ≤ xs.length ∧ i ≤ ys.length ∧ (i = xs.length ∨ i = ys.length)⟩
theorem five {c z TI TO i1 i2 : Addr} (h : c ∈ [z, TI, TO, i1, i2]) : c = z ∨ c = TI ∨ c = TO ∨ c = i1 ∨ c = i2 := by simpa using h
/-- the five cells lie apart -/
structure Ap (z TI TO i1 i2 : Addr) : Prop where
  h1 : TI ≠ z
  h2 : TO ≠ z
  h3 : TI ≠ TO
  h4 : TI ≠ i1
  h5 : TI ≠ i2
  h6 : i1 ≠ z
  h7 : i2 ≠ z
  h8 : TO ≠ i1
  h9 : TO ≠ i2
  h10 : i1 ≠ i2
theorem turn_zipG {P : Program} {w : World} {K : PySem.W.Frag} {elts : List Expr} {kk : Nat} {tpos : Pos} (b c : Bool) {a a2 z TI TO i1 i2 : Addr} (D : Ap z TI TO i1 i2) :
    Turn P w K (.Tuple elts kk tpos) (ItzG K b c a a2) [z, TI, TO, i1, i2] z (fun i h => IsZip h z TI TO .none ∧ IsTupOf2 h TI (.ref i1) (.ref i2) ∧ (∃ x y, IsTupOf2 h TO x y) ∧ SI b h i1 a i ∧ SI c h i2 a2 i) where
  mem := List.mem_cons_self
  obj := fun i h st d hd => by
    obtain ⟨hz, hTI, ⟨x, y, hTO⟩, s1, s2⟩ := st
    obtain ⟨o1, _, _, e1, _, d1, _⟩ := si_obj s1
    obtain ⟨o2, _, _, e2, _, d2, _⟩ := si_obj s2
    rcases five hd with q | q | q | q | q <;> rw [q]
    · exact ⟨_, hz, fun v q => nomatch q⟩
    · exact ⟨_, hTI, fun v q => nomatch q⟩
    · exact ⟨_, hTO, fun v q => nomatch q⟩
    · exact ⟨o1, e1, fun v q => by rw [d1] at q; cases q⟩
    · exact ⟨o2, e2, fun v q => by rw [d2] at q; cases q⟩
  keep := fun i h h' st k => by
    obtain ⟨hz, hTI, ⟨x, y, hTO⟩, s1, s2⟩ := st
    exact ⟨k z (by simp) _ hz, k TI (by simp) _ hTI, ⟨x, y, k TO (by simp) _ hTO⟩, si_at s1 fun o q => k i1 (by simp) o q, si_at s2 fun o q => k i2 (by simp) o q⟩
  item := by
    intro X hP hw hK hc i pins s σ H E I hf st hg
    subst hP hw hK
    obtain ⟨hz, hTI, ⟨x0, y0, hTO⟩, s1, s2⟩ := st
    obtain ⟨xs, ys, x, y, hqx, hqy, hx, hy⟩ := hg
    obtain ⟨its, rv, so1⟩ := sv_obj I hqx
    obtain ⟨its2, rv2, so2⟩ := sv_obj I hqy
    obtain ⟨u, hu, ru⟩ := rv.get hx
    obtain ⟨u2, hu2, ru2⟩ := rv2.get hy
    obtain ⟨o1, c1, w1, e1, k1, d1, j1⟩ := si_obj s1
    obtain ⟨o2, c2, w2, e2, k2, d2, j2⟩ := si_obj s2
    obtain ⟨oa, va, na, ea1, ea2⟩ := so_obj so1
    obtain ⟨ob, vb, nb, eb1, eb2⟩ := so_obj so2
    have apart : ∀ {it ad : Addr} {o oo : Obj} {w v : Array Value} {n : Nat}, s.heap.get? it = some o → o.data = .fields w → s.heap.get? ad = some oo → oo.data = .seq v n → it ≠ ad := fun p1 p2 p3 p4 zz => by
      subst zz; rw [p1] at p3; cases p3; rw [p2] at p4; cases p4
    have z1 : z ≠ a := apart hz rfl ea1 ea2
    have z2 : z ≠ a2 := apart hz rfl eb1 eb2
    have q11 : i1 ≠ a := apart e1 d1 ea1 ea2
    have q12 : i1 ≠ a2 := apart e1 d1 eb1 eb2
    have q21 : i2 ≠ a := apart e2 d2 ea1 ea2
    have q22 : i2 ≠ a2 := apart e2 d2 eb1 eb2
    have t1 : TO ≠ a := fp_ne I (hf TO (by simp)) hqx
    have t2 : TO ≠ a2 := fp_ne I (hf TO (by simp)) hqy
    have sep : ZipSep2 z TI TO i1 i2 [i1, a] [i2, a2] :=
      { TIz := D.h1, TOz := D.h2, TITO := D.h3, TIi1 := D.h4, mem1 := List.mem_cons_self, zf1 := by simp; exact ⟨fun q => D.h6 q.symm, z1⟩, Tf1 := by simp; exact ⟨D.h8, t1⟩,
        TIi2 := D.h5, mem2 := List.mem_cons_self, zf2 := by simp; exact ⟨fun q => D.h7 q.symm, z2⟩, Tf2 := by simp; exact ⟨D.h9, t2⟩, sep1_2 := by simp; exact ⟨D.h10, q12⟩, sep2_1 := by simp; exact ⟨fun q => D.h10 q.symm, q21⟩ }
    have hzl : z < s.heap.objs.size := Heap.lt_size hz
    have l1 : i < its.toArray.size := by rw [List.size_toArray]; exact (List.getElem?_eq_some_iff.mp hu).1
    have l2 : i < its2.toArray.size := by rw [List.size_toArray]; exact (List.getElem?_eq_some_iff.mp hu2).1
    refine wpAny_pyNext_zipD2_item sep (draws (A := X.A.in1) (I.ok.hd hc) b i1 a (Ne.symm q11) its.toArray) (draws (A := X.A.in1) (I.ok.hd hc) c i2 a2 (Ne.symm q22) its2.toArray) hz hTI hTO ⟨s1, so1⟩ ⟨s2, so2⟩ l1 l2 fun x1 x2 h' tk p1 p2 z' TO' st1 st2 hT hsz hk => ?_
    have hx1 : x1 = u := by
      have h1 : its[i]? = some x1 := by simpa using p1
      rw [hu] at h1; exact (Option.some.inj h1).symm
    have hx2 : x2 = u2 := by
      have h1 : its2[i]? = some x2 := by simpa using p2
      rw [hu2] at h1; exact (Option.some.inj h1).symm
    subst hx1; subst hx2
    refine ⟨_, rfl, wpAny_letOwnedTupleGo_zip (s := { s with heap := h', toks := tk }) z' fun h'' z'' sb => ?_⟩
    have hT2 : h''.get? s.heap.objs.size = some { cls := .type "tuple", data := .seq #[x1, x2] } := (sb.2 _ (Nat.ne_of_gt hzl)).trans hT
    have new : ObjOk X.prog X.w (upd H s.heap.objs.size (.tup [x, y])) h'' s.heap.objs.size (.tup [x, y]) :=
      ⟨NM.small_line (show (2 : Nat) ≤ 4000000 by decide), [x1, x2], .cons ru (.cons ru2 .nil), ⟨_, hT2, rfl, _, rfl⟩⟩
    have I1 : Inv X pins σ (upd H s.heap.objs.size (.tup [x, y])) { s with heap := h'', toks := tk } :=
      I.turnedNew (ch := [z, TI, TO, i1, i2]) (fun d o hb q => (sb.2 d (fun q' => hb (by simp [q']))).trans (hk d o (fun q' => hb (by simp [q'])) (fun q' => hb (by simp [q'])) (fun q' => hb (by simp [q'])) (fun q' => hb (by simp [q'])) q)) hf (Nat.le_refl _) new
    refine ⟨.ref s.heap.objs.size, _, I1, rfl, ⟨_, x, y, rfl, I.hok.fresh (Nat.le_refl _), rfl, fun l hl => by rw [sv_inj I hl hqx]; exact hx, fun l hl => by rw [sv_inj I hl hqy]; exact hy⟩,
      ⟨z'', (sb.2 _ D.h1).trans (hk _ _ D.h1 D.h3 D.h4 D.h5 hTI), ⟨x1, x2, (sb.2 _ D.h2).trans TO'⟩, si_at st1.1 fun o q => (sb.2 _ D.h6).trans q, si_at st2.1 fun o q => (sb.2 _ D.h7).trans q⟩, fun d hd => ?_⟩
    have hlt : d < s.heap.objs.size := by
      rcases five hd with q | q | q | q | q <;> rw [q]
      · exact hzl
      · exact Heap.lt_size hTI
      · exact Heap.lt_size hTO
      · exact Heap.lt_size e1
      · exact Heap.lt_size e2
    rw [upd_ne (Nat.ne_of_lt hlt)]
    exact (hf d hd).1
  done := by
    intro X hP hw hK hc i pins s σ H E I hf st hg
    subst hP hw hK
    obtain ⟨hz, hTI, ⟨x0, y0, hTO⟩, s1, s2⟩ := st
    obtain ⟨xs, ys, hqx, hqy, m1, m2, hend⟩ := hg
    obtain ⟨its, rv, so1⟩ := sv_obj I hqx
    obtain ⟨its2, rv2, so2⟩ := sv_obj I hqy
    obtain ⟨o1, c1, w1, e1, k1, d1, j1⟩ := si_obj s1
    obtain ⟨o2, c2, w2, e2, k2, d2, j2⟩ := si_obj s2
    obtain ⟨oa, va, na, ea1, ea2⟩ := so_obj so1
    obtain ⟨ob, vb, nb, eb1, eb2⟩ := so_obj so2
    have apart : ∀ {it ad : Addr} {o oo : Obj} {w v : Array Value} {n : Nat}, s.heap.get? it = some o → o.data = .fields w → s.heap.get? ad = some oo → oo.data = .seq v n → it ≠ ad := fun p1 p2 p3 p4 zz => by
      subst zz; rw [p1] at p3; cases p3; rw [p2] at p4; cases p4
    have z1 : z ≠ a := apart hz rfl ea1 ea2
    have z2 : z ≠ a2 := apart hz rfl eb1 eb2
    have q11 : i1 ≠ a := apart e1 d1 ea1 ea2
    have q12 : i1 ≠ a2 := apart e1 d1 eb1 eb2
    have q21 : i2 ≠ a := apart e2 d2 ea1 ea2
    have q22 : i2 ≠ a2 := apart e2 d2 eb1 eb2
    have t1 : TO ≠ a := fp_ne I (hf TO (by simp)) hqx
    have t2 : TO ≠ a2 := fp_ne I (hf TO (by simp)) hqy
    have sep : ZipSep2 z TI TO i1 i2 [i1, a] [i2, a2] :=
      { TIz := D.h1, TOz := D.h2, TITO := D.h3, TIi1 := D.h4, mem1 := List.mem_cons_self, zf1 := by simp; exact ⟨fun q => D.h6 q.symm, z1⟩, Tf1 := by simp; exact ⟨D.h8, t1⟩,
        TIi2 := D.h5, mem2 := List.mem_cons_self, zf2 := by simp; exact ⟨fun q => D.h7 q.symm, z2⟩, Tf2 := by simp; exact ⟨D.h9, t2⟩, sep1_2 := by simp; exact ⟨D.h10, q12⟩, sep2_1 := by simp; exact ⟨fun q => D.h10 q.symm, q21⟩ }
    have hl1 := rv.length
    have hl2 := rv2.length
    refine wpAny_pyNext_zipD2_end sep (draws (A := X.A.in1) (I.ok.hd hc) b i1 a (Ne.symm q11) its.toArray) (draws (A := X.A.in1) (I.ok.hd hc) c i2 a2 (Ne.symm q22) its2.toArray) hz hTI hTO ⟨s1, so1⟩ ⟨s2, so2⟩ (by rw [List.size_toArray]; omega) (by rw [List.size_toArray]; omega) (by rw [List.size_toArray, List.size_toArray]; omega) fun h' tk hk => ?_
    exact ⟨rfl, I.turnedL (t' := tk) (ch := [z, TI, TO, i1, i2]) (fun d o hb q => hk d o (fun q' => hb (by simp [q'])) (fun q' => hb (by simp [q'])) (fun q' => hb (by simp [q'])) (fun q' => hb (by simp [q'])) q) hf⟩
  self := fun A i s Q E st h => wpAny_pyIter_zip st.1 h
theorem ap_new (n : Nat) : Ap (n + 4) (n + 2) (n + 3) n (n + 1) := ⟨show (n + 2 : Nat) ≠ n + 4 by omega, show (n + 3 : Nat) ≠ n + 4 by omega, show (n + 2 : Nat) ≠ n + 3 by omega, show (n + 2 : Nat) ≠ n by omega, show (n + 2 : Nat) ≠ n + 1 by omega, show (n : Nat) ≠ n + 4 by omega, show (n + 1 : Nat) ≠ n + 4 by omega, show (n + 3 : Nat) ≠ n by omega, show (n + 3 : Nat) ≠ n + 1 by omega, show (n : Nat) ≠ n + 1 by omega⟩
def iZipG (K : PySem.W.Frag) (ta tb : TE) : TI := fun σ H R => ta σ H fun x H1 => tb σ H1 fun y H2 => ∃ b c a a2 xs ys, x = .ref a ∧ y = .ref a2 ∧ SV K H2 b a xs ∧ SV K H2 c a2 ys ∧ R (ItzG K b c a a2) H2
theorem pi_zipG {X : Cx} {e e2 : Expr} {ta tb : TE} {p pos tpos : Pos} {elts : List Expr} {kk : Nat} (hg : Gl X "zip") (hm : X.mg "zip" = none) (ha : PE X e ta) (hb : PE X e2 tb)
    (hs2 : starEach [e2] X.env = (false, eval e2 X.env) :: starEach [] X.env := by rfl) (hs : starEach [e, e2] X.env = (false, eval e X.env) :: starEach [e2] X.env := by rfl) (hpl : (backTo pos (starEach [e2] X.env)).any (·.1) = false := by rfl) :
    PI X (.Tuple elts kk tpos) (.Call (.Name "zip" p) [e, e2] [] pos) (iZipG X.K ta tb) := by
  refine ⟨fun pins s σ H R I h => ?_⟩
  refine PyProof.Rows.Call_ (ld_blt I hg hm PyProof.Rows.boot_zip (PyProof.Rows.callWith_type1 (thn ((pa_cons ha (pa_cons hb pa_nil hs2) hs).run pos pins s σ H (fun vs H1 => match vs with | [x, y] => ∃ b c a a2 xs ys, x = .ref a ∧ y = .ref a2 ∧ SV X.K H1 b a xs ∧ SV X.K H1 c a2 ys ∧ R (ItzG X.K b c a a2) H1 | _ => False) I h) fun us s1 ⟨vs, H1, I1, r1, q1⟩ => ?_) hs hpl))
  match vs, r1, q1 with
  | [x, y], r1, q1 =>
    obtain ⟨b, c, a, a2, xs, ys, ex, ey, hqx, hqy, q⟩ := q1
    subst ex; subst ey
    cases r1 with
    | cons r rr =>
      cases rr with
      | cons r' rr =>
        cases rr
        cases r
        cases r'
        obtain ⟨its, rv, so1⟩ := sv_obj I1 hqx
        obtain ⟨its2, rv2, so2⟩ := sv_obj I1 hqy
        refine zip_begins2 (begins b a its.toArray) (begins c a2 its2.toArray) so1 so2 fun h' hz hTI hTO h1 h2 hsz hk => wpAny_pyIter_zip hz ?_
        have I2 : Inv X pins σ H1 { s1 with heap := h' } := I1.kept (t' := s1.toks) hk
        refine ⟨s1.heap.objs.size + 4, [s1.heap.objs.size + 4, s1.heap.objs.size + 2, s1.heap.objs.size + 3, s1.heap.objs.size, s1.heap.objs.size + 1], _, _, H1, rfl, I2, turn_zipG b c (ap_new _), ⟨hz, hTI, ⟨_, _, hTO⟩, si_new h1, si_new h2⟩, fun d hd => ?_, q⟩
        have hle : s1.heap.objs.size ≤ d := by
          rcases five hd with z | z | z | z | z <;> rw [z]
          · exact Nat.le_add_right _ _
          · exact Nat.le_add_right _ _
          · exact Nat.le_add_right _ _
          · exact Nat.le_refl _
          · exact Nat.le_add_right _ _
        exact I1.fpOk hle (I1.hok.fresh hle)
end NMW
set_option Elab.async false
set_option linter.all false
set_option maxRecDepth 100000
set_option maxHeartbeats 4000000
/-! NmG: the iterables and the comprehensions by data. -/
namespace NM
open PySem PySem.Spec L2 NMW RT

theorem gdOk_nil {S : Hh} : gdOk [] S = true := rfl
theorem gdOk_one {n : Nat} {o : AO} {S : Hh} (h : gdOk [(n, o)] S = true) : S[n]? = some o := by
  simp [gdOk] at h; exact h
theorem gdOk_app {g g' : Gd} {S : Hh} (h : gdOk (g ++ g') S = true) : gdOk g S = true ∧ gdOk g' S = true := by
  unfold gdOk at h ⊢
  rw [List.all_append, Bool.and_eq_true] at h
  exact h
section
variable {N : Nam} {K : PySem.W.Frag}
/-- a list or a tuple that is walked: at any later state that keeps the guard -/
structure Sq (N : Nam) (K : PySem.W.Frag) (b : Bool) (a : Addr) (xs : List AV) (gd : Gd) (H0 : Hp) (as0 : List Addr) : Prop where
  at_ : ∀ H as S, Ext K H0 as0 H as → RH N K H as S → gdOk gd S = true → ∃ vs, SV K H b a vs ∧ RL K H as xs vs
def AO.isFdc : AO → Bool
  | .fdc _ => true | _ => false
theorem walk_sq {H0 : Hp} {as0 : List Addr} {S0 : Hh} {x : AV} {x' : V} {xs : List AV} {gd : Gd} (rx : RA K H0 as0 x x') (hw : walkN x S0 = some (xs, gd)) :
    ∃ b a, x' = .ref a ∧ Sq N K b a xs gd H0 as0 := by
  cases rx with
  | @tup ys vs a s l k =>
    simp only [walkN] at hw
    cases hw
    exact ⟨true, a, rfl, ⟨fun H as S ex rh hg => ⟨vs, ex.tup _ _ s, RL.mono ex (prd_of l k)⟩⟩⟩
  | @ref n a hn =>
    simp only [walkN] at hw
    cases hS : S0[n]? with
    | none => rw [hS] at hw; cases hw
    | some o =>
      rw [hS] at hw
      cases o with
      | lst ys =>
        cases hw
        refine ⟨false, a, rfl, ⟨fun H as S ex rh hg => ?_⟩⟩
        obtain ⟨vs, h1, h2⟩ := rh.ob n a _ (ex.pre _ _ hn) (gdOk_one hg)
        exact ⟨vs, SqL.of h1, h2⟩
      | rol ys =>
        cases hw
        refine ⟨false, a, rfl, ⟨fun H as S ex rh hg => ?_⟩⟩
        rcases rh.ob n a _ (ex.pre _ _ hn) (gdOk_one hg) with ⟨o, vs, h1, h2⟩ | ⟨vs, o, its, m, h1, h2⟩
        · exact ⟨vs, .inl (.inr ⟨o, h1⟩), h2⟩
        · exact ⟨vs, .inr ⟨o, its, m, h1⟩, h2⟩
      | _ => cases hw
  | _ => simp only [walkN] at hw; cases hw
theorem walkN_gd {x : AV} {S : Hh} {xs : List AV} {gd : Gd} (hw : walkN x S = some (xs, gd)) : gdOk gd S = true := by
  cases x with
  | tup ys => simp only [walkN] at hw; cases hw; rfl
  | ref n =>
    simp only [walkN] at hw
    split at hw
    · rename_i ys h; cases hw; simp [gdOk, h]
    · rename_i ys h; cases hw; simp [gdOk, h]
    · cases hw
  | _ => simp only [walkN] at hw; cases hw
theorem Sq.get {b : Bool} {a : Addr} {xs : List AV} {gd : Gd} {H0 H : Hp} {as0 as : List Addr} {S : Hh} (q : Sq N K b a xs gd H0 as0) (ex : Ext K H0 as0 H as) (rh : RH N K H as S) (hg : gdOk gd S = true) {i : Nat} (hi : i < xs.length) :
    ∃ vs x v, SV K H b a vs ∧ xs[i]? = some x ∧ vs[i]? = some v ∧ RA K H as x v := by
  obtain ⟨vs, s, r⟩ := q.at_ H as S ex rh hg
  have hx : xs[i]? = some (xs[i]'hi) := by simp [hi]
  obtain ⟨v, h1, h2⟩ := prd_some r hx
  exact ⟨vs, _, v, s, hx, h1, h2⟩
theorem Sq.len {b : Bool} {a : Addr} {xs : List AV} {gd : Gd} {H0 H : Hp} {as0 as : List Addr} {S : Hh} (q : Sq N K b a xs gd H0 as0) (ex : Ext K H0 as0 H as) (rh : RH N K H as S) (hg : gdOk gd S = true) : ∃ vs, SV K H b a vs ∧ vs.length = xs.length := by
  obtain ⟨vs, s, r⟩ := q.at_ H as S ex rh hg
  exact ⟨vs, s, (prd_len r).symm⟩
theorem wk_itl {a : Addr} {xs : List AV} {gd : Gd} {H0 : Hp} {as0 : List Addr} (q : Sq N K false a xs gd H0 as0) : WkD N K (Itl K a) xs gd H0 as0 where
  go := fun i H as S hi ex rh hg => let ⟨vs, x, v, s, h1, h2, h3⟩ := q.get ex rh hg hi; ⟨vs, v, s, h2⟩
  stop := fun H as S ex rh hg => let ⟨vs, s, l⟩ := q.len ex rh hg; ⟨vs, s, Nat.le_of_eq l⟩
  yld := fun i H as S x' H' hi ex rh hg y => by
    obtain ⟨vs, x, v, s, h1, h2, h3⟩ := q.get ex rh hg hi
    obtain ⟨e, y⟩ := y
    subst e
    have := (y vs s).symm.trans h2
    cases this
    exact ⟨x, h1, h3, rh, Ext.refl⟩
theorem wk_itt {a : Addr} {xs : List AV} {gd : Gd} {H0 : Hp} {as0 : List Addr} (q : Sq N K true a xs gd H0 as0) : WkD N K (Itt K a) xs gd H0 as0 where
  go := fun i H as S hi ex rh hg => let ⟨vs, x, v, s, h1, h2, h3⟩ := q.get ex rh hg hi; ⟨vs, v, s, h2⟩
  stop := fun H as S ex rh hg => let ⟨vs, s, l⟩ := q.len ex rh hg; ⟨vs, s, Nat.le_of_eq l⟩
  yld := fun i H as S x' H' hi ex rh hg y => by
    obtain ⟨vs, x, v, s, h1, h2, h3⟩ := q.get ex rh hg hi
    obtain ⟨e, y⟩ := y
    subst e
    have := (y vs s).symm.trans h2
    cases this
    exact ⟨x, h1, h3, rh, Ext.refl⟩
theorem rev_get {α : Type} (xs : List α) {i : Nat} (hi : i < xs.length) : xs.reverse[i]? = xs[xs.length - 1 - i]? := by
  rw [List.getElem?_reverse hi]
theorem wk_itv {a : Addr} {xs : List AV} {gd : Gd} {H0 : Hp} {as0 : List Addr} (q : Sq N K false a xs gd H0 as0) : WkD N K (Itv K a xs.length) xs.reverse gd H0 as0 where
  go := fun i H as S hi ex rh hg => by
    rw [List.length_reverse] at hi
    obtain ⟨vs, x, v, s, h1, h2, h3⟩ := q.get ex rh hg (i := xs.length - 1 - i) (by omega)
    exact ⟨hi, vs, v, s, h2⟩
  stop := fun H as S ex rh hg => by rw [List.length_reverse]; exact Nat.le_refl _
  yld := fun i H as S x' H' hi ex rh hg y => by
    rw [List.length_reverse] at hi
    obtain ⟨vs, x, v, s, h1, h2, h3⟩ := q.get ex rh hg (i := xs.length - 1 - i) (by omega)
    obtain ⟨e, y⟩ := y
    subst e
    have := (y vs s).symm.trans h2
    cases this
    exact ⟨x, by rw [rev_get xs hi]; exact h1, h3, rh, Ext.refl⟩
theorem wk_itvT {a : Addr} {xs : List AV} {gd : Gd} {H0 : Hp} {as0 : List Addr} (q : Sq N K true a xs gd H0 as0) : WkD N K (ItvT K a xs.length) xs.reverse gd H0 as0 where
  go := fun i H as S hi ex rh hg => by
    rw [List.length_reverse] at hi
    obtain ⟨vs, x, v, s, h1, h2, h3⟩ := q.get ex rh hg (i := xs.length - 1 - i) (by omega)
    exact ⟨hi, vs, v, s, h2⟩
  stop := fun H as S ex rh hg => by rw [List.length_reverse]; exact Nat.le_refl _
  yld := fun i H as S x' H' hi ex rh hg y => by
    rw [List.length_reverse] at hi
    obtain ⟨vs, x, v, s, h1, h2, h3⟩ := q.get ex rh hg (i := xs.length - 1 - i) (by omega)
    obtain ⟨e, y⟩ := y
    subst e
    have := (y vs s).symm.trans h2
    cases this
    exact ⟨x, by rw [rev_get xs hi]; exact h1, h3, rh, Ext.refl⟩
theorem wk_itr {lo : Int} {n : Nat} {H0 : Hp} {as0 : List Addr} : WkD N K (Itr lo n) (rngA lo n) [] H0 as0 where
  go := fun i H as S hi ex rh hg => by
    have hi : i < n := by simpa [rngA] using hi
    exact hi
  stop := fun H as S ex rh hg => by
    have : (rngA lo n).length = n := by simp [rngA]
    rw [this]
    exact Nat.le_refl _
  yld := fun i H as S x' H' hi ex rh hg y => by
    have hi : i < n := by simpa [rngA] using hi
    obtain ⟨e, e2⟩ := y
    subst e; subst e2
    exact ⟨.int (lo + i), by simp [rngA, hi], .int _, rh, Ext.refl⟩
theorem enumA_get : ∀ (xs : List AV) (k i : Nat) (x : AV), xs[i]? = some x → (enumA k xs)[i]? = some (.tup [.int ((k + i : Nat) : Int), x])
  | y :: ys, k, 0, x, h => by simp at h; subst h; simp [enumA]
  | y :: ys, k, i + 1, x, h => by
    simp only [enumA, List.getElem?_cons_succ] at h ⊢
    rw [enumA_get ys (k + 1) i x h, show k + 1 + i = k + (i + 1) by omega]
theorem enumA_len : ∀ (xs : List AV) (k : Nat), (enumA k xs).length = xs.length
  | [], _ => rfl
  | x :: xs, k => by simp [enumA, enumA_len xs]
theorem wk_enum {b : Bool} {a : Addr} {xs : List AV} {gd : Gd} {H0 : Hp} {as0 : List Addr} (q : Sq N K b a xs gd H0 as0) : WkD N K (IteG K b a) (enumA 0 xs) gd H0 as0 where
  go := fun i H as S hi ex rh hg => by
    rw [enumA_len] at hi
    obtain ⟨vs, x, v, s, h1, h2, h3⟩ := q.get ex rh hg hi
    exact ⟨vs, v, s, h2⟩
  stop := fun H as S ex rh hg => by
    rw [enumA_len]
    obtain ⟨vs, s, l⟩ := q.len ex rh hg
    exact ⟨vs, s, Nat.le_of_eq l⟩
  yld := fun i H as S x' H' hi ex rh hg y => by
    rw [enumA_len] at hi
    obtain ⟨vs, x, v, s, h1, h2, h3⟩ := q.get ex rh hg hi
    obtain ⟨T, v2, rfl, hT, rfl, hall⟩ := y
    have := (hall vs s).symm.trans h2
    cases this
    have e : Ext K H as (upd H T (.tup [.int (i : Nat), v])) as := Ext.same (Wr.none hT)
    refine ⟨.tup [.int ((0 + i : Nat) : Int), x], enumA_get xs 0 i x h1, ?_, rh.laid hT, e⟩
    rw [Nat.zero_add]
    exact RA.mk_tup (SqT.of upd_same) (.cons (.int _) (.cons (h3.mono e) .nil))
theorem zipA_get : ∀ (xs ys : List AV) (i : Nat) (x y : AV), xs[i]? = some x → ys[i]? = some y → (zipA xs ys)[i]? = some (.tup [x, y])
  | a :: as, b :: bs, 0, x, y, h, g => by simp at h g; subst h; subst g; simp [zipA]
  | a :: as, b :: bs, i + 1, x, y, h, g => by
    simp only [zipA, List.getElem?_cons_succ] at h g ⊢
    exact zipA_get as bs i x y h g
  | [], _, i, x, y, h, g => by simp at h
  | _ :: _, [], i, x, y, h, g => by simp at g
theorem zipA_len : ∀ (xs ys : List AV), (zipA xs ys).length = min xs.length ys.length
  | [], ys => by cases ys <;> simp [zipA]
  | x :: xs, [] => by simp [zipA]
  | x :: xs, y :: ys => by simp [zipA, zipA_len xs ys]
theorem wk_zip {b c : Bool} {a a2 : Addr} {xs ys : List AV} {gd gd2 : Gd} {H0 : Hp} {as0 : List Addr} (q : Sq N K b a xs gd H0 as0) (q2 : Sq N K c a2 ys gd2 H0 as0) : WkD N K (ItzG K b c a a2) (zipA xs ys) (gd ++ gd2) H0 as0 where
  go := fun i H as S hi ex rh hg => by
    rw [zipA_len] at hi
    obtain ⟨g1, g2⟩ := gdOk_app hg
    obtain ⟨vs, x, v, s, h1, h2, h3⟩ := q.get ex rh g1 (i := i) (by omega)
    obtain ⟨ws, y, w, t, k1, k2, k3⟩ := q2.get ex rh g2 (i := i) (by omega)
    exact ⟨vs, ws, v, w, s, t, h2, k2⟩
  stop := fun H as S ex rh hg => by
    rw [zipA_len]
    obtain ⟨g1, g2⟩ := gdOk_app hg
    obtain ⟨vs, s, l⟩ := q.len ex rh g1
    obtain ⟨ws, t, m⟩ := q2.len ex rh g2
    exact ⟨vs, ws, s, t, by omega, by omega, by omega⟩
  yld := fun i H as S x' H' hi ex rh hg y => by
    rw [zipA_len] at hi
    obtain ⟨g1, g2⟩ := gdOk_app hg
    obtain ⟨vs, x, v, s, h1, h2, h3⟩ := q.get ex rh g1 (i := i) (by omega)
    obtain ⟨ws, y2, w, t, k1, k2, k3⟩ := q2.get ex rh g2 (i := i) (by omega)
    obtain ⟨T, v2, w2, rfl, hT, rfl, hall, hall2⟩ := y
    have e1 := (hall vs s).symm.trans h2
    have e2 := (hall2 ws t).symm.trans k2
    cases e1; cases e2
    have e : Ext K H as (upd H T (.tup [v, w])) as := Ext.same (Wr.none hT)
    exact ⟨.tup [x, y2], zipA_get xs ys i x y2 h1 k1, RA.mk_tup (SqT.of upd_same) (.cons (h3.mono e) (.cons (k3.mono e) .nil)), rh.laid hT, e⟩
theorem wk_keys {a : Addr} {n : Nat} {o : Obj} {kvs : List (List Nat × AV)} {vs : List (Key × V)} {H0 : Hp} {as0 : List Addr} (hH : H0 a = some (.frz o (.dK vs))) (pr : Paired (fun (p : List Nat × AV) (q : Key × V) => q.1 = .inr (sS p.1) ∧ RA K H0 as0 p.2 q.2) kvs vs) :
    WkD N K (Itk a o vs) (kvs.map fun kv => .str kv.1) [(n, .fdc kvs)] H0 as0 where
  go := fun i H as S hi ex rh hg => ⟨ex.frz _ _ _ hH, by rw [← prd_len pr]; simpa using hi⟩
  stop := fun H as S ex rh hg => ⟨ex.frz _ _ _ hH, by rw [← prd_len pr]; simp⟩
  yld := fun i H as S x' H' hi ex rh hg y => by
    have hi : i < kvs.length := by simpa using hi
    obtain ⟨rfl, k, v, h1, rfl⟩ := y
    obtain ⟨q, h2, h3, _⟩ := prd_some pr (show kvs[i]? = some (kvs[i]'hi) by simp [hi])
    rw [h1] at h2
    cases h2
    simp only at h3
    subst h3
    exact ⟨.str (kvs[i]'hi).1, by simp [hi], .str _, rh, Ext.refl⟩
end
section
variable {N : Nam} {G : Gam} {X : Cx} {a b e tg : Expr} {ca cb ce : E} {pos p pos' tpos : Pos} {es elts : List Expr} {cs : List E} {kk : Nat}
def iAny (X : Cx) (te : TE) : TI := fun σ H R => iList X.K te σ H R ∨ iTup X.K te σ H R ∨ iKeys te σ H R
theorem pi_any {te : TE} (he : PE X e te) : PI X tg e (iAny X te) := ⟨fun pins s σ H R I h => by
  rcases h with h | h | h
  · exact (pi_list he).run pins s σ H R I h
  · exact (pi_tup he).run pins s σ H R I h
  · exact (pi_keys he).run pins s σ H R I h⟩
theorem di_val (he : DE N G X e ce) : DI N G X tg e (.val ce) := PI.imp (pi_any he) fun σ H R q => by
  obtain ⟨as, ls, S, w, S', rh, rs, e, k⟩ := q
  simp only [evIt] at e
  obtain ⟨x, S1, e1, e2⟩ := bind_of e
  cases hn : walkN x S1 with
  | none =>
    simp only [walkOf, hn, Option.none_or] at e2
    cases x with
    | ref n =>
      simp only [walkF] at e2
      cases hS : S1[n]? with
      | none => rw [hS] at e2; cases e2
      | some o =>
        rw [hS] at e2
        cases o with
        | fdc kvs =>
          cases e2
          refine .inr (.inr ⟨as, ls, S, .ref n, _, rh, rs, e1, fun H' as' x' ex rr ra => ?_⟩)
          cases ra with
          | @ref _ ad hn =>
            obtain ⟨o, vs, hH, pr⟩ := rr.ob n ad _ hn hS
            exact ⟨ad, o, rfl, .inl ⟨vs, hH, k _ _ _ ex rr (wk_keys hH pr)⟩⟩
        | _ => cases e2
    | _ => simp only [walkF] at e2; cases e2
  | some w' =>
    simp only [walkOf, hn, Option.some_or] at e2
    cases e2
    obtain ⟨xs, gd⟩ := w
    have hsq : ∀ b, (∀ (H' : Hp) (as' : List Addr) (x' : V), RA X.K H' as' x x' → ∃ a, x' = .ref a ∧ Sq N X.K b a xs gd H' as') → (∀ (H' : Hp) (as' : List Addr) (x' : V), RH N X.K H' as' _ → RA X.K H' as' x x' → ∃ a vs, x' = .ref a ∧ SV X.K H' b a vs ∧ Sq N X.K b a xs gd H' as') := fun b h H' as' x' rr ra => by
      obtain ⟨a, e1, q⟩ := h H' as' x' ra
      obtain ⟨vs, sv, rl⟩ := q.at_ H' as' _ Ext.refl rr (walkN_gd hn)
      exact ⟨a, vs, e1, sv, q⟩
    cases x with
    | tup ys =>
      refine .inr (.inl ⟨as, ls, S, .tup ys, _, rh, rs, e1, fun H' as' x' ex rr ra => ?_⟩)
      obtain ⟨ad, vs, e3, sv, q⟩ := hsq true (fun H' as' x' ra => by
        obtain ⟨ad2, vs, e3, sq, rl⟩ := ra.of_tup
        simp only [walkN] at hn
        cases hn
        exact ⟨ad2, e3, ⟨fun H as S ex rh hg => ⟨vs, ex.tup _ _ sq, RL.mono ex rl⟩⟩⟩) H' as' x' rr ra
      exact ⟨ad, e3, ⟨vs, sv⟩, k _ _ _ ex rr (wk_itt q)⟩
    | ref n =>
      refine .inl ⟨as, ls, S, .ref n, _, rh, rs, e1, fun H' as' x' ex rr ra => ?_⟩
      obtain ⟨ad, vs, e3, sv, q⟩ := hsq false (fun H' as' x' ra => by
        cases ra with
        | @ref _ ad2 hn2 =>
          refine ⟨ad2, rfl, ⟨fun H as S ex rh hg => ?_⟩⟩
          simp only [walkN] at hn
          split at hn
          · cases hn
            obtain ⟨vs, h1, h2⟩ := rh.ob n ad2 _ (ex.pre _ _ hn2) (gdOk_one hg)
            exact ⟨vs, SqL.of h1, h2⟩
          · cases hn
            rcases rh.ob n ad2 _ (ex.pre _ _ hn2) (gdOk_one hg) with ⟨o, vs, h1, h2⟩ | ⟨vs, o, its, m, h1, h2⟩
            · exact ⟨vs, .inl (.inr ⟨o, h1⟩), h2⟩
            · exact ⟨vs, .inr ⟨o, its, m, h1⟩, h2⟩
          · cases hn) H' as' x' rr ra
      exact ⟨ad, e3, ⟨vs, sv⟩, k _ _ _ ex rr (wk_itl q)⟩
    | _ => simp only [walkN] at hn; cases hn
theorem di_enum (hg : Gl X "enumerate") (hm : X.mg "enumerate" = none) (he : DE N G X e ce) (hs : starEach [e] X.env = (false, eval e X.env) :: starEach [] X.env := by rfl) :
    DI N G X (.Tuple elts kk tpos) (.Call (.Name "enumerate" p) [e] [] pos) (.enm ce) := PI.imp (pi_enumG hg hm he hs) fun σ H R q => by
  obtain ⟨as, ls, S, w, S', rh, rs, e, k⟩ := q
  simp only [evIt] at e
  obtain ⟨x, S1, e1, e2⟩ := bind_of e
  cases hw : walkN x S1 with
  | none => rw [hw] at e2; cases e2
  | some w' =>
    rw [hw] at e2
    cases e2
    obtain ⟨xs, gd⟩ := w'
    refine ⟨as, ls, S, x, _, rh, rs, e1, fun H' as' x' ex rr ra => ?_⟩
    obtain ⟨b, ad, rfl, q⟩ := walk_sq (N := N) ra hw
    obtain ⟨vs, sv, rl⟩ := q.at_ H' as' _ Ext.refl rr (walkN_gd hw)
    exact ⟨b, ad, vs, rfl, sv, k _ _ _ ex rr (wk_enum q)⟩
theorem di_zip (hg : Gl X "zip") (hm : X.mg "zip" = none) (ha : DE N G X a ca) (hb : DE N G X b cb)
    (hs2 : starEach [b] X.env = (false, eval b X.env) :: starEach [] X.env := by rfl) (hs : starEach [a, b] X.env = (false, eval a X.env) :: starEach [b] X.env := by rfl) (hpl : (backTo pos (starEach [b] X.env)).any (·.1) = false := by rfl) :
    DI N G X (.Tuple elts kk tpos) (.Call (.Name "zip" p) [a, b] [] pos) (.zip ca cb) := PI.imp (pi_zipG hg hm ha hb hs2 hs hpl) fun σ H R q => by
  obtain ⟨as, ls, S, w, S', rh, rs, e, k⟩ := q
  simp only [evIt] at e
  obtain ⟨x, S1, e1, e2⟩ := bind_of e
  obtain ⟨y, S2, e3, e4⟩ := bind_of e2
  cases hw : walkN x S2 with
  | none => rw [hw] at e4; cases e4
  | some w1 =>
    cases hz : walkN y S2 with
    | none => rw [hw, hz] at e4; cases e4
    | some w2 =>
      rw [hw, hz] at e4
      cases e4
      obtain ⟨xs, gd⟩ := w1
      obtain ⟨ys, gd2⟩ := w2
      refine ⟨as, ls, S, x, S1, rh, rs, e1, fun H1 as1 x' ex rr ra => ⟨as1, ls, S1, y, _, rr, rs.mono ex, e3, fun H' as' y' ex2 rr2 rb => ?_⟩⟩
      obtain ⟨b, ad, rfl, q⟩ := walk_sq (N := N) (ra.mono ex2) hw
      obtain ⟨c, ad2, rfl, q2⟩ := walk_sq (N := N) rb hz
      obtain ⟨vs, sv, rl⟩ := q.at_ H' as' _ Ext.refl rr2 (walkN_gd hw)
      obtain ⟨ws, sw, rl2⟩ := q2.at_ H' as' _ Ext.refl rr2 (walkN_gd hz)
      exact ⟨b, c, ad, ad2, vs, ws, rfl, rfl, sv, sw, k _ _ _ (ex.trans ex2) rr2 (wk_zip q q2)⟩
theorem di_rev (hg : Gl X "reversed") (hm : X.mg "reversed" = none) (he : DE N G X e ce) (hs : starEach [e] X.env = (false, eval e X.env) :: starEach [] X.env := by rfl) :
    DI N G X tg (.Call (.Name "reversed" p) [e] [] pos) (.rev ce) := PI.imp (pi_revA hg hm he hs) fun σ H R q => by
  obtain ⟨as, ls, S, w, S', rh, rs, e, k⟩ := q
  simp only [evIt] at e
  obtain ⟨x, S1, e1, e2⟩ := bind_of e
  cases hw : walkN x S1 with
  | none => rw [hw] at e2; cases e2
  | some w' =>
    rw [hw] at e2
    cases e2
    obtain ⟨xs, gd⟩ := w'
    refine ⟨as, ls, S, x, _, rh, rs, e1, fun H' as' x' ex rr ra => ?_⟩
    obtain ⟨b, ad, rfl, q⟩ := walk_sq (N := N) ra hw
    obtain ⟨vs, sv, rl⟩ := q.at_ H' as' _ Ext.refl rr (walkN_gd hw)
    have hl := prd_len rl
    cases b with
    | false => exact ⟨ad, vs, rfl, .inl ⟨sv, hl ▸ k _ _ _ ex rr (wk_itv q)⟩⟩
    | true => exact ⟨ad, vs, rfl, .inr ⟨sv, hl ▸ k _ _ _ ex rr (wk_itvT q)⟩⟩
theorem di_rng1 (hg : Gl X "range") (hm : X.mg "range" = none) (ha : DA N G X [a] [ca]) (hs : starEach [a] X.env = [(false, eval a X.env)] := by rfl) : DI N G X tg (.Call (.Name "range" p) [a] [] pos) (.rng [ca]) := PI.imp (pi_range1 hg hm ha hs) fun σ H R q => by
  obtain ⟨as, ls, S, w, S', rh, rs, e, k⟩ := q
  simp only [evIt] at e
  obtain ⟨vs, S1, e1, e2⟩ := bind_of e
  refine ⟨as, ls, S, vs, S1, rh, rs, e1, fun H' as' vs' ex rr rl => ?_⟩
  have hl := evs_len e1
  match vs, hl, e2, rl with
  | [x], _, e2, .cons rx .nil =>
    cases rx with
    | int j =>
      simp only at e2
      split at e2
      · rename_i hj
        cases e2
        have : line = 1000000 := rfl
        exact ⟨j, rfl, by omega, by omega, k _ _ _ ex rr wk_itr⟩
      · cases e2
    | _ => cases e2
theorem di_rng2 (hg : Gl X "range") (hm : X.mg "range" = none) (ha : DA N G X [a, b] [ca, cb]) (hs : starEach [a, b] X.env = [(false, eval a X.env), (false, eval b X.env)] := by rfl) (hs2 : starEach [b] X.env = [(false, eval b X.env)] := by rfl) : DI N G X tg (.Call (.Name "range" p) [a, b] [] pos) (.rng [ca, cb]) := PI.imp (pi_range2 hg hm ha hs hs2) fun σ H R q => by
  obtain ⟨as, ls, S, w, S', rh, rs, e, k⟩ := q
  simp only [evIt] at e
  obtain ⟨vs, S1, e1, e2⟩ := bind_of e
  refine ⟨as, ls, S, vs, S1, rh, rs, e1, fun H' as' vs' ex rr rl => ?_⟩
  have hl := evs_len e1
  match vs, hl, e2, rl with
  | [x, y], _, e2, .cons rx (.cons ry .nil) =>
    cases rx with
    | int i =>
      cases ry with
      | int j =>
        simp only at e2
        split at e2
        · rename_i hj
          cases e2
          have : line = 1000000 := rfl
          exact ⟨i, j, rfl, by omega, k _ _ _ ex rr wk_itr⟩
        · cases e2
      | _ => cases e2
    | _ => cases e2

/-! comprehensions -/
section
variable {elt kx : Expr} {ce ck : E} {it : Expr} {ci : NM.It} {t : Tg} {ifs : List Expr} {cts : List T} {scope : Scope} {own : List (Str × Nat)} {ows : List Nat}
theorem de_lc (hc : X.calm = true) (hN : X.N.Nodup) (hi : DI N G X tg it ci) (ok : BlkOk X.N X.env.scope scope own) (how : own.map (·.2) = ows)
    (hg : ∀ (s : Shared) (H : Hp) (C : Addr) (cl : List (Str × Addr)) (fp : List Addr), DTg (X.blk s H scope (compEnvC scope cl C X.env) fp) tg t) (ht : ∀ (s : Shared) (H : Hp) (C : Addr) (cl : List (Str × Addr)) (fp : List Addr), DTs N G (X.blk s H scope (compEnvC scope cl C X.env) fp) ifs cts)
    (he : ∀ (s : Shared) (H : Hp) (C : Addr) (cl : List (Str × Addr)) (fp : List Addr), DE N G (X.blk s H scope (compEnvC scope cl C X.env) fp) elt ce) (hown : ∀ i ∈ tgN t, i ∈ ows) (hs : ∀ x, foldedSetIterable it X.env x = pure x := by intro _; rfl) :
    DE N G X (.ListComp elt [⟨tg, it, ifs, 0⟩] scope pos) (.lc ce t ci cts ows) := by
  subst how
  exact PE.imp (pe_lc (g := gT X.K t) (tt := tDT N X.K (evTs G cts)) (te := tD N X.K (ev G ce)) hc hN hi ok hg ht he hs) fun σ H Q q => lc_imp hown q
theorem ds_setLc {i : Nat} {y : Str} {py spos : Pos} (hc : X.calm = true) (hN : X.N.Nodup) (hy : X.N[i]? = some y) (hyl : X.env.scope.names.lookup y = some .local) (hsw : swapsWith (.ListComp elt [⟨tg, it, ifs, 0⟩] scope pos) (some (.Name y py)) spos.line X.env = pure true)
    (hi : DI N G X tg it ci) (ok : BlkOk X.N X.env.scope scope own) (how : own.map (·.2) = ows)
    (hg : ∀ (s : Shared) (H : Hp) (C : Addr) (cl : List (Str × Addr)) (fp : List Addr), DTg (X.blk s H scope (compEnvC scope cl C X.env) fp) tg t) (ht : ∀ (s : Shared) (H : Hp) (C : Addr) (cl : List (Str × Addr)) (fp : List Addr), DTs N G (X.blk s H scope (compEnvC scope cl C X.env) fp) ifs cts)
    (he : ∀ (s : Shared) (H : Hp) (C : Addr) (cl : List (Str × Addr)) (fp : List Addr), DE N G (X.blk s H scope (compEnvC scope cl C X.env) fp) elt ce) (hown : ∀ i ∈ tgN t, i ∈ ows) (hs : ∀ x, foldedSetIterable it X.env x = pure x := by intro _; rfl) :
    DS N G X (.Assign [.Name y py] (.ListComp elt [⟨tg, it, ifs, 0⟩] scope pos) spos) (.asg (.nm i) (.lc ce t ci cts ows)) := by
  subst how
  refine PS.imp (ps_setLc (g := gT X.K t) (tt := tDT N X.K (evTs G cts)) (te := tD N X.K (ev G ce)) hc hN hy hyl hsw hi ok hg ht he hs) fun D σ H q => lc_imp hown ?_
  obtain ⟨as, ls, S, r, S', rh, rs, e, k⟩ := q
  simp only [evC, asgL] at e
  obtain ⟨x, S1, e1, e2⟩ := bind_of e
  cases e2
  exact ⟨as, ls, S, x, _, rh, rs, e1, fun H' as' v' ex rr ra => k.nx ex rr ((rs.mono ex).set i ra)⟩
theorem de_dc (hc : X.calm = true) (hN : X.N.Nodup) (hi : DI N G X tg it ci) (ok : BlkOk X.N X.env.scope scope own) (how : own.map (·.2) = ows)
    (hg : ∀ (s : Shared) (H : Hp) (C : Addr) (cl : List (Str × Addr)) (fp : List Addr), DTg (X.blk s H scope (compEnvC scope cl C X.env) fp) tg t) (ht : ∀ (s : Shared) (H : Hp) (C : Addr) (cl : List (Str × Addr)) (fp : List Addr), DTs N G (X.blk s H scope (compEnvC scope cl C X.env) fp) ifs cts)
    (hk : ∀ (s : Shared) (H : Hp) (C : Addr) (cl : List (Str × Addr)) (fp : List Addr), DE N G (X.blk s H scope (compEnvC scope cl C X.env) fp) kx ck)
    (he : ∀ (s : Shared) (H : Hp) (C : Addr) (cl : List (Str × Addr)) (fp : List Addr), DE N G (X.blk s H scope (compEnvC scope cl C X.env) fp) elt ce) (hown : ∀ i ∈ tgN t, i ∈ ows) (hs : ∀ x, foldedSetIterable it X.env x = pure x := by intro _; rfl) :
    DE N G X (.DictComp kx elt [⟨tg, it, ifs, 0⟩] scope pos) (.dc ck ce t ci cts ows) := by
  subst how
  exact PE.imp (pe_dc (g := gT X.K t) (tt := tDT N X.K (evTs G cts)) (tk := tD N X.K (ev G ck)) (tv := tD N X.K (ev G ce)) hc hN hi ok hg ht hk he hs) fun σ H Q q => dc_imp hown q
/-- name = {k: v for ..} on one line, the name a local -/
theorem ps_setDc {i : Nat} {y : Str} {py spos : Pos} {wi : TI} {g : TG} {tt : TT} {tk tv : TE} (hc : X.calm = true) (hN : X.N.Nodup) (hy : X.N[i]? = some y) (hyl : X.env.scope.names.lookup y = some .local) (hsw : swapsWith (.DictComp kx elt [⟨tg, it, ifs, 0⟩] scope pos) (some (.Name y py)) spos.line X.env = pure true)
    (hi : PI X tg it wi) (ok : BlkOk X.N X.env.scope scope own)
    (hg : ∀ (s : Shared) (H : Hp) (C : Addr) (cl : List (Str × Addr)) (fp : List Addr), PG (X.blk s H scope (compEnvC scope cl C X.env) fp) tg g) (ht : ∀ (s : Shared) (H : Hp) (C : Addr) (cl : List (Str × Addr)) (fp : List Addr), PTs (X.blk s H scope (compEnvC scope cl C X.env) fp) ifs tt)
    (hk : ∀ (s : Shared) (H : Hp) (C : Addr) (cl : List (Str × Addr)) (fp : List Addr), PE (X.blk s H scope (compEnvC scope cl C X.env) fp) kx tk)
    (he : ∀ (s : Shared) (H : Hp) (C : Addr) (cl : List (Str × Addr)) (fp : List Addr), PE (X.blk s H scope (compEnvC scope cl C X.env) fp) elt tv) (hs : ∀ x, foldedSetIterable it X.env x = pure x := by intro _; rfl) :
    PS X (.Assign [.Name y py] (.DictComp kx elt [⟨tg, it, ifs, 0⟩] scope pos) spos) (tAsg (tDc wi g tt tk tv (own.map (·.2))) (gName i)) := by
  refine ⟨fun pins s σ H D I h => ?_⟩
  rw [exec_Assign_Name_used _ _ _ _ hsw]
  refine wpAny_bind (wpAny_standAt (wpAny_bind ?_))
  show wpAny _ X.A (do let _ ← comprehension (.DictComp kx elt [⟨tg, it, ifs, 0⟩] scope pos) scope X.env (firstIterPos [⟨tg, it, ifs, 0⟩] pos) newDict false (eval it X.env) (some (assign (.Name y py) X.env))) _ _ s
  have h : tDc wi g tt tk tv (own.map (·.2)) σ H (fun x H1 => gName i x σ H1 D.nx) := h
  refine wpAny_bind (thn (dc_core (Qf := fun _ s' => SP X pins D .next s') hc hN I hi ok hg ht hk he hs h fun L C s' m H' I' q hn f => ?_) fun _ s' hq => wpAny_pure (wpAny_pure hq))
  show wpAny _ _ (assign (.Name y py) X.env (.ref L)) _ _ _
  refine wpAny_assign_Name (store_ok2 (v := V.ref L) I' hN hy (.inl hyl) rfl (fun s2 I2 ⟨a, sb, ha⟩ => ?_) (.inr hyl))
  obtain ⟨f0, f1, f2, f3, f4, f5⟩ := f
  have haC : C ≠ a := by
    rcases ha with z | z
    · rw [z]; exact f1
    · exact fun e => f4 y a z e.symm
  exact ⟨m, hn.sameBut sb haC, fun h3 sb3 => ⟨_, H', I2.turned (t' := s2.toks) (fun b o hb e => (sb3.2 b hb).trans e) f0 f1 f3 f4 f5, q⟩⟩
theorem ds_setDc {i : Nat} {y : Str} {py spos : Pos} (hc : X.calm = true) (hN : X.N.Nodup) (hy : X.N[i]? = some y) (hyl : X.env.scope.names.lookup y = some .local) (hsw : swapsWith (.DictComp kx elt [⟨tg, it, ifs, 0⟩] scope pos) (some (.Name y py)) spos.line X.env = pure true)
    (hi : DI N G X tg it ci) (ok : BlkOk X.N X.env.scope scope own) (how : own.map (·.2) = ows)
    (hg : ∀ (s : Shared) (H : Hp) (C : Addr) (cl : List (Str × Addr)) (fp : List Addr), DTg (X.blk s H scope (compEnvC scope cl C X.env) fp) tg t) (ht : ∀ (s : Shared) (H : Hp) (C : Addr) (cl : List (Str × Addr)) (fp : List Addr), DTs N G (X.blk s H scope (compEnvC scope cl C X.env) fp) ifs cts)
    (hk : ∀ (s : Shared) (H : Hp) (C : Addr) (cl : List (Str × Addr)) (fp : List Addr), DE N G (X.blk s H scope (compEnvC scope cl C X.env) fp) kx ck)
    (he : ∀ (s : Shared) (H : Hp) (C : Addr) (cl : List (Str × Addr)) (fp : List Addr), DE N G (X.blk s H scope (compEnvC scope cl C X.env) fp) elt ce) (hown : ∀ i ∈ tgN t, i ∈ ows) (hs : ∀ x, foldedSetIterable it X.env x = pure x := by intro _; rfl) :
    DS N G X (.Assign [.Name y py] (.DictComp kx elt [⟨tg, it, ifs, 0⟩] scope pos) spos) (.asg (.nm i) (.dc ck ce t ci cts ows)) := by
  subst how
  refine PS.imp (ps_setDc (g := gT X.K t) (tt := tDT N X.K (evTs G cts)) (tk := tD N X.K (ev G ck)) (tv := tD N X.K (ev G ce)) hc hN hy hyl hsw hi ok hg ht hk he hs) fun D σ H q => dc_imp hown ?_
  obtain ⟨as, ls, S, r, S', rh, rs, e, k⟩ := q
  simp only [evC, asgL] at e
  obtain ⟨x, S1, e1, e2⟩ := bind_of e
  cases e2
  exact ⟨as, ls, S, x, _, rh, rs, e1, fun H' as' v' ex rr ra => k.nx ex rr ((rs.mono ex).set i ra)⟩
end
end
end NM
set_option Elab.async false
set_option linter.all false
set_option maxRecDepth 100000
set_option maxHeartbeats 4000000
/-! NmH: the operators, the built-ins and their methods by data. -/
namespace NM
open PySem PySem.Spec L2

section
variable {N : Nam} {X : Cx}
theorem RO.ro_sq {K : PySem.W.Frag} {H : Hp} {as : List Addr} {a : Addr} {o : AO} {xs : List AV} (h : RO N K H as a o) (e : AO.ro o = some xs) : ∃ vs, SqL K H a vs ∧ RL K H as xs vs := by
  cases o with
  | lst ys => cases e; obtain ⟨vs, h1, h2⟩ := h; exact ⟨vs, SqL.of h1, h2⟩
  | rol ys =>
    cases e
    rcases h with ⟨o, vs, h1, h2⟩ | ⟨vs, o, its, m, h1, h2⟩
    · exact ⟨vs, .inl (.inr ⟨o, h1⟩), h2⟩
    · exact ⟨vs, .inr ⟨o, its, m, h1⟩, h2⟩
  | _ => cases e
theorem line_le {n : Nat} (h : n ≤ line) : n ≤ sizeLine := small_line (by have : line = 1000000 := rfl; omega)
theorem line_lt {n : Nat} (h : n < line) : n < sizeLine := small_line' (by have : line = 1000000 := rfl; omega)
theorem sS_app (a b : List Nat) : sS a ++ sS b = sS (a ++ b) := SX.S_cat a b
theorem prd_nil {α β : Type} {R : α → β → Prop} {xs : List α} {ys : List β} (h : Paired R xs ys) : xs = [] ↔ ys = [] := by cases h <;> simp

theorem opr_add : OpR X (binaryOp .Add) (rD2 N X.K (bin2 .add)) := by
  intro pins s σ H x' y' v u Q I rx ry ⟨as, S, x, y, w, S', rh, rax, ray, e, k⟩
  cases rax with
  | int i =>
    cases ray with
    | int j => cases e; exact op_add pins s σ H _ _ v u Q I rx ry ⟨i, j, rfl, rfl, k.now rh (.int _)⟩
    | _ => cases e
  | str a =>
    cases ray with
    | str b =>
      simp only [bin2] at e
      split at e
      · rename_i hl
        cases e
        exact op_add_str pins s σ H _ _ v u Q I rx ry ⟨sS a, sS b, rfl, rfl, line_le (by rw [sS_len, sS_len]; exact hl), by rw [sS_app]; exact k.now rh (.str _)⟩
      · cases e
    | _ => cases e
  | @tup a va p sq l1 k1 =>
    cases ray with
    | @tup b vb q sq2 l2 k2 =>
      simp only [bin2] at e
      split at e
      · rename_i hl
        cases e
        have r1 := prd_of l1 k1
        have r2 := prd_of l2 k2
        refine op_catA pins s σ H _ _ v u Q I rx ry ⟨p, q, va, vb, rfl, rfl, sq, sq2, line_le (by omega), fun h => ?_, fun h1 h2 => ?_, fun h1 h2 p hp => ?_⟩
        · have := (prd_nil r1).mpr h
          subst this
          exact k.now rh (RA.mk_tup sq2 r2)
        · have := (prd_nil r2).mpr h2
          subst this
          rw [List.append_nil] at k
          exact k.now rh (RA.mk_tup sq r1)
        · exact k.tupl rh hp (prd_app r1 r2)
      · cases e
    | _ => cases e
  | @ref n p hn =>
    cases ray with
    | @ref m q hm =>
      simp only [bin2] at e
      split at e
      · rename_i a b h1 h2
        split at e
        · rename_i hl
          cases e
          obtain ⟨va, e1, r1⟩ := rh.ob n p _ hn h1
          obtain ⟨vb, e2, r2⟩ := rh.ob m q _ hm h2
          have l1 := prd_len r1
          have l2 := prd_len r2
          refine op_cat pins s σ H _ _ v u Q I rx ry ⟨p, q, va, vb, rfl, rfl, e1, e2, line_le (by omega), fun p hp => ?_⟩
          exact k.obj rh hp rfl ⟨_, upd_same, RL.mono (Ext.new hp _) (prd_app r1 r2)⟩
        · cases e
      · cases e
    | _ => cases e
  | _ => cases e
theorem opr_sub : OpR X (binaryOp .Sub) (rD2 N X.K (bin2 .sub)) := by
  intro pins s σ H x' y' v u Q I rx ry ⟨as, S, x, y, w, S', rh, rax, ray, e, k⟩
  cases rax with
  | int i =>
    cases ray with
    | int j => cases e; exact op_sub pins s σ H _ _ v u Q I rx ry ⟨i, j, rfl, rfl, k.now rh (.int _)⟩
    | _ => cases e
  | _ => cases e
theorem mulOk_C {i j : Int} (h : mulOk i j = true) : CMul i j := by
  unfold mulOk at h
  simp only [Bool.or_eq_true, Bool.and_eq_true, decide_eq_true_eq] at h
  exact h
theorem opr_mul : OpR X (binaryOp .Mult) (rD2 N X.K (bin2 .mul)) := by
  intro pins s σ H x' y' v u Q I rx ry ⟨as, S, x, y, w, S', rh, rax, ray, e, k⟩
  cases ray with
  | int j =>
    cases rax with
    | int i =>
      simp only [bin2] at e
      split at e
      · rename_i h
        cases e
        exact op_mul pins s σ H _ _ v u Q I rx ry ⟨i, j, rfl, rfl, mulOk_C h, k.now rh (.int _)⟩
      · cases e
    | str a =>
      simp only [bin2] at e
      split at e
      · rename_i h
        cases e
        obtain ⟨h1, h2, h3⟩ := h
        obtain ⟨t, rfl⟩ := rx
        obtain ⟨t2, rfl⟩ := ry
        have hj : j = 0 ∨ j = 1 := by omega
        rcases hj with rfl | rfl
        · refine PySem.P.mul_str_none (by decide) (by decide) ⟨.str (sS []), H, I.tok _, ⟨_, rfl⟩, k.now rh (.str _)⟩
        · have hsn : ¬ ((1 : Int) < 1) := by decide
          refine PySem.P.mul_str (by decide) (fun _ h => by simp at h) (fun _ h => by simp at h) ?_
          rw [if_neg hsn, if_pos (by simp)]
          refine ⟨.str (sS a), H, I, ⟨_, rfl⟩, ?_⟩
          have e1 : (List.replicate (Int.toNat 1) a).flatten = a := by simp
          rw [e1] at k
          exact k.now rh (.str _)
      · cases e
    | @tup a va p sq l1 k1 =>
      simp only [bin2] at e
      split at e
      · rename_i h
        cases e
        obtain ⟨h1, h2, h3, h4⟩ := h
        have r1 := prd_of l1 k1
        refine op_repT pins s σ H _ _ v u Q I rx ry ⟨p, j, va, rfl, rfl, sq, fun z => ?_, h2, h3, by omega, fun p hp => ?_⟩
        · have := (prd_nil r1).mpr z
          subst this
          cases h1
        · exact k.tupl rh hp (prd_rep r1 _)
      · cases e
    | @ref n p hn =>
      simp only [bin2] at e
      split at e
      · rename_i a h1
        split at e
        · rename_i hl
          cases e
          obtain ⟨va, e1, r1⟩ := rh.ob n p _ hn h1
          have l1 := prd_len r1
          refine op_rep pins s σ H _ _ v u Q I rx ry ⟨p, j, va, rfl, rfl, e1, by omega, by omega, small_line ?_, fun p hp => ?_⟩
          · have h1 : va.length ≤ 1000 := by omega
            have h2 : j.toNat ≤ 1000 := by omega
            exact Nat.le_trans (Nat.mul_le_mul h1 h2) (by decide)
          · exact k.obj rh hp rfl ⟨_, upd_same, RL.mono (Ext.new hp _) (prd_rep r1 _)⟩
        · cases e
      · cases e
    | _ => cases e
  | _ => cases rax <;> cases e
theorem opr_fdiv : OpR X (binaryOp .FloorDiv) (rD2 N X.K (bin2 .fdiv)) := by
  intro pins s σ H x' y' v u Q I rx ry ⟨as, S, x, y, w, S', rh, rax, ray, e, k⟩
  cases rax with
  | int i =>
    cases ray with
    | int j =>
      simp only [bin2] at e
      split at e
      · rename_i h; cases e; exact op_fdiv pins s σ H _ _ v u Q I rx ry ⟨i, j, rfl, rfl, h, k.now rh (.int _)⟩
      · cases e
    | _ => cases e
  | _ => cases e
theorem opr_mod : OpR X (binaryOp .Mod) (rD2 N X.K (bin2 .mod)) := by
  intro pins s σ H x' y' v u Q I rx ry ⟨as, S, x, y, w, S', rh, rax, ray, e, k⟩
  cases rax with
  | int i =>
    cases ray with
    | int j =>
      simp only [bin2] at e
      split at e
      · rename_i h; cases e; exact op_mod pins s σ H _ _ v u Q I rx ry ⟨i, j, rfl, rfl, h, k.now rh (.int _)⟩
      · cases e
    | _ => cases e
  | _ => cases e
theorem opr_pow : OpR X (binaryOp .Pow) (rD2 N X.K (bin2 .pow)) := by
  intro pins s σ H x' y' v u Q I rx ry ⟨as, S, x, y, w, S', rh, rax, ray, e, k⟩
  cases rax with
  | int i =>
    cases ray with
    | int j =>
      simp only [bin2] at e
      split at e
      · rename_i h
        cases e
        obtain ⟨h1, h2, rfl⟩ := h
        exact op_pow pins s σ H _ _ v u Q I rx ry ⟨10, j, rfl, rfl, ⟨h1, by omega, by decide⟩, k.now rh (.int _)⟩
      · cases e
    | _ => cases e
  | _ => cases e

/-! comparisons -/
theorem opr_lt : OpR X (compareOp .Lt) (rD2 N X.K (cmp2 .lt)) := by
  intro pins s σ H x' y' v u Q I rx ry ⟨as, S, x, y, w, S', rh, rax, ray, e, k⟩
  cases rax <;> cases ray <;> first | (cases e; exact op_lt pins s σ H _ _ v u Q I rx ry ⟨_, _, rfl, rfl, k.now rh (.bl _)⟩) | cases e
theorem opr_le : OpR X (compareOp .LtE) (rD2 N X.K (cmp2 .le)) := by
  intro pins s σ H x' y' v u Q I rx ry ⟨as, S, x, y, w, S', rh, rax, ray, e, k⟩
  cases rax <;> cases ray <;> first | (cases e; exact op_le pins s σ H _ _ v u Q I rx ry ⟨_, _, rfl, rfl, k.now rh (.bl _)⟩) | cases e
theorem opr_gt : OpR X (compareOp .Gt) (rD2 N X.K (cmp2 .gt)) := by
  intro pins s σ H x' y' v u Q I rx ry ⟨as, S, x, y, w, S', rh, rax, ray, e, k⟩
  cases rax <;> cases ray <;> first | (cases e; exact op_gt pins s σ H _ _ v u Q I rx ry ⟨_, _, rfl, rfl, k.now rh (.bl _)⟩) | cases e
theorem opr_ge : OpR X (compareOp .GtE) (rD2 N X.K (cmp2 .ge)) := by
  intro pins s σ H x' y' v u Q I rx ry ⟨as, S, x, y, w, S', rh, rax, ray, e, k⟩
  cases rax <;> cases ray <;> first | (cases e; exact op_ge pins s σ H _ _ v u Q I rx ry ⟨_, _, rfl, rfl, k.now rh (.bl _)⟩) | cases e
theorem isNon_iff {K : PySem.W.Frag} {H : Hp} {as : List Addr} {x : AV} {x' : V} (r : RA K H as x x') : decide (x' = .non) = isNon x := by
  cases r <;> simp [isNon]
theorem opr_isN : OpR X (compareOp .Is) (rD2 N X.K (cmp2 .isN)) := by
  intro pins s σ H x' y' v u Q I rx ry ⟨as, S, x, y, w, S', rh, rax, ray, e, k⟩
  cases ray with
  | non =>
    simp only [cmp2] at e
    cases e
    exact op_isN pins s σ H _ _ v u Q I rx ry ⟨rfl, by rw [isNon_iff rax]; exact k.now rh (.bl _)⟩
  | _ => simp only [cmp2] at e; cases e
theorem opr_notN : OpR X (compareOp .IsNot) (rD2 N X.K (cmp2 .notN)) := by
  intro pins s σ H x' y' v u Q I rx ry ⟨as, S, x, y, w, S', rh, rax, ray, e, k⟩
  cases ray with
  | non =>
    simp only [cmp2] at e
    cases e
    exact op_notN pins s σ H _ _ v u Q I rx ry ⟨rfl, by rw [isNon_iff rax]; exact k.now rh (.bl _)⟩
  | _ => simp only [cmp2] at e; cases e
theorem dec_str2 (a b : List Nat) : decide (V.str (sS a) = V.str (sS b)) = (a == b) := by
  have h : (V.str (sS a) = V.str (sS b)) = (a = b) := propext ⟨fun z => sS_inj (V.str.inj z), fun z => by rw [z]⟩
  rw [decide_eq_decide.mpr (Eq.to_iff h)]
  exact (Bool.beq_eq_decide_eq a b).symm
theorem sca_eq {K : PySem.W.Frag} {H : Hp} {as : List Addr} {x y : AV} {x' y' : V} (rx : RA K H as x x') (ry : RA K H as y y') (h : sca x y = true) : scal x' y' = true ∧ decide (x' = y') = aeq x y := by
  cases rx <;> cases ry <;> simp_all [sca, AV.atom, scal, aeq] <;> exact (Bool.beq_eq_decide_eq _ _).symm
theorem toD_dp {K : PySem.W.Frag} {H : Hp} {as : List Addr} : ∀ (n : Nat) (x : AV) (x' : V), RA K H as x x' → x.dp n = true → Dp K H x' (toD x) := by
  intro n x x' r
  induction r generalizing n with
  | non => intro _; exact .non
  | bl b => intro _; exact .bl b
  | int i => intro _; exact .int i
  | str s => intro _; exact .str _
  | ref h => intro h2; cases n <;> simp [AV.dp] at h2
  | @tup xs vs a sq l k ih =>
    intro h2
    cases n with
    | zero => simp [AV.dp] at h2
    | succ n =>
      simp only [AV.dp] at h2
      refine .tup sq ?_
      have key : ∀ (xs : List AV) (vs : List V), xs.length = vs.length → dpAll n xs = true → (∀ (i : Nat) (x : AV) (v : V), xs[i]? = some x → vs[i]? = some v → x.dp n = true → Dp K H v (toD x)) → DpAll K H vs (toDs xs) := by
        intro xs
        induction xs with
        | nil => intro vs l _ _; cases vs with | nil => exact .nil | cons _ _ => simp at l
        | cons x xs ihx =>
          intro vs l hd hk
          cases vs with
          | nil => simp at l
          | cons v vs =>
            simp only [dpAll, Bool.and_eq_true] at hd
            exact .cons (hk 0 x v rfl rfl hd.1) (ihx vs (by simpa using l) hd.2 fun i x v h1 h2 => hk (i + 1) x v (by simpa using h1) (by simpa using h2))
      exact key xs vs l h2 fun i x v h1 h2 h3 => ih i x v h1 h2 n h3
theorem beq_sS (a b : List Nat) : ((⟨a.toArray⟩ : Str) == (⟨b.toArray⟩ : Str)) = (a == b) := SX.S_beq a b
theorem aeq_eqv : ∀ (n : Nat) (x y : AV), x.dp n = true → y.dp n = true → PyData.eqv (toD x) (toD y) = aeq x y := by
  intro n x
  induction x using AV.rec (motive_2 := fun xs => ∀ m ys, dpAll m xs = true → dpAll m ys = true → PyData.eqvAll (toDs xs) (toDs ys) = aeqs xs ys) generalizing n with
  | non => intro y h1 h2; cases y <;> cases n <;> simp_all [toD, PyData.eqv, aeq, AV.dp]
  | bl b => intro y h1 h2; cases y <;> cases n <;> simp_all [toD, PyData.eqv, aeq, AV.dp]
  | int i => intro y h1 h2; cases y <;> cases n <;> simp_all [toD, PyData.eqv, aeq, AV.dp]
  | str s =>
    intro y h1 h2
    cases y with
    | str t => simp only [toD, PyData.eqv, aeq]; exact beq_sS s t
    | _ => cases n <;> simp_all [toD, PyData.eqv, aeq, AV.dp]
  | tup xs ih =>
    intro y h1 h2
    cases n with
    | zero => simp [AV.dp] at h1
    | succ n =>
      cases y with
      | tup ys => simp only [toD, PyData.eqv, aeq]; exact ih n ys (by simpa [AV.dp] using h1) (by simpa [AV.dp] using h2)
      | _ => simp_all [toD, PyData.eqv, aeq, AV.dp]
  | ref k => intro y h1 h2; cases n <;> simp [AV.dp] at h1
  | nil => rename_i m ys h1 h2; cases ys <;> simp [toDs, PyData.eqvAll, aeqs]
  | cons x xs h1 h2 =>
    rename_i m ys h3 h4
    cases ys with
    | nil => simp [toDs, PyData.eqvAll, aeqs]
    | cons y ys =>
      simp only [dpAll, Bool.and_eq_true] at h3 h4
      simp only [toDs, PyData.eqvAll, aeqs]
      rw [h1 m y h3.1 h4.1, h2 m ys h3.2 h4.2]
theorem opr_eq (hu : X.A.units + 64 < cLine) : OpR X (compareOp .Eq) (rD2 N X.K (cmp2 .eq)) := by
  intro pins s σ H x' y' v u Q I rx ry ⟨as, S, x, y, w, S', rh, rax, ray, e, k⟩
  simp only [cmp2, eq2] at e
  by_cases h : sca x y = true
  · rw [if_pos h] at e
    cases e
    obtain ⟨h1, h2⟩ := sca_eq rax ray h
    exact op_eq pins s σ H _ _ v u Q I rx ry ⟨h1, by rw [h2]; have := k.now rh (.bl _); simpa using this⟩
  · rw [if_neg h] at e
    by_cases h2 : (x.dp 60 && y.dp 60 && SeqAt.shaped (toD x) && SeqAt.shaped (toD y)) = true
    · rw [if_pos h2] at e
      cases e
      simp only [Bool.and_eq_true] at h2
      obtain ⟨⟨⟨d1, d2⟩, s1⟩, s2⟩ := h2
      exact op_eqD hu pins s σ H _ _ v u Q I rx ry ⟨_, _, toD_dp 60 x _ rax d1, toD_dp 60 y _ ray d2, s1, s2, by rw [aeq_eqv 60 x y d1 d2]; have := k.now rh (.bl _); simpa using this⟩
    · rw [if_neg h2] at e; cases e
theorem opr_ne (hu : X.A.units + 64 < cLine) : OpR X (compareOp .NotEq) (rD2 N X.K (cmp2 .ne)) := by
  intro pins s σ H x' y' v u Q I rx ry ⟨as, S, x, y, w, S', rh, rax, ray, e, k⟩
  simp only [cmp2, eq2] at e
  by_cases h : sca x y = true
  · rw [if_pos h] at e
    cases e
    obtain ⟨h1, h2⟩ := sca_eq rax ray h
    exact op_ne pins s σ H _ _ v u Q I rx ry ⟨h1, by rw [h2]; have := k.now rh (.bl _); simpa using this⟩
  · rw [if_neg h] at e
    by_cases h2 : (x.dp 60 && y.dp 60 && SeqAt.shaped (toD x) && SeqAt.shaped (toD y)) = true
    · rw [if_pos h2] at e
      cases e
      simp only [Bool.and_eq_true] at h2
      obtain ⟨⟨⟨d1, d2⟩, s1⟩, s2⟩ := h2
      exact op_neD hu pins s σ H _ _ v u Q I rx ry ⟨_, _, toD_dp 60 x _ rax d1, toD_dp 60 y _ ray d2, s1, s2, by rw [aeq_eqv 60 x y d1 d2]; have := k.now rh (.bl _); simpa using this⟩
    · rw [if_neg h2] at e; cases e
/-! in -/
def isStrA : AV → Bool
  | .str _ => true | _ => false
theorem str_all {K : PySem.W.Frag} {H : Hp} {as : List Addr} {xs : List AV} {vs : List V} (r : RL K H as xs vs) (h : xs.all (fun z => match z with | .str _ => true | _ => false) = true) (k : List Nat) :
    vs.all flatV = true ∧ inV (.str (sS k)) vs = xs.any fun z => aeq z (.str k) := by
  induction r with
  | nil => exact ⟨rfl, rfl⟩
  | @cons x v _ _ r t ih =>
    rw [List.all_cons, Bool.and_eq_true] at h
    cases r with
    | str s =>
      obtain ⟨h1, h2⟩ := ih h.2
      refine ⟨by rw [List.all_cons, h1]; rfl, ?_⟩
      unfold inV at h2 ⊢
      rw [List.any_cons, List.any_cons, h2]
      congr 1
      simp only [L2.eqV, aeq]
      exact beq_sS s k
    | _ => cases h.1
theorem in_dict {K : PySem.W.Frag} (hu : X.A.units + 1 < cLine) : OpR X (compareOp .In) (fun x y H Q => ∃ a o, y = .ref a ∧ DGet H a x o ∧ Q (.bl o.isSome) H) := by
  intro pins s σ H x y v u Q I rx ry ⟨a, o, ey, g, q⟩
  subst ey
  cases ry
  exact d_in hu I g rx fun s' I' => ⟨.bl _, H, I', rfl, q⟩
theorem notin_dict {K : PySem.W.Frag} (hu : X.A.units + 1 < cLine) : OpR X (compareOp .NotIn) (fun x y H Q => ∃ a o, y = .ref a ∧ DGet H a x o ∧ Q (.bl (!o.isSome)) H) := by
  intro pins s σ H x y v u Q I rx ry ⟨a, o, ey, g, q⟩
  subst ey
  cases ry
  exact d_notIn hu I g rx fun s' I' => ⟨.bl _, H, I', rfl, q⟩
theorem dget_of {K : PySem.W.Frag} {H : Hp} {as : List Addr} {a : Addr} {kvs : List (List Nat × AV)} {vs : List (Key × V)} (hr : Rd H a (.dK vs)) (k : List Nat) : DGet H a (.str (sS k)) (valV vs (Sum.inr (sS k) : Key)) := .inl ⟨vs, Sum.inr (sS k), hr, rfl, rfl⟩
theorem opr_in (hu : X.A.units + 64 < cLine) : OpR X (compareOp .In) (rD2 N X.K (cmp2 .inn)) := by
  intro pins s σ H x' y' v u Q I rx ry ⟨as, S, x, y, w, S', rh, rax, ray, e, k⟩
  simp only [cmp2] at e
  cases hh : in2 x y S with
  | none => rw [hh] at e; cases e
  | some b =>
    rw [hh] at e
    simp only [ofB, Bool.bne_false] at e
    cases e
    have kk : Q (.bl b) H := k.now rh (.bl _)
    cases ray with
    | @ref n p hn =>
      cases rax with
      | str t =>
        simp only [in2] at hh
        cases hS : S[n]? with
        | none => rw [hS] at hh; cases hh
        | some o =>
          rw [hS] at hh
          cases o with
          | dic kvs =>
            cases hh
            obtain ⟨vs, h1, pr⟩ := rh.ob n p _ hn hS
            exact in_dict (K := X.K) (by omega) pins s σ H _ _ v u Q I rx ry ⟨p, _, rfl, dget_of (K := X.K) (as := as) (kvs := kvs) (.inl h1) t, by rw [← (dict_get pr t).2]; exact kk⟩
          | fdc kvs =>
            cases hh
            obtain ⟨ob, vs, h1, pr⟩ := rh.ob n p _ hn hS
            exact in_dict (K := X.K) (by omega) pins s σ H _ _ v u Q I rx ry ⟨p, _, rfl, dget_of (K := X.K) (as := as) (kvs := kvs) (.inr ⟨ob, h1⟩) t, by rw [← (dict_get pr t).2]; exact kk⟩
          | lst xs =>
            simp only at hh
            split at hh
            · rename_i ha
              cases hh
              obtain ⟨vs, h1, pr⟩ := rh.ob n p _ hn hS
              obtain ⟨g1, g2⟩ := str_all pr ha t
              exact op_in_seq pins s σ H _ _ v u Q I rx ry ⟨p, vs, rfl, .inl (SqL.of h1), rfl, g1, by rw [if_neg (by decide), g2]; exact kk⟩
            · cases hh
          | _ => cases hh
      | _ => simp only [in2] at hh; split at hh <;> simp_all
    | @tup xs vs p sq l1 k1 =>
      cases rax with
      | str t =>
        simp only [in2] at hh
        split at hh
        · rename_i ha
          cases hh
          obtain ⟨g1, g2⟩ := str_all (prd_of l1 k1) ha t
          exact op_in_seq pins s σ H _ _ v u Q I rx ry ⟨p, vs, rfl, .inr sq, rfl, g1, by rw [if_neg (by decide), g2]; exact kk⟩
        · cases hh
      | _ => simp only [in2] at hh; cases hh
    | str t =>
      cases rax with
      | str z =>
        simp only [in2] at hh
        split at hh
        · rename_i c hc
          cases hc
          cases hh
          exact op_in_sign pins s σ H _ _ v u Q I rx ry ⟨c, sS t, rfl, rfl, by simpa using kk⟩
        · cases hh
      | _ => simp only [in2] at hh; cases hh
    | _ => simp only [in2] at hh; cases hh
/-! subscripts -/
theorem ixA_of {α : Type} {xs : List α} {i : Int} : ixA xs i = atI xs i := by
  unfold ixA atI ixN
  by_cases h0 : 0 ≤ i
  · rw [if_pos h0, if_pos h0]
    by_cases h1 : i < xs.length
    · rw [if_pos h1]; rfl
    · rw [if_neg h1]
      exact List.getElem?_eq_none (by omega)
  · rw [if_neg h0, if_neg h0]
    by_cases h1 : -(xs.length : Int) ≤ i
    · rw [if_pos h1, if_pos (by omega)]
      simp only [Option.bind_some]
      congr 1
      omega
    · rw [if_neg h1, if_neg (by omega)]; rfl
theorem ixA_prd {α β : Type} {R : α → β → Prop} {xs : List α} {ys : List β} (h : Paired R xs ys) {i : Int} {x : α} (e : ixA xs i = some x) : ∃ y, atI ys i = some y ∧ R x y := by
  rw [← ixA_of]
  have hl := prd_len h
  unfold ixA at e ⊢
  split at e
  · rename_i h0
    rw [if_pos h0]
    exact prd_some h e
  · rename_i h0
    rw [if_neg h0]
    split at e
    · rename_i h1
      rw [if_pos (by omega), ← hl]
      exact prd_some h e
    · cases e
theorem ix_dict (hu : X.A.units + 1 < cLine) : IxR X (fun x y H Q => ∃ a v, x = .ref a ∧ DGet H a y (some v) ∧ Q v H) := by
  intro value slice pins s σ H x y v u Q I rx ry h hs
  obtain ⟨a, w, ex, g, q⟩ := h
  subst ex
  cases rx
  have hT := dict_typeIs I g
  unfold PyProof.Rows.subscriptTail
  refine wpAny_bind ?_
  rw [getitemInPython_of_ne hT.not_modules]
  refine wpAny_bind (wpAny_specialOf hT PySem.F.slot_dict_getitem.lookup ?_)
  have fin : wpAny (model X.prog X.w) X.A (subscripted slice false (.ref a) u) (fun r s3 => wpAny (model X.prog X.w) X.A (letTemporaryGo value (.ref a) r >>= fun _ => pure r) (EP X pins σ Q) X.xe s3) X.xe s := by
    rw [hs]
    refine wpAny_operating (d_getItem hu I g ry fun w' s' I' rw' => ?_)
    exact wpAny_bind (wpAny_letTemporaryGo (wpAny_pure ⟨w, H, I', rw', q⟩))
  first
    | exact wpAny_pure (wpAny_bind fin)
    | exact wpAny_bind (wpAny_pure (wpAny_bind fin))
    | exact wpAny_bind fin
theorem ixr (hu : X.A.units + 1 < cLine) : IxR X (rD2 N X.K idx2) := by
  intro value slice pins s σ H x' y' v u Q I rx ry ⟨as, S, x, y, w, S', rh, rax, ray, e, k⟩ hs
  cases ray with
  | int i =>
    cases rax with
    | @tup xs vs p sq l1 k1 =>
      simp only [idx2] at e
      split at e
      · rename_i z hz
        cases e
        obtain ⟨z', h1, h2⟩ := ixA_prd (prd_of l1 k1) hz
        exact ix_tup value slice pins s σ H _ _ v u Q I rx ry ⟨p, vs, i, z', rfl, rfl, sq, h1, k.now rh h2⟩ hs
      · cases e
    | str t =>
      simp only [idx2] at e
      split at e
      · rename_i hl
        split at e
        · rename_i c hc
          cases e
          exact ix_str value slice pins s σ H _ _ v u Q I rx ry ⟨sS t, i, c, rfl, rfl, line_le (by rw [sS_len]; exact hl), by rw [ixA_of] at hc; simpa using hc, k.now rh (.str [c])⟩ hs
        · cases e
      · cases e
    | @ref n p hn =>
      simp only [idx2] at e
      split at e
      · rename_i xs hx
        split at e
        · rename_i z hz
          cases e
          cases hS : S[n]? with
          | none => rw [hS] at hx; cases hx
          | some o =>
            rw [hS] at hx
            obtain ⟨vs, h1, h2⟩ := (rh.ob n p _ hn hS).ro_sq hx
            obtain ⟨z', h3, h4⟩ := ixA_prd h2 hz
            exact ix_list value slice pins s σ H _ _ v u Q I rx ry ⟨p, vs, i, z', rfl, rfl, h1, h3, k.now rh h4⟩ hs
        · cases e
      · cases e
    | _ => simp only [idx2] at e; cases e
  | str t =>
    cases rax with
    | @ref n p hn =>
      simp only [idx2] at e
      cases hS : S[n]? with
      | none => rw [hS] at e; cases e
      | some o =>
        rw [hS] at e
        cases o with
        | dic kvs =>
          simp only at e
          split at e
          · rename_i z hz
            cases e
            obtain ⟨vs, h1, pr⟩ := rh.ob n p _ hn hS
            obtain ⟨z', h3, h4⟩ := (dict_get pr t).1 _ hz
            exact ix_dict hu value slice pins s σ H _ _ v u Q I rx ry ⟨p, z', rfl, h3 ▸ dget_of (K := X.K) (as := as) (kvs := kvs) (.inl h1) t, k.now rh h4⟩ hs
          · cases e
        | fdc kvs =>
          simp only at e
          split at e
          · rename_i z hz
            cases e
            obtain ⟨ob, vs, h1, pr⟩ := rh.ob n p _ hn hS
            obtain ⟨z', h3, h4⟩ := (dict_get pr t).1 _ hz
            exact ix_dict hu value slice pins s σ H _ _ v u Q I rx ry ⟨p, z', rfl, h3 ▸ dget_of (K := X.K) (as := as) (kvs := kvs) (.inr ⟨ob, h1⟩) t, k.now rh h4⟩ hs
          · cases e
        | _ => cases e
    | _ => simp only [idx2] at e; cases e
  | _ => cases rax <;> simp only [idx2] at e <;> cases e
/-! slices -/
theorem sIx_of (n d : Nat) (o : Option Int) : sIx n d o = HT.sIx n d o := by
  cases o with
  | none => rfl
  | some i =>
    show (if 0 ≤ i then min i.toNat n else (n - (-i).toNat)) = if i < 0 then (i + (n : Int)).toNat else min i.toNat n
    split <;> split <;> omega
theorem cutA_of (vs : List V) (lo hi : Option Int) : cutA vs lo hi = cutV vs lo hi := by
  unfold cutA cutV
  rw [sIx_of, sIx_of, List.drop_take]
theorem cutA_prd {α β : Type} {R : α → β → Prop} {xs : List α} {ys : List β} (h : Paired R xs ys) (lo hi : Option Int) : Paired R (cutA xs lo hi) (cutA ys lo hi) := by
  unfold cutA
  rw [prd_len h]
  exact prd_drop _ (prd_take _ h)
theorem slr : SlR X (rDS N X.K) := by
  intro pins s σ H x' v vl vu lo hi sl Q I rx hs pl pu ⟨as, S, x, w, S', rh, rax, e, k⟩
  cases rax with
  | @tup xs vs p sq l1 k1 =>
    simp only [slc2] at e
    cases e
    have r := prd_of l1 k1
    refine sl_tupA pins s σ H _ v vl vu lo hi sl Q I rx hs pl pu ⟨p, vs, rfl, sq, fun h => ?_, fun h q hq => ?_⟩
    · have e2 : cutA xs lo hi = xs := by
        unfold cutA
        rw [sIx_of, sIx_of, prd_len r, h.1, h.2, List.drop_zero, ← prd_len r, List.take_length]
      rw [e2] at k
      exact k.now rh (RA.mk_tup sq r)
    · rw [← cutA_of]
      exact k.tupl rh hq (cutA_prd r lo hi)
  | @ref n p hn =>
    simp only [slc2] at e
    split at e
    · rename_i xs hx
      cases e
      cases hS : S[n]? with
      | none => rw [hS] at hx; cases hx
      | some o =>
        rw [hS] at hx
        obtain ⟨vs, h1, h2⟩ := (rh.ob n p _ hn hS).ro_sq hx
        refine sl_list pins s σ H _ v vl vu lo hi sl Q I rx hs pl pu ⟨p, vs, rfl, h1, fun q hq => ?_⟩
        rw [← cutA_of]
        exact k.obj rh hq rfl ⟨_, upd_same, RL.mono (Ext.new hq _) (cutA_prd h2 lo hi)⟩
    · cases e
  | str t =>
    simp only [slc2] at e
    split at e
    · rename_i i
      split at e
      · rename_i h
        cases e
        exact C8.sl_txt pins s σ H _ v vl vu none (some i) sl Q I rx hs pl pu ⟨sS t, rfl, line_le (by rw [sS_len]; exact h.2), by rw [SX.slice_to h.1]; exact k.now rh (.str _)⟩
      · cases e
    · rename_i i
      split at e
      · rename_i h
        cases e
        exact C8.sl_txt pins s σ H _ v vl vu (some i) none sl Q I rx hs pl pu ⟨sS t, rfl, line_le (by rw [sS_len]; exact h.2), by rw [SX.slice_from h.1]; exact k.now rh (.str _)⟩
      · cases e
    · cases e
  | _ => simp only [slc2] at e; cases e
end
end NM
set_option Elab.async false
set_option linter.all false
set_option maxRecDepth 100000
set_option maxHeartbeats 4000000
/-! NmI: the built-ins and their methods by data; a slice stored; displays of dicts. -/
namespace NM
open PySem PySem.Spec L2

section
variable {N : Nam} {G : Gam} {X : Cx}
theorem seq_sq {K : PySem.W.Frag} {H : Hp} {as : List Addr} {S : Hh} {x : AV} {x' : V} {xs : List AV} (rh : RH N K H as S) (r : RA K H as x x') (e : seqOf x S = some xs) : ∃ p vs, x' = .ref p ∧ (SqL K H p vs ∨ SqT K H p vs) ∧ RL K H as xs vs := by
  cases r with
  | @tup ys vs p sq l k => cases e; exact ⟨p, vs, rfl, .inr sq, prd_of l k⟩
  | @ref n p hn =>
    simp only [seqOf] at e
    cases hS : S[n]? with
    | none => rw [hS] at e; cases e
    | some o =>
      rw [hS] at e
      obtain ⟨vs, h1, h2⟩ := (rh.ob n p _ hn hS).ro_sq e
      exact ⟨p, vs, rfl, .inl h1, h2⟩
  | _ => cases e
theorem rl_one {K : PySem.W.Frag} {H : Hp} {as : List Addr} {x : AV} {xs' : List V} (r : RL K H as [x] xs') : ∃ x', xs' = [x'] ∧ RA K H as x x' := by
  cases r with
  | cons r t => cases t; exact ⟨_, rfl, r⟩
theorem rl_two {K : PySem.W.Frag} {H : Hp} {as : List Addr} {x y : AV} {xs' : List V} (r : RL K H as [x, y] xs') : ∃ x' y', xs' = [x', y'] ∧ RA K H as x x' ∧ RA K H as y y' := by
  cases r with
  | cons r t =>
    obtain ⟨y', rfl, r2⟩ := rl_one t
    exact ⟨_, _, rfl, r, r2⟩
theorem on1_ok {vs : List AV} {f : AV → Res AV} {w : AV} {S : Hh} (h : on1 vs f = .ok w S) : ∃ x, vs = [x] ∧ f x = .ok w S := by
  match vs, h with
  | [x], h => exact ⟨x, rfl, h⟩
theorem on2_ok {vs : List AV} {f : AV → AV → Res AV} {w : AV} {S : Hh} (h : on2 vs f = .ok w S) : ∃ x y, vs = [x, y] ∧ f x y = .ok w S := by
  match vs, h with
  | [x, y], h => exact ⟨x, y, rfl, h⟩
theorem onL_ok {x : AV} {S S' : Hh} {f : Nat → List AV → Res AV} {w : AV} (h : onL x S f = .ok w S') : ∃ n xs, x = .ref n ∧ S[n]? = some (.lst xs) ∧ f n xs = .ok w S' := by
  cases x with
  | ref n =>
    simp only [onL] at h
    split at h
    · rename_i xs hS; exact ⟨n, xs, rfl, hS, h⟩
    · cases h
  | _ => cases h
theorem onD_ok {x : AV} {S S' : Hh} {f : Nat → List (List Nat × AV) → Res AV} {w : AV} (h : onD x S f = .ok w S') : ∃ n xs, x = .ref n ∧ S[n]? = some (.dic xs) ∧ f n xs = .ok w S' := by
  cases x with
  | ref n =>
    simp only [onD] at h
    split at h
    · rename_i xs hS; exact ⟨n, xs, rfl, hS, h⟩
    · cases h
  | _ => cases h
theorem cr_len : CallR X (.builtin "len") (rDL N X.K (bi1 .len)) := by
  intro pins s σ H xs' us Q I r ⟨as, S, xs, w, S', rh, rl, e, k⟩
  obtain ⟨x, ex, e2⟩ := on1_ok e; clear e; have e := e2; clear e2; subst ex
  obtain ⟨x', rfl, ra⟩ := rl_one rl
  cases hl : lenA x S with
  | none => rw [hl] at e; cases e
  | some n =>
    rw [hl] at e
    cases e
    have kk : Q (.int (n : Nat)) H := k.now rh (.int _)
    cases ra with
    | str t =>
      simp only [lenA] at hl
      split at hl
      · rename_i h1
        cases hl
        exact call_len_str pins s σ H _ us Q I r ⟨sS t, rfl, line_le (by rw [sS_len]; exact h1), by rw [sS_len]; exact kk⟩
      · cases hl
    | @tup ys vs p sq l k1 =>
      cases hl
      exact call_len_seq pins s σ H _ us Q I r ⟨p, vs, rfl, .inr sq, by rw [← l]; exact kk⟩
    | @ref n p hn =>
      simp only [lenA] at hl
      split at hl
      · rename_i kvs hS
        cases hl
        obtain ⟨vs, h1, pr⟩ := rh.ob n p _ hn hS
        exact call_lenD pins s σ H _ us Q I r ⟨p, vs, rfl, h1, by rw [← prd_len pr]; exact kk⟩
      · rename_i xs hS
        cases hl
        obtain ⟨vs, h1, h2⟩ := (rh.ob n p _ hn hS).ro_sq rfl
        exact call_len_seq pins s σ H _ us Q I r ⟨p, vs, rfl, .inl h1, by rw [← prd_len h2]; exact kk⟩
      · rename_i xs hS
        cases hl
        obtain ⟨vs, h1, h2⟩ := (rh.ob n p _ hn hS).ro_sq rfl
        exact call_len_seq pins s σ H _ us Q I r ⟨p, vs, rfl, .inl h1, by rw [← prd_len h2]; exact kk⟩
      · cases hl
    | _ => cases hl
theorem cr_int : CallR X (.type "int") (rDL N X.K (bi1 .int)) := by
  intro pins s σ H xs' us Q I r ⟨as, S, xs, w, S', rh, rl, e, k⟩
  obtain ⟨x, ex, e2⟩ := on1_ok e; clear e; have e := e2; clear e2; subst ex
  obtain ⟨x', rfl, ra⟩ := rl_one rl
  cases ra with
  | bl b => cases e; exact call_int1 pins s σ H _ us Q I r (.inr ⟨b, rfl, k.now rh (.int _)⟩)
  | int i => cases e; exact call_int1 pins s σ H _ us Q I r (.inl ⟨i, rfl, k.now rh (.int _)⟩)
  | _ => cases e
theorem cr_max2 (hc : X.calm = true) : CallR X (.builtin "max") (rDL N X.K (bi1 .max2)) := by
  intro pins s σ H xs' us Q I r ⟨as, S, xs, w, S', rh, rl, e, k⟩
  obtain ⟨x, y, ex, e2⟩ := on2_ok e; clear e; have e := e2; clear e2; subst ex
  obtain ⟨x', y', rfl, ra, rb⟩ := rl_two rl
  cases ra <;> cases rb <;> first | (cases e; exact call_max2 hc pins s σ H _ us Q I r ⟨_, _, rfl, k.now rh (.int _)⟩) | cases e
theorem cr_min2 (hc : X.calm = true) : CallR X (.builtin "min") (rDL N X.K (bi1 .min2)) := by
  intro pins s σ H xs' us Q I r ⟨as, S, xs, w, S', rh, rl, e, k⟩
  obtain ⟨x, y, ex, e2⟩ := on2_ok e; clear e; have e := e2; clear e2; subst ex
  obtain ⟨x', y', rfl, ra, rb⟩ := rl_two rl
  cases ra <;> cases rb <;> first | (cases e; exact call_min2 hc pins s σ H _ us Q I r ⟨_, _, rfl, k.now rh (.int _)⟩) | cases e
theorem sumI_of {K : PySem.W.Frag} {H : Hp} {as : List Addr} {xs : List AV} {vs : List V} (r : RL K H as xs vs) : ∀ {i : Int}, sumI xs = some i → ∃ ns : List Int, vs = ns.map V.int ∧ ns.sum = i := by
  induction r with
  | nil => intro i e; cases e; exact ⟨[], rfl, rfl⟩
  | @cons x v _ _ r t ih =>
    intro i e
    cases r with
    | int j =>
      simp only [sumI] at e
      obtain ⟨m, h1, h2⟩ := Option.map_eq_some_iff.mp e
      obtain ⟨ns, h3, h4⟩ := ih h1
      exact ⟨j :: ns, by rw [h3]; rfl, by rw [List.sum_cons, h4]; exact h2⟩
    | _ => simp only [sumI] at e; cases e
theorem cr_sumD (hc : X.calm = true) : CallR X (.builtin "sum") (rDL N X.K (bi1 .sum)) := by
  intro pins s σ H xs' us Q I r ⟨as, S, xs, w, S', rh, rl, e, k⟩
  obtain ⟨x, ex, e2⟩ := on1_ok e; clear e; have e := e2; clear e2; subst ex
  obtain ⟨x', rfl, ra⟩ := rl_one rl
  cases ra with
  | @ref n p hn =>
    simp only [biSum] at e
    split at e
    · rename_i ys hy
      split at e
      · rename_i i hi
        cases e
        cases hS : S[n]? with
        | none => rw [hS] at hy; cases hy
        | some o =>
          rw [hS] at hy
          obtain ⟨vs, h1, h2⟩ := (rh.ob n p _ hn hS).ro_sq hy
          obtain ⟨ns, rfl, h4⟩ := sumI_of h2 hi
          exact cr_sum hc pins s σ H _ us Q I r ⟨p, ns, rfl, h1, by rw [h4]; exact k.now rh (.int _)⟩
      · cases e
    · cases e
  | _ => cases e
theorem cr_tuple : CallR X (.type "tuple") (rDL N X.K (bi1 .tuple)) := by
  intro pins s σ H xs' us Q I r ⟨as, S, xs, w, S', rh, rl, e, k⟩
  obtain ⟨x, ex, e2⟩ := on1_ok e; clear e; have e := e2; clear e2; subst ex
  obtain ⟨x', rfl, ra⟩ := rl_one rl
  cases hs : seqOf x S with
  | none => rw [hs] at e; cases e
  | some ys =>
    rw [hs] at e
    cases e
    obtain ⟨p, vs, rfl, sq, rl2⟩ := seq_sq rh ra hs
    rcases sq with sq | sq
    · exact call_tuple_of pins s σ H _ us Q I r ⟨p, vs, rfl, .inl ⟨sq, fun q hq => k.tupl rh hq rl2⟩⟩
    · exact call_tuple_of pins s σ H _ us Q I r ⟨p, vs, rfl, .inr ⟨sq, k.now rh (RA.mk_tup sq rl2)⟩⟩
theorem cr_list : CallR X (.type "list") (rDL N X.K (bi1 .list)) := by
  intro pins s σ H xs' us Q I r ⟨as, S, xs, w, S', rh, rl, e, k⟩
  obtain ⟨x, ex, e2⟩ := on1_ok e; clear e; have e := e2; clear e2; subst ex
  obtain ⟨x', rfl, ra⟩ := rl_one rl
  cases hs : seqOf x S with
  | none => rw [hs] at e; cases e
  | some ys =>
    rw [hs] at e
    cases e
    obtain ⟨p, vs, rfl, sq, rl2⟩ := seq_sq rh ra hs
    exact call_list_of pins s σ H _ us Q I r ⟨p, vs, rfl, sq, fun q hq => k.obj rh hq rfl ⟨_, upd_same, RL.mono (Ext.new hq _) rl2⟩⟩
theorem cr_dict : CallR X (.type "dict") (rDL N X.K (bi1 .dict)) := by
  intro pins s σ H xs' us Q I r ⟨as, S, xs, w, S', rh, rl, e, k⟩
  obtain ⟨x, ex, e2⟩ := on1_ok e; clear e; have e := e2; clear e2; subst ex
  obtain ⟨x', rfl, ra⟩ := rl_one rl
  cases ra with
  | @ref n p hn =>
    simp only [biDict] at e
    split at e
    · rename_i kvs hS
      cases e
      obtain ⟨vs, h1, pr⟩ := rh.ob n p _ hn hS
      exact call_dictD pins s σ H _ us Q I r ⟨p, vs, rfl, .inl h1, fun q hq => k.obj rh hq rfl ⟨_, upd_same, prd_imp pr fun _ _ z => ⟨z.1, z.2.mono (Ext.new hq _)⟩⟩⟩
    · cases e
  | _ => cases e
/-! methods -/
theorem mr_append : MtR X "list.append" (rDM N X.K (bm1 .append)) := by
  intro pins s σ H x' xs' v us Q I rv r ⟨as, S, x, xs, w, S', rh, ra, rl, e, k⟩
  obtain ⟨y, ex, e2⟩ := on1_ok e; clear e; have e := e2; clear e2; subst ex
  obtain ⟨n, ys, ex, hS, e2⟩ := onL_ok e; clear e; have e := e2; clear e2; subst ex
  obtain ⟨y', rfl, ry⟩ := rl_one rl
  cases ra with
  | @ref _ p hn =>
    split at e
    · rename_i hl
      cases e
      obtain ⟨vs, hH, pr⟩ := rh.ob n p _ hn hS
      have h1 := prd_len pr
      have ext : Ext X.K H as (upd H p (.lst (vs ++ [y']))) as := Ext.same (not_tup hH (fun _ z => nomatch z) fun _ _ z => nomatch z)
      have wr := rh.write (o' := .lst (ys ++ [y])) (u := .lst (vs ++ [y'])) hn hS rfl rfl (not_tup hH (fun _ z => nomatch z) fun _ _ z => nomatch z) (fun ob vs z => by rw [hH] at z; cases z) ⟨_, upd_same, RL.mono ext (prd_app pr (.cons ry .nil))⟩
      exact mt_append pins s σ H _ _ v us Q I rv r ⟨p, vs, y', rfl, rfl, hH, line_lt (by omega), k _ _ _ wr.2 wr.1 .non⟩
    · cases e
theorem mr_extend : MtR X "list.extend" (rDM N X.K (bm1 .extend)) := by
  intro pins s σ H x' xs' v us Q I rv r ⟨as, S, x, xs, w, S', rh, ra, rl, e, k⟩
  obtain ⟨y, ex, e2⟩ := on1_ok e; clear e; have e := e2; clear e2; subst ex
  obtain ⟨n, ys, ex, hS, e2⟩ := onL_ok e; clear e; have e := e2; clear e2; subst ex
  obtain ⟨m, zs, ex, hS2, e2⟩ := onL_ok e; clear e; have e := e2; clear e2; subst ex
  obtain ⟨y', rfl, ry⟩ := rl_one rl
  cases ra with
  | @ref _ p hn =>
    cases ry with
    | @ref _ q hm =>
      split at e
      · rename_i hl
        cases e
        obtain ⟨vs, hH, pr⟩ := rh.ob n p _ hn hS
        obtain ⟨ws, hH2, pr2⟩ := rh.ob m q _ hm hS2
        have h1 := prd_len pr
        have h2 := prd_len pr2
        have ext : Ext X.K H as (upd H p (.lst (vs ++ ws))) as := Ext.same (not_tup hH (fun _ z => nomatch z) fun _ _ z => nomatch z)
        have wr := rh.write (o' := .lst (ys ++ zs)) (u := .lst (vs ++ ws)) hn hS rfl rfl (not_tup hH (fun _ z => nomatch z) fun _ _ z => nomatch z) (fun ob vs z => by rw [hH] at z; cases z) ⟨_, upd_same, RL.mono ext (prd_app pr pr2)⟩
        exact mt_extend pins s σ H _ _ v us Q I rv r ⟨p, q, vs, ws, rfl, rfl, hH, hH2, line_le (by omega), k _ _ _ wr.2 wr.1 .non⟩
      · cases e
theorem prd_dropLast {α β : Type} {R : α → β → Prop} {xs : List α} {ys : List β} (h : Paired R xs ys) : Paired R xs.dropLast ys.dropLast := by
  rw [List.dropLast_eq_take, List.dropLast_eq_take, prd_len h]
  exact prd_take _ h
theorem mr_pop : MtR X "list.pop" (rDM N X.K (bm1 .pop)) := by
  intro pins s σ H x' xs' v us Q I rv r ⟨as, S, x, xs, w, S', rh, ra, rl, e, k⟩
  simp only [bm1] at e
  cases xs with
  | cons _ _ => cases e
  | nil =>
    obtain ⟨n, ys, ex, hS, e2⟩ := onL_ok e; clear e; have e := e2; clear e2; subst ex
    cases rl
    cases ra with
    | @ref _ p hn =>
      split at e
      · rename_i z hz
        cases e
        obtain ⟨vs, hH, pr⟩ := rh.ob n p _ hn hS
        have h1 := prd_len pr
        rw [List.getLast?_eq_getElem?] at hz
        obtain ⟨z', g1, g2⟩ := prd_some pr hz
        have ext : Ext X.K H as (upd H p (.lst vs.dropLast)) as := Ext.same (not_tup hH (fun _ z => nomatch z) fun _ _ z => nomatch z)
        have wr := rh.write (o' := .lst ys.dropLast) (u := .lst vs.dropLast) hn hS rfl rfl (not_tup hH (fun _ z => nomatch z) fun _ _ z => nomatch z) (fun ob vs z => by rw [hH] at z; cases z) ⟨_, upd_same, RL.mono ext (prd_dropLast pr)⟩
        exact mt_pop pins s σ H _ _ v us Q I rv r ⟨p, vs, z', rfl, rfl, hH, by rw [← h1]; exact g1, k _ _ _ wr.2 wr.1 (g2.mono ext)⟩
      · cases e
theorem strsOf_of {K : PySem.W.Frag} {H : Hp} {as : List Addr} {xs : List AV} {vs : List V} (r : RL K H as xs vs) : ∀ {ys : List (List Nat)}, strsOf xs = some ys → vs = (ys.map sS).map V.str := by
  induction r with
  | nil => intro i e; cases e; rfl
  | @cons x v _ _ r t ih =>
    intro ys e
    cases r with
    | str j =>
      simp only [strsOf] at e
      obtain ⟨m, h1, h2⟩ := Option.map_eq_some_iff.mp e
      subst h2
      rw [ih h1]; rfl
    | _ => simp only [strsOf] at e; cases e
theorem joinN_eq (sep : List Nat) : ∀ ys : List (List Nat), TL.joinL sep ys = joinN sep ys
  | [] => rfl
  | [a] => rfl
  | a :: b :: r => by
    show a ++ (sep ++ TL.joinL sep (b :: r)) = a ++ sep ++ joinN sep (b :: r)
    rw [joinN_eq sep (b :: r), List.append_assoc]
theorem join_sS (sep : List Nat) (ys : List (List Nat)) : Txt.join (sS sep) (ys.map sS) = sS (joinN sep ys) := by
  have := SX.join_S sep ys
  rw [joinN_eq] at this
  exact this
theorem mr_join : MtR X "str.join" (rDM N X.K (bm1 .join)) := by
  intro pins s σ H x' xs' v us Q I rv r ⟨as, S, x, xs, w, S', rh, ra, rl, e, k⟩
  obtain ⟨y, ex, e2⟩ := on1_ok e; clear e; have e := e2; clear e2; subst ex
  obtain ⟨y', rfl, ry⟩ := rl_one rl
  cases ra with
  | str sep =>
    simp only [bmJoin] at e
    cases hs : seqOf y S with
    | none => rw [hs] at e; cases e
    | some zs =>
      rw [hs] at e
      simp only [Option.bind_some] at e
      cases hz : strsOf zs with
      | none => rw [hz] at e; cases e
      | some ys =>
        rw [hz] at e
        simp only at e
        split at e
        · rename_i hl
          cases e
          obtain ⟨p, vs, rfl, sq, rl2⟩ := seq_sq rh ry hs
          have hv := strsOf_of rl2 hz
          subst hv
          refine mt_join pins s σ H _ _ v us Q I rv r ⟨sS sep, p, ys.map sS, rfl, rfl, sq, ?_, by rw [join_sS]; exact k.now rh (.str _)⟩
          have h1 : ((ys.map sS).map fun x => x.length) = ys.map List.length := by
            rw [List.map_map]
            exact List.map_congr_left fun z _ => sS_len z
          rw [h1, List.length_map, sS_len]
          have : line = 1000000 := rfl
          omega
        · cases e
  | _ => cases e
theorem kv_merge {K : PySem.W.Frag} {H : Hp} {as : List Addr} {ks ms : List (List Nat × AV)} {gs ns : List (Key × V)} (h : Paired (fun (p : List Nat × AV) (q : Key × V) => q.1 = .inr (sS p.1) ∧ RA K H as p.2 q.2) ks gs)
    (h2 : Paired (fun (p : List Nat × AV) (q : Key × V) => q.1 = .inr (sS p.1) ∧ RA K H as p.2 q.2) ms ns) :
    Paired (fun (p : List Nat × AV) (q : Key × V) => q.1 = .inr (sS p.1) ∧ RA K H as p.2 q.2) (ms.foldl (fun a kv => putD kv.1 kv.2 a) ks) (mergeK gs ns) := by
  unfold mergeK
  induction h2 generalizing ks gs with
  | nil => exact h
  | @cons p q _ _ r t ih =>
    rw [List.foldl_cons, List.foldl_cons]
    refine ih ?_
    rw [r.1]
    exact dict_put h p.1 r.2
theorem mt_updateD : MtR X "dict.update" (fun x xs H Q => ∃ d o ks ms, x = .ref d ∧ xs = [.ref o] ∧ d ≠ o ∧ H d = some (.dK ks) ∧ H o = some (.dK ms) ∧ ks.length + ms.length ≤ sizeLine ∧ Q .non (upd H d (.dK (mergeK ks ms)))) := by
  intro pins s σ H x xs v us Q I rx r ⟨d, o, ks, ms, ex, exs, hne, hd, ho, hl, q⟩
  subst ex; subst exs
  cases rx
  obtain ⟨u, rfl, ru⟩ := r.one
  cases ru
  obtain ⟨z, hsd, vs, rel, dd⟩ := dk_of I.hok hd
  obtain ⟨z2, hso, vs2, rel2, dd2⟩ := dk_of I.hok ho
  refine call_meetsIn PySem.F.slot_dict_update dd.typeIs PySem.F.entry_dict_update (PySem.F.args_dict_update_2 _ _) (meets_dict_update (mixKind X.prog X.w) d o hne hso) ⟨vs, vs2, dd, dd2, by rw [← rel.length, ← rel2.length]; exact hl, fun h' hm _ hs => ?_⟩
  have hl2 : (mergeK ks ms).length ≤ sizeLine := by have := length_mergeK ms ks; omega
  have he : ∃ q, h'.get? d = some q := let ⟨q, _, _, hq, _⟩ := hm; ⟨q, hq⟩
  exact ⟨.non, _, d_write (t' := s.toks) I (by rw [hd]; exact True.intro) hs he (dk_new hl2 hsd (rel2.merge rel) hm), rfl, q⟩
theorem mr_update : MtR X "dict.update" (rDM N X.K (bm1 .update)) := by
  intro pins s σ H x' xs' v us Q I rv r ⟨as, S, x, xs, w, S', rh, ra, rl, e, k⟩
  obtain ⟨y, ex, e2⟩ := on1_ok e; clear e; have e := e2; clear e2; subst ex
  obtain ⟨n, ks, ex, hS, e2⟩ := onD_ok e; clear e; have e := e2; clear e2; subst ex
  obtain ⟨m, ms, ex, hS2, e2⟩ := onD_ok e; clear e; have e := e2; clear e2; subst ex
  obtain ⟨y', rfl, ry⟩ := rl_one rl
  cases ra with
  | @ref _ p hn =>
    cases ry with
    | @ref _ q hm =>
      split at e
      · rename_i hl
        cases e
        obtain ⟨gs, hH, pr⟩ := rh.ob n p _ hn hS
        obtain ⟨ns, hH2, pr2⟩ := rh.ob m q _ hm hS2
        have h1 := prd_len pr
        have h2 := prd_len pr2
        have ext : Ext X.K H as (upd H p (.dK (mergeK gs ns))) as := Ext.same (not_tup hH (fun _ z => nomatch z) fun _ _ z => nomatch z)
        have wr := rh.write (o' := .dic (ms.foldl (fun a kv => putD kv.1 kv.2 a) ks)) (u := .dK (mergeK gs ns)) hn hS rfl rfl (not_tup hH (fun _ z => nomatch z) fun _ _ z => nomatch z) (fun ob vs z => by rw [hH] at z; cases z) ⟨_, upd_same, prd_imp (kv_merge pr pr2) fun _ _ z => ⟨z.1, z.2.mono ext⟩⟩
        have hpq : p ≠ q := fun z => hl.1 (rh.nd n m p _ _ hn (z ▸ hm) hS hS2 rfl rfl)
        exact mt_updateD pins s σ H _ _ v us Q I rv r ⟨p, q, gs, ns, rfl, rfl, hpq, hH, hH2, line_le (by omega), k _ _ _ wr.2 wr.1 .non⟩
      · cases e
variable {o e a : Expr} {co ca : E} {cs : List E} {es : List Expr} {apos cpos pos p : Pos}
def bmT : Bm → String
  | .join => "str" | .update => "dict" | _ => "list"
theorem bmTy_ok {K : PySem.W.Frag} {H : Hp} {as : List Addr} {S : Hh} {m : Bm} {x : AV} {x' : V} (rh : RH N K H as S) (ra : RA K H as x x') (h : bmTy m x S = true) : tyV K (bmT m) x' H := by
  cases m <;> cases ra <;> simp only [bmTy] at h <;> first | cases h | skip
  all_goals first
    | rfl
    | (rename_i n p hn
       split at h
       · rename_i w hS
         obtain ⟨vs, h1, h2⟩ := rh.ob n p _ hn hS
         first | exact .inl ⟨rfl, vs, SqL.of h1⟩ | exact .inr (.inr (.inl ⟨rfl, .inl ⟨vs, h1⟩⟩))
       · cases h)
theorem de_bm {T id : String} {name : Str} {m : Bm} (hT : T = (bmT m)) (pa : PlainAttrs T) (slot : Slot T name id) (hty : typeOf (.builtin id) = pure (.type "method_descriptor")) (hm : MtR X id (rDM N X.K (bm1 m))) (ho : DE N G X o co) (ha : DA N G X (a :: es) cs)
    (hbase : attributeBase o name X.env (eval o X.env) = eval o X.env := by rfl)
    (hfew : ((backTo cpos (starEach (a :: es) X.env)).all (fun x => !x.1) && (backToKw cpos (keywordEach [] X.env)).all (fun x => x.1.isSome)
      && decide ((a :: es).length + ([] : List Keyword).length + (if ([] : List Keyword).isEmpty then 0 else 1) < 30)) = true := by rfl)
    (hline : (apos.endLine == cpos.line) = true := by rfl) (hs : starEach (a :: es) X.env = (false, eval a X.env) :: starEach es X.env := by rfl) (hplain : (backTo cpos (starEach es X.env)).any (·.1) = false := by rfl) :
    DE N G X (.Call (.Attribute o name apos) (a :: es) [] cpos) (.bm m co cs) := PE.imp (pe_bm pa slot hty hm ho ha hbase hfew hline hs hplain) fun σ H Q q => by
  obtain ⟨as, ls, S, v, S', rh, rs, e, k⟩ := q
  simp only [ev] at e
  obtain ⟨x, S1, e1, e2⟩ := bind_of e
  split at e2
  · rename_i hb
    obtain ⟨vs, S2, e3, e4⟩ := bind_of e2
    refine ⟨as, ls, S, x, S1, rh, rs, e1, fun H1 as1 x' ex rr ra => ⟨by rw [hT]; exact bmTy_ok rr ra hb, as1, ls, S1, vs, S2, rr, rs.mono ex, e3, fun H2 as2 vs' ex2 rr2 rl => ⟨as2, S2, x, vs, v, S', rr2, ra.mono ex2, rl, e4, k.from (ex.trans ex2)⟩⟩⟩
  · cases e2
theorem de_bm0 {T id : String} {name : Str} {m : Bm} (hT : T = (bmT m)) (pa : PlainAttrs T) (slot : Slot T name id) (hty : typeOf (.builtin id) = pure (.type "method_descriptor")) (hm : MtR X id (rDM N X.K (bm1 m))) (ho : DE N G X o co)
    (hbase : attributeBase o name X.env (eval o X.env) = eval o X.env := by rfl) (hline : (apos.endLine == cpos.line) = true := by rfl) : DE N G X (.Call (.Attribute o name apos) [] [] cpos) (.bm m co []) := PE.imp (pe_bm0 pa slot hty hm ho hbase hline) fun σ H Q q => by
  obtain ⟨as, ls, S, v, S', rh, rs, e, k⟩ := q
  simp only [ev] at e
  obtain ⟨x, S1, e1, e2⟩ := bind_of e
  split at e2
  · rename_i hb
    obtain ⟨vs, S2, e3, e4⟩ := bind_of e2
    cases e3
    exact ⟨as, ls, S, x, _, rh, rs, e1, fun H1 as1 x' ex rr ra => ⟨by rw [hT]; exact bmTy_ok rr ra hb, as1, _, x, [], v, S', rr, ra, .nil, e4, k.from ex⟩⟩
  · cases e2
/-! isinstance(x, tuple) -/
theorem de_isTup {q : Pos} (hg : Gl X "isinstance") (hm : X.mg "isinstance" = none) (hg2 : Gl X "tuple") (hm2 : X.mg "tuple" = none) (ha : DE N G X a ca)
    (hs1 : starEach [.Name "tuple" q] X.env = (false, eval (.Name "tuple" q) X.env) :: starEach [] X.env := by rfl) (he : starEach [a, .Name "tuple" q] X.env = (false, eval a X.env) :: starEach [.Name "tuple" q] X.env := by rfl)
    (hpl : (backTo pos (starEach [.Name "tuple" q] X.env)).any (·.1) = false := by rfl) : DE N G X (.Call (.Name "isinstance" p) [a, .Name "tuple" q] [] pos) (.isTup ca) := by
  refine PE.imp (pe_callB call_isi hg hm (by decide +kernel) (pa_cons ha (pa_cons (pe_bltn (v := .ty "tuple") hg2 hm2 (by decide +kernel) rfl) pa_nil hs1) he) (by decide) (by decide) he hpl) fun σ H Q q => ?_
  obtain ⟨as, ls, S, v, S', rh, rs, e, k⟩ := q
  simp only [ev] at e
  obtain ⟨x, S1, e1, e2⟩ := bind_of e
  refine ⟨as, ls, S, x, S1, rh, rs, e1, fun H1 as1 x' ex rr ra => ?_⟩
  have fin : ∀ {t : Value} {b : Bool}, TyX X.K H1 x' t → PySem.W.kitOne X.K t (.type "tuple") = some b → Res.ok (AV.bl b) S1 = .ok v S' → rIsi X.K [x', .ty "tuple"] H1 Q := fun {t b} h1 h2 h3 => by
    cases h3
    exact ⟨x', .ty "tuple", t, .type "tuple", b, rfl, .ty _, h1, h2, k _ _ _ ex rr (.bl b)⟩
  cases ra with
  | non => exact fin (.base .non) (kit_ty (by decide +kernel)) e2
  | bl b => exact fin (.base (.bl b)) (kit_ty (by decide +kernel)) e2
  | int i => exact fin (.base (.int i)) (kit_ty (by decide +kernel)) e2
  | str t => exact fin (.base (.str _)) (kit_ty (by decide +kernel)) e2
  | ref h => cases e2
  | tup sq l1 k1 =>
    rcases sq with (h | ⟨o, h⟩) | ⟨o, its, n, h, hc, _⟩
    · exact fin (.base (.tup h)) (kit_ty (by decide +kernel)) e2
    · exact fin (.fTuple h) (kit_ty (by decide +kernel)) e2
    · exact fin (.kTuple h hc) (kit_ty (by decide +kernel)) e2
/-! a dict that is locked while it is walked -/
theorem lock_back {K : PySem.W.Frag} {H H2 : Hp} {as as2 : List Addr} {S1 : Hh} {p : Addr} {n : Nat} {od : Obj} {vs : List (Key × V)} {kvs : List (List Nat × AV)} (hH : H p = some (.dK vs)) (ex2 : Ext K (upd H p (.frz od (.dK vs))) as H2 as2) (rr2 : RH N K H2 as2 S1) (hp : as[n]? = some p) (hS1 : S1[n]? = some (.fdc kvs)) :
    H2 p = some (.frz od (.dK vs)) ∧ Ext K H as (upd H2 p (.dK vs)) as2 ∧ RH N K (upd H2 p (.dK vs)) as2 (S1.set n (.dic kvs)) ∧ ∀ x x', RA K H2 as2 x x' → RA K (upd H2 p (.dK vs)) as2 x x' := by
  have ext : Ext K H as (upd H p (.frz od (.dK vs))) as := Ext.same (not_tup hH (fun _ z => nomatch z) fun _ _ z => nomatch z)
  have hH2 : H2 p = some (.frz od (.dK vs)) := ex2.frz p od _ upd_same
  have hp2 := ex2.pre _ _ hp
  have sqk : ∀ a xs, SqT K H2 a xs → SqT K (upd H2 p (.dK vs)) a xs := fun a xs h => sqT_upd (fun ys z => by
    rcases z with z | ⟨o, z⟩ <;> rw [hH2] at z <;> cases z) h
  have ex3 : ∀ x x', RA K H2 as2 x x' → RA K (upd H2 p (.dK vs)) as2 x x' := fun x x' r => by
    induction r with
    | non => exact .non
    | bl b => exact .bl b
    | int i => exact .int i
    | str s => exact .str s
    | ref h => exact .ref h
    | tup s l _ ih => exact .tup (sqk _ _ s) l ih
  have hn2 := (List.getElem?_eq_some_iff.mp hS1).1
  have mono : ∀ {a : Addr} {o : AO}, a ≠ p → RO N K H2 as2 a o → RO N K (upd H2 p (.dK vs)) as2 a o := fun {a o} ha h => by
    cases o with
    | lst xs => obtain ⟨us, g1, g2⟩ := h; exact ⟨us, by rw [upd_ne ha]; exact g1, prd_imp g2 fun _ _ => ex3 _ _⟩
    | rol xs =>
      rcases h with ⟨o, us, g1, g2⟩ | ⟨us, o, its, m, g1, g2⟩
      · exact .inl ⟨o, us, by rw [upd_ne ha]; exact g1, prd_imp g2 fun _ _ => ex3 _ _⟩
      · exact .inr ⟨us, o, its, m, g1, prd_imp g2 fun _ _ => ex3 _ _⟩
    | dic ks => obtain ⟨us, g1, g2⟩ := h; exact ⟨us, by rw [upd_ne ha]; exact g1, prd_imp g2 fun _ _ z => ⟨z.1, ex3 _ _ z.2⟩⟩
    | fdc ks => obtain ⟨o, us, g1, g2⟩ := h; exact ⟨o, us, by rw [upd_ne ha]; exact g1, prd_imp g2 fun _ _ z => ⟨z.1, ex3 _ _ z.2⟩⟩
    | ins C fs => obtain ⟨dx, us, g1, g2⟩ := h; exact ⟨dx, us, by rw [upd_ne ha]; exact g1, prd_imp g2 fun _ _ z => ⟨z.1, ex3 _ _ z.2⟩⟩
  have rolK : ∀ {a : Addr} {xs : List AV}, RO N K H2 as2 a (.rol xs) → RO N K (upd H2 p (.dK vs)) as2 a (.rol xs) := fun {a xs} h => by
    rcases h with ⟨o, us, g1, g2⟩ | ⟨us, o, its, m, g1, g2⟩
    · exact .inl ⟨o, us, by rw [upd_ne (fun z => by rw [z, hH2] at g1; cases g1)]; exact g1, prd_imp g2 fun _ _ => ex3 _ _⟩
    · exact .inr ⟨us, o, its, m, g1, prd_imp g2 fun _ _ => ex3 _ _⟩
  obtain ⟨od2, vs2, hH3, pr2⟩ := rr2.ob n p _ hp2 hS1
  rw [hH2] at hH3
  cases hH3
  refine ⟨hH2, ⟨fun m b h => ex2.pre _ _ h, fun a xs h => sqk _ _ (ex2.tup _ _ (ext.tup _ _ h)), fun a o u h => ?_⟩, ⟨by rw [List.length_set]; exact rr2.len, fun m b o2 g1 g2 => ?_, fun m m' b o1 o2 g1 g2 g3 g4 g5 g6 => ?_⟩, ex3⟩
  · have hap : a ≠ p := fun z => by rw [z, hH] at h; cases h
    rw [upd_ne hap]
    exact ex2.frz _ _ _ (by rw [upd_ne hap]; exact h)
  · by_cases hm : n = m
    · subst hm
      rw [List.getElem?_set_self hn2] at g2
      rw [hp2] at g1
      cases g1; cases g2
      exact ⟨vs, upd_same, prd_imp pr2 fun _ _ z => ⟨z.1, ex3 _ _ z.2⟩⟩
    · rw [List.getElem?_set_ne hm] at g2
      have q := rr2.ob m b o2 g1 g2
      cases o2 with
      | rol xs => exact rolK q
      | _ => exact mono (fun z => hm (rr2.nd n m p _ _ hp2 (z ▸ g1) hS1 g2 rfl rfl)) q
  · have key : ∀ (j : Nat) (o : AO), (S1.set n (.dic kvs))[j]? = some o → o.isRol = false → ∃ o', S1[j]? = some o' ∧ o'.isRol = false := fun j o h1 h2 => by
      by_cases hj : n = j
      · subst hj; exact ⟨_, hS1, rfl⟩
      · rw [List.getElem?_set_ne hj] at h1; exact ⟨o, h1, h2⟩
    obtain ⟨p1, k1, k2⟩ := key m o1 g3 g5
    obtain ⟨p2, k3, k4⟩ := key m' o2 g4 g6
    exact rr2.nd m m' b p1 p2 g1 g2 k1 k3 k2 k4
theorem de_lock {i : Nat} (h : DE N G X e ca) : DE N G X e (.lock i ca) := PE.imp (pe_lock h) fun σ H Q q => by
  obtain ⟨as, ls, S, v, S', rh, rs, e, k⟩ := q
  simp only [ev] at e
  split at e
  · rename_i n hn
    split at e
    · rename_i kvs hS
      obtain ⟨w, S1, e1, e2⟩ := bind_of e
      split at e2
      · rename_i hS1
        cases e2
        obtain ⟨v', h1, h2⟩ := rs.at_ i _ hn
        cases h2 with
        | @ref _ p hp =>
          obtain ⟨vs, hH, pr⟩ := rh.ob n p _ hp hS
          refine ⟨p, .dK vs, hH, True.intro, fun od => ?_⟩
          have ext : Ext X.K H as (upd H p (.frz od (.dK vs))) as := Ext.same (not_tup hH (fun _ z => nomatch z) fun _ _ z => nomatch z)
          have wr := rh.write (o' := .fdc kvs) (u := .frz od (.dK vs)) hp hS rfl rfl (not_tup hH (fun _ z => nomatch z) fun _ _ z => nomatch z) (fun ob vs z => by rw [hH] at z; cases z) ⟨od, vs, upd_same, prd_imp pr fun _ _ z => ⟨z.1, z.2.mono ext⟩⟩
          refine ⟨as, ls, _, _, S1, wr.1, rs.mono ext, e1, fun H2 as2 w' ex2 rr2 ra2 => ?_⟩
          obtain ⟨b1, b2, b3, b4⟩ := lock_back hH ex2 rr2 hp hS1
          exact ⟨b1, k _ as2 _ b2 b3 (b4 _ _ ra2)⟩
      · cases e2
    · cases e
  · cases e
theorem ds_lock {i : Nat} {st : Stmt} {c : C} (h : DS N G X st c) : DS N G X st (.lockS i c) := PS.imp (ps_lock h) fun D σ H q => by
  obtain ⟨as, ls, S, r, S', rh, rs, e, k⟩ := q
  simp only [evC] at e
  split at e
  · rename_i n hn
    split at e
    · rename_i kvs hS
      obtain ⟨w, S1, e1, e2⟩ := bind_of e
      split at e2
      · rename_i hS1
        cases e2
        obtain ⟨v', h1, h2⟩ := rs.at_ i _ hn
        cases h2 with
        | @ref _ p hp =>
          obtain ⟨vs, hH, pr⟩ := rh.ob n p _ hp hS
          refine ⟨p, .dK vs, hH, True.intro, fun od => ?_⟩
          have ext : Ext X.K H as (upd H p (.frz od (.dK vs))) as := Ext.same (not_tup hH (fun _ z => nomatch z) fun _ _ z => nomatch z)
          have wr := rh.write (o' := .fdc kvs) (u := .frz od (.dK vs)) hp hS rfl rfl (not_tup hH (fun _ z => nomatch z) fun _ _ z => nomatch z) (fun ob vs z => by rw [hH] at z; cases z) ⟨od, vs, upd_same, prd_imp pr fun _ _ z => ⟨z.1, z.2.mono ext⟩⟩
          have rsb : ∀ {H2 : Hp} {as2 : List Addr} {σ2 : L2.St} {l2 : Ls}, (∀ x x', RA X.K H2 as2 x x' → RA X.K (upd H2 p (.dK vs)) as2 x x') → RS X.K H2 as2 l2 σ2 → RS X.K (upd H2 p (.dK vs)) as2 l2 σ2 := fun b4 r => ⟨r.len, fun i x q => let ⟨v, a, b⟩ := r.at_ i x q; ⟨v, a, b4 _ _ b⟩⟩
          refine ⟨as, ls, _, _, S1, wr.1, rs.mono ext, e1, ?_⟩
          obtain ⟨fl, l2⟩ := r
          cases fl with
          | rt v => exact fun H2 as2 w' ex2 rr2 ra2 => let ⟨b1, b2, b3, b4⟩ := lock_back hH ex2 rr2 hp hS1; ⟨b1, k _ as2 _ b2 b3 (b4 _ _ ra2)⟩
          | _ => exact fun H2 as2 σ2 ex2 rr2 rs2 => let ⟨b1, b2, b3, b4⟩ := lock_back hH ex2 rr2 hp hS1; ⟨b1, k _ as2 _ b2 b3 (rsb b4 rs2)⟩
      · cases e2
    · cases e
  · cases e
end
end NM
set_option Elab.async false
set_option linter.all false
set_option maxRecDepth 100000
set_option maxHeartbeats 4000000
/-! NmJ: list(reversed(a list)); a slice stored from a place on; displays of dicts; repr. -/
namespace NMJ
open PySem PySem.Spec L2 RT
section
variable {prog : Program} {w : World} {A : Around} {E : Value → Shared → Prop} {s : Shared}
theorem init_rev {R : Result → Shared → Prop} {it l S : Addr} {items : Array Value} (hh : A.handled = none) (hit : s.heap.IsRevIter it l ((items.size : Int) - 1)) (hl : s.heap.IsList l items) (hne : l ≠ it) (hSi : S ≠ it) (hSl : S ≠ l)
    (hS : s.heap.get? S = some { cls := .type "list", data := .seq #[] }) (hn : items.size ≤ sizeLine)
    (hR : ∀ h' tk acc c, (∀ b o, b ≠ S → b ≠ it → s.heap.get? b = some o → h'.get? b = some o) → h'.get? S = some { cls := .type "list", dict := none, data := .seq acc c, slots := #[] } → ItemsOf (fun i v => items[items.size - 1 - i]? = some v) acc items.size → R (.ok (.ret .none)) { s with heap := h', toks := tk }) :
    wpAny (model prog w) A.in1 (Builtin.«list.__init__» ⟨[.ref S, .ref it], []⟩)
      (fun fin s' => match fin with | .done f => R (.ok f) s' | .again c' => c'.quiet = true ∧ codeAny (model prog w) A c' R s') (fun e s' => R (.error e) s') s := by
  have hSf : S ∉ [it, l] := by simp only [List.mem_cons, List.not_mem_nil, or_false, not_or]; exact ⟨hSi, hSl⟩
  show wpAny _ _ (do let old ← Builtin.List.listItems (.ref S); Builtin.List.listUpdate (.ref S) (fun _ => #[]); letGo old.toList.reverse; Builtin.List.listExtendWith (.ref S) (.ref it) .none) _ _ s
  refine wpAny_bind ?_
  unfold Builtin.List.listItems
  refine wpAny_bind (wpAny_seqItems hS rfl (wpAny_pure ?_))
  show wpAny _ _ (updateSeq S (fun _ => #[]) >>= fun _ => letGo (#[] : Array Value).toList.reverse >>= fun _ => Builtin.List.listExtendWith (.ref S) (.ref it) .none) _ _ s
  refine wpAny_bind (wpAny_updateSeq hS rfl ?_)
  have hS2 := Heap.get?_update_self (Obj.mapSeq (fun _ => (#[] : Array Value))) hS rfl
  have oth : ∀ b o, b ≠ S → s.heap.get? b = some o → (s.heap.update S (Obj.mapSeq (fun _ => (#[] : Array Value)))).get? b = some o := fun b o hb e => (Heap.get?_update_other _ _ (Ne.symm hb)).trans e
  refine wpAny_bind (wpAny_letGo ?_)
  generalize hu : s.heap.update S (Obj.mapSeq (fun _ => (#[] : Array Value))) = u at hS2 oth
  have hit1 : u.IsRevIter it l ((items.size : Int) - 1) := hit.at fun o e => oth it o (Ne.symm hSi) e
  have hl1 : u.IsList l items := hl.at fun o e => oth l o (Ne.symm hSl) e
  have hT : ({ s with heap := u } : Shared).TypeIs (.ref it) "list_reverseiterator" := Heap.IsRevIter.typeIs (s := { s with heap := u }) hit1
  have W := (Walks.listRev (prog := prog) (w := w) (A := A.in1) hh it l hne items).toS
  have h1 : Builtin.List.listSameRef (.ref S) (.ref it) = false := by simp [Builtin.List.listSameRef, hSi]
  unfold Builtin.List.listExtendWith
  refine wpAny_bind (wpAny_typeOf hT ?_)
  rw [if_neg (by rw [h1]; decide)]
  refine wpAny_bind (wpAny_pyIter_revIter (s := { s with heap := u }) hit1 ?_)
  refine wpAny_bind (wpAny_holding ?_)
  unfold Builtin.List.listLengthHint
  refine wpAny_bind (wpAny_specialOf hT nolen_lri ?_)
  show wpAny _ A.in1 (specialOf (Value.ref it) (Str.ofString "__length_hint__") >>= _) _ _ _
  refine wpAny_bind (wpAny_specialOf hT hint_lri ?_)
  generalize hid : ("list_reverseiterator.__length_hint__" : String) = id0
  wp_delta
  rw [show splitId id0 = some ("list_reverseiterator", "__length_hint__") from by subst hid; decide +kernel]
  subst hid
  refine wpAny_bind (wpAny_isInstance (b := true) hT (by rw [isSubtype_type]; kernel_rfl) (wpAny_pure ?_))
  rw [if_neg (by decide)]
  have e0 : ((items.size : Nat) : Int) - 1 - ((0 : Nat) : Int) = (items.size : Int) - 1 := by omega
  refine wpAny_pure ⟨plainId_quiet PySem.F.plain_extend_loop _, codeAny_extend_loopS W hn S hSf _ items.size 0 _ _ _ rfl (Nat.zero_le _) ⟨Nat.zero_le _, by rw [e0]; exact hit1, hl1⟩ hS2 (ItemsOf.nil _) fun s' acc' c' hm hS' hacc => ?_⟩
  rw [Moved.eq_with hm]
  refine hR s'.heap s'.toks acc' c' (fun b o hb hbi e => hm.heap b o (fun hmem => ?_) (oth b o hb e)) hS' hacc
  rcases List.mem_cons.mp hmem with e' | hmem
  · exact hb e'
  · exact hbi (List.mem_singleton.mp hmem)
theorem call_list_rev {it l : Addr} {items : Array Value} {Q : Value → Shared → Prop} (hh : A.handled = none) (hit : s.heap.IsRevIter it l ((items.size : Int) - 1)) (hl : s.heap.IsList l items) (hne : l ≠ it) (hn : items.size ≤ sizeLine)
    (hQ : ∀ h' tk acc c, (∀ b o, b ≠ it → s.heap.get? b = some o → h'.get? b = some o) → h'.get? s.heap.objs.size = some { cls := .type "list", dict := none, data := .seq acc c, slots := #[] } → ItemsOf (fun i v => items[items.size - 1 - i]? = some v) acc items.size → Q (.ref s.heap.objs.size) { s with heap := h', toks := tk }) :
    wpAny (model prog w) A (call (.type "list") [.ref it]) Q E s := by
  refine callType_codes (Q₁ := fun obj s1 => obj = .ref s.heap.objs.size ∧ s1 = { s with heap := s.heap.push { cls := .type "list", data := .seq #[] } }) PySem.F.called_list (PySem.F.typeCall_list_1 _) PySem.F.entry_list_init (code_list_new _ ⟨rfl, rfl⟩) fun obj s1 h1 => ?_
  obtain ⟨rfl, rfl⟩ := h1
  have hS : (s.heap.push { cls := .type "list", data := .seq #[] }).get? s.heap.objs.size = some { cls := .type "list", data := .seq #[] } := Heap.get?_push_size _ rfl
  obtain ⟨oi, hoi, _⟩ := id hit
  obtain ⟨ol, hol, _⟩ := id hl
  refine ⟨⟨_, hS, rfl⟩, PySem.F.args_list_init_2 _ _, init_rev (A := A.in1) (s := { s with heap := s.heap.push { cls := .type "list", data := .seq #[] } }) hh (hit.at fun o e => Heap.get?_push_of_some _ e) (hl.push _) hne (Nat.ne_of_gt (Heap.lt_size hoi)) (Nat.ne_of_gt (Heap.lt_size hol)) hS hn fun h' tk acc c hk hS' hacc => ?_⟩
  exact ⟨rfl, hQ h' tk acc c (fun b o hb e => hk b o (Nat.ne_of_lt (Heap.lt_size e)) hb (Heap.get?_push_of_some _ e)) hS' hacc⟩
end
def tLstRev (K : PySem.W.Frag) (te : TE) : TE := fun σ H Q => te σ H fun v H1 => ∃ (a : Addr) (xs : List V), v = .ref a ∧ SqL K H1 a xs ∧ ∀ q, H1 q = none → Q (.ref q) (upd H1 q (.lst xs.reverse))
theorem pe_lstRev {X : Cx} {e : Expr} {te : TE} {p p2 pos pos2 : Pos} (hc : X.calm = true) (hg : Gl X "list") (hm : X.mg "list" = none) (hg2 : Gl X "reversed") (hm2 : X.mg "reversed" = none) (he : PE X e te) (hs : starEach [e] X.env = (false, eval e X.env) :: starEach [] X.env := by rfl)
    (hs2 : starEach [.Call (.Name "reversed" p2) [e] [] pos2] X.env = (false, eval (.Call (.Name "reversed" p2) [e] [] pos2) X.env) :: starEach [] X.env := by rfl) : PE X (.Call (.Name "list" p) [.Call (.Name "reversed" p2) [e] [] pos2] [] pos) (tLstRev X.K te) := by
  refine ⟨fun pins s σ H Q I h => ?_⟩
  refine PyProof.Rows.Call_ (ld_blt I hg hm PyProof.Rows.boot_list (PyProof.Rows.callWith_type1 (PyProof.Rows.args_cons (PyProof.Rows.Call_ (ld_blt I hg2 hm2 PyProof.Rows.boot_reversed (PyProof.Rows.callWith_type1 (PyProof.Rows.args_cons (thn (he.run pins s σ H _ I h) fun u s1 ⟨v, H1, I1, r1, q1⟩ => PyProof.Rows.args_nil ?_) hs) hs rfl))) hs2) hs2 rfl))
  obtain ⟨a, xs, ev, hq, q⟩ := q1
  subst ev
  obtain rfl : u = Value.ref a := r1
  obtain ⟨its, rv, p', hz⟩ := I1.list hq
  refine call_reversed_list p'.isList (PyProof.Rows.args_nil ?_)
  have k0 : ∀ b o, s1.heap.get? b = some o → (s1.heap.push (revObj a ((its.toArray.size : Int) - 1))).get? b = some o := fun b o e => Heap.get?_push_of_some _ e
  have I2 : Inv X pins σ H1 { s1 with heap := s1.heap.push (revObj a ((its.toArray.size : Int) - 1)) } := I1.kept (t' := s1.toks) k0
  obtain ⟨f0, f1, f2, f3, f4, f5⟩ := I1.fpOk (H' := H1) (b := s1.heap.objs.size) (Nat.le_refl _) (I1.hok.fresh (Nat.le_refl _))
  have hl := p'.isList
  obtain ⟨ol, hol, _⟩ := id hl
  have hne : a ≠ s1.heap.objs.size := Nat.ne_of_lt (Heap.lt_size hol)
  have hn : its.toArray.size ≤ sizeLine := by rw [List.size_toArray, ← rv.length]; exact hz
  refine call_list_rev (s := { s1 with heap := s1.heap.push (revObj a ((its.toArray.size : Int) - 1)) }) (I1.ok.hd hc) ⟨_, Heap.get?_push_size _ rfl, rfl, rfl⟩ (hl.push _) hne hn fun h' tk acc c hk hS hi => ?_
  have hfr : H1 (s1.heap.push (revObj a ((its.toArray.size : Int) - 1))).objs.size = none := I2.hok.fresh (Nat.le_refl _)
  refine ⟨.ref (s1.heap.push (revObj a ((its.toArray.size : Int) - 1))).objs.size, _, I2.turnedNew (t' := tk) (ch := [s1.heap.objs.size]) (fun b o hb e => hk b o (fun z => hb (by simp [z])) e) (fun b hb => ?_) (Nat.le_refl _) (show ObjOk X.prog X.w _ _ _ (.lst xs.reverse) from ⟨by rw [List.length_reverse]; exact hz, acc.toList, c, vals_rev rv hi, by rw [Array.toArray_toList]; exact hS⟩), rfl, q _ hfr⟩
  have : b = s1.heap.objs.size := by simpa using hb
  subst this
  exact ⟨f0, f1, f2, f3, f4, f5⟩
end NMJ
namespace NM
open PySem PySem.Spec L2
section
variable {N : Nam} {G : Gam} {X : Cx} {a b e : Expr} {ca cb ce : E} {pos p p2 pos2 pos' : Pos} {es : List Expr} {cs : List E}
theorem de_lrev (hc : X.calm = true) (hg : Gl X "list") (hm : X.mg "list" = none) (hg2 : Gl X "reversed") (hm2 : X.mg "reversed" = none) (he : DE N G X e ce) (hs : starEach [e] X.env = (false, eval e X.env) :: starEach [] X.env := by rfl)
    (hs2 : starEach [.Call (.Name "reversed" p2) [e] [] pos2] X.env = (false, eval (.Call (.Name "reversed" p2) [e] [] pos2) X.env) :: starEach [] X.env := by rfl) : DE N G X (.Call (.Name "list" p) [.Call (.Name "reversed" p2) [e] [] pos2] [] pos) (.lrev ce) :=
  PE.imp (NMJ.pe_lstRev hc hg hm hg2 hm2 he hs hs2) fun σ H Q q => by
    obtain ⟨as, ls, S, v, S', rh, rs, e, k⟩ := q
    simp only [ev] at e
    obtain ⟨x, S1, e1, e2⟩ := bind_of e
    refine ⟨as, ls, S, x, S1, rh, rs, e1, fun H1 as1 x' ex rr ra => ?_⟩
    cases ra with
    | @ref n q hn =>
      simp only at e2
      split at e2
      · rename_i xs hS
        cases e2
        obtain ⟨vs, h1, h2⟩ := rr.ob n q _ hn hS
        exact ⟨q, vs, rfl, SqL.of h1, fun t ht => (k.from ex).obj rr ht rfl ⟨_, upd_same, RL.mono (Ext.new ht _) (prd_rev h2)⟩⟩
      · cases e2
    | _ => cases e2
/-! displays of dicts -/
theorem de_dic0 : DE N G X (.Dict [] [] pos) (.dic [] []) := PE.imp pe_dnewK fun σ H Q q => by
  obtain ⟨as, ls, S, v, S', rh, rs, e, k⟩ := q
  simp only [ev, evs, bind_ok] at e
  rw [show (S ++ [AO.dic []])[S.length]? = some (.dic []) by simp] at e
  simp only [List.zip_nil_left, List.foldl_nil] at e
  cases e
  intro q hq
  refine Fin.obj (S := S) (o := .dic []) (fun H' as' v' ex rr ra => k H' as' v' ex ?_ ra) rh hq rfl ⟨[], upd_same, .nil⟩
  rw [show (S ++ [AO.dic []]).set S.length (.dic []) = S ++ [AO.dic []] by simp]
  exact rr
structure DP (N : Nam) (G : Gam) (X : Cx) (pos : Pos) (keys : List (Option Expr)) (vals : List Expr) (ks : List (List Nat)) (cs : List E) : Prop where
  ex : ∃ trs, PPs X pos keys vals trs ∧ ∀ σ H Q, (∃ as ls S vs S', RH N X.K H as S ∧ RS X.K H as ls σ ∧ evs G cs ls S = .ok vs S' ∧ ∀ H' as' vs', Ext X.K H as H' as' → RH N X.K H' as' S' → RL X.K H' as' vs vs' → Q ((ks.map fun k => V.str (sS k)).zip vs') H') → tPairs trs σ H Q
theorem dp_nil : DP N G X pos [] [] [] [] := ⟨[], pps_nil, fun σ H Q q => by
  obtain ⟨as, ls, S, vs, S', rh, rs, e, k⟩ := q
  cases e
  exact k H as [] Ext.refl rh .nil⟩
theorem dp_cons {x : Str} {l : List Nat} {j : Nat} {kp : Pos} {keys : List (Option Expr)} {vals : List Expr} {ks : List (List Nat)} (hx : x = sS l) (he : DE N G X e ce) (h : DP N G X pos keys vals ks cs) : DP N G X pos (some (.Constant (.str x) j kp) :: keys) (e :: vals) (l :: ks) (ce :: cs) := by
  obtain ⟨trs, h1, h2⟩ := h.ex
  refine ⟨_, pps_cons pe_str he h1, fun σ H Q q => ?_⟩
  obtain ⟨as, ls, S, vs, S', rh, rs, e, k⟩ := q
  simp only [evs] at e
  obtain ⟨y, S1, e1, e2⟩ := bind_of e
  obtain ⟨ys, S2, e3, e4⟩ := bind_of e2
  cases e4
  refine ⟨as, ls, S, y, S1, rh, rs, e1, fun H1 as1 y' ex rr ra => h2 _ _ _ ⟨as1, ls, S1, ys, _, rr, rs.mono ex, e3, fun H2 as2 vs' ex2 rr2 rl => ?_⟩⟩
  have := k H2 as2 _ (ex.trans ex2) rr2 (.cons (ra.mono ex2) rl)
  subst hx
  exact this
theorem zip_kv (ks : List (List Nat)) : ∀ (vs : List V), (ks.map fun k => V.str (sS k)).zip vs = ((ks.zip vs).map fun p => ((Sum.inr (sS p.1) : Key), p.2)).map fun kv => (kV kv.1, kv.2) := by
  induction ks with
  | nil => intro vs; simp
  | cons k ks ih =>
    intro vs
    cases vs with
    | nil => simp
    | cons v vs => simp only [List.map_cons, List.zip_cons_cons]; rw [ih vs]; rfl
theorem merge_prd {K : PySem.W.Frag} {H : Hp} {as : List Addr} : ∀ (ks : List (List Nat)) {vs : List AV} {ws : List V}, RL K H as vs ws → Paired (fun (p : List Nat × AV) (q : Key × V) => q.1 = .inr (sS p.1) ∧ RA K H as p.2 q.2) (ks.zip vs) ((ks.zip ws).map fun p => ((Sum.inr (sS p.1) : Key), p.2))
  | [], _, _, _ => by simp; exact .nil
  | k :: ks, _, _, .nil => by simp; exact .nil
  | k :: ks, _, _, .cons r t => by
    simp only [List.zip_cons_cons, List.map_cons]
    exact .cons ⟨rfl, r⟩ (merge_prd ks t)
theorem de_dic {keys : List (Option Expr)} {vals : List Expr} {ks : List (List Nat)} (h : DP N G X pos keys vals ks cs) (hall : keys.all (·.isSome) = true) (hl : keys.length = vals.length) (h0 : keys ≠ []) (h15 : keys.length ≤ 15) (hks : ks.length ≤ 15) : DE N G X (.Dict keys vals pos) (.dic ks cs) := by
  obtain ⟨trs, h1, h2⟩ := h.ex
  refine PE.imp (pe_disp h1 hall hl h0 h15) fun σ H Q q => ?_
  obtain ⟨as, ls, S, v, S', rh, rs, e, k⟩ := q
  simp only [ev] at e
  obtain ⟨vs, S1, e1, e2⟩ := bind_of e
  intro p hp
  have ex0 : Ext X.K H as (upd H p (.dK [])) (as ++ [p]) := Ext.new hp _
  have rh0 := rh.alloc (o := .dic []) (u := .dK []) hp rfl ⟨[], upd_same, .nil⟩
  have hn : (as ++ [p])[S.length]? = some p := by rw [← rh.len]; simp
  refine h2 _ _ _ ⟨as ++ [p], ls, _, vs, S1, rh0, rs.mono ex0, e1, fun H1 as1 ws ex1 rr rl => ?_⟩
  split at e2
  · rename_i hS
    cases e2
    have hp1 := ex1.pre _ _ hn
    obtain ⟨gs, hH, pr⟩ := rr.ob _ p _ hp1 hS
    cases pr
    refine ⟨hH, (ks.zip ws).map fun q => ((Sum.inr (sS q.1) : Key), q.2), zip_kv ks ws, by rw [List.length_map, List.length_zip]; omega, ?_⟩
    have pr2 := kv_merge (.nil : Paired (fun (p : List Nat × AV) (q : Key × V) => q.1 = .inr (sS p.1) ∧ RA X.K H1 as1 p.2 q.2) [] []) (merge_prd ks rl)
    have ext : Ext X.K H1 as1 (upd H1 p (.dK (mergeK [] ((ks.zip ws).map fun q => ((Sum.inr (sS q.1) : Key), q.2))))) as1 := Ext.same (not_tup hH (fun _ z => nomatch z) fun _ _ z => nomatch z)
    have wr := rr.write (o' := .dic ((ks.zip vs).foldl (fun a kv => putD kv.1 kv.2 a) [])) (u := .dK (mergeK [] ((ks.zip ws).map fun q => ((Sum.inr (sS q.1) : Key), q.2)))) hp1 hS rfl rfl (not_tup hH (fun _ z => nomatch z) fun _ _ z => nomatch z) (fun ob vs z => by rw [hH] at z; cases z) ⟨_, upd_same, prd_imp pr2 fun _ _ z => ⟨z.1, z.2.mono ext⟩⟩
    exact k _ _ _ ((ex0.trans ex1).trans wr.2) wr.1 (.ref hp1)
  · cases e2
/-! repr of a tuple -/
mutual
theorem toD_nd : ∀ v : AV, (toD v).hasDict = false
  | .non => by simp only [toD, PyData.hasDict]
  | .bl _ => by simp only [toD, PyData.hasDict]
  | .int _ => by simp only [toD, PyData.hasDict]
  | .str _ => by simp only [toD, PyData.hasDict]
  | .ref _ => by simp only [toD, PyData.hasDict]
  | .tup xs => by simp only [toD, PyData.hasDict]; exact toDs_nd xs
theorem toDs_nd : ∀ xs : List AV, PyData.hasDictAll (toDs xs) = false
  | [] => by simp only [toDs, PyData.hasDictAll]
  | x :: xs => by simp only [toDs, PyData.hasDictAll, toD_nd x, toDs_nd xs, Bool.or_self]
end
mutual
theorem toD_depth : ∀ (n : Nat) (v : AV), v.dp n = true → (toD v).depth ≤ n
  | _, .non, _ => by simp only [toD, PyData.depth]; omega
  | _, .bl _, _ => by simp only [toD, PyData.depth]; omega
  | _, .int _, _ => by simp only [toD, PyData.depth]; omega
  | _, .str _, _ => by simp only [toD, PyData.depth]; omega
  | n, .ref _, h => by cases n <;> simp [AV.dp] at h
  | 0, .tup _, h => by simp [AV.dp] at h
  | n + 1, .tup xs, h => by
    simp only [toD, PyData.depth]
    have := toDs_depth n xs (by simpa [AV.dp] using h)
    omega
theorem toDs_depth : ∀ (n : Nat) (xs : List AV), dpAll n xs = true → PyData.depthAll (toDs xs) ≤ n
  | n, [], _ => by simp only [toDs, PyData.depthAll]; omega
  | n, x :: xs, h => by
    simp only [dpAll, Bool.and_eq_true] at h
    have h1 := toD_depth n x h.1
    have h2 := toDs_depth n xs h.2
    simp only [toDs, PyData.depthAll]
    omega
end
theorem cr_repr (hg : X.A.guards = some []) (hu : X.A.units + 64 < cLine) : CallR X (.builtin "repr") (rDL N X.K (bi1 .repr)) := by
  intro pins s σ H xs' us Q I r ⟨as, S, xs, w, S', rh, rl, e, k⟩
  obtain ⟨x, ex, e2⟩ := on1_ok e
  clear e
  subst ex
  obtain ⟨x', rfl, ra⟩ := rl_one rl
  split at e2
  · rename_i hh
    cases e2
    simp only [Bool.and_eq_true, decide_eq_true_eq, Bool.not_eq_true'] at hh
    obtain ⟨⟨⟨h1, h2⟩, h3⟩, h4⟩ := hh
    obtain ⟨u, rfl, ru⟩ := vals1 r
    obtain ⟨bs, rd⟩ := Dp.reads I (toD x) x' u (toD_dp 60 x x' ra h1) ru
    cases ra with
    | @tup ys vs p sq l k1 =>
      cases ru
      have hdep := toD_depth 60 _ h1
      refine repr_of_reads' rd h3 (PyData.noDict_hsm (toD_nd _)) hg (by omega) (fun _ _ e => e) (fun h' u tk hk => ?_) (line_le h4)
      have I2 : Inv X pins σ H { s with heap := h', toks := tk } := I.kept hk
      exact ⟨.str (toD (.tup ys)).shown, H, I2, ⟨_, rfl⟩, k.now rh (.str _)⟩
    | ref h => simp [AV.dp] at h1
    | _ => simp [AV.atom] at h2
  · cases e2
/-! a slice stored from a place on -/
theorem bounds_rest {a n : Nat} (ha : a ≤ n) : sliceBounds (some (a : Int)) none none n = ((a : Int), (n : Int), 1) := by
  obtain ⟨b1, b2, b3⟩ := slice_bounds (some (a : Int)) none n
  have e1 : HT.sIx n 0 (some (a : Int)) = a := by
    simp only [HT.sIx]
    rw [if_neg (by omega)]
    omega
  have e2 : HT.sIx n n none = n := rfl
  rw [e1] at b1; rw [e2] at b2
  exact Prod.ext b1 (Prod.ext b2 b3)
end
end NM
namespace NMJ
open PySem PySem.Spec L2 RT
section
variable {prog : Program} {w : World} {A : Around} {E : Value → Shared → Prop} {st : Shared}
theorem put_rest {li lb ls : Addr} {xs ys : Array Value} {m m2 a : Nat} {tk : Tok} {Q : Unit → Shared → Prop}
    (gi : st.heap.get? li = some { cls := .type "list", data := .seq xs m }) (gb : st.heap.get? lb = some { cls := .type "list", data := .seq ys m2 }) (hne : li ≠ lb)
    (gs : st.heap.IsSliceOf ls (.int a tk) .none .none) (ha : a ≤ xs.size) (hz : xs.size + ys.size ≤ sizeLine)
    (h : Q () { st with heap := st.heap.update li (Obj.mapSeq fun zs => zs.extract 0 a ++ ys ++ zs.extract xs.size zs.size) }) :
    wpAny (model prog w) A (setItem (.ref li) (.ref ls) (.ref lb)) Q E st := by
  have hL : st.heap.IsList li xs := PySem.IsL.isList gi
  have hB : st.heap.IsList lb ys := PySem.IsL.isList gb
  obtain ⟨o, go, co, fo⟩ := id gs
  have tS : st.TypeIs (.ref ls) "slice" := ⟨o, go, co⟩
  have noStep : ¬ ((rawPart none == rawInt 0) = true) := Bool.false_ne_true
  have other : Builtin.List.listSameRef (.ref li) (.ref lb) = false := by unfold Builtin.List.listSameRef; exact beq_eq_false_iff_ne.mpr hne
  have fits : ((fun zs : Array Value => zs.extract 0 a ++ ys ++ zs.extract xs.size zs.size) xs).size ≤ sizeLine + 1 := by
    simp only [Array.size_append, Array.size_extract]; omega
  unfold setItem
  try with_reducible refine wpAny_holding ?_
  first | refine wpAny_bind (wpAny_pure ?_) | skip
  refine wpAny_bind (wpAny_sequenceKey hL.typeIs (by decide) ?_)
  refine wpAny_bind (wpAny_callSpecial?_slot (name := Str.ofString "__setitem__") hL.typeIs slot_list_setitem (wpAny_call_entry slot_list_setitem hL.typeIs entry_list_setitem ?_ (args_list_setitem _ _ _)))
  show wpAny _ _ (Builtin.List.listSubscript? (.ref ls) >>= _) _ _ st
  refine wpAny_bind ?_
  unfold Builtin.List.listSubscript?
  refine wpAny_bind (wpAny_specialOf tS slice_no_index ?_)
  simp only [Option.isNone_none, if_true]
  refine wpAny_pure ?_
  show wpAny _ _ (typeOf (.ref ls) >>= _) _ _ st
  refine wpAny_bind (wpAny_typeOf tS ?_)
  first
    | rw [if_neg (by decide)]
    | refine PySem.W.KFB.if_not (by decide) ?_
  rw [listSliceParts_eq]
  refine wpAny_bind (wpAny_bind (wpAny_field go fo (x := .none) rfl (wpAny_bind (wpAny_listPart .none ?_))))
  rw [if_neg noStep]
  refine wpAny_bind (wpAny_field go fo (x := .int a tk) rfl (wpAny_bind (wpAny_listPart (.int _ _) ?_)))
  refine wpAny_bind (wpAny_field go fo (x := .none) rfl (wpAny_bind (wpAny_listPart .none (wpAny_pure ?_))))
  first
    | simp only [other, Bool.false_eq_true, if_false]
    | refine PySem.W.KFB.if_not other ?_
    | (dsimp only
       rw [if_neg (by rw [other]; exact Bool.false_ne_true)])
  refine wpAny_bind (m := Builtin.List.listAllItems (.ref lb) "must assign iterable to extended slice") ?_
  unfold Builtin.List.listAllItems
  refine wpAny_bind (wpAny_typeOf hB.typeIs ?_)
  first
    | refine PySem.W.KFB.if_so (by decide) ?_
    | rw [if_pos (by decide)]
    | simp only [beq_self_eq_true, Bool.true_or, if_true]
  unfold Builtin.List.listItems
  refine wpAny_bind (wpAny_seqItems gb rfl (wpAny_pure ?_))
  refine wpAny_bind (wpAny_bind (wpAny_seqItems gi rfl (wpAny_pure ?_)))
  refine wpAny_bind (wpAny_of_eq ((sliceIndices_raw (some (a : Int)) none none xs.size (by simp)).trans (congrArg (pure : Int × Int × Int → Sem (Int × Int × Int)) (NM.bounds_rest ha))) ?_)
  show wpAny _ _ (if ((1 : Int) == 1) = true then _ else _) _ _ st
  rw [if_pos (by decide)]
  refine wpAny_bind (wpAny_rule ?_)
  first
    | simp only [notLongL hz, Bool.false_eq_true, if_false]
    | refine PySem.W.KFB.if_not (notLongL hz) ?_
  first | refine wpAny_bind (wpAny_pure ?_) | skip
  show wpAny _ _ (updateSeq li (fun zs => zs.extract 0 ((a : Int)).toNat ++ ys ++ zs.extract (max (a : Int) (xs.size : Int)).toNat zs.size) >>= _) _ _ st
  rw [show (max (a : Int) (xs.size : Int)).toNat = xs.size by omega, Int.toNat_natCast]
  refine wpAny_bind (wpAny_updateSeq (hz := Nat.le_trans (Nat.le_add_right _ _) hz) (_hz' := fits) gi rfl ?_)
  refine wpAny_bind (wpAny_letGo ?_)
  first
    | exact wpAny_bind (wpAny_pure (wpAny_pure ⟨.none, rfl, wpAny_pure h⟩))
    | exact wpAny_pure ⟨.none, rfl, wpAny_pure h⟩
end
/-- o[lo:] = ys -/
def sPutRest (to tl te : TE) : TS := fun D σ H => te σ H fun v H1 => to σ H1 fun x H2 => tl σ H2 fun y H3 => ∃ (l b : Addr) (xs ys : List V) (a : Int), v = .ref b ∧ x = .ref l ∧ y = .int a ∧ H3 l = some (.lst xs) ∧ H3 b = some (.lst ys) ∧ l ≠ b ∧ 0 ≤ a ∧ a ≤ xs.length ∧ xs.length + ys.length ≤ sizeLine ∧
  D.nx σ (upd H3 l (.lst (xs.take a.toNat ++ ys)))
theorem ps_putRest {X : Cx} {o lo value : Expr} {to tl te : TE} {pos pos' p2 : Pos} (ho : PE X o to) (hl : PE X lo tl) (hv : PE X value te) (hs : swapsWith value (some (.Subscript o (.Slice (some lo) none none p2) pos')) pos.line X.env = pure false := by rfl) :
    PS X (.Assign [.Subscript o (.Slice (some lo) none none p2) pos'] value pos) (sPutRest to tl te) := by
  refine ⟨fun pins s σ H D I h => ?_⟩
  refine wpAny_Assign_Subscript (thn (hv.run pins s σ H _ I h) fun r s1 ⟨v, H1, I1, rv, q1⟩ => thn (ho.run pins s1 σ H1 _ I1 q1) fun u s2 ⟨x, H2, I2, rx, q2⟩ => ?_) hs
  refine wpAny_Slice ?_
  rw [evalPart_some]
  refine thn (hl.run pins s2 σ H2 _ I2 q2) fun vl s3 ⟨y, H3, I3, ry, l, b, xs, ys, a, ev, ex, ey, hl3, hb3, hne, h0, ha, hz, q3⟩ => ?_
  subst ev ex ey
  obtain ⟨t, rfl⟩ := ry
  obtain rfl : u = Value.ref l := rx
  obtain rfl : r = Value.ref b := rv
  rw [evalPart_none]
  refine wpAny_pure ?_
  refine wpAny_pure ?_
  obtain ⟨z, its, n, ri, hli, gi⟩ := I3.lstM hl3
  obtain ⟨z2, its2, n2, rj, hlj, gj⟩ := I3.lstM hb3
  obtain ⟨c, rfl⟩ := Int.eq_ofNat_of_zero_le h0
  have I4 : Inv X pins σ H3 { s3 with heap := s3.heap.push { cls := .type "slice", data := .fields #[.int c t, .none, .none] } } := I3.kept (t' := s3.toks) fun b ob q => Heap.get?_push_of_some _ q
  refine put_rest (st := { s3 with heap := s3.heap.push { cls := .type "slice", data := .fields #[.int c t, .none, .none] } }) (Heap.get?_push_of_some _ gi) (Heap.get?_push_of_some _ gj) hne (Heap.IsSliceOf.new ..) (by rw [List.size_toArray]; omega) (by rw [List.size_toArray, List.size_toArray]; omega) ?_
  refine ⟨σ, _, I4.lset (its' := its.take c ++ its2) (t' := s3.toks) hl3 (Heap.get?_push_of_some _ gi) ?_ (Vals.append (ri.take _) rj) ?_, q3⟩
  · rw [splice_eq]
    simp
  · rw [List.length_append, List.length_take]
    omega
end NMJ
set_option Elab.async false
set_option linter.all false
set_option maxRecDepth 100000
set_option maxHeartbeats 4000000
/-! NmK: slices stored; what a def forgets; defs by data; defs that want an empty list of guards. -/
namespace NM
open PySem PySem.Spec L2 PyProof.Rows
section
variable {N : Nam} {G : Gam} {X : Cx} {a b e : Expr} {ca cb ce : E} {pos p p2 pos' : Pos} {es : List Expr} {cs : List E}
theorem ds_putRest {lo : Expr} {clo : E} (ho : DE N G X a ca) (hl : DE N G X lo clo) (he : DE N G X e ce) (hs : swapsWith e (some (.Subscript a (.Slice (some lo) none none p2) pos')) pos.line X.env = pure false := by rfl) :
    DS N G X (.Assign [.Subscript a (.Slice (some lo) none none p2) pos'] e pos) (.asg (.slcFrom ca clo) ce) := PS.imp (NMJ.ps_putRest ho hl he hs) fun D σ H q => by
  obtain ⟨as, ls, S, r, S', rh, rs, e, k⟩ := q
  simp only [evC, asgL] at e
  obtain ⟨x, S1, e1, e2⟩ := bind_of e
  obtain ⟨l, S2, e3, e4⟩ := bind_of e2
  obtain ⟨y, S3, e5, e6⟩ := bind_of e3
  obtain ⟨z, S4, e7, e8⟩ := bind_of e6
  cases e4
  refine ⟨as, ls, S, x, S1, rh, rs, e1, fun H1 as1 x' ex rr ra => ⟨as1, ls, S1, y, S3, rr, rs.mono ex, e5, fun H2 as2 y' ex2 rr2 ry => ⟨as2, ls, S3, z, S4, rr2, (rs.mono ex).mono ex2, e7, fun H3 as3 z' ex3 rr3 rz => ?_⟩⟩⟩
  have ry := ry.mono ex3
  have rx := (ra.mono ex2).mono ex3
  cases ry with
  | @ref n q hn =>
    cases rz with
    | int i =>
      cases rx with
      | @ref m q2 hm =>
        simp only at e8
        split at e8
        · rename_i xs ys hS hT
          split at e8
          · rename_i hh
            obtain ⟨h1, h2, h3, h4⟩ := hh
            cases e8
            obtain ⟨gs, hH, pr⟩ := rr3.ob n q _ hn hS
            obtain ⟨gs2, hH2, pr2⟩ := rr3.ob m q2 _ hm hT
            have l1 := prd_len pr
            have l2 := prd_len pr2
            have hz : gs.length + gs2.length ≤ sizeLine := line_le (by have : line = 1000000 := rfl; omega)
            have hne : q ≠ q2 := fun z => h1 (rr3.nd n m q _ _ hn (by rw [z]; exact hm) hS hT rfl rfl)
            have ext : Ext X.K H3 as3 (upd H3 q (.lst (gs.take i.toNat ++ gs2))) as3 := Ext.same (not_tup hH (fun _ z => nomatch z) fun _ _ z => nomatch z)
            have w := rr3.write (o' := .lst (xs.take i.toNat ++ ys)) (u := .lst (gs.take i.toNat ++ gs2)) hn hS rfl rfl (not_tup hH (fun _ z => nomatch z) fun _ _ z => nomatch z) (fun ob vs z => by rw [hH] at z; cases z)
              ⟨_, upd_same, RL.mono ext (prd_app (prd_take _ pr) pr2)⟩
            exact ⟨q, q2, gs, gs2, i, rfl, rfl, rfl, hH, hH2, hne, h2, by omega, hz, k.nx (((ex.trans ex2).trans ex3).trans w.2) w.1 ((((rs.mono ex).mono ex2).mono ex3).mono w.2)⟩
          · cases e8
        · cases e8
      | _ => cases e8
    | _ => cases e8
  | _ => cases e8
end
/-! ### what a def forgets -/
section
variable {N : Nam} {K : PySem.W.Frag} {H H1 : Hp} {as as1 : List Addr} {S S1 : Hh}
theorem RA.back (hp : ∀ (n : Nat) (a : Addr), as[n]? = some a → as1[n]? = some a) {x : AV} {v : V} (h : RA K H as x v) : ∀ {v1 : V}, RA K H1 as1 x v1 → RA K H1 as x v1 := by
  induction h with
  | non => intro v1 h; cases h; exact .non
  | bl b => intro v1 h; cases h; exact .bl b
  | int i => intro v1 h; cases h; exact .int i
  | str s => intro v1 h; cases h; exact .str s
  | @ref n a h => intro v1 h1; cases h1 with | ref h1 => rw [hp _ _ h] at h1; cases h1; exact .ref h
  | @tup xs vs a s l k ih =>
    intro v1 h1
    cases h1 with
    | @tup _ vs1 a1 s1 l1 k1 =>
      refine .tup s1 l1 fun i x v e1 e2 => ?_
      have hi := (List.getElem?_eq_some_iff.mp e1).1
      exact ih i x (vs[i]'(by omega)) e1 (by simp [show i < vs.length by omega]) (k1 i x v e1 e2)
theorem RL.back (hp : ∀ (n : Nat) (a : Addr), as[n]? = some a → as1[n]? = some a) : ∀ {xs : List AV} {vs vs1 : List V}, RL K H as xs vs → RL K H1 as1 xs vs1 → RL K H1 as xs vs1
  | _, _, _, .nil, .nil => .nil
  | _, _, _, .cons r t, .cons r1 t1 => .cons (r.back hp r1) (RL.back hp t t1)
theorem prd_back (hp : ∀ (n : Nat) (a : Addr), as[n]? = some a → as1[n]? = some a) {α β : Type} {f : α → β → Prop} : ∀ {xs : List (α × AV)} {vs vs1 : List (β × V)}, Paired (fun p q => f p.1 q.1 ∧ RA K H as p.2 q.2) xs vs → Paired (fun p q => f p.1 q.1 ∧ RA K H1 as1 p.2 q.2) xs vs1 → Paired (fun p q => f p.1 q.1 ∧ RA K H1 as p.2 q.2) xs vs1
  | _, _, _, .nil, .nil => .nil
  | _, _, _, .cons r t, .cons r1 t1 => .cons ⟨r1.1, r.2.back hp r1.2⟩ (prd_back hp t t1)
theorem RO.items {a : Addr} {xs : List AV} (h : RO N K H as a (.rol xs)) : ∃ vs, RL K H as xs vs := by
  rcases h with ⟨o, vs, p, q⟩ | ⟨vs, o, its, n, p, q⟩
  · exact ⟨vs, q⟩
  · exact ⟨vs, q⟩
theorem RO.back (hp : ∀ (n : Nat) (a : Addr), as[n]? = some a → as1[n]? = some a) {a b : Addr} {o : AO} (h : RO N K H as b o) (h1 : RO N K H1 as1 a o) : RO N K H1 as a o := by
  cases o with
  | lst xs => obtain ⟨vs, p, q⟩ := h; obtain ⟨vs1, p1, q1⟩ := h1; exact ⟨vs1, p1, RL.back hp q q1⟩
  | rol xs =>
    obtain ⟨vs, q⟩ := h.items
    rcases h1 with ⟨o, vs1, p1, q1⟩ | ⟨vs1, o, its, n, p1, q1⟩
    · exact .inl ⟨o, vs1, p1, RL.back hp q q1⟩
    · exact .inr ⟨vs1, o, its, n, p1, RL.back hp q q1⟩
  | dic kvs => obtain ⟨vs, p, q⟩ := h; obtain ⟨vs1, p1, q1⟩ := h1; exact ⟨vs1, p1, prd_back (f := fun (x : List Nat) (y : Key) => y = .inr (sS x)) hp q q1⟩
  | fdc kvs => obtain ⟨o, vs, p, q⟩ := h; obtain ⟨o1, vs1, p1, q1⟩ := h1; exact ⟨o1, vs1, p1, prd_back (f := fun (x : List Nat) (y : Key) => y = .inr (sS x)) hp q q1⟩
  | ins C fs => obtain ⟨dx, vs, p, q⟩ := h; obtain ⟨dx1, vs1, p1, q1⟩ := h1; exact ⟨dx1, vs1, p1, prd_back (f := fun (x : Nat) (y : Str) => y = N.fn x) hp q q1⟩
theorem take_get {α : Type} {xs ys : List α} {n : Nat} {x : α} (h : xs.take ys.length = ys) (e : ys[n]? = some x) : xs[n]? = some x := by
  have hn := (List.getElem?_eq_some_iff.mp e).1
  rw [← h, List.getElem?_take_of_lt hn] at e
  exact e
theorem RH.back (r : RH N K H as S) (r1 : RH N K H1 as1 S1) (hp : ∀ (n : Nat) (a : Addr), as[n]? = some a → as1[n]? = some a) (ht : S1.take S.length = S) : RH N K H1 as S :=
  ⟨r.len, fun n a o h1 h2 => (r.ob n a o h1 h2).back hp (r1.ob n a o (hp n a h1) (take_get ht h2)), r.nd⟩
mutual
theorem RA.flat {as2 : List Addr} : ∀ {x : AV} {v : V}, x.flat = true → RA K H as x v → RA K H as2 x v
  | .non, _, _, h => by cases h; exact .non
  | .bl _, _, _, h => by cases h; exact .bl _
  | .int _, _, _, h => by cases h; exact .int _
  | .str _, _, _, h => by cases h; exact .str _
  | .ref _, _, z, _ => by simp [AV.flat] at z
  | .tup xs, v, z, h => by
    obtain ⟨a, vs, rfl, s, r⟩ := h.of_tup
    exact RA.mk_tup s (RL.flat (by simpa [AV.flat] using z) r)
theorem RL.flat {as2 : List Addr} : ∀ {xs : List AV} {vs : List V}, flatAll xs = true → RL K H as xs vs → RL K H as2 xs vs
  | [], _, _, h => by cases h; exact .nil
  | x :: xs, _, z, h => by
    simp only [flatAll, Bool.and_eq_true] at z
    cases h with
    | cons r t => exact .cons (RA.flat z.1 r) (RL.flat z.2 t)
end
theorem sweep_fin {v v2 : AV} {S' S2 : Hh} {Q : VK} (r : RH N K H as S) (e : sweep S v S' = .ok v2 S2) (k : Fin N K H as S2 v2 Q) : Fin N K H as S' v Q := by
  unfold sweep at e
  split at e
  · rename_i hh
    cases e
    intro H1 as1 v' ex rr ra
    exact k H1 as v' ⟨fun _ _ h => h, ex.tup, ex.frz⟩ (r.back rr ex.pre hh.2) (RA.flat hh.1 ra)
  · cases e
    exact k
end
/-! ### defs by data -/
section
variable {N : Nam} {P : Program} {w : World} {K : PySem.W.Frag} {mg : Str → Option Value} {base : Heap} {x qual : Str} {params : Arguments} {body : List Stmt} {scope : Scope} {dvs : List V} {kws : List (Str × V)} {f : Addr} {fd : FuncData}
theorem rs_start {H : Hp} {as : List Addr} {nl : Nat} : ∀ {vs : List AV} {vs' : List V}, RL K H as vs vs' → RS K H as (vs.map some ++ List.replicate nl none) (vs'.map some ++ List.replicate nl none) := fun {vs vs'} r => by
  refine ⟨by simp [prd_len r], fun i y e => ?_⟩
  by_cases hi : i < vs.length
  · rw [List.getElem?_append_left (by simpa using hi), List.getElem?_map] at e
    cases e2 : vs[i]? with
    | none => rw [e2] at e; cases e
    | some z =>
      rw [e2] at e
      cases e
      obtain ⟨v, h1, h2⟩ := prd_some r e2
      have hl := prd_len r
      exact ⟨v, by rw [List.getElem?_append_left (by simp; omega), List.getElem?_map, h1]; rfl, h2⟩
  · rw [List.getElem?_append_right (by simpa using hi), List.getElem?_replicate] at e
    split at e <;> cases e
theorem run_in {G : Gam} {F : Fn} {Nn ps : List Str} (hnp : F.np = ps.length) (hnl : F.nl = Nn.length) {vs : List V} {H : Hp} {Q : VK} {E : XK} (h : spD N K F.np (runF G F) vs H Q E) : tDS N K (evCs G F.body) { nx := fun _ H' => Q .non H', rt := Q } (L2.start Nn vs) H := by
  obtain ⟨hl, as, S, vs0, v, S', rh, rl, e, k⟩ := h
  unfold runF at e
  split at e
  · rename_i hn
    obtain ⟨⟨fl, ls⟩, S1, e1, e2⟩ := bind_of e
    refine ⟨as, _, S, (fl, ls), S1, rh, ?_, e1, ?_⟩
    · have := rs_start (nl := F.nl - F.np) rl
      unfold L2.start
      rw [← hnl, hl]
      exact this
    · cases fl with
      | nx => exact fun H' as' σ' ex rr rs => sweep_fin rh e2 k H' as' .non ex rr .non
      | rt v => exact sweep_fin rh e2 k
      | bk => cases e2
      | ct => cases e2
  · cases e
theorem fn_d {G : Gam} {Fc : Fn} {Nn ps : List Str} {k : Nat} (F : FunD K x qual params body scope dvs kws f fd) (S : FnScope Nn ps scope) (hnp : Fc.np = ps.length) (hnl : Fc.nl = Nn.length)
    (hb : ∀ (cdv : Value) (A : Around) (outer : List Env) (s : Shared) (H : Hp) (E : XK), Room k (A.deeper (envOfC qual scope s.heap.objs.size f cdv)) → DSs N G (cxOf CX0 P w K mg base Nn qual scope f cdv A outer s H E).nox body Fc.body) :
    FnOk P w K mg base CX0 (k + 1) f fd ps (spD N K Fc.np (runF G Fc)) :=
  F.ok S (fun vs H Q E h => h.1.trans hnp) fun cdv A outer s H vs Q E hr h => ⟨_, (hb cdv A outer s H E hr).nox, run_in hnp hnl h⟩
/-- a def that is bad at this depth -/
theorem fn_bad {ps : List Str} {k np : Nat} {g : List AV → Hh → Res AV} (hg : ∀ vs S v S', g vs S ≠ .ok v S') : FnOk P w K mg base CX0 k f fd ps (spD N K np g) :=
  ⟨fun vs H Q E ⟨_, _, _, _, _, _, _, _, e, _⟩ => absurd e (hg _ _ _ _), fun A outer s H args us vs Q E _ _ _ _ ⟨_, _, _, _, _, _, _, _, e, _⟩ => absurd e (hg _ _ _ _)⟩
end
/-! ### defs that ask for no guards -/
structure FnG (P : Program) (w : World) (K : PySem.W.Frag) (mg : Str → Option Value) (base : Heap) (k : Nat) (f : Addr) (fd : FuncData) (ps : List Str) (sp : Sp) : Prop where
  len : ∀ vs H Q E, sp vs H Q E → vs.length = ps.length
  run : ∀ (A : Around) (outer : List Env) (s : Shared) (H : Hp) (args : Args) (us : List Value) (vs : List V) (Q : VK) (E : XK), A.guards = some [] → Room k A → Env0 P w K mg base A outer s H → BindsTo s fd args (ps.zip us) → Vals vs us → sp vs H Q E →
    codeAny (model P w) A (.call (.ref f) args) (CR CX0 outer P w H s Q E) s
section
variable {N : Nam} {P : Program} {w : World} {K : PySem.W.Frag} {mg : Str → Option Value} {base : Heap} {x qual : Str} {params : Arguments} {body : List Stmt} {scope : Scope} {dvs : List V} {kws : List (Str × V)} {f : Addr} {fd : FuncData}
theorem fn_g {G : Gam} {Fc : Fn} {Nn ps : List Str} {k : Nat} (F : FunD K x qual params body scope dvs kws f fd) (S : FnScope Nn ps scope) (hnp : Fc.np = ps.length) (hnl : Fc.nl = Nn.length)
    (hb : ∀ (cdv : Value) (A : Around) (outer : List Env) (s : Shared) (H : Hp) (E : XK), A.guards = some [] → Room k (A.deeper (envOfC qual scope s.heap.objs.size f cdv)) → DSs N G (cxOf CX0 P w K mg base Nn qual scope f cdv A outer s H E).nox body Fc.body) :
    FnG P w K mg base (k + 1) f fd ps (spD N K Fc.np (runF G Fc)) := by
  obtain ⟨oc, od, dV, kV, doc, pm, an, cdv, ct, osl, e0, lk, hcd, _, _⟩ := F.ex
  refine ⟨fun vs H Q E h => h.1.trans hnp, fun A outer st H args us vs Q E hgd room en bi rv hsp => ?_⟩
  subst e0
  have len := hsp.1.trans hnp
  have inK : K.In st.heap := en.mod.kin.keeps fun b o z => (en.bs b o z).1
  have free : st.heap.NoLimit := en.mod.nolimit.keeps fun b o z => (en.bs b o z).1
  have kinds : ∀ y ∈ ps.zip us, scope.names.lookup y.1 = some .local ∨ (scope.names.lookup y.1 = some .cell ∧ ((cellsFrom (st.heap.objs.size + 1) scope.names []).lookup y.1).isSome = true) := by
    rintro ⟨n, v⟩ hy
    cases S.par n (List.of_mem_zip hy).1 with
    | inl q => exact .inl q
    | inr q => exact .inr ⟨q, PySem.W.cellsFrom_some _ _ _ (.inl q)⟩
  refine codeAny_call_function room.depth (inK _ _ lk) rfl S.co S.gen rfl (PySem.W.codeRec_of inK hcd) (bi _ _ _ _ (wpAny_newFunctionEnv_cells S.kind kinds fun env ee s1 y => ?_))
  subst ee
  refine ⟨free.keeps y.toInCall.keep, codeAny_func ?_⟩
  have I := inv_start (CX := CX0) (E := E) S room.hd en len rv y
  refine wpAny_mono ((hb cdv A outer st H E hgd (room.deeper _)).nox.run [] s1 (L2.start Nn vs) H _ I (run_in hnp hnl hsp)) (fun fl s' z => ?_) fun e s' z => z
  match fl, z with
  | .ret u, ⟨v, σ', H', J, r, q⟩ => exact ⟨v, H', J.os, J.bare, J.base, J.hok, r, q⟩
  | .next, ⟨σ', H', J, q⟩ => exact ⟨.non, H', J.os, J.bare, J.base, J.hok, rfl, q⟩
  | .brk, ⟨_, _, _, q⟩ => exact q.elim
  | .cont, ⟨_, _, _, q⟩ => exact q.elim
end
section
variable {N : Nam} {G : Gam} {X : Cx} {a b e : Expr} {ca cb ce : E} {pos p p2 pos' : Pos} {es : List Expr} {cs : List E}
/-- keywords by their number -/
theorem de_callN {k n np f : Nat} {fa : Addr} {fd : FuncData} {ps ks : List Str} {x : Str} {kws : List Keyword} {zs : List E} {g : List Value → List Value → List Value} (F : FnOk X.prog X.w X.K X.mg X.base CX0 k fa fd ps (spD N X.K np (G.fn f))) (hr : Room k X.A) (hg : Gl X x) (hm : X.mg x = some (.ref fa))
    (hk : PySem.W.keepIn X.K (.ref fa) = true) (hb : KBn X.K fd ps n ks g (fun a b => a ++ b)) (ha : DA N G X (a :: es) cs) (hkw : DK N G X kws zs) (hn : cs.length = n) (hz : zs.length = ks.length) (hnp : cs.length + zs.length = np)
    (hall : (backToKw pos (keywordEach kws X.env)).all (·.1.isSome) = true := by rfl) (hks : (backToKw pos (keywordEach kws X.env)).filterMap (·.1) = ks := by rfl)
    (hdb : (x == ("__debug__" : Str)) = false := by decide) (he : starEach (a :: es) X.env = (false, eval a X.env) :: starEach es X.env := by rfl)
    (hpl : ((backTo pos (starEach (a :: es) X.env)).any (·.1) || (backToKw pos (keywordEach kws X.env)).any (·.1.isNone)) = false := by rfl) :
    DE N G X (.Call (.Name x p) (a :: es) kws pos) (.callk f cs zs) :=
  PE.imp (pe_callN (E := E0) F hr hg hm hk hb (fun _ _ _ _ _ _ _ h => h.elim) ha hkw hall hks hdb he hpl) fun σ H Q q => by
    obtain ⟨as, ls, S, v, S', r, rs, e, k⟩ := q
    simp only [ev] at e
    obtain ⟨vs, S1, e1, e2⟩ := bind_of e
    obtain ⟨ws, S2, e3, e4⟩ := bind_of e2
    refine ⟨as, ls, S, vs, S1, r, rs, e1, fun H1 as1 vs' ex rr rl => ⟨as1, ls, S1, ws, S2, rr, rs.mono ex, e3, fun H2 as2 ws' ex2 rr2 rl2 => ?_⟩⟩
    have h1 := prd_len rl; have h2 := evs_len e1; have h3 := prd_len rl2; have h4 := evs_len e3
    exact ⟨by omega, by omega, by simp; omega, as2, S2, vs ++ ws, v, S', rr2, prd_app (rl.mono ex2) rl2, e4, k.from (ex.trans ex2)⟩
theorem de_callG {k np f : Nat} {fa : Addr} {fd : FuncData} {ps : List Str} {x : Str} (hgd : X.A.guards = some []) (F : FnG X.prog X.w X.K X.mg X.base k fa fd ps (spD N X.K np (G.fn f))) (hr : Room k X.A) (hg : Gl X x) (hm : X.mg x = some (.ref fa))
    (hk : PySem.W.keepIn X.K (.ref fa) = true) (hb : Binds X.K fd ps []) (ha : DA N G X (a :: es) cs) (hnp : cs.length = np)
    (hdb : (x == ("__debug__" : Str)) = false := by decide) (he : starEach (a :: es) X.env = (false, eval a X.env) :: starEach es X.env := by rfl) (hpl : (backTo pos (starEach es X.env)).any (·.1) = false := by rfl) :
    DE N G X (.Call (.Name x p) (a :: es) [] pos) (.call f cs []) := by
  have key : PE X (.Call (.Name x p) (a :: es) [] pos) (tCall (spD N X.K np (G.fn f)) [] E0 (tDA N X.K (evs G cs))) := by
    refine ⟨fun pins st σ H Q I h => wpAny_Call_Name_kw (ld_glob I hg hm ?_ hdb)⟩
    refine PySem.W.callWith_K (h₀ := X.base) I.ok.mod.kin hk (thn (ha.run pos pins st σ H _ I h) fun us s1 ⟨vs, H1, I1, r, q⟩ => ⟨I1.kIn, ?_⟩) he hpl
    have r2 : Vals (vs ++ []) (us ++ []) := r.append .nil
    refine wpAny_call (codeAny_mono (F.run X.A X.stack s1 H1 ⟨us, []⟩ (us ++ []) (vs ++ []) Q E0 hgd hr I1.env0 (hb s1 us I1.kIn (by rw [← r2.length]; exact F.len _ _ _ _ q)) r2 q) fun z s' hq => ?_)
    match z, hq with
    | .ok (.ret u), hq => exact I1.after hq
    | .ok .next, hq => exact hq.elim
    | .ok .brk, hq => exact hq.elim
    | .ok .cont, hq => exact hq.elim
    | .error _, hq => exact hq.elim
  refine PE.imp key fun σ H Q q => ?_
  obtain ⟨as, ls, S, v, S', r, rs, e, k⟩ := q
  simp only [ev] at e
  obtain ⟨vs, S1, e1, e2⟩ := bind_of e
  refine ⟨as, ls, S, vs, S1, r, rs, e1, fun H1 as1 vs' ex rr rl => ⟨?_, as1, S1, vs, v, S', rr, by rw [List.append_nil]; exact rl, by rw [List.append_nil] at e2; exact e2, k.from ex⟩⟩
  have h1 := prd_len rl; have h2 := evs_len e1
  simp; omega
end
/-! for the tables -/
theorem de_gint {N : Nam} {G : Gam} {X : Cx} {x : Str} {i : Int} {pos : Pos} (hg : Gl X x) (hm : ∃ t, X.mg x = some (.int i t)) (hd : (x == ("__debug__" : Str)) = false := by decide) : DE N G X (.Name x pos) (.glob (.int i)) := by
  obtain ⟨t, h⟩ := hm
  exact de_glob (v' := .int i) hg h ⟨t, rfl⟩ (fun _ _ => .int i) hd
theorem nam_inj {nms : List (List Nat)} (h : nms.Nodup ∧ ∀ x ∈ nms, x.head? ≠ some 0) : ∀ f g : Nat, sS ((nms[f]?).getD [0, f]) = sS ((nms[g]?).getD [0, g]) → f = g := by
  intro f g e
  have e := sS_inj e
  cases hf : nms[f]? with
  | none =>
    cases hg : nms[g]? with
    | none => rw [hf, hg] at e; simpa using e
    | some y =>
      rw [hf, hg] at e
      have e : [0, f] = y := e
      exact absurd (by rw [← e]; rfl) (h.2 y (List.mem_of_getElem? hg))
  | some x =>
    cases hg : nms[g]? with
    | none =>
      rw [hf, hg] at e
      have e : x = [0, g] := e
      exact absurd (by rw [e]; rfl) (h.2 x (List.mem_of_getElem? hf))
    | some y =>
      rw [hf, hg] at e
      have e : x = y := e
      obtain ⟨h1, h2⟩ := List.getElem?_eq_some_iff.mp hf
      obtain ⟨h3, h4⟩ := List.getElem?_eq_some_iff.mp hg
      exact (List.getElem?_inj h1 h.1).mp (by rw [hf, hg, e])
theorem fn_ne {nms : List (List Nat)} {x : Str} {l : List Nat} (hx : x = sS l) (h : l ∉ nms ∧ l.head? ≠ some 0) : ∀ f : Nat, sS ((nms[f]?).getD [0, f]) ≠ x := by
  intro f e
  subst hx
  have e := sS_inj e
  cases hf : nms[f]? with
  | none =>
    rw [hf] at e
    have e : [0, f] = l := e
    exact h.2 (by rw [← e]; rfl)
  | some y =>
    rw [hf] at e
    have e : y = l := e
    exact h.1 (by rw [← e]; exact List.mem_of_getElem? hf)
theorem mt_none {mtL : List ((Nat × Nat) × Nat)} {Cl : List Nat} {m : Nat} (h : (mtL.all fun p => p.1.2 != m || Cl.contains p.1.1) = true) : ∀ C, C ∉ Cl → mtL.lookup (C, m) = none := by
  intro C hC
  induction mtL with
  | nil => rfl
  | cons p r ih =>
    obtain ⟨⟨a, b⟩, f⟩ := p
    simp only [List.all_cons, Bool.and_eq_true] at h
    rw [List.lookup_cons]
    have hne : ((C, m) == (a, b)) = false := by
      by_cases hb : b = m
      · have : a ≠ C := fun z => by
          subst z
          have h1 := h.1
          simp [hb, hC] at h1
        simp [Ne.symm this]
      · simp [Ne.symm hb]
    rw [hne]
    exact ih h.2
theorem gam_no {t : Tbl} {p q : Nat → List AV → Hh → Res AV} {m : Nat} {Cl : List Nat} (h : ∀ C, C ∉ Cl → t.mt C m = none) : ∀ C, C ∉ Cl → ∀ vs S v S', (gam t p q).mt C m vs S ≠ .ok v S' := by
  intro C hC vs S v S' e
  simp only [gam, h C hC] at e
  cases e
end NM
set_option Elab.async false
set_option linter.all false
set_option maxRecDepth 100000
set_option maxHeartbeats 8000000
/-! the text of the law by places, its code as data; printed by gen.py -/
namespace K69
open PySem PySem.Spec PyProof.Rows L2 NM He

def top (i : Nat) : Stmt := PySem.Challenge.pw_nomiddle_k69_rows_handed_on.main.body.getD i (.Pass ⟨0, 0, 0, 0⟩)
abbrev s0 : Stmt := top 2
abbrev N0 : List Str := ["s", "a", "b"]
abbrev s1 : Stmt := top 7
abbrev N1 : List Str := ["shapes", "name", "shape", "beads", "place", "bead", "many", "is_open"]
abbrev s2 : Stmt := top 10
abbrev N2 : List Str := ["row", "found", "bead"]
abbrev s3 : Stmt := top 11
abbrev N3 : List Str := ["string", "found", "bead"]
abbrev s4 : Stmt := top 12
abbrev N4 : List Str := ["thing"]
abbrev s5 : Stmt := inClass (top 13) 0
abbrev N5 : List Str := ["self", "program", "f", "args", "function", "thing"]
abbrev s6 : Stmt := inClass (top 13) 1
abbrev N6 : List Str := ["self", "word", "f", "many", "args"]
abbrev s7 : Stmt := inClass (top 13) 2
abbrev N7 : List Str := ["self", "f", "args", "name", "params", "gives", "clauses", "bead", "rest", "shape", "place", "many", "is_open", "names", "term", "known", "x", "value", "param", "arg"]
abbrev s8 : Stmt := inClass (top 13) 3
abbrev N8 : List Str := ["self", "task", "word", "b", "known"]
abbrev s9 : Stmt := inClass (top 13) 4
abbrev N9 : List Str := ["self", "term", "known", "word", "some", "one"]
abbrev s10 : Stmt := inClass (top 13) 5
abbrev N10 : List Str := ["self", "bead", "many", "is_open", "rest", "at"]
abbrev s11 : Stmt := inClass (top 13) 6
abbrev N11 : List Str := ["self"]
abbrev s12 : Stmt := inClass (top 13) 7
abbrev N12 : List Str := ["self"]
abbrev s13 : Stmt := inClass (top 13) 8
abbrev N13 : List Str := ["self"]
abbrev s14 : Stmt := top 14
abbrev N14 : List Str := ["program", "f", "args", "most", "run"]
abbrev s15 : Stmt := top 16
abbrev N15 : List Str := ["term", "word"]
abbrev s16 : Stmt := top 17
abbrev N16 : List Str := ["term", "found", "waiting", "here", "level", "one"]
abbrev s17 : Stmt := top 18
abbrev N17 : List Str := ["term", "part", "level"]
abbrev s18 : Stmt := top 20
abbrev N18 : List Str := ["string", "many"]
abbrev s19 : Stmt := inClass (top 21) 0
abbrev N19 : List Str := ["self", "program", "f", "args", "function", "thing"]
abbrev s20 : Stmt := inClass (top 21) 1
abbrev N20 : List Str := ["self", "word", "what", "known", "found", "rest", "numbers", "term"]
abbrev s21 : Stmt := inClass (top 21) 2
abbrev N21 : List Str := ["self", "f", "args", "name", "params", "gives", "clauses", "bead", "rest", "names", "term", "known", "x", "kind", "arg", "value"]
abbrev s22 : Stmt := inClass (top 21) 3
abbrev N22 : List Str := ["self", "term", "known"]
abbrev s23 : Stmt := inClass (top 21) 4
abbrev N23 : List Str := ["self", "term", "known", "more"]
abbrev s24 : Stmt := inClass (top 21) 5
abbrev N24 : List Str := ["self", "terms", "known", "found", "term"]
abbrev s25 : Stmt := inClass (top 21) 6
abbrev N25 : List Str := ["self", "term", "known", "one"]
abbrev s26 : Stmt := inClass (top 21) 7
abbrev N26 : List Str := ["self", "f", "given", "run", "value"]
abbrev s27 : Stmt := inClass (top 21) 8
abbrev N27 : List Str := ["self"]
abbrev s28 : Stmt := inClass (top 21) 9
abbrev N28 : List Str := ["self", "word", "what", "known", "held", "names", "thing", "part", "name"]
abbrev s29 : Stmt := top 23
abbrev N29 : List Str := ["_law_script", "_law_base", "_law_one", "_law_some", "_law_number"]
abbrev s30 : Stmt := top 24
abbrev N30 : List Str := ["_law_deal_here", "_law_many", "_law_number", "_law_one", "_law_other"]
abbrev s31 : Stmt := top 25
abbrev N31 : List Str := ["_law_deal_here", "_law_many", "_law_letters", "_law_core", "_law_at", "_law_turn", "_law_tails", "_law_some", "_law_k"]
abbrev s32 : Stmt := top 26
abbrev N32 : List Str := ["_law_deal_here"]
abbrev s33 : Stmt := top 27
abbrev N33 : List Str := ["_law_deal_here", "_law_beads", "_law_room", "_law_found", "_law_name", "_law_many", "_law_is_open", "_law_k"]
abbrev s34 : Stmt := top 28
abbrev N34 : List Str := ["_law_bead", "_law_names", "_law_rest", "_law_x"]
abbrev s35 : Stmt := top 29
abbrev N35 : List Str := ["_law_words_here", "_law_beads", "_law_shape", "_law_x", "_law_p", "_law_n", "_law_first", "_law_last", "_law_r", "_law_params", "_law_again", "_law_one", "_law_end", "_law_lay", "_law_fewer", "_law_alone", "_law_gone", "_law_on", "_law_first_one", "_law_chosen", "_law_pick", "_law_skipped", "_law_skip"]
abbrev s36 : Stmt := top 30
abbrev N36 : List Str := ["_law_deal_here", "_law_program_here", "_law_words_here", "_law_beads", "_law_some", "_law_row", "_law_due", "_law_turn", "_law_feed", "_law_name", "_law_many", "_law_is_open", "_law_k"]
abbrev s37 : Stmt := top 31
abbrev N37 : List Str := ["_law_program_here", "_law_f", "_law_things", "_law_due", "_law_eaten", "_law_feed", "_law_more", "_law_k", "_law_bead"]
abbrev s38 : Stmt := top 32
abbrev N38 : List Str := ["_law_program_here", "_law_f", "_law_things", "_law_ahead", "_law_row", "_law_feed", "_law_k", "_law_bead", "_law_was"]
abbrev s39 : Stmt := top 33
abbrev N39 : List Str := ["_law_script", "_law_deal_here", "_law_words_here", "_law_beads", "_law_program_here", "_law_row", "_law_other", "_law_many", "_law_lays", "_law_told", "_law_few", "_law_rest", "_law_eaten", "_law_picked", "_law_k"]
/-- reckoned -/
def c0 : List C := [.ifs (.val (.cmp .eq (.var 0) (.cst (.str [60])))) [.ret (.bi .int [.cmp .lt (.var 1) (.var 2)])] [],
    .ifs (.val (.cmp .eq (.var 0) (.cst (.str [61])))) [.ret (.bi .int [.cmp .eq (.var 1) (.var 2)])] [],
    .ifs (.val (.cmp .eq (.var 0) (.cst (.str [43])))) [.ret (.bin .mod (.bin .add (.var 1) (.var 2)) (.glob (.int 1000000000)))] [],
    .ifs (.val (.cmp .eq (.var 0) (.cst (.str [45])))) [.ret (.bin .mod (.bin .sub (.var 1) (.var 2)) (.glob (.int 1000000000)))] [],
    .ret (.bin .mod (.bin .mul (.var 1) (.var 2)) (.glob (.int 1000000000)))]
/-- bead_of -/
def c1 : List C := [.forr (.tp [.nm 2, .nm 3]) (.val (.var 0)) [.forr (.tp [.nm 4, .tp [.nm 5, .nm 6, .nm 7]]) (.enm (.var 3)) [.ifs (.val (.cmp .eq (.var 5) (.var 1))) [.ret (.tup [.var 2, .var 4, .var 6, .var 7])] []]],
    .ret (.cst .non)]
/-- strung -/
def c2 : List C := [.asg (.nm 1) (.cst .non),
    .forr (.nm 2) (.rev (.var 0)) [.asg (.nm 1) (.tup [.var 2, .var 1])],
    .ret (.var 1)]
/-- unstrung -/
def c3 : List C := [.asg (.nm 1) (.lst []),
    .whl (.val (.cmp .notN (.var 0) (.cst .non))) [.asg (.tp [.nm 2, .nm 0]) (.var 0),
    .expr (.bm .append (.var 1) [.var 2])],
    .ret (.bi .tuple [.var 1])]
/-- worn -/
def c4 : List C := [.ifs (.val (.isTup (.var 0))) [.ret (.call 2 [.var 0] [])] [],
    .ret (.var 0)]
/-- Run.__init__ -/
def c5 : List C := [.asg (.fld (.var 0) 0) (.idx (.var 1) (.cst (.int 0))),
    .asg (.fld (.var 0) 1) (.dc (.idx (.var 4) (.cst (.int 0))) (.var 4) (.nm 4) (.val (.idx (.var 1) (.cst (.int 1)))) [] [4]),
    .asg2 (.fld (.var 0) 2) (.fld (.var 0) 3) (.cst (.int 0)),
    .asg (.fld (.var 0) 4) (.lc (.call 4 [.var 5] []) (.nm 5) (.val (.var 3)) [] [5]),
    .asg (.fld (.var 0) 5) (.lst [.tup [.cst (.str [101, 97, 116]), .var 2, .bi .len [.var 3]]])]
/-- Run.turn -/
def c6 : List C := [.ifs (.val (.cmp .eq (.bi .len [.fld (.var 0) 5]) (.cst (.int 0)))) [.ret (.cst (.bl false))] [],
    .asg (.tp [.nm 1, .nm 2, .nm 3]) (.bm .pop (.fld (.var 0) 5) []),
    .asg (.nm 4) (.slc (.fld (.var 0) 4) (some (.bin .sub (.bi .len [.fld (.var 0) 4]) (.var 3))) none),
    .asg (.fld (.var 0) 4) (.slc (.fld (.var 0) 4) none (some (.bin .sub (.bi .len [.fld (.var 0) 4]) (.var 3)))),
    .expr (.meth 1 (.var 0) [.var 2, .var 4]),
    .whl (.and (.val (.cmp .gt (.bi .len [.fld (.var 0) 5]) (.cst (.int 0)))) (.val (.cmp .ne (.idx (.idx (.fld (.var 0) 5) (.neg (.cst (.int 1)))) (.cst (.int 0))) (.cst (.str [101, 97, 116]))))) [.expr (.meth 2 (.var 0) [.bm .pop (.fld (.var 0) 5) []])],
    .ret (.cst (.bl true))]
/-- Run.eat -/
def c7 : List C := [.asg (.tp [.nm 3, .nm 4, .nm 5, .nm 6]) (.idx (.fld (.var 0) 1) (.var 1)),
    .asg (.tp [.nm 7, .nm 8]) (.idx (.var 2) (.cst (.int 0))),
    .asg (.tp [.nm 9, .nm 10, .nm 11, .nm 12]) (.call 1 [.fld (.var 0) 0, .idx (.var 7) (.cst (.int 0))] []),
    .asg (.tp [.nm 13, .nm 14]) (.idx (.var 6) (.var 10)),
    .asg (.nm 15) (.dc (.idx (.var 18) (.cst (.int 0))) (.var 19) (.tp [.nm 18, .nm 19]) (.zip (.slc (.var 4) (some (.cst (.int 1))) none) (.slc (.var 2) (some (.cst (.int 1))) none)) [] [18, 19]),
    .forr (.tp [.nm 16, .nm 17]) (.zip (.var 13) (.bin .add (.slc (.var 7) (some (.cst (.int 1))) none) (.tup [.var 8]))) [.asg (.idx (.var 15) (.var 16)) (.var 17)],
    .augF (.var 0) 2 .add (.cst (.int 1)),
    .expr (.bm .append (.fld (.var 0) 5) [.tup [.cst (.str [116, 101, 114, 109]), .var 14, .var 15]])]
/-- Run.go_on -/
def c8 : List C := [.asg (.nm 2) (.idx (.var 1) (.cst (.int 0))),
    .ifs (.val (.cmp .eq (.var 2) (.cst (.str [116, 101, 114, 109])))) [.expr (.meth 3 (.var 0) [.idx (.var 1) (.cst (.int 1)), .idx (.var 1) (.cst (.int 2))])] [.ifs (.val (.cmp .eq (.var 2) (.cst (.str [111, 112])))) [.asg (.nm 3) (.bm .pop (.fld (.var 0) 4) []),
    .expr (.bm .append (.fld (.var 0) 4) [.call 0 [.idx (.var 1) (.cst (.int 1)), .bm .pop (.fld (.var 0) 4) [], .var 3] []])] [.ifs (.val (.cmp .eq (.var 2) (.cst (.str [109, 97, 107, 101])))) [.expr (.meth 4 (.var 0) [.idx (.var 1) (.cst (.int 1)), .idx (.var 1) (.cst (.int 2)), .idx (.var 1) (.cst (.int 3))])] [.ifs (.val (.cmp .eq (.var 2) (.cst (.str [99, 104, 111, 111, 115, 101])))) [.expr (.bm .append (.fld (.var 0) 5) [.tup [.cst (.str [116, 101, 114, 109]), .idx (.var 1) (.bin .add (.cst (.int 1)) (.bi .int [.cmp .eq (.bm .pop (.fld (.var 0) 4) []) (.cst (.int 0))])), .idx (.var 1) (.cst (.int 3))]])] [.asg (.nm 4) (.bi .dict [.idx (.var 1) (.cst (.int 3))]),
    .asg (.idx (.var 4) (.idx (.var 1) (.cst (.int 1)))) (.bm .pop (.fld (.var 0) 4) []),
    .expr (.bm .append (.fld (.var 0) 5) [.tup [.cst (.str [116, 101, 114, 109]), .idx (.var 1) (.cst (.int 2)), .var 4]])]]]]]
/-- Run.begin -/
def c9 : List C := [.asg (.nm 3) (.idx (.var 1) (.cst (.int 0))),
    .ifs (.val (.cmp .eq (.var 3) (.cst (.str [110, 117, 109])))) [.expr (.bm .append (.fld (.var 0) 4) [.idx (.var 1) (.cst (.int 1))])] [.ifs (.val (.cmp .eq (.var 3) (.cst (.str [110, 97, 109, 101])))) [.expr (.bm .append (.fld (.var 0) 4) [.idx (.var 2) (.idx (.var 1) (.cst (.int 1)))])] [.ifs (.val (.cmp .eq (.var 3) (.cst (.str [111, 112])))) [.expr (.bm .extend (.fld (.var 0) 5) [.lst [.tup [.cst (.str [111, 112]), .idx (.var 1) (.cst (.int 1))], .tup [.cst (.str [116, 101, 114, 109]), .idx (.var 1) (.cst (.int 3)), .var 2], .tup [.cst (.str [116, 101, 114, 109]), .idx (.var 1) (.cst (.int 2)), .var 2]]])] [.ifs (.val (.cmp .eq (.var 3) (.cst (.str [109, 97, 107, 101])))) [.asg (.nm 4) (.bin .add (.bi .list [.idx (.var 1) (.cst (.int 2))]) (.lc (.var 5) (.nm 5) (.val (.lst [.idx (.var 1) (.cst (.int 3))])) [.val (.cmp .notN (.var 5) (.cst .non))] [5])),
    .expr (.bm .append (.fld (.var 0) 5) [.tup [.cst (.str [109, 97, 107, 101]), .idx (.var 1) (.cst (.int 1)), .bi .len [.idx (.var 1) (.cst (.int 2))], .cmp .notN (.idx (.var 1) (.cst (.int 3))) (.cst .non)]]),
    .expr (.bm .extend (.fld (.var 0) 5) [.lc (.tup [.cst (.str [116, 101, 114, 109]), .var 5, .var 2]) (.nm 5) (.rev (.var 4)) [] [5]])] [.ifs (.val (.cmp .eq (.var 3) (.cst (.str [99, 97, 108, 108])))) [.expr (.bm .append (.fld (.var 0) 5) [.tup [.cst (.str [101, 97, 116]), .idx (.var 1) (.cst (.int 1)), .bi .len [.idx (.var 1) (.cst (.int 2))]]]),
    .expr (.bm .extend (.fld (.var 0) 5) [.lc (.tup [.cst (.str [116, 101, 114, 109]), .var 5, .var 2]) (.nm 5) (.rev (.idx (.var 1) (.cst (.int 2)))) [] [5]])] [.ifs (.val (.cmp .eq (.var 3) (.cst (.str [105, 102])))) [.expr (.bm .extend (.fld (.var 0) 5) [.lst [.tup [.cst (.str [99, 104, 111, 111, 115, 101]), .idx (.var 1) (.cst (.int 2)), .idx (.var 1) (.cst (.int 3)), .var 2], .tup [.cst (.str [116, 101, 114, 109]), .idx (.var 1) (.cst (.int 1)), .var 2]]])] [.expr (.bm .extend (.fld (.var 0) 5) [.lst [.tup [.cst (.str [108, 101, 116]), .idx (.var 1) (.cst (.int 1)), .idx (.var 1) (.cst (.int 3)), .var 2], .tup [.cst (.str [116, 101, 114, 109]), .idx (.var 1) (.cst (.int 2)), .var 2]]])]]]]]]]
/-- Run.make -/
def c10 : List C := [.asg (.nm 4) (.cst .non),
    .ifs (.val (.var 3)) [.asg (.nm 4) (.bm .pop (.fld (.var 0) 4) [])] [],
    .asg (.nm 5) (.bin .sub (.bi .len [.fld (.var 0) 4]) (.var 2)),
    .asg (.slcFrom (.fld (.var 0) 4) (.var 5)) (.lst [.tup [.bin .add (.tup [.var 1]) (.bi .tuple [.slc (.fld (.var 0) 4) (some (.var 5)) none]), .var 4]]),
    .augF (.var 0) 3 .add (.cst (.int 1))]
/-- Run.eaten -/
def c11 : List C := [.ret (.fld (.var 0) 2)]
/-- Run.made -/
def c12 : List C := [.ret (.fld (.var 0) 3)]
/-- Run.outcome -/
def c13 : List C := [.ifs (.val (.cmp .gt (.bi .len [.fld (.var 0) 5]) (.cst (.int 0)))) [.ret (.cst .non)] [],
    .ifs (.val (.isTup (.idx (.fld (.var 0) 4) (.cst (.int 0))))) [.ret (.call 3 [.idx (.fld (.var 0) 4) (.cst (.int 0))] [])] [],
    .ret (.idx (.fld (.var 0) 4) (.cst (.int 0)))]
/-- ran -/
def c14 : List C := [.asg (.nm 4) (.make 0 [.var 0, .var 1, .var 2] []),
    .whl (.val (.meth 0 (.var 4) [])) [.ifs (.val (.cmp .gt (.bin .add (.meth 5 (.var 4) []) (.meth 6 (.var 4) [])) (.var 3))) [.never] []],
    .ret (.tup [.meth 7 (.var 4) [], .meth 5 (.var 4) [], .meth 6 (.var 4) []])]
/-- terms_right_in -/
def c15 : List C := [.asg (.nm 1) (.idx (.var 0) (.cst (.int 0))),
    .ifs (.val (.cmp .inn (.var 1) (.tup [.cst (.str [110, 117, 109]), .cst (.str [110, 97, 109, 101])]))) [.ret (.tup [])] [],
    .ifs (.val (.cmp .inn (.var 1) (.tup [.cst (.str [111, 112]), .cst (.str [108, 101, 116])]))) [.ret (.slc (.var 0) (some (.cst (.int 2))) none)] [],
    .ifs (.val (.cmp .eq (.var 1) (.cst (.str [105, 102])))) [.ret (.slc (.var 0) (some (.cst (.int 1))) none)] [],
    .ifs (.and (.val (.cmp .eq (.var 1) (.cst (.str [109, 97, 107, 101])))) (.val (.cmp .notN (.idx (.var 0) (.cst (.int 3))) (.cst .non)))) [.ret (.bin .add (.idx (.var 0) (.cst (.int 2))) (.tup [.idx (.var 0) (.cst (.int 3))]))] [],
    .ret (.idx (.var 0) (.cst (.int 2)))]
/-- parts_at_levels -/
def c16 : List C := [.asg (.nm 1) (.lst []),
    .asg (.nm 2) (.lst [.tup [.var 0, .cst (.int 0)]]),
    .whl (.val (.cmp .gt (.bi .len [.var 2]) (.cst (.int 0)))) [.asg (.tp [.nm 3, .nm 4]) (.bm .pop (.var 2) []),
    .expr (.bm .append (.var 1) [.tup [.var 3, .var 4]]),
    .expr (.bm .extend (.var 2) [.lc (.tup [.var 5, .bin .add (.var 4) (.cst (.int 1))]) (.nm 5) (.rev (.call 15 [.var 3] [])) [] [5]])],
    .ret (.var 1)]
/-- parts -/
def c17 : List C := [.ret (.lc (.var 1) (.tp [.nm 1, .nm 2]) (.val (.call 16 [.var 0] [])) [] [1, 2])]
/-- long_of -/
def c18 : List C := [.asg (.nm 1) (.cst (.int 0)),
    .whl (.val (.cmp .notN (.var 0) (.cst .non))) [.asg (.nm 0) (.idx (.var 0) (.cst (.int 1))),
    .augN 1 .add (.cst (.int 1))],
    .ret (.var 1)]
/-- Feed.__init__ -/
def c19 : List C := [.asg (.fld (.var 0) 6) (.var 1),
    .asg (.fld (.var 0) 1) (.dc (.idx (.var 4) (.cst (.int 0))) (.var 4) (.nm 4) (.val (.idx (.var 1) (.cst (.int 1)))) [] [4]),
    .asg (.fld (.var 0) 2) (.cst (.int 0)),
    .asg (.fld (.var 0) 7) (.tup [.cst (.str [101, 97, 116]), .var 2, .lc (.ifx (.val (.isTup (.var 5))) (.call 2 [.var 5] []) (.var 5)) (.nm 5) (.val (.var 3)) [] [5]])]
/-- Feed.bead -/
def c20 : List C := [.whl (.val (.cmp .notN (.fld (.var 0) 7) (.cst .non))) [.asg (.tp [.nm 1, .nm 2, .nm 3]) (.fld (.var 0) 7),
    .ifs (.val (.cmp .eq (.var 1) (.cst (.str [114, 111, 119])))) [.asg (.tp [.nm 4, .nm 5]) (.var 2),
    .asg (.fld (.var 0) 7) (.ifx (.val (.cmp .isN (.var 5) (.cst .non))) (.cst .non) (.tup [.cst (.str [114, 111, 119]), .var 5, .cst .non])),
    .ret (.var 4)] [],
    .ifs (.val (.cmp .eq (.var 1) (.cst (.str [101, 97, 116])))) [.expr (.meth 1 (.var 0) [.var 2, .var 3])] [.ifs (.val (.cmp .eq (.idx (.var 2) (.cst (.int 0))) (.cst (.str [109, 97, 107, 101])))) [.asg (.nm 6) (.lc (.meth 12 (.var 0) [.var 7, .var 3]) (.nm 7) (.val (.idx (.var 2) (.cst (.int 2)))) [] [7]),
    .asg (.fld (.var 0) 7) (.ifx (.val (.cmp .isN (.idx (.var 2) (.cst (.int 3))) (.cst .non))) (.cst .non) (.tup [.cst (.str [116, 101, 114, 109]), .idx (.var 2) (.cst (.int 3)), .var 3])),
    .ret (.bin .add (.tup [.idx (.var 2) (.cst (.int 1))]) (.bi .tuple [.var 6]))] [.asg (.fld (.var 0) 7) (.meth 9 (.var 0) [.var 2, .var 3])]]],
    .ret (.cst .non)]
/-- Feed.eat -/
def c21 : List C := [.asg (.tp [.nm 3, .nm 4, .nm 5, .nm 6]) (.idx (.fld (.var 0) 1) (.var 1)),
    .asg (.tp [.nm 7, .nm 8]) (.idx (.var 2) (.cst (.int 0))),
    .asg (.tp [.nm 9, .nm 10]) (.idx (.var 6) (.idx (.call 1 [.idx (.fld (.var 0) 6) (.cst (.int 0)), .idx (.var 7) (.cst (.int 0))] []) (.cst (.int 1)))),
    .asg (.nm 11) (.dc (.var 12) (.var 14) (.tp [.tp [.nm 12, .nm 13], .nm 14]) (.zip (.slc (.var 4) (some (.cst (.int 1))) none) (.slc (.var 2) (some (.cst (.int 1))) none)) [] [12, 13, 14]),
    .expr (.bm .update (.var 11) [.dc (.var 12) (.var 15) (.tp [.nm 12, .nm 15]) (.zip (.var 9) (.bin .add (.slc (.var 7) (some (.cst (.int 1))) none) (.tup [.var 8]))) [] [12, 15]]),
    .augF (.var 0) 2 .add (.cst (.int 1)),
    .asg (.fld (.var 0) 7) (.tup [.cst (.str [116, 101, 114, 109]), .var 10, .var 11])]
/-- Feed.behind -/
def c22 : List C := [.ifs (.val (.cmp .eq (.idx (.var 1) (.cst (.int 0))) (.cst (.str [110, 97, 109, 101])))) [.ret (.tup [.cst (.str [114, 111, 119]), .idx (.var 2) (.idx (.var 1) (.cst (.int 1))), .cst .non])] [],
    .ifs (.val (.cmp .eq (.idx (.var 1) (.cst (.int 0))) (.cst (.str [99, 97, 108, 108])))) [.ret (.tup [.cst (.str [101, 97, 116]), .idx (.var 1) (.cst (.int 1)), .meth 11 (.var 0) [.idx (.var 1) (.cst (.int 2)), .var 2]])] [],
    .ifs (.val (.cmp .eq (.idx (.var 1) (.cst (.int 0))) (.cst (.str [105, 102])))) [.ret (.tup [.cst (.str [116, 101, 114, 109]), .idx (.var 1) (.bin .add (.cst (.int 2)) (.bi .int [.cmp .eq (.meth 12 (.var 0) [.idx (.var 1) (.cst (.int 1)), .var 2]) (.cst (.int 0))])), .var 2])] [],
    .ret (.tup [.cst (.str [116, 101, 114, 109]), .idx (.var 1) (.cst (.int 3)), .meth 10 (.var 0) [.var 1, .var 2]])]
/-- Feed.with_name -/
def c23 : List C := [.asg (.nm 3) (.bi .dict [.var 2]),
    .asg (.idx (.var 3) (.idx (.var 1) (.cst (.int 1)))) (.meth 12 (.var 0) [.idx (.var 1) (.cst (.int 2)), .var 2]),
    .ret (.var 3)]
/-- Feed.arguments -/
def c24 : List C := [.asg (.nm 3) (.lst []),
    .forr (.nm 4) (.val (.var 1)) [.ifs (.val (.cmp .eq (.idx (.var 4) (.cst (.int 0))) (.cst (.str [110, 97, 109, 101])))) [.expr (.bm .append (.var 3) [.idx (.var 2) (.idx (.var 4) (.cst (.int 1)))])] [.expr (.bm .append (.var 3) [.meth 12 (.var 0) [.var 4, .var 2]])]],
    .ret (.var 3)]
/-- Feed.number -/
def c25 : List C := [.ifs (.val (.cmp .eq (.idx (.var 1) (.cst (.int 0))) (.cst (.str [110, 117, 109])))) [.ret (.idx (.var 1) (.cst (.int 1)))] [],
    .ifs (.val (.cmp .eq (.idx (.var 1) (.cst (.int 0))) (.cst (.str [110, 97, 109, 101])))) [.ret (.idx (.var 2) (.idx (.var 1) (.cst (.int 1))))] [],
    .ifs (.val (.cmp .eq (.idx (.var 1) (.cst (.int 0))) (.cst (.str [111, 112])))) [.asg (.nm 3) (.meth 12 (.var 0) [.idx (.var 1) (.cst (.int 2)), .var 2]),
    .ret (.call 0 [.idx (.var 1) (.cst (.int 1)), .var 3, .meth 12 (.var 0) [.idx (.var 1) (.cst (.int 3)), .var 2]] [])] [],
    .ifs (.val (.cmp .eq (.idx (.var 1) (.cst (.int 0))) (.cst (.str [105, 102])))) [.ret (.meth 12 (.var 0) [.idx (.var 1) (.bin .add (.cst (.int 2)) (.bi .int [.cmp .eq (.meth 12 (.var 0) [.idx (.var 1) (.cst (.int 1)), .var 2]) (.cst (.int 0))])), .var 2])] [],
    .ifs (.val (.cmp .eq (.idx (.var 1) (.cst (.int 0))) (.cst (.str [108, 101, 116])))) [.ret (.meth 12 (.var 0) [.idx (.var 1) (.cst (.int 3)), .meth 10 (.var 0) [.var 1, .var 2]])] [],
    .ret (.meth 13 (.var 0) [.idx (.var 1) (.cst (.int 1)), .meth 11 (.var 0) [.idx (.var 1) (.cst (.int 2)), .var 2]])]
/-- Feed.counted -/
def c26 : List C := [.asg (.nm 3) (.make 0 [.fld (.var 0) 6, .var 1, .lc (.ifx (.val (.isTup (.var 4))) (.call 3 [.var 4] []) (.var 4)) (.nm 4) (.val (.var 2)) [] [4]] []),
    .whl (.val (.meth 0 (.var 3) [])) [.pass],
    .augF (.var 0) 2 .add (.meth 5 (.var 3) []),
    .ret (.meth 7 (.var 3) [])]
/-- Feed.eaten -/
def c27 : List C := [.ret (.fld (.var 0) 2)]
/-- Feed.left -/
def c28 : List C := [.ifs (.val (.cmp .isN (.fld (.var 0) 7) (.cst .non))) [.ret (.cst (.int 0))] [],
    .asg (.tp [.nm 1, .nm 2, .nm 3]) (.fld (.var 0) 7),
    .asg (.nm 4) (.var 3),
    .ifs (.val (.cmp .eq (.var 1) (.cst (.str [114, 111, 119])))) [.asg (.nm 4) (.lst [.var 2])] [.ifs (.val (.cmp .eq (.var 1) (.cst (.str [116, 101, 114, 109])))) [.asg (.nm 5) (.dc (.idx (.var 7) (.cst (.int 1))) (.cst (.bl true)) (.nm 7) (.val (.call 17 [.var 2] [])) [.val (.cmp .eq (.idx (.var 7) (.cst (.int 0))) (.cst (.str [110, 97, 109, 101])))] [7]),
    .lockS 5 (.asg (.nm 4) (.lc (.idx (.var 3) (.var 8)) (.nm 8) (.val (.var 5)) [.val (.cmp .inn (.var 8) (.var 3))] [8]))] []],
    .ret (.bi .sum [.lc (.call 18 [.var 6] []) (.nm 6) (.val (.var 4)) [.val (.isTup (.var 6))] [6]])]
/-- _law_deal -/
def c29 : List C := [.asg (.nm 3) (.lc (.bi .max2 [.var 2, .bin .sub (.cst (.int 0)) (.var 2)]) (.nm 2) (.val (.slc (.var 0) (some (.var 1)) (some (.cst (.int 63))))) [] [2]),
    .asg (.nm 4) (.bin .add (.cst (.int 7919)) (.var 1)),
    .forr (.nm 2) (.val (.var 3)) [.asg (.nm 4) (.bin .mod (.bin .add (.bin .mul (.var 4) (.cst (.int 48271))) (.bin .mod (.var 2) (.cst (.int 2147483629)))) (.cst (.int 2147483647)))],
    .ret (.dic [[115, 101, 101, 100], [110, 117, 109, 98, 101, 114], [108, 101, 102, 116]] [.var 4, .cst (.int 0), .lrev (.lc (.var 2) (.nm 2) (.val (.var 3)) [.val (.cmp .ge (.var 2) (.bin .pow (.cst (.int 10)) (.cst (.int 18))))] [2])])]
/-- _law_draw -/
def c30 : List C := [.whl (.and (.val (.cmp .eq (.idx (.var 0) (.cst (.str [110, 117, 109, 98, 101, 114]))) (.cst (.int 0)))) (.val (.cmp .gt (.bi .len [.idx (.var 0) (.cst (.str [108, 101, 102, 116]))]) (.cst (.int 0))))) [.asg (.idx (.var 0) (.cst (.str [110, 117, 109, 98, 101, 114]))) (.bm .pop (.idx (.var 0) (.cst (.str [108, 101, 102, 116]))) [])],
    .asg (.nm 2) (.idx (.var 0) (.cst (.str [110, 117, 109, 98, 101, 114]))),
    .ifs (.val (.cmp .gt (.var 2) (.cst (.int 0)))) [.asg (.idx (.var 0) (.cst (.str [110, 117, 109, 98, 101, 114]))) (.bin .fdiv (.var 2) (.var 1)),
    .ret (.bin .mod (.var 2) (.var 1))] [],
    .asg (.nm 3) (.bin .mod (.bin .add (.bin .mul (.idx (.var 0) (.cst (.str [115, 101, 101, 100]))) (.cst (.int 48271))) (.cst (.int 7919))) (.cst (.int 2147483647))),
    .asg (.idx (.var 0) (.cst (.str [115, 101, 101, 100]))) (.bin .mod (.bin .add (.bin .mul (.var 3) (.cst (.int 40692))) (.cst (.int 104729))) (.cst (.int 2147483399))),
    .asg (.nm 4) (.bin .mod (.bin .mul (.idx (.var 0) (.cst (.str [115, 101, 101, 100]))) (.idx (.var 0) (.cst (.str [115, 101, 101, 100])))) (.cst (.int 2147483563))),
    .ret (.bin .mod (.bin .add (.bin .mul (.bin .mod (.bin .mul (.var 3) (.var 3)) (.cst (.int 2147483629))) (.cst (.int 2147483563))) (.var 4)) (.var 1))]
/-- _law_words -/
def c31 : List C := [.asg (.nm 2) (.cst (.str [97, 98, 99, 100, 101, 102, 103, 104, 105, 106, 107, 108, 109, 110, 111, 112, 113, 114, 115, 116, 117, 118, 119, 120, 121, 122])),
    .asg (.nm 3) (.bm .join (.cst (.str [])) [.lc (.idx (.var 2) (.call 30 [.var 0, .cst (.int 26)] [])) (.nm 8) (.rng [.call 30 [.var 0, .cst (.int 6)] []]) [] [8]]),
    .asg (.tp [.nm 4, .nm 5]) (.tup [.call 30 [.var 0, .bin .add (.bi .len [.var 3]) (.cst (.int 1))] [], .call 30 [.var 0, .cst (.int 26)] []]),
    .asg (.nm 6) (.idx (.lst [.lst [.cst (.str [113]), .cst (.str [119]), .cst (.str [120]), .cst (.str [122])], .lst [.cst (.str []), .cst (.str [113]), .cst (.str [119]), .cst (.str [120])]]) (.bin .mul (.call 30 [.var 0, .cst (.int 2)] []) (.bi .int [.cmp .eq (.var 3) (.cst (.str []))]))),
    .asg (.nm 7) (.lc (.bin .add (.idx (.var 2) (.bin .mod (.bin .add (.var 5) (.var 8)) (.cst (.int 26)))) (.idx (.var 6) (.bin .fdiv (.var 8) (.cst (.int 26))))) (.nm 8) (.rng [.var 1]) [] [8]),
    .ret (.lc (.bin .add (.bin .add (.bin .add (.slc (.var 3) none (some (.var 4))) (.idx (.var 7) (.var 8))) (.slc (.var 3) (some (.var 4)) none)) (.bin .mul (.cst (.str [122])) (.bin .mod (.var 8) (.cst (.int 2))))) (.nm 8) (.rng [.var 1]) [] [8])]
/-- _law_figure -/
def c32 : List C := [.ret (.idx (.lst [.cst (.int 0), .cst (.int 1), .cst (.int 2), .cst (.int 7), .bin .sub (.cst (.int 999999999)) (.call 30 [.var 0, .bin .pow (.cst (.int 10)) (.cst (.int 9))] [])]) (.call 30 [.var 0, .cst (.int 5)] []))]
/-- _law_long -/
def c33 : List C := [.asg (.nm 3) (.lst []),
    .forr (.tp [.nm 4, .nm 5, .nm 6]) (.val (.bin .add (.bin .mul (.lst [.idx (.var 1) (.cst (.int 0))]) (.call 30 [.var 0, .var 2] [])) (.lst [.idx (.var 1) (.cst (.int 1))]))) [.expr (.bm .append (.var 3) [.bin .add (.tup [.var 4]) (.bi .tuple [.lc (.call 32 [.var 0] []) (.nm 7) (.rng [.var 5]) [] [7]])])],
    .ret (.bi .tuple [.var 3])]
/-- _law_made -/
def c34 : List C := [.ret (.tup [.cst (.str [109, 97, 107, 101]), .idx (.var 0) (.cst (.int 0)), .bi .tuple [.lc (.tup [.cst (.str [110, 97, 109, 101]), .var 3]) (.nm 3) (.val (.slc (.var 1) none (some (.idx (.var 0) (.cst (.int 1)))))) [] [3]], .var 2])]
/-- _law_program -/
def c35 : List C := [.asg (.tp [.nm 2, .nm 3]) (.tup [.idx (.var 0) (.cst (.int 0)), .idx (.var 0) (.cst (.int 10))]),
    .asg (.tp [.nm 4, .nm 5]) (.tup [.idx (.var 0) (.cst (.int 11)), .idx (.var 0) (.cst (.int 12))]),
    .asg (.nm 6) (.bi .tuple [.slc (.var 0) (some (.cst (.int 13))) (some (.bin .add (.cst (.int 13)) (.idx (.idx (.var 1) (.cst (.int 0))) (.cst (.int 1)))))]),
    .asg (.nm 7) (.bi .tuple [.slc (.var 0) (some (.cst (.int 13))) (some (.bin .add (.cst (.int 13)) (.idx (.idx (.var 1) (.cst (.int 1))) (.cst (.int 1)))))]),
    .asg (.tp [.nm 8, .nm 9]) (.tup [.idx (.var 0) (.cst (.int 16)), .tup [.tup [.var 3, .var 2], .tup [.var 4, .var 2]]]),
    .asg (.nm 10) (.tup [.cst (.str [99, 97, 108, 108]), .idx (.var 0) (.cst (.int 3)), .tup [.tup [.cst (.str [110, 97, 109, 101]), .var 8], .tup [.cst (.str [110, 97, 109, 101]), .var 4]]]),
    .asg (.nm 11) (.tup [.bin .add (.var 6) (.tup [.var 8]), .call 34 [.idx (.var 1) (.cst (.int 0)), .var 6, .var 10] []]),
    .asg (.nm 12) (.tup [.var 7, .tup [.cst (.str [110, 97, 109, 101]), .var 4]]),
    .asg (.nm 13) (.tup [.idx (.var 0) (.cst (.int 3)), .var 9, .var 2, .tup [.var 11, .var 12]]),
    .asg (.nm 14) (.tup [.cst (.str [99, 97, 108, 108]), .idx (.var 0) (.cst (.int 4)), .tup [.tup [.cst (.str [110, 97, 109, 101]), .var 8], .tup [.cst (.str [111, 112]), .cst (.str [45]), .tup [.cst (.str [110, 97, 109, 101]), .var 5], .tup [.cst (.str [110, 117, 109]), .cst (.int 1)]]]]),
    .asg (.nm 14) (.tup [.cst (.str [105, 102]), .tup [.cst (.str [110, 97, 109, 101]), .var 5], .var 14, .tup [.cst (.str [110, 97, 109, 101]), .var 8]]),
    .asg (.nm 11) (.tup [.bin .add (.var 6) (.tup [.var 8]), .var 14]),
    .asg (.nm 15) (.tup [.var 7, .call 34 [.idx (.var 1) (.cst (.int 1)), .var 7, .cst .non] []]),
    .asg (.nm 16) (.tup [.idx (.var 0) (.cst (.int 4)), .tup [.tup [.var 3, .var 2], .tup [.var 5, .cst (.str [110, 117, 109])]], .var 2, .tup [.var 11, .var 15]]),
    .asg (.nm 17) (.tup [.idx (.var 0) (.cst (.int 5)), .var 9, .var 2, .tup [.tup [.bin .add (.var 6) (.tup [.var 8]), .tup [.cst (.str [110, 97, 109, 101]), .var 4]], .tup [.var 7, .tup [.cst (.str [110, 97, 109, 101]), .var 4]]]]),
    .asg (.nm 18) (.idx (.bin .add (.lc (.tup [.cst (.str [110, 97, 109, 101]), .var 11]) (.nm 11) (.val (.var 6)) [] [11]) (.lst [.tup [.cst (.str [110, 117, 109]), .cst (.int 3)]])) (.cst (.int 0))),
    .asg (.nm 19) (.tup [.cst (.str [105, 102]), .tup [.cst (.str [111, 112]), .cst (.str [60]), .var 18, .tup [.cst (.str [110, 117, 109]), .cst (.int 2)]], .tup [.cst (.str [110, 97, 109, 101]), .var 8], .tup [.cst (.str [110, 97, 109, 101]), .var 4]]),
    .asg (.nm 20) (.tup [.idx (.var 0) (.cst (.int 6)), .var 9, .var 2, .tup [.tup [.bin .add (.var 6) (.tup [.var 8]), .var 19], .tup [.var 7, .tup [.cst (.str [110, 97, 109, 101]), .var 4]]]]),
    .asg (.nm 21) (.tup [.bin .add (.var 6) (.tup [.var 8]), .tup [.cst (.str [99, 97, 108, 108]), .idx (.var 0) (.cst (.int 7)), .tup [.tup [.cst (.str [110, 97, 109, 101]), .var 8]]]]),
    .asg (.nm 22) (.tup [.idx (.var 0) (.cst (.int 7)), .slc (.var 9) none (some (.cst (.int 1))), .var 2, .tup [.var 21, .var 15]]),
    .ret (.tup [.tup [.tup [.var 2, .bi .tuple [.var 1]]], .tup [.var 13, .var 16, .var 17, .var 20, .var 22]])]
/-- _law_long_right -/
def c36 : List C := [.asg (.nm 4) (.lc (.bin .add (.tup [.var 9]) (.bi .tuple [.lc (.call 32 [.var 0] []) (.nm 12) (.rng [.var 10]) [] [12]])) (.tp [.nm 9, .nm 10, .nm 11]) (.val (.var 3)) [] [9, 10, 11]),
    .asg (.nm 5) (.bin .add (.bin .mul (.tup [.idx (.var 4) (.cst (.int 0))]) (.bin .add (.cst (.int 40)) (.call 30 [.var 0, .cst (.int 20)] []))) (.tup [.idx (.var 4) (.cst (.int 1))])),
    .asg (.nm 6) (.bin .sub (.bi .len [.var 5]) (.cst (.int 1))),
    .forr (.nm 7) (.rng [.cst (.int 5)]) [.asg (.tp [.nm 5, .nm 6]) (.tup [.idx (.callk 14 [.var 1, .idx (.var 2) (.cst (.int 3)), .lst [.var 5, .var 5]] [.cst (.int 20000)]) (.cst (.int 0)), .bin .mul (.cst (.int 2)) (.var 6)])],
    .asg (.nm 8) (.make 1 [.var 1, .idx (.var 2) (.cst (.int 7)), .lst [.var 5]] []),
    .ifs (.or (.val (.cmp .ne (.meth 14 (.var 8) []) (.bin .add (.var 6) (.cst (.int 1))))) (.or (.val (.cmp .ne (.meth 8 (.var 8) []) (.idx (.var 4) (.cst (.int 1))))) (.val (.cmp .ne (.meth 5 (.var 8) []) (.bin .add (.var 6) (.cst (.int 1))))))) [.ret (.cst (.bl false))] [],
    .ret (.band (.cmp .isN (.meth 8 (.var 8) []) (.cst .non)) (.cmp .eq (.meth 14 (.var 8) []) (.cst (.int 0))))]
/-- _law_right -/
def c37 : List C := [.asg (.tp [.nm 5, .nm 6]) (.tup [.make 1 [.var 0, .var 1, .var 2] [], .bin .add (.var 4) (.lst [.idx (.var 4) (.neg (.cst (.int 1)))])]),
    .forr (.tp [.nm 7, .nm 8]) (.enm (.var 3)) [.ifs (.or (.val (.cmp .ne (.bi .repr [.meth 8 (.var 5) []]) (.bi .repr [.var 8]))) (.val (.cmp .ne (.meth 5 (.var 5) []) (.idx (.var 6) (.var 7))))) [.ret (.cst (.bl false))] []],
    .ret (.band (.cmp .isN (.meth 8 (.var 5) []) (.cst .non)) (.band (.cmp .eq (.meth 14 (.var 5) []) (.cst (.int 0))) (.cmp .eq (.meth 5 (.var 5) []) (.idx (.var 6) (.neg (.cst (.int 1)))))))]
/-- _law_handed -/
def c38 : List C := [.asg (.nm 5) (.make 1 [.var 0, .var 1, .var 2] []),
    .forr (.nm 6) (.rng [.var 3]) [.expr (.meth 8 (.var 5) [])],
    .forr (.tp [.nm 6, .nm 7]) (.enm (.var 4)) [.asg (.nm 8) (.meth 5 (.var 5) []),
    .ifs (.or (.val (.cmp .ne (.meth 8 (.var 5) []) (.var 7))) (.or (.val (.cmp .ne (.meth 14 (.var 5) []) (.bin .sub (.bin .sub (.bi .len [.var 4]) (.cst (.int 1))) (.var 6)))) (.and (.val (.cmp .gt (.var 6) (.cst (.int 0)))) (.val (.cmp .ne (.meth 5 (.var 5) []) (.var 8)))))) [.ret (.cst (.bl false))] []],
    .ret (.cmp .isN (.meth 8 (.var 5) []) (.cst .non))]
/-- law -/
def c39 : List C := [.asg (.nm 1) (.call 29 [.var 0, .cst (.int 0)] []),
    .asg (.nm 2) (.call 31 [.var 1, .cst (.int 20)] []),
    .asg (.nm 3) (.lst [.tup [.idx (.var 2) (.cst (.int 1)), .call 30 [.var 1, .cst (.int 3)] [], .cst (.bl true)], .tup [.idx (.var 2) (.cst (.int 2)), .call 30 [.var 1, .cst (.int 3)] [], .cst (.bl false)]]),
    .asg (.nm 4) (.call 35 [.var 2, .var 3] []),
    .asg (.tp [.nm 5, .nm 6]) (.tup [.call 33 [.var 1, .var 3, .cst (.int 60)] [], .call 33 [.var 1, .var 3, .cst (.int 60)] []]),
    .asg (.nm 7) (.bi .len [.var 5]),
    .ifs (.not (.val (.call 36 [.var 1, .var 4, .var 2, .var 3] []))) [.ret (.cst (.bl false))] [],
    .asg (.nm 8) (.bin .add (.slc (.var 5) none (some (.neg (.cst (.int 1))))) (.var 6)),
    .asg (.nm 9) (.bin .add (.lc (.bin .add (.var 14) (.cst (.int 1))) (.nm 14) (.rng [.bin .sub (.var 7) (.cst (.int 1))]) [] [14]) (.bin .mul (.lst [.var 7]) (.bi .len [.var 6]))),
    .ifs (.not (.val (.call 37 [.var 4, .idx (.var 2) (.cst (.int 3)), .lst [.var 5, .var 6], .var 8, .var 9] []))) [.ret (.cst (.bl false))] [],
    .ifs (.not (.val (.call 38 [.var 4, .idx (.var 2) (.cst (.int 3)), .tup [.var 5, .var 6], .bin .sub (.var 7) (.cst (.int 1)), .var 6] []))) [.ret (.cst (.bl false))] [],
    .asg (.nm 10) (.call 30 [.var 1, .cst (.int 3)] []),
    .asg (.tp [.nm 11, .nm 12]) (.tup [.slc (.var 5) (some (.bin .add (.var 10) (.cst (.int 1)))) none, .bin .add (.var 10) (.cst (.int 1))]),
    .ifs (.val (.cmp .le (.var 7) (.bin .add (.var 10) (.cst (.int 1))))) [.asg (.tp [.nm 11, .nm 12]) (.tup [.slc (.var 5) (some (.neg (.cst (.int 1)))) none, .var 7])] [],
    .ifs (.not (.val (.call 37 [.var 4, .idx (.var 2) (.cst (.int 4)), .lst [.var 5, .var 10], .var 11, .bin .mul (.lst [.var 12]) (.bi .len [.var 11])] []))) [.ret (.cst (.bl false))] [],
    .ifs (.not (.val (.call 37 [.var 4, .idx (.var 2) (.cst (.int 5)), .lst [.var 5, .var 6], .var 6, .bin .mul (.lst [.cst (.int 1)]) (.bi .len [.var 6])] []))) [.ret (.cst (.bl false))] [],
    .asg (.nm 13) (.var 6),
    .ifs (.and (.val (.cmp .gt (.var 7) (.cst (.int 1)))) (.val (.cmp .lt (.idx (.bin .add (.bi .list [.slc (.idx (.var 5) (.cst (.int 0))) (some (.cst (.int 1))) none]) (.lst [.cst (.int 3)])) (.cst (.int 0))) (.cst (.int 2))))) [.asg (.nm 13) (.slc (.var 5) (some (.cst (.int 1))) none)] [],
    .ret (.call 37 [.var 4, .idx (.var 2) (.cst (.int 6)), .lst [.var 5, .var 6], .var 13, .bin .mul (.lst [.cst (.int 1)]) (.bi .len [.var 13])] [])]
def fnL : List Fn := [⟨3, 3, c0⟩,
  ⟨2, 8, c1⟩,
  ⟨1, 3, c2⟩,
  ⟨1, 3, c3⟩,
  ⟨1, 1, c4⟩,
  ⟨4, 6, c5⟩,
  ⟨1, 5, c6⟩,
  ⟨3, 20, c7⟩,
  ⟨2, 5, c8⟩,
  ⟨3, 6, c9⟩,
  ⟨4, 6, c10⟩,
  ⟨1, 1, c11⟩,
  ⟨1, 1, c12⟩,
  ⟨1, 1, c13⟩,
  ⟨4, 5, c14⟩,
  ⟨1, 2, c15⟩,
  ⟨1, 6, c16⟩,
  ⟨1, 3, c17⟩,
  ⟨1, 2, c18⟩,
  ⟨4, 6, c19⟩,
  ⟨1, 8, c20⟩,
  ⟨3, 16, c21⟩,
  ⟨3, 3, c22⟩,
  ⟨3, 4, c23⟩,
  ⟨3, 5, c24⟩,
  ⟨3, 4, c25⟩,
  ⟨3, 5, c26⟩,
  ⟨1, 1, c27⟩,
  ⟨1, 9, c28⟩,
  ⟨2, 5, c29⟩,
  ⟨2, 5, c30⟩,
  ⟨2, 9, c31⟩,
  ⟨1, 1, c32⟩,
  ⟨3, 8, c33⟩,
  ⟨3, 4, c34⟩,
  ⟨2, 23, c35⟩,
  ⟨4, 13, c36⟩,
  ⟨5, 9, c37⟩,
  ⟨5, 9, c38⟩,
  ⟨1, 15, c39⟩]
def mtL : List ((Nat × Nat) × Nat) := [((0, 0), 6), ((0, 1), 7), ((0, 2), 8), ((0, 3), 9), ((0, 4), 10), ((0, 5), 11), ((0, 6), 12), ((0, 7), 13), ((1, 8), 20), ((1, 1), 21), ((1, 9), 22), ((1, 10), 23), ((1, 11), 24), ((1, 12), 25), ((1, 13), 26), ((1, 5), 27), ((1, 14), 28)]
def iniL : List (Nat × Nat) := [(0, 5), (1, 19)]
def TT : Tbl := ⟨fun i => fnL[i]?, fun C m => mtL.lookup (C, m), fun c => iniL.lookup c⟩
/-- the attributes: 0 shapes 1 functions 2 eats 3 makes 4 piled 5 tasks 6 rules 7 waits; the methods: 0 turn 1 eat 2 go_on 3 begin 4 make 5 eaten 6 made 7 outcome 8 bead 9 behind 10 with_name 11 arguments 12 number 13 counted 14 left -/
def nms : List (List Nat) := [[115, 104, 97, 112, 101, 115], [102, 117, 110, 99, 116, 105, 111, 110, 115], [101, 97, 116, 115], [109, 97, 107, 101, 115], [112, 105, 108, 101, 100], [116, 97, 115, 107, 115], [114, 117, 108, 101, 115], [119, 97, 105, 116, 115]]
end K69
set_option Elab.async false
set_option linter.all false
set_option maxRecDepth 100000
set_option maxHeartbeats 8000000
/-! the readings; printed by gen.py -/
namespace K69
open PySem PySem.Spec PyProof.Rows L2 NM He

def NN (K : PySem.W.Frag) : Nam := ⟨fun C => (if C = 0 then ga K "Run" else (ga K "Feed")), fun f => sS ((nms[f]?).getD [0, f]), nam_inj (by decide)⟩
noncomputable abbrev GG (k : Nat) : Gam := gam TT (phi TT (k + 1)) (phi TT k)
theorem bt_len : bootBuiltins "len" = some (.builtin "len") := by decide +kernel
theorem bt_int : bootBuiltins "int" = some (.type "int") := by decide +kernel
theorem bt_max : bootBuiltins "max" = some (.builtin "max") := by decide +kernel
theorem bt_min : bootBuiltins "min" = some (.builtin "min") := by decide +kernel
theorem bt_sum : bootBuiltins "sum" = some (.builtin "sum") := by decide +kernel
theorem bt_tuple : bootBuiltins "tuple" = some (.type "tuple") := by decide +kernel
theorem bt_list : bootBuiltins "list" = some (.type "list") := by decide +kernel
theorem bt_dict : bootBuiltins "dict" = some (.type "dict") := by decide +kernel
theorem bt_repr : bootBuiltins "repr" = some (.builtin "repr") := by decide +kernel
structure Tx (K : PySem.W.Frag) (mg : Str → Option Value) (fd : Nat → FuncData) : Prop where
  g_Feed : mg "Feed" = some (.ref (ga K "Feed"))
  g_Run : mg "Run" = some (.ref (ga K "Run"))
  g__law_deal : mg "_law_deal" = some (.ref (ga K "_law_deal"))
  k__law_deal : PySem.W.keepIn K (.ref (ga K "_law_deal")) = true
  g__law_draw : mg "_law_draw" = some (.ref (ga K "_law_draw"))
  k__law_draw : PySem.W.keepIn K (.ref (ga K "_law_draw")) = true
  g__law_figure : mg "_law_figure" = some (.ref (ga K "_law_figure"))
  k__law_figure : PySem.W.keepIn K (.ref (ga K "_law_figure")) = true
  g__law_handed : mg "_law_handed" = some (.ref (ga K "_law_handed"))
  k__law_handed : PySem.W.keepIn K (.ref (ga K "_law_handed")) = true
  g__law_long : mg "_law_long" = some (.ref (ga K "_law_long"))
  k__law_long : PySem.W.keepIn K (.ref (ga K "_law_long")) = true
  g__law_long_right : mg "_law_long_right" = some (.ref (ga K "_law_long_right"))
  k__law_long_right : PySem.W.keepIn K (.ref (ga K "_law_long_right")) = true
  g__law_made : mg "_law_made" = some (.ref (ga K "_law_made"))
  k__law_made : PySem.W.keepIn K (.ref (ga K "_law_made")) = true
  g__law_program : mg "_law_program" = some (.ref (ga K "_law_program"))
  k__law_program : PySem.W.keepIn K (.ref (ga K "_law_program")) = true
  g__law_right : mg "_law_right" = some (.ref (ga K "_law_right"))
  k__law_right : PySem.W.keepIn K (.ref (ga K "_law_right")) = true
  g__law_words : mg "_law_words" = some (.ref (ga K "_law_words"))
  k__law_words : PySem.W.keepIn K (.ref (ga K "_law_words")) = true
  g_bead_of : mg "bead_of" = some (.ref (ga K "bead_of"))
  k_bead_of : PySem.W.keepIn K (.ref (ga K "bead_of")) = true
  g_long_of : mg "long_of" = some (.ref (ga K "long_of"))
  k_long_of : PySem.W.keepIn K (.ref (ga K "long_of")) = true
  g_parts : mg "parts" = some (.ref (ga K "parts"))
  k_parts : PySem.W.keepIn K (.ref (ga K "parts")) = true
  g_parts_at_levels : mg "parts_at_levels" = some (.ref (ga K "parts_at_levels"))
  k_parts_at_levels : PySem.W.keepIn K (.ref (ga K "parts_at_levels")) = true
  g_ran : mg "ran" = some (.ref (ga K "ran"))
  k_ran : PySem.W.keepIn K (.ref (ga K "ran")) = true
  g_reckoned : mg "reckoned" = some (.ref (ga K "reckoned"))
  k_reckoned : PySem.W.keepIn K (.ref (ga K "reckoned")) = true
  g_strung : mg "strung" = some (.ref (ga K "strung"))
  k_strung : PySem.W.keepIn K (.ref (ga K "strung")) = true
  g_terms_right_in : mg "terms_right_in" = some (.ref (ga K "terms_right_in"))
  k_terms_right_in : PySem.W.keepIn K (.ref (ga K "terms_right_in")) = true
  g_unstrung : mg "unstrung" = some (.ref (ga K "unstrung"))
  k_unstrung : PySem.W.keepIn K (.ref (ga K "unstrung")) = true
  g_worn : mg "worn" = some (.ref (ga K "worn"))
  k_worn : PySem.W.keepIn K (.ref (ga K "worn")) = true
  i_WIDE : ∃ t, mg "WIDE" = some (.int 1000000000 t)
  n_dict : mg "dict" = none
  n_enumerate : mg "enumerate" = none
  n_int : mg "int" = none
  n_isinstance : mg "isinstance" = none
  n_len : mg "len" = none
  n_list : mg "list" = none
  n_max : mg "max" = none
  n_range : mg "range" = none
  n_repr : mg "repr" = none
  n_reversed : mg "reversed" = none
  n_sum : mg "sum" = none
  n_tuple : mg "tuple" = none
  n_zip : mg "zip" = none
  cl_Run : Cls K (ga K "Run")
  mk_Run : Mk K (ga K "Run") (ma K (ga K "Run") "__init__")
  cl_Feed : Cls K (ga K "Feed")
  mk_Feed : Mk K (ga K "Feed") (ma K (ga K "Feed") "__init__")
  a_shapes : ∀ C, Cls K ((NN K).cls C) ∧ NoAttr K ((NN K).cls C) "shapes"
  a_functions : ∀ C, Cls K ((NN K).cls C) ∧ NoAttr K ((NN K).cls C) "functions"
  a_eats : ∀ C, Cls K ((NN K).cls C) ∧ NoAttr K ((NN K).cls C) "eats"
  a_makes : ∀ C, Cls K ((NN K).cls C) ∧ NoAttr K ((NN K).cls C) "makes"
  a_piled : ∀ C, Cls K ((NN K).cls C) ∧ NoAttr K ((NN K).cls C) "piled"
  a_tasks : ∀ C, Cls K ((NN K).cls C) ∧ NoAttr K ((NN K).cls C) "tasks"
  a_rules : ∀ C, Cls K ((NN K).cls C) ∧ NoAttr K ((NN K).cls C) "rules"
  a_waits : ∀ C, Cls K ((NN K).cls C) ∧ NoAttr K ((NN K).cls C) "waits"
  F0 : FunD K "reckoned" "reckoned" (defArgs s0) (defBody s0) (defScope s0) [] [] (ga K "reckoned") (fd 0)
  b0 : Binds K (fd 0) ["s", "a", "b"] []
  F1 : FunD K "bead_of" "bead_of" (defArgs s1) (defBody s1) (defScope s1) [] [] (ga K "bead_of") (fd 1)
  b1 : Binds K (fd 1) ["shapes", "name"] []
  F2 : FunD K "strung" "strung" (defArgs s2) (defBody s2) (defScope s2) [] [] (ga K "strung") (fd 2)
  b2 : Binds K (fd 2) ["row"] []
  F3 : FunD K "unstrung" "unstrung" (defArgs s3) (defBody s3) (defScope s3) [] [] (ga K "unstrung") (fd 3)
  b3 : Binds K (fd 3) ["string"] []
  F4 : FunD K "worn" "worn" (defArgs s4) (defBody s4) (defScope s4) [] [] (ga K "worn") (fd 4)
  b4 : Binds K (fd 4) ["thing"] []
  F5 : FunD K "__init__" "Run.__init__" (defArgs s5) (defBody s5) (defScope s5) [] [] (ma K (ga K "Run") "__init__") (fd 5)
  b5 : Binds K (fd 5) ["self", "program", "f", "args"] []
  F6 : FunD K "turn" "Run.turn" (defArgs s6) (defBody s6) (defScope s6) [] [] (ma K (ga K "Run") "turn") (fd 6)
  b6 : Binds K (fd 6) ["self"] []
  m6 : Meth K (ga K "Run") "turn" (ma K (ga K "Run") "turn")
  F7 : FunD K "eat" "Run.eat" (defArgs s7) (defBody s7) (defScope s7) [] [] (ma K (ga K "Run") "eat") (fd 7)
  b7 : Binds K (fd 7) ["self", "f", "args"] []
  m7 : Meth K (ga K "Run") "eat" (ma K (ga K "Run") "eat")
  F8 : FunD K "go_on" "Run.go_on" (defArgs s8) (defBody s8) (defScope s8) [] [] (ma K (ga K "Run") "go_on") (fd 8)
  b8 : Binds K (fd 8) ["self", "task"] []
  m8 : Meth K (ga K "Run") "go_on" (ma K (ga K "Run") "go_on")
  F9 : FunD K "begin" "Run.begin" (defArgs s9) (defBody s9) (defScope s9) [] [] (ma K (ga K "Run") "begin") (fd 9)
  b9 : Binds K (fd 9) ["self", "term", "known"] []
  m9 : Meth K (ga K "Run") "begin" (ma K (ga K "Run") "begin")
  F10 : FunD K "make" "Run.make" (defArgs s10) (defBody s10) (defScope s10) [] [] (ma K (ga K "Run") "make") (fd 10)
  b10 : Binds K (fd 10) ["self", "bead", "many", "is_open"] []
  m10 : Meth K (ga K "Run") "make" (ma K (ga K "Run") "make")
  F11 : FunD K "eaten" "Run.eaten" (defArgs s11) (defBody s11) (defScope s11) [] [] (ma K (ga K "Run") "eaten") (fd 11)
  b11 : Binds K (fd 11) ["self"] []
  m11 : Meth K (ga K "Run") "eaten" (ma K (ga K "Run") "eaten")
  F12 : FunD K "made" "Run.made" (defArgs s12) (defBody s12) (defScope s12) [] [] (ma K (ga K "Run") "made") (fd 12)
  b12 : Binds K (fd 12) ["self"] []
  m12 : Meth K (ga K "Run") "made" (ma K (ga K "Run") "made")
  F13 : FunD K "outcome" "Run.outcome" (defArgs s13) (defBody s13) (defScope s13) [] [] (ma K (ga K "Run") "outcome") (fd 13)
  b13 : Binds K (fd 13) ["self"] []
  m13 : Meth K (ga K "Run") "outcome" (ma K (ga K "Run") "outcome")
  F14 : FunD K "ran" "ran" (defArgs s14) (defBody s14) (defScope s14) [] [("most", V.int 5000)] (ga K "ran") (fd 14)
  kb14 : KBn K (fd 14) ["program", "f", "args", "most"] 3 ["most"] (fun a b => a ++ b) (fun a b => a ++ b)
  F15 : FunD K "terms_right_in" "terms_right_in" (defArgs s15) (defBody s15) (defScope s15) [] [] (ga K "terms_right_in") (fd 15)
  b15 : Binds K (fd 15) ["term"] []
  F16 : FunD K "parts_at_levels" "parts_at_levels" (defArgs s16) (defBody s16) (defScope s16) [] [] (ga K "parts_at_levels") (fd 16)
  b16 : Binds K (fd 16) ["term"] []
  F17 : FunD K "parts" "parts" (defArgs s17) (defBody s17) (defScope s17) [] [] (ga K "parts") (fd 17)
  b17 : Binds K (fd 17) ["term"] []
  F18 : FunD K "long_of" "long_of" (defArgs s18) (defBody s18) (defScope s18) [] [] (ga K "long_of") (fd 18)
  b18 : Binds K (fd 18) ["string"] []
  F19 : FunD K "__init__" "Feed.__init__" (defArgs s19) (defBody s19) (defScope s19) [] [] (ma K (ga K "Feed") "__init__") (fd 19)
  b19 : Binds K (fd 19) ["self", "program", "f", "args"] []
  F20 : FunD K "bead" "Feed.bead" (defArgs s20) (defBody s20) (defScope s20) [] [] (ma K (ga K "Feed") "bead") (fd 20)
  b20 : Binds K (fd 20) ["self"] []
  m20 : Meth K (ga K "Feed") "bead" (ma K (ga K "Feed") "bead")
  F21 : FunD K "eat" "Feed.eat" (defArgs s21) (defBody s21) (defScope s21) [] [] (ma K (ga K "Feed") "eat") (fd 21)
  b21 : Binds K (fd 21) ["self", "f", "args"] []
  m21 : Meth K (ga K "Feed") "eat" (ma K (ga K "Feed") "eat")
  F22 : FunD K "behind" "Feed.behind" (defArgs s22) (defBody s22) (defScope s22) [] [] (ma K (ga K "Feed") "behind") (fd 22)
  b22 : Binds K (fd 22) ["self", "term", "known"] []
  m22 : Meth K (ga K "Feed") "behind" (ma K (ga K "Feed") "behind")
  F23 : FunD K "with_name" "Feed.with_name" (defArgs s23) (defBody s23) (defScope s23) [] [] (ma K (ga K "Feed") "with_name") (fd 23)
  b23 : Binds K (fd 23) ["self", "term", "known"] []
  m23 : Meth K (ga K "Feed") "with_name" (ma K (ga K "Feed") "with_name")
  F24 : FunD K "arguments" "Feed.arguments" (defArgs s24) (defBody s24) (defScope s24) [] [] (ma K (ga K "Feed") "arguments") (fd 24)
  b24 : Binds K (fd 24) ["self", "terms", "known"] []
  m24 : Meth K (ga K "Feed") "arguments" (ma K (ga K "Feed") "arguments")
  F25 : FunD K "number" "Feed.number" (defArgs s25) (defBody s25) (defScope s25) [] [] (ma K (ga K "Feed") "number") (fd 25)
  b25 : Binds K (fd 25) ["self", "term", "known"] []
  m25 : Meth K (ga K "Feed") "number" (ma K (ga K "Feed") "number")
  F26 : FunD K "counted" "Feed.counted" (defArgs s26) (defBody s26) (defScope s26) [] [] (ma K (ga K "Feed") "counted") (fd 26)
  b26 : Binds K (fd 26) ["self", "f", "given"] []
  m26 : Meth K (ga K "Feed") "counted" (ma K (ga K "Feed") "counted")
  F27 : FunD K "eaten" "Feed.eaten" (defArgs s27) (defBody s27) (defScope s27) [] [] (ma K (ga K "Feed") "eaten") (fd 27)
  b27 : Binds K (fd 27) ["self"] []
  m27 : Meth K (ga K "Feed") "eaten" (ma K (ga K "Feed") "eaten")
  F28 : FunD K "left" "Feed.left" (defArgs s28) (defBody s28) (defScope s28) [] [] (ma K (ga K "Feed") "left") (fd 28)
  b28 : Binds K (fd 28) ["self"] []
  m28 : Meth K (ga K "Feed") "left" (ma K (ga K "Feed") "left")
  F29 : FunD K "_law_deal" "_law_deal" (defArgs s29) (defBody s29) (defScope s29) [] [] (ga K "_law_deal") (fd 29)
  b29 : Binds K (fd 29) ["_law_script", "_law_base"] []
  F30 : FunD K "_law_draw" "_law_draw" (defArgs s30) (defBody s30) (defScope s30) [] [] (ga K "_law_draw") (fd 30)
  b30 : Binds K (fd 30) ["_law_deal_here", "_law_many"] []
  F31 : FunD K "_law_words" "_law_words" (defArgs s31) (defBody s31) (defScope s31) [] [] (ga K "_law_words") (fd 31)
  b31 : Binds K (fd 31) ["_law_deal_here", "_law_many"] []
  F32 : FunD K "_law_figure" "_law_figure" (defArgs s32) (defBody s32) (defScope s32) [] [] (ga K "_law_figure") (fd 32)
  b32 : Binds K (fd 32) ["_law_deal_here"] []
  F33 : FunD K "_law_long" "_law_long" (defArgs s33) (defBody s33) (defScope s33) [] [] (ga K "_law_long") (fd 33)
  b33 : Binds K (fd 33) ["_law_deal_here", "_law_beads", "_law_room"] []
  F34 : FunD K "_law_made" "_law_made" (defArgs s34) (defBody s34) (defScope s34) [] [] (ga K "_law_made") (fd 34)
  b34 : Binds K (fd 34) ["_law_bead", "_law_names", "_law_rest"] []
  F35 : FunD K "_law_program" "_law_program" (defArgs s35) (defBody s35) (defScope s35) [] [] (ga K "_law_program") (fd 35)
  b35 : Binds K (fd 35) ["_law_words_here", "_law_beads"] []
  F36 : FunD K "_law_long_right" "_law_long_right" (defArgs s36) (defBody s36) (defScope s36) [] [] (ga K "_law_long_right") (fd 36)
  b36 : Binds K (fd 36) ["_law_deal_here", "_law_program_here", "_law_words_here", "_law_beads"] []
  F37 : FunD K "_law_right" "_law_right" (defArgs s37) (defBody s37) (defScope s37) [] [] (ga K "_law_right") (fd 37)
  b37 : Binds K (fd 37) ["_law_program_here", "_law_f", "_law_things", "_law_due", "_law_eaten"] []
  F38 : FunD K "_law_handed" "_law_handed" (defArgs s38) (defBody s38) (defScope s38) [] [] (ga K "_law_handed") (fd 38)
  b38 : Binds K (fd 38) ["_law_program_here", "_law_f", "_law_things", "_law_ahead", "_law_row"] []
  F39 : FunD K "law" "law" (defArgs s39) (defBody s39) (defScope s39) [] [] (ga K "law") (fd 39)
  b39 : Binds K (fd 39) ["_law_script"] []
structure Lv (P : Program) (w : World) (K : PySem.W.Frag) (mg : Str → Option Value) (base : Heap) (fd : Nat → FuncData) (k : Nat) : Prop where
  f0 : FnOk P w K mg base CX0 k (ga K "reckoned") (fd 0) ["s", "a", "b"] (spD (NN K) K 3 (phi TT k 0))
  f1 : FnOk P w K mg base CX0 k (ga K "bead_of") (fd 1) ["shapes", "name"] (spD (NN K) K 2 (phi TT k 1))
  f2 : FnOk P w K mg base CX0 k (ga K "strung") (fd 2) ["row"] (spD (NN K) K 1 (phi TT k 2))
  f3 : FnOk P w K mg base CX0 k (ga K "unstrung") (fd 3) ["string"] (spD (NN K) K 1 (phi TT k 3))
  f4 : FnOk P w K mg base CX0 k (ga K "worn") (fd 4) ["thing"] (spD (NN K) K 1 (phi TT k 4))
  f5 : FnOk P w K mg base CX0 k (ma K (ga K "Run") "__init__") (fd 5) ["self", "program", "f", "args"] (spD (NN K) K 4 (phi TT k 5))
  f6 : FnOk P w K mg base CX0 k (ma K (ga K "Run") "turn") (fd 6) ["self"] (spD (NN K) K 1 (phi TT k 6))
  f7 : FnOk P w K mg base CX0 k (ma K (ga K "Run") "eat") (fd 7) ["self", "f", "args"] (spD (NN K) K 3 (phi TT k 7))
  f8 : FnOk P w K mg base CX0 k (ma K (ga K "Run") "go_on") (fd 8) ["self", "task"] (spD (NN K) K 2 (phi TT k 8))
  f9 : FnOk P w K mg base CX0 k (ma K (ga K "Run") "begin") (fd 9) ["self", "term", "known"] (spD (NN K) K 3 (phi TT k 9))
  f10 : FnOk P w K mg base CX0 k (ma K (ga K "Run") "make") (fd 10) ["self", "bead", "many", "is_open"] (spD (NN K) K 4 (phi TT k 10))
  f11 : FnOk P w K mg base CX0 k (ma K (ga K "Run") "eaten") (fd 11) ["self"] (spD (NN K) K 1 (phi TT k 11))
  f12 : FnOk P w K mg base CX0 k (ma K (ga K "Run") "made") (fd 12) ["self"] (spD (NN K) K 1 (phi TT k 12))
  f13 : FnOk P w K mg base CX0 k (ma K (ga K "Run") "outcome") (fd 13) ["self"] (spD (NN K) K 1 (phi TT k 13))
  f14 : FnOk P w K mg base CX0 k (ga K "ran") (fd 14) ["program", "f", "args", "most"] (spD (NN K) K 4 (phi TT k 14))
  f15 : FnOk P w K mg base CX0 k (ga K "terms_right_in") (fd 15) ["term"] (spD (NN K) K 1 (phi TT k 15))
  f16 : FnOk P w K mg base CX0 k (ga K "parts_at_levels") (fd 16) ["term"] (spD (NN K) K 1 (phi TT k 16))
  f17 : FnOk P w K mg base CX0 k (ga K "parts") (fd 17) ["term"] (spD (NN K) K 1 (phi TT k 17))
  f18 : FnOk P w K mg base CX0 k (ga K "long_of") (fd 18) ["string"] (spD (NN K) K 1 (phi TT k 18))
  f19 : FnOk P w K mg base CX0 k (ma K (ga K "Feed") "__init__") (fd 19) ["self", "program", "f", "args"] (spD (NN K) K 4 (phi TT k 19))
  f20 : FnOk P w K mg base CX0 k (ma K (ga K "Feed") "bead") (fd 20) ["self"] (spD (NN K) K 1 (phi TT k 20))
  f21 : FnOk P w K mg base CX0 k (ma K (ga K "Feed") "eat") (fd 21) ["self", "f", "args"] (spD (NN K) K 3 (phi TT k 21))
  f22 : FnOk P w K mg base CX0 k (ma K (ga K "Feed") "behind") (fd 22) ["self", "term", "known"] (spD (NN K) K 3 (phi TT k 22))
  f23 : FnOk P w K mg base CX0 k (ma K (ga K "Feed") "with_name") (fd 23) ["self", "term", "known"] (spD (NN K) K 3 (phi TT k 23))
  f24 : FnOk P w K mg base CX0 k (ma K (ga K "Feed") "arguments") (fd 24) ["self", "terms", "known"] (spD (NN K) K 3 (phi TT k 24))
  f25 : FnOk P w K mg base CX0 k (ma K (ga K "Feed") "number") (fd 25) ["self", "term", "known"] (spD (NN K) K 3 (phi TT k 25))
  f26 : FnOk P w K mg base CX0 k (ma K (ga K "Feed") "counted") (fd 26) ["self", "f", "given"] (spD (NN K) K 3 (phi TT k 26))
  f27 : FnOk P w K mg base CX0 k (ma K (ga K "Feed") "eaten") (fd 27) ["self"] (spD (NN K) K 1 (phi TT k 27))
  f28 : FnOk P w K mg base CX0 k (ma K (ga K "Feed") "left") (fd 28) ["self"] (spD (NN K) K 1 (phi TT k 28))
  f29 : FnOk P w K mg base CX0 k (ga K "_law_deal") (fd 29) ["_law_script", "_law_base"] (spD (NN K) K 2 (phi TT k 29))
  f30 : FnOk P w K mg base CX0 k (ga K "_law_draw") (fd 30) ["_law_deal_here", "_law_many"] (spD (NN K) K 2 (phi TT k 30))
  f31 : FnOk P w K mg base CX0 k (ga K "_law_words") (fd 31) ["_law_deal_here", "_law_many"] (spD (NN K) K 2 (phi TT k 31))
  f32 : FnOk P w K mg base CX0 k (ga K "_law_figure") (fd 32) ["_law_deal_here"] (spD (NN K) K 1 (phi TT k 32))
  f33 : FnOk P w K mg base CX0 k (ga K "_law_long") (fd 33) ["_law_deal_here", "_law_beads", "_law_room"] (spD (NN K) K 3 (phi TT k 33))
  f34 : FnOk P w K mg base CX0 k (ga K "_law_made") (fd 34) ["_law_bead", "_law_names", "_law_rest"] (spD (NN K) K 3 (phi TT k 34))
  f35 : FnOk P w K mg base CX0 k (ga K "_law_program") (fd 35) ["_law_words_here", "_law_beads"] (spD (NN K) K 2 (phi TT k 35))
  f36 : FnOk P w K mg base CX0 k (ga K "_law_long_right") (fd 36) ["_law_deal_here", "_law_program_here", "_law_words_here", "_law_beads"] (spD (NN K) K 4 (phi TT k 36))
  f38 : FnOk P w K mg base CX0 k (ga K "_law_handed") (fd 38) ["_law_program_here", "_law_f", "_law_things", "_law_ahead", "_law_row"] (spD (NN K) K 5 (phi TT k 38))
section
variable {P : Program} {w : World} {K : PySem.W.Frag} {mg : Str → Option Value} {base : Heap} {fd : Nat → FuncData} {k : Nat}
theorem xp {X : Cx} {E : XK} : Passes CX0 X E := fun _ _ _ _ _ _ _ h => h.elim
theorem no0 (p q : Nat → List AV → Hh → Res AV) : ∀ C, C ∉ [0] → ∀ vs S v S', (gam TT p q).mt C 0 vs S ≠ .ok v S' := gam_no (mt_none (by decide))
theorem ne0 (K : PySem.W.Frag) : ∀ f, (NN K).fn f ≠ "turn" := fn_ne (l := [116, 117, 114, 110]) rfl (by decide)
theorem mt0 (T : Tx K mg fd) (L : Lv P w K mg base fd (k + 1)) : ∀ C, C ∈ [0] → ∃ (fa : Addr) (fd : FuncData) (ps : List Str), Cls K ((NN K).cls C) ∧ Meth K ((NN K).cls C) "turn" fa ∧ FnOk P w K mg base CX0 (k + 1) fa fd ps (spD (NN K) K 1 ((GG k).mt C 0)) ∧ Binds K fd ps [] := by
  intro C hC
  simp only [List.mem_cons, List.not_mem_nil, or_false] at hC
  rcases hC with rfl
  · exact ⟨_, _, _, T.cl_Run, T.m6, L.f6, T.b6⟩
theorem no1 (p q : Nat → List AV → Hh → Res AV) : ∀ C, C ∉ [0, 1] → ∀ vs S v S', (gam TT p q).mt C 1 vs S ≠ .ok v S' := gam_no (mt_none (by decide))
theorem ne1 (K : PySem.W.Frag) : ∀ f, (NN K).fn f ≠ "eat" := fn_ne (l := [101, 97, 116]) rfl (by decide)
theorem mt1 (T : Tx K mg fd) (L : Lv P w K mg base fd (k + 1)) : ∀ C, C ∈ [0, 1] → ∃ (fa : Addr) (fd : FuncData) (ps : List Str), Cls K ((NN K).cls C) ∧ Meth K ((NN K).cls C) "eat" fa ∧ FnOk P w K mg base CX0 (k + 1) fa fd ps (spD (NN K) K 3 ((GG k).mt C 1)) ∧ Binds K fd ps [] := by
  intro C hC
  simp only [List.mem_cons, List.not_mem_nil, or_false] at hC
  rcases hC with rfl | rfl
  · exact ⟨_, _, _, T.cl_Run, T.m7, L.f7, T.b7⟩
  · exact ⟨_, _, _, T.cl_Feed, T.m21, L.f21, T.b21⟩
theorem no2 (p q : Nat → List AV → Hh → Res AV) : ∀ C, C ∉ [0] → ∀ vs S v S', (gam TT p q).mt C 2 vs S ≠ .ok v S' := gam_no (mt_none (by decide))
theorem ne2 (K : PySem.W.Frag) : ∀ f, (NN K).fn f ≠ "go_on" := fn_ne (l := [103, 111, 95, 111, 110]) rfl (by decide)
theorem mt2 (T : Tx K mg fd) (L : Lv P w K mg base fd (k + 1)) : ∀ C, C ∈ [0] → ∃ (fa : Addr) (fd : FuncData) (ps : List Str), Cls K ((NN K).cls C) ∧ Meth K ((NN K).cls C) "go_on" fa ∧ FnOk P w K mg base CX0 (k + 1) fa fd ps (spD (NN K) K 2 ((GG k).mt C 2)) ∧ Binds K fd ps [] := by
  intro C hC
  simp only [List.mem_cons, List.not_mem_nil, or_false] at hC
  rcases hC with rfl
  · exact ⟨_, _, _, T.cl_Run, T.m8, L.f8, T.b8⟩
theorem no3 (p q : Nat → List AV → Hh → Res AV) : ∀ C, C ∉ [0] → ∀ vs S v S', (gam TT p q).mt C 3 vs S ≠ .ok v S' := gam_no (mt_none (by decide))
theorem ne3 (K : PySem.W.Frag) : ∀ f, (NN K).fn f ≠ "begin" := fn_ne (l := [98, 101, 103, 105, 110]) rfl (by decide)
theorem mt3 (T : Tx K mg fd) (L : Lv P w K mg base fd (k + 1)) : ∀ C, C ∈ [0] → ∃ (fa : Addr) (fd : FuncData) (ps : List Str), Cls K ((NN K).cls C) ∧ Meth K ((NN K).cls C) "begin" fa ∧ FnOk P w K mg base CX0 (k + 1) fa fd ps (spD (NN K) K 3 ((GG k).mt C 3)) ∧ Binds K fd ps [] := by
  intro C hC
  simp only [List.mem_cons, List.not_mem_nil, or_false] at hC
  rcases hC with rfl
  · exact ⟨_, _, _, T.cl_Run, T.m9, L.f9, T.b9⟩
theorem no4 (p q : Nat → List AV → Hh → Res AV) : ∀ C, C ∉ [0] → ∀ vs S v S', (gam TT p q).mt C 4 vs S ≠ .ok v S' := gam_no (mt_none (by decide))
theorem ne4 (K : PySem.W.Frag) : ∀ f, (NN K).fn f ≠ "make" := fn_ne (l := [109, 97, 107, 101]) rfl (by decide)
theorem mt4 (T : Tx K mg fd) (L : Lv P w K mg base fd (k + 1)) : ∀ C, C ∈ [0] → ∃ (fa : Addr) (fd : FuncData) (ps : List Str), Cls K ((NN K).cls C) ∧ Meth K ((NN K).cls C) "make" fa ∧ FnOk P w K mg base CX0 (k + 1) fa fd ps (spD (NN K) K 4 ((GG k).mt C 4)) ∧ Binds K fd ps [] := by
  intro C hC
  simp only [List.mem_cons, List.not_mem_nil, or_false] at hC
  rcases hC with rfl
  · exact ⟨_, _, _, T.cl_Run, T.m10, L.f10, T.b10⟩
theorem no5 (p q : Nat → List AV → Hh → Res AV) : ∀ C, C ∉ [0, 1] → ∀ vs S v S', (gam TT p q).mt C 5 vs S ≠ .ok v S' := gam_no (mt_none (by decide))
theorem ne5 (K : PySem.W.Frag) : ∀ f, (NN K).fn f ≠ "eaten" := fn_ne (l := [101, 97, 116, 101, 110]) rfl (by decide)
theorem mt5 (T : Tx K mg fd) (L : Lv P w K mg base fd (k + 1)) : ∀ C, C ∈ [0, 1] → ∃ (fa : Addr) (fd : FuncData) (ps : List Str), Cls K ((NN K).cls C) ∧ Meth K ((NN K).cls C) "eaten" fa ∧ FnOk P w K mg base CX0 (k + 1) fa fd ps (spD (NN K) K 1 ((GG k).mt C 5)) ∧ Binds K fd ps [] := by
  intro C hC
  simp only [List.mem_cons, List.not_mem_nil, or_false] at hC
  rcases hC with rfl | rfl
  · exact ⟨_, _, _, T.cl_Run, T.m11, L.f11, T.b11⟩
  · exact ⟨_, _, _, T.cl_Feed, T.m27, L.f27, T.b27⟩
theorem no6 (p q : Nat → List AV → Hh → Res AV) : ∀ C, C ∉ [0] → ∀ vs S v S', (gam TT p q).mt C 6 vs S ≠ .ok v S' := gam_no (mt_none (by decide))
theorem ne6 (K : PySem.W.Frag) : ∀ f, (NN K).fn f ≠ "made" := fn_ne (l := [109, 97, 100, 101]) rfl (by decide)
theorem mt6 (T : Tx K mg fd) (L : Lv P w K mg base fd (k + 1)) : ∀ C, C ∈ [0] → ∃ (fa : Addr) (fd : FuncData) (ps : List Str), Cls K ((NN K).cls C) ∧ Meth K ((NN K).cls C) "made" fa ∧ FnOk P w K mg base CX0 (k + 1) fa fd ps (spD (NN K) K 1 ((GG k).mt C 6)) ∧ Binds K fd ps [] := by
  intro C hC
  simp only [List.mem_cons, List.not_mem_nil, or_false] at hC
  rcases hC with rfl
  · exact ⟨_, _, _, T.cl_Run, T.m12, L.f12, T.b12⟩
theorem no7 (p q : Nat → List AV → Hh → Res AV) : ∀ C, C ∉ [0] → ∀ vs S v S', (gam TT p q).mt C 7 vs S ≠ .ok v S' := gam_no (mt_none (by decide))
theorem ne7 (K : PySem.W.Frag) : ∀ f, (NN K).fn f ≠ "outcome" := fn_ne (l := [111, 117, 116, 99, 111, 109, 101]) rfl (by decide)
theorem mt7 (T : Tx K mg fd) (L : Lv P w K mg base fd (k + 1)) : ∀ C, C ∈ [0] → ∃ (fa : Addr) (fd : FuncData) (ps : List Str), Cls K ((NN K).cls C) ∧ Meth K ((NN K).cls C) "outcome" fa ∧ FnOk P w K mg base CX0 (k + 1) fa fd ps (spD (NN K) K 1 ((GG k).mt C 7)) ∧ Binds K fd ps [] := by
  intro C hC
  simp only [List.mem_cons, List.not_mem_nil, or_false] at hC
  rcases hC with rfl
  · exact ⟨_, _, _, T.cl_Run, T.m13, L.f13, T.b13⟩
theorem no8 (p q : Nat → List AV → Hh → Res AV) : ∀ C, C ∉ [1] → ∀ vs S v S', (gam TT p q).mt C 8 vs S ≠ .ok v S' := gam_no (mt_none (by decide))
theorem ne8 (K : PySem.W.Frag) : ∀ f, (NN K).fn f ≠ "bead" := fn_ne (l := [98, 101, 97, 100]) rfl (by decide)
theorem mt8 (T : Tx K mg fd) (L : Lv P w K mg base fd (k + 1)) : ∀ C, C ∈ [1] → ∃ (fa : Addr) (fd : FuncData) (ps : List Str), Cls K ((NN K).cls C) ∧ Meth K ((NN K).cls C) "bead" fa ∧ FnOk P w K mg base CX0 (k + 1) fa fd ps (spD (NN K) K 1 ((GG k).mt C 8)) ∧ Binds K fd ps [] := by
  intro C hC
  simp only [List.mem_cons, List.not_mem_nil, or_false] at hC
  rcases hC with rfl
  · exact ⟨_, _, _, T.cl_Feed, T.m20, L.f20, T.b20⟩
theorem no9 (p q : Nat → List AV → Hh → Res AV) : ∀ C, C ∉ [1] → ∀ vs S v S', (gam TT p q).mt C 9 vs S ≠ .ok v S' := gam_no (mt_none (by decide))
theorem ne9 (K : PySem.W.Frag) : ∀ f, (NN K).fn f ≠ "behind" := fn_ne (l := [98, 101, 104, 105, 110, 100]) rfl (by decide)
theorem mt9 (T : Tx K mg fd) (L : Lv P w K mg base fd (k + 1)) : ∀ C, C ∈ [1] → ∃ (fa : Addr) (fd : FuncData) (ps : List Str), Cls K ((NN K).cls C) ∧ Meth K ((NN K).cls C) "behind" fa ∧ FnOk P w K mg base CX0 (k + 1) fa fd ps (spD (NN K) K 3 ((GG k).mt C 9)) ∧ Binds K fd ps [] := by
  intro C hC
  simp only [List.mem_cons, List.not_mem_nil, or_false] at hC
  rcases hC with rfl
  · exact ⟨_, _, _, T.cl_Feed, T.m22, L.f22, T.b22⟩
theorem no10 (p q : Nat → List AV → Hh → Res AV) : ∀ C, C ∉ [1] → ∀ vs S v S', (gam TT p q).mt C 10 vs S ≠ .ok v S' := gam_no (mt_none (by decide))
theorem ne10 (K : PySem.W.Frag) : ∀ f, (NN K).fn f ≠ "with_name" := fn_ne (l := [119, 105, 116, 104, 95, 110, 97, 109, 101]) rfl (by decide)
theorem mt10 (T : Tx K mg fd) (L : Lv P w K mg base fd (k + 1)) : ∀ C, C ∈ [1] → ∃ (fa : Addr) (fd : FuncData) (ps : List Str), Cls K ((NN K).cls C) ∧ Meth K ((NN K).cls C) "with_name" fa ∧ FnOk P w K mg base CX0 (k + 1) fa fd ps (spD (NN K) K 3 ((GG k).mt C 10)) ∧ Binds K fd ps [] := by
  intro C hC
  simp only [List.mem_cons, List.not_mem_nil, or_false] at hC
  rcases hC with rfl
  · exact ⟨_, _, _, T.cl_Feed, T.m23, L.f23, T.b23⟩
theorem no11 (p q : Nat → List AV → Hh → Res AV) : ∀ C, C ∉ [1] → ∀ vs S v S', (gam TT p q).mt C 11 vs S ≠ .ok v S' := gam_no (mt_none (by decide))
theorem ne11 (K : PySem.W.Frag) : ∀ f, (NN K).fn f ≠ "arguments" := fn_ne (l := [97, 114, 103, 117, 109, 101, 110, 116, 115]) rfl (by decide)
theorem mt11 (T : Tx K mg fd) (L : Lv P w K mg base fd (k + 1)) : ∀ C, C ∈ [1] → ∃ (fa : Addr) (fd : FuncData) (ps : List Str), Cls K ((NN K).cls C) ∧ Meth K ((NN K).cls C) "arguments" fa ∧ FnOk P w K mg base CX0 (k + 1) fa fd ps (spD (NN K) K 3 ((GG k).mt C 11)) ∧ Binds K fd ps [] := by
  intro C hC
  simp only [List.mem_cons, List.not_mem_nil, or_false] at hC
  rcases hC with rfl
  · exact ⟨_, _, _, T.cl_Feed, T.m24, L.f24, T.b24⟩
theorem no12 (p q : Nat → List AV → Hh → Res AV) : ∀ C, C ∉ [1] → ∀ vs S v S', (gam TT p q).mt C 12 vs S ≠ .ok v S' := gam_no (mt_none (by decide))
theorem ne12 (K : PySem.W.Frag) : ∀ f, (NN K).fn f ≠ "number" := fn_ne (l := [110, 117, 109, 98, 101, 114]) rfl (by decide)
theorem mt12 (T : Tx K mg fd) (L : Lv P w K mg base fd (k + 1)) : ∀ C, C ∈ [1] → ∃ (fa : Addr) (fd : FuncData) (ps : List Str), Cls K ((NN K).cls C) ∧ Meth K ((NN K).cls C) "number" fa ∧ FnOk P w K mg base CX0 (k + 1) fa fd ps (spD (NN K) K 3 ((GG k).mt C 12)) ∧ Binds K fd ps [] := by
  intro C hC
  simp only [List.mem_cons, List.not_mem_nil, or_false] at hC
  rcases hC with rfl
  · exact ⟨_, _, _, T.cl_Feed, T.m25, L.f25, T.b25⟩
theorem no13 (p q : Nat → List AV → Hh → Res AV) : ∀ C, C ∉ [1] → ∀ vs S v S', (gam TT p q).mt C 13 vs S ≠ .ok v S' := gam_no (mt_none (by decide))
theorem ne13 (K : PySem.W.Frag) : ∀ f, (NN K).fn f ≠ "counted" := fn_ne (l := [99, 111, 117, 110, 116, 101, 100]) rfl (by decide)
theorem mt13 (T : Tx K mg fd) (L : Lv P w K mg base fd (k + 1)) : ∀ C, C ∈ [1] → ∃ (fa : Addr) (fd : FuncData) (ps : List Str), Cls K ((NN K).cls C) ∧ Meth K ((NN K).cls C) "counted" fa ∧ FnOk P w K mg base CX0 (k + 1) fa fd ps (spD (NN K) K 3 ((GG k).mt C 13)) ∧ Binds K fd ps [] := by
  intro C hC
  simp only [List.mem_cons, List.not_mem_nil, or_false] at hC
  rcases hC with rfl
  · exact ⟨_, _, _, T.cl_Feed, T.m26, L.f26, T.b26⟩
theorem no14 (p q : Nat → List AV → Hh → Res AV) : ∀ C, C ∉ [1] → ∀ vs S v S', (gam TT p q).mt C 14 vs S ≠ .ok v S' := gam_no (mt_none (by decide))
theorem ne14 (K : PySem.W.Frag) : ∀ f, (NN K).fn f ≠ "left" := fn_ne (l := [108, 101, 102, 116]) rfl (by decide)
theorem mt14 (T : Tx K mg fd) (L : Lv P w K mg base fd (k + 1)) : ∀ C, C ∈ [1] → ∃ (fa : Addr) (fd : FuncData) (ps : List Str), Cls K ((NN K).cls C) ∧ Meth K ((NN K).cls C) "left" fa ∧ FnOk P w K mg base CX0 (k + 1) fa fd ps (spD (NN K) K 1 ((GG k).mt C 14)) ∧ Binds K fd ps [] := by
  intro C hC
  simp only [List.mem_cons, List.not_mem_nil, or_false] at hC
  rcases hC with rfl
  · exact ⟨_, _, _, T.cl_Feed, T.m28, L.f28, T.b28⟩
theorem nd0 : N0.Nodup := by decide +kernel
theorem sc0 : FnScope N0 ["s", "a", "b"] (defScope s0) := ⟨rfl, rfl, rfl, nd0, rfl, by decide +kernel, by decide +kernel⟩
theorem d0 {f : Addr} {cdv : Value} {A : Around} {outer : List Env} {s : Shared} {H : Hp} {E : XK} (T : Tx K mg fd) (L0 : Lv P w K mg base fd k) (L1 : Lv P w K mg base fd (k + 1)) (hr : Room (k + 1) (A.deeper (envOfC "reckoned" (defScope s0) s.heap.objs.size f cdv))) :
    DSs (NN K) (GG k) (cxOf CX0 P w K mg base N0 "reckoned" (defScope s0) f cdv A outer s H E).nox (defBody s0) c0 := by
  have hu := hr.units
  have hu1 : (A.deeper (envOfC "reckoned" (defScope s0) s.heap.objs.size f cdv)).units + 1 < cLine := by omega
  exact (dss_cons (ds_ifs (dt_cmp (opr_eq hu) (de_var (i := 0) rfl (.inl rfl)) de_str) (dss_cons (ds_ret (de_ty cr_int rfl T.n_int bt_int (da_cons (de_cmp opr_lt (de_var (i := 1) rfl (.inl rfl)) (de_var (i := 2) rfl (.inl rfl))) da_nil)))
    dss_nil) dss_nil)
    (dss_cons (ds_ifs (dt_cmp (opr_eq hu) (de_var (i := 0) rfl (.inl rfl)) de_str) (dss_cons (ds_ret (de_ty cr_int rfl T.n_int bt_int (da_cons (de_cmp (opr_eq hu) (de_var (i := 1) rfl (.inl rfl)) (de_var (i := 2) rfl (.inl rfl))) da_nil)))
    dss_nil) dss_nil)
    (dss_cons (ds_ifs (dt_cmp (opr_eq hu) (de_var (i := 0) rfl (.inl rfl)) de_str) (dss_cons (ds_ret (de_bin opr_mod (de_bin opr_add (de_var (i := 1) rfl (.inl rfl)) (de_var (i := 2) rfl (.inl rfl))) (de_gint rfl T.i_WIDE)))
    dss_nil) dss_nil)
    (dss_cons (ds_ifs (dt_cmp (opr_eq hu) (de_var (i := 0) rfl (.inl rfl)) de_str) (dss_cons (ds_ret (de_bin opr_mod (de_bin opr_sub (de_var (i := 1) rfl (.inl rfl)) (de_var (i := 2) rfl (.inl rfl))) (de_gint rfl T.i_WIDE)))
    dss_nil) dss_nil)
    (dss_cons (ds_ret (de_bin opr_mod (de_bin opr_mul (de_var (i := 1) rfl (.inl rfl)) (de_var (i := 2) rfl (.inl rfl))) (de_gint rfl T.i_WIDE)))
    dss_nil)))))
theorem nd1 : N1.Nodup := by decide +kernel
theorem sc1 : FnScope N1 ["shapes", "name"] (defScope s1) := ⟨rfl, rfl, rfl, nd1, rfl, by decide +kernel, by decide +kernel⟩
theorem d1 {f : Addr} {cdv : Value} {A : Around} {outer : List Env} {s : Shared} {H : Hp} {E : XK} (T : Tx K mg fd) (L0 : Lv P w K mg base fd k) (L1 : Lv P w K mg base fd (k + 1)) (hr : Room (k + 1) (A.deeper (envOfC "bead_of" (defScope s1) s.heap.objs.size f cdv))) :
    DSs (NN K) (GG k) (cxOf CX0 P w K mg base N1 "bead_of" (defScope s1) f cdv A outer s H E).nox (defBody s1) c1 := by
  have hu := hr.units
  have hu1 : (A.deeper (envOfC "bead_of" (defScope s1) s.heap.objs.size f cdv)).units + 1 < cLine := by omega
  exact (dss_cons (ds_for PassesOwn.never rfl (di_val (de_var (i := 0) rfl (.inl rfl))) (dtg_tp rfl (dtgs_cons (dtg_nm nd1 rfl (.inl rfl)) (dtgs_cons (dtg_nm nd1 rfl (.inl rfl)) dtgs_nil)) rfl) (dss_cons (ds_for PassesOwn.never rfl (di_enum rfl T.n_enumerate (de_var (i := 3) rfl (.inl rfl))) (dtg_tp rfl (dtgs_cons (dtg_nm nd1 rfl (.inl rfl)) (dtgs_cons (dtg_tp rfl (dtgs_cons (dtg_nm nd1 rfl (.inl rfl)) (dtgs_cons (dtg_nm nd1 rfl (.inl rfl)) (dtgs_cons (dtg_nm nd1 rfl (.inl rfl)) dtgs_nil))) rfl) dtgs_nil)) rfl) (dss_cons (ds_ifs (dt_cmp (opr_eq hu) (de_var (i := 5) rfl (.inl rfl)) (de_var (i := 1) rfl (.inl rfl))) (dss_cons (ds_ret (de_tup (da_cons (de_var (i := 2) rfl (.inl rfl)) (da_cons (de_var (i := 4) rfl (.inl rfl)) (da_cons (de_var (i := 6) rfl (.inl rfl)) (da_cons (de_var (i := 7) rfl (.inl rfl)) da_nil))))))
    dss_nil) dss_nil)
    dss_nil))
    dss_nil))
    (dss_cons (ds_ret de_non)
    dss_nil))
theorem nd2 : N2.Nodup := by decide +kernel
theorem sc2 : FnScope N2 ["row"] (defScope s2) := ⟨rfl, rfl, rfl, nd2, rfl, by decide +kernel, by decide +kernel⟩
theorem d2 {f : Addr} {cdv : Value} {A : Around} {outer : List Env} {s : Shared} {H : Hp} {E : XK} (T : Tx K mg fd) (L0 : Lv P w K mg base fd k) (L1 : Lv P w K mg base fd (k + 1)) (hr : Room (k + 1) (A.deeper (envOfC "strung" (defScope s2) s.heap.objs.size f cdv))) :
    DSs (NN K) (GG k) (cxOf CX0 P w K mg base N2 "strung" (defScope s2) f cdv A outer s H E).nox (defBody s2) c2 := by
  have hu := hr.units
  have hu1 : (A.deeper (envOfC "strung" (defScope s2) s.heap.objs.size f cdv)).units + 1 < cLine := by omega
  exact (dss_cons (ds_set (i := 1) nd2 rfl (.inl rfl) de_non)
    (dss_cons (ds_for PassesOwn.never rfl (di_rev rfl T.n_reversed (de_var (i := 0) rfl (.inl rfl))) (dtg_nm nd2 rfl (.inl rfl)) (dss_cons (ds_set (i := 1) nd2 rfl (.inl rfl) (de_tup (da_cons (de_var (i := 2) rfl (.inl rfl)) (da_cons (de_var (i := 1) rfl (.inl rfl)) da_nil))))
    dss_nil))
    (dss_cons (ds_ret (de_var (i := 1) rfl (.inl rfl)))
    dss_nil)))
theorem nd3 : N3.Nodup := by decide +kernel
theorem sc3 : FnScope N3 ["string"] (defScope s3) := ⟨rfl, rfl, rfl, nd3, rfl, by decide +kernel, by decide +kernel⟩
theorem d3 {f : Addr} {cdv : Value} {A : Around} {outer : List Env} {s : Shared} {H : Hp} {E : XK} (T : Tx K mg fd) (L0 : Lv P w K mg base fd k) (L1 : Lv P w K mg base fd (k + 1)) (hr : Room (k + 1) (A.deeper (envOfC "unstrung" (defScope s3) s.heap.objs.size f cdv))) :
    DSs (NN K) (GG k) (cxOf CX0 P w K mg base N3 "unstrung" (defScope s3) f cdv A outer s H E).nox (defBody s3) c3 := by
  have hu := hr.units
  have hu1 : (A.deeper (envOfC "unstrung" (defScope s3) s.heap.objs.size f cdv)).units + 1 < cLine := by omega
  exact (dss_cons (ds_set (i := 1) nd3 rfl (.inl rfl) (de_lst da_nil))
    (dss_cons (ds_whl PassesOwn.never (dt_cmp opr_notN (de_var (i := 0) rfl (.inl rfl)) de_non) (dss_cons (ds_asgG (de_var (i := 0) rfl (.inl rfl)) (dg_tp (dtg_tp rfl (dtgs_cons (dtg_nm nd3 rfl (.inl rfl)) (dtgs_cons (dtg_nm nd3 rfl (.inl rfl)) dtgs_nil)) rfl)))
    (dss_cons (ds_expr (de_bm rfl PySem.F.plainAttrs_list PySem.F.slot_list_append PySem.F.type_list_append mr_append (de_var (i := 1) rfl (.inl rfl)) (da_cons (de_var (i := 2) rfl (.inl rfl)) da_nil)))
    dss_nil)))
    (dss_cons (ds_ret (de_ty cr_tuple rfl T.n_tuple bt_tuple (da_cons (de_var (i := 1) rfl (.inl rfl)) da_nil)))
    dss_nil)))
theorem nd4 : N4.Nodup := by decide +kernel
theorem sc4 : FnScope N4 ["thing"] (defScope s4) := ⟨rfl, rfl, rfl, nd4, rfl, by decide +kernel, by decide +kernel⟩
theorem d4 {f : Addr} {cdv : Value} {A : Around} {outer : List Env} {s : Shared} {H : Hp} {E : XK} (T : Tx K mg fd) (L0 : Lv P w K mg base fd k) (L1 : Lv P w K mg base fd (k + 1)) (hr : Room (k + 1) (A.deeper (envOfC "worn" (defScope s4) s.heap.objs.size f cdv))) :
    DSs (NN K) (GG k) (cxOf CX0 P w K mg base N4 "worn" (defScope s4) f cdv A outer s H E).nox (defBody s4) c4 := by
  have hu := hr.units
  have hu1 : (A.deeper (envOfC "worn" (defScope s4) s.heap.objs.size f cdv)).units + 1 < cLine := by omega
  exact (dss_cons (ds_ifs (dt_val (de_isTup rfl T.n_isinstance rfl T.n_tuple (de_var (i := 0) rfl (.inl rfl)))) (dss_cons (ds_ret (de_call L1.f2 hr rfl T.g_strung T.k_strung T.b2 .nil (fun _ _ => .nil) (xp (E := E0)) (da_cons (de_var (i := 0) rfl (.inl rfl)) da_nil) rfl))
    dss_nil) dss_nil)
    (dss_cons (ds_ret (de_var (i := 0) rfl (.inl rfl)))
    dss_nil))
theorem nd5 : N5.Nodup := by decide +kernel
theorem sc5 : FnScope N5 ["self", "program", "f", "args"] (defScope s5) := ⟨rfl, rfl, rfl, nd5, rfl, by decide +kernel, by decide +kernel⟩
theorem d5 {f : Addr} {cdv : Value} {A : Around} {outer : List Env} {s : Shared} {H : Hp} {E : XK} (T : Tx K mg fd) (L0 : Lv P w K mg base fd k) (L1 : Lv P w K mg base fd (k + 1)) (hr : Room (k + 1) (A.deeper (envOfC "Run.__init__" (defScope s5) s.heap.objs.size f cdv))) :
    DSs (NN K) (GG k) (cxOf CX0 P w K mg base N5 "Run.__init__" (defScope s5) f cdv A outer s H E).nox (defBody s5) c5 := by
  have hu := hr.units
  have hu1 : (A.deeper (envOfC "Run.__init__" (defScope s5) s.heap.objs.size f cdv)).units + 1 < cLine := by omega
  exact (dss_cons (ds_fld (f := 0) rfl (de_var (i := 0) rfl (.inl rfl)) (de_ix (ixr hu1) (de_var (i := 1) rfl (.inl rfl)) de_int) T.a_shapes)
    (dss_cons (ds_fld (f := 1) rfl (de_var (i := 0) rfl (.inl rfl)) (de_dc rfl nd5 (di_val (de_ix (ixr hu1) (de_var (i := 1) rfl (.inl rfl)) de_int)) (blkOk_by (own := [("function", 4)]) (by kernel_rfl)) rfl (fun _ _ _ _ _ => (dtg_nm nd5 rfl (.inl rfl))) (fun _ _ _ _ _ => dts_nil) (fun _ _ _ _ _ => (de_ix (ixr hu1) (de_var (i := 4) rfl (.inl rfl)) de_int)) (fun _ _ _ _ _ => (de_var (i := 4) rfl (.inl rfl))) (by decide)) T.a_functions)
    (dss_cons (ds_asg2 de_int (dg_fld (f := 2) rfl (de_var (i := 0) rfl (.inl rfl)) T.a_eats) (dg_fld (f := 3) rfl (de_var (i := 0) rfl (.inl rfl)) T.a_makes))
    (dss_cons (ds_fld (f := 4) rfl (de_var (i := 0) rfl (.inl rfl)) (de_lc rfl nd5 (di_val (de_var (i := 3) rfl (.inl rfl))) (blkOk_by (own := [("thing", 5)]) (by kernel_rfl)) rfl (fun _ _ _ _ _ => (dtg_nm nd5 rfl (.inl rfl))) (fun _ _ _ _ _ => dts_nil) (fun _ _ _ _ _ => (de_call L1.f4 hr rfl T.g_worn T.k_worn T.b4 .nil (fun _ _ => .nil) (xp (E := E0)) (da_cons (de_var (i := 5) rfl (.inl rfl)) da_nil) rfl)) (by decide)) T.a_piled)
    (dss_cons (ds_fld (f := 5) rfl (de_var (i := 0) rfl (.inl rfl)) (de_lst (da_cons (de_tup (da_cons de_str (da_cons (de_var (i := 2) rfl (.inl rfl)) (da_cons (de_bi cr_len rfl T.n_len bt_len (da_cons (de_var (i := 3) rfl (.inl rfl)) da_nil)) da_nil)))) da_nil)) T.a_tasks)
    dss_nil)))))
theorem nd6 : N6.Nodup := by decide +kernel
theorem sc6 : FnScope N6 ["self"] (defScope s6) := ⟨rfl, rfl, rfl, nd6, rfl, by decide +kernel, by decide +kernel⟩
theorem d6 {f : Addr} {cdv : Value} {A : Around} {outer : List Env} {s : Shared} {H : Hp} {E : XK} (T : Tx K mg fd) (L0 : Lv P w K mg base fd k) (L1 : Lv P w K mg base fd (k + 1)) (hr : Room (k + 1) (A.deeper (envOfC "Run.turn" (defScope s6) s.heap.objs.size f cdv))) :
    DSs (NN K) (GG k) (cxOf CX0 P w K mg base N6 "Run.turn" (defScope s6) f cdv A outer s H E).nox (defBody s6) c6 := by
  have hu := hr.units
  have hu1 : (A.deeper (envOfC "Run.turn" (defScope s6) s.heap.objs.size f cdv)).units + 1 < cLine := by omega
  exact (dss_cons (ds_ifs (dt_cmp (opr_eq hu) (de_bi cr_len rfl T.n_len bt_len (da_cons (de_fld (f := 5) rfl (de_var (i := 0) rfl (.inl rfl)) T.a_tasks) da_nil)) de_int) (dss_cons (ds_ret de_bl)
    dss_nil) dss_nil)
    (dss_cons (ds_asgG (de_bm0 rfl PySem.F.plainAttrs_list PySem.F.slot_list_pop PySem.F.type_list_pop mr_pop (de_fld (f := 5) rfl (de_var (i := 0) rfl (.inl rfl)) T.a_tasks)) (dg_tp (dtg_tp rfl (dtgs_cons (dtg_nm nd6 rfl (.inl rfl)) (dtgs_cons (dtg_nm nd6 rfl (.inl rfl)) (dtgs_cons (dtg_nm nd6 rfl (.inl rfl)) dtgs_nil))) rfl)))
    (dss_cons (ds_set (i := 4) nd6 rfl (.inl rfl) (de_slc slr (de_fld (f := 4) rfl (de_var (i := 0) rfl (.inl rfl)) T.a_piled) (do_some (de_bin opr_sub (de_bi cr_len rfl T.n_len bt_len (da_cons (de_fld (f := 4) rfl (de_var (i := 0) rfl (.inl rfl)) T.a_piled) da_nil)) (de_var (i := 3) rfl (.inl rfl)))) do_none))
    (dss_cons (ds_fld (f := 4) rfl (de_var (i := 0) rfl (.inl rfl)) (de_slc slr (de_fld (f := 4) rfl (de_var (i := 0) rfl (.inl rfl)) T.a_piled) do_none (do_some (de_bin opr_sub (de_bi cr_len rfl T.n_len bt_len (da_cons (de_fld (f := 4) rfl (de_var (i := 0) rfl (.inl rfl)) T.a_piled) da_nil)) (de_var (i := 3) rfl (.inl rfl))))) T.a_piled)
    (dss_cons (ds_expr (de_meth (m := 1) (Cl := [0, 1]) (pl := _) (fun C_ h_ => ⟨mt1 T L1 C_ h_⟩) (no1 _ _) hr (xp (E := E0)) (de_var (i := 0) rfl (.inl rfl)) (da_cons (de_var (i := 2) rfl (.inl rfl)) (da_cons (de_var (i := 4) rfl (.inl rfl)) da_nil)) rfl (ne1 K)))
    (dss_cons (ds_whl PassesOwn.never (dt_w (dw_and (dt_cmp opr_gt (de_bi cr_len rfl T.n_len bt_len (da_cons (de_fld (f := 5) rfl (de_var (i := 0) rfl (.inl rfl)) T.a_tasks) da_nil)) de_int) (dw_and1 (dt_cmp (opr_ne hu) (de_ix (ixr hu1) (de_ix (ixr hu1) (de_fld (f := 5) rfl (de_var (i := 0) rfl (.inl rfl)) T.a_tasks) (de_neg de_int)) de_int) de_str)))) (dss_cons (ds_expr (de_meth (m := 2) (Cl := [0]) (pl := _) (fun C_ h_ => ⟨mt2 T L1 C_ h_⟩) (no2 _ _) hr (xp (E := E0)) (de_var (i := 0) rfl (.inl rfl)) (da_cons (de_bm0 rfl PySem.F.plainAttrs_list PySem.F.slot_list_pop PySem.F.type_list_pop mr_pop (de_fld (f := 5) rfl (de_var (i := 0) rfl (.inl rfl)) T.a_tasks)) da_nil) rfl (ne2 K)))
    dss_nil))
    (dss_cons (ds_ret de_bl)
    dss_nil)))))))
theorem nd7 : N7.Nodup := by decide +kernel
theorem sc7 : FnScope N7 ["self", "f", "args"] (defScope s7) := ⟨rfl, rfl, rfl, nd7, rfl, by decide +kernel, by decide +kernel⟩
theorem d7 {f : Addr} {cdv : Value} {A : Around} {outer : List Env} {s : Shared} {H : Hp} {E : XK} (T : Tx K mg fd) (L0 : Lv P w K mg base fd k) (L1 : Lv P w K mg base fd (k + 1)) (hr : Room (k + 1) (A.deeper (envOfC "Run.eat" (defScope s7) s.heap.objs.size f cdv))) :
    DSs (NN K) (GG k) (cxOf CX0 P w K mg base N7 "Run.eat" (defScope s7) f cdv A outer s H E).nox (defBody s7) c7 := by
  have hu := hr.units
  have hu1 : (A.deeper (envOfC "Run.eat" (defScope s7) s.heap.objs.size f cdv)).units + 1 < cLine := by omega
  exact (dss_cons (ds_asgG (de_ix (ixr hu1) (de_fld (f := 1) rfl (de_var (i := 0) rfl (.inl rfl)) T.a_functions) (de_var (i := 1) rfl (.inl rfl))) (dg_tp (dtg_tp rfl (dtgs_cons (dtg_nm nd7 rfl (.inl rfl)) (dtgs_cons (dtg_nm nd7 rfl (.inl rfl)) (dtgs_cons (dtg_nm nd7 rfl (.inl rfl)) (dtgs_cons (dtg_nm nd7 rfl (.inl rfl)) dtgs_nil)))) rfl)))
    (dss_cons (ds_asgG (de_ix (ixr hu1) (de_var (i := 2) rfl (.inl rfl)) de_int) (dg_tp (dtg_tp rfl (dtgs_cons (dtg_nm nd7 rfl (.inl rfl)) (dtgs_cons (dtg_nm nd7 rfl (.inl rfl)) dtgs_nil)) rfl)))
    (dss_cons (ds_asgG (de_call L1.f1 hr rfl T.g_bead_of T.k_bead_of T.b1 .nil (fun _ _ => .nil) (xp (E := E0)) (da_cons (de_fld (f := 0) rfl (de_var (i := 0) rfl (.inl rfl)) T.a_shapes) (da_cons (de_ix (ixr hu1) (de_var (i := 7) rfl (.inl rfl)) de_int) da_nil)) rfl) (dg_tp (dtg_tp rfl (dtgs_cons (dtg_nm nd7 rfl (.inl rfl)) (dtgs_cons (dtg_nm nd7 rfl (.inl rfl)) (dtgs_cons (dtg_nm nd7 rfl (.inl rfl)) (dtgs_cons (dtg_nm nd7 rfl (.inl rfl)) dtgs_nil)))) rfl)))
    (dss_cons (ds_asgG (de_ix (ixr hu1) (de_var (i := 6) rfl (.inl rfl)) (de_var (i := 10) rfl (.inl rfl))) (dg_tp (dtg_tp rfl (dtgs_cons (dtg_nm nd7 rfl (.inl rfl)) (dtgs_cons (dtg_nm nd7 rfl (.inl rfl)) dtgs_nil)) rfl)))
    (dss_cons (ds_setDc (i := 15) rfl nd7 rfl rfl rfl (di_zip rfl T.n_zip (de_slc slr (de_var (i := 4) rfl (.inl rfl)) (do_some de_int) do_none) (de_slc slr (de_var (i := 2) rfl (.inl rfl)) (do_some de_int) do_none)) (blkOk_by (own := [("param", 18), ("arg", 19)]) (by kernel_rfl)) rfl (fun _ _ _ _ _ => (dtg_tp rfl (dtgs_cons (dtg_nm nd7 rfl (.inl rfl)) (dtgs_cons (dtg_nm nd7 rfl (.inl rfl)) dtgs_nil)) rfl)) (fun _ _ _ _ _ => dts_nil) (fun _ _ _ _ _ => (de_ix (ixr hu1) (de_var (i := 18) rfl (.inl rfl)) de_int)) (fun _ _ _ _ _ => (de_var (i := 19) rfl (.inl rfl))) (by decide))
    (dss_cons (ds_for PassesOwn.never rfl (di_zip rfl T.n_zip (de_var (i := 13) rfl (.inl rfl)) (de_bin opr_add (de_slc slr (de_var (i := 7) rfl (.inl rfl)) (do_some de_int) do_none) (de_tup (da_cons (de_var (i := 8) rfl (.inl rfl)) da_nil)))) (dtg_tp rfl (dtgs_cons (dtg_nm nd7 rfl (.inl rfl)) (dtgs_cons (dtg_nm nd7 rfl (.inl rfl)) dtgs_nil)) rfl) (dss_cons (ds_dput hu1 (de_var (i := 15) rfl (.inl rfl)) (de_var (i := 16) rfl (.inl rfl)) (de_var (i := 17) rfl (.inl rfl)))
    dss_nil))
    (dss_cons (ds_augF_add (f := 2) rfl (de_var (i := 0) rfl (.inl rfl)) de_int T.a_eats)
    (dss_cons (ds_expr (de_bm rfl PySem.F.plainAttrs_list PySem.F.slot_list_append PySem.F.type_list_append mr_append (de_fld (f := 5) rfl (de_var (i := 0) rfl (.inl rfl)) T.a_tasks) (da_cons (de_tup (da_cons de_str (da_cons (de_var (i := 14) rfl (.inl rfl)) (da_cons (de_var (i := 15) rfl (.inl rfl)) da_nil)))) da_nil)))
    dss_nil))))))))
theorem nd8 : N8.Nodup := by decide +kernel
theorem sc8 : FnScope N8 ["self", "task"] (defScope s8) := ⟨rfl, rfl, rfl, nd8, rfl, by decide +kernel, by decide +kernel⟩
theorem d8 {f : Addr} {cdv : Value} {A : Around} {outer : List Env} {s : Shared} {H : Hp} {E : XK} (T : Tx K mg fd) (L0 : Lv P w K mg base fd k) (L1 : Lv P w K mg base fd (k + 1)) (hr : Room (k + 1) (A.deeper (envOfC "Run.go_on" (defScope s8) s.heap.objs.size f cdv))) :
    DSs (NN K) (GG k) (cxOf CX0 P w K mg base N8 "Run.go_on" (defScope s8) f cdv A outer s H E).nox (defBody s8) c8 := by
  have hu := hr.units
  have hu1 : (A.deeper (envOfC "Run.go_on" (defScope s8) s.heap.objs.size f cdv)).units + 1 < cLine := by omega
  exact (dss_cons (ds_set (i := 2) nd8 rfl (.inl rfl) (de_ix (ixr hu1) (de_var (i := 1) rfl (.inl rfl)) de_int))
    (dss_cons (ds_ifs (dt_cmp (opr_eq hu) (de_var (i := 2) rfl (.inl rfl)) de_str) (dss_cons (ds_expr (de_meth (m := 3) (Cl := [0]) (pl := _) (fun C_ h_ => ⟨mt3 T L1 C_ h_⟩) (no3 _ _) hr (xp (E := E0)) (de_var (i := 0) rfl (.inl rfl)) (da_cons (de_ix (ixr hu1) (de_var (i := 1) rfl (.inl rfl)) de_int) (da_cons (de_ix (ixr hu1) (de_var (i := 1) rfl (.inl rfl)) de_int) da_nil)) rfl (ne3 K)))
    dss_nil) (dss_cons (ds_ifs (dt_cmp (opr_eq hu) (de_var (i := 2) rfl (.inl rfl)) de_str) (dss_cons (ds_set (i := 3) nd8 rfl (.inl rfl) (de_bm0 rfl PySem.F.plainAttrs_list PySem.F.slot_list_pop PySem.F.type_list_pop mr_pop (de_fld (f := 4) rfl (de_var (i := 0) rfl (.inl rfl)) T.a_piled)))
    (dss_cons (ds_expr (de_bm rfl PySem.F.plainAttrs_list PySem.F.slot_list_append PySem.F.type_list_append mr_append (de_fld (f := 4) rfl (de_var (i := 0) rfl (.inl rfl)) T.a_piled) (da_cons (de_call L1.f0 hr rfl T.g_reckoned T.k_reckoned T.b0 .nil (fun _ _ => .nil) (xp (E := E0)) (da_cons (de_ix (ixr hu1) (de_var (i := 1) rfl (.inl rfl)) de_int) (da_cons (de_bm0 rfl PySem.F.plainAttrs_list PySem.F.slot_list_pop PySem.F.type_list_pop mr_pop (de_fld (f := 4) rfl (de_var (i := 0) rfl (.inl rfl)) T.a_piled)) (da_cons (de_var (i := 3) rfl (.inl rfl)) da_nil))) rfl) da_nil)))
    dss_nil)) (dss_cons (ds_ifs (dt_cmp (opr_eq hu) (de_var (i := 2) rfl (.inl rfl)) de_str) (dss_cons (ds_expr (de_meth (m := 4) (Cl := [0]) (pl := _) (fun C_ h_ => ⟨mt4 T L1 C_ h_⟩) (no4 _ _) hr (xp (E := E0)) (de_var (i := 0) rfl (.inl rfl)) (da_cons (de_ix (ixr hu1) (de_var (i := 1) rfl (.inl rfl)) de_int) (da_cons (de_ix (ixr hu1) (de_var (i := 1) rfl (.inl rfl)) de_int) (da_cons (de_ix (ixr hu1) (de_var (i := 1) rfl (.inl rfl)) de_int) da_nil))) rfl (ne4 K)))
    dss_nil) (dss_cons (ds_ifs (dt_cmp (opr_eq hu) (de_var (i := 2) rfl (.inl rfl)) de_str) (dss_cons (ds_expr (de_bm rfl PySem.F.plainAttrs_list PySem.F.slot_list_append PySem.F.type_list_append mr_append (de_fld (f := 5) rfl (de_var (i := 0) rfl (.inl rfl)) T.a_tasks) (da_cons (de_tup (da_cons de_str (da_cons (de_ix (ixr hu1) (de_var (i := 1) rfl (.inl rfl)) (de_bin opr_add de_int (de_ty cr_int rfl T.n_int bt_int (da_cons (de_cmp (opr_eq hu) (de_bm0 rfl PySem.F.plainAttrs_list PySem.F.slot_list_pop PySem.F.type_list_pop mr_pop (de_fld (f := 4) rfl (de_var (i := 0) rfl (.inl rfl)) T.a_piled)) de_int) da_nil)))) (da_cons (de_ix (ixr hu1) (de_var (i := 1) rfl (.inl rfl)) de_int) da_nil)))) da_nil)))
    dss_nil) (dss_cons (ds_set (i := 4) nd8 rfl (.inl rfl) (de_ty cr_dict rfl T.n_dict bt_dict (da_cons (de_ix (ixr hu1) (de_var (i := 1) rfl (.inl rfl)) de_int) da_nil)))
    (dss_cons (ds_dput hu1 (de_var (i := 4) rfl (.inl rfl)) (de_ix (ixr hu1) (de_var (i := 1) rfl (.inl rfl)) de_int) (de_bm0 rfl PySem.F.plainAttrs_list PySem.F.slot_list_pop PySem.F.type_list_pop mr_pop (de_fld (f := 4) rfl (de_var (i := 0) rfl (.inl rfl)) T.a_piled)))
    (dss_cons (ds_expr (de_bm rfl PySem.F.plainAttrs_list PySem.F.slot_list_append PySem.F.type_list_append mr_append (de_fld (f := 5) rfl (de_var (i := 0) rfl (.inl rfl)) T.a_tasks) (da_cons (de_tup (da_cons de_str (da_cons (de_ix (ixr hu1) (de_var (i := 1) rfl (.inl rfl)) de_int) (da_cons (de_var (i := 4) rfl (.inl rfl)) da_nil)))) da_nil)))
    dss_nil))))
    dss_nil))
    dss_nil))
    dss_nil))
    dss_nil))
theorem nd9 : N9.Nodup := by decide +kernel
theorem sc9 : FnScope N9 ["self", "term", "known"] (defScope s9) := ⟨rfl, rfl, rfl, nd9, rfl, by decide +kernel, by decide +kernel⟩
theorem d9 {f : Addr} {cdv : Value} {A : Around} {outer : List Env} {s : Shared} {H : Hp} {E : XK} (T : Tx K mg fd) (L0 : Lv P w K mg base fd k) (L1 : Lv P w K mg base fd (k + 1)) (hr : Room (k + 1) (A.deeper (envOfC "Run.begin" (defScope s9) s.heap.objs.size f cdv))) :
    DSs (NN K) (GG k) (cxOf CX0 P w K mg base N9 "Run.begin" (defScope s9) f cdv A outer s H E).nox (defBody s9) c9 := by
  have hu := hr.units
  have hu1 : (A.deeper (envOfC "Run.begin" (defScope s9) s.heap.objs.size f cdv)).units + 1 < cLine := by omega
  exact (dss_cons (ds_set (i := 3) nd9 rfl (.inl rfl) (de_ix (ixr hu1) (de_var (i := 1) rfl (.inl rfl)) de_int))
    (dss_cons (ds_ifs (dt_cmp (opr_eq hu) (de_var (i := 3) rfl (.inl rfl)) de_str) (dss_cons (ds_expr (de_bm rfl PySem.F.plainAttrs_list PySem.F.slot_list_append PySem.F.type_list_append mr_append (de_fld (f := 4) rfl (de_var (i := 0) rfl (.inl rfl)) T.a_piled) (da_cons (de_ix (ixr hu1) (de_var (i := 1) rfl (.inl rfl)) de_int) da_nil)))
    dss_nil) (dss_cons (ds_ifs (dt_cmp (opr_eq hu) (de_var (i := 3) rfl (.inl rfl)) de_str) (dss_cons (ds_expr (de_bm rfl PySem.F.plainAttrs_list PySem.F.slot_list_append PySem.F.type_list_append mr_append (de_fld (f := 4) rfl (de_var (i := 0) rfl (.inl rfl)) T.a_piled) (da_cons (de_ix (ixr hu1) (de_var (i := 2) rfl (.inr (.inl rfl))) (de_ix (ixr hu1) (de_var (i := 1) rfl (.inl rfl)) de_int)) da_nil)))
    dss_nil) (dss_cons (ds_ifs (dt_cmp (opr_eq hu) (de_var (i := 3) rfl (.inl rfl)) de_str) (dss_cons (ds_expr (de_bm rfl PySem.F.plainAttrs_list PySem.F.slot_list_extend PySem.F.type_list_extend mr_extend (de_fld (f := 5) rfl (de_var (i := 0) rfl (.inl rfl)) T.a_tasks) (da_cons (de_lst (da_cons (de_tup (da_cons de_str (da_cons (de_ix (ixr hu1) (de_var (i := 1) rfl (.inl rfl)) de_int) da_nil))) (da_cons (de_tup (da_cons de_str (da_cons (de_ix (ixr hu1) (de_var (i := 1) rfl (.inl rfl)) de_int) (da_cons (de_var (i := 2) rfl (.inr (.inl rfl))) da_nil)))) (da_cons (de_tup (da_cons de_str (da_cons (de_ix (ixr hu1) (de_var (i := 1) rfl (.inl rfl)) de_int) (da_cons (de_var (i := 2) rfl (.inr (.inl rfl))) da_nil)))) da_nil)))) da_nil)))
    dss_nil) (dss_cons (ds_ifs (dt_cmp (opr_eq hu) (de_var (i := 3) rfl (.inl rfl)) de_str) (dss_cons (ds_set (i := 4) nd9 rfl (.inl rfl) (de_bin opr_add (de_ty cr_list rfl T.n_list bt_list (da_cons (de_ix (ixr hu1) (de_var (i := 1) rfl (.inl rfl)) de_int) da_nil)) (de_lc rfl nd9 (di_val (de_lst (da_cons (de_ix (ixr hu1) (de_var (i := 1) rfl (.inl rfl)) de_int) da_nil))) (blkOk_by (own := [("one", 5)]) (by kernel_rfl)) rfl (fun _ _ _ _ _ => (dtg_nm nd9 rfl (.inl rfl))) (fun _ _ _ _ _ => (dts_one (dt_cmp opr_notN (de_var (i := 5) rfl (.inl rfl)) de_non))) (fun _ _ _ _ _ => (de_var (i := 5) rfl (.inl rfl))) (by decide))))
    (dss_cons (ds_expr (de_bm rfl PySem.F.plainAttrs_list PySem.F.slot_list_append PySem.F.type_list_append mr_append (de_fld (f := 5) rfl (de_var (i := 0) rfl (.inl rfl)) T.a_tasks) (da_cons (de_tup (da_cons de_str (da_cons (de_ix (ixr hu1) (de_var (i := 1) rfl (.inl rfl)) de_int) (da_cons (de_bi cr_len rfl T.n_len bt_len (da_cons (de_ix (ixr hu1) (de_var (i := 1) rfl (.inl rfl)) de_int) da_nil)) (da_cons (de_cmp opr_notN (de_ix (ixr hu1) (de_var (i := 1) rfl (.inl rfl)) de_int) de_non) da_nil))))) da_nil)))
    (dss_cons (ds_expr (de_bm rfl PySem.F.plainAttrs_list PySem.F.slot_list_extend PySem.F.type_list_extend mr_extend (de_fld (f := 5) rfl (de_var (i := 0) rfl (.inl rfl)) T.a_tasks) (da_cons (de_lc rfl nd9 (di_rev rfl T.n_reversed (de_var (i := 4) rfl (.inl rfl))) (blkOk_by (own := [("one", 5)]) (by kernel_rfl)) rfl (fun _ _ _ _ _ => (dtg_nm nd9 rfl (.inl rfl))) (fun _ _ _ _ _ => dts_nil) (fun _ _ _ _ _ => (de_tup (da_cons de_str (da_cons (de_var (i := 5) rfl (.inl rfl)) (da_cons (de_var (i := 2) rfl (.inr (.inl rfl))) da_nil))))) (by decide)) da_nil)))
    dss_nil))) (dss_cons (ds_ifs (dt_cmp (opr_eq hu) (de_var (i := 3) rfl (.inl rfl)) de_str) (dss_cons (ds_expr (de_bm rfl PySem.F.plainAttrs_list PySem.F.slot_list_append PySem.F.type_list_append mr_append (de_fld (f := 5) rfl (de_var (i := 0) rfl (.inl rfl)) T.a_tasks) (da_cons (de_tup (da_cons de_str (da_cons (de_ix (ixr hu1) (de_var (i := 1) rfl (.inl rfl)) de_int) (da_cons (de_bi cr_len rfl T.n_len bt_len (da_cons (de_ix (ixr hu1) (de_var (i := 1) rfl (.inl rfl)) de_int) da_nil)) da_nil)))) da_nil)))
    (dss_cons (ds_expr (de_bm rfl PySem.F.plainAttrs_list PySem.F.slot_list_extend PySem.F.type_list_extend mr_extend (de_fld (f := 5) rfl (de_var (i := 0) rfl (.inl rfl)) T.a_tasks) (da_cons (de_lc rfl nd9 (di_rev rfl T.n_reversed (de_ix (ixr hu1) (de_var (i := 1) rfl (.inl rfl)) de_int)) (blkOk_by (own := [("one", 5)]) (by kernel_rfl)) rfl (fun _ _ _ _ _ => (dtg_nm nd9 rfl (.inl rfl))) (fun _ _ _ _ _ => dts_nil) (fun _ _ _ _ _ => (de_tup (da_cons de_str (da_cons (de_var (i := 5) rfl (.inl rfl)) (da_cons (de_var (i := 2) rfl (.inr (.inl rfl))) da_nil))))) (by decide)) da_nil)))
    dss_nil)) (dss_cons (ds_ifs (dt_cmp (opr_eq hu) (de_var (i := 3) rfl (.inl rfl)) de_str) (dss_cons (ds_expr (de_bm rfl PySem.F.plainAttrs_list PySem.F.slot_list_extend PySem.F.type_list_extend mr_extend (de_fld (f := 5) rfl (de_var (i := 0) rfl (.inl rfl)) T.a_tasks) (da_cons (de_lst (da_cons (de_tup (da_cons de_str (da_cons (de_ix (ixr hu1) (de_var (i := 1) rfl (.inl rfl)) de_int) (da_cons (de_ix (ixr hu1) (de_var (i := 1) rfl (.inl rfl)) de_int) (da_cons (de_var (i := 2) rfl (.inr (.inl rfl))) da_nil))))) (da_cons (de_tup (da_cons de_str (da_cons (de_ix (ixr hu1) (de_var (i := 1) rfl (.inl rfl)) de_int) (da_cons (de_var (i := 2) rfl (.inr (.inl rfl))) da_nil)))) da_nil))) da_nil)))
    dss_nil) (dss_cons (ds_expr (de_bm rfl PySem.F.plainAttrs_list PySem.F.slot_list_extend PySem.F.type_list_extend mr_extend (de_fld (f := 5) rfl (de_var (i := 0) rfl (.inl rfl)) T.a_tasks) (da_cons (de_lst (da_cons (de_tup (da_cons de_str (da_cons (de_ix (ixr hu1) (de_var (i := 1) rfl (.inl rfl)) de_int) (da_cons (de_ix (ixr hu1) (de_var (i := 1) rfl (.inl rfl)) de_int) (da_cons (de_var (i := 2) rfl (.inr (.inl rfl))) da_nil))))) (da_cons (de_tup (da_cons de_str (da_cons (de_ix (ixr hu1) (de_var (i := 1) rfl (.inl rfl)) de_int) (da_cons (de_var (i := 2) rfl (.inr (.inl rfl))) da_nil)))) da_nil))) da_nil)))
    dss_nil))
    dss_nil))
    dss_nil))
    dss_nil))
    dss_nil))
    dss_nil))
    dss_nil))
theorem nd10 : N10.Nodup := by decide +kernel
theorem sc10 : FnScope N10 ["self", "bead", "many", "is_open"] (defScope s10) := ⟨rfl, rfl, rfl, nd10, rfl, by decide +kernel, by decide +kernel⟩
theorem d10 {f : Addr} {cdv : Value} {A : Around} {outer : List Env} {s : Shared} {H : Hp} {E : XK} (T : Tx K mg fd) (L0 : Lv P w K mg base fd k) (L1 : Lv P w K mg base fd (k + 1)) (hr : Room (k + 1) (A.deeper (envOfC "Run.make" (defScope s10) s.heap.objs.size f cdv))) :
    DSs (NN K) (GG k) (cxOf CX0 P w K mg base N10 "Run.make" (defScope s10) f cdv A outer s H E).nox (defBody s10) c10 := by
  have hu := hr.units
  have hu1 : (A.deeper (envOfC "Run.make" (defScope s10) s.heap.objs.size f cdv)).units + 1 < cLine := by omega
  exact (dss_cons (ds_set (i := 4) nd10 rfl (.inl rfl) de_non)
    (dss_cons (ds_ifs (dt_val (de_var (i := 3) rfl (.inl rfl))) (dss_cons (ds_set (i := 4) nd10 rfl (.inl rfl) (de_bm0 rfl PySem.F.plainAttrs_list PySem.F.slot_list_pop PySem.F.type_list_pop mr_pop (de_fld (f := 4) rfl (de_var (i := 0) rfl (.inl rfl)) T.a_piled)))
    dss_nil) dss_nil)
    (dss_cons (ds_set (i := 5) nd10 rfl (.inl rfl) (de_bin opr_sub (de_bi cr_len rfl T.n_len bt_len (da_cons (de_fld (f := 4) rfl (de_var (i := 0) rfl (.inl rfl)) T.a_piled) da_nil)) (de_var (i := 2) rfl (.inl rfl))))
    (dss_cons (ds_putRest (de_fld (f := 4) rfl (de_var (i := 0) rfl (.inl rfl)) T.a_piled) (de_var (i := 5) rfl (.inl rfl)) (de_lst (da_cons (de_tup (da_cons (de_bin opr_add (de_tup (da_cons (de_var (i := 1) rfl (.inl rfl)) da_nil)) (de_ty cr_tuple rfl T.n_tuple bt_tuple (da_cons (de_slc slr (de_fld (f := 4) rfl (de_var (i := 0) rfl (.inl rfl)) T.a_piled) (do_some (de_var (i := 5) rfl (.inl rfl))) do_none) da_nil))) (da_cons (de_var (i := 4) rfl (.inl rfl)) da_nil))) da_nil)))
    (dss_cons (ds_augF_add (f := 3) rfl (de_var (i := 0) rfl (.inl rfl)) de_int T.a_makes)
    dss_nil)))))
theorem nd11 : N11.Nodup := by decide +kernel
theorem sc11 : FnScope N11 ["self"] (defScope s11) := ⟨rfl, rfl, rfl, nd11, rfl, by decide +kernel, by decide +kernel⟩
theorem d11 {f : Addr} {cdv : Value} {A : Around} {outer : List Env} {s : Shared} {H : Hp} {E : XK} (T : Tx K mg fd) (L0 : Lv P w K mg base fd k) (L1 : Lv P w K mg base fd (k + 1)) (hr : Room (k + 1) (A.deeper (envOfC "Run.eaten" (defScope s11) s.heap.objs.size f cdv))) :
    DSs (NN K) (GG k) (cxOf CX0 P w K mg base N11 "Run.eaten" (defScope s11) f cdv A outer s H E).nox (defBody s11) c11 := by
  have hu := hr.units
  have hu1 : (A.deeper (envOfC "Run.eaten" (defScope s11) s.heap.objs.size f cdv)).units + 1 < cLine := by omega
  exact (dss_cons (ds_ret (de_fld (f := 2) rfl (de_var (i := 0) rfl (.inl rfl)) T.a_eats))
    dss_nil)
theorem nd12 : N12.Nodup := by decide +kernel
theorem sc12 : FnScope N12 ["self"] (defScope s12) := ⟨rfl, rfl, rfl, nd12, rfl, by decide +kernel, by decide +kernel⟩
theorem d12 {f : Addr} {cdv : Value} {A : Around} {outer : List Env} {s : Shared} {H : Hp} {E : XK} (T : Tx K mg fd) (L0 : Lv P w K mg base fd k) (L1 : Lv P w K mg base fd (k + 1)) (hr : Room (k + 1) (A.deeper (envOfC "Run.made" (defScope s12) s.heap.objs.size f cdv))) :
    DSs (NN K) (GG k) (cxOf CX0 P w K mg base N12 "Run.made" (defScope s12) f cdv A outer s H E).nox (defBody s12) c12 := by
  have hu := hr.units
  have hu1 : (A.deeper (envOfC "Run.made" (defScope s12) s.heap.objs.size f cdv)).units + 1 < cLine := by omega
  exact (dss_cons (ds_ret (de_fld (f := 3) rfl (de_var (i := 0) rfl (.inl rfl)) T.a_makes))
    dss_nil)
theorem nd13 : N13.Nodup := by decide +kernel
theorem sc13 : FnScope N13 ["self"] (defScope s13) := ⟨rfl, rfl, rfl, nd13, rfl, by decide +kernel, by decide +kernel⟩
theorem d13 {f : Addr} {cdv : Value} {A : Around} {outer : List Env} {s : Shared} {H : Hp} {E : XK} (T : Tx K mg fd) (L0 : Lv P w K mg base fd k) (L1 : Lv P w K mg base fd (k + 1)) (hr : Room (k + 1) (A.deeper (envOfC "Run.outcome" (defScope s13) s.heap.objs.size f cdv))) :
    DSs (NN K) (GG k) (cxOf CX0 P w K mg base N13 "Run.outcome" (defScope s13) f cdv A outer s H E).nox (defBody s13) c13 := by
  have hu := hr.units
  have hu1 : (A.deeper (envOfC "Run.outcome" (defScope s13) s.heap.objs.size f cdv)).units + 1 < cLine := by omega
  exact (dss_cons (ds_ifs (dt_cmp opr_gt (de_bi cr_len rfl T.n_len bt_len (da_cons (de_fld (f := 5) rfl (de_var (i := 0) rfl (.inl rfl)) T.a_tasks) da_nil)) de_int) (dss_cons (ds_ret de_non)
    dss_nil) dss_nil)
    (dss_cons (ds_ifs (dt_val (de_isTup rfl T.n_isinstance rfl T.n_tuple (de_ix (ixr hu1) (de_fld (f := 4) rfl (de_var (i := 0) rfl (.inl rfl)) T.a_piled) de_int))) (dss_cons (ds_ret (de_call L1.f3 hr rfl T.g_unstrung T.k_unstrung T.b3 .nil (fun _ _ => .nil) (xp (E := E0)) (da_cons (de_ix (ixr hu1) (de_fld (f := 4) rfl (de_var (i := 0) rfl (.inl rfl)) T.a_piled) de_int) da_nil) rfl))
    dss_nil) dss_nil)
    (dss_cons (ds_ret (de_ix (ixr hu1) (de_fld (f := 4) rfl (de_var (i := 0) rfl (.inl rfl)) T.a_piled) de_int))
    dss_nil)))
theorem nd14 : N14.Nodup := by decide +kernel
theorem sc14 : FnScope N14 ["program", "f", "args", "most"] (defScope s14) := ⟨rfl, rfl, rfl, nd14, rfl, by decide +kernel, by decide +kernel⟩
theorem d14 {f : Addr} {cdv : Value} {A : Around} {outer : List Env} {s : Shared} {H : Hp} {E : XK} (T : Tx K mg fd) (L0 : Lv P w K mg base fd k) (L1 : Lv P w K mg base fd (k + 1)) (hr : Room (k + 1) (A.deeper (envOfC "ran" (defScope s14) s.heap.objs.size f cdv))) :
    DSs (NN K) (GG k) (cxOf CX0 P w K mg base N14 "ran" (defScope s14) f cdv A outer s H E).nox (defBody s14) c14 := by
  have hu := hr.units
  have hu1 : (A.deeper (envOfC "ran" (defScope s14) s.heap.objs.size f cdv)).units + 1 < cLine := by omega
  exact (dss_cons (ds_set (i := 4) nd14 rfl (.inl rfl) (de_make (c := 0) T.mk_Run L0.f5 hr rfl T.g_Run T.b5 .nil (fun _ _ => .nil) (xp (E := E0)) (da_cons (de_var (i := 0) rfl (.inl rfl)) (da_cons (de_var (i := 1) rfl (.inl rfl)) (da_cons (de_var (i := 2) rfl (.inl rfl)) da_nil))) rfl))
    (dss_cons (ds_whl PassesOwn.never (dt_val (de_meth0 (m := 0) (Cl := [0]) (pl := _) (fun C_ h_ => ⟨mt0 T L1 C_ h_⟩) (no0 _ _) hr (xp (E := E0)) (de_var (i := 4) rfl (.inl rfl)) rfl (ne0 K))) (dss_cons (ds_ifs (dt_cmp opr_gt (de_bin opr_add (de_meth0 (m := 5) (Cl := [0, 1]) (pl := _) (fun C_ h_ => ⟨mt5 T L1 C_ h_⟩) (no5 _ _) hr (xp (E := E0)) (de_var (i := 4) rfl (.inl rfl)) rfl (ne5 K)) (de_meth0 (m := 6) (Cl := [0]) (pl := _) (fun C_ h_ => ⟨mt6 T L1 C_ h_⟩) (no6 _ _) hr (xp (E := E0)) (de_var (i := 4) rfl (.inl rfl)) rfl (ne6 K))) (de_var (i := 3) rfl (.inl rfl))) (dss_cons ds_never
    dss_nil) dss_nil)
    dss_nil))
    (dss_cons (ds_ret (de_tup (da_cons (de_meth0 (m := 7) (Cl := [0]) (pl := _) (fun C_ h_ => ⟨mt7 T L1 C_ h_⟩) (no7 _ _) hr (xp (E := E0)) (de_var (i := 4) rfl (.inl rfl)) rfl (ne7 K)) (da_cons (de_meth0 (m := 5) (Cl := [0, 1]) (pl := _) (fun C_ h_ => ⟨mt5 T L1 C_ h_⟩) (no5 _ _) hr (xp (E := E0)) (de_var (i := 4) rfl (.inl rfl)) rfl (ne5 K)) (da_cons (de_meth0 (m := 6) (Cl := [0]) (pl := _) (fun C_ h_ => ⟨mt6 T L1 C_ h_⟩) (no6 _ _) hr (xp (E := E0)) (de_var (i := 4) rfl (.inl rfl)) rfl (ne6 K)) da_nil)))))
    dss_nil)))
theorem nd15 : N15.Nodup := by decide +kernel
theorem sc15 : FnScope N15 ["term"] (defScope s15) := ⟨rfl, rfl, rfl, nd15, rfl, by decide +kernel, by decide +kernel⟩
theorem d15 {f : Addr} {cdv : Value} {A : Around} {outer : List Env} {s : Shared} {H : Hp} {E : XK} (T : Tx K mg fd) (L0 : Lv P w K mg base fd k) (L1 : Lv P w K mg base fd (k + 1)) (hr : Room (k + 1) (A.deeper (envOfC "terms_right_in" (defScope s15) s.heap.objs.size f cdv))) :
    DSs (NN K) (GG k) (cxOf CX0 P w K mg base N15 "terms_right_in" (defScope s15) f cdv A outer s H E).nox (defBody s15) c15 := by
  have hu := hr.units
  have hu1 : (A.deeper (envOfC "terms_right_in" (defScope s15) s.heap.objs.size f cdv)).units + 1 < cLine := by omega
  exact (dss_cons (ds_set (i := 1) nd15 rfl (.inl rfl) (de_ix (ixr hu1) (de_var (i := 0) rfl (.inl rfl)) de_int))
    (dss_cons (ds_ifs (dt_cmp (opr_in hu) (de_var (i := 1) rfl (.inl rfl)) (de_tup (da_cons de_str (da_cons de_str da_nil)))) (dss_cons (ds_ret (de_tup da_nil))
    dss_nil) dss_nil)
    (dss_cons (ds_ifs (dt_cmp (opr_in hu) (de_var (i := 1) rfl (.inl rfl)) (de_tup (da_cons de_str (da_cons de_str da_nil)))) (dss_cons (ds_ret (de_slc slr (de_var (i := 0) rfl (.inl rfl)) (do_some de_int) do_none))
    dss_nil) dss_nil)
    (dss_cons (ds_ifs (dt_cmp (opr_eq hu) (de_var (i := 1) rfl (.inl rfl)) de_str) (dss_cons (ds_ret (de_slc slr (de_var (i := 0) rfl (.inl rfl)) (do_some de_int) do_none))
    dss_nil) dss_nil)
    (dss_cons (ds_ifs (dt_w (dw_and (dt_cmp (opr_eq hu) (de_var (i := 1) rfl (.inl rfl)) de_str) (dw_and1 (dt_cmp opr_notN (de_ix (ixr hu1) (de_var (i := 0) rfl (.inl rfl)) de_int) de_non)))) (dss_cons (ds_ret (de_bin opr_add (de_ix (ixr hu1) (de_var (i := 0) rfl (.inl rfl)) de_int) (de_tup (da_cons (de_ix (ixr hu1) (de_var (i := 0) rfl (.inl rfl)) de_int) da_nil))))
    dss_nil) dss_nil)
    (dss_cons (ds_ret (de_ix (ixr hu1) (de_var (i := 0) rfl (.inl rfl)) de_int))
    dss_nil))))))
theorem nd16 : N16.Nodup := by decide +kernel
theorem sc16 : FnScope N16 ["term"] (defScope s16) := ⟨rfl, rfl, rfl, nd16, rfl, by decide +kernel, by decide +kernel⟩
theorem d16 {f : Addr} {cdv : Value} {A : Around} {outer : List Env} {s : Shared} {H : Hp} {E : XK} (T : Tx K mg fd) (L0 : Lv P w K mg base fd k) (L1 : Lv P w K mg base fd (k + 1)) (hr : Room (k + 1) (A.deeper (envOfC "parts_at_levels" (defScope s16) s.heap.objs.size f cdv))) :
    DSs (NN K) (GG k) (cxOf CX0 P w K mg base N16 "parts_at_levels" (defScope s16) f cdv A outer s H E).nox (defBody s16) c16 := by
  have hu := hr.units
  have hu1 : (A.deeper (envOfC "parts_at_levels" (defScope s16) s.heap.objs.size f cdv)).units + 1 < cLine := by omega
  exact (dss_cons (ds_set (i := 1) nd16 rfl (.inl rfl) (de_lst da_nil))
    (dss_cons (ds_set (i := 2) nd16 rfl (.inl rfl) (de_lst (da_cons (de_tup (da_cons (de_var (i := 0) rfl (.inl rfl)) (da_cons de_int da_nil))) da_nil)))
    (dss_cons (ds_whl PassesOwn.never (dt_cmp opr_gt (de_bi cr_len rfl T.n_len bt_len (da_cons (de_var (i := 2) rfl (.inl rfl)) da_nil)) de_int) (dss_cons (ds_asgG (de_bm0 rfl PySem.F.plainAttrs_list PySem.F.slot_list_pop PySem.F.type_list_pop mr_pop (de_var (i := 2) rfl (.inl rfl))) (dg_tp (dtg_tp rfl (dtgs_cons (dtg_nm nd16 rfl (.inl rfl)) (dtgs_cons (dtg_nm nd16 rfl (.inr rfl)) dtgs_nil)) rfl)))
    (dss_cons (ds_expr (de_bm rfl PySem.F.plainAttrs_list PySem.F.slot_list_append PySem.F.type_list_append mr_append (de_var (i := 1) rfl (.inl rfl)) (da_cons (de_tup (da_cons (de_var (i := 3) rfl (.inl rfl)) (da_cons (de_var (i := 4) rfl (.inr (.inl rfl))) da_nil))) da_nil)))
    (dss_cons (ds_expr (de_bm rfl PySem.F.plainAttrs_list PySem.F.slot_list_extend PySem.F.type_list_extend mr_extend (de_var (i := 2) rfl (.inl rfl)) (da_cons (de_lc rfl nd16 (di_rev rfl T.n_reversed (de_call L1.f15 hr rfl T.g_terms_right_in T.k_terms_right_in T.b15 .nil (fun _ _ => .nil) (xp (E := E0)) (da_cons (de_var (i := 3) rfl (.inl rfl)) da_nil) rfl)) (blkOk_by (own := [("one", 5)]) (by kernel_rfl)) rfl (fun _ _ _ _ _ => (dtg_nm nd16 rfl (.inl rfl))) (fun _ _ _ _ _ => dts_nil) (fun _ _ _ _ _ => (de_tup (da_cons (de_var (i := 5) rfl (.inl rfl)) (da_cons (de_bin opr_add (de_var (i := 4) rfl (.inr (.inl rfl))) de_int) da_nil)))) (by decide)) da_nil)))
    dss_nil))))
    (dss_cons (ds_ret (de_var (i := 1) rfl (.inl rfl)))
    dss_nil))))
theorem nd17 : N17.Nodup := by decide +kernel
theorem sc17 : FnScope N17 ["term"] (defScope s17) := ⟨rfl, rfl, rfl, nd17, rfl, by decide +kernel, by decide +kernel⟩
theorem d17 {f : Addr} {cdv : Value} {A : Around} {outer : List Env} {s : Shared} {H : Hp} {E : XK} (T : Tx K mg fd) (L0 : Lv P w K mg base fd k) (L1 : Lv P w K mg base fd (k + 1)) (hr : Room (k + 1) (A.deeper (envOfC "parts" (defScope s17) s.heap.objs.size f cdv))) :
    DSs (NN K) (GG k) (cxOf CX0 P w K mg base N17 "parts" (defScope s17) f cdv A outer s H E).nox (defBody s17) c17 := by
  have hu := hr.units
  have hu1 : (A.deeper (envOfC "parts" (defScope s17) s.heap.objs.size f cdv)).units + 1 < cLine := by omega
  exact (dss_cons (ds_ret (de_lc rfl nd17 (di_val (de_call L1.f16 hr rfl T.g_parts_at_levels T.k_parts_at_levels T.b16 .nil (fun _ _ => .nil) (xp (E := E0)) (da_cons (de_var (i := 0) rfl (.inl rfl)) da_nil) rfl)) (blkOk_by (own := [("part", 1), ("level", 2)]) (by kernel_rfl)) rfl (fun _ _ _ _ _ => (dtg_tp rfl (dtgs_cons (dtg_nm nd17 rfl (.inl rfl)) (dtgs_cons (dtg_nm nd17 rfl (.inl rfl)) dtgs_nil)) rfl)) (fun _ _ _ _ _ => dts_nil) (fun _ _ _ _ _ => (de_var (i := 1) rfl (.inl rfl))) (by decide)))
    dss_nil)
theorem nd18 : N18.Nodup := by decide +kernel
theorem sc18 : FnScope N18 ["string"] (defScope s18) := ⟨rfl, rfl, rfl, nd18, rfl, by decide +kernel, by decide +kernel⟩
theorem d18 {f : Addr} {cdv : Value} {A : Around} {outer : List Env} {s : Shared} {H : Hp} {E : XK} (T : Tx K mg fd) (L0 : Lv P w K mg base fd k) (L1 : Lv P w K mg base fd (k + 1)) (hr : Room (k + 1) (A.deeper (envOfC "long_of" (defScope s18) s.heap.objs.size f cdv))) :
    DSs (NN K) (GG k) (cxOf CX0 P w K mg base N18 "long_of" (defScope s18) f cdv A outer s H E).nox (defBody s18) c18 := by
  have hu := hr.units
  have hu1 : (A.deeper (envOfC "long_of" (defScope s18) s.heap.objs.size f cdv)).units + 1 < cLine := by omega
  exact (dss_cons (ds_set (i := 1) nd18 rfl (.inl rfl) de_int)
    (dss_cons (ds_whl PassesOwn.never (dt_cmp opr_notN (de_var (i := 0) rfl (.inl rfl)) de_non) (dss_cons (ds_set (i := 0) nd18 rfl (.inl rfl) (de_ix (ixr hu1) (de_var (i := 0) rfl (.inl rfl)) de_int))
    (dss_cons (ds_augN_add (i := 1) nd18 rfl (.inl rfl) de_int)
    dss_nil)))
    (dss_cons (ds_ret (de_var (i := 1) rfl (.inl rfl)))
    dss_nil)))
theorem nd19 : N19.Nodup := by decide +kernel
theorem sc19 : FnScope N19 ["self", "program", "f", "args"] (defScope s19) := ⟨rfl, rfl, rfl, nd19, rfl, by decide +kernel, by decide +kernel⟩
theorem d19 {f : Addr} {cdv : Value} {A : Around} {outer : List Env} {s : Shared} {H : Hp} {E : XK} (T : Tx K mg fd) (L0 : Lv P w K mg base fd k) (L1 : Lv P w K mg base fd (k + 1)) (hr : Room (k + 1) (A.deeper (envOfC "Feed.__init__" (defScope s19) s.heap.objs.size f cdv))) :
    DSs (NN K) (GG k) (cxOf CX0 P w K mg base N19 "Feed.__init__" (defScope s19) f cdv A outer s H E).nox (defBody s19) c19 := by
  have hu := hr.units
  have hu1 : (A.deeper (envOfC "Feed.__init__" (defScope s19) s.heap.objs.size f cdv)).units + 1 < cLine := by omega
  exact (dss_cons (ds_fld (f := 6) rfl (de_var (i := 0) rfl (.inl rfl)) (de_var (i := 1) rfl (.inl rfl)) T.a_rules)
    (dss_cons (ds_fld (f := 1) rfl (de_var (i := 0) rfl (.inl rfl)) (de_dc rfl nd19 (di_val (de_ix (ixr hu1) (de_var (i := 1) rfl (.inl rfl)) de_int)) (blkOk_by (own := [("function", 4)]) (by kernel_rfl)) rfl (fun _ _ _ _ _ => (dtg_nm nd19 rfl (.inl rfl))) (fun _ _ _ _ _ => dts_nil) (fun _ _ _ _ _ => (de_ix (ixr hu1) (de_var (i := 4) rfl (.inl rfl)) de_int)) (fun _ _ _ _ _ => (de_var (i := 4) rfl (.inl rfl))) (by decide)) T.a_functions)
    (dss_cons (ds_fld (f := 2) rfl (de_var (i := 0) rfl (.inl rfl)) de_int T.a_eats)
    (dss_cons (ds_fld (f := 7) rfl (de_var (i := 0) rfl (.inl rfl)) (de_tup (da_cons de_str (da_cons (de_var (i := 2) rfl (.inl rfl)) (da_cons (de_lc rfl nd19 (di_val (de_var (i := 3) rfl (.inl rfl))) (blkOk_by (own := [("thing", 5)]) (by kernel_rfl)) rfl (fun _ _ _ _ _ => (dtg_nm nd19 rfl (.inl rfl))) (fun _ _ _ _ _ => dts_nil) (fun _ _ _ _ _ => (de_ifx (dt_val (de_isTup rfl T.n_isinstance rfl T.n_tuple (de_var (i := 5) rfl (.inl rfl)))) (de_call L1.f2 hr rfl T.g_strung T.k_strung T.b2 .nil (fun _ _ => .nil) (xp (E := E0)) (da_cons (de_var (i := 5) rfl (.inl rfl)) da_nil) rfl) (de_var (i := 5) rfl (.inl rfl)))) (by decide)) da_nil)))) T.a_waits)
    dss_nil))))
theorem nd20 : N20.Nodup := by decide +kernel
theorem sc20 : FnScope N20 ["self"] (defScope s20) := ⟨rfl, rfl, rfl, nd20, rfl, by decide +kernel, by decide +kernel⟩
theorem d20 {f : Addr} {cdv : Value} {A : Around} {outer : List Env} {s : Shared} {H : Hp} {E : XK} (T : Tx K mg fd) (L0 : Lv P w K mg base fd k) (L1 : Lv P w K mg base fd (k + 1)) (hr : Room (k + 1) (A.deeper (envOfC "Feed.bead" (defScope s20) s.heap.objs.size f cdv))) :
    DSs (NN K) (GG k) (cxOf CX0 P w K mg base N20 "Feed.bead" (defScope s20) f cdv A outer s H E).nox (defBody s20) c20 := by
  have hu := hr.units
  have hu1 : (A.deeper (envOfC "Feed.bead" (defScope s20) s.heap.objs.size f cdv)).units + 1 < cLine := by omega
  exact (dss_cons (ds_whl PassesOwn.never (dt_cmp opr_notN (de_fld (f := 7) rfl (de_var (i := 0) rfl (.inr (.inl rfl))) T.a_waits) de_non) (dss_cons (ds_asgG (de_fld (f := 7) rfl (de_var (i := 0) rfl (.inr (.inl rfl))) T.a_waits) (dg_tp (dtg_tp rfl (dtgs_cons (dtg_nm nd20 rfl (.inl rfl)) (dtgs_cons (dtg_nm nd20 rfl (.inl rfl)) (dtgs_cons (dtg_nm nd20 rfl (.inr rfl)) dtgs_nil))) rfl)))
    (dss_cons (ds_ifs (dt_cmp (opr_eq hu) (de_var (i := 1) rfl (.inl rfl)) de_str) (dss_cons (ds_asgG (de_var (i := 2) rfl (.inl rfl)) (dg_tp (dtg_tp rfl (dtgs_cons (dtg_nm nd20 rfl (.inl rfl)) (dtgs_cons (dtg_nm nd20 rfl (.inl rfl)) dtgs_nil)) rfl)))
    (dss_cons (ds_fld (f := 7) rfl (de_var (i := 0) rfl (.inr (.inl rfl))) (de_ifx (dt_cmp opr_isN (de_var (i := 5) rfl (.inl rfl)) de_non) de_non (de_tup (da_cons de_str (da_cons (de_var (i := 5) rfl (.inl rfl)) (da_cons de_non da_nil))))) T.a_waits)
    (dss_cons (ds_ret (de_var (i := 4) rfl (.inl rfl)))
    dss_nil))) dss_nil)
    (dss_cons (ds_ifs (dt_cmp (opr_eq hu) (de_var (i := 1) rfl (.inl rfl)) de_str) (dss_cons (ds_expr (de_meth (m := 1) (Cl := [0, 1]) (pl := _) (fun C_ h_ => ⟨mt1 T L1 C_ h_⟩) (no1 _ _) hr (xp (E := E0)) (de_var (i := 0) rfl (.inr (.inl rfl))) (da_cons (de_var (i := 2) rfl (.inl rfl)) (da_cons (de_var (i := 3) rfl (.inr (.inl rfl))) da_nil)) rfl (ne1 K)))
    dss_nil) (dss_cons (ds_ifs (dt_cmp (opr_eq hu) (de_ix (ixr hu1) (de_var (i := 2) rfl (.inl rfl)) de_int) de_str) (dss_cons (ds_setLc (i := 6) rfl nd20 rfl rfl rfl (di_val (de_ix (ixr hu1) (de_var (i := 2) rfl (.inl rfl)) de_int)) (blkOk_by (own := [("term", 7)]) (by kernel_rfl)) rfl (fun _ _ _ _ _ => (dtg_nm nd20 rfl (.inl rfl))) (fun _ _ _ _ _ => dts_nil) (fun _ _ _ _ _ => (de_meth (m := 12) (Cl := [1]) (pl := _) (fun C_ h_ => ⟨mt12 T L1 C_ h_⟩) (no12 _ _) hr (xp (E := E0)) (de_var (i := 0) rfl (.inr (.inl rfl))) (da_cons (de_var (i := 7) rfl (.inl rfl)) (da_cons (de_var (i := 3) rfl (.inr (.inl rfl))) da_nil)) rfl (ne12 K))) (by decide))
    (dss_cons (ds_fld (f := 7) rfl (de_var (i := 0) rfl (.inr (.inl rfl))) (de_ifx (dt_cmp opr_isN (de_ix (ixr hu1) (de_var (i := 2) rfl (.inl rfl)) de_int) de_non) de_non (de_tup (da_cons de_str (da_cons (de_ix (ixr hu1) (de_var (i := 2) rfl (.inl rfl)) de_int) (da_cons (de_var (i := 3) rfl (.inr (.inl rfl))) da_nil))))) T.a_waits)
    (dss_cons (ds_ret (de_bin opr_add (de_tup (da_cons (de_ix (ixr hu1) (de_var (i := 2) rfl (.inl rfl)) de_int) da_nil)) (de_ty cr_tuple rfl T.n_tuple bt_tuple (da_cons (de_var (i := 6) rfl (.inl rfl)) da_nil))))
    dss_nil))) (dss_cons (ds_fld (f := 7) rfl (de_var (i := 0) rfl (.inr (.inl rfl))) (de_meth (m := 9) (Cl := [1]) (pl := _) (fun C_ h_ => ⟨mt9 T L1 C_ h_⟩) (no9 _ _) hr (xp (E := E0)) (de_var (i := 0) rfl (.inr (.inl rfl))) (da_cons (de_var (i := 2) rfl (.inl rfl)) (da_cons (de_var (i := 3) rfl (.inr (.inl rfl))) da_nil)) rfl (ne9 K)) T.a_waits)
    dss_nil))
    dss_nil))
    dss_nil))))
    (dss_cons (ds_ret de_non)
    dss_nil))
theorem nd21 : N21.Nodup := by decide +kernel
theorem sc21 : FnScope N21 ["self", "f", "args"] (defScope s21) := ⟨rfl, rfl, rfl, nd21, rfl, by decide +kernel, by decide +kernel⟩
theorem d21 {f : Addr} {cdv : Value} {A : Around} {outer : List Env} {s : Shared} {H : Hp} {E : XK} (T : Tx K mg fd) (L0 : Lv P w K mg base fd k) (L1 : Lv P w K mg base fd (k + 1)) (hr : Room (k + 1) (A.deeper (envOfC "Feed.eat" (defScope s21) s.heap.objs.size f cdv))) :
    DSs (NN K) (GG k) (cxOf CX0 P w K mg base N21 "Feed.eat" (defScope s21) f cdv A outer s H E).nox (defBody s21) c21 := by
  have hu := hr.units
  have hu1 : (A.deeper (envOfC "Feed.eat" (defScope s21) s.heap.objs.size f cdv)).units + 1 < cLine := by omega
  exact (dss_cons (ds_asgG (de_ix (ixr hu1) (de_fld (f := 1) rfl (de_var (i := 0) rfl (.inl rfl)) T.a_functions) (de_var (i := 1) rfl (.inl rfl))) (dg_tp (dtg_tp rfl (dtgs_cons (dtg_nm nd21 rfl (.inl rfl)) (dtgs_cons (dtg_nm nd21 rfl (.inl rfl)) (dtgs_cons (dtg_nm nd21 rfl (.inl rfl)) (dtgs_cons (dtg_nm nd21 rfl (.inl rfl)) dtgs_nil)))) rfl)))
    (dss_cons (ds_asgG (de_ix (ixr hu1) (de_var (i := 2) rfl (.inl rfl)) de_int) (dg_tp (dtg_tp rfl (dtgs_cons (dtg_nm nd21 rfl (.inl rfl)) (dtgs_cons (dtg_nm nd21 rfl (.inl rfl)) dtgs_nil)) rfl)))
    (dss_cons (ds_asgG (de_ix (ixr hu1) (de_var (i := 6) rfl (.inl rfl)) (de_ix (ixr hu1) (de_call L1.f1 hr rfl T.g_bead_of T.k_bead_of T.b1 .nil (fun _ _ => .nil) (xp (E := E0)) (da_cons (de_ix (ixr hu1) (de_fld (f := 6) rfl (de_var (i := 0) rfl (.inl rfl)) T.a_rules) de_int) (da_cons (de_ix (ixr hu1) (de_var (i := 7) rfl (.inl rfl)) de_int) da_nil)) rfl) de_int)) (dg_tp (dtg_tp rfl (dtgs_cons (dtg_nm nd21 rfl (.inl rfl)) (dtgs_cons (dtg_nm nd21 rfl (.inl rfl)) dtgs_nil)) rfl)))
    (dss_cons (ds_setDc (i := 11) rfl nd21 rfl rfl rfl (di_zip rfl T.n_zip (de_slc slr (de_var (i := 4) rfl (.inl rfl)) (do_some de_int) do_none) (de_slc slr (de_var (i := 2) rfl (.inl rfl)) (do_some de_int) do_none)) (blkOk_by (own := [("x", 12), ("kind", 13), ("arg", 14)]) (by kernel_rfl)) rfl (fun _ _ _ _ _ => (dtg_tp rfl (dtgs_cons (dtg_tp rfl (dtgs_cons (dtg_nm nd21 rfl (.inl rfl)) (dtgs_cons (dtg_nm nd21 rfl (.inl rfl)) dtgs_nil)) rfl) (dtgs_cons (dtg_nm nd21 rfl (.inl rfl)) dtgs_nil)) rfl)) (fun _ _ _ _ _ => dts_nil) (fun _ _ _ _ _ => (de_var (i := 12) rfl (.inl rfl))) (fun _ _ _ _ _ => (de_var (i := 14) rfl (.inl rfl))) (by decide))
    (dss_cons (ds_expr (de_bm rfl PySem.F.plainAttrs_dict PySem.F.slot_dict_update PySem.F.type_dict_update mr_update (de_var (i := 11) rfl (.inl rfl)) (da_cons (de_dc rfl nd21 (di_zip rfl T.n_zip (de_var (i := 9) rfl (.inl rfl)) (de_bin opr_add (de_slc slr (de_var (i := 7) rfl (.inl rfl)) (do_some de_int) do_none) (de_tup (da_cons (de_var (i := 8) rfl (.inl rfl)) da_nil)))) (blkOk_by (own := [("x", 12), ("value", 15)]) (by kernel_rfl)) rfl (fun _ _ _ _ _ => (dtg_tp rfl (dtgs_cons (dtg_nm nd21 rfl (.inl rfl)) (dtgs_cons (dtg_nm nd21 rfl (.inl rfl)) dtgs_nil)) rfl)) (fun _ _ _ _ _ => dts_nil) (fun _ _ _ _ _ => (de_var (i := 12) rfl (.inl rfl))) (fun _ _ _ _ _ => (de_var (i := 15) rfl (.inl rfl))) (by decide)) da_nil)))
    (dss_cons (ds_augF_add (f := 2) rfl (de_var (i := 0) rfl (.inl rfl)) de_int T.a_eats)
    (dss_cons (ds_fld (f := 7) rfl (de_var (i := 0) rfl (.inl rfl)) (de_tup (da_cons de_str (da_cons (de_var (i := 10) rfl (.inl rfl)) (da_cons (de_var (i := 11) rfl (.inl rfl)) da_nil)))) T.a_waits)
    dss_nil)))))))
theorem nd22 : N22.Nodup := by decide +kernel
theorem sc22 : FnScope N22 ["self", "term", "known"] (defScope s22) := ⟨rfl, rfl, rfl, nd22, rfl, by decide +kernel, by decide +kernel⟩
theorem d22 {f : Addr} {cdv : Value} {A : Around} {outer : List Env} {s : Shared} {H : Hp} {E : XK} (T : Tx K mg fd) (L0 : Lv P w K mg base fd k) (L1 : Lv P w K mg base fd (k + 1)) (hr : Room (k + 1) (A.deeper (envOfC "Feed.behind" (defScope s22) s.heap.objs.size f cdv))) :
    DSs (NN K) (GG k) (cxOf CX0 P w K mg base N22 "Feed.behind" (defScope s22) f cdv A outer s H E).nox (defBody s22) c22 := by
  have hu := hr.units
  have hu1 : (A.deeper (envOfC "Feed.behind" (defScope s22) s.heap.objs.size f cdv)).units + 1 < cLine := by omega
  exact (dss_cons (ds_ifs (dt_cmp (opr_eq hu) (de_ix (ixr hu1) (de_var (i := 1) rfl (.inl rfl)) de_int) de_str) (dss_cons (ds_ret (de_tup (da_cons de_str (da_cons (de_ix (ixr hu1) (de_var (i := 2) rfl (.inl rfl)) (de_ix (ixr hu1) (de_var (i := 1) rfl (.inl rfl)) de_int)) (da_cons de_non da_nil)))))
    dss_nil) dss_nil)
    (dss_cons (ds_ifs (dt_cmp (opr_eq hu) (de_ix (ixr hu1) (de_var (i := 1) rfl (.inl rfl)) de_int) de_str) (dss_cons (ds_ret (de_tup (da_cons de_str (da_cons (de_ix (ixr hu1) (de_var (i := 1) rfl (.inl rfl)) de_int) (da_cons (de_meth (m := 11) (Cl := [1]) (pl := _) (fun C_ h_ => ⟨mt11 T L1 C_ h_⟩) (no11 _ _) hr (xp (E := E0)) (de_var (i := 0) rfl (.inl rfl)) (da_cons (de_ix (ixr hu1) (de_var (i := 1) rfl (.inl rfl)) de_int) (da_cons (de_var (i := 2) rfl (.inl rfl)) da_nil)) rfl (ne11 K)) da_nil)))))
    dss_nil) dss_nil)
    (dss_cons (ds_ifs (dt_cmp (opr_eq hu) (de_ix (ixr hu1) (de_var (i := 1) rfl (.inl rfl)) de_int) de_str) (dss_cons (ds_ret (de_tup (da_cons de_str (da_cons (de_ix (ixr hu1) (de_var (i := 1) rfl (.inl rfl)) (de_bin opr_add de_int (de_ty cr_int rfl T.n_int bt_int (da_cons (de_cmp (opr_eq hu) (de_meth (m := 12) (Cl := [1]) (pl := _) (fun C_ h_ => ⟨mt12 T L1 C_ h_⟩) (no12 _ _) hr (xp (E := E0)) (de_var (i := 0) rfl (.inl rfl)) (da_cons (de_ix (ixr hu1) (de_var (i := 1) rfl (.inl rfl)) de_int) (da_cons (de_var (i := 2) rfl (.inl rfl)) da_nil)) rfl (ne12 K)) de_int) da_nil)))) (da_cons (de_var (i := 2) rfl (.inl rfl)) da_nil)))))
    dss_nil) dss_nil)
    (dss_cons (ds_ret (de_tup (da_cons de_str (da_cons (de_ix (ixr hu1) (de_var (i := 1) rfl (.inl rfl)) de_int) (da_cons (de_meth (m := 10) (Cl := [1]) (pl := _) (fun C_ h_ => ⟨mt10 T L1 C_ h_⟩) (no10 _ _) hr (xp (E := E0)) (de_var (i := 0) rfl (.inl rfl)) (da_cons (de_var (i := 1) rfl (.inl rfl)) (da_cons (de_var (i := 2) rfl (.inl rfl)) da_nil)) rfl (ne10 K)) da_nil)))))
    dss_nil))))
theorem nd23 : N23.Nodup := by decide +kernel
theorem sc23 : FnScope N23 ["self", "term", "known"] (defScope s23) := ⟨rfl, rfl, rfl, nd23, rfl, by decide +kernel, by decide +kernel⟩
theorem d23 {f : Addr} {cdv : Value} {A : Around} {outer : List Env} {s : Shared} {H : Hp} {E : XK} (T : Tx K mg fd) (L0 : Lv P w K mg base fd k) (L1 : Lv P w K mg base fd (k + 1)) (hr : Room (k + 1) (A.deeper (envOfC "Feed.with_name" (defScope s23) s.heap.objs.size f cdv))) :
    DSs (NN K) (GG k) (cxOf CX0 P w K mg base N23 "Feed.with_name" (defScope s23) f cdv A outer s H E).nox (defBody s23) c23 := by
  have hu := hr.units
  have hu1 : (A.deeper (envOfC "Feed.with_name" (defScope s23) s.heap.objs.size f cdv)).units + 1 < cLine := by omega
  exact (dss_cons (ds_set (i := 3) nd23 rfl (.inl rfl) (de_ty cr_dict rfl T.n_dict bt_dict (da_cons (de_var (i := 2) rfl (.inl rfl)) da_nil)))
    (dss_cons (ds_dput hu1 (de_var (i := 3) rfl (.inl rfl)) (de_ix (ixr hu1) (de_var (i := 1) rfl (.inl rfl)) de_int) (de_meth (m := 12) (Cl := [1]) (pl := _) (fun C_ h_ => ⟨mt12 T L1 C_ h_⟩) (no12 _ _) hr (xp (E := E0)) (de_var (i := 0) rfl (.inl rfl)) (da_cons (de_ix (ixr hu1) (de_var (i := 1) rfl (.inl rfl)) de_int) (da_cons (de_var (i := 2) rfl (.inl rfl)) da_nil)) rfl (ne12 K)))
    (dss_cons (ds_ret (de_var (i := 3) rfl (.inl rfl)))
    dss_nil)))
theorem nd24 : N24.Nodup := by decide +kernel
theorem sc24 : FnScope N24 ["self", "terms", "known"] (defScope s24) := ⟨rfl, rfl, rfl, nd24, rfl, by decide +kernel, by decide +kernel⟩
theorem d24 {f : Addr} {cdv : Value} {A : Around} {outer : List Env} {s : Shared} {H : Hp} {E : XK} (T : Tx K mg fd) (L0 : Lv P w K mg base fd k) (L1 : Lv P w K mg base fd (k + 1)) (hr : Room (k + 1) (A.deeper (envOfC "Feed.arguments" (defScope s24) s.heap.objs.size f cdv))) :
    DSs (NN K) (GG k) (cxOf CX0 P w K mg base N24 "Feed.arguments" (defScope s24) f cdv A outer s H E).nox (defBody s24) c24 := by
  have hu := hr.units
  have hu1 : (A.deeper (envOfC "Feed.arguments" (defScope s24) s.heap.objs.size f cdv)).units + 1 < cLine := by omega
  exact (dss_cons (ds_set (i := 3) nd24 rfl (.inl rfl) (de_lst da_nil))
    (dss_cons (ds_for PassesOwn.never rfl (di_val (de_var (i := 1) rfl (.inl rfl))) (dtg_nm nd24 rfl (.inl rfl)) (dss_cons (ds_ifs (dt_cmp (opr_eq hu) (de_ix (ixr hu1) (de_var (i := 4) rfl (.inl rfl)) de_int) de_str) (dss_cons (ds_expr (de_bm rfl PySem.F.plainAttrs_list PySem.F.slot_list_append PySem.F.type_list_append mr_append (de_var (i := 3) rfl (.inl rfl)) (da_cons (de_ix (ixr hu1) (de_var (i := 2) rfl (.inl rfl)) (de_ix (ixr hu1) (de_var (i := 4) rfl (.inl rfl)) de_int)) da_nil)))
    dss_nil) (dss_cons (ds_expr (de_bm rfl PySem.F.plainAttrs_list PySem.F.slot_list_append PySem.F.type_list_append mr_append (de_var (i := 3) rfl (.inl rfl)) (da_cons (de_meth (m := 12) (Cl := [1]) (pl := _) (fun C_ h_ => ⟨mt12 T L1 C_ h_⟩) (no12 _ _) hr (xp (E := E0)) (de_var (i := 0) rfl (.inl rfl)) (da_cons (de_var (i := 4) rfl (.inl rfl)) (da_cons (de_var (i := 2) rfl (.inl rfl)) da_nil)) rfl (ne12 K)) da_nil)))
    dss_nil))
    dss_nil))
    (dss_cons (ds_ret (de_var (i := 3) rfl (.inl rfl)))
    dss_nil)))
theorem nd25 : N25.Nodup := by decide +kernel
theorem sc25 : FnScope N25 ["self", "term", "known"] (defScope s25) := ⟨rfl, rfl, rfl, nd25, rfl, by decide +kernel, by decide +kernel⟩
theorem d25 {f : Addr} {cdv : Value} {A : Around} {outer : List Env} {s : Shared} {H : Hp} {E : XK} (T : Tx K mg fd) (L0 : Lv P w K mg base fd k) (L1 : Lv P w K mg base fd (k + 1)) (hr : Room (k + 1) (A.deeper (envOfC "Feed.number" (defScope s25) s.heap.objs.size f cdv))) :
    DSs (NN K) (GG k) (cxOf CX0 P w K mg base N25 "Feed.number" (defScope s25) f cdv A outer s H E).nox (defBody s25) c25 := by
  have hu := hr.units
  have hu1 : (A.deeper (envOfC "Feed.number" (defScope s25) s.heap.objs.size f cdv)).units + 1 < cLine := by omega
  exact (dss_cons (ds_ifs (dt_cmp (opr_eq hu) (de_ix (ixr hu1) (de_var (i := 1) rfl (.inl rfl)) de_int) de_str) (dss_cons (ds_ret (de_ix (ixr hu1) (de_var (i := 1) rfl (.inl rfl)) de_int))
    dss_nil) dss_nil)
    (dss_cons (ds_ifs (dt_cmp (opr_eq hu) (de_ix (ixr hu1) (de_var (i := 1) rfl (.inl rfl)) de_int) de_str) (dss_cons (ds_ret (de_ix (ixr hu1) (de_var (i := 2) rfl (.inl rfl)) (de_ix (ixr hu1) (de_var (i := 1) rfl (.inl rfl)) de_int)))
    dss_nil) dss_nil)
    (dss_cons (ds_ifs (dt_cmp (opr_eq hu) (de_ix (ixr hu1) (de_var (i := 1) rfl (.inl rfl)) de_int) de_str) (dss_cons (ds_set (i := 3) nd25 rfl (.inl rfl) (de_meth (m := 12) (Cl := [1]) (pl := _) (fun C_ h_ => ⟨mt12 T L1 C_ h_⟩) (no12 _ _) hr (xp (E := E0)) (de_var (i := 0) rfl (.inl rfl)) (da_cons (de_ix (ixr hu1) (de_var (i := 1) rfl (.inl rfl)) de_int) (da_cons (de_var (i := 2) rfl (.inl rfl)) da_nil)) rfl (ne12 K)))
    (dss_cons (ds_ret (de_call L1.f0 hr rfl T.g_reckoned T.k_reckoned T.b0 .nil (fun _ _ => .nil) (xp (E := E0)) (da_cons (de_ix (ixr hu1) (de_var (i := 1) rfl (.inl rfl)) de_int) (da_cons (de_var (i := 3) rfl (.inl rfl)) (da_cons (de_meth (m := 12) (Cl := [1]) (pl := _) (fun C_ h_ => ⟨mt12 T L1 C_ h_⟩) (no12 _ _) hr (xp (E := E0)) (de_var (i := 0) rfl (.inl rfl)) (da_cons (de_ix (ixr hu1) (de_var (i := 1) rfl (.inl rfl)) de_int) (da_cons (de_var (i := 2) rfl (.inl rfl)) da_nil)) rfl (ne12 K)) da_nil))) rfl))
    dss_nil)) dss_nil)
    (dss_cons (ds_ifs (dt_cmp (opr_eq hu) (de_ix (ixr hu1) (de_var (i := 1) rfl (.inl rfl)) de_int) de_str) (dss_cons (ds_ret (de_meth (m := 12) (Cl := [1]) (pl := _) (fun C_ h_ => ⟨mt12 T L1 C_ h_⟩) (no12 _ _) hr (xp (E := E0)) (de_var (i := 0) rfl (.inl rfl)) (da_cons (de_ix (ixr hu1) (de_var (i := 1) rfl (.inl rfl)) (de_bin opr_add de_int (de_ty cr_int rfl T.n_int bt_int (da_cons (de_cmp (opr_eq hu) (de_meth (m := 12) (Cl := [1]) (pl := _) (fun C_ h_ => ⟨mt12 T L1 C_ h_⟩) (no12 _ _) hr (xp (E := E0)) (de_var (i := 0) rfl (.inl rfl)) (da_cons (de_ix (ixr hu1) (de_var (i := 1) rfl (.inl rfl)) de_int) (da_cons (de_var (i := 2) rfl (.inl rfl)) da_nil)) rfl (ne12 K)) de_int) da_nil)))) (da_cons (de_var (i := 2) rfl (.inl rfl)) da_nil)) rfl (ne12 K)))
    dss_nil) dss_nil)
    (dss_cons (ds_ifs (dt_cmp (opr_eq hu) (de_ix (ixr hu1) (de_var (i := 1) rfl (.inl rfl)) de_int) de_str) (dss_cons (ds_ret (de_meth (m := 12) (Cl := [1]) (pl := _) (fun C_ h_ => ⟨mt12 T L1 C_ h_⟩) (no12 _ _) hr (xp (E := E0)) (de_var (i := 0) rfl (.inl rfl)) (da_cons (de_ix (ixr hu1) (de_var (i := 1) rfl (.inl rfl)) de_int) (da_cons (de_meth (m := 10) (Cl := [1]) (pl := _) (fun C_ h_ => ⟨mt10 T L1 C_ h_⟩) (no10 _ _) hr (xp (E := E0)) (de_var (i := 0) rfl (.inl rfl)) (da_cons (de_var (i := 1) rfl (.inl rfl)) (da_cons (de_var (i := 2) rfl (.inl rfl)) da_nil)) rfl (ne10 K)) da_nil)) rfl (ne12 K)))
    dss_nil) dss_nil)
    (dss_cons (ds_ret (de_meth (m := 13) (Cl := [1]) (pl := _) (fun C_ h_ => ⟨mt13 T L1 C_ h_⟩) (no13 _ _) hr (xp (E := E0)) (de_var (i := 0) rfl (.inl rfl)) (da_cons (de_ix (ixr hu1) (de_var (i := 1) rfl (.inl rfl)) de_int) (da_cons (de_meth (m := 11) (Cl := [1]) (pl := _) (fun C_ h_ => ⟨mt11 T L1 C_ h_⟩) (no11 _ _) hr (xp (E := E0)) (de_var (i := 0) rfl (.inl rfl)) (da_cons (de_ix (ixr hu1) (de_var (i := 1) rfl (.inl rfl)) de_int) (da_cons (de_var (i := 2) rfl (.inl rfl)) da_nil)) rfl (ne11 K)) da_nil)) rfl (ne13 K)))
    dss_nil))))))
theorem nd26 : N26.Nodup := by decide +kernel
theorem sc26 : FnScope N26 ["self", "f", "given"] (defScope s26) := ⟨rfl, rfl, rfl, nd26, rfl, by decide +kernel, by decide +kernel⟩
theorem d26 {f : Addr} {cdv : Value} {A : Around} {outer : List Env} {s : Shared} {H : Hp} {E : XK} (T : Tx K mg fd) (L0 : Lv P w K mg base fd k) (L1 : Lv P w K mg base fd (k + 1)) (hr : Room (k + 1) (A.deeper (envOfC "Feed.counted" (defScope s26) s.heap.objs.size f cdv))) :
    DSs (NN K) (GG k) (cxOf CX0 P w K mg base N26 "Feed.counted" (defScope s26) f cdv A outer s H E).nox (defBody s26) c26 := by
  have hu := hr.units
  have hu1 : (A.deeper (envOfC "Feed.counted" (defScope s26) s.heap.objs.size f cdv)).units + 1 < cLine := by omega
  exact (dss_cons (ds_set (i := 3) nd26 rfl (.inl rfl) (de_make (c := 0) T.mk_Run L0.f5 hr rfl T.g_Run T.b5 .nil (fun _ _ => .nil) (xp (E := E0)) (da_cons (de_fld (f := 6) rfl (de_var (i := 0) rfl (.inl rfl)) T.a_rules) (da_cons (de_var (i := 1) rfl (.inl rfl)) (da_cons (de_lc rfl nd26 (di_val (de_var (i := 2) rfl (.inl rfl))) (blkOk_by (own := [("value", 4)]) (by kernel_rfl)) rfl (fun _ _ _ _ _ => (dtg_nm nd26 rfl (.inl rfl))) (fun _ _ _ _ _ => dts_nil) (fun _ _ _ _ _ => (de_ifx (dt_val (de_isTup rfl T.n_isinstance rfl T.n_tuple (de_var (i := 4) rfl (.inl rfl)))) (de_call L1.f3 hr rfl T.g_unstrung T.k_unstrung T.b3 .nil (fun _ _ => .nil) (xp (E := E0)) (da_cons (de_var (i := 4) rfl (.inl rfl)) da_nil) rfl) (de_var (i := 4) rfl (.inl rfl)))) (by decide)) da_nil))) rfl))
    (dss_cons (ds_whl PassesOwn.never (dt_val (de_meth0 (m := 0) (Cl := [0]) (pl := _) (fun C_ h_ => ⟨mt0 T L1 C_ h_⟩) (no0 _ _) hr (xp (E := E0)) (de_var (i := 3) rfl (.inl rfl)) rfl (ne0 K))) (dss_cons ds_pass
    dss_nil))
    (dss_cons (ds_augF_add (f := 2) rfl (de_var (i := 0) rfl (.inl rfl)) (de_meth0 (m := 5) (Cl := [0, 1]) (pl := _) (fun C_ h_ => ⟨mt5 T L1 C_ h_⟩) (no5 _ _) hr (xp (E := E0)) (de_var (i := 3) rfl (.inl rfl)) rfl (ne5 K)) T.a_eats)
    (dss_cons (ds_ret (de_meth0 (m := 7) (Cl := [0]) (pl := _) (fun C_ h_ => ⟨mt7 T L1 C_ h_⟩) (no7 _ _) hr (xp (E := E0)) (de_var (i := 3) rfl (.inl rfl)) rfl (ne7 K)))
    dss_nil))))
theorem nd27 : N27.Nodup := by decide +kernel
theorem sc27 : FnScope N27 ["self"] (defScope s27) := ⟨rfl, rfl, rfl, nd27, rfl, by decide +kernel, by decide +kernel⟩
theorem d27 {f : Addr} {cdv : Value} {A : Around} {outer : List Env} {s : Shared} {H : Hp} {E : XK} (T : Tx K mg fd) (L0 : Lv P w K mg base fd k) (L1 : Lv P w K mg base fd (k + 1)) (hr : Room (k + 1) (A.deeper (envOfC "Feed.eaten" (defScope s27) s.heap.objs.size f cdv))) :
    DSs (NN K) (GG k) (cxOf CX0 P w K mg base N27 "Feed.eaten" (defScope s27) f cdv A outer s H E).nox (defBody s27) c27 := by
  have hu := hr.units
  have hu1 : (A.deeper (envOfC "Feed.eaten" (defScope s27) s.heap.objs.size f cdv)).units + 1 < cLine := by omega
  exact (dss_cons (ds_ret (de_fld (f := 2) rfl (de_var (i := 0) rfl (.inl rfl)) T.a_eats))
    dss_nil)
theorem nd28 : N28.Nodup := by decide +kernel
theorem sc28 : FnScope N28 ["self"] (defScope s28) := ⟨rfl, rfl, rfl, nd28, rfl, by decide +kernel, by decide +kernel⟩
theorem d28 {f : Addr} {cdv : Value} {A : Around} {outer : List Env} {s : Shared} {H : Hp} {E : XK} (T : Tx K mg fd) (L0 : Lv P w K mg base fd k) (L1 : Lv P w K mg base fd (k + 1)) (hr : Room (k + 1) (A.deeper (envOfC "Feed.left" (defScope s28) s.heap.objs.size f cdv))) :
    DSs (NN K) (GG k) (cxOf CX0 P w K mg base N28 "Feed.left" (defScope s28) f cdv A outer s H E).nox (defBody s28) c28 := by
  have hu := hr.units
  have hu1 : (A.deeper (envOfC "Feed.left" (defScope s28) s.heap.objs.size f cdv)).units + 1 < cLine := by omega
  exact (dss_cons (ds_ifs (dt_cmp opr_isN (de_fld (f := 7) rfl (de_var (i := 0) rfl (.inl rfl)) T.a_waits) de_non) (dss_cons (ds_ret de_int)
    dss_nil) dss_nil)
    (dss_cons (ds_asgG (de_fld (f := 7) rfl (de_var (i := 0) rfl (.inl rfl)) T.a_waits) (dg_tp (dtg_tp rfl (dtgs_cons (dtg_nm nd28 rfl (.inl rfl)) (dtgs_cons (dtg_nm nd28 rfl (.inl rfl)) (dtgs_cons (dtg_nm nd28 rfl (.inr rfl)) dtgs_nil))) rfl)))
    (dss_cons (ds_set (i := 4) nd28 rfl (.inl rfl) (de_var (i := 3) rfl (.inr (.inl rfl))))
    (dss_cons (ds_ifs (dt_cmp (opr_eq hu) (de_var (i := 1) rfl (.inl rfl)) de_str) (dss_cons (ds_set (i := 4) nd28 rfl (.inl rfl) (de_lst (da_cons (de_var (i := 2) rfl (.inl rfl)) da_nil)))
    dss_nil) (dss_cons (ds_ifs (dt_cmp (opr_eq hu) (de_var (i := 1) rfl (.inl rfl)) de_str) (dss_cons (ds_setDc (i := 5) rfl nd28 rfl rfl rfl (di_val (de_call L1.f17 hr rfl T.g_parts T.k_parts T.b17 .nil (fun _ _ => .nil) (xp (E := E0)) (da_cons (de_var (i := 2) rfl (.inl rfl)) da_nil) rfl)) (blkOk_by (own := [("part", 7)]) (by kernel_rfl)) rfl (fun _ _ _ _ _ => (dtg_nm nd28 rfl (.inl rfl))) (fun _ _ _ _ _ => (dts_one (dt_cmp (opr_eq hu) (de_ix (ixr hu1) (de_var (i := 7) rfl (.inl rfl)) de_int) de_str))) (fun _ _ _ _ _ => (de_ix (ixr hu1) (de_var (i := 7) rfl (.inl rfl)) de_int)) (fun _ _ _ _ _ => de_bl) (by decide))
    (dss_cons (ds_lock (i := 5) (ds_setLc (i := 4) rfl nd28 rfl rfl rfl (di_val (de_var (i := 5) rfl (.inl rfl))) (blkOk_by (own := [("name", 8)]) (by kernel_rfl)) rfl (fun _ _ _ _ _ => (dtg_nm nd28 rfl (.inl rfl))) (fun _ _ _ _ _ => (dts_one (dt_cmp (opr_in hu) (de_var (i := 8) rfl (.inl rfl)) (de_var (i := 3) rfl (.inr (.inl rfl)))))) (fun _ _ _ _ _ => (de_ix (ixr hu1) (de_var (i := 3) rfl (.inr (.inl rfl))) (de_var (i := 8) rfl (.inl rfl)))) (by decide)))
    dss_nil)) dss_nil)
    dss_nil))
    (dss_cons (ds_ret (de_bi (cr_sumD rfl) rfl T.n_sum bt_sum (da_cons (de_lc rfl nd28 (di_val (de_var (i := 4) rfl (.inl rfl))) (blkOk_by (own := [("thing", 6)]) (by kernel_rfl)) rfl (fun _ _ _ _ _ => (dtg_nm nd28 rfl (.inl rfl))) (fun _ _ _ _ _ => (dts_one (dt_val (de_isTup rfl T.n_isinstance rfl T.n_tuple (de_var (i := 6) rfl (.inl rfl)))))) (fun _ _ _ _ _ => (de_call L1.f18 hr rfl T.g_long_of T.k_long_of T.b18 .nil (fun _ _ => .nil) (xp (E := E0)) (da_cons (de_var (i := 6) rfl (.inl rfl)) da_nil) rfl)) (by decide)) da_nil)))
    dss_nil)))))
theorem nd29 : N29.Nodup := by decide +kernel
theorem sc29 : FnScope N29 ["_law_script", "_law_base"] (defScope s29) := ⟨rfl, rfl, rfl, nd29, rfl, by decide +kernel, by decide +kernel⟩
theorem d29 {f : Addr} {cdv : Value} {A : Around} {outer : List Env} {s : Shared} {H : Hp} {E : XK} (T : Tx K mg fd) (L0 : Lv P w K mg base fd k) (L1 : Lv P w K mg base fd (k + 1)) (hr : Room (k + 1) (A.deeper (envOfC "_law_deal" (defScope s29) s.heap.objs.size f cdv))) :
    DSs (NN K) (GG k) (cxOf CX0 P w K mg base N29 "_law_deal" (defScope s29) f cdv A outer s H E).nox (defBody s29) c29 := by
  have hu := hr.units
  have hu1 : (A.deeper (envOfC "_law_deal" (defScope s29) s.heap.objs.size f cdv)).units + 1 < cLine := by omega
  exact (dss_cons (ds_setLc (i := 3) rfl nd29 rfl rfl rfl (di_val (de_slc slr (de_var (i := 0) rfl (.inl rfl)) (do_some (de_var (i := 1) rfl (.inl rfl))) (do_some de_int))) (blkOk_by (own := [("_law_one", 2)]) (by kernel_rfl)) rfl (fun _ _ _ _ _ => (dtg_nm nd29 rfl (.inl rfl))) (fun _ _ _ _ _ => dts_nil) (fun _ _ _ _ _ => (de_bi (cr_max2 rfl) rfl T.n_max bt_max (da_cons (de_var (i := 2) rfl (.inl rfl)) (da_cons (de_bin opr_sub de_int (de_var (i := 2) rfl (.inl rfl))) da_nil)))) (by decide))
    (dss_cons (ds_set (i := 4) nd29 rfl (.inl rfl) (de_bin opr_add de_int (de_var (i := 1) rfl (.inl rfl))))
    (dss_cons (ds_for PassesOwn.never rfl (di_val (de_var (i := 3) rfl (.inl rfl))) (dtg_nm nd29 rfl (.inl rfl)) (dss_cons (ds_set (i := 4) nd29 rfl (.inl rfl) (de_bin opr_mod (de_bin opr_add (de_bin opr_mul (de_var (i := 4) rfl (.inl rfl)) de_int) (de_bin opr_mod (de_var (i := 2) rfl (.inl rfl)) de_int)) de_int))
    dss_nil))
    (dss_cons (ds_ret (de_dic (dp_cons rfl (de_var (i := 4) rfl (.inl rfl)) (dp_cons rfl de_int (dp_cons rfl (de_lrev rfl rfl T.n_list rfl T.n_reversed (de_lc rfl nd29 (di_val (de_var (i := 3) rfl (.inl rfl))) (blkOk_by (own := [("_law_one", 2)]) (by kernel_rfl)) rfl (fun _ _ _ _ _ => (dtg_nm nd29 rfl (.inl rfl))) (fun _ _ _ _ _ => (dts_one (dt_cmp opr_ge (de_var (i := 2) rfl (.inl rfl)) (de_bin opr_pow de_int de_int)))) (fun _ _ _ _ _ => (de_var (i := 2) rfl (.inl rfl))) (by decide))) dp_nil))) rfl rfl (List.cons_ne_nil _ _) (by decide) (by decide)))
    dss_nil))))
theorem nd30 : N30.Nodup := by decide +kernel
theorem sc30 : FnScope N30 ["_law_deal_here", "_law_many"] (defScope s30) := ⟨rfl, rfl, rfl, nd30, rfl, by decide +kernel, by decide +kernel⟩
theorem d30 {f : Addr} {cdv : Value} {A : Around} {outer : List Env} {s : Shared} {H : Hp} {E : XK} (T : Tx K mg fd) (L0 : Lv P w K mg base fd k) (L1 : Lv P w K mg base fd (k + 1)) (hr : Room (k + 1) (A.deeper (envOfC "_law_draw" (defScope s30) s.heap.objs.size f cdv))) :
    DSs (NN K) (GG k) (cxOf CX0 P w K mg base N30 "_law_draw" (defScope s30) f cdv A outer s H E).nox (defBody s30) c30 := by
  have hu := hr.units
  have hu1 : (A.deeper (envOfC "_law_draw" (defScope s30) s.heap.objs.size f cdv)).units + 1 < cLine := by omega
  exact (dss_cons (ds_whl PassesOwn.never (dt_w (dw_and (dt_cmp (opr_eq hu) (de_ix (ixr hu1) (de_var (i := 0) rfl (.inl rfl)) de_str) de_int) (dw_and1 (dt_cmp opr_gt (de_bi cr_len rfl T.n_len bt_len (da_cons (de_ix (ixr hu1) (de_var (i := 0) rfl (.inl rfl)) de_str) da_nil)) de_int)))) (dss_cons (ds_dput hu1 (de_var (i := 0) rfl (.inl rfl)) de_str (de_bm0 rfl PySem.F.plainAttrs_list PySem.F.slot_list_pop PySem.F.type_list_pop mr_pop (de_ix (ixr hu1) (de_var (i := 0) rfl (.inl rfl)) de_str)))
    dss_nil))
    (dss_cons (ds_set (i := 2) nd30 rfl (.inl rfl) (de_ix (ixr hu1) (de_var (i := 0) rfl (.inl rfl)) de_str))
    (dss_cons (ds_ifs (dt_cmp opr_gt (de_var (i := 2) rfl (.inl rfl)) de_int) (dss_cons (ds_dput hu1 (de_var (i := 0) rfl (.inl rfl)) de_str (de_bin opr_fdiv (de_var (i := 2) rfl (.inl rfl)) (de_var (i := 1) rfl (.inl rfl))))
    (dss_cons (ds_ret (de_bin opr_mod (de_var (i := 2) rfl (.inl rfl)) (de_var (i := 1) rfl (.inl rfl))))
    dss_nil)) dss_nil)
    (dss_cons (ds_set (i := 3) nd30 rfl (.inl rfl) (de_bin opr_mod (de_bin opr_add (de_bin opr_mul (de_ix (ixr hu1) (de_var (i := 0) rfl (.inl rfl)) de_str) de_int) de_int) de_int))
    (dss_cons (ds_dput hu1 (de_var (i := 0) rfl (.inl rfl)) de_str (de_bin opr_mod (de_bin opr_add (de_bin opr_mul (de_var (i := 3) rfl (.inl rfl)) de_int) de_int) de_int))
    (dss_cons (ds_set (i := 4) nd30 rfl (.inl rfl) (de_bin opr_mod (de_bin opr_mul (de_ix (ixr hu1) (de_var (i := 0) rfl (.inl rfl)) de_str) (de_ix (ixr hu1) (de_var (i := 0) rfl (.inl rfl)) de_str)) de_int))
    (dss_cons (ds_ret (de_bin opr_mod (de_bin opr_add (de_bin opr_mul (de_bin opr_mod (de_bin opr_mul (de_var (i := 3) rfl (.inl rfl)) (de_var (i := 3) rfl (.inl rfl))) de_int) de_int) (de_var (i := 4) rfl (.inl rfl))) (de_var (i := 1) rfl (.inl rfl))))
    dss_nil)))))))
theorem nd31 : N31.Nodup := by decide +kernel
theorem sc31 : FnScope N31 ["_law_deal_here", "_law_many"] (defScope s31) := ⟨rfl, rfl, rfl, nd31, rfl, by decide +kernel, by decide +kernel⟩
theorem d31 {f : Addr} {cdv : Value} {A : Around} {outer : List Env} {s : Shared} {H : Hp} {E : XK} (T : Tx K mg fd) (L0 : Lv P w K mg base fd k) (L1 : Lv P w K mg base fd (k + 1)) (hr : Room (k + 1) (A.deeper (envOfC "_law_words" (defScope s31) s.heap.objs.size f cdv))) :
    DSs (NN K) (GG k) (cxOf CX0 P w K mg base N31 "_law_words" (defScope s31) f cdv A outer s H E).nox (defBody s31) c31 := by
  have hu := hr.units
  have hu1 : (A.deeper (envOfC "_law_words" (defScope s31) s.heap.objs.size f cdv)).units + 1 < cLine := by omega
  exact (dss_cons (ds_set (i := 2) nd31 rfl (.inr rfl) de_str)
    (dss_cons (ds_set (i := 3) nd31 rfl (.inr rfl) (de_bm rfl PySem.F.plainAttrs_str PySem.F.slot_str_join PySem.F.type_str_join mr_join de_str (da_cons (de_lc rfl nd31 (di_rng1 rfl T.n_range (da_cons (de_call L1.f30 hr rfl T.g__law_draw T.k__law_draw T.b30 .nil (fun _ _ => .nil) (xp (E := E0)) (da_cons (de_var (i := 0) rfl (.inr (.inl rfl))) (da_cons de_int da_nil)) rfl) da_nil)) (blkOk_by (own := [("_law_k", 8)]) (by kernel_rfl)) rfl (fun _ _ _ _ _ => (dtg_nm nd31 rfl (.inl rfl))) (fun _ _ _ _ _ => dts_nil) (fun _ _ _ _ _ => (de_ix (ixr hu1) (de_var (i := 2) rfl (.inr (.inl rfl))) (de_call L1.f30 hr rfl T.g__law_draw T.k__law_draw T.b30 .nil (fun _ _ => .nil) (xp (E := E0)) (da_cons (de_var (i := 0) rfl (.inr (.inl rfl))) (da_cons de_int da_nil)) rfl))) (by decide)) da_nil)))
    (dss_cons (ds_asgG (de_tup (da_cons (de_call L1.f30 hr rfl T.g__law_draw T.k__law_draw T.b30 .nil (fun _ _ => .nil) (xp (E := E0)) (da_cons (de_var (i := 0) rfl (.inr (.inl rfl))) (da_cons (de_bin opr_add (de_bi cr_len rfl T.n_len bt_len (da_cons (de_var (i := 3) rfl (.inr (.inl rfl))) da_nil)) de_int) da_nil)) rfl) (da_cons (de_call L1.f30 hr rfl T.g__law_draw T.k__law_draw T.b30 .nil (fun _ _ => .nil) (xp (E := E0)) (da_cons (de_var (i := 0) rfl (.inr (.inl rfl))) (da_cons de_int da_nil)) rfl) da_nil))) (dg_tp (dtg_tp rfl (dtgs_cons (dtg_nm nd31 rfl (.inr rfl)) (dtgs_cons (dtg_nm nd31 rfl (.inr rfl)) dtgs_nil)) rfl)))
    (dss_cons (ds_set (i := 6) nd31 rfl (.inr rfl) (de_ix (ixr hu1) (de_lst (da_cons (de_lst (da_cons de_str (da_cons de_str (da_cons de_str (da_cons de_str da_nil))))) (da_cons (de_lst (da_cons de_str (da_cons de_str (da_cons de_str (da_cons de_str da_nil))))) da_nil))) (de_bin opr_mul (de_call L1.f30 hr rfl T.g__law_draw T.k__law_draw T.b30 .nil (fun _ _ => .nil) (xp (E := E0)) (da_cons (de_var (i := 0) rfl (.inr (.inl rfl))) (da_cons de_int da_nil)) rfl) (de_ty cr_int rfl T.n_int bt_int (da_cons (de_cmp (opr_eq hu) (de_var (i := 3) rfl (.inr (.inl rfl))) de_str) da_nil)))))
    (dss_cons (ds_set (i := 7) nd31 rfl (.inr rfl) (de_lc rfl nd31 (di_rng1 rfl T.n_range (da_cons (de_var (i := 1) rfl (.inl rfl)) da_nil)) (blkOk_by (own := [("_law_k", 8)]) (by kernel_rfl)) rfl (fun _ _ _ _ _ => (dtg_nm nd31 rfl (.inl rfl))) (fun _ _ _ _ _ => dts_nil) (fun _ _ _ _ _ => (de_bin opr_add (de_ix (ixr hu1) (de_var (i := 2) rfl (.inr (.inl rfl))) (de_bin opr_mod (de_bin opr_add (de_var (i := 5) rfl (.inr (.inl rfl))) (de_var (i := 8) rfl (.inl rfl))) de_int)) (de_ix (ixr hu1) (de_var (i := 6) rfl (.inr (.inl rfl))) (de_bin opr_fdiv (de_var (i := 8) rfl (.inl rfl)) de_int)))) (by decide)))
    (dss_cons (ds_ret (de_lc rfl nd31 (di_rng1 rfl T.n_range (da_cons (de_var (i := 1) rfl (.inl rfl)) da_nil)) (blkOk_by (own := [("_law_k", 8)]) (by kernel_rfl)) rfl (fun _ _ _ _ _ => (dtg_nm nd31 rfl (.inl rfl))) (fun _ _ _ _ _ => dts_nil) (fun _ _ _ _ _ => (de_bin opr_add (de_bin opr_add (de_bin opr_add (de_slc slr (de_var (i := 3) rfl (.inr (.inl rfl))) do_none (do_some (de_var (i := 4) rfl (.inr (.inl rfl))))) (de_ix (ixr hu1) (de_var (i := 7) rfl (.inr (.inl rfl))) (de_var (i := 8) rfl (.inl rfl)))) (de_slc slr (de_var (i := 3) rfl (.inr (.inl rfl))) (do_some (de_var (i := 4) rfl (.inr (.inl rfl)))) do_none)) (de_bin opr_mul de_str (de_bin opr_mod (de_var (i := 8) rfl (.inl rfl)) de_int)))) (by decide)))
    dss_nil))))))
theorem nd32 : N32.Nodup := by decide +kernel
theorem sc32 : FnScope N32 ["_law_deal_here"] (defScope s32) := ⟨rfl, rfl, rfl, nd32, rfl, by decide +kernel, by decide +kernel⟩
theorem d32 {f : Addr} {cdv : Value} {A : Around} {outer : List Env} {s : Shared} {H : Hp} {E : XK} (T : Tx K mg fd) (L0 : Lv P w K mg base fd k) (L1 : Lv P w K mg base fd (k + 1)) (hr : Room (k + 1) (A.deeper (envOfC "_law_figure" (defScope s32) s.heap.objs.size f cdv))) :
    DSs (NN K) (GG k) (cxOf CX0 P w K mg base N32 "_law_figure" (defScope s32) f cdv A outer s H E).nox (defBody s32) c32 := by
  have hu := hr.units
  have hu1 : (A.deeper (envOfC "_law_figure" (defScope s32) s.heap.objs.size f cdv)).units + 1 < cLine := by omega
  exact (dss_cons (ds_ret (de_ix (ixr hu1) (de_lst (da_cons de_int (da_cons de_int (da_cons de_int (da_cons de_int (da_cons (de_bin opr_sub de_int (de_call L1.f30 hr rfl T.g__law_draw T.k__law_draw T.b30 .nil (fun _ _ => .nil) (xp (E := E0)) (da_cons (de_var (i := 0) rfl (.inl rfl)) (da_cons (de_bin opr_pow de_int de_int) da_nil)) rfl)) da_nil)))))) (de_call L1.f30 hr rfl T.g__law_draw T.k__law_draw T.b30 .nil (fun _ _ => .nil) (xp (E := E0)) (da_cons (de_var (i := 0) rfl (.inl rfl)) (da_cons de_int da_nil)) rfl)))
    dss_nil)
theorem nd33 : N33.Nodup := by decide +kernel
theorem sc33 : FnScope N33 ["_law_deal_here", "_law_beads", "_law_room"] (defScope s33) := ⟨rfl, rfl, rfl, nd33, rfl, by decide +kernel, by decide +kernel⟩
theorem d33 {f : Addr} {cdv : Value} {A : Around} {outer : List Env} {s : Shared} {H : Hp} {E : XK} (T : Tx K mg fd) (L0 : Lv P w K mg base fd k) (L1 : Lv P w K mg base fd (k + 1)) (hr : Room (k + 1) (A.deeper (envOfC "_law_long" (defScope s33) s.heap.objs.size f cdv))) :
    DSs (NN K) (GG k) (cxOf CX0 P w K mg base N33 "_law_long" (defScope s33) f cdv A outer s H E).nox (defBody s33) c33 := by
  have hu := hr.units
  have hu1 : (A.deeper (envOfC "_law_long" (defScope s33) s.heap.objs.size f cdv)).units + 1 < cLine := by omega
  exact (dss_cons (ds_set (i := 3) nd33 rfl (.inl rfl) (de_lst da_nil))
    (dss_cons (ds_for PassesOwn.never rfl (di_val (de_bin opr_add (de_bin opr_mul (de_lst (da_cons (de_ix (ixr hu1) (de_var (i := 1) rfl (.inl rfl)) de_int) da_nil)) (de_call L1.f30 hr rfl T.g__law_draw T.k__law_draw T.b30 .nil (fun _ _ => .nil) (xp (E := E0)) (da_cons (de_var (i := 0) rfl (.inr (.inl rfl))) (da_cons (de_var (i := 2) rfl (.inl rfl)) da_nil)) rfl)) (de_lst (da_cons (de_ix (ixr hu1) (de_var (i := 1) rfl (.inl rfl)) de_int) da_nil)))) (dtg_tp rfl (dtgs_cons (dtg_nm nd33 rfl (.inl rfl)) (dtgs_cons (dtg_nm nd33 rfl (.inl rfl)) (dtgs_cons (dtg_nm nd33 rfl (.inl rfl)) dtgs_nil))) rfl) (dss_cons (ds_expr (de_bm rfl PySem.F.plainAttrs_list PySem.F.slot_list_append PySem.F.type_list_append mr_append (de_var (i := 3) rfl (.inl rfl)) (da_cons (de_bin opr_add (de_tup (da_cons (de_var (i := 4) rfl (.inl rfl)) da_nil)) (de_ty cr_tuple rfl T.n_tuple bt_tuple (da_cons (de_lc rfl nd33 (di_rng1 rfl T.n_range (da_cons (de_var (i := 5) rfl (.inl rfl)) da_nil)) (blkOk_by (own := [("_law_k", 7)]) (by kernel_rfl)) rfl (fun _ _ _ _ _ => (dtg_nm nd33 rfl (.inl rfl))) (fun _ _ _ _ _ => dts_nil) (fun _ _ _ _ _ => (de_call L1.f32 hr rfl T.g__law_figure T.k__law_figure T.b32 .nil (fun _ _ => .nil) (xp (E := E0)) (da_cons (de_var (i := 0) rfl (.inr (.inl rfl))) da_nil) rfl)) (by decide)) da_nil))) da_nil)))
    dss_nil))
    (dss_cons (ds_ret (de_ty cr_tuple rfl T.n_tuple bt_tuple (da_cons (de_var (i := 3) rfl (.inl rfl)) da_nil)))
    dss_nil)))
theorem nd34 : N34.Nodup := by decide +kernel
theorem sc34 : FnScope N34 ["_law_bead", "_law_names", "_law_rest"] (defScope s34) := ⟨rfl, rfl, rfl, nd34, rfl, by decide +kernel, by decide +kernel⟩
theorem d34 {f : Addr} {cdv : Value} {A : Around} {outer : List Env} {s : Shared} {H : Hp} {E : XK} (T : Tx K mg fd) (L0 : Lv P w K mg base fd k) (L1 : Lv P w K mg base fd (k + 1)) (hr : Room (k + 1) (A.deeper (envOfC "_law_made" (defScope s34) s.heap.objs.size f cdv))) :
    DSs (NN K) (GG k) (cxOf CX0 P w K mg base N34 "_law_made" (defScope s34) f cdv A outer s H E).nox (defBody s34) c34 := by
  have hu := hr.units
  have hu1 : (A.deeper (envOfC "_law_made" (defScope s34) s.heap.objs.size f cdv)).units + 1 < cLine := by omega
  exact (dss_cons (ds_ret (de_tup (da_cons de_str (da_cons (de_ix (ixr hu1) (de_var (i := 0) rfl (.inl rfl)) de_int) (da_cons (de_ty cr_tuple rfl T.n_tuple bt_tuple (da_cons (de_lc rfl nd34 (di_val (de_slc slr (de_var (i := 1) rfl (.inl rfl)) do_none (do_some (de_ix (ixr hu1) (de_var (i := 0) rfl (.inl rfl)) de_int)))) (blkOk_by (own := [("_law_x", 3)]) (by kernel_rfl)) rfl (fun _ _ _ _ _ => (dtg_nm nd34 rfl (.inl rfl))) (fun _ _ _ _ _ => dts_nil) (fun _ _ _ _ _ => (de_tup (da_cons de_str (da_cons (de_var (i := 3) rfl (.inl rfl)) da_nil)))) (by decide)) da_nil)) (da_cons (de_var (i := 2) rfl (.inl rfl)) da_nil))))))
    dss_nil)
theorem nd35 : N35.Nodup := by decide +kernel
theorem sc35 : FnScope N35 ["_law_words_here", "_law_beads"] (defScope s35) := ⟨rfl, rfl, rfl, nd35, rfl, by decide +kernel, by decide +kernel⟩
theorem d35 {f : Addr} {cdv : Value} {A : Around} {outer : List Env} {s : Shared} {H : Hp} {E : XK} (T : Tx K mg fd) (L0 : Lv P w K mg base fd k) (L1 : Lv P w K mg base fd (k + 1)) (hr : Room (k + 1) (A.deeper (envOfC "_law_program" (defScope s35) s.heap.objs.size f cdv))) :
    DSs (NN K) (GG k) (cxOf CX0 P w K mg base N35 "_law_program" (defScope s35) f cdv A outer s H E).nox (defBody s35) c35 := by
  have hu := hr.units
  have hu1 : (A.deeper (envOfC "_law_program" (defScope s35) s.heap.objs.size f cdv)).units + 1 < cLine := by omega
  exact (dss_cons (ds_par (i := 2) (j := 3) rfl nd35 rfl rfl (by decide) rfl rfl (da_cons (de_ix (ixr hu1) (de_var (i := 0) rfl (.inl rfl)) de_int) (da_cons (de_ix (ixr hu1) (de_var (i := 0) rfl (.inl rfl)) de_int) da_nil)) rfl)
    (dss_cons (ds_par (i := 4) (j := 5) rfl nd35 rfl rfl (by decide) rfl rfl (da_cons (de_ix (ixr hu1) (de_var (i := 0) rfl (.inl rfl)) de_int) (da_cons (de_ix (ixr hu1) (de_var (i := 0) rfl (.inl rfl)) de_int) da_nil)) rfl)
    (dss_cons (ds_set (i := 6) nd35 rfl (.inl rfl) (de_ty cr_tuple rfl T.n_tuple bt_tuple (da_cons (de_slc slr (de_var (i := 0) rfl (.inl rfl)) (do_some de_int) (do_some (de_bin opr_add de_int (de_ix (ixr hu1) (de_ix (ixr hu1) (de_var (i := 1) rfl (.inl rfl)) de_int) de_int)))) da_nil)))
    (dss_cons (ds_set (i := 7) nd35 rfl (.inl rfl) (de_ty cr_tuple rfl T.n_tuple bt_tuple (da_cons (de_slc slr (de_var (i := 0) rfl (.inl rfl)) (do_some de_int) (do_some (de_bin opr_add de_int (de_ix (ixr hu1) (de_ix (ixr hu1) (de_var (i := 1) rfl (.inl rfl)) de_int) de_int)))) da_nil)))
    (dss_cons (ds_par (i := 8) (j := 9) rfl nd35 rfl rfl (by decide) rfl rfl (da_cons (de_ix (ixr hu1) (de_var (i := 0) rfl (.inl rfl)) de_int) (da_cons (de_tup (da_cons (de_tup (da_cons (de_var (i := 3) rfl (.inl rfl)) (da_cons (de_var (i := 2) rfl (.inl rfl)) da_nil))) (da_cons (de_tup (da_cons (de_var (i := 4) rfl (.inl rfl)) (da_cons (de_var (i := 2) rfl (.inl rfl)) da_nil))) da_nil))) da_nil)) rfl)
    (dss_cons (ds_set (i := 10) nd35 rfl (.inl rfl) (de_tup (da_cons de_str (da_cons (de_ix (ixr hu1) (de_var (i := 0) rfl (.inl rfl)) de_int) (da_cons (de_tup (da_cons (de_tup (da_cons de_str (da_cons (de_var (i := 8) rfl (.inl rfl)) da_nil))) (da_cons (de_tup (da_cons de_str (da_cons (de_var (i := 4) rfl (.inl rfl)) da_nil))) da_nil))) da_nil)))))
    (dss_cons (ds_set (i := 11) nd35 rfl (.inl rfl) (de_tup (da_cons (de_bin opr_add (de_var (i := 6) rfl (.inl rfl)) (de_tup (da_cons (de_var (i := 8) rfl (.inl rfl)) da_nil))) (da_cons (de_call L1.f34 hr rfl T.g__law_made T.k__law_made T.b34 .nil (fun _ _ => .nil) (xp (E := E0)) (da_cons (de_ix (ixr hu1) (de_var (i := 1) rfl (.inl rfl)) de_int) (da_cons (de_var (i := 6) rfl (.inl rfl)) (da_cons (de_var (i := 10) rfl (.inl rfl)) da_nil))) rfl) da_nil))))
    (dss_cons (ds_set (i := 12) nd35 rfl (.inl rfl) (de_tup (da_cons (de_var (i := 7) rfl (.inl rfl)) (da_cons (de_tup (da_cons de_str (da_cons (de_var (i := 4) rfl (.inl rfl)) da_nil))) da_nil))))
    (dss_cons (ds_set (i := 13) nd35 rfl (.inl rfl) (de_tup (da_cons (de_ix (ixr hu1) (de_var (i := 0) rfl (.inl rfl)) de_int) (da_cons (de_var (i := 9) rfl (.inl rfl)) (da_cons (de_var (i := 2) rfl (.inl rfl)) (da_cons (de_tup (da_cons (de_var (i := 11) rfl (.inl rfl)) (da_cons (de_var (i := 12) rfl (.inl rfl)) da_nil))) da_nil))))))
    (dss_cons (ds_set (i := 14) nd35 rfl (.inl rfl) (de_tup (da_cons de_str (da_cons (de_ix (ixr hu1) (de_var (i := 0) rfl (.inl rfl)) de_int) (da_cons (de_tup (da_cons (de_tup (da_cons de_str (da_cons (de_var (i := 8) rfl (.inl rfl)) da_nil))) (da_cons (de_tup (da_cons de_str (da_cons de_str (da_cons (de_tup (da_cons de_str (da_cons (de_var (i := 5) rfl (.inl rfl)) da_nil))) (da_cons (de_tup (da_cons de_str (da_cons de_int da_nil))) da_nil))))) da_nil))) da_nil)))))
    (dss_cons (ds_set (i := 14) nd35 rfl (.inl rfl) (de_tup (da_cons de_str (da_cons (de_tup (da_cons de_str (da_cons (de_var (i := 5) rfl (.inl rfl)) da_nil))) (da_cons (de_var (i := 14) rfl (.inl rfl)) (da_cons (de_tup (da_cons de_str (da_cons (de_var (i := 8) rfl (.inl rfl)) da_nil))) da_nil))))))
    (dss_cons (ds_set (i := 11) nd35 rfl (.inl rfl) (de_tup (da_cons (de_bin opr_add (de_var (i := 6) rfl (.inl rfl)) (de_tup (da_cons (de_var (i := 8) rfl (.inl rfl)) da_nil))) (da_cons (de_var (i := 14) rfl (.inl rfl)) da_nil))))
    (dss_cons (ds_set (i := 15) nd35 rfl (.inl rfl) (de_tup (da_cons (de_var (i := 7) rfl (.inl rfl)) (da_cons (de_call L1.f34 hr rfl T.g__law_made T.k__law_made T.b34 .nil (fun _ _ => .nil) (xp (E := E0)) (da_cons (de_ix (ixr hu1) (de_var (i := 1) rfl (.inl rfl)) de_int) (da_cons (de_var (i := 7) rfl (.inl rfl)) (da_cons de_non da_nil))) rfl) da_nil))))
    (dss_cons (ds_set (i := 16) nd35 rfl (.inl rfl) (de_tup (da_cons (de_ix (ixr hu1) (de_var (i := 0) rfl (.inl rfl)) de_int) (da_cons (de_tup (da_cons (de_tup (da_cons (de_var (i := 3) rfl (.inl rfl)) (da_cons (de_var (i := 2) rfl (.inl rfl)) da_nil))) (da_cons (de_tup (da_cons (de_var (i := 5) rfl (.inl rfl)) (da_cons de_str da_nil))) da_nil))) (da_cons (de_var (i := 2) rfl (.inl rfl)) (da_cons (de_tup (da_cons (de_var (i := 11) rfl (.inl rfl)) (da_cons (de_var (i := 15) rfl (.inl rfl)) da_nil))) da_nil))))))
    (dss_cons (ds_set (i := 17) nd35 rfl (.inl rfl) (de_tup (da_cons (de_ix (ixr hu1) (de_var (i := 0) rfl (.inl rfl)) de_int) (da_cons (de_var (i := 9) rfl (.inl rfl)) (da_cons (de_var (i := 2) rfl (.inl rfl)) (da_cons (de_tup (da_cons (de_tup (da_cons (de_bin opr_add (de_var (i := 6) rfl (.inl rfl)) (de_tup (da_cons (de_var (i := 8) rfl (.inl rfl)) da_nil))) (da_cons (de_tup (da_cons de_str (da_cons (de_var (i := 4) rfl (.inl rfl)) da_nil))) da_nil))) (da_cons (de_tup (da_cons (de_var (i := 7) rfl (.inl rfl)) (da_cons (de_tup (da_cons de_str (da_cons (de_var (i := 4) rfl (.inl rfl)) da_nil))) da_nil))) da_nil))) da_nil))))))
    (dss_cons (ds_set (i := 18) nd35 rfl (.inl rfl) (de_ix (ixr hu1) (de_bin opr_add (de_lc rfl nd35 (di_val (de_var (i := 6) rfl (.inl rfl))) (blkOk_by (own := [("_law_one", 11)]) (by kernel_rfl)) rfl (fun _ _ _ _ _ => (dtg_nm nd35 rfl (.inl rfl))) (fun _ _ _ _ _ => dts_nil) (fun _ _ _ _ _ => (de_tup (da_cons de_str (da_cons (de_var (i := 11) rfl (.inl rfl)) da_nil)))) (by decide)) (de_lst (da_cons (de_tup (da_cons de_str (da_cons de_int da_nil))) da_nil))) de_int))
    (dss_cons (ds_set (i := 19) nd35 rfl (.inl rfl) (de_tup (da_cons de_str (da_cons (de_tup (da_cons de_str (da_cons de_str (da_cons (de_var (i := 18) rfl (.inl rfl)) (da_cons (de_tup (da_cons de_str (da_cons de_int da_nil))) da_nil))))) (da_cons (de_tup (da_cons de_str (da_cons (de_var (i := 8) rfl (.inl rfl)) da_nil))) (da_cons (de_tup (da_cons de_str (da_cons (de_var (i := 4) rfl (.inl rfl)) da_nil))) da_nil))))))
    (dss_cons (ds_set (i := 20) nd35 rfl (.inl rfl) (de_tup (da_cons (de_ix (ixr hu1) (de_var (i := 0) rfl (.inl rfl)) de_int) (da_cons (de_var (i := 9) rfl (.inl rfl)) (da_cons (de_var (i := 2) rfl (.inl rfl)) (da_cons (de_tup (da_cons (de_tup (da_cons (de_bin opr_add (de_var (i := 6) rfl (.inl rfl)) (de_tup (da_cons (de_var (i := 8) rfl (.inl rfl)) da_nil))) (da_cons (de_var (i := 19) rfl (.inl rfl)) da_nil))) (da_cons (de_tup (da_cons (de_var (i := 7) rfl (.inl rfl)) (da_cons (de_tup (da_cons de_str (da_cons (de_var (i := 4) rfl (.inl rfl)) da_nil))) da_nil))) da_nil))) da_nil))))))
    (dss_cons (ds_set (i := 21) nd35 rfl (.inl rfl) (de_tup (da_cons (de_bin opr_add (de_var (i := 6) rfl (.inl rfl)) (de_tup (da_cons (de_var (i := 8) rfl (.inl rfl)) da_nil))) (da_cons (de_tup (da_cons de_str (da_cons (de_ix (ixr hu1) (de_var (i := 0) rfl (.inl rfl)) de_int) (da_cons (de_tup (da_cons (de_tup (da_cons de_str (da_cons (de_var (i := 8) rfl (.inl rfl)) da_nil))) da_nil)) da_nil)))) da_nil))))
    (dss_cons (ds_set (i := 22) nd35 rfl (.inl rfl) (de_tup (da_cons (de_ix (ixr hu1) (de_var (i := 0) rfl (.inl rfl)) de_int) (da_cons (de_slc slr (de_var (i := 9) rfl (.inl rfl)) do_none (do_some de_int)) (da_cons (de_var (i := 2) rfl (.inl rfl)) (da_cons (de_tup (da_cons (de_var (i := 21) rfl (.inl rfl)) (da_cons (de_var (i := 15) rfl (.inl rfl)) da_nil))) da_nil))))))
    (dss_cons (ds_ret (de_tup (da_cons (de_tup (da_cons (de_tup (da_cons (de_var (i := 2) rfl (.inl rfl)) (da_cons (de_ty cr_tuple rfl T.n_tuple bt_tuple (da_cons (de_var (i := 1) rfl (.inl rfl)) da_nil)) da_nil))) da_nil)) (da_cons (de_tup (da_cons (de_var (i := 13) rfl (.inl rfl)) (da_cons (de_var (i := 16) rfl (.inl rfl)) (da_cons (de_var (i := 17) rfl (.inl rfl)) (da_cons (de_var (i := 20) rfl (.inl rfl)) (da_cons (de_var (i := 22) rfl (.inl rfl)) da_nil)))))) da_nil))))
    dss_nil)))))))))))))))))))))
theorem nd36 : N36.Nodup := by decide +kernel
theorem sc36 : FnScope N36 ["_law_deal_here", "_law_program_here", "_law_words_here", "_law_beads"] (defScope s36) := ⟨rfl, rfl, rfl, nd36, rfl, by decide +kernel, by decide +kernel⟩
theorem d36 {f : Addr} {cdv : Value} {A : Around} {outer : List Env} {s : Shared} {H : Hp} {E : XK} (T : Tx K mg fd) (L0 : Lv P w K mg base fd k) (L1 : Lv P w K mg base fd (k + 1)) (hr : Room (k + 1) (A.deeper (envOfC "_law_long_right" (defScope s36) s.heap.objs.size f cdv))) :
    DSs (NN K) (GG k) (cxOf CX0 P w K mg base N36 "_law_long_right" (defScope s36) f cdv A outer s H E).nox (defBody s36) c36 := by
  have hu := hr.units
  have hu1 : (A.deeper (envOfC "_law_long_right" (defScope s36) s.heap.objs.size f cdv)).units + 1 < cLine := by omega
  exact (dss_cons (ds_setLc (i := 4) rfl nd36 rfl rfl rfl (di_val (de_var (i := 3) rfl (.inl rfl))) (blkOk_by (own := [("_law_name", 9), ("_law_many", 10), ("_law_is_open", 11)]) (by kernel_rfl)) rfl (fun _ _ _ _ _ => (dtg_tp rfl (dtgs_cons (dtg_nm nd36 rfl (.inl rfl)) (dtgs_cons (dtg_nm nd36 rfl (.inl rfl)) (dtgs_cons (dtg_nm nd36 rfl (.inl rfl)) dtgs_nil))) rfl)) (fun _ _ _ _ _ => dts_nil) (fun _ _ _ _ _ => (de_bin opr_add (de_tup (da_cons (de_var (i := 9) rfl (.inl rfl)) da_nil)) (de_ty cr_tuple rfl T.n_tuple bt_tuple (da_cons (de_lc rfl nd36 (di_rng1 rfl T.n_range (da_cons (de_var (i := 10) rfl (.inl rfl)) da_nil)) (blkOk_by (own := [("_law_k", 12)]) (by kernel_rfl)) rfl (fun _ _ _ _ _ => (dtg_nm nd36 rfl (.inl rfl))) (fun _ _ _ _ _ => dts_nil) (fun _ _ _ _ _ => (de_call L1.f32 hr rfl T.g__law_figure T.k__law_figure T.b32 .nil (fun _ _ => .nil) (xp (E := E0)) (da_cons (de_var (i := 0) rfl (.inr (.inl rfl))) da_nil) rfl)) (by decide)) da_nil)))) (by decide))
    (dss_cons (ds_set (i := 5) nd36 rfl (.inl rfl) (de_bin opr_add (de_bin opr_mul (de_tup (da_cons (de_ix (ixr hu1) (de_var (i := 4) rfl (.inl rfl)) de_int) da_nil)) (de_bin opr_add de_int (de_call L1.f30 hr rfl T.g__law_draw T.k__law_draw T.b30 .nil (fun _ _ => .nil) (xp (E := E0)) (da_cons (de_var (i := 0) rfl (.inr (.inl rfl))) (da_cons de_int da_nil)) rfl))) (de_tup (da_cons (de_ix (ixr hu1) (de_var (i := 4) rfl (.inl rfl)) de_int) da_nil))))
    (dss_cons (ds_set (i := 6) nd36 rfl (.inl rfl) (de_bin opr_sub (de_bi cr_len rfl T.n_len bt_len (da_cons (de_var (i := 5) rfl (.inl rfl)) da_nil)) de_int))
    (dss_cons (ds_for PassesOwn.never rfl (di_rng1 rfl T.n_range (da_cons de_int da_nil)) (dtg_nm nd36 rfl (.inl rfl)) (dss_cons (ds_par (i := 5) (j := 6) rfl nd36 rfl rfl (by decide) rfl rfl (da_cons (de_ix (ixr hu1) (de_callN L1.f14 hr rfl T.g_ran T.k_ran T.kb14 (da_cons (de_var (i := 1) rfl (.inl rfl)) (da_cons (de_ix (ixr hu1) (de_var (i := 2) rfl (.inl rfl)) de_int) (da_cons (de_lst (da_cons (de_var (i := 5) rfl (.inl rfl)) (da_cons (de_var (i := 5) rfl (.inl rfl)) da_nil))) da_nil))) (dk_cons de_int dk_nil) rfl rfl rfl) de_int) (da_cons (de_bin opr_mul de_int (de_var (i := 6) rfl (.inl rfl))) da_nil)) rfl)
    dss_nil))
    (dss_cons (ds_set (i := 8) nd36 rfl (.inl rfl) (de_make (c := 1) T.mk_Feed L0.f19 hr rfl T.g_Feed T.b19 .nil (fun _ _ => .nil) (xp (E := E0)) (da_cons (de_var (i := 1) rfl (.inl rfl)) (da_cons (de_ix (ixr hu1) (de_var (i := 2) rfl (.inl rfl)) de_int) (da_cons (de_lst (da_cons (de_var (i := 5) rfl (.inl rfl)) da_nil)) da_nil))) rfl))
    (dss_cons (ds_ifs (dt_w (dw_or (dt_cmp (opr_ne hu) (de_meth0 (m := 14) (Cl := [1]) (pl := _) (fun C_ h_ => ⟨mt14 T L1 C_ h_⟩) (no14 _ _) hr (xp (E := E0)) (de_var (i := 8) rfl (.inl rfl)) rfl (ne14 K)) (de_bin opr_add (de_var (i := 6) rfl (.inl rfl)) de_int)) (dw_or (dt_cmp (opr_ne hu) (de_meth0 (m := 8) (Cl := [1]) (pl := _) (fun C_ h_ => ⟨mt8 T L1 C_ h_⟩) (no8 _ _) hr (xp (E := E0)) (de_var (i := 8) rfl (.inl rfl)) rfl (ne8 K)) (de_ix (ixr hu1) (de_var (i := 4) rfl (.inl rfl)) de_int)) (dw_or1 (dt_cmp (opr_ne hu) (de_meth0 (m := 5) (Cl := [0, 1]) (pl := _) (fun C_ h_ => ⟨mt5 T L1 C_ h_⟩) (no5 _ _) hr (xp (E := E0)) (de_var (i := 8) rfl (.inl rfl)) rfl (ne5 K)) (de_bin opr_add (de_var (i := 6) rfl (.inl rfl)) de_int)))))) (dss_cons (ds_ret de_bl)
    dss_nil) dss_nil)
    (dss_cons (ds_ret (de_band (de_cmp opr_isN (de_meth0 (m := 8) (Cl := [1]) (pl := _) (fun C_ h_ => ⟨mt8 T L1 C_ h_⟩) (no8 _ _) hr (xp (E := E0)) (de_var (i := 8) rfl (.inl rfl)) rfl (ne8 K)) de_non) (de_one (de_cmp (opr_eq hu) (de_meth0 (m := 14) (Cl := [1]) (pl := _) (fun C_ h_ => ⟨mt14 T L1 C_ h_⟩) (no14 _ _) hr (xp (E := E0)) (de_var (i := 8) rfl (.inl rfl)) rfl (ne14 K)) de_int))))
    dss_nil)))))))
theorem nd37 : N37.Nodup := by decide +kernel
theorem sc37 : FnScope N37 ["_law_program_here", "_law_f", "_law_things", "_law_due", "_law_eaten"] (defScope s37) := ⟨rfl, rfl, rfl, nd37, rfl, by decide +kernel, by decide +kernel⟩
theorem d37 {f : Addr} {cdv : Value} {A : Around} {outer : List Env} {s : Shared} {H : Hp} {E : XK} (T : Tx K mg fd) (L0 : Lv P w K mg base fd k) (L1 : Lv P w K mg base fd (k + 1)) (hgd : A.guards = some []) (hr : Room (k + 1) (A.deeper (envOfC "_law_right" (defScope s37) s.heap.objs.size f cdv))) :
    DSs (NN K) (GG k) (cxOf CX0 P w K mg base N37 "_law_right" (defScope s37) f cdv A outer s H E).nox (defBody s37) c37 := by
  have hu := hr.units
  have hu1 : (A.deeper (envOfC "_law_right" (defScope s37) s.heap.objs.size f cdv)).units + 1 < cLine := by omega
  exact (dss_cons (ds_par (i := 5) (j := 6) rfl nd37 rfl rfl (by decide) rfl rfl (da_cons (de_make (c := 1) T.mk_Feed L0.f19 hr rfl T.g_Feed T.b19 .nil (fun _ _ => .nil) (xp (E := E0)) (da_cons (de_var (i := 0) rfl (.inl rfl)) (da_cons (de_var (i := 1) rfl (.inl rfl)) (da_cons (de_var (i := 2) rfl (.inl rfl)) da_nil))) rfl) (da_cons (de_bin opr_add (de_var (i := 4) rfl (.inl rfl)) (de_lst (da_cons (de_ix (ixr hu1) (de_var (i := 4) rfl (.inl rfl)) (de_neg de_int)) da_nil))) da_nil)) rfl)
    (dss_cons (ds_for PassesOwn.never rfl (di_enum rfl T.n_enumerate (de_var (i := 3) rfl (.inl rfl))) (dtg_tp rfl (dtgs_cons (dtg_nm nd37 rfl (.inl rfl)) (dtgs_cons (dtg_nm nd37 rfl (.inl rfl)) dtgs_nil)) rfl) (dss_cons (ds_ifs (dt_w (dw_or (dt_cmp (opr_ne hu) (de_bi (cr_repr hgd hu) rfl T.n_repr bt_repr (da_cons (de_meth0 (m := 8) (Cl := [1]) (pl := _) (fun C_ h_ => ⟨mt8 T L1 C_ h_⟩) (no8 _ _) hr (xp (E := E0)) (de_var (i := 5) rfl (.inl rfl)) rfl (ne8 K)) da_nil)) (de_bi (cr_repr hgd hu) rfl T.n_repr bt_repr (da_cons (de_var (i := 8) rfl (.inl rfl)) da_nil))) (dw_or1 (dt_cmp (opr_ne hu) (de_meth0 (m := 5) (Cl := [0, 1]) (pl := _) (fun C_ h_ => ⟨mt5 T L1 C_ h_⟩) (no5 _ _) hr (xp (E := E0)) (de_var (i := 5) rfl (.inl rfl)) rfl (ne5 K)) (de_ix (ixr hu1) (de_var (i := 6) rfl (.inl rfl)) (de_var (i := 7) rfl (.inl rfl))))))) (dss_cons (ds_ret de_bl)
    dss_nil) dss_nil)
    dss_nil))
    (dss_cons (ds_ret (de_band (de_cmp opr_isN (de_meth0 (m := 8) (Cl := [1]) (pl := _) (fun C_ h_ => ⟨mt8 T L1 C_ h_⟩) (no8 _ _) hr (xp (E := E0)) (de_var (i := 5) rfl (.inl rfl)) rfl (ne8 K)) de_non) (de_band (de_cmp (opr_eq hu) (de_meth0 (m := 14) (Cl := [1]) (pl := _) (fun C_ h_ => ⟨mt14 T L1 C_ h_⟩) (no14 _ _) hr (xp (E := E0)) (de_var (i := 5) rfl (.inl rfl)) rfl (ne14 K)) de_int) (de_one (de_cmp (opr_eq hu) (de_meth0 (m := 5) (Cl := [0, 1]) (pl := _) (fun C_ h_ => ⟨mt5 T L1 C_ h_⟩) (no5 _ _) hr (xp (E := E0)) (de_var (i := 5) rfl (.inl rfl)) rfl (ne5 K)) (de_ix (ixr hu1) (de_var (i := 6) rfl (.inl rfl)) (de_neg de_int)))))))
    dss_nil)))
theorem nd38 : N38.Nodup := by decide +kernel
theorem sc38 : FnScope N38 ["_law_program_here", "_law_f", "_law_things", "_law_ahead", "_law_row"] (defScope s38) := ⟨rfl, rfl, rfl, nd38, rfl, by decide +kernel, by decide +kernel⟩
theorem d38 {f : Addr} {cdv : Value} {A : Around} {outer : List Env} {s : Shared} {H : Hp} {E : XK} (T : Tx K mg fd) (L0 : Lv P w K mg base fd k) (L1 : Lv P w K mg base fd (k + 1)) (hr : Room (k + 1) (A.deeper (envOfC "_law_handed" (defScope s38) s.heap.objs.size f cdv))) :
    DSs (NN K) (GG k) (cxOf CX0 P w K mg base N38 "_law_handed" (defScope s38) f cdv A outer s H E).nox (defBody s38) c38 := by
  have hu := hr.units
  have hu1 : (A.deeper (envOfC "_law_handed" (defScope s38) s.heap.objs.size f cdv)).units + 1 < cLine := by omega
  exact (dss_cons (ds_set (i := 5) nd38 rfl (.inl rfl) (de_make (c := 1) T.mk_Feed L0.f19 hr rfl T.g_Feed T.b19 .nil (fun _ _ => .nil) (xp (E := E0)) (da_cons (de_var (i := 0) rfl (.inl rfl)) (da_cons (de_var (i := 1) rfl (.inl rfl)) (da_cons (de_var (i := 2) rfl (.inl rfl)) da_nil))) rfl))
    (dss_cons (ds_for PassesOwn.never rfl (di_rng1 rfl T.n_range (da_cons (de_var (i := 3) rfl (.inl rfl)) da_nil)) (dtg_nm nd38 rfl (.inl rfl)) (dss_cons (ds_expr (de_meth0 (m := 8) (Cl := [1]) (pl := _) (fun C_ h_ => ⟨mt8 T L1 C_ h_⟩) (no8 _ _) hr (xp (E := E0)) (de_var (i := 5) rfl (.inl rfl)) rfl (ne8 K)))
    dss_nil))
    (dss_cons (ds_for PassesOwn.never rfl (di_enum rfl T.n_enumerate (de_var (i := 4) rfl (.inl rfl))) (dtg_tp rfl (dtgs_cons (dtg_nm nd38 rfl (.inl rfl)) (dtgs_cons (dtg_nm nd38 rfl (.inl rfl)) dtgs_nil)) rfl) (dss_cons (ds_set (i := 8) nd38 rfl (.inl rfl) (de_meth0 (m := 5) (Cl := [0, 1]) (pl := _) (fun C_ h_ => ⟨mt5 T L1 C_ h_⟩) (no5 _ _) hr (xp (E := E0)) (de_var (i := 5) rfl (.inl rfl)) rfl (ne5 K)))
    (dss_cons (ds_ifs (dt_w (dw_or (dt_cmp (opr_ne hu) (de_meth0 (m := 8) (Cl := [1]) (pl := _) (fun C_ h_ => ⟨mt8 T L1 C_ h_⟩) (no8 _ _) hr (xp (E := E0)) (de_var (i := 5) rfl (.inl rfl)) rfl (ne8 K)) (de_var (i := 7) rfl (.inl rfl))) (dw_or (dt_cmp (opr_ne hu) (de_meth0 (m := 14) (Cl := [1]) (pl := _) (fun C_ h_ => ⟨mt14 T L1 C_ h_⟩) (no14 _ _) hr (xp (E := E0)) (de_var (i := 5) rfl (.inl rfl)) rfl (ne14 K)) (de_bin opr_sub (de_bin opr_sub (de_bi cr_len rfl T.n_len bt_len (da_cons (de_var (i := 4) rfl (.inl rfl)) da_nil)) de_int) (de_var (i := 6) rfl (.inl rfl)))) (dw_or1 (dt_w (dw_and (dt_cmp opr_gt (de_var (i := 6) rfl (.inl rfl)) de_int) (dw_and1 (dt_cmp (opr_ne hu) (de_meth0 (m := 5) (Cl := [0, 1]) (pl := _) (fun C_ h_ => ⟨mt5 T L1 C_ h_⟩) (no5 _ _) hr (xp (E := E0)) (de_var (i := 5) rfl (.inl rfl)) rfl (ne5 K)) (de_var (i := 8) rfl (.inl rfl)))))))))) (dss_cons (ds_ret de_bl)
    dss_nil) dss_nil)
    dss_nil)))
    (dss_cons (ds_ret (de_cmp opr_isN (de_meth0 (m := 8) (Cl := [1]) (pl := _) (fun C_ h_ => ⟨mt8 T L1 C_ h_⟩) (no8 _ _) hr (xp (E := E0)) (de_var (i := 5) rfl (.inl rfl)) rfl (ne8 K)) de_non))
    dss_nil))))
theorem nd39 : N39.Nodup := by decide +kernel
theorem sc39 : FnScope N39 ["_law_script"] (defScope s39) := ⟨rfl, rfl, rfl, nd39, rfl, by decide +kernel, by decide +kernel⟩
theorem d39 {f : Addr} {cdv : Value} {A : Around} {outer : List Env} {s : Shared} {H : Hp} {E : XK} (T : Tx K mg fd) (L0 : Lv P w K mg base fd k) (L1 : Lv P w K mg base fd (k + 1)) (hgd : A.guards = some []) (FG37 : FnG P w K mg base (k + 1) (ga K "_law_right") (fd 37) ["_law_program_here", "_law_f", "_law_things", "_law_due", "_law_eaten"] (spD (NN K) K 5 (phi TT (k + 1) 37))) (hr : Room (k + 1) (A.deeper (envOfC "law" (defScope s39) s.heap.objs.size f cdv))) :
    DSs (NN K) (GG k) (cxOf CX0 P w K mg base N39 "law" (defScope s39) f cdv A outer s H E).nox (defBody s39) c39 := by
  have hu := hr.units
  have hu1 : (A.deeper (envOfC "law" (defScope s39) s.heap.objs.size f cdv)).units + 1 < cLine := by omega
  exact (dss_cons (ds_set (i := 1) nd39 rfl (.inl rfl) (de_call L1.f29 hr rfl T.g__law_deal T.k__law_deal T.b29 .nil (fun _ _ => .nil) (xp (E := E0)) (da_cons (de_var (i := 0) rfl (.inl rfl)) (da_cons de_int da_nil)) rfl))
    (dss_cons (ds_set (i := 2) nd39 rfl (.inl rfl) (de_call L1.f31 hr rfl T.g__law_words T.k__law_words T.b31 .nil (fun _ _ => .nil) (xp (E := E0)) (da_cons (de_var (i := 1) rfl (.inl rfl)) (da_cons de_int da_nil)) rfl))
    (dss_cons (ds_set (i := 3) nd39 rfl (.inl rfl) (de_lst (da_cons (de_tup (da_cons (de_ix (ixr hu1) (de_var (i := 2) rfl (.inl rfl)) de_int) (da_cons (de_call L1.f30 hr rfl T.g__law_draw T.k__law_draw T.b30 .nil (fun _ _ => .nil) (xp (E := E0)) (da_cons (de_var (i := 1) rfl (.inl rfl)) (da_cons de_int da_nil)) rfl) (da_cons de_bl da_nil)))) (da_cons (de_tup (da_cons (de_ix (ixr hu1) (de_var (i := 2) rfl (.inl rfl)) de_int) (da_cons (de_call L1.f30 hr rfl T.g__law_draw T.k__law_draw T.b30 .nil (fun _ _ => .nil) (xp (E := E0)) (da_cons (de_var (i := 1) rfl (.inl rfl)) (da_cons de_int da_nil)) rfl) (da_cons de_bl da_nil)))) da_nil))))
    (dss_cons (ds_set (i := 4) nd39 rfl (.inl rfl) (de_call L1.f35 hr rfl T.g__law_program T.k__law_program T.b35 .nil (fun _ _ => .nil) (xp (E := E0)) (da_cons (de_var (i := 2) rfl (.inl rfl)) (da_cons (de_var (i := 3) rfl (.inl rfl)) da_nil)) rfl))
    (dss_cons (ds_par (i := 5) (j := 6) rfl nd39 rfl rfl (by decide) rfl rfl (da_cons (de_call L1.f33 hr rfl T.g__law_long T.k__law_long T.b33 .nil (fun _ _ => .nil) (xp (E := E0)) (da_cons (de_var (i := 1) rfl (.inl rfl)) (da_cons (de_var (i := 3) rfl (.inl rfl)) (da_cons de_int da_nil))) rfl) (da_cons (de_call L1.f33 hr rfl T.g__law_long T.k__law_long T.b33 .nil (fun _ _ => .nil) (xp (E := E0)) (da_cons (de_var (i := 1) rfl (.inl rfl)) (da_cons (de_var (i := 3) rfl (.inl rfl)) (da_cons de_int da_nil))) rfl) da_nil)) rfl)
    (dss_cons (ds_set (i := 7) nd39 rfl (.inl rfl) (de_bi cr_len rfl T.n_len bt_len (da_cons (de_var (i := 5) rfl (.inl rfl)) da_nil)))
    (dss_cons (ds_ifs (dt_not (dt_val (de_call L1.f36 hr rfl T.g__law_long_right T.k__law_long_right T.b36 .nil (fun _ _ => .nil) (xp (E := E0)) (da_cons (de_var (i := 1) rfl (.inl rfl)) (da_cons (de_var (i := 4) rfl (.inl rfl)) (da_cons (de_var (i := 2) rfl (.inl rfl)) (da_cons (de_var (i := 3) rfl (.inl rfl)) da_nil)))) rfl))) (dss_cons (ds_ret de_bl)
    dss_nil) dss_nil)
    (dss_cons (ds_set (i := 8) nd39 rfl (.inl rfl) (de_bin opr_add (de_slc slr (de_var (i := 5) rfl (.inl rfl)) do_none (do_some (de_neg de_int))) (de_var (i := 6) rfl (.inl rfl))))
    (dss_cons (ds_set (i := 9) nd39 rfl (.inl rfl) (de_bin opr_add (de_lc rfl nd39 (di_rng1 rfl T.n_range (da_cons (de_bin opr_sub (de_var (i := 7) rfl (.inl rfl)) de_int) da_nil)) (blkOk_by (own := [("_law_k", 14)]) (by kernel_rfl)) rfl (fun _ _ _ _ _ => (dtg_nm nd39 rfl (.inl rfl))) (fun _ _ _ _ _ => dts_nil) (fun _ _ _ _ _ => (de_bin opr_add (de_var (i := 14) rfl (.inl rfl)) de_int)) (by decide)) (de_bin opr_mul (de_lst (da_cons (de_var (i := 7) rfl (.inl rfl)) da_nil)) (de_bi cr_len rfl T.n_len bt_len (da_cons (de_var (i := 6) rfl (.inl rfl)) da_nil)))))
    (dss_cons (ds_ifs (dt_not (dt_val (de_callG hgd FG37 hr rfl T.g__law_right T.k__law_right T.b37 (da_cons (de_var (i := 4) rfl (.inl rfl)) (da_cons (de_ix (ixr hu1) (de_var (i := 2) rfl (.inl rfl)) de_int) (da_cons (de_lst (da_cons (de_var (i := 5) rfl (.inl rfl)) (da_cons (de_var (i := 6) rfl (.inl rfl)) da_nil))) (da_cons (de_var (i := 8) rfl (.inl rfl)) (da_cons (de_var (i := 9) rfl (.inl rfl)) da_nil))))) rfl))) (dss_cons (ds_ret de_bl)
    dss_nil) dss_nil)
    (dss_cons (ds_ifs (dt_not (dt_val (de_call L1.f38 hr rfl T.g__law_handed T.k__law_handed T.b38 .nil (fun _ _ => .nil) (xp (E := E0)) (da_cons (de_var (i := 4) rfl (.inl rfl)) (da_cons (de_ix (ixr hu1) (de_var (i := 2) rfl (.inl rfl)) de_int) (da_cons (de_tup (da_cons (de_var (i := 5) rfl (.inl rfl)) (da_cons (de_var (i := 6) rfl (.inl rfl)) da_nil))) (da_cons (de_bin opr_sub (de_var (i := 7) rfl (.inl rfl)) de_int) (da_cons (de_var (i := 6) rfl (.inl rfl)) da_nil))))) rfl))) (dss_cons (ds_ret de_bl)
    dss_nil) dss_nil)
    (dss_cons (ds_set (i := 10) nd39 rfl (.inl rfl) (de_call L1.f30 hr rfl T.g__law_draw T.k__law_draw T.b30 .nil (fun _ _ => .nil) (xp (E := E0)) (da_cons (de_var (i := 1) rfl (.inl rfl)) (da_cons de_int da_nil)) rfl))
    (dss_cons (ds_par (i := 11) (j := 12) rfl nd39 rfl rfl (by decide) rfl rfl (da_cons (de_slc slr (de_var (i := 5) rfl (.inl rfl)) (do_some (de_bin opr_add (de_var (i := 10) rfl (.inl rfl)) de_int)) do_none) (da_cons (de_bin opr_add (de_var (i := 10) rfl (.inl rfl)) de_int) da_nil)) rfl)
    (dss_cons (ds_ifs (dt_cmp opr_le (de_var (i := 7) rfl (.inl rfl)) (de_bin opr_add (de_var (i := 10) rfl (.inl rfl)) de_int)) (dss_cons (ds_par (i := 11) (j := 12) rfl nd39 rfl rfl (by decide) rfl rfl (da_cons (de_slc slr (de_var (i := 5) rfl (.inl rfl)) (do_some (de_neg de_int)) do_none) (da_cons (de_var (i := 7) rfl (.inl rfl)) da_nil)) rfl)
    dss_nil) dss_nil)
    (dss_cons (ds_ifs (dt_not (dt_val (de_callG hgd FG37 hr rfl T.g__law_right T.k__law_right T.b37 (da_cons (de_var (i := 4) rfl (.inl rfl)) (da_cons (de_ix (ixr hu1) (de_var (i := 2) rfl (.inl rfl)) de_int) (da_cons (de_lst (da_cons (de_var (i := 5) rfl (.inl rfl)) (da_cons (de_var (i := 10) rfl (.inl rfl)) da_nil))) (da_cons (de_var (i := 11) rfl (.inl rfl)) (da_cons (de_bin opr_mul (de_lst (da_cons (de_var (i := 12) rfl (.inl rfl)) da_nil)) (de_bi cr_len rfl T.n_len bt_len (da_cons (de_var (i := 11) rfl (.inl rfl)) da_nil))) da_nil))))) rfl))) (dss_cons (ds_ret de_bl)
    dss_nil) dss_nil)
    (dss_cons (ds_ifs (dt_not (dt_val (de_callG hgd FG37 hr rfl T.g__law_right T.k__law_right T.b37 (da_cons (de_var (i := 4) rfl (.inl rfl)) (da_cons (de_ix (ixr hu1) (de_var (i := 2) rfl (.inl rfl)) de_int) (da_cons (de_lst (da_cons (de_var (i := 5) rfl (.inl rfl)) (da_cons (de_var (i := 6) rfl (.inl rfl)) da_nil))) (da_cons (de_var (i := 6) rfl (.inl rfl)) (da_cons (de_bin opr_mul (de_lst (da_cons de_int da_nil)) (de_bi cr_len rfl T.n_len bt_len (da_cons (de_var (i := 6) rfl (.inl rfl)) da_nil))) da_nil))))) rfl))) (dss_cons (ds_ret de_bl)
    dss_nil) dss_nil)
    (dss_cons (ds_set (i := 13) nd39 rfl (.inl rfl) (de_var (i := 6) rfl (.inl rfl)))
    (dss_cons (ds_ifs (dt_w (dw_and (dt_cmp opr_gt (de_var (i := 7) rfl (.inl rfl)) de_int) (dw_and1 (dt_cmp opr_lt (de_ix (ixr hu1) (de_bin opr_add (de_ty cr_list rfl T.n_list bt_list (da_cons (de_slc slr (de_ix (ixr hu1) (de_var (i := 5) rfl (.inl rfl)) de_int) (do_some de_int) do_none) da_nil)) (de_lst (da_cons de_int da_nil))) de_int) de_int)))) (dss_cons (ds_set (i := 13) nd39 rfl (.inl rfl) (de_slc slr (de_var (i := 5) rfl (.inl rfl)) (do_some de_int) do_none))
    dss_nil) dss_nil)
    (dss_cons (ds_ret (de_callG hgd FG37 hr rfl T.g__law_right T.k__law_right T.b37 (da_cons (de_var (i := 4) rfl (.inl rfl)) (da_cons (de_ix (ixr hu1) (de_var (i := 2) rfl (.inl rfl)) de_int) (da_cons (de_lst (da_cons (de_var (i := 5) rfl (.inl rfl)) (da_cons (de_var (i := 6) rfl (.inl rfl)) da_nil))) (da_cons (de_var (i := 13) rfl (.inl rfl)) (da_cons (de_bin opr_mul (de_lst (da_cons de_int da_nil)) (de_bi cr_len rfl T.n_len bt_len (da_cons (de_var (i := 13) rfl (.inl rfl)) da_nil))) da_nil))))) rfl))
    dss_nil)))))))))))))))))))
end
end K69
set_option Elab.async false
set_option linter.all false
set_option maxRecDepth 100000
set_option maxHeartbeats 4000000
/-! NmL: a program's defs all at once; the end of a law. -/
namespace NM
open PySem PySem.Spec L2 PyProof.Rows
section
variable {N : Nam} {P : Program} {w : World} {K : PySem.W.Frag} {mg : Str → Option Value} {base : Heap} {x qual : Str} {params : Arguments} {body : List Stmt} {scope : Scope} {dvs : List V} {kws : List (Str × V)} {f : Addr} {fd : FuncData}
theorem phi_at {t : Tbl} {i k : Nat} {Fc : Fn} (h : t.fn i = some Fc) : phi t (k + 2) i = runF (gam t (phi t (k + 1)) (phi t k)) Fc := by
  funext vs S
  simp only [phi, h]
theorem fn_p {t : Tbl} {i k np : Nat} {Fc : Fn} {Nn ps : List Str} (hi : t.fn i = some Fc) (F : FunD K x qual params body scope dvs kws f fd) (S : FnScope Nn ps scope) (hnp : np = ps.length) (hnf : Fc.np = np) (hnl : Fc.nl = Nn.length)
    (hb : ∀ (cdv : Value) (A : Around) (outer : List Env) (s : Shared) (H : Hp) (E : XK), Room (k + 1) (A.deeper (envOfC qual scope s.heap.objs.size f cdv)) → DSs N (gam t (phi t (k + 1)) (phi t k)) (cxOf CX0 P w K mg base Nn qual scope f cdv A outer s H E).nox body Fc.body) :
    FnOk P w K mg base CX0 (k + 2) f fd ps (spD N K np (phi t (k + 2) i)) := by
  rw [phi_at hi, ← hnf]
  exact fn_d F S (hnf.trans hnp) hnl hb
theorem fn_pG {t : Tbl} {i k np : Nat} {Fc : Fn} {Nn ps : List Str} (hi : t.fn i = some Fc) (F : FunD K x qual params body scope dvs kws f fd) (S : FnScope Nn ps scope) (hnp : np = ps.length) (hnf : Fc.np = np) (hnl : Fc.nl = Nn.length)
    (hb : ∀ (cdv : Value) (A : Around) (outer : List Env) (s : Shared) (H : Hp) (E : XK), A.guards = some [] → Room (k + 1) (A.deeper (envOfC qual scope s.heap.objs.size f cdv)) → DSs N (gam t (phi t (k + 1)) (phi t k)) (cxOf CX0 P w K mg base Nn qual scope f cdv A outer s H E).nox body Fc.body) :
    FnG P w K mg base (k + 2) f fd ps (spD N K np (phi t (k + 2) i)) := by
  rw [phi_at hi, ← hnf]
  exact fn_g F S (hnf.trans hnp) hnl hb
theorem fn_0 {t : Tbl} {i k np j : Nat} {ps : List Str} (hk : k ≤ 1) : FnOk P w K mg base CX0 j f fd ps (spD N K np (phi t k i)) := fn_bad fun vs S v S' e => by
  match k, hk, e with
  | 0, _, e => simp only [phi] at e; cases e
  | 1, _, e => simp only [phi] at e; cases e
/-- every keyword-only parameter is given -/
theorem kb_all {ps ks : List Str} {n : Nat} (F : FunD K x qual params body scope [] kws f fd)
    (h : ∀ (kV doc pm : Value) (an : Option Addr) (cdv ct : Value) (us ws : List Value), us.length = n → ws.length = ks.length → bindArgs (PySem.W.fnOf x qual params body scope .none kV doc pm an cdv ct) ⟨us, ks.zip ws⟩ = pure (ps.zip (us ++ ws))) : KBn K fd ps n ks (fun a b => a ++ b) (fun a b => a ++ b) := by
  obtain ⟨oc, od, dV, kV, doc, pm, an, cdv, ct, osl, rfl, lk, hcd, hD, hK⟩ := F.ex
  rcases hD with ⟨_, rfl⟩ | ⟨z, _⟩
  · exact ⟨fun s us ws _ l1 l2 => .of_eq (h kV doc pm an cdv ct us ws l1 l2), fun a b => a.append b⟩
  · exact absurd rfl z
end
section
variable {N : Nam} {K : PySem.W.Frag} {H : Hp}
theorem rl_ints {as : List Addr} : ∀ ns : List Int, RL K H as (ns.map AV.int) (ns.map V.int)
  | [] => .nil
  | n :: ns => .cons (.int n) (rl_ints ns)
/-- the script, handed to the law -/
theorem sp_law {a : Addr} {ns : List Int} {g : List AV → Hh → Res AV} {S' : Hh} {E : XK} (hO : Only H) (hS : SqL K H a (ns.map V.int)) (h : g [.ref 0] [.rol (ns.map AV.int)] = .ok (.bl true) S') : spD N K 1 g [.ref a] H (fun v _ => v = .bl true) E := by
  refine ⟨rfl, [a], [.rol (ns.map AV.int)], [.ref 0], .bl true, S', ⟨rfl, fun n b o h1 h2 => ?_, fun n m b o o' h1 h2 h3 h4 h5 h6 => ?_⟩, .cons (.ref rfl) .nil, h, fun H' as' v' _ _ r => ?_⟩
  · match n, h1, h2 with
    | 0, h1, h2 =>
      simp at h1 h2
      subst h1; subst h2
      rcases hS with (z | ⟨o, z⟩) | ⟨o, its, m, z⟩
      · rcases hO a with y | ⟨ob, xs, y⟩ <;> rw [y] at z <;> cases z
      · exact .inl ⟨o, _, z, rl_ints ns⟩
      · exact .inr ⟨_, o, its, m, z, rl_ints ns⟩
    | n + 1, h1, h2 => simp at h1
  · match n, m, h1, h2 with
    | 0, 0, _, _ => rfl
    | n + 1, _, h1, _ => simp at h1
    | _, m + 1, _, h2 => simp at h2
  · cases r; rfl
end
/-- the law's call at the claim's own place -/
theorem law_g {P : Program} {w : World} {K : PySem.W.Frag} {mg mb : Str → Option Value} {k : Nat} {fa a : Addr} {fd : FuncData} {x : Str} {sp : Sp} {t : Shared} {us : List Value} {ns : List Int}
    (inK : K.In t.heap) (nsG : t.heap.Ns mainGlobals mg) (nsB : t.heap.Ns builtinsNs mb) (boot : ∀ x : Str, x ≠ "__name__" → mb x = bootBuiltins x) (free : t.heap.NoLimit) (noGens : t.gens = #[])
    (at_ : t.heap.get? a = some { cls := .type "list", data := .seq us.toArray }) (isI : IntsAre us ns) (few : ns.length ≤ sizeLine) (room : Room k callerA)
    (F : ∀ base : Heap, K.In base → base.Ns mainGlobals mg → FnG P w K mg base k fa fd [x] sp) (bind : ∀ (s : Shared) (u : Value), BindsTo s fd ⟨[u], []⟩ [(x, u)])
    (pure_ : ∀ H : Hp, Only H → SqL K H a (ns.map V.int) → sp [.ref a] H (fun v _ => v = .bl true) fun _ _ _ => False) :
    codeAny (model P w) callerA (.call (.ref fa) ⟨[.ref a], []⟩) (fun r s' => r = .ok (.ret (.bool true)) ∧ OldK t.heap s'.heap ∧ s'.os = t.os ∧ AllBare s'.gens) t := by
  have vals := vals_ints isI
  have size := isI.length
  have go : ∀ H : Hp, Only H → SqL K H a (ns.map V.int) → HOk P w H t.heap → (∀ b, H b ≠ none → b = a ∧ K.lookup a = none) → codeAny (model P w) callerA (.call (.ref fa) ⟨[.ref a], []⟩) (fun r s' => r = .ok (.ret (.bool true)) ∧ OldK t.heap s'.heap ∧ s'.os = t.os ∧ AllBare s'.gens) t := fun H only seq ok one => by
    have clear : ∀ {b : Addr}, (b = a → K.lookup a ≠ none) → H b = none := fun {b} hb => Classical.byContradiction fun z => hb (one b z).1 (one b z).2
    have other : ∀ {b : Addr} {o : Obj} {es : Array DictEntry} {ep : Nat}, t.heap.get? b = some o → o.data = .dict es ep → H b = none := fun {b o es ep} e d => Classical.byContradiction fun z => by
      obtain ⟨rfl, _⟩ := one b z
      rw [at_] at e; cases e; cases d
    have ns : ∀ {b : Addr} {m : Str → Option Value}, t.heap.Ns b m → (hidT t.heap H).Ns b m := fun ⟨o, es, ep, e, d, r⟩ => ⟨o, es, ep, hidT_get e (other e d), d, r⟩
    have K2 : K.In (hidT t.heap H) := fun b o e => hidT_get (inK b o e) (clear fun hb => by rw [← hb, e]; simp)
    obtain ⟨mc, c1, c2⟩ := free
    have env : Env0 P w K mg (hidT t.heap H) callerA [] t H := ⟨rfl, ⟨K2, ns nsG, ⟨mb, ns nsB, boot⟩, ⟨mc, ns c1, c2⟩⟩, fun b o e => of_hidT e, Nat.le_of_eq (hidT_size _ _), trivial, fun b hb => (List.not_mem_nil (show b ∈ ([] : List Addr) from hb)).elim, ok, .of_eq noGens⟩
    refine codeAny_mono ((F _ K2 (ns nsG)).run callerA [] t H ⟨[.ref a], []⟩ [.ref a] [.ref a] _ _ rfl room env (bind t (.ref a)) (.cons rfl .nil) (pure_ H only seq)) fun r s' h => ?_
    match r, h with
    | .ok (.ret u), ⟨v, H', os, bare, un, ok', rv, q⟩ =>
      have q' : v = .bl true := q
      subst q'
      obtain rfl : u = Value.bool true := rv
      refine ⟨rfl, OldK.of_keep fun b o e => ?_, os, bare⟩
      rcases only b with z | ⟨ob, xs, z⟩
      · exact un.keep b o e z (fun y => (List.not_mem_nil (show b ∈ ([] : List Addr) from y)).elim) (by simp)
      · have e1 := (ok b _ z).1
        have e2 := (ok' b _ (un.frzs b ob _ z)).1
        rw [e] at e1
        rw [e2, e1]
    | .ok .next, h => exact h.elim
    | .ok .brk, h => exact h.elim
    | .ok .cont, h => exact h.elim
    | .error _, h => exact h.elim
  cases lk : K.lookup a with
  | some o =>
    have e := inK a o lk
    rw [at_] at e
    cases e
    exact go (fun _ => none) (fun _ => .inl rfl) (.inr ⟨_, us.toArray, _, lk, rfl, rfl, rfl, by rw [List.size_toArray, size]; exact few, by simpa using vals⟩) (fun b u z => nomatch z) fun b z => absurd rfl z
  | none =>
    refine go (fun b => if b = a then some (.frz { cls := .type "list", data := .seq us.toArray } (.lst (ns.map V.int))) else none) (fun b => ?_) (.inl (.inr ⟨_, if_pos rfl⟩)) (fun b u z => ?_) fun b z => ?_
    · by_cases hb : b = a
      · exact .inr ⟨_, _, if_pos hb⟩
      · exact .inl (if_neg hb)
    · by_cases hb : b = a
      · have y := (if_pos hb).symm.trans z
        cases y
        subst hb
        exact ⟨at_, by rw [List.length_map]; exact few, us, _, vals, at_⟩
      · exact nomatch (if_neg hb).symm.trans z
    · by_cases hb : b = a
      · exact ⟨hb, lk⟩
      · exact absurd (if_neg hb) z
theorem walk_g {l : PySem.W.OpenLaw} {n k : Nat} {q : Program} {loose : List Str} {XP : (Str → Option Value) → Heap → Prop} {YP : World → Heap → Prop} {d : DefRec} {x : Str}
    (hn : l.most = some n) (hn2 : n ≤ sizeLine) (hdf : d.params.defaults = []) (hr : Room k callerA)
    (F : ∀ (w : World) (mg : Str → Option Value) (fa : Addr) (h : Heap), YP w h → h.Ns mainGlobals mg → mg d.name = some (.ref fa) →
      ∃ (K : PySem.W.Frag) (fd : FuncData) (sp : Sp), K.In h ∧ (∀ (s : Shared) (u : Value), BindsTo s fd ⟨[u], []⟩ [(x, u)]) ∧
        (∀ (H : Hp) (a : Addr) (ns : List Int), ns.length ≤ n → Only H → SqL K H a (ns.map V.int) → sp [.ref a] H (fun v _ => v = .bl true) fun _ _ _ => False) ∧
        ∀ base : Heap, K.In base → base.Ns mainGlobals mg → FnG l.prog w K mg base k fa fd [x] sp) :
    PySem.W.WalkO q loose XP YP l.row.toRowW d [] (fun f vs => PySem.call f vs) :=
  Att.attach_call hn hdf fun w s₀ t mg mb fa o pm cd doc a us ns G Y ho hd hcd hmg hobj isI few hg => by
    obtain ⟨K, fd, sp, inK, bind, pu, hF⟩ := F w mg fa _ Y G.T.g hmg
    exact law_g inK G.T.g G.T.b G.T.builtins G.T.nolimit hg hobj isI (Nat.le_trans few hn2) hr hF bind fun H o s => pu H a ns few o s
end NM
set_option Elab.async false
set_option linter.all false
set_option maxRecDepth 100000
set_option maxHeartbeats 8000000
/-! all defs keep their promise; the head; printed by gen.py -/
namespace K69
open PySem PySem.Spec PyProof.Rows L2 NM He

section
variable {P : Program} {w : World} {K : PySem.W.Frag} {mg : Str → Option Value} {base : Heap} {fd : Nat → FuncData} {k : Nat}
theorem lv_0 : Lv P w K mg base fd 0 := ⟨fn_0 (by decide), fn_0 (by decide), fn_0 (by decide), fn_0 (by decide), fn_0 (by decide), fn_0 (by decide), fn_0 (by decide), fn_0 (by decide), fn_0 (by decide), fn_0 (by decide), fn_0 (by decide), fn_0 (by decide), fn_0 (by decide), fn_0 (by decide), fn_0 (by decide), fn_0 (by decide), fn_0 (by decide), fn_0 (by decide), fn_0 (by decide), fn_0 (by decide), fn_0 (by decide), fn_0 (by decide), fn_0 (by decide), fn_0 (by decide), fn_0 (by decide), fn_0 (by decide), fn_0 (by decide), fn_0 (by decide), fn_0 (by decide), fn_0 (by decide), fn_0 (by decide), fn_0 (by decide), fn_0 (by decide), fn_0 (by decide), fn_0 (by decide), fn_0 (by decide), fn_0 (by decide), fn_0 (by decide)⟩
theorem lv_1 : Lv P w K mg base fd 1 := ⟨fn_0 (by decide), fn_0 (by decide), fn_0 (by decide), fn_0 (by decide), fn_0 (by decide), fn_0 (by decide), fn_0 (by decide), fn_0 (by decide), fn_0 (by decide), fn_0 (by decide), fn_0 (by decide), fn_0 (by decide), fn_0 (by decide), fn_0 (by decide), fn_0 (by decide), fn_0 (by decide), fn_0 (by decide), fn_0 (by decide), fn_0 (by decide), fn_0 (by decide), fn_0 (by decide), fn_0 (by decide), fn_0 (by decide), fn_0 (by decide), fn_0 (by decide), fn_0 (by decide), fn_0 (by decide), fn_0 (by decide), fn_0 (by decide), fn_0 (by decide), fn_0 (by decide), fn_0 (by decide), fn_0 (by decide), fn_0 (by decide), fn_0 (by decide), fn_0 (by decide), fn_0 (by decide), fn_0 (by decide)⟩
theorem lv_s (T : Tx K mg fd) (L0 : Lv P w K mg base fd k) (L1 : Lv P w K mg base fd (k + 1)) : Lv P w K mg base fd (k + 2) := ⟨fn_p rfl T.F0 sc0 rfl rfl rfl (fun _ _ _ _ _ _ hr => d0 T L0 L1 hr),
  fn_p rfl T.F1 sc1 rfl rfl rfl (fun _ _ _ _ _ _ hr => d1 T L0 L1 hr),
  fn_p rfl T.F2 sc2 rfl rfl rfl (fun _ _ _ _ _ _ hr => d2 T L0 L1 hr),
  fn_p rfl T.F3 sc3 rfl rfl rfl (fun _ _ _ _ _ _ hr => d3 T L0 L1 hr),
  fn_p rfl T.F4 sc4 rfl rfl rfl (fun _ _ _ _ _ _ hr => d4 T L0 L1 hr),
  fn_p rfl T.F5 sc5 rfl rfl rfl (fun _ _ _ _ _ _ hr => d5 T L0 L1 hr),
  fn_p rfl T.F6 sc6 rfl rfl rfl (fun _ _ _ _ _ _ hr => d6 T L0 L1 hr),
  fn_p rfl T.F7 sc7 rfl rfl rfl (fun _ _ _ _ _ _ hr => d7 T L0 L1 hr),
  fn_p rfl T.F8 sc8 rfl rfl rfl (fun _ _ _ _ _ _ hr => d8 T L0 L1 hr),
  fn_p rfl T.F9 sc9 rfl rfl rfl (fun _ _ _ _ _ _ hr => d9 T L0 L1 hr),
  fn_p rfl T.F10 sc10 rfl rfl rfl (fun _ _ _ _ _ _ hr => d10 T L0 L1 hr),
  fn_p rfl T.F11 sc11 rfl rfl rfl (fun _ _ _ _ _ _ hr => d11 T L0 L1 hr),
  fn_p rfl T.F12 sc12 rfl rfl rfl (fun _ _ _ _ _ _ hr => d12 T L0 L1 hr),
  fn_p rfl T.F13 sc13 rfl rfl rfl (fun _ _ _ _ _ _ hr => d13 T L0 L1 hr),
  fn_p rfl T.F14 sc14 rfl rfl rfl (fun _ _ _ _ _ _ hr => d14 T L0 L1 hr),
  fn_p rfl T.F15 sc15 rfl rfl rfl (fun _ _ _ _ _ _ hr => d15 T L0 L1 hr),
  fn_p rfl T.F16 sc16 rfl rfl rfl (fun _ _ _ _ _ _ hr => d16 T L0 L1 hr),
  fn_p rfl T.F17 sc17 rfl rfl rfl (fun _ _ _ _ _ _ hr => d17 T L0 L1 hr),
  fn_p rfl T.F18 sc18 rfl rfl rfl (fun _ _ _ _ _ _ hr => d18 T L0 L1 hr),
  fn_p rfl T.F19 sc19 rfl rfl rfl (fun _ _ _ _ _ _ hr => d19 T L0 L1 hr),
  fn_p rfl T.F20 sc20 rfl rfl rfl (fun _ _ _ _ _ _ hr => d20 T L0 L1 hr),
  fn_p rfl T.F21 sc21 rfl rfl rfl (fun _ _ _ _ _ _ hr => d21 T L0 L1 hr),
  fn_p rfl T.F22 sc22 rfl rfl rfl (fun _ _ _ _ _ _ hr => d22 T L0 L1 hr),
  fn_p rfl T.F23 sc23 rfl rfl rfl (fun _ _ _ _ _ _ hr => d23 T L0 L1 hr),
  fn_p rfl T.F24 sc24 rfl rfl rfl (fun _ _ _ _ _ _ hr => d24 T L0 L1 hr),
  fn_p rfl T.F25 sc25 rfl rfl rfl (fun _ _ _ _ _ _ hr => d25 T L0 L1 hr),
  fn_p rfl T.F26 sc26 rfl rfl rfl (fun _ _ _ _ _ _ hr => d26 T L0 L1 hr),
  fn_p rfl T.F27 sc27 rfl rfl rfl (fun _ _ _ _ _ _ hr => d27 T L0 L1 hr),
  fn_p rfl T.F28 sc28 rfl rfl rfl (fun _ _ _ _ _ _ hr => d28 T L0 L1 hr),
  fn_p rfl T.F29 sc29 rfl rfl rfl (fun _ _ _ _ _ _ hr => d29 T L0 L1 hr),
  fn_p rfl T.F30 sc30 rfl rfl rfl (fun _ _ _ _ _ _ hr => d30 T L0 L1 hr),
  fn_p rfl T.F31 sc31 rfl rfl rfl (fun _ _ _ _ _ _ hr => d31 T L0 L1 hr),
  fn_p rfl T.F32 sc32 rfl rfl rfl (fun _ _ _ _ _ _ hr => d32 T L0 L1 hr),
  fn_p rfl T.F33 sc33 rfl rfl rfl (fun _ _ _ _ _ _ hr => d33 T L0 L1 hr),
  fn_p rfl T.F34 sc34 rfl rfl rfl (fun _ _ _ _ _ _ hr => d34 T L0 L1 hr),
  fn_p rfl T.F35 sc35 rfl rfl rfl (fun _ _ _ _ _ _ hr => d35 T L0 L1 hr),
  fn_p rfl T.F36 sc36 rfl rfl rfl (fun _ _ _ _ _ _ hr => d36 T L0 L1 hr),
  fn_p rfl T.F38 sc38 rfl rfl rfl (fun _ _ _ _ _ _ hr => d38 T L0 L1 hr)⟩
theorem lv (T : Tx K mg fd) : ∀ k, Lv P w K mg base fd k ∧ Lv P w K mg base fd (k + 1)
  | 0 => ⟨lv_0, lv_1⟩
  | k + 1 => ⟨(lv T k).2, lv_s T (lv T k).1 (lv T k).2⟩
theorem g37 (T : Tx K mg fd) (k : Nat) : FnG P w K mg base (k + 2) (ga K "_law_right") (fd 37) ["_law_program_here", "_law_f", "_law_things", "_law_due", "_law_eaten"] (spD (NN K) K 5 (phi TT (k + 2) 37)) :=
  fn_pG (k := k + 0) rfl T.F37 sc37 rfl rfl rfl (fun _ _ _ _ _ _ hgd hr => d37 T (lv T _).1 (lv T _).2 hgd hr)
theorem g39 (T : Tx K mg fd) (k : Nat) : FnG P w K mg base (k + 3) (ga K "law") (fd 39) ["_law_script"] (spD (NN K) K 1 (phi TT (k + 3) 39)) :=
  fn_pG (k := k + 1) rfl T.F39 sc39 rfl rfl rfl (fun _ _ _ _ _ _ hgd hr => d39 T (lv T _).1 (lv T _).2 hgd (g37 T (k + 0)) hr)
end
def D0 : DefD := ⟨("reckoned", none), "reckoned", "reckoned", defArgs s0, defBody s0, defScope s0, [], []⟩
def D1 : DefD := ⟨("bead_of", none), "bead_of", "bead_of", defArgs s1, defBody s1, defScope s1, [], []⟩
def D2 : DefD := ⟨("strung", none), "strung", "strung", defArgs s2, defBody s2, defScope s2, [], []⟩
def D3 : DefD := ⟨("unstrung", none), "unstrung", "unstrung", defArgs s3, defBody s3, defScope s3, [], []⟩
def D4 : DefD := ⟨("worn", none), "worn", "worn", defArgs s4, defBody s4, defScope s4, [], []⟩
def D5 : DefD := ⟨("Run", some "__init__"), "__init__", "Run.__init__", defArgs s5, defBody s5, defScope s5, [], []⟩
def D6 : DefD := ⟨("Run", some "turn"), "turn", "Run.turn", defArgs s6, defBody s6, defScope s6, [], []⟩
def D7 : DefD := ⟨("Run", some "eat"), "eat", "Run.eat", defArgs s7, defBody s7, defScope s7, [], []⟩
def D8 : DefD := ⟨("Run", some "go_on"), "go_on", "Run.go_on", defArgs s8, defBody s8, defScope s8, [], []⟩
def D9 : DefD := ⟨("Run", some "begin"), "begin", "Run.begin", defArgs s9, defBody s9, defScope s9, [], []⟩
def D10 : DefD := ⟨("Run", some "make"), "make", "Run.make", defArgs s10, defBody s10, defScope s10, [], []⟩
def D11 : DefD := ⟨("Run", some "eaten"), "eaten", "Run.eaten", defArgs s11, defBody s11, defScope s11, [], []⟩
def D12 : DefD := ⟨("Run", some "made"), "made", "Run.made", defArgs s12, defBody s12, defScope s12, [], []⟩
def D13 : DefD := ⟨("Run", some "outcome"), "outcome", "Run.outcome", defArgs s13, defBody s13, defScope s13, [], []⟩
def D14 : DefD := ⟨("ran", none), "ran", "ran", defArgs s14, defBody s14, defScope s14, [], [("most", .int 5000)]⟩
def D15 : DefD := ⟨("terms_right_in", none), "terms_right_in", "terms_right_in", defArgs s15, defBody s15, defScope s15, [], []⟩
def D16 : DefD := ⟨("parts_at_levels", none), "parts_at_levels", "parts_at_levels", defArgs s16, defBody s16, defScope s16, [], []⟩
def D17 : DefD := ⟨("parts", none), "parts", "parts", defArgs s17, defBody s17, defScope s17, [], []⟩
def D18 : DefD := ⟨("long_of", none), "long_of", "long_of", defArgs s18, defBody s18, defScope s18, [], []⟩
def D19 : DefD := ⟨("Feed", some "__init__"), "__init__", "Feed.__init__", defArgs s19, defBody s19, defScope s19, [], []⟩
def D20 : DefD := ⟨("Feed", some "bead"), "bead", "Feed.bead", defArgs s20, defBody s20, defScope s20, [], []⟩
def D21 : DefD := ⟨("Feed", some "eat"), "eat", "Feed.eat", defArgs s21, defBody s21, defScope s21, [], []⟩
def D22 : DefD := ⟨("Feed", some "behind"), "behind", "Feed.behind", defArgs s22, defBody s22, defScope s22, [], []⟩
def D23 : DefD := ⟨("Feed", some "with_name"), "with_name", "Feed.with_name", defArgs s23, defBody s23, defScope s23, [], []⟩
def D24 : DefD := ⟨("Feed", some "arguments"), "arguments", "Feed.arguments", defArgs s24, defBody s24, defScope s24, [], []⟩
def D25 : DefD := ⟨("Feed", some "number"), "number", "Feed.number", defArgs s25, defBody s25, defScope s25, [], []⟩
def D26 : DefD := ⟨("Feed", some "counted"), "counted", "Feed.counted", defArgs s26, defBody s26, defScope s26, [], []⟩
def D27 : DefD := ⟨("Feed", some "eaten"), "eaten", "Feed.eaten", defArgs s27, defBody s27, defScope s27, [], []⟩
def D28 : DefD := ⟨("Feed", some "left"), "left", "Feed.left", defArgs s28, defBody s28, defScope s28, [], []⟩
def D29 : DefD := ⟨("_law_deal", none), "_law_deal", "_law_deal", defArgs s29, defBody s29, defScope s29, [], []⟩
def D30 : DefD := ⟨("_law_draw", none), "_law_draw", "_law_draw", defArgs s30, defBody s30, defScope s30, [], []⟩
def D31 : DefD := ⟨("_law_words", none), "_law_words", "_law_words", defArgs s31, defBody s31, defScope s31, [], []⟩
def D32 : DefD := ⟨("_law_figure", none), "_law_figure", "_law_figure", defArgs s32, defBody s32, defScope s32, [], []⟩
def D33 : DefD := ⟨("_law_long", none), "_law_long", "_law_long", defArgs s33, defBody s33, defScope s33, [], []⟩
def D34 : DefD := ⟨("_law_made", none), "_law_made", "_law_made", defArgs s34, defBody s34, defScope s34, [], []⟩
def D35 : DefD := ⟨("_law_program", none), "_law_program", "_law_program", defArgs s35, defBody s35, defScope s35, [], []⟩
def D36 : DefD := ⟨("_law_long_right", none), "_law_long_right", "_law_long_right", defArgs s36, defBody s36, defScope s36, [], []⟩
def D37 : DefD := ⟨("_law_right", none), "_law_right", "_law_right", defArgs s37, defBody s37, defScope s37, [], []⟩
def D38 : DefD := ⟨("_law_handed", none), "_law_handed", "_law_handed", defArgs s38, defBody s38, defScope s38, [], []⟩
def D39 : DefD := ⟨("law", none), "law", "law", defArgs s39, defBody s39, defScope s39, [], []⟩
def dfs_0 : List DefD := [D0, D1, D2, D3, D4, D5, D6, D7, D8, D9, D10, D11, D12, D13, D14, D15, D16, D17, D18, D19, D20, D21, D22, D23, D24, D25, D26, D27, D28, D29]
def dfs_1 : List DefD := [D30, D31, D32, D33, D34, D35, D36, D37, D38, D39]
def dfs : List DefD := dfs_0 ++ dfs_1
def fas_0 : List Fa := [.glo "Feed", .glo "Run", .glo "_law_deal", .glo "_law_draw", .glo "_law_figure", .glo "_law_handed", .glo "_law_long", .glo "_law_long_right", .glo "_law_made", .glo "_law_program", .glo "_law_right", .glo "_law_words", .glo "bead_of", .glo "long_of", .glo "parts", .glo "parts_at_levels", .glo "ran", .glo "reckoned", .glo "strung", .glo "terms_right_in", .glo "unstrung", .glo "worn", .int "WIDE" 1000000000, .free "dict", .free "enumerate", .free "int", .free "isinstance", .free "len", .free "list", .free "max"]
def fas_1 : List Fa := [.free "range", .free "repr", .free "reversed", .free "sum", .free "tuple", .free "zip", .cls "Run", .mkr "Run", .cls "Feed", .mkr "Feed", .noat "Run" "shapes", .noat "Feed" "shapes", .noat "Run" "functions", .noat "Feed" "functions", .noat "Run" "eats", .noat "Feed" "eats", .noat "Run" "makes", .noat "Feed" "makes", .noat "Run" "piled", .noat "Feed" "piled", .noat "Run" "tasks", .noat "Feed" "tasks", .noat "Run" "rules", .noat "Feed" "rules", .noat "Run" "waits", .noat "Feed" "waits", .meth "Run" "turn", .meth "Run" "eat", .meth "Run" "go_on", .meth "Run" "begin"]
def fas_2 : List Fa := [.meth "Run" "make", .meth "Run" "eaten", .meth "Run" "made", .meth "Run" "outcome", .meth "Feed" "bead", .meth "Feed" "eat", .meth "Feed" "behind", .meth "Feed" "with_name", .meth "Feed" "arguments", .meth "Feed" "number", .meth "Feed" "counted", .meth "Feed" "eaten", .meth "Feed" "left", .glo "law"]
def fas : List Fa := fas_0 ++ fas_1 ++ fas_2
theorem tx {K : PySem.W.Frag} {h : Heap} {mg : Str → Option Value} (X : K.In h) (G : h.Ns mainGlobals mg) (c : SaysD fas dfs K) : ∃ fd : Nat → FuncData, Tx K mg fd := by
  obtain ⟨e0, F0⟩ := c.def_ 0 (d := D0) rfl
  obtain ⟨e1, F1⟩ := c.def_ 1 (d := D1) rfl
  obtain ⟨e2, F2⟩ := c.def_ 2 (d := D2) rfl
  obtain ⟨e3, F3⟩ := c.def_ 3 (d := D3) rfl
  obtain ⟨e4, F4⟩ := c.def_ 4 (d := D4) rfl
  obtain ⟨e5, F5⟩ := c.def_ 5 (d := D5) rfl
  obtain ⟨e6, F6⟩ := c.def_ 6 (d := D6) rfl
  obtain ⟨e7, F7⟩ := c.def_ 7 (d := D7) rfl
  obtain ⟨e8, F8⟩ := c.def_ 8 (d := D8) rfl
  obtain ⟨e9, F9⟩ := c.def_ 9 (d := D9) rfl
  obtain ⟨e10, F10⟩ := c.def_ 10 (d := D10) rfl
  obtain ⟨e11, F11⟩ := c.def_ 11 (d := D11) rfl
  obtain ⟨e12, F12⟩ := c.def_ 12 (d := D12) rfl
  obtain ⟨e13, F13⟩ := c.def_ 13 (d := D13) rfl
  obtain ⟨e14, F14⟩ := c.def_ 14 (d := D14) rfl
  obtain ⟨e15, F15⟩ := c.def_ 15 (d := D15) rfl
  obtain ⟨e16, F16⟩ := c.def_ 16 (d := D16) rfl
  obtain ⟨e17, F17⟩ := c.def_ 17 (d := D17) rfl
  obtain ⟨e18, F18⟩ := c.def_ 18 (d := D18) rfl
  obtain ⟨e19, F19⟩ := c.def_ 19 (d := D19) rfl
  obtain ⟨e20, F20⟩ := c.def_ 20 (d := D20) rfl
  obtain ⟨e21, F21⟩ := c.def_ 21 (d := D21) rfl
  obtain ⟨e22, F22⟩ := c.def_ 22 (d := D22) rfl
  obtain ⟨e23, F23⟩ := c.def_ 23 (d := D23) rfl
  obtain ⟨e24, F24⟩ := c.def_ 24 (d := D24) rfl
  obtain ⟨e25, F25⟩ := c.def_ 25 (d := D25) rfl
  obtain ⟨e26, F26⟩ := c.def_ 26 (d := D26) rfl
  obtain ⟨e27, F27⟩ := c.def_ 27 (d := D27) rfl
  obtain ⟨e28, F28⟩ := c.def_ 28 (d := D28) rfl
  obtain ⟨e29, F29⟩ := c.def_ 29 (d := D29) rfl
  obtain ⟨e30, F30⟩ := c.def_ 30 (d := D30) rfl
  obtain ⟨e31, F31⟩ := c.def_ 31 (d := D31) rfl
  obtain ⟨e32, F32⟩ := c.def_ 32 (d := D32) rfl
  obtain ⟨e33, F33⟩ := c.def_ 33 (d := D33) rfl
  obtain ⟨e34, F34⟩ := c.def_ 34 (d := D34) rfl
  obtain ⟨e35, F35⟩ := c.def_ 35 (d := D35) rfl
  obtain ⟨e36, F36⟩ := c.def_ 36 (d := D36) rfl
  obtain ⟨e37, F37⟩ := c.def_ 37 (d := D37) rfl
  obtain ⟨e38, F38⟩ := c.def_ 38 (d := D38) rfl
  obtain ⟨e39, F39⟩ := c.def_ 39 (d := D39) rfl
  refine ⟨fun i => (([e0, e1, e2, e3, e4, e5, e6, e7, e8, e9, e10, e11, e12, e13, e14, e15, e16, e17, e18, e19, e20, e21, e22, e23, e24, e25, e26, e27, e28, e29, e30, e31, e32, e33, e34, e35, e36, e37, e38, e39] : List FuncData)[i]?).getD e0, ?_⟩
  exact {
    g_Feed := glo_ok X G (c.fact 0 rfl)
    g_Run := glo_ok X G (c.fact 1 rfl)
    g__law_deal := glo_ok X G (c.fact 2 rfl)
    k__law_deal := F29.kp
    g__law_draw := glo_ok X G (c.fact 3 rfl)
    k__law_draw := F30.kp
    g__law_figure := glo_ok X G (c.fact 4 rfl)
    k__law_figure := F32.kp
    g__law_handed := glo_ok X G (c.fact 5 rfl)
    k__law_handed := F38.kp
    g__law_long := glo_ok X G (c.fact 6 rfl)
    k__law_long := F33.kp
    g__law_long_right := glo_ok X G (c.fact 7 rfl)
    k__law_long_right := F36.kp
    g__law_made := glo_ok X G (c.fact 8 rfl)
    k__law_made := F34.kp
    g__law_program := glo_ok X G (c.fact 9 rfl)
    k__law_program := F35.kp
    g__law_right := glo_ok X G (c.fact 10 rfl)
    k__law_right := F37.kp
    g__law_words := glo_ok X G (c.fact 11 rfl)
    k__law_words := F31.kp
    g_bead_of := glo_ok X G (c.fact 12 rfl)
    k_bead_of := F1.kp
    g_long_of := glo_ok X G (c.fact 13 rfl)
    k_long_of := F18.kp
    g_parts := glo_ok X G (c.fact 14 rfl)
    k_parts := F17.kp
    g_parts_at_levels := glo_ok X G (c.fact 15 rfl)
    k_parts_at_levels := F16.kp
    g_ran := glo_ok X G (c.fact 16 rfl)
    k_ran := F14.kp
    g_reckoned := glo_ok X G (c.fact 17 rfl)
    k_reckoned := F0.kp
    g_strung := glo_ok X G (c.fact 18 rfl)
    k_strung := F2.kp
    g_terms_right_in := glo_ok X G (c.fact 19 rfl)
    k_terms_right_in := F15.kp
    g_unstrung := glo_ok X G (c.fact 20 rfl)
    k_unstrung := F3.kp
    g_worn := glo_ok X G (c.fact 21 rfl)
    k_worn := F4.kp
    i_WIDE := int_ok X G (c.fact 22 rfl)
    n_dict := free_ok X G (c.fact 23 rfl)
    n_enumerate := free_ok X G (c.fact 24 rfl)
    n_int := free_ok X G (c.fact 25 rfl)
    n_isinstance := free_ok X G (c.fact 26 rfl)
    n_len := free_ok X G (c.fact 27 rfl)
    n_list := free_ok X G (c.fact 28 rfl)
    n_max := free_ok X G (c.fact 29 rfl)
    n_range := free_ok X G (c.fact 30 rfl)
    n_repr := free_ok X G (c.fact 31 rfl)
    n_reversed := free_ok X G (c.fact 32 rfl)
    n_sum := free_ok X G (c.fact 33 rfl)
    n_tuple := free_ok X G (c.fact 34 rfl)
    n_zip := free_ok X G (c.fact 35 rfl)
    cl_Run := cls_ok (c.fact 36 rfl)
    mk_Run := mkr_ok (c.fact 37 rfl)
    cl_Feed := cls_ok (c.fact 38 rfl)
    mk_Feed := mkr_ok (c.fact 39 rfl)
    a_shapes := fun C => (if h : C = 0 then by rw [h]; exact ⟨cls_ok (c.fact 36 rfl), noat_ok (c.fact 40 rfl)⟩ else by simp only [NN, h, if_false]; exact ⟨cls_ok (c.fact 38 rfl), noat_ok (c.fact 41 rfl)⟩)
    a_functions := fun C => (if h : C = 0 then by rw [h]; exact ⟨cls_ok (c.fact 36 rfl), noat_ok (c.fact 42 rfl)⟩ else by simp only [NN, h, if_false]; exact ⟨cls_ok (c.fact 38 rfl), noat_ok (c.fact 43 rfl)⟩)
    a_eats := fun C => (if h : C = 0 then by rw [h]; exact ⟨cls_ok (c.fact 36 rfl), noat_ok (c.fact 44 rfl)⟩ else by simp only [NN, h, if_false]; exact ⟨cls_ok (c.fact 38 rfl), noat_ok (c.fact 45 rfl)⟩)
    a_makes := fun C => (if h : C = 0 then by rw [h]; exact ⟨cls_ok (c.fact 36 rfl), noat_ok (c.fact 46 rfl)⟩ else by simp only [NN, h, if_false]; exact ⟨cls_ok (c.fact 38 rfl), noat_ok (c.fact 47 rfl)⟩)
    a_piled := fun C => (if h : C = 0 then by rw [h]; exact ⟨cls_ok (c.fact 36 rfl), noat_ok (c.fact 48 rfl)⟩ else by simp only [NN, h, if_false]; exact ⟨cls_ok (c.fact 38 rfl), noat_ok (c.fact 49 rfl)⟩)
    a_tasks := fun C => (if h : C = 0 then by rw [h]; exact ⟨cls_ok (c.fact 36 rfl), noat_ok (c.fact 50 rfl)⟩ else by simp only [NN, h, if_false]; exact ⟨cls_ok (c.fact 38 rfl), noat_ok (c.fact 51 rfl)⟩)
    a_rules := fun C => (if h : C = 0 then by rw [h]; exact ⟨cls_ok (c.fact 36 rfl), noat_ok (c.fact 52 rfl)⟩ else by simp only [NN, h, if_false]; exact ⟨cls_ok (c.fact 38 rfl), noat_ok (c.fact 53 rfl)⟩)
    a_waits := fun C => (if h : C = 0 then by rw [h]; exact ⟨cls_ok (c.fact 36 rfl), noat_ok (c.fact 54 rfl)⟩ else by simp only [NN, h, if_false]; exact ⟨cls_ok (c.fact 38 rfl), noat_ok (c.fact 55 rfl)⟩)
    F0 := F0
    b0 := FunD.bindsN F0 fun _ _ _ _ _ _ us hl => match us, hl with | [_, _, _], _ => rfl
    F1 := F1
    b1 := FunD.bindsN F1 fun _ _ _ _ _ _ us hl => match us, hl with | [_, _], _ => rfl
    F2 := F2
    b2 := FunD.bindsN F2 fun _ _ _ _ _ _ us hl => match us, hl with | [_], _ => rfl
    F3 := F3
    b3 := FunD.bindsN F3 fun _ _ _ _ _ _ us hl => match us, hl with | [_], _ => rfl
    F4 := F4
    b4 := FunD.bindsN F4 fun _ _ _ _ _ _ us hl => match us, hl with | [_], _ => rfl
    F5 := F5
    b5 := FunD.bindsN F5 fun _ _ _ _ _ _ us hl => match us, hl with | [_, _, _, _], _ => rfl
    F6 := F6
    b6 := FunD.bindsN F6 fun _ _ _ _ _ _ us hl => match us, hl with | [_], _ => rfl
    m6 := meth_ok (c.fact 56 rfl)
    F7 := F7
    b7 := FunD.bindsN F7 fun _ _ _ _ _ _ us hl => match us, hl with | [_, _, _], _ => rfl
    m7 := meth_ok (c.fact 57 rfl)
    F8 := F8
    b8 := FunD.bindsN F8 fun _ _ _ _ _ _ us hl => match us, hl with | [_, _], _ => rfl
    m8 := meth_ok (c.fact 58 rfl)
    F9 := F9
    b9 := FunD.bindsN F9 fun _ _ _ _ _ _ us hl => match us, hl with | [_, _, _], _ => rfl
    m9 := meth_ok (c.fact 59 rfl)
    F10 := F10
    b10 := FunD.bindsN F10 fun _ _ _ _ _ _ us hl => match us, hl with | [_, _, _, _], _ => rfl
    m10 := meth_ok (c.fact 60 rfl)
    F11 := F11
    b11 := FunD.bindsN F11 fun _ _ _ _ _ _ us hl => match us, hl with | [_], _ => rfl
    m11 := meth_ok (c.fact 61 rfl)
    F12 := F12
    b12 := FunD.bindsN F12 fun _ _ _ _ _ _ us hl => match us, hl with | [_], _ => rfl
    m12 := meth_ok (c.fact 62 rfl)
    F13 := F13
    b13 := FunD.bindsN F13 fun _ _ _ _ _ _ us hl => match us, hl with | [_], _ => rfl
    m13 := meth_ok (c.fact 63 rfl)
    F14 := F14
    kb14 := kb_all F14 fun _ _ _ _ _ _ us ws hl hm => match us, ws, hl, hm with | [_, _, _], [_], _, _ => rfl
    F15 := F15
    b15 := FunD.bindsN F15 fun _ _ _ _ _ _ us hl => match us, hl with | [_], _ => rfl
    F16 := F16
    b16 := FunD.bindsN F16 fun _ _ _ _ _ _ us hl => match us, hl with | [_], _ => rfl
    F17 := F17
    b17 := FunD.bindsN F17 fun _ _ _ _ _ _ us hl => match us, hl with | [_], _ => rfl
    F18 := F18
    b18 := FunD.bindsN F18 fun _ _ _ _ _ _ us hl => match us, hl with | [_], _ => rfl
    F19 := F19
    b19 := FunD.bindsN F19 fun _ _ _ _ _ _ us hl => match us, hl with | [_, _, _, _], _ => rfl
    F20 := F20
    b20 := FunD.bindsN F20 fun _ _ _ _ _ _ us hl => match us, hl with | [_], _ => rfl
    m20 := meth_ok (c.fact 64 rfl)
    F21 := F21
    b21 := FunD.bindsN F21 fun _ _ _ _ _ _ us hl => match us, hl with | [_, _, _], _ => rfl
    m21 := meth_ok (c.fact 65 rfl)
    F22 := F22
    b22 := FunD.bindsN F22 fun _ _ _ _ _ _ us hl => match us, hl with | [_, _, _], _ => rfl
    m22 := meth_ok (c.fact 66 rfl)
    F23 := F23
    b23 := FunD.bindsN F23 fun _ _ _ _ _ _ us hl => match us, hl with | [_, _, _], _ => rfl
    m23 := meth_ok (c.fact 67 rfl)
    F24 := F24
    b24 := FunD.bindsN F24 fun _ _ _ _ _ _ us hl => match us, hl with | [_, _, _], _ => rfl
    m24 := meth_ok (c.fact 68 rfl)
    F25 := F25
    b25 := FunD.bindsN F25 fun _ _ _ _ _ _ us hl => match us, hl with | [_, _, _], _ => rfl
    m25 := meth_ok (c.fact 69 rfl)
    F26 := F26
    b26 := FunD.bindsN F26 fun _ _ _ _ _ _ us hl => match us, hl with | [_, _, _], _ => rfl
    m26 := meth_ok (c.fact 70 rfl)
    F27 := F27
    b27 := FunD.bindsN F27 fun _ _ _ _ _ _ us hl => match us, hl with | [_], _ => rfl
    m27 := meth_ok (c.fact 71 rfl)
    F28 := F28
    b28 := FunD.bindsN F28 fun _ _ _ _ _ _ us hl => match us, hl with | [_], _ => rfl
    m28 := meth_ok (c.fact 72 rfl)
    F29 := F29
    b29 := FunD.bindsN F29 fun _ _ _ _ _ _ us hl => match us, hl with | [_, _], _ => rfl
    F30 := F30
    b30 := FunD.bindsN F30 fun _ _ _ _ _ _ us hl => match us, hl with | [_, _], _ => rfl
    F31 := F31
    b31 := FunD.bindsN F31 fun _ _ _ _ _ _ us hl => match us, hl with | [_, _], _ => rfl
    F32 := F32
    b32 := FunD.bindsN F32 fun _ _ _ _ _ _ us hl => match us, hl with | [_], _ => rfl
    F33 := F33
    b33 := FunD.bindsN F33 fun _ _ _ _ _ _ us hl => match us, hl with | [_, _, _], _ => rfl
    F34 := F34
    b34 := FunD.bindsN F34 fun _ _ _ _ _ _ us hl => match us, hl with | [_, _, _], _ => rfl
    F35 := F35
    b35 := FunD.bindsN F35 fun _ _ _ _ _ _ us hl => match us, hl with | [_, _], _ => rfl
    F36 := F36
    b36 := FunD.bindsN F36 fun _ _ _ _ _ _ us hl => match us, hl with | [_, _, _, _], _ => rfl
    F37 := F37
    b37 := FunD.bindsN F37 fun _ _ _ _ _ _ us hl => match us, hl with | [_, _, _, _, _], _ => rfl
    F38 := F38
    b38 := FunD.bindsN F38 fun _ _ _ _ _ _ us hl => match us, hl with | [_, _, _, _, _], _ => rfl
    F39 := F39
    b39 := FunD.bindsN F39 fun _ _ _ _ _ _ us hl => match us, hl with | [_], _ => rfl }
def loose_0 : List Str := ["WIDE", "reckoned", "MiddleError", "TooLong", "bead_of", "MOST", "strung", "unstrung", "worn", "Run", "ran", "terms_right_in", "parts_at_levels", "parts", "long_of", "Feed", "_law_deal", "_law_draw", "_law_words", "_law_figure", "_law_long", "_law_made", "_law_program", "_law_long_right", "_law_right", "_law_handed"]
def loose : List Str := loose_0
abbrev R : PySem.W.OpenRow := PySem.W.OpenLaw.row PySem.Challenge.rw_nomiddle_k69_rows_handed_on
abbrev hk : PySem.W.Hook := He.hookD 6 fas dfs
def ob (s : PySem.W.SharedT) : He.AlD := He.obsDG 6 fas dfs (HandSHeadRun.getT s)
theorem ob_eq (s : PySem.W.SharedT) : ob s = hk.obs s.abs := He.obsDG_eq (HandSHeadRun.getT_eq s)
theorem run (w : World) : HandSHeadRun.RunEq R (PySem.W.view R.prog [33]) hk ob 4000 loose w := by
  intro os
  kernel_rfl
end K69
set_option Elab.async false
set_option linter.all false
set_option maxRecDepth 100000
set_option maxHeartbeats 4000000
/-! NmM: the evaluator's equations for simp; loops; looks into the heap. -/
namespace NM
open PySem
section
variable (G : Gam) (ls : Ls) (S : Hh)
@[simp] theorem ev_var (i) : ev G (.var i) ls S = match ls[i]? with | some (some v) => .ok v S | _ => .bad := by simp only [ev] <;> rfl
@[simp] theorem ev_cst (v) : ev G (.cst v) ls S = .ok v S := by simp only [ev] <;> rfl
@[simp] theorem ev_glob (v) : ev G (.glob v) ls S = .ok v S := by simp only [ev] <;> rfl
@[simp] theorem ev_bin (op a b) : ev G (.bin op a b) ls S = (ev G a ls S).bind fun x S1 => (ev G b ls S1).bind fun y S2 => bin2 op x y S2 := by simp only [ev] <;> rfl
@[simp] theorem ev_neg (a) : ev G (.neg a) ls S = (ev G a ls S).bind fun x S1 => match x with | .int i => .ok (.int (-i)) S1 | _ => .bad := by simp only [ev] <;> rfl
@[simp] theorem ev_cmp (op a b) : ev G (.cmp op a b) ls S = (ev G a ls S).bind fun x S1 => (ev G b ls S1).bind fun y S2 => cmp2 op x y S2 := by simp only [ev] <;> rfl
@[simp] theorem ev_band (a b) : ev G (.band a b) ls S = (ev G a ls S).bind fun x S1 => match x with | .bl true => ev G b ls S1 | .bl false => .ok (.bl false) S1 | _ => .bad := by simp only [ev] <;> rfl
@[simp] theorem ev_bor (a b) : ev G (.bor a b) ls S = (ev G a ls S).bind fun x S1 => match x with | .bl true => .ok (.bl true) S1 | .bl false => ev G b ls S1 | _ => .bad := by simp only [ev] <;> rfl
@[simp] theorem ev_bnot (a) : ev G (.bnot a) ls S = (ev G a ls S).bind fun x S1 => match x with | .bl b => .ok (.bl (!b)) S1 | _ => .bad := by simp only [ev] <;> rfl
@[simp] theorem ev_ifx (c a b) : ev G (.ifx c a b) ls S = (evT G c ls S).bind fun t S1 => if t = true then ev G a ls S1 else ev G b ls S1 := by simp only [ev] <;> rfl
@[simp] theorem ev_tup (es) : ev G (.tup es) ls S = (evs G es ls S).bind fun vs S1 => .ok (.tup vs) S1 := by simp only [ev] <;> rfl
@[simp] theorem ev_lst (es) : ev G (.lst es) ls S = (evs G es ls S).bind fun vs S1 => alloc (.lst vs) S1 := by simp only [ev] <;> rfl
@[simp] theorem ev_idx (a i) : ev G (.idx a i) ls S = (ev G a ls S).bind fun x S1 => (ev G i ls S1).bind fun y S2 => idx2 x y S2 := by simp only [ev] <;> rfl
@[simp] theorem ev_slc (a lo hi) : ev G (.slc a lo hi) ls S = (ev G a ls S).bind fun x S1 => (evO G lo ls S1).bind fun l S2 => (evO G hi ls S2).bind fun h S3 => slc2 x l h S3 := by simp only [ev] <;> rfl
@[simp] theorem ev_call (f es ds) : ev G (.call f es ds) ls S = (evs G es ls S).bind fun vs S1 => G.fn f (vs ++ ds) S1 := by simp only [ev] <;> rfl
@[simp] theorem ev_callk (f es ks) : ev G (.callk f es ks) ls S = (evs G es ls S).bind fun vs S1 => (evs G ks ls S1).bind fun zs S2 => G.fn f (vs ++ zs) S2 := by simp only [ev] <;> rfl
@[simp] theorem ev_meth (m o es) : ev G (.meth m o es) ls S = (ev G o ls S).bind fun x S1 => match x with
      | .ref n => match S1[n]? with
        | some (.ins C _) => (evs G es ls S1).bind fun vs S2 => G.mt C m (x :: vs) S2
        | _ => .bad
      | _ => .bad := by simp only [ev] <;> rfl
@[simp] theorem ev_make (c es ds) : ev G (.make c es ds) ls S = (evs G es ls S).bind fun vs S1 => (G.ini c (.ref S1.length :: (vs ++ ds)) (S1 ++ [.ins c []])).bind fun r S2 => match r with
      | .non => .ok (.ref S1.length) S2
      | _ => .bad := by simp only [ev] <;> rfl
@[simp] theorem ev_bi (b es) : ev G (.bi b es) ls S = (evs G es ls S).bind fun vs S1 => bi1 b vs S1 := by simp only [ev] <;> rfl
@[simp] theorem ev_bm (m o es) : ev G (.bm m o es) ls S = (ev G o ls S).bind fun x S1 => if bmTy m x S1 = true then (evs G es ls S1).bind fun vs S2 => bm1 m x vs S2 else .bad := by simp only [ev] <;> rfl
@[simp] theorem ev_isTup (a) : ev G (.isTup a) ls S = (ev G a ls S).bind fun x S1 => match x with
      | .ref _ => .bad
      | .tup _ => .ok (.bl true) S1
      | _ => .ok (.bl false) S1 := by simp only [ev] <;> rfl
@[simp] theorem ev_lrev (a) : ev G (.lrev a) ls S = (ev G a ls S).bind fun x S1 => match x with
      | .ref n => match S1[n]? with
        | some (.lst xs) => alloc (.lst xs.reverse) S1
        | _ => .bad
      | _ => .bad := by simp only [ev] <;> rfl
@[simp] theorem ev_fld (o f) : ev G (.fld o f) ls S = (ev G o ls S).bind fun x S1 => getF x f S1 := by simp only [ev] <;> rfl
@[simp] theorem evs_nil : evs G [] ls S = .ok [] S := by simp only [evs] <;> rfl
@[simp] theorem evs_cons (e es) : evs G (e :: es) ls S = (ev G e ls S).bind fun x S1 => (evs G es ls S1).bind fun xs S2 => .ok (x :: xs) S2 := by simp only [evs] <;> rfl
@[simp] theorem evO_none : evO G none ls S = .ok none S := by simp only [evO] <;> rfl
@[simp] theorem evO_some (e) : evO G (some e) ls S = (ev G e ls S).bind fun x S1 => match x with | .int i => .ok (some i) S1 | _ => .bad := by simp only [evO] <;> rfl
@[simp] theorem evT_val (e) : evT G (.val e) ls S = (ev G e ls S).bind fun x S1 => tru x S1 := by simp only [evT] <;> rfl
@[simp] theorem evT_and (a b) : evT G (.and a b) ls S = (evT G a ls S).bind fun t S1 => if t = true then evT G b ls S1 else .ok false S1 := by simp only [evT] <;> rfl
@[simp] theorem evT_or (a b) : evT G (.or a b) ls S = (evT G a ls S).bind fun t S1 => if t = true then .ok true S1 else evT G b ls S1 := by simp only [evT] <;> rfl
@[simp] theorem evT_not (a) : evT G (.not a) ls S = (evT G a ls S).bind fun t S1 => .ok (!t) S1 := by simp only [evT] <;> rfl
@[simp] theorem evTs_nil : evTs G [] ls S = .ok true S := by simp only [evTs] <;> rfl
@[simp] theorem evTs_cons (c cs) : evTs G (c :: cs) ls S = (evT G c ls S).bind fun t S1 => if t = true then evTs G cs ls S1 else .ok false S1 := by simp only [evTs] <;> rfl
@[simp] theorem evIt_val (e) : evIt G (.val e) ls S = (ev G e ls S).bind fun x S1 => match walkOf x S1 with | some w => .ok w S1 | none => .bad := by simp only [evIt] <;> rfl
@[simp] theorem evIt_rng (es) : evIt G (.rng es) ls S = (evs G es ls S).bind fun vs S1 => match vs with
      | [.int j] => if -line < j ∧ j < line then .ok (rngA 0 j.toNat, []) S1 else .bad
      | [.int i, .int j] => if -line < i ∧ i < line ∧ -line < j ∧ j < line then .ok (rngA i (j - i).toNat, []) S1 else .bad
      | _ => .bad := by simp only [evIt] <;> rfl
@[simp] theorem evIt_enm (e) : evIt G (.enm e) ls S = (ev G e ls S).bind fun x S1 => match walkN x S1 with | some w => .ok (enumA 0 w.1, w.2) S1 | none => .bad := by simp only [evIt] <;> rfl
@[simp] theorem evIt_zip (a b) : evIt G (.zip a b) ls S = (ev G a ls S).bind fun x S1 => (ev G b ls S1).bind fun y S2 => match walkN x S2, walkN y S2 with
      | some w, some z => .ok (zipA w.1 z.1, w.2 ++ z.2) S2
      | _, _ => .bad := by simp only [evIt] <;> rfl
@[simp] theorem evIt_rev (e) : evIt G (.rev e) ls S = (ev G e ls S).bind fun x S1 => match walkN x S1 with | some w => .ok (w.1.reverse, w.2) S1 | none => .bad := by simp only [evIt] <;> rfl
@[simp] theorem evC_asg (t e) : evC G (.asg t e) ls S = (ev G e ls S).bind fun v S1 => (asgL G t v ls S1).bind fun ls' S2 => .ok (.nx, ls') S2 := by simp only [evC] <;> rfl
@[simp] theorem evC_asg2 (t u e) : evC G (.asg2 t u e) ls S = (ev G e ls S).bind fun v S1 => (asgL G t v ls S1).bind fun ls' S2 => (asgL G u v ls' S2).bind fun ls'' S3 => .ok (.nx, ls'') S3 := by simp only [evC] <;> rfl
@[simp] theorem evC_augN (i op e) : evC G (.augN i op e) ls S = match ls[i]? with
      | some (some (.int x)) => (ev G e ls S).bind fun y S1 => match y, op with
        | .int y, .add => .ok (.nx, ls.set i (some (.int (x + y)))) S1
        | .int y, .sub => .ok (.nx, ls.set i (some (.int (x - y)))) S1
        | _, _ => .bad
      | _ => .bad := by simp only [evC] <;> rfl
@[simp] theorem evC_augF (o f op e) : evC G (.augF o f op e) ls S = (ev G o ls S).bind fun x S1 => (getF x f S1).bind fun a S2 => (ev G e ls S2).bind fun y S3 => if clsOf x S2 = clsOf x S3 then match a, y, op with
      | .int a, .int y, .add => (setF x f (.int (a + y)) S3).bind fun _ S4 => .ok (.nx, ls) S4
      | .int a, .int y, .sub => (setF x f (.int (a - y)) S3).bind fun _ S4 => .ok (.nx, ls) S4
      | _, _, _ => .bad
      else .bad := by simp only [evC] <;> rfl
@[simp] theorem evC_expr (e) : evC G (.expr e) ls S = (ev G e ls S).bind fun _ S1 => .ok (.nx, ls) S1 := by simp only [evC] <;> rfl
@[simp] theorem evC_ret (e) : evC G (.ret e) ls S = (ev G e ls S).bind fun v S1 => .ok (.rt v, ls) S1 := by simp only [evC] <;> rfl
@[simp] theorem evC_retN : evC G .retN ls S = .ok (.rt .non, ls) S := by simp only [evC] <;> rfl
@[simp] theorem evC_pass : evC G .pass ls S = .ok (.nx, ls) S := by simp only [evC] <;> rfl
@[simp] theorem evC_ifs (c a b) : evC G (.ifs c a b) ls S = (evT G c ls S).bind fun t S1 => if t = true then evCs G a ls S1 else evCs G b ls S1 := by simp only [evC] <;> rfl
@[simp] theorem evC_whl (c b) : evC G (.whl c b) ls S = whR (evT G c) (evCs G b) ls S := by simp only [evC] <;> rfl
@[simp] theorem evC_forr (tg it b) : evC G (.forr tg it b) ls S = (evIt G it ls S).bind fun w S1 => forGo (fun x ls S => match asgT tg x ls S with | some ls' => evCs G b ls' S | none => .bad) w.2 w.1 ls S1 := by simp only [evC] <;> rfl
@[simp] theorem evC_brk : evC G .brk ls S = .ok (.bk, ls) S := by simp only [evC] <;> rfl
@[simp] theorem evC_cont : evC G .cont ls S = .ok (.ct, ls) S := by simp only [evC] <;> rfl
@[simp] theorem evC_never : evC G .never ls S = .bad := by simp only [evC] <;> rfl
@[simp] theorem evCs_nil : evCs G [] ls S = .ok (.nx, ls) S := by simp only [evCs] <;> rfl
@[simp] theorem evCs_cons (c cs) : evCs G (c :: cs) ls S = (evC G c ls S).bind fun r S1 => match r with
      | (.nx, ls') => evCs G cs ls' S1
      | r => .ok r S1 := by simp only [evCs] <;> rfl
@[simp] theorem asgL_nm (i v) : asgL G (.nm i) v ls S = .ok (ls.set i (some v)) S := rfl
@[simp] theorem asgL_tp (ts v) : asgL G (.tp ts) v ls S = match asgT (.tp ts) v ls S with | some ls' => .ok ls' S | none => .bad := rfl
@[simp] theorem asgL_fld (o f v) : asgL G (.fld o f) v ls S = (ev G o ls S).bind fun x S1 => (setF x f v S1).bind fun _ S2 => .ok ls S2 := rfl
@[simp] theorem asgL_idx (o i v) : asgL G (.idx o i) v ls S = (ev G o ls S).bind fun x S1 => (ev G i ls S1).bind fun y S2 => (setI x y v S2).bind fun _ S3 => .ok ls S3 := rfl
@[simp] theorem asgT_nm (i v) : asgT (.nm i) v ls S = some (ls.set i (some v)) := by simp only [asgT]
@[simp] theorem asgT_tp (ts xs) : asgT (.tp ts) (.tup xs) ls S = asgTs ts xs ls S := by simp only [asgT]
@[simp] theorem asgTs_nil : asgTs [] [] ls S = some ls := by simp only [asgTs]
@[simp] theorem asgTs_cons (t ts x xs) : asgTs (t :: ts) (x :: xs) ls S = (asgT t x ls S).bind fun ls' => asgTs ts xs ls' S := by simp only [asgTs]
end
/-! ### whiles -/
section
variable {c : Ls → Hh → Res Bool} {b : Ls → Hh → Res (Fl × Ls)}
theorem Wh.det {n m : Nat} {ls : Ls} {S : Hh} {r r' : Fl × Ls} {S1 S2 : Hh} (h : Wh c b n ls S r S1) : Wh c b m ls S r' S2 → r = r' ∧ S1 = S2 := by
  intro h2
  induction h generalizing m r' S2 with
  | done e => cases h2 <;> rename_i e2 <;> simp_all
  | next e f t ih =>
    cases h2 with
    | done e2 => rw [e] at e2; cases e2
    | next e2 f2 t2 => rw [e] at e2; cases e2; rw [f] at f2; cases f2; exact ih t2
    | cont e2 f2 t2 => rw [e] at e2; cases e2; rw [f] at f2; cases f2
    | brk e2 f2 => rw [e] at e2; cases e2; rw [f] at f2; cases f2
    | ret e2 f2 => rw [e] at e2; cases e2; rw [f] at f2; cases f2
  | cont e f t ih =>
    cases h2 with
    | done e2 => rw [e] at e2; cases e2
    | next e2 f2 t2 => rw [e] at e2; cases e2; rw [f] at f2; cases f2
    | cont e2 f2 t2 => rw [e] at e2; cases e2; rw [f] at f2; cases f2; exact ih t2
    | brk e2 f2 => rw [e] at e2; cases e2; rw [f] at f2; cases f2
    | ret e2 f2 => rw [e] at e2; cases e2; rw [f] at f2; cases f2
  | brk e f => cases h2 <;> simp_all
  | ret e f => cases h2 <;> simp_all
theorem whR_of {n : Nat} {ls : Ls} {S : Hh} {r : Fl × Ls} {S1 : Hh} (h : Wh c b n ls S r S1) : whR c b ls S = .ok r S1 := by
  have hx : ∃ p : Nat × (Fl × Ls) × Hh, Wh c b p.1 ls S p.2.1 p.2.2 := ⟨(n, r, S1), h⟩
  unfold whR
  rw [dif_pos hx]
  obtain ⟨a, b⟩ := Wh.det hx.choose_spec h
  rw [a, b]
theorem whR_done {ls : Ls} {S S1 : Hh} (h : c ls S = .ok false S1) : whR c b ls S = .ok (.nx, ls) S1 := whR_of (.done h)
theorem whR_ret {ls ls1 : Ls} {S S1 S2 : Hh} {v : AV} (h : c ls S = .ok true S1) (h2 : b ls S1 = .ok (.rt v, ls1) S2) : whR c b ls S = .ok (.rt v, ls1) S2 := whR_of (.ret h h2)
theorem whR_brk {ls ls1 : Ls} {S S1 S2 : Hh} (h : c ls S = .ok true S1) (h2 : b ls S1 = .ok (.bk, ls1) S2) : whR c b ls S = .ok (.nx, ls1) S2 := whR_of (.brk h h2)
theorem whR_ok {ls : Ls} {S S1 : Hh} {r : Fl × Ls} (h : whR c b ls S = .ok r S1) : ∃ n, Wh c b n ls S r S1 := by
  unfold whR at h
  split at h
  · rename_i hx
    cases h
    exact ⟨_, hx.choose_spec⟩
  · cases h
theorem whR_next {ls ls1 : Ls} {S S1 S2 : Hh} {r : Fl × Ls} {S3 : Hh} (h : c ls S = .ok true S1) (h2 : b ls S1 = .ok (.nx, ls1) S2) (h3 : whR c b ls1 S2 = .ok r S3) : whR c b ls S = .ok r S3 := by
  obtain ⟨n, w⟩ := whR_ok h3
  exact whR_of (.next h h2 w)
end
/-! ### fors -/
@[simp] theorem forGo_nil (g) (gs : Gd) (ls : Ls) (S : Hh) : forGo g gs [] ls S = if gdOk gs S = true then .ok (.nx, ls) S else .bad := rfl
@[simp] theorem forGo_cons (g) (gs : Gd) (x xs) (ls : Ls) (S : Hh) : forGo g gs (x :: xs) ls S = if gdOk gs S = true then (g x ls S).bind fun r S1 => match r with
      | (.nx, ls') => forGo g gs xs ls' S1
      | (.ct, ls') => forGo g gs xs ls' S1
      | (.bk, ls') => .ok (.nx, ls') S1
      | (.rt v, ls') => .ok (.rt v, ls') S1
    else .bad := rfl
@[simp] theorem gd_nil (S : Hh) : gdOk [] S = true := rfl
theorem gd_one {n : Nat} {o : AO} {S : Hh} (h : S[n]? = some o) : gdOk [(n, o)] S = true := by simp [gdOk, h]
theorem gd_app {a b : Gd} {S : Hh} (h : gdOk a S = true) (h2 : gdOk b S = true) : gdOk (a ++ b) S = true := by
  unfold gdOk at *
  rw [List.all_append, h, h2]; rfl
@[simp] theorem lcGo_nil (g) (gs : Gd) (D : Nat) (S : Hh) : lcGo g gs D [] S = if gdOk gs S = true then .ok () S else .bad := rfl
@[simp] theorem dcGo_nil (g) (gs : Gd) (D : Nat) (S : Hh) : dcGo g gs D [] S = if gdOk gs S = true then .ok () S else .bad := rfl
/-! ### the heap -/
theorem get_lt {S : Hh} {n : Nat} {o : AO} (h : S[n]? = some o) : n < S.length := (List.getElem?_eq_some_iff.mp h).1
theorem get_app {S T : Hh} {n : Nat} {o : AO} (h : S[n]? = some o) : (S ++ T)[n]? = some o := by rw [List.getElem?_append_left (get_lt h)]; exact h
@[simp] theorem get_new (S : Hh) (o : AO) (T : Hh) : (S ++ o :: T)[S.length]? = some o := by simp
theorem set_same {S : Hh} {n : Nat} {o o' : AO} (h : S[n]? = some o) : (S.set n o')[n]? = some o' := List.getElem?_set_self (get_lt h)
theorem set_ne {S : Hh} {n m : Nat} {o' : AO} (h : n ≠ m) : (S.set n o')[m]? = S[m]? := List.getElem?_set_ne h
@[simp] theorem get_at {S' T : Hh} {m n : Nat} (h : S'.length = m) : (S' ++ T)[m + n]? = T[n]? := by subst h; rw [List.getElem?_append_right (Nat.le_add_right _ _), Nat.add_sub_cancel_left]
@[simp] theorem get_at0 {S' T : Hh} {o : AO} {m : Nat} (h : S'.length = m) : (S' ++ o :: T)[m]? = some o := by subst h; simp
@[simp] theorem set_at {S' T : Hh} {o : AO} {m n : Nat} (h : S'.length = m) : (S' ++ T).set (m + n) o = S' ++ T.set n o := by subst h; rw [List.set_append_right _ _ (Nat.le_add_right _ _), Nat.add_sub_cancel_left]
@[simp] theorem set_at0 {S' T : Hh} {o o' : AO} {m : Nat} (h : S'.length = m) : (S' ++ o :: T).set m o' = S' ++ o' :: T := by subst h; simp
/-- a place of the heap (told so that simp keeps its looks) -/
def Inn (S : Hh) (a : Nat) : Prop := a < S.length
theorem inn_of {S : Hh} {a : Nat} {o : AO} (h : S[a]? = some o) : Inn S a := get_lt h
@[simp] theorem inn_set (S : Hh) (a b : Nat) (o : AO) : Inn (S.set b o) a ↔ Inn S a := by simp [Inn]
@[simp] theorem inn_app {S T : Hh} {a : Nat} (h : Inn S a) : Inn (S ++ T) a := by simp only [Inn, List.length_append] at *; omega
@[simp] theorem get_old {S' T : Hh} {a : Nat} (h : Inn S' a) : (S' ++ T)[a]? = S'[a]? := List.getElem?_append_left h
@[simp] theorem set_old {S' T : Hh} {a : Nat} {o : AO} (h : Inn S' a) : (S' ++ T).set a o = S'.set a o ++ T := List.set_append_left _ _ h
@[simp] theorem get_set_same {S : Hh} {a : Nat} {o : AO} (h : Inn S a) : (S.set a o)[a]? = some o := List.getElem?_set_self h
@[simp] theorem get_set_ne {S : Hh} {a b : Nat} {o : AO} (h : a ≠ b) : (S.set a o)[b]? = S[b]? := List.getElem?_set_ne h
@[simp] theorem lcGo_cons (g) (gs : Gd) (D : Nat) (x xs) (S : Hh) : lcGo g gs D (x :: xs) S = if gdOk gs S = true then (g x S).bind fun r S1 => match r with
      | none => lcGo g gs D xs S1
      | some y => match S1[D]? with
        | some (.lst acc) => if acc.length < line then lcGo g gs D xs (S1.set D (.lst (acc ++ [y]))) else .bad
        | _ => .bad
    else .bad := rfl
@[simp] theorem dcGo_cons (g) (gs : Gd) (D : Nat) (x xs) (S : Hh) : dcGo g gs D (x :: xs) S = if gdOk gs S = true then (g x S).bind fun r S1 => match r with
      | none => dcGo g gs D xs S1
      | some (k, y) => match k, S1[D]? with
        | .str k, some (.dic kvs) => if kvs.length < line then dcGo g gs D xs (S1.set D (.dic (putD k y kvs))) else .bad
        | _, _ => .bad
    else .bad := rfl
@[simp] theorem gd_cons (n : Nat) (o : AO) (gs : Gd) (S : Hh) : gdOk ((n, o) :: gs) S = true ↔ S[n]? = some o ∧ gdOk gs S = true := by unfold gdOk; simp only [List.all_cons, Bool.and_eq_true, decide_eq_true_eq]
@[simp] theorem ev_lc (G : Gam) (ls : Ls) (S : Hh) (elt tg it cs own) : ev G (.lc elt tg it cs own) ls S = (evIt G it ls S).bind fun w S1 =>
      (lcGo (fun x S => match asgT tg x (wipeA ls own) S with
        | some ls' => (evTs G cs ls' S).bind fun b S => if b = true then (ev G elt ls' S).bind fun y S => .ok (some y) S else .ok none S
        | none => .bad) w.2 S1.length w.1 (S1 ++ [.lst []])).bind fun _ S2 => .ok (.ref S1.length) S2 := by simp only [ev] <;> rfl
@[simp] theorem ev_dc (G : Gam) (ls : Ls) (S : Hh) (kx v tg it cs own) : ev G (.dc kx v tg it cs own) ls S = (evIt G it ls S).bind fun w S1 =>
      (dcGo (fun x S => match asgT tg x (wipeA ls own) S with
        | some ls' => (evTs G cs ls' S).bind fun b S => if b = true then (ev G kx ls' S).bind fun kk S => (ev G v ls' S).bind fun y S => .ok (some (kk, y)) S else .ok none S
        | none => .bad) w.2 S1.length w.1 (S1 ++ [.dic []])).bind fun _ S2 => .ok (.ref S1.length) S2 := by simp only [ev] <;> rfl
/-- the old part of a heap stands -/
structure Kp (n : Nat) (S S' : Hh) : Prop where
  len : S.length ≤ S'.length
  at_ : ∀ i, i < n → S'[i]? = S[i]?
theorem Kp.refl {n : Nat} {S : Hh} : Kp n S S := ⟨Nat.le_refl _, fun _ _ => rfl⟩
theorem Kp.trans {n : Nat} {S S1 S2 : Hh} (a : Kp n S S1) (b : Kp n S1 S2) : Kp n S S2 := ⟨Nat.le_trans a.len b.len, fun i h => (b.at_ i h).trans (a.at_ i h)⟩
theorem Kp.app {n : Nat} {S T : Hh} (h : n ≤ S.length) : Kp n S (S ++ T) := ⟨by simp, fun i hi => List.getElem?_append_left (by omega)⟩
theorem Kp.set {n m : Nat} {S : Hh} {o : AO} (h : n ≤ m) : Kp n S (S.set m o) := ⟨by simp, fun i hi => List.getElem?_set_ne (by omega)⟩
theorem Kp.get {n i : Nat} {S S' : Hh} {o : AO} (k : Kp n S S') (hi : i < n) (h : S[i]? = some o) : S'[i]? = some o := (k.at_ i hi).trans h
theorem Kp.mono {n m : Nat} {S S' : Hh} (k : Kp n S S') (h : m ≤ n) : Kp m S S' := ⟨k.len, fun i hi => k.at_ i (by omega)⟩
theorem Kp.take {S S' : Hh} (k : Kp S.length S S') : S'.take S.length = S := by
  apply List.ext_getElem?
  intro i
  by_cases h : i < S.length
  · rw [List.getElem?_take_of_lt h]; exact k.at_ i h
  · rw [List.getElem?_eq_none (by simp; omega), List.getElem?_eq_none (by omega)]
theorem sweep_flat {S S' : Hh} {v : AV} (hv : v.flat = true) (k : Kp S.length S S') : sweep S v S' = .ok v S := by
  unfold sweep
  rw [if_pos ⟨hv, k.take⟩]
theorem sweep_ref {S S' : Hh} {v : AV} (hv : v.flat = false) : sweep S v S' = .ok v S' := by
  unfold sweep
  rw [if_neg (by simp [hv])]
/-- whatever is swept: the value, and a heap that is S or S' -/
theorem sweep_any {S S' : Hh} {v : AV} (h : S'.length = S.length) : sweep S v S' = .ok v S' := by
  unfold sweep
  split
  · rename_i h2
    have : S' = S := by rw [← h2.2, ← h]; simp
    rw [this]
  · rfl
theorem sweep_chg {S S' : Hh} {v : AV} {a : Nat} (ha : Inn S a) (h : S'[a]? ≠ S[a]?) : sweep S v S' = .ok v S' := by
  unfold sweep
  rw [if_neg]
  rintro ⟨_, h2⟩
  apply h
  rw [← List.getElem?_take_of_lt ha, h2]
@[simp] theorem sweep_self (S : Hh) (v : AV) : sweep S v S = .ok v S := sweep_any rfl
/-! ### the operations by their arguments' kinds -/
section
variable (S : Hh)
@[simp] theorem b2_addI (i j) : bin2 .add (.int i) (.int j) S = .ok (.int (i + j)) S := rfl
@[simp] theorem b2_addS (a b) : bin2 .add (.str a) (.str b) S = if a.length + b.length ≤ line then .ok (.str (a ++ b)) S else .bad := rfl
@[simp] theorem b2_addT (a b) : bin2 .add (.tup a) (.tup b) S = if a.length + b.length ≤ line then .ok (.tup (a ++ b)) S else .bad := rfl
@[simp] theorem b2_addR (n m) : bin2 .add (.ref n) (.ref m) S = match S[n]?, S[m]? with
    | some (.lst a), some (.lst b) => if a.length + b.length ≤ line then alloc (.lst (a ++ b)) S else .bad
    | _, _ => .bad := rfl
@[simp] theorem b2_subI (i j) : bin2 .sub (.int i) (.int j) S = .ok (.int (i - j)) S := rfl
@[simp] theorem b2_mulI (i j) : bin2 .mul (.int i) (.int j) S = if mulOk i j then .ok (.int (i * j)) S else .bad := rfl
@[simp] theorem b2_mulS (a j) : bin2 .mul (.str a) (.int j) S = if a.length ≤ 1 ∧ 0 ≤ j ∧ j ≤ 1 then .ok (.str (List.replicate j.toNat a).flatten) S else .bad := rfl
@[simp] theorem b2_mulT (a j) : bin2 .mul (.tup a) (.int j) S = if a.isEmpty = false ∧ 2 ≤ j ∧ j ≤ 1000 ∧ a.length ≤ 1000 then .ok (.tup (List.replicate j.toNat a).flatten) S else .bad := rfl
@[simp] theorem b2_mulR (n j) : bin2 .mul (.ref n) (.int j) S = match S[n]? with
    | some (.lst a) => if -1000 ≤ j ∧ j ≤ 1000 ∧ a.length ≤ 1000 then alloc (.lst (List.replicate j.toNat a).flatten) S else .bad
    | _ => .bad := rfl
@[simp] theorem b2_fdiv (i j) : bin2 .fdiv (.int i) (.int j) S = if 0 < j ∧ j < 1073741824 then .ok (.int (i / j)) S else .bad := rfl
@[simp] theorem b2_mod (i j) : bin2 .mod (.int i) (.int j) S = if 0 < j then .ok (.int (i % j)) S else .bad := rfl
@[simp] theorem b2_pow (i j) : bin2 .pow (.int i) (.int j) S = if 0 ≤ j ∧ j ≤ 100 ∧ i = 10 then .ok (.int (10 ^ j.toNat)) S else .bad := rfl
@[simp] theorem c2_eq (x y) : cmp2 .eq x y S = ofB (eq2 x y) false S := by cases x <;> cases y <;> rfl
@[simp] theorem c2_ne (x y) : cmp2 .ne x y S = ofB (eq2 x y) true S := by cases x <;> cases y <;> rfl
@[simp] theorem c2_lt (i j) : cmp2 .lt (.int i) (.int j) S = .ok (.bl (decide (i < j))) S := rfl
@[simp] theorem c2_le (i j) : cmp2 .le (.int i) (.int j) S = .ok (.bl (decide (i ≤ j))) S := rfl
@[simp] theorem c2_gt (i j) : cmp2 .gt (.int i) (.int j) S = .ok (.bl (decide (j < i))) S := rfl
@[simp] theorem c2_ge (i j) : cmp2 .ge (.int i) (.int j) S = .ok (.bl (decide (j ≤ i))) S := rfl
@[simp] theorem c2_isN (x) : cmp2 .isN x .non S = .ok (.bl (isNon x)) S := by cases x <;> rfl
@[simp] theorem c2_notN (x) : cmp2 .notN x .non S = .ok (.bl (!isNon x)) S := by cases x <;> rfl
@[simp] theorem c2_inn (x y) : cmp2 .inn x y S = ofB (in2 x y S) false S := by cases x <;> cases y <;> rfl
@[simp] theorem isNon_n : isNon .non = true := rfl
@[simp] theorem isNon_t (xs) : isNon (.tup xs) = false := rfl
@[simp] theorem isNon_i (xs) : isNon (.int xs) = false := rfl
@[simp] theorem ofB_some (b n) : ofB (some b) n S = .ok (.bl (b != n)) S := rfl
@[simp] theorem eq2_ss (a b) : eq2 (.str a) (.str b) = some (a == b) := by unfold eq2; rw [if_pos (by rfl)]; simp only [aeq]
@[simp] theorem eq2_ii (a b) : eq2 (.int a) (.int b) = some (a == b) := by unfold eq2; rw [if_pos (by rfl)]; simp only [aeq]
@[simp] theorem tru_b (b) : tru (.bl b) S = .ok b S := rfl
@[simp] theorem tru_i (i) : tru (.int i) S = .ok (i != 0) S := rfl
@[simp] theorem tru_n : tru .non S = .ok false S := rfl
@[simp] theorem i2_t (xs i) : idx2 (.tup xs) (.int i) S = match ixA xs i with | some v => .ok v S | none => .bad := rfl
@[simp] theorem i2_s (t i) : idx2 (.str t) (.int i) S = if t.length ≤ line then (match ixA t i with | some c => .ok (.str [c]) S | none => .bad) else .bad := rfl
@[simp] theorem i2_l (n i) : idx2 (.ref n) (.int i) S = match (S[n]?).bind AO.ro with
    | some xs => (match ixA xs i with | some v => .ok v S | none => .bad)
    | none => .bad := rfl
@[simp] theorem i2_d (n k) : idx2 (.ref n) (.str k) S = match S[n]? with
    | some (.dic kvs) => (match getD kvs k with | some v => .ok v S | none => .bad)
    | some (.fdc kvs) => (match getD kvs k with | some v => .ok v S | none => .bad)
    | _ => .bad := rfl
@[simp] theorem ro_l (xs) : AO.ro (.lst xs) = some xs := rfl
@[simp] theorem ro_r (xs) : AO.ro (.rol xs) = some xs := rfl
@[simp] theorem s2_t (xs lo hi) : slc2 (.tup xs) lo hi S = .ok (.tup (cutA xs lo hi)) S := rfl
@[simp] theorem s2_s1 (t i) : slc2 (.str t) none (some i) S = if 0 ≤ i ∧ t.length ≤ line then .ok (.str (t.take i.toNat)) S else .bad := rfl
@[simp] theorem s2_s2 (t i) : slc2 (.str t) (some i) none S = if 0 ≤ i ∧ t.length ≤ line then .ok (.str (t.drop i.toNat)) S else .bad := rfl
@[simp] theorem s2_l (n lo hi) : slc2 (.ref n) lo hi S = match (S[n]?).bind AO.ro with
    | some xs => alloc (.lst (cutA xs lo hi)) S
    | none => .bad := rfl
@[simp] theorem gF_r (n f) : getF (.ref n) f S = match S[n]? with
    | some (.ins _ fs) => (match fs.lookup f with | some v => .ok v S | none => .bad)
    | _ => .bad := rfl
@[simp] theorem cO_r (n) : clsOf (.ref n) S = match S[n]? with | some (.ins C _) => some C | _ => none := rfl
@[simp] theorem sF_r (n f v) : setF (.ref n) f v S = match S[n]? with
    | some (.ins C fs) => if fs.length < 900 then .ok () (S.set n (.ins C (putN f v fs))) else .bad
    | _ => .bad := rfl
@[simp] theorem sI_r (n k v) : setI (.ref n) (.str k) v S = match S[n]? with
    | some (.dic kvs) => if kvs.length < line then .ok () (S.set n (.dic (putD k v kvs))) else .bad
    | _ => .bad := rfl
@[simp] theorem wN_t (xs) : walkN (.tup xs) S = some (xs, []) := rfl
@[simp] theorem wN_r (n) : walkN (.ref n) S = match S[n]? with
    | some (.lst xs) => some (xs, [(n, .lst xs)])
    | some (.rol xs) => some (xs, [(n, .rol xs)])
    | _ => none := rfl
@[simp] theorem wO_t (xs) : walkOf (.tup xs) S = some (xs, []) := rfl
theorem wO_l {n} {xs} (h : S[n]? = some (.lst xs)) : walkOf (.ref n) S = some (xs, [(n, .lst xs)]) := by simp [walkOf, h]
theorem wO_r {n} {xs} (h : S[n]? = some (.rol xs)) : walkOf (.ref n) S = some (xs, [(n, .rol xs)]) := by simp [walkOf, h]
@[simp] theorem sq_t (xs) : seqOf (.tup xs) S = some xs := rfl
@[simp] theorem sq_r (n) : seqOf (.ref n) S = (S[n]?).bind AO.ro := rfl
@[simp] theorem lA_t (xs) : lenA (.tup xs) S = some xs.length := rfl
@[simp] theorem lA_s (t) : lenA (.str t) S = if t.length ≤ line then some t.length else none := rfl
@[simp] theorem lA_r (n) : lenA (.ref n) S = match S[n]? with
    | some (.dic kvs) => some kvs.length
    | some (.lst xs) => some xs.length
    | some (.rol xs) => some xs.length
    | _ => none := rfl
@[simp] theorem bi_len (x) : bi1 .len [x] S = match lenA x S with | some n => .ok (.int n) S | none => .bad := rfl
@[simp] theorem bi_intB (b) : bi1 .int [.bl b] S = .ok (.int (if b then 1 else 0)) S := rfl
@[simp] theorem bi_intI (i) : bi1 .int [.int i] S = .ok (.int i) S := rfl
@[simp] theorem bi_max (i j) : bi1 .max2 [.int i, .int j] S = .ok (.int (if j > i then j else i)) S := rfl
@[simp] theorem bi_tuple (x) : bi1 .tuple [x] S = match seqOf x S with | some xs => .ok (.tup xs) S | none => .bad := rfl
@[simp] theorem bi_list (x) : bi1 .list [x] S = match seqOf x S with | some xs => alloc (.lst xs) S | none => .bad := rfl
@[simp] theorem bi_dict (n) : bi1 .dict [.ref n] S = match S[n]? with | some (.dic kvs) => alloc (.dic kvs) S | _ => .bad := rfl
@[simp] theorem bi_sum (n) : bi1 .sum [.ref n] S = match (S[n]?).bind AO.ro with
    | some xs => (match sumI xs with | some i => .ok (.int i) S | none => .bad)
    | none => .bad := rfl
@[simp] theorem alloc_ (o) : alloc o S = .ok (.ref S.length) (S ++ [o]) := rfl
@[simp] theorem bt_app (n) : bmTy .append (.ref n) S = match S[n]? with | some (.lst _) => true | _ => false := rfl
@[simp] theorem bt_ext (n) : bmTy .extend (.ref n) S = match S[n]? with | some (.lst _) => true | _ => false := rfl
@[simp] theorem bt_pop (n) : bmTy .pop (.ref n) S = match S[n]? with | some (.lst _) => true | _ => false := rfl
@[simp] theorem bt_upd (n) : bmTy .update (.ref n) S = match S[n]? with | some (.dic _) => true | _ => false := rfl
@[simp] theorem bt_join (t) : bmTy .join (.str t) S = true := rfl
@[simp] theorem bm_app (n v) : bm1 .append (.ref n) [v] S = match S[n]? with | some (.lst xs) => if xs.length < line then .ok .non (S.set n (.lst (xs ++ [v]))) else .bad | _ => .bad := rfl
@[simp] theorem bm_pop (n) : bm1 .pop (.ref n) [] S = match S[n]? with | some (.lst xs) => (match xs.getLast? with | some v => .ok v (S.set n (.lst xs.dropLast)) | none => .bad) | _ => .bad := rfl
@[simp] theorem bm_ext (n m) : bm1 .extend (.ref n) [.ref m] S = match S[n]? with | some (.lst xs) => (match S[m]? with | some (.lst ys) => if xs.length + ys.length ≤ line then .ok .non (S.set n (.lst (xs ++ ys))) else .bad | _ => .bad) | _ => .bad := rfl
@[simp] theorem bm_upd (n m) : bm1 .update (.ref n) [.ref m] S = match S[n]? with | some (.dic xs) => (match S[m]? with | some (.dic ys) => if n ≠ m ∧ xs.length + ys.length ≤ line then .ok .non (S.set n (.dic (ys.foldl (fun a kv => putD kv.1 kv.2 a) xs))) else .bad | _ => .bad) | _ => .bad := rfl
end
@[simp] theorem gam_fn (t p q) : (gam t p q).fn = p := rfl
@[simp] theorem gam_mt (t p q C m vs S) : (gam t p q).mt C m vs S = match t.mt C m with | some f => p f vs S | none => .bad := rfl
@[simp] theorem gam_ini (t p q c vs S) : (gam t p q).ini c vs S = match t.ini c with | some f => q f vs S | none => .bad := rfl
end NM
set_option Elab.async false
set_option linter.all false
set_option maxRecDepth 100000
set_option maxHeartbeats 4000000
/-! Ns: what the code of k69 computes: the small defs; the data. -/
namespace K69
open NM
theorem p_reck_lt (k : Nat) (a b : Int) (S : Hh) : phi TT (k + 2) 0 [.str [60], .int a, .int b] S = .ok (.int (if a < b then 1 else 0)) S := by
  rw [phi_at (Fc := ⟨3, 3, c0⟩) rfl]
  simp [runF, c0, cmp2, eq2, sca, AV.atom, aeq, ofB, tru, bi1, on1, biInt]
theorem p_reck_sub (k : Nat) (a b : Int) (S : Hh) : phi TT (k + 2) 0 [.str [45], .int a, .int b] S = .ok (.int ((a - b) % 1000000000)) S := by
  rw [phi_at (Fc := ⟨3, 3, c0⟩) rfl]
  simp [runF, c0, cmp2, eq2, sca, AV.atom, aeq, ofB, tru, bi1, on1, biInt, bin2]
/-- a chain of beads -/
def strg : List AV → AV
  | [] => .non
  | b :: r => .tup [b, strg r]
theorem p_strung (k : Nat) (xs : List AV) (S : Hh) : phi TT (k + 2) 2 [.tup xs] S = .ok (strg xs) S := by
  rw [phi_at (Fc := ⟨1, 3, c2⟩) rfl]
  have go : ∀ (G : Gam) (ys : List AV) (a : AV) (o : Option AV), ∃ o', forGo (fun x ls S => match asgT (.nm 2) x ls S with | some ls' => evCs G [.asg (.nm 1) (.tup [.var 2, .var 1])] ls' S | none => .bad) [] ys [some (.tup xs), some a, o] S = .ok (.nx, [some (.tup xs), some (ys.foldl (fun s b => .tup [b, s]) a), o']) S := by
    intro G ys
    induction ys with
    | nil => intro a o; exact ⟨o, by simp⟩
    | cons y ys ih =>
      intro a o
      obtain ⟨o', e⟩ := ih (.tup [y, a]) (some y)
      exact ⟨o', by simp; simpa using e⟩
  obtain ⟨o', e⟩ := go (gam TT (phi TT (k + 1)) (phi TT k)) xs.reverse .non none
  have e2 : xs.reverse.foldl (fun s b => AV.tup [b, s]) .non = strg xs := by
    rw [List.foldl_reverse]
    clear e go
    induction xs with
    | nil => rfl
    | cons x xs ih => simp only [List.foldr_cons, strg, ih]
  rw [e2] at e
  simp [runF, c2, walkN] at e ⊢
  simp [e]
theorem p_unstrung (k : Nat) (xs : List AV) (S : Hh) (hf : flatAll xs = true) (hl : xs.length ≤ 100000) : phi TT (k + 2) 3 [strg xs] S = .ok (.tup xs) S := by
  rw [phi_at (Fc := ⟨1, 3, c3⟩) rfl]
  have go : ∀ (G : Gam) (ys acc : List AV) (o : Option AV), acc.length + ys.length ≤ 100000 → ∃ o', whR (evT G (.val (.cmp .notN (.var 0) (.cst .non)))) (evCs G [.asg (.tp [.nm 2, .nm 0]) (.var 0), .expr (.bm .append (.var 1) [.var 2])]) [some (strg ys), some (.ref S.length), o] (S ++ [.lst acc]) = .ok (.nx, [some .non, some (.ref S.length), o']) (S ++ [.lst (acc ++ ys)]) := by
    intro G ys
    induction ys with
    | nil => intro acc o _; exact ⟨o, by rw [whR_done (S1 := S ++ [.lst acc])] <;> simp [strg, cmp2, isNon, tru]⟩
    | cons y ys ih =>
      intro acc o h
      simp only [List.length_cons] at h
      obtain ⟨o', e⟩ := ih (acc ++ [y]) (some y) (by simp; omega)
      refine ⟨o', ?_⟩
      have hl : acc.length < line := by have : line = 1000000 := rfl; omega
      rw [whR_next (S1 := S ++ [.lst acc]) (ls1 := [some (strg ys), some (.ref S.length), some y]) (S2 := S ++ [.lst (acc ++ [y])]) (by simp [strg, cmp2, isNon, tru]) (by simp [strg, bmTy, bm1, on1, onL, hl]) e]
      simp
  obtain ⟨o', e⟩ := go (gam TT (phi TT (k + 1)) (phi TT k)) xs [] none (by simpa using hl)
  simp [runF, c3, alloc] at e ⊢
  simp [e, bi1, on1, seqOf, AO.ro]
  exact sweep_flat (v := .tup xs) (by simpa [AV.flat] using hf) (Kp.app (Nat.le_refl _))
theorem p_worn_t (k : Nat) (xs : List AV) (S : Hh) : phi TT (k + 3) 4 [.tup xs] S = .ok (strg xs) S := by
  rw [phi_at (Fc := ⟨1, 1, c4⟩) rfl]
  simp [runF, c4, tru, gam, p_strung]
theorem p_worn_i (k : Nat) (i : Int) (S : Hh) : phi TT (k + 3) 4 [.int i] S = .ok (.int i) S := by
  rw [phi_at (Fc := ⟨1, 1, c4⟩) rfl]
  simp [runF, c4, tru, gam]
theorem p_long_of (k : Nat) (xs : List AV) (S : Hh) : phi TT (k + 2) 18 [strg xs] S = .ok (.int xs.length) S := by
  rw [phi_at (Fc := ⟨1, 2, c18⟩) rfl]
  have go : ∀ (G : Gam) (ys : List AV) (n : Int), whR (evT G (.val (.cmp .notN (.var 0) (.cst .non)))) (evCs G [.asg (.nm 0) (.idx (.var 0) (.cst (.int 1))), .augN 1 .add (.cst (.int 1))]) [some (strg ys), some (.int n)] S = .ok (.nx, [some .non, some (.int (n + ys.length))]) S := by
    intro G ys
    induction ys with
    | nil => intro n; rw [whR_done (S1 := S)] <;> simp [strg, cmp2, isNon, tru]
    | cons y ys ih =>
      intro n
      rw [whR_next (S1 := S) (ls1 := [some (strg ys), some (.int (n + 1))]) (S2 := S) (by simp [strg, cmp2, isNon, tru]) (by simp [strg, idx2, ixA]) (ih (n + 1))]
      simp; omega
  have e := go (gam TT (phi TT (k + 1)) (phi TT k)) xs 0
  simp [runF, c18] at e ⊢
  simp [e]
/-! ### the data: w the words, m1 and m2 how many numbers the beads have -/
section
variable (w : Nat → List Nat) (m1 m2 : Nat)
def nmL : Nat → List AV
  | 0 => []
  | 1 => [.str (w 13)]
  | _ => [.str (w 13), .str (w 14)]
def nT (x : List Nat) : AV := .tup [.str [110, 97, 109, 101], .str x]
def nmT : Nat → List AV
  | 0 => []
  | 1 => [nT (w 13)]
  | _ => [nT (w 13), nT (w 14)]
def bd1 : AV := .tup [.str (w 1), .int m1, .bl true]
def bd2 : AV := .tup [.str (w 2), .int m2, .bl false]
def shp : AV := .tup [.tup [.str (w 0), .tup [bd1 w m1, bd2 w m2]]]
def par2 : AV := .tup [.tup [.str (w 10), .str (w 0)], .tup [.str (w 11), .str (w 0)]]
def parN : AV := .tup [.tup [.str (w 10), .str (w 0)], .tup [.str (w 12), .str [110, 117, 109]]]
def par1 : AV := .tup [.tup [.str (w 10), .str (w 0)]]
def mkT (b : Nat) (m : Nat) (r : AV) : AV := .tup [.str [109, 97, 107, 101], .str (w b), .tup (nmT w m), r]
def againT : AV := .tup [.str [99, 97, 108, 108], .str (w 3), .tup [nT (w 16), nT (w 11)]]
def fewerT : AV := .tup [.str [99, 97, 108, 108], .str (w 4), .tup [nT (w 16), .tup [.str [111, 112], .str [45], nT (w 12), .tup [.str [110, 117, 109], .int 1]]]]
def ifT : AV := .tup [.str [105, 102], nT (w 12), fewerT w, nT (w 16)]
def chosenT : AV := .tup [.str [105, 102], .tup [.str [111, 112], .str [60], (nmT w m1 ++ [AV.tup [.str [110, 117, 109], .int 3]]).headD AV.non, .tup [.str [110, 117, 109], .int 2]], nT (w 16), nT (w 11)]
def skipT : AV := .tup [.str [99, 97, 108, 108], .str (w 7), .tup [nT (w 16)]]
def openN : AV := .tup (nmL w m1 ++ [.str (w 16)])
def lastN : AV := .tup (nmL w m2)
def layF : AV := .tup [.str (w 3), par2 w, .str (w 0), .tup [.tup [openN w m1, mkT w 1 m1 (againT w)], .tup [lastN w m2, nT (w 11)]]]
def goneF : AV := .tup [.str (w 4), parN w, .str (w 0), .tup [.tup [openN w m1, ifT w], .tup [lastN w m2, mkT w 2 m2 .non]]]
def onF : AV := .tup [.str (w 5), par2 w, .str (w 0), .tup [.tup [openN w m1, nT (w 11)], .tup [lastN w m2, nT (w 11)]]]
def pickF : AV := .tup [.str (w 6), par2 w, .str (w 0), .tup [.tup [openN w m1, chosenT w m1], .tup [lastN w m2, nT (w 11)]]]
def skipF : AV := .tup [.str (w 7), par1 w, .str (w 0), .tup [.tup [openN w m1, skipT w], .tup [lastN w m2, mkT w 2 m2 .non]]]
def prog : AV := .tup [shp w m1 m2, .tup [layF w m1 m2, goneF w m1 m2, onF w m1 m2, pickF w m1 m2, skipF w m1 m2]]
def FD : List (List Nat × AV) := [(w 3, layF w m1 m2), (w 4, goneF w m1 m2), (w 5, onF w m1 m2), (w 6, pickF w m1 m2), (w 7, skipF w m1 m2)]
/-- the words stand apart -/
def WD : Prop := ∀ i j, i < 20 → j < 20 → (w i = w j ↔ i = j)
end
section
variable {w : Nat → List Nat} {m1 m2 : Nat}
theorem p_bead_of1 (k : Nat) (S : Hh) : phi TT (k + 2) 1 [shp w m1 m2, .str (w 1)] S = .ok (.tup [.str (w 0), .int 0, .int m1, .bl true]) S := by
  rw [phi_at (Fc := ⟨2, 8, c1⟩) rfl]
  simp [runF, c1, shp, bd1, bd2, walkOf, walkN, enumA, cmp2, eq2, sca, AV.atom, aeq, ofB, tru]
theorem p_bead_of2 (hw : WD w) (k : Nat) (S : Hh) : phi TT (k + 2) 1 [shp w m1 m2, .str (w 2)] S = .ok (.tup [.str (w 0), .int 1, .int m2, .bl false]) S := by
  have h : ¬ w 1 = w 2 := by rw [hw 1 2 (by decide) (by decide)]; decide
  rw [phi_at (Fc := ⟨2, 8, c1⟩) rfl]
  simp [runF, c1, shp, bd1, bd2, walkOf, walkN, enumA, cmp2, eq2, sca, AV.atom, aeq, ofB, tru, h]
end
end K69
set_option Elab.async false
set_option linter.all false
set_option maxRecDepth 100000
set_option maxHeartbeats 4000000
/-! NsF: a feed. -/
namespace K69
open NM
section
variable {w : Nat → List Nat} {m1 m2 : Nat}
def ws (w : Nat → List Nat) : Nat → List (List Nat)
  | 0 => []
  | 1 => [w 13]
  | _ => [w 13, w 14]
def cnt : Nat → Nat
  | 0 => 0
  | 1 => 1
  | _ => 2
/-- a feed at rest -/
def feed (w : Nat → List Nat) (m1 m2 : Nat) (fd : Nat) (e : Int) (W : AV) : AO := .ins 1 [(6, prog w m1 m2), (1, .ref fd), (2, .int e), (7, W)]
def termW (t : AV) (kn : Nat) : AV := .tup [.str [116, 101, 114, 109], t, .ref kn]
theorem p_feat2 (hw : WD w) {k : Nat} {S : Hh} {a fd al : Nat} {e : Int} {W rest other p0 kd s0 t1 t2 : AV} {f q : List Nat} {ns : List AV} (hq : q = w 11 ∨ q = w 12) (hn : ns.length = cnt m1)
    (hf : S[a]? = some (feed w m1 m2 fd e W)) (hfd : S[fd]? = some (.dic (FD w m1 m2))) (hal : S[al]? = some (.lst [.tup [.tup (.str (w 1) :: ns), rest], other]))
    (hF : getD (FD w m1 m2) f = some (.tup [.str f, .tup [p0, .tup [.str q, kd]], s0, .tup [.tup [openN w m1, t1], .tup [lastN w m2, t2]]])) :
    phi TT (k + 3) 21 [.ref a, .str f, .ref al] S = .ok .non (S.set a (feed w m1 m2 fd (e + 1) (termW t1 (S.length + 1))) ++ [.lst [other], .dic ((q, other) :: ((ws w m1).zip ns ++ [(w 16, rest)])), .dic ((ws w m1).zip ns ++ [(w 16, rest)])]) := by
  have ha := inn_of hf
  have hb := inn_of hfd
  have hc := inn_of hal
  have h1 : ¬ w 11 = w 13 := by rw [hw _ _ (by decide) (by decide)]; decide
  have h2 : ¬ w 11 = w 14 := by rw [hw _ _ (by decide) (by decide)]; decide
  have h3 : ¬ w 11 = w 16 := by rw [hw _ _ (by decide) (by decide)]; decide
  have h4 : ¬ w 12 = w 13 := by rw [hw _ _ (by decide) (by decide)]; decide
  have h5 : ¬ w 12 = w 14 := by rw [hw _ _ (by decide) (by decide)]; decide
  have h6 : ¬ w 12 = w 16 := by rw [hw _ _ (by decide) (by decide)]; decide
  have h7 : ¬ w 13 = w 14 := by rw [hw _ _ (by decide) (by decide)]; decide
  have h8 : ¬ w 13 = w 16 := by rw [hw _ _ (by decide) (by decide)]; decide
  have h9 : ¬ w 14 = w 16 := by rw [hw _ _ (by decide) (by decide)]; decide
  have hl : line = 1000000 := rfl
  rw [phi_at (Fc := ⟨3, 16, c21⟩) rfl]
  match m1, ns, hn with
  | 0, [], _ =>
    rcases hq with rfl | rfl
    all_goals
      simp [List.lookup_cons, runF, c21, hf, feed, hfd, hF, hal, ixA, prog, p_bead_of1, zipA, putD, sIx, cutA, openN, nmL, ws, wipeA, putN, termW, ha, hb, hc, hl, h1, h2, h3, h4, h5, h6, h7, h8, h9]
      exact sweep_chg ha (by simp [ha, hf, feed] <;> intros <;> omega)
  | 1, [x], _ =>
    rcases hq with rfl | rfl
    all_goals
      simp [List.lookup_cons, runF, c21, hf, feed, hfd, hF, hal, ixA, prog, p_bead_of1, zipA, putD, sIx, cutA, openN, nmL, ws, wipeA, putN, termW, ha, hb, hc, hl, h1, h2, h3, h4, h5, h6, h7, h8, h9]
      exact sweep_chg ha (by simp [ha, hf, feed] <;> intros <;> omega)
  | m + 2, [x, y], _ =>
    rcases hq with rfl | rfl
    all_goals
      simp [List.lookup_cons, runF, c21, hf, feed, hfd, hF, hal, ixA, prog, p_bead_of1, zipA, putD, sIx, cutA, openN, nmL, ws, wipeA, putN, termW, ha, hb, hc, hl, h1, h2, h3, h4, h5, h6, h7, h8, h9]
      exact sweep_chg ha (by simp [ha, hf, feed] <;> intros <;> omega)
/-- the last bead -/
theorem p_feat2' (hw : WD w) {k : Nat} {S : Hh} {a fd al : Nat} {e : Int} {W other p0 kd s0 t1 t2 : AV} {f q : List Nat} {ns : List AV} (hq : q = w 11 ∨ q = w 12) (hn : ns.length = cnt m2)
    (hf : S[a]? = some (feed w m1 m2 fd e W)) (hfd : S[fd]? = some (.dic (FD w m1 m2))) (hal : S[al]? = some (.lst [.tup [.tup (.str (w 2) :: ns), .non], other]))
    (hF : getD (FD w m1 m2) f = some (.tup [.str f, .tup [p0, .tup [.str q, kd]], s0, .tup [.tup [openN w m1, t1], .tup [lastN w m2, t2]]])) :
    phi TT (k + 3) 21 [.ref a, .str f, .ref al] S = .ok .non (S.set a (feed w m1 m2 fd (e + 1) (termW t2 (S.length + 1))) ++ [.lst [other], .dic ((q, other) :: (ws w m2).zip ns), .dic ((ws w m2).zip ns)]) := by
  have ha := inn_of hf
  have hb := inn_of hfd
  have hc := inn_of hal
  have h1 : ¬ w 11 = w 13 := by rw [hw _ _ (by decide) (by decide)]; decide
  have h2 : ¬ w 11 = w 14 := by rw [hw _ _ (by decide) (by decide)]; decide
  have h4 : ¬ w 12 = w 13 := by rw [hw _ _ (by decide) (by decide)]; decide
  have h5 : ¬ w 12 = w 14 := by rw [hw _ _ (by decide) (by decide)]; decide
  have h7 : ¬ w 13 = w 14 := by rw [hw _ _ (by decide) (by decide)]; decide
  have hl : line = 1000000 := rfl
  rw [phi_at (Fc := ⟨3, 16, c21⟩) rfl]
  match m2, ns, hn with
  | 0, [], _ =>
    rcases hq with rfl | rfl
    all_goals
      simp [List.lookup_cons, runF, c21, hf, feed, hfd, hF, hal, ixA, prog, p_bead_of2 hw, zipA, putD, sIx, cutA, lastN, nmL, ws, wipeA, putN, termW, ha, hb, hc, hl, h1, h2, h4, h5, h7]
      exact sweep_chg ha (by simp [ha, hf, feed] <;> intros <;> omega)
  | 1, [x], _ =>
    rcases hq with rfl | rfl
    all_goals
      simp [List.lookup_cons, runF, c21, hf, feed, hfd, hF, hal, ixA, prog, p_bead_of2 hw, zipA, putD, sIx, cutA, lastN, nmL, ws, wipeA, putN, termW, ha, hb, hc, hl, h1, h2, h4, h5, h7]
      exact sweep_chg ha (by simp [ha, hf, feed] <;> intros <;> omega)
  | m + 2, [x, y], _ =>
    rcases hq with rfl | rfl
    all_goals
      simp [List.lookup_cons, runF, c21, hf, feed, hfd, hF, hal, ixA, prog, p_bead_of2 hw, zipA, putD, sIx, cutA, lastN, nmL, ws, wipeA, putN, termW, ha, hb, hc, hl, h1, h2, h4, h5, h7]
      exact sweep_chg ha (by simp [ha, hf, feed] <;> intros <;> omega)
/-- a function of one row -/
theorem p_feat1 (hw : WD w) {k : Nat} {S : Hh} {a fd al : Nat} {e : Int} {W rest p0 s0 t1 t2 : AV} {f : List Nat} {ns : List AV} (hn : ns.length = cnt m1)
    (hf : S[a]? = some (feed w m1 m2 fd e W)) (hfd : S[fd]? = some (.dic (FD w m1 m2))) (hal : S[al]? = some (.lst [.tup [.tup (.str (w 1) :: ns), rest]]))
    (hF : getD (FD w m1 m2) f = some (.tup [.str f, .tup [p0], s0, .tup [.tup [openN w m1, t1], .tup [lastN w m2, t2]]])) :
    phi TT (k + 3) 21 [.ref a, .str f, .ref al] S = .ok .non (S.set a (feed w m1 m2 fd (e + 1) (termW t1 (S.length + 1))) ++ [.lst [], .dic ((ws w m1).zip ns ++ [(w 16, rest)]), .dic ((ws w m1).zip ns ++ [(w 16, rest)])]) := by
  have ha := inn_of hf
  have hb := inn_of hfd
  have hc := inn_of hal
  have h7 : ¬ w 13 = w 14 := by rw [hw _ _ (by decide) (by decide)]; decide
  have h8 : ¬ w 13 = w 16 := by rw [hw _ _ (by decide) (by decide)]; decide
  have h9 : ¬ w 14 = w 16 := by rw [hw _ _ (by decide) (by decide)]; decide
  have hl : line = 1000000 := rfl
  rw [phi_at (Fc := ⟨3, 16, c21⟩) rfl]
  match m1, ns, hn with
  | 0, [], _ =>
    simp [List.lookup_cons, runF, c21, hf, feed, hfd, hF, hal, ixA, prog, p_bead_of1, zipA, putD, sIx, cutA, openN, nmL, ws, wipeA, putN, termW, ha, hb, hc, hl, h7, h8, h9]
    exact sweep_chg ha (by simp [ha, hf, feed] <;> intros <;> omega)
  | 1, [x], _ =>
    simp [List.lookup_cons, runF, c21, hf, feed, hfd, hF, hal, ixA, prog, p_bead_of1, zipA, putD, sIx, cutA, openN, nmL, ws, wipeA, putN, termW, ha, hb, hc, hl, h7, h8, h9]
    exact sweep_chg ha (by simp [ha, hf, feed] <;> intros <;> omega)
  | m + 2, [x, y], _ =>
    simp [List.lookup_cons, runF, c21, hf, feed, hfd, hF, hal, ixA, prog, p_bead_of1, zipA, putD, sIx, cutA, openN, nmL, ws, wipeA, putN, termW, ha, hb, hc, hl, h7, h8, h9]
    exact sweep_chg ha (by simp [ha, hf, feed] <;> intros <;> omega)
theorem p_feat1' (hw : WD w) {k : Nat} {S : Hh} {a fd al : Nat} {e : Int} {W p0 s0 t1 t2 : AV} {f : List Nat} {ns : List AV} (hn : ns.length = cnt m2)
    (hf : S[a]? = some (feed w m1 m2 fd e W)) (hfd : S[fd]? = some (.dic (FD w m1 m2))) (hal : S[al]? = some (.lst [.tup [.tup (.str (w 2) :: ns), .non]]))
    (hF : getD (FD w m1 m2) f = some (.tup [.str f, .tup [p0], s0, .tup [.tup [openN w m1, t1], .tup [lastN w m2, t2]]])) :
    phi TT (k + 3) 21 [.ref a, .str f, .ref al] S = .ok .non (S.set a (feed w m1 m2 fd (e + 1) (termW t2 (S.length + 1))) ++ [.lst [], .dic ((ws w m2).zip ns), .dic ((ws w m2).zip ns)]) := by
  have ha := inn_of hf
  have hb := inn_of hfd
  have hc := inn_of hal
  have h7 : ¬ w 13 = w 14 := by rw [hw _ _ (by decide) (by decide)]; decide
  have hl : line = 1000000 := rfl
  rw [phi_at (Fc := ⟨3, 16, c21⟩) rfl]
  match m2, ns, hn with
  | 0, [], _ =>
    simp [List.lookup_cons, runF, c21, hf, feed, hfd, hF, hal, ixA, prog, p_bead_of2 hw, zipA, putD, sIx, cutA, lastN, nmL, ws, wipeA, putN, termW, ha, hb, hc, hl, h7]
    exact sweep_chg ha (by simp [ha, hf, feed] <;> intros <;> omega)
  | 1, [x], _ =>
    simp [List.lookup_cons, runF, c21, hf, feed, hfd, hF, hal, ixA, prog, p_bead_of2 hw, zipA, putD, sIx, cutA, lastN, nmL, ws, wipeA, putN, termW, ha, hb, hc, hl, h7]
    exact sweep_chg ha (by simp [ha, hf, feed] <;> intros <;> omega)
  | m + 2, [x, y], _ =>
    simp [List.lookup_cons, runF, c21, hf, feed, hfd, hF, hal, ixA, prog, p_bead_of2 hw, zipA, putD, sIx, cutA, lastN, nmL, ws, wipeA, putN, termW, ha, hb, hc, hl, h7]
    exact sweep_chg ha (by simp [ha, hf, feed] <;> intros <;> omega)
end
end K69
set_option Elab.async false
set_option linter.all false
set_option maxRecDepth 100000
set_option maxHeartbeats 4000000
/-! NsG: a feed's terms, its beads. -/
namespace K69
open NM
section
variable {w : Nat → List Nat} {m1 m2 : Nat}
theorem p_num_name {k : Nat} {S : Hh} {a kn : Nat} {x : List Nat} {kvs : List (List Nat × AV)} {v : AV} (hk : S[kn]? = some (.dic kvs)) (hx : getD kvs x = some v) : phi TT (k + 2) 25 [.ref a, nT x, .ref kn] S = .ok v S := by
  rw [phi_at (Fc := ⟨3, 4, c25⟩) rfl]
  simp [runF, c25, nT, ixA, hk, hx]
theorem p_num_num {k : Nat} {S : Hh} {a : Nat} {i : Int} {kn : AV} : phi TT (k + 2) 25 [.ref a, .tup [.str [110, 117, 109], .int i], kn] S = .ok (.int i) S := by
  rw [phi_at (Fc := ⟨3, 4, c25⟩) rfl]
  simp [runF, c25, ixA]
theorem mt_num : TT.mt 1 12 = some 25 := rfl
theorem mt_eat : TT.mt 1 1 = some 21 := rfl
theorem mt_behind : TT.mt 1 9 = some 22 := rfl
theorem mt_args : TT.mt 1 11 = some 24 := rfl
theorem mt_bead : TT.mt 1 8 = some 20 := rfl
theorem mt_left : TT.mt 1 14 = some 28 := rfl
theorem mt_eaten : TT.mt 1 5 = some 27 := rfl
theorem p_num_op {k : Nat} {S : Hh} {a kn : Nat} {fs : List (Nat × AV)} {s : List Nat} {t1 t2 : AV} {i j : Int} {r : AV} (ha : S[a]? = some (.ins 1 fs)) (h1 : phi TT (k + 2) 25 [.ref a, t1, .ref kn] S = .ok (.int i) S) (h2 : phi TT (k + 2) 25 [.ref a, t2, .ref kn] S = .ok (.int j) S)
    (h3 : phi TT (k + 2) 0 [.str s, .int i, .int j] S = .ok r S) : phi TT (k + 3) 25 [.ref a, .tup [.str [111, 112], .str s, t1, t2], .ref kn] S = .ok r S := by
  rw [phi_at (Fc := ⟨3, 4, c25⟩) rfl]
  simp [runF, c25, ixA, ha, mt_num, h1, h2, h3]
/-- arguments -/
theorem p_args1 {k : Nat} {S : Hh} {a kn : Nat} {x : List Nat} {kvs : List (List Nat × AV)} {v : AV} (hk : S[kn]? = some (.dic kvs)) (hx : getD kvs x = some v) : phi TT (k + 3) 24 [.ref a, .tup [nT x], .ref kn] S = .ok (.ref S.length) (S ++ [.lst [v]]) := by
  have hb := inn_of hk
  have hl : line = 1000000 := rfl
  rw [phi_at (Fc := ⟨3, 5, c24⟩) rfl]
  simp [runF, c24, nT, ixA, hk, hx, hb, hl]
  exact sweep_ref rfl
theorem p_args2 {k : Nat} {S : Hh} {a kn : Nat} {x y : List Nat} {kvs : List (List Nat × AV)} {v u : AV} (hk : S[kn]? = some (.dic kvs)) (hx : getD kvs x = some v) (hy : getD kvs y = some u) : phi TT (k + 3) 24 [.ref a, .tup [nT x, nT y], .ref kn] S = .ok (.ref S.length) (S ++ [.lst [v, u]]) := by
  have hb := inn_of hk
  have hl : line = 1000000 := rfl
  rw [phi_at (Fc := ⟨3, 5, c24⟩) rfl]
  simp [runF, c24, nT, ixA, hk, hx, hy, hb, hl]
  exact sweep_ref rfl
theorem p_argsO {k : Nat} {S : Hh} {a kn : Nat} {x : List Nat} {kvs : List (List Nat × AV)} {v u t : AV} {s : List Nat} {t1 t2 : AV} {fs : List (Nat × AV)} (ha : S[a]? = some (.ins 1 fs)) (hk : S[kn]? = some (.dic kvs)) (hx : getD kvs x = some v)
    (h : phi TT (k + 2) 25 [.ref a, .tup [.str [111, 112], .str s, t1, t2], .ref kn] (S ++ [.lst [v]]) = .ok u (S ++ [.lst [v]])) : phi TT (k + 3) 24 [.ref a, .tup [nT x, .tup [.str [111, 112], .str s, t1, t2]], .ref kn] S = .ok (.ref S.length) (S ++ [.lst [v, u]]) := by
  have hb := inn_of hk
  have hc := inn_of ha
  have hl : line = 1000000 := rfl
  rw [phi_at (Fc := ⟨3, 5, c24⟩) rfl]
  simp [runF, c24, nT, ixA, hk, hx, hb, hc, ha, hl, mt_num, h]
  exact sweep_ref rfl
def rowW (s : AV) : AV := .tup [.str [114, 111, 119], s, .non]
def eatW (f : List Nat) (al : Nat) : AV := .tup [.str [101, 97, 116], .str f, .ref al]
/-- behind -/
theorem p_beh_name {k : Nat} {S : Hh} {a kn : Nat} {x : List Nat} {kvs : List (List Nat × AV)} {v : AV} (hk : S[kn]? = some (.dic kvs)) (hx : getD kvs x = some v) : phi TT (k + 2) 22 [.ref a, nT x, .ref kn] S = .ok (rowW v) S := by
  rw [phi_at (Fc := ⟨3, 3, c22⟩) rfl]
  simp [runF, c22, nT, ixA, hk, hx, rowW]
theorem p_beh_call {k : Nat} {S : Hh} {a kn : Nat} {fs : List (Nat × AV)} {f : List Nat} {ts vs : AV} (o : AO) (ha : S[a]? = some (.ins 1 fs)) (h : phi TT (k + 2) 24 [.ref a, ts, .ref kn] S = .ok (.ref S.length) (S ++ [o])) :
    phi TT (k + 3) 22 [.ref a, .tup [.str [99, 97, 108, 108], .str f, ts], .ref kn] S = .ok (eatW f S.length) (S ++ [o]) := by
  rw [phi_at (Fc := ⟨3, 3, c22⟩) rfl]
  simp [runF, c22, ixA, ha, mt_args, h, eatW]
  exact sweep_ref rfl
theorem p_beh_if {k : Nat} {S : Hh} {a kn : Nat} {fs : List (Nat × AV)} {c t1 t2 : AV} {i : Int} (ha : S[a]? = some (.ins 1 fs)) (h : phi TT (k + 2) 25 [.ref a, c, .ref kn] S = .ok (.int i) S) :
    phi TT (k + 3) 22 [.ref a, .tup [.str [105, 102], c, t1, t2], .ref kn] S = .ok (termW (if i = 0 then t2 else t1) kn) S := by
  rw [phi_at (Fc := ⟨3, 3, c22⟩) rfl]
  by_cases hi : i = 0
  · simp [runF, c22, ixA, ha, mt_num, h, termW, hi]
  · simp [runF, c22, ixA, ha, mt_num, h, termW, hi]
/-! ### bead -/
def bc : T := .val (.cmp .notN (.fld (.var 0) 7) (.cst .non))
def bb : List C := [.asg (.tp [.nm 1, .nm 2, .nm 3]) (.fld (.var 0) 7),
    .ifs (.val (.cmp .eq (.var 1) (.cst (.str [114, 111, 119])))) [.asg (.tp [.nm 4, .nm 5]) (.var 2),
    .asg (.fld (.var 0) 7) (.ifx (.val (.cmp .isN (.var 5) (.cst .non))) (.cst .non) (.tup [.cst (.str [114, 111, 119]), .var 5, .cst .non])),
    .ret (.var 4)] [],
    .ifs (.val (.cmp .eq (.var 1) (.cst (.str [101, 97, 116])))) [.expr (.meth 1 (.var 0) [.var 2, .var 3])] [.ifs (.val (.cmp .eq (.idx (.var 2) (.cst (.int 0))) (.cst (.str [109, 97, 107, 101])))) [.asg (.nm 6) (.lc (.meth 12 (.var 0) [.var 7, .var 3]) (.nm 7) (.val (.idx (.var 2) (.cst (.int 2)))) [] [7]),
    .asg (.fld (.var 0) 7) (.ifx (.val (.cmp .isN (.idx (.var 2) (.cst (.int 3))) (.cst .non))) (.cst .non) (.tup [.cst (.str [116, 101, 114, 109]), .idx (.var 2) (.cst (.int 3)), .var 3])),
    .ret (.bin .add (.tup [.idx (.var 2) (.cst (.int 1))]) (.bi .tuple [.var 6]))] [.asg (.fld (.var 0) 7) (.meth 9 (.var 0) [.var 2, .var 3])]]]
/-- from this heap the loop of bead comes to v -/
def Bd (k a : Nat) (S : Hh) (v : AV) (S' : Hh) : Prop := ∀ o1 o2 o3 o4 o5 o6 o7 : Option AV, ∃ ls', whR (evT (gam TT (phi TT (k + 1)) (phi TT k)) bc) (evCs (gam TT (phi TT (k + 1)) (phi TT k)) bb) [some (.ref a), o1, o2, o3, o4, o5, o6, o7] S = .ok (.rt v, ls') S'
variable {k a fd : Nat} {S S1 S' : Hh} {e : Int} {v : AV}
theorem bd_eat {f : List Nat} {al : Nat} (hf : S[a]? = some (feed w m1 m2 fd e (eatW f al))) (h : phi TT (k + 1) 21 [.ref a, .str f, .ref al] S = .ok .non S1) (b : Bd k a S1 v S') : Bd k a S v S' := by
  intro o1 o2 o3 o4 o5 o6 o7
  obtain ⟨ls', e1⟩ := b (some (.str [101, 97, 116])) (some (.str f)) (some (.ref al)) o4 o5 o6 o7
  refine ⟨ls', whR_next (S1 := S) ?_ ?_ e1⟩
  · simp [bc, hf, feed, eatW, List.lookup_cons]
  · simp [bb, hf, feed, eatW, List.lookup_cons, mt_eat, h]
theorem bd_beh {t W : AV} {c : List Nat} {ts : List AV} {kn : Nat} (ht : t = .tup (.str c :: ts)) (hc : (c == [109, 97, 107, 101]) = false) (hf : S[a]? = some (feed w m1 m2 fd e (termW t kn))) (h : phi TT (k + 1) 22 [.ref a, t, .ref kn] S = .ok W S1) (h1 : S1[a]? = some (feed w m1 m2 fd e (termW t kn)))
    (b : Bd k a (S1.set a (feed w m1 m2 fd e W)) v S') : Bd k a S v S' := by
  intro o1 o2 o3 o4 o5 o6 o7
  obtain ⟨ls', e1⟩ := b (some (.str [116, 101, 114, 109])) (some t) (some (.ref kn)) o4 o5 o6 o7
  refine ⟨ls', whR_next (S1 := S) ?_ ?_ e1⟩
  · simp [bc, hf, feed, termW, List.lookup_cons]
  · subst ht
    simp [bb, hf, feed, termW, List.lookup_cons, mt_behind, h, h1, ixA, hc, putN]
theorem bd_row {b : AV} {r : List AV} (hf : S[a]? = some (feed w m1 m2 fd e (rowW (strg (b :: r))))) : Bd k a S b (S.set a (feed w m1 m2 fd e (if r = [] then .non else rowW (strg r)))) := by
  intro o1 o2 o3 o4 o5 o6 o7
  refine ⟨[some (.ref a), some (.str [114, 111, 119]), some (strg (b :: r)), some .non, some b, some (strg r), o6, o7], whR_ret (S1 := S) ?_ ?_⟩
  · simp [bc, hf, feed, rowW, List.lookup_cons]
  · cases r with
    | nil => simp [bb, hf, feed, rowW, List.lookup_cons, strg, putN]
    | cons x r => simp [bb, hf, feed, rowW, List.lookup_cons, strg, putN]
theorem nsL_of {m : Nat} {ns : List AV} {kvs : List (List Nat × AV)} (hn : (ws w m).map (getD kvs) = ns.map some) : ns.length = (ws w m).length := by
  have := congrArg List.length hn
  simpa using this.symm
theorem bd_make {j : Nat} {bI m kn : Nat} {r : AV} {ns : List AV} {kvs : List (List Nat × AV)} (hk : S[kn]? = some (.dic kvs)) (hn : (ws w m).map (getD kvs) = ns.map some) (hr : r = .non ∨ ∃ xs, r = .tup xs) (hf : S[a]? = some (feed w m1 m2 fd e (termW (mkT w bI m r) kn))) :
    Bd (j + 1) a S (.tup (.str (w bI) :: ns)) (S.set a (feed w m1 m2 fd e (if isNon r = true then .non else termW r kn)) ++ [.lst ns]) := by
  have ha := inn_of hf
  have hb := inn_of hk
  have hl : line = 1000000 := rfl
  have hlen := nsL_of hn
  intro o1 o2 o3 o4 o5 o6 o7
  refine ⟨[some (.ref a), some (.str [116, 101, 114, 109]), some (mkT w bI m r), some (.ref kn), o4, o5, some (.ref S.length), o7], whR_ret (S1 := S) ?_ ?_⟩
  · simp [bc, hf, feed, termW, List.lookup_cons]
  · match m, ns, hlen, hn with
    | 0, [], _, _ =>
      rcases hr with rfl | ⟨xs, rfl⟩ <;>
      simp [bb, hf, feed, termW, mkT, nmT, ixA, List.lookup_cons, putN, ha, hb, hl, wipeA]
    | 1, [x], _, hn =>
      have h1 : getD kvs (w 13) = some x := by simpa [ws] using hn
      rcases hr with rfl | ⟨xs, rfl⟩ <;>
      simp [bb, hf, feed, termW, mkT, nmT, ixA, List.lookup_cons, putN, ha, hb, hl, wipeA, mt_num, p_num_name (S := S ++ _) (get_app hk) h1]
    | m + 2, [x, y], _, hn =>
      have h1 : getD kvs (w 13) = some x ∧ getD kvs (w 14) = some y := by simpa [ws] using hn
      rcases hr with rfl | ⟨xs, rfl⟩ <;>
      simp [bb, hf, feed, termW, mkT, nmT, ixA, List.lookup_cons, putN, ha, hb, hl, wipeA, mt_num, p_num_name (S := S ++ _) (get_app hk) h1.1, p_num_name (S := S ++ _) (get_app hk) h1.2]
theorem p_bead {o : AO} (b : Bd k a S v S') (ha : S[a]? = some o) (h : S'[a]? ≠ some o) : phi TT (k + 2) 20 [.ref a] S = .ok v S' := by
  obtain ⟨ls', e1⟩ := b none none none none none none none
  rw [phi_at (Fc := ⟨1, 8, c20⟩) rfl]
  have e2 : runF (gam TT (phi TT (k + 1)) (phi TT k)) ⟨1, 8, c20⟩ [.ref a] S = sweep S v S' := by
    show (if _ then _ else _) = _
    rw [if_pos (by rfl)]
    show ((evCs _ [.whl bc bb, .ret (.cst .non)] [some (.ref a), none, none, none, none, none, none, none] S).bind _) = _
    simp [e1]
  rw [e2]
  exact sweep_chg (inn_of ha) (by rw [ha]; exact h)
theorem p_bead_non (hf : S[a]? = some (feed w m1 m2 fd e .non)) : phi TT (k + 2) 20 [.ref a] S = .ok .non S := by
  rw [phi_at (Fc := ⟨1, 8, c20⟩) rfl]
  have e1 : whR (evT (gam TT (phi TT (k + 1)) (phi TT k)) bc) (evCs (gam TT (phi TT (k + 1)) (phi TT k)) bb) [some (.ref a), none, none, none, none, none, none, none] S = .ok (.nx, [some (.ref a), none, none, none, none, none, none, none]) S := whR_done (by simp [bc, hf, feed, List.lookup_cons])
  show (if _ then _ else _) = _
  rw [if_pos (by rfl)]
  show ((evCs _ [.whl bc bb, .ret (.cst .non)] [some (.ref a), none, none, none, none, none, none, none] S).bind _) = _
  simp [e1]
theorem p_eaten {W : AV} (hf : S[a]? = some (feed w m1 m2 fd e W)) : phi TT (k + 2) 27 [.ref a] S = .ok (.int e) S := by
  rw [phi_at (Fc := ⟨1, 1, c27⟩) rfl]
  simp [runF, c27, hf, feed, List.lookup_cons]
theorem p_left_non (hf : S[a]? = some (feed w m1 m2 fd e .non)) : phi TT (k + 2) 28 [.ref a] S = .ok (.int 0) S := by
  rw [phi_at (Fc := ⟨1, 9, c28⟩) rfl]
  simp [runF, c28, hf, feed, List.lookup_cons]
theorem p_long' {b : AV} {r : List AV} : phi TT (k + 2) 18 [.tup [b, strg r]] S = .ok (.int ((r.length : Int) + 1)) S := by
  have := p_long_of k (b :: r) S
  simpa [strg] using this
theorem p_left_row {r : List AV} (hr : r ≠ []) (hf : S[a]? = some (feed w m1 m2 fd e (rowW (strg r)))) : phi TT (k + 3) 28 [.ref a] S = .ok (.int r.length) S := by
  have hl : line = 1000000 := rfl
  have ha := inn_of hf
  rw [phi_at (Fc := ⟨1, 9, c28⟩) rfl]
  obtain ⟨b, r, rfl⟩ : ∃ b r', r = b :: r' := by cases r with | nil => exact absurd rfl hr | cons b r' => exact ⟨b, r', rfl⟩
  simp [runF, c28, hf, feed, List.lookup_cons, rowW, strg, p_long', sumI, ha, hl, wO_l, wipeA]
  exact sweep_flat rfl (Kp.app (Nat.le_refl _))
theorem p_left_eat {f : List Nat} {al : Nat} {r : List AV} (hr : r ≠ []) (hal : S[al]? = some (.lst [strg r])) (hf : S[a]? = some (feed w m1 m2 fd e (eatW f al))) : phi TT (k + 3) 28 [.ref a] S = .ok (.int r.length) S := by
  have hl : line = 1000000 := rfl
  have ha := inn_of hf
  have hb := inn_of hal
  rw [phi_at (Fc := ⟨1, 9, c28⟩) rfl]
  obtain ⟨b, r, rfl⟩ : ∃ b r', r = b :: r' := by cases r with | nil => exact absurd rfl hr | cons b r' => exact ⟨b, r', rfl⟩
  simp [runF, c28, hf, feed, List.lookup_cons, eatW, hal, strg, p_long', sumI, ha, hb, hl, wO_l, wipeA]
  exact sweep_flat rfl (Kp.app (Nat.le_refl _))
end
end K69
set_option Elab.async false
set_option linter.all false
set_option maxRecDepth 100000
set_option maxHeartbeats 400000
/-! NsH: what the five functions tell. -/
namespace K69
open NM
section
variable {w : Nat → List Nat} {m1 m2 : Nat}
theorem cnt_ws (m : Nat) : (ws w m).length = cnt m := by
  match m with
  | 0 => rfl
  | 1 => rfl
  | m + 2 => rfl
theorem getD_hd (q : List Nat) (v : AV) (r : List (List Nat × AV)) : getD ((q, v) :: r) q = some v := by simp [getD]
theorem kn_r (hw : WD w) {m : Nat} {q : List Nat} {v rest : AV} {ns : List AV} (hq : q = w 11 ∨ q = w 12) (hn : ns.length = cnt m) : getD ((q, v) :: ((ws w m).zip ns ++ [(w 16, rest)])) (w 16) = some rest := by
  have h3 : ¬ w 11 = w 16 := by rw [hw _ _ (by decide) (by decide)]; decide
  have h6 : ¬ w 12 = w 16 := by rw [hw _ _ (by decide) (by decide)]; decide
  have h8 : ¬ w 13 = w 16 := by rw [hw _ _ (by decide) (by decide)]; decide
  have h9 : ¬ w 14 = w 16 := by rw [hw _ _ (by decide) (by decide)]; decide
  match m, ns, hn with
  | 0, [], _ => rcases hq with rfl | rfl <;> simp [getD, ws, h3, h6]
  | 1, [x], _ => rcases hq with rfl | rfl <;> simp [getD, ws, h3, h6, h8]
  | m + 2, [x, y], _ => rcases hq with rfl | rfl <;> simp [getD, ws, h3, h6, h8, h9]
theorem kn_r1 (hw : WD w) {m : Nat} {rest : AV} {ns : List AV} (hn : ns.length = cnt m) : getD ((ws w m).zip ns ++ [(w 16, rest)]) (w 16) = some rest := by
  have h8 : ¬ w 13 = w 16 := by rw [hw _ _ (by decide) (by decide)]; decide
  have h9 : ¬ w 14 = w 16 := by rw [hw _ _ (by decide) (by decide)]; decide
  match m, ns, hn with
  | 0, [], _ => simp [getD, ws]
  | 1, [x], _ => simp [getD, ws, h8]
  | m + 2, [x, y], _ => simp [getD, ws, h8, h9]
theorem kn_n (hw : WD w) {m : Nat} {q : List Nat} {v : AV} {ns : List AV} {r : List (List Nat × AV)} (hq : q = w 11 ∨ q = w 12) (hn : ns.length = cnt m) : (ws w m).map (getD ((q, v) :: ((ws w m).zip ns ++ r))) = ns.map some := by
  have h1 : ¬ w 11 = w 13 := by rw [hw _ _ (by decide) (by decide)]; decide
  have h2 : ¬ w 11 = w 14 := by rw [hw _ _ (by decide) (by decide)]; decide
  have h4 : ¬ w 12 = w 13 := by rw [hw _ _ (by decide) (by decide)]; decide
  have h5 : ¬ w 12 = w 14 := by rw [hw _ _ (by decide) (by decide)]; decide
  have h7 : ¬ w 13 = w 14 := by rw [hw _ _ (by decide) (by decide)]; decide
  match m, ns, hn with
  | 0, [], _ => rfl
  | 1, [x], _ => rcases hq with rfl | rfl <;> simp [getD, ws, h1, h4]
  | m + 2, [x, y], _ => rcases hq with rfl | rfl <;> simp [getD, ws, h1, h2, h4, h5, h7]
theorem kn_n1 (hw : WD w) {m : Nat} {ns : List AV} {r : List (List Nat × AV)} (hn : ns.length = cnt m) : (ws w m).map (getD ((ws w m).zip ns ++ r)) = ns.map some := by
  have h7 : ¬ w 13 = w 14 := by rw [hw _ _ (by decide) (by decide)]; decide
  match m, ns, hn with
  | 0, [], _ => rfl
  | 1, [x], _ => simp [getD, ws]
  | m + 2, [x, y], _ => simp [getD, ws, h7]
theorem fd_lay (hw : WD w) : getD (FD w m1 m2) (w 3) = some (layF w m1 m2) := by simp [getD, FD]
theorem fd_gone (hw : WD w) : getD (FD w m1 m2) (w 4) = some (goneF w m1 m2) := by
  have h : ¬ w 3 = w 4 := by rw [hw _ _ (by decide) (by decide)]; decide
  simp [getD, FD, h]
theorem fd_on (hw : WD w) : getD (FD w m1 m2) (w 5) = some (onF w m1 m2) := by
  have h : ¬ w 3 = w 5 := by rw [hw _ _ (by decide) (by decide)]; decide
  have h1 : ¬ w 4 = w 5 := by rw [hw _ _ (by decide) (by decide)]; decide
  simp [getD, FD, h, h1]
theorem fd_pick (hw : WD w) : getD (FD w m1 m2) (w 6) = some (pickF w m1 m2) := by
  have h : ¬ w 3 = w 6 := by rw [hw _ _ (by decide) (by decide)]; decide
  have h1 : ¬ w 4 = w 6 := by rw [hw _ _ (by decide) (by decide)]; decide
  have h2 : ¬ w 5 = w 6 := by rw [hw _ _ (by decide) (by decide)]; decide
  simp [getD, FD, h, h1, h2]
theorem fd_skip (hw : WD w) : getD (FD w m1 m2) (w 7) = some (skipF w m1 m2) := by
  have h : ¬ w 3 = w 7 := by rw [hw _ _ (by decide) (by decide)]; decide
  have h1 : ¬ w 4 = w 7 := by rw [hw _ _ (by decide) (by decide)]; decide
  have h2 : ¬ w 5 = w 7 := by rw [hw _ _ (by decide) (by decide)]; decide
  have h3 : ¬ w 6 = w 7 := by rw [hw _ _ (by decide) (by decide)]; decide
  simp [getD, FD, h, h1, h2, h3]
/-! ### the heap beside the feed -/
structure Ch (a : Nat) (S S' : Hh) : Prop where
  len : S.length ≤ S'.length
  at_ : ∀ i, i ≠ a → i < S.length → S'[i]? = S[i]?
theorem Ch.refl {a : Nat} {S : Hh} : Ch a S S := ⟨Nat.le_refl _, fun _ _ _ => rfl⟩
theorem Ch.trans {a : Nat} {S S1 S2 : Hh} (x : Ch a S S1) (y : Ch a S1 S2) : Ch a S S2 := ⟨Nat.le_trans x.len y.len, fun i h h2 => (y.at_ i h (Nat.lt_of_lt_of_le h2 x.len)).trans (x.at_ i h h2)⟩
theorem Ch.mk' {a : Nat} {S T : Hh} {o : AO} : Ch a S (S.set a o ++ T) := ⟨by simp, fun i h h2 => by rw [List.getElem?_append_left (by simpa using h2), List.getElem?_set_ne (Ne.symm h)]⟩
theorem Ch.set {a : Nat} {S : Hh} {o : AO} : Ch a S (S.set a o) := ⟨by simp, fun i h h2 => by rw [List.getElem?_set_ne (Ne.symm h)]⟩
theorem Ch.app {a : Nat} {S T : Hh} : Ch a S (S ++ T) := ⟨by simp, fun i h h2 => List.getElem?_append_left h2⟩
theorem Ch.get {a i : Nat} {S S' : Hh} {o : AO} (c : Ch a S S') (hi : i ≠ a) (h : S[i]? = some o) : S'[i]? = some o := (c.at_ i hi (get_lt h)).trans h
theorem Ch.kp {a : Nat} {S S' : Hh} (c : Ch a S S') (ha : a ≤ S.length) : Kp a S S' := ⟨c.len, fun i hi => c.at_ i (by omega) (by omega)⟩
/-- a feed and its functions -/
structure Fe (w : Nat → List Nat) (m1 m2 a fd : Nat) (S : Hh) (e : Int) (W : AV) : Prop where
  f : S[a]? = some (feed w m1 m2 fd e W)
  d : S[fd]? = some (.dic (FD w m1 m2))
  n : fd ≠ a
theorem Fe.ne {a fd : Nat} {S : Hh} {e : Int} {W : AV} (h : Fe w m1 m2 a fd S e W) {i : Nat} {xs} (h2 : S[i]? = some (.lst xs)) : i ≠ a := fun z => by subst z; rw [h.f] at h2; cases h2
theorem Fe.neD {a fd : Nat} {S : Hh} {e : Int} {W : AV} (h : Fe w m1 m2 a fd S e W) {i : Nat} {xs} (h2 : S[i]? = some (.dic xs)) : i ≠ a := fun z => by subst z; rw [h.f] at h2; cases h2
theorem Fe.put {a fd : Nat} {S T : Hh} {e e' : Int} {W W' : AV} (h : Fe w m1 m2 a fd S e W) : Fe w m1 m2 a fd (S.set a (feed w m1 m2 fd e' W') ++ T) e' W' :=
  ⟨by simp [inn_of h.f], (Ch.mk').get h.n h.d, h.n⟩
theorem Fe.app {a fd : Nat} {S T : Hh} {e : Int} {W : AV} (h : Fe w m1 m2 a fd S e W) : Fe w m1 m2 a fd (S ++ T) e W := ⟨get_app h.f, get_app h.d, h.n⟩
theorem Fe.put0 {a fd : Nat} {S : Hh} {e e' : Int} {W W' : AV} (h : Fe w m1 m2 a fd S e W) : Fe w m1 m2 a fd (S.set a (feed w m1 m2 fd e' W')) e' W' :=
  ⟨by simp [inn_of h.f], (Ch.set).get h.n h.d, h.n⟩
/-- the beads to come, with what is eaten then -/
inductive Giv (w : Nat → List Nat) (m1 m2 k a fd : Nat) : Hh → List (AV × Int) → Hh → Prop
  | nil {S} : Giv w m1 m2 k a fd S [] S
  | cons {S S1 S' v e W l} : Bd k a S v S1 → Fe w m1 m2 a fd S1 e W → S1[a]? ≠ S[a]? → Ch a S S1 → Giv w m1 m2 k a fd S1 l S' → Giv w m1 m2 k a fd S ((v, e) :: l) S'
theorem strg_ne (b : AV) (r : List AV) : strg (b :: r) ≠ strg r := by
  induction r generalizing b with
  | nil => intro h; cases h
  | cons c r ih =>
    intro h
    simp only [strg, AV.tup.injEq, List.cons.injEq] at h
    exact ih c h.2.1
variable {k a fd : Nat} {e : Int}
theorem feed_e {W W' : AV} {e' : Int} (h : e ≠ e') : (some (feed w m1 m2 fd e W) : Option AO) ≠ some (feed w m1 m2 fd e' W') := by
  intro z
  simp only [feed, Option.some.injEq, AO.ins.injEq, List.cons.injEq, Prod.mk.injEq, AV.int.injEq] at z
  exact h z.2.2.2.1.2
theorem feed_W {W W' : AV} {e' : Int} (h : W ≠ W') : (some (feed w m1 m2 fd e W) : Option AO) ≠ some (feed w m1 m2 fd e' W') := by
  intro z
  simp only [feed, Option.some.injEq, AO.ins.injEq, List.cons.injEq, Prod.mk.injEq] at z
  exact h z.2.2.2.2.1.2
theorem row_ne (b : AV) (r : List AV) : rowW (strg (b :: r)) ≠ (if r = [] then AV.non else rowW (strg r)) := by
  split
  · intro h; cases h
  · intro h
    simp only [rowW, AV.tup.injEq, List.cons.injEq] at h
    exact strg_ne b r h.2.1
theorem giv_row : ∀ {r : List AV} {S : Hh}, r ≠ [] → Fe w m1 m2 a fd S e (rowW (strg r)) → ∃ S', Giv w m1 m2 k a fd S (r.map fun b => (b, e)) S' ∧ Fe w m1 m2 a fd S' e .non ∧ Ch a S S'
  | [], _, h, _ => absurd rfl h
  | b :: r, S, _, f => by
    have b1 := bd_row (k := k) f.f
    have f1 : Fe w m1 m2 a fd (S.set a (feed w m1 m2 fd e (if r = [] then .non else rowW (strg r)))) e (if r = [] then .non else rowW (strg r)) := f.put0
    have ne : (S.set a (feed w m1 m2 fd e (if r = [] then .non else rowW (strg r))))[a]? ≠ S[a]? := by
      rw [f1.f, f.f]
      exact feed_W (Ne.symm (row_ne b r))
    cases r with
    | nil => exact ⟨_, .cons b1 f1 ne Ch.set .nil, f1, Ch.set⟩
    | cons c r =>
      obtain ⟨S', g, f2, c2⟩ := giv_row (r := c :: r) (List.cons_ne_nil _ _) f1
      exact ⟨S', .cons b1 f1 ne Ch.set g, f2, Ch.set.trans c2⟩
/-- a row's first bead, told by a state that comes to the row -/
theorem giv_to {S S0 : Hh} {o : List AV} {e0 : Int} (ho : o ≠ []) (h : ∀ v S', Bd k a S0 v S' → Bd k a S v S') (c : Ch a S S0) (f0 : Fe w m1 m2 a fd S0 e (rowW (strg o))) {W : AV} (f : Fe w m1 m2 a fd S e0 W) (hne : e0 ≠ e) :
    ∃ S', Giv w m1 m2 k a fd S (o.map fun b => (b, e)) S' ∧ Fe w m1 m2 a fd S' e .non ∧ Ch a S S' := by
  obtain ⟨S', g, f2, c2⟩ := giv_row (k := k) ho f0
  cases o with
  | nil => exact absurd rfl ho
  | cons b r =>
    cases g with
    | @cons _ S1 _ _ _ W1 _ b1 f1 n1 c1 g1 => exact ⟨S', .cons (h _ _ b1) f1 (by rw [f1.f, f.f]; exact feed_e (Ne.symm hne)) (c.trans c1) g1, f2, c.trans c2⟩
def opB (w : Nat → List Nat) (ns : List AV) : AV := .tup (.str (w 1) :: ns)
def laB (w : Nat → List Nat) (ns : List AV) : AV := .tup (.str (w 2) :: ns)
def rowB (w : Nat → List Nat) (os : List (List AV)) (l : List AV) : List AV := os.map (opB w) ++ [laB w l]
/-- the state in which a function is about to be eaten -/
def laySt (w : Nat → List Nat) (m1 m2 a fd : Nat) (S : Hh) (e : Int) (x y : AV) : Prop := (∃ al, Fe w m1 m2 a fd S e (eatW (w 3) al) ∧ S[al]? = some (.lst [x, y])) ∨ ∃ kn kvs, Fe w m1 m2 a fd S e (termW (againT w) kn) ∧ S[kn]? = some (.dic kvs) ∧ getD kvs (w 16) = some x ∧ getD kvs (w 11) = some y
theorem lay_eat {S : Hh} {x y : AV} (h : laySt w m1 m2 a fd S e x y) : ∃ S0 al W, (∀ v S', Bd (k + 3) a S0 v S' → Bd (k + 3) a S v S') ∧ Ch a S S0 ∧ Fe w m1 m2 a fd S e W ∧ Fe w m1 m2 a fd S0 e (eatW (w 3) al) ∧ S0[al]? = some (.lst [x, y]) := by
  rcases h with ⟨al, f, h⟩ | ⟨kn, kvs, f, hk, h1, h2⟩
  · exact ⟨S, al, _, fun _ _ b => b, Ch.refl, f, f, h⟩
  · have q := p_args2 (k := k) (a := a) hk h1 h2
    have q2 := p_beh_call (k := k + 1) (f := w 3) (vs := .non) _ f.f q
    refine ⟨(S ++ [AO.lst [x, y]]).set a (feed w m1 m2 fd e (eatW (w 3) S.length)), S.length, _, fun v S' b => ?_, Ch.app.trans Ch.set, f, f.app.put0, ?_⟩
    · exact bd_beh (t := againT w) rfl (by rfl) f.f q2 (get_app f.f) b
    · have : S.length ≠ a := fun z => by have := get_lt f.f; omega
      rw [List.getElem?_set_ne (Ne.symm this)]
      simp
theorem giv_lay (hw : WD w) {l : List AV} (hl : l.length = cnt m2) {o : List AV} (ho : o ≠ []) : ∀ {os : List (List AV)} {S : Hh} {e : Int}, (∀ x ∈ os, x.length = cnt m1) → laySt w m1 m2 a fd S e (strg (rowB w os l)) (strg o) →
    ∃ S', Giv w m1 m2 (k + 3) a fd S ((os.mapIdx fun i x => (opB w x, e + 1 + (i : Int))) ++ o.map fun b => (b, e + 1 + os.length)) S' ∧ Fe w m1 m2 a fd S' (e + 1 + os.length) .non ∧ Ch a S S'
  | [], S, e, _, st => by
    obtain ⟨S0, al, W, tr, c, f, f0, h⟩ := lay_eat (k := k) st
    have q := p_feat2' hw (k := k + 1) (.inl rfl) hl f0.f f0.d h (by rw [fd_lay hw]; rfl)
    generalize hS1 : (S0.set a (feed w m1 m2 fd (e + 1) (termW (nT (w 11)) (S0.length + 1))) ++ [AO.lst [strg o], .dic ((w 11, strg o) :: (ws w m2).zip l), .dic ((ws w m2).zip l)]) = S1 at q
    have f1 : Fe w m1 m2 a fd S1 (e + 1) (termW (nT (w 11)) (S0.length + 1)) := by rw [← hS1]; exact f0.put
    have c1 : Ch a S0 S1 := by rw [← hS1]; exact Ch.mk'
    have k1 : S1[S0.length + 1]? = some (.dic ((w 11, strg o) :: (ws w m2).zip l)) := by rw [← hS1]; simp
    have q2 := p_beh_name (k := k + 2) (a := a) k1 (getD_hd _ _ _)
    have f2 : Fe w m1 m2 a fd (S1.set a (feed w m1 m2 fd (e + 1) (rowW (strg o)))) (e + 1) (rowW (strg o)) := f1.put0
    have r := giv_to (k := k + 3) ho (fun v S' b => tr _ _ (bd_eat f0.f q (bd_beh (t := nT (w 11)) rfl (by rfl) f1.f q2 f1.f b))) ((c.trans c1).trans Ch.set) f2 f (by omega)
    simpa using r
  | x :: os, S, e, hos, st => by
    obtain ⟨S0, al, W, tr, c, f, f0, h⟩ := lay_eat (k := k) st
    have hx := hos x List.mem_cons_self
    have q := p_feat2 hw (k := k + 1) (.inl rfl) hx f0.f f0.d (show S0[al]? = some (.lst [.tup [.tup (.str (w 1) :: x), strg (rowB w os l)], strg o]) from h) (by rw [fd_lay hw]; rfl)
    generalize hkn : ((w 11, strg o) :: ((ws w m1).zip x ++ [(w 16, strg (rowB w os l))])) = kn at q
    generalize hS1 : (S0.set a (feed w m1 m2 fd (e + 1) (termW (mkT w 1 m1 (againT w)) (S0.length + 1))) ++ [AO.lst [strg o], .dic kn, .dic ((ws w m1).zip x ++ [(w 16, strg (rowB w os l))])]) = S1 at q
    have f1 : Fe w m1 m2 a fd S1 (e + 1) (termW (mkT w 1 m1 (againT w)) (S0.length + 1)) := by rw [← hS1]; exact f0.put
    have c1 : Ch a S0 S1 := by rw [← hS1]; exact Ch.mk'
    have k1 : S1[S0.length + 1]? = some (.dic kn) := by rw [← hS1]; simp
    have b2 : Bd (k + 3) a S1 (opB w x) (S1.set a (feed w m1 m2 fd (e + 1) (termW (againT w) (S0.length + 1))) ++ [AO.lst x]) := bd_make (j := k + 2) (e := e + 1) (fd := fd) (m1 := m1) (m2 := m2) (bI := 1) k1 (by rw [← hkn]; exact kn_n hw (.inl rfl) hx) (.inr ⟨_, rfl⟩) f1.f
    have f2 : Fe w m1 m2 a fd (S1.set a (feed w m1 m2 fd (e + 1) (termW (againT w) (S0.length + 1))) ++ [AO.lst x]) (e + 1) (termW (againT w) (S0.length + 1)) := f1.put
    have k2 : (S1.set a (feed w m1 m2 fd (e + 1) (termW (againT w) (S0.length + 1))) ++ [AO.lst x])[S0.length + 1]? = some (.dic kn) := (Ch.mk').get (f1.neD k1) k1
    obtain ⟨S', g, f3, c3⟩ := giv_lay hw hl ho (os := os) (e := e + 1) (fun y hy => hos y (List.mem_cons_of_mem _ hy)) (.inr ⟨_, kn, f2, k2, by rw [← hkn]; exact kn_r hw (.inl rfl) hx, by rw [← hkn]; exact getD_hd _ _ _⟩)
    have hh : e + 1 + ((x :: os).length : Int) = e + 1 + 1 + (os.length : Int) := by simp; omega
    refine ⟨S', ?_, by rw [hh]; exact f3, ((c.trans c1).trans Ch.mk').trans c3⟩
    rw [hh, List.mapIdx_cons, show e + 1 + ((0 : Nat) : Int) = e + 1 by omega]
    refine .cons (W := termW (againT w) (S0.length + 1)) (tr _ _ (bd_eat f0.f q b2)) f2 ?_ ((c.trans c1).trans Ch.mk') ?_
    · have := f2.f
      rw [f.f]
      intro z
      exact absurd (this.symm.trans z) (feed_e (by omega))
    · have e3 : (os.mapIdx fun i y => (opB w y, e + 1 + ((i + 1 : Nat) : Int))) = os.mapIdx fun i y => (opB w y, e + 1 + 1 + (i : Int)) := by
        congr 1
        funext i y
        simp; omega
      rw [e3]
      exact g
/-- gone -/
def goneSt (w : Nat → List Nat) (m1 m2 a fd : Nat) (S : Hh) (e : Int) (x : AV) (n : Nat) : Prop := ∃ al, Fe w m1 m2 a fd S e (eatW (w 4) al) ∧ S[al]? = some (.lst [x, .int n])
theorem p_minus {S : Hh} {kn : Nat} {kvs : List (List Nat × AV)} {fs : List (Nat × AV)} {n : Nat} (hk : S[kn]? = some (.dic kvs)) (hx : getD kvs (w 12) = some (.int (n + 1))) (hn : n < 100) (ha : S[a]? = some (.ins 1 fs)) :
    phi TT (k + 3) 25 [.ref a, .tup [.str [111, 112], .str [45], nT (w 12), .tup [.str [110, 117, 109], .int 1]], .ref kn] S = .ok (.int n) S := by
  refine p_num_op ha (p_num_name hk hx) p_num_num ?_
  rw [p_reck_sub]
  have : ((n : Int) + 1 - 1) % 1000000000 = n := by omega
  rw [this]
theorem giv_gone_end (hw : WD w) {l : List AV} (hl : l.length = cnt m2) {S S0 : Hh} {n : Nat} {e0 : Int} {W : AV} (st : goneSt w m1 m2 a fd S0 e (strg [laB w l]) n) (tr : ∀ v S', Bd (k + 3) a S0 v S' → Bd (k + 3) a S v S') (c : Ch a S S0) (f : Fe w m1 m2 a fd S e0 W) (he : e0 ≤ e) :
    ∃ S', Giv w m1 m2 (k + 3) a fd S [(laB w l, e + 1)] S' ∧ Fe w m1 m2 a fd S' (e + 1) .non ∧ Ch a S S' := by
  obtain ⟨al, f0, h⟩ := st
  have q := p_feat2' hw (k := k + 1) (.inr rfl) hl f0.f f0.d h (by rw [fd_gone hw]; rfl)
  generalize hkn : ((w 12, AV.int n) :: (ws w m2).zip l) = kn at q
  generalize hS1 : (S0.set a (feed w m1 m2 fd (e + 1) (termW (mkT w 2 m2 .non) (S0.length + 1))) ++ [AO.lst [.int n], .dic kn, .dic ((ws w m2).zip l)]) = S1 at q
  have f1 : Fe w m1 m2 a fd S1 (e + 1) (termW (mkT w 2 m2 .non) (S0.length + 1)) := by rw [← hS1]; exact f0.put
  have c1 : Ch a S0 S1 := by rw [← hS1]; exact Ch.mk'
  have k1 : S1[S0.length + 1]? = some (.dic kn) := by rw [← hS1]; simp
  have b2 : Bd (k + 3) a S1 (laB w l) (S1.set a (feed w m1 m2 fd (e + 1) .non) ++ [AO.lst l]) := bd_make (j := k + 2) (e := e + 1) (fd := fd) (m1 := m1) (m2 := m2) (bI := 2) k1 (by rw [← hkn]; have := kn_n hw (m := m2) (q := w 12) (v := .int n) (r := []) (.inr rfl) hl; simpa using this) (.inl rfl) f1.f
  have f2 : Fe w m1 m2 a fd (S1.set a (feed w m1 m2 fd (e + 1) .non) ++ [AO.lst l]) (e + 1) .non := f1.put
  refine ⟨_, .cons (tr _ _ (bd_eat f0.f q b2)) f2 ?_ ((c.trans c1).trans Ch.mk') .nil, f2, (c.trans c1).trans Ch.mk'⟩
  have := f2.f
  rw [f.f]
  intro z
  exact absurd (this.symm.trans z) (feed_e (by omega))
theorem giv_gone (hw : WD w) {l : List AV} (hl : l.length = cnt m2) : ∀ {n : Nat} {os : List (List AV)} {S S0 : Hh} {e e0 : Int} {W : AV}, n < 100 → (∀ x ∈ os, x.length = cnt m1) → goneSt w m1 m2 a fd S0 e (strg (rowB w os l)) n → (∀ v S', Bd (k + 4) a S0 v S' → Bd (k + 4) a S v S') → Ch a S S0 → Fe w m1 m2 a fd S e0 W → e0 ≤ e →
    ∃ S' e', e' = e + (if os.length ≤ n then os.length else n) + 1 ∧ Giv w m1 m2 (k + 4) a fd S ((if os.length ≤ n then [laB w l] else rowB w (os.drop (n + 1)) l).map fun b => (b, e')) S' ∧ Fe w m1 m2 a fd S' e' .non ∧ Ch a S S'
  | n, [], S, S0, e, e0, W, _, _, st, tr, c, f, he => by
    obtain ⟨S', g, f2, c2⟩ := giv_gone_end (k := k + 1) hw hl st tr c f he
    exact ⟨S', e + 1, by simp, by simpa using g, f2, c2⟩
  | n, x :: os, S, S0, e, e0, W, hn, hos, st, tr, c, f, he => by
    have hx := hos x List.mem_cons_self
    obtain ⟨al, f0, h⟩ := st
    have q := p_feat2 hw (k := k + 2) (.inr rfl) hx f0.f f0.d (show S0[al]? = some (.lst [.tup [.tup (.str (w 1) :: x), strg (rowB w os l)], .int n]) from h) (by rw [fd_gone hw]; rfl)
    generalize hkn : ((w 12, AV.int n) :: ((ws w m1).zip x ++ [(w 16, strg (rowB w os l))])) = kn at q
    generalize hS1 : (S0.set a (feed w m1 m2 fd (e + 1) (termW (ifT w) (S0.length + 1))) ++ [AO.lst [.int n], .dic kn, .dic ((ws w m1).zip x ++ [(w 16, strg (rowB w os l))])]) = S1 at q
    have f1 : Fe w m1 m2 a fd S1 (e + 1) (termW (ifT w) (S0.length + 1)) := by rw [← hS1]; exact f0.put
    have c1 : Ch a S0 S1 := by rw [← hS1]; exact Ch.mk'
    have k1 : S1[S0.length + 1]? = some (.dic kn) := by rw [← hS1]; simp
    have g12 : getD kn (w 12) = some (.int n) := by rw [← hkn]; exact getD_hd _ _ _
    have g16 : getD kn (w 16) = some (strg (rowB w os l)) := by rw [← hkn]; exact kn_r hw (.inr rfl) hx
    have q2 := p_beh_if (k := k + 2) (c := nT (w 12)) (t1 := fewerT w) (t2 := nT (w 16)) f1.f (p_num_name k1 g12)
    match n, hn, g12, q2 with
    | 0, _, g12, q2 =>
      have q2 : phi TT (k + 5) 22 [.ref a, ifT w, .ref (S0.length + 1)] S1 = .ok (termW (nT (w 16)) (S0.length + 1)) S1 := q2
      have f2 : Fe w m1 m2 a fd (S1.set a (feed w m1 m2 fd (e + 1) (termW (nT (w 16)) (S0.length + 1)))) (e + 1) (termW (nT (w 16)) (S0.length + 1)) := f1.put0
      have k2 : (S1.set a (feed w m1 m2 fd (e + 1) (termW (nT (w 16)) (S0.length + 1))))[S0.length + 1]? = some (.dic kn) := Ch.set.get (f1.neD k1) k1
      have q3 := p_beh_name (k := k + 3) (a := a) k2 g16
      have r := giv_to (k := k + 4) (o := rowB w os l) (by simp [rowB]) (fun v S' b => tr _ _ (bd_eat f0.f q (bd_beh (t := ifT w) rfl (by rfl) f1.f q2 f1.f (bd_beh (t := nT (w 16)) rfl (by rfl) f2.f q3 f2.f b)))) (((c.trans c1).trans Ch.set).trans Ch.set) f2.put0 f (by omega)
      obtain ⟨S', g, f4, c4⟩ := r
      refine ⟨S', e + 1, by simp, by simpa using g, f4, c4⟩
    | n + 1, hn, g12, q2 =>
      have q2 : phi TT (k + 5) 22 [.ref a, ifT w, .ref (S0.length + 1)] S1 = .ok (termW (fewerT w) (S0.length + 1)) S1 := by
        have hne : ((n + 1 : Nat) : Int) ≠ 0 := by omega
        rw [if_neg hne] at q2
        exact q2
      have f2 : Fe w m1 m2 a fd (S1.set a (feed w m1 m2 fd (e + 1) (termW (fewerT w) (S0.length + 1)))) (e + 1) (termW (fewerT w) (S0.length + 1)) := f1.put0
      generalize hS2 : (S1.set a (feed w m1 m2 fd (e + 1) (termW (fewerT w) (S0.length + 1)))) = S2 at f2
      have k2 : S2[S0.length + 1]? = some (.dic kn) := by rw [← hS2]; exact Ch.set.get (f1.neD k1) k1
      have q3 := p_argsO (k := k + 1) (t := .non) (u := .int n) f2.f k2 g16 (p_minus (k := k) (get_app k2) g12 (by omega) (get_app f2.f))
      have q4 := p_beh_call (k := k + 2) (f := w 4) (vs := .non) _ f2.f q3
      have tr2 : ∀ v S', Bd (k + 4) a ((S2 ++ [AO.lst [strg (rowB w os l), .int n]]).set a (feed w m1 m2 fd (e + 1) (eatW (w 4) S2.length))) v S' → Bd (k + 4) a S v S' := fun v S' b =>
        tr _ _ (bd_eat f0.f q (bd_beh (t := ifT w) rfl (by rfl) f1.f q2 f1.f (by rw [hS2]; exact bd_beh (t := fewerT w) rfl (by rfl) f2.f q4 (get_app f2.f) b)))
      have f5 : Fe w m1 m2 a fd ((S2 ++ [AO.lst [strg (rowB w os l), .int n]]).set a (feed w m1 m2 fd (e + 1) (eatW (w 4) S2.length))) (e + 1) (eatW (w 4) S2.length) := f2.app.put0
      have h5 : ((S2 ++ [AO.lst [strg (rowB w os l), .int n]]).set a (feed w m1 m2 fd (e + 1) (eatW (w 4) S2.length)))[S2.length]? = some (.lst [strg (rowB w os l), .int n]) := by
        have : S2.length ≠ a := fun z => by have := get_lt f2.f; omega
        rw [List.getElem?_set_ne (Ne.symm this)]
        simp
      obtain ⟨S', e', he', g, f6, c6⟩ := giv_gone hw hl (n := n) (os := os) (e := e + 1) (by omega) (fun y hy => hos y (List.mem_cons_of_mem _ hy)) ⟨_, f5, h5⟩ tr2 ((((c.trans c1).trans (by rw [← hS2]; exact Ch.set)).trans Ch.app).trans Ch.set) f (by omega)
      refine ⟨S', e', ?_, ?_, f6, c6⟩
      · rw [he']
        by_cases hz : os.length ≤ n
        · rw [if_pos hz, if_pos (by simp; exact hz)]; simp; omega
        · rw [if_neg hz, if_neg (by simp; omega)]; simp; omega
      · by_cases hz : os.length ≤ n
        · rw [if_pos hz] at g; rw [if_pos (by simp; exact hz)]; exact g
        · rw [if_neg hz] at g; rw [if_neg (by simp; omega)]; simpa using g
end
end K69
set_option Elab.async false
set_option linter.all false
set_option maxRecDepth 100000
set_option maxHeartbeats 400000
/-! NsI: on, pick, skip. -/
namespace K69
open NM
section
variable {w : Nat → List Nat} {m1 m2 k a fd : Nat}
/-- any function of two rows that comes to its second row by p alone -/
theorem giv_p (hw : WD w) {S S1 : Hh} {e : Int} {W : AV} {o : List AV} {kn : Nat} {kvs : List (List Nat × AV)} {x : List Nat} (ho : o ≠ []) (tr : ∀ v S', Bd (k + 3) a S1 v S' → Bd (k + 3) a S v S') (c : Ch a S S1) (f : Fe w m1 m2 a fd S e W) (f1 : Fe w m1 m2 a fd S1 (e + 1) (termW (nT x) kn)) (k1 : S1[kn]? = some (.dic kvs)) (g : getD kvs x = some (strg o)) :
    ∃ S', Giv w m1 m2 (k + 3) a fd S (o.map fun b => (b, e + 1)) S' ∧ Fe w m1 m2 a fd S' (e + 1) .non ∧ Ch a S S' := by
  have q2 := p_beh_name (k := k + 2) (a := a) k1 g
  exact giv_to (k := k + 3) ho (fun v S' b => tr _ _ (bd_beh (t := nT x) rfl (by rfl) f1.f q2 f1.f b)) (c.trans Ch.set) f1.put0 f (by omega)
theorem giv_on (hw : WD w) {l : List AV} (hl : l.length = cnt m2) {o : List AV} (ho : o ≠ []) {os : List (List AV)} {S : Hh} {e : Int} {al : Nat} (hos : ∀ x ∈ os, x.length = cnt m1) (f : Fe w m1 m2 a fd S e (eatW (w 5) al)) (h : S[al]? = some (.lst [strg (rowB w os l), strg o])) :
    ∃ S', Giv w m1 m2 (k + 3) a fd S (o.map fun b => (b, e + 1)) S' ∧ Fe w m1 m2 a fd S' (e + 1) .non ∧ Ch a S S' := by
  cases os with
  | nil =>
    have q := p_feat2' hw (k := k + 1) (.inl rfl) hl f.f f.d h (by rw [fd_on hw]; rfl)
    exact giv_p hw (kn := S.length + 1) (x := w 11) ho (fun v S' b => bd_eat f.f q b) Ch.mk' f f.put (by simp; rfl) (getD_hd _ _ _)
  | cons x os =>
    have q := p_feat2 hw (k := k + 1) (.inl rfl) (hos x List.mem_cons_self) f.f f.d (show S[al]? = some (.lst [.tup [.tup (.str (w 1) :: x), strg (rowB w os l)], strg o]) from h) (by rw [fd_on hw]; rfl)
    exact giv_p hw (kn := S.length + 1) (x := w 11) ho (fun v S' b => bd_eat f.f q b) Ch.mk' f f.put (by simp; rfl) (getD_hd _ _ _)
def fst3 (x : List Int) : Int := (x ++ [3]).headD 0
theorem p_less (hw : WD w) {S : Hh} {kn : Nat} {kvs : List (List Nat × AV)} {fs : List (Nat × AV)} {x : List Int} (hx : x.length = cnt m1) (hk : S[kn]? = some (.dic kvs)) (hn : (ws w m1).map (getD kvs) = (x.map AV.int).map some) (ha : S[a]? = some (.ins 1 fs)) :
    phi TT (k + 3) 25 [.ref a, .tup [.str [111, 112], .str [60], (nmT w m1 ++ [AV.tup [.str [110, 117, 109], .int 3]]).headD AV.non, .tup [.str [110, 117, 109], .int 2]], .ref kn] S = .ok (.int (if fst3 x < 2 then 1 else 0)) S := by
  refine p_num_op (i := fst3 x) (j := 2) ha ?_ p_num_num (p_reck_lt _ _ _ _)
  match m1, x, hx, hn with
  | 0, [], _, _ => exact p_num_num
  | 1, [y], _, hn => exact p_num_name hk (by simpa [ws, fst3] using hn)
  | m + 2, [y, z], _, hn =>
    have : getD kvs (w 13) = some (.int y) ∧ getD kvs (w 14) = some (.int z) := by simpa [ws] using hn
    exact p_num_name hk (by simpa [fst3] using this.1)
theorem giv_pick (hw : WD w) {l : List AV} (hl : l.length = cnt m2) {o : List AV} (ho : o ≠ []) {os : List (List AV)} {x : List Int} {S : Hh} {e : Int} {al : Nat} (hx : x.length = cnt m1) (f : Fe w m1 m2 a fd S e (eatW (w 6) al)) (h : S[al]? = some (.lst [strg (rowB w (x.map AV.int :: os) l), strg o])) :
    ∃ S', Giv w m1 m2 (k + 3) a fd S ((if fst3 x < 2 then rowB w os l else o).map fun b => (b, e + 1)) S' ∧ Fe w m1 m2 a fd S' (e + 1) .non ∧ Ch a S S' := by
  have hx' : (x.map AV.int).length = cnt m1 := by simpa using hx
  have q := p_feat2 hw (k := k + 1) (.inl rfl) hx' f.f f.d (show S[al]? = some (.lst [.tup [.tup (.str (w 1) :: x.map AV.int), strg (rowB w os l)], strg o]) from h) (by rw [fd_pick hw]; rfl)
  generalize hkn : ((w 11, strg o) :: ((ws w m1).zip (x.map AV.int) ++ [(w 16, strg (rowB w os l))])) = kn at q
  generalize hS1 : (S.set a (feed w m1 m2 fd (e + 1) (termW (chosenT w m1) (S.length + 1))) ++ [AO.lst [strg o], .dic kn, .dic ((ws w m1).zip (x.map AV.int) ++ [(w 16, strg (rowB w os l))])]) = S1 at q
  have f1 : Fe w m1 m2 a fd S1 (e + 1) (termW (chosenT w m1) (S.length + 1)) := by rw [← hS1]; exact f.put
  have c1 : Ch a S S1 := by rw [← hS1]; exact Ch.mk'
  have k1 : S1[S.length + 1]? = some (.dic kn) := by rw [← hS1]; simp
  have g11 : getD kn (w 11) = some (strg o) := by rw [← hkn]; exact getD_hd _ _ _
  have g16 : getD kn (w 16) = some (strg (rowB w os l)) := by rw [← hkn]; exact kn_r hw (.inl rfl) hx'
  have q2 := p_beh_if (k := k + 1) (t1 := nT (w 16)) (t2 := nT (w 11)) f1.f (p_less (k := k) hw hx k1 (by rw [← hkn]; exact kn_n hw (.inl rfl) hx') f1.f)
  by_cases hz : fst3 x < 2
  · rw [if_pos hz] at q2 ⊢
    have q2 : phi TT (k + 4) 22 [.ref a, chosenT w m1, .ref (S.length + 1)] S1 = .ok (termW (nT (w 16)) (S.length + 1)) S1 := q2
    have f2 : Fe w m1 m2 a fd (S1.set a (feed w m1 m2 fd (e + 1) (termW (nT (w 16)) (S.length + 1)))) (e + 1) (termW (nT (w 16)) (S.length + 1)) := f1.put0
    exact giv_p hw (x := w 16) (o := rowB w os l) (by simp [rowB]) (fun v S' b => bd_eat f.f q (bd_beh (t := chosenT w m1) rfl (by rfl) f1.f q2 f1.f b)) (c1.trans Ch.set) f f2 (Ch.set.get (f1.neD k1) k1) g16
  · rw [if_neg hz] at q2 ⊢
    have q2 : phi TT (k + 4) 22 [.ref a, chosenT w m1, .ref (S.length + 1)] S1 = .ok (termW (nT (w 11)) (S.length + 1)) S1 := q2
    have f2 : Fe w m1 m2 a fd (S1.set a (feed w m1 m2 fd (e + 1) (termW (nT (w 11)) (S.length + 1)))) (e + 1) (termW (nT (w 11)) (S.length + 1)) := f1.put0
    exact giv_p hw (x := w 11) (o := o) ho (fun v S' b => bd_eat f.f q (bd_beh (t := chosenT w m1) rfl (by rfl) f1.f q2 f1.f b)) (c1.trans Ch.set) f f2 (Ch.set.get (f1.neD k1) k1) g11
theorem giv_pick' (hw : WD w) {l : List AV} (hl : l.length = cnt m2) {o : List AV} (ho : o ≠ []) {S : Hh} {e : Int} {al : Nat} (f : Fe w m1 m2 a fd S e (eatW (w 6) al)) (h : S[al]? = some (.lst [strg (rowB w [] l), strg o])) :
    ∃ S', Giv w m1 m2 (k + 3) a fd S (o.map fun b => (b, e + 1)) S' ∧ Fe w m1 m2 a fd S' (e + 1) .non ∧ Ch a S S' := by
  have q := p_feat2' hw (k := k + 1) (.inl rfl) hl f.f f.d h (by rw [fd_pick hw]; rfl)
  exact giv_p hw (kn := S.length + 1) (x := w 11) ho (fun v S' b => bd_eat f.f q b) Ch.mk' f f.put (by simp; rfl) (getD_hd _ _ _)
theorem giv_skip (hw : WD w) {l : List AV} (hl : l.length = cnt m2) : ∀ {os : List (List AV)} {S S0 : Hh} {e e0 : Int} {W : AV} {al : Nat}, (∀ x ∈ os, x.length = cnt m1) → Fe w m1 m2 a fd S0 e (eatW (w 7) al) → S0[al]? = some (.lst [strg (rowB w os l)]) → (∀ v S', Bd (k + 4) a S0 v S' → Bd (k + 4) a S v S') → Ch a S S0 → Fe w m1 m2 a fd S e0 W → e0 ≤ e →
    ∃ S', Giv w m1 m2 (k + 4) a fd S [(laB w l, e + os.length + 1)] S' ∧ Fe w m1 m2 a fd S' (e + os.length + 1) .non ∧ Ch a S S'
  | [], S, S0, e, e0, W, al, _, f0, h, tr, c, f, he => by
    have q := p_feat1' hw (k := k + 2) hl f0.f f0.d h (by rw [fd_skip hw]; rfl)
    generalize hkn : (ws w m2).zip l = kn at q
    generalize hS1 : (S0.set a (feed w m1 m2 fd (e + 1) (termW (mkT w 2 m2 .non) (S0.length + 1))) ++ [AO.lst [], .dic kn, .dic kn]) = S1 at q
    have f1 : Fe w m1 m2 a fd S1 (e + 1) (termW (mkT w 2 m2 .non) (S0.length + 1)) := by rw [← hS1]; exact f0.put
    have c1 : Ch a S0 S1 := by rw [← hS1]; exact Ch.mk'
    have k1 : S1[S0.length + 1]? = some (.dic kn) := by rw [← hS1]; simp
    have b2 : Bd (k + 4) a S1 (laB w l) (S1.set a (feed w m1 m2 fd (e + 1) .non) ++ [AO.lst l]) := bd_make (j := k + 3) (e := e + 1) (fd := fd) (m1 := m1) (m2 := m2) (bI := 2) k1 (by rw [← hkn]; have := kn_n1 hw (m := m2) (r := []) hl; simpa using this) (.inl rfl) f1.f
    have f2 : Fe w m1 m2 a fd (S1.set a (feed w m1 m2 fd (e + 1) .non) ++ [AO.lst l]) (e + 1) .non := f1.put
    have hz : e + (([] : List (List AV)).length : Int) + 1 = e + 1 := by simp
    rw [hz]
    refine ⟨_, .cons (tr _ _ (bd_eat f0.f q b2)) f2 ?_ ((c.trans c1).trans Ch.mk') .nil, f2, (c.trans c1).trans Ch.mk'⟩
    have := f2.f
    rw [f.f]
    intro z
    exact absurd (this.symm.trans z) (feed_e (by omega))
  | x :: os, S, S0, e, e0, W, al, hos, f0, h, tr, c, f, he => by
    have hx := hos x List.mem_cons_self
    have q := p_feat1 hw (k := k + 2) hx f0.f f0.d (show S0[al]? = some (.lst [.tup [.tup (.str (w 1) :: x), strg (rowB w os l)]]) from h) (by rw [fd_skip hw]; rfl)
    generalize hkn : ((ws w m1).zip x ++ [(w 16, strg (rowB w os l))]) = kn at q
    generalize hS1 : (S0.set a (feed w m1 m2 fd (e + 1) (termW (skipT w) (S0.length + 1))) ++ [AO.lst [], .dic kn, .dic kn]) = S1 at q
    have f1 : Fe w m1 m2 a fd S1 (e + 1) (termW (skipT w) (S0.length + 1)) := by rw [← hS1]; exact f0.put
    have c1 : Ch a S0 S1 := by rw [← hS1]; exact Ch.mk'
    have k1 : S1[S0.length + 1]? = some (.dic kn) := by rw [← hS1]; simp
    have g16 : getD kn (w 16) = some (strg (rowB w os l)) := by rw [← hkn]; exact kn_r1 hw hx
    have q3 := p_args1 (k := k + 1) (a := a) k1 g16
    have q4 := p_beh_call (k := k + 2) (f := w 7) (vs := .non) _ f1.f q3
    have tr2 : ∀ v S', Bd (k + 4) a ((S1 ++ [AO.lst [strg (rowB w os l)]]).set a (feed w m1 m2 fd (e + 1) (eatW (w 7) S1.length))) v S' → Bd (k + 4) a S v S' := fun v S' b =>
      tr _ _ (bd_eat f0.f q (bd_beh (t := skipT w) rfl (by rfl) f1.f q4 (get_app f1.f) b))
    have f5 : Fe w m1 m2 a fd ((S1 ++ [AO.lst [strg (rowB w os l)]]).set a (feed w m1 m2 fd (e + 1) (eatW (w 7) S1.length))) (e + 1) (eatW (w 7) S1.length) := f1.app.put0
    have h5 : ((S1 ++ [AO.lst [strg (rowB w os l)]]).set a (feed w m1 m2 fd (e + 1) (eatW (w 7) S1.length)))[S1.length]? = some (.lst [strg (rowB w os l)]) := by
      have : S1.length ≠ a := fun z => by have := get_lt f1.f; omega
      rw [List.getElem?_set_ne (Ne.symm this)]
      simp
    obtain ⟨S', g, f6, c6⟩ := giv_skip hw hl (os := os) (e := e + 1) (fun y hy => hos y (List.mem_cons_of_mem _ hy)) f5 h5 tr2 (((c.trans c1).trans Ch.app).trans Ch.set) f (by omega)
    have hz : e + ((x :: os).length : Int) + 1 = e + 1 + (os.length : Int) + 1 := by simp; omega
    rw [hz]
    exact ⟨S', g, f6, c6⟩
end
end K69
set_option Elab.async false
set_option linter.all false
set_option maxRecDepth 100000
set_option maxHeartbeats 800000
/-! NsJ: a feed made; the law's checks of feeds. -/
namespace K69
open NM
section
variable {w : Nat → List Nat} {m1 m2 k : Nat}
def feed0 (w : Nat → List Nat) (m1 m2 n : Nat) (f : List Nat) (xs : List AV) : Hh := [feed w m1 m2 (n + 1) 0 (eatW f (n + 2)), .dic (FD w m1 m2), .lst xs]
theorem p_strg' (k : Nat) (b : AV) (r : List AV) (S : Hh) : phi TT (k + 2) 2 [.tup (b :: r)] S = .ok (.tup [b, strg r]) S := by
  have := p_strung k (b :: r) S
  simpa [strg] using this
theorem p_finit (hw : WD w) {S : Hh} {f : List Nat} {A : AV} {r o : List AV} {n : Int} (xs ys : List AV)
    (hA : (∃ al, A = .ref al ∧ S[al]? = some (.lst xs)) ∨ A = .tup xs) (hx : (xs = [.tup r, .tup o] ∧ ys = [strg r, strg o]) ∨ (xs = [.tup r, .int n] ∧ ys = [strg r, .int n]) ∨ (xs = [.tup r] ∧ ys = [strg r])) :
    phi TT (k + 3) 19 [.ref S.length, prog w m1 m2, .str f, A] (S ++ [.ins 1 []]) = .ok .non (S ++ feed0 w m1 m2 S.length f ys) := by
  have h34 : ¬ w 3 = w 4 := by rw [hw _ _ (by decide) (by decide)]; decide
  have h35 : ¬ w 3 = w 5 := by rw [hw _ _ (by decide) (by decide)]; decide
  have h36 : ¬ w 3 = w 6 := by rw [hw _ _ (by decide) (by decide)]; decide
  have h37 : ¬ w 3 = w 7 := by rw [hw _ _ (by decide) (by decide)]; decide
  have h45 : ¬ w 4 = w 5 := by rw [hw _ _ (by decide) (by decide)]; decide
  have h46 : ¬ w 4 = w 6 := by rw [hw _ _ (by decide) (by decide)]; decide
  have h47 : ¬ w 4 = w 7 := by rw [hw _ _ (by decide) (by decide)]; decide
  have h56 : ¬ w 5 = w 6 := by rw [hw _ _ (by decide) (by decide)]; decide
  have h57 : ¬ w 5 = w 7 := by rw [hw _ _ (by decide) (by decide)]; decide
  have h67 : ¬ w 6 = w 7 := by rw [hw _ _ (by decide) (by decide)]; decide
  have hl : line = 1000000 := rfl
  rw [phi_at (Fc := ⟨4, 6, c19⟩) rfl]
  have fin : ∀ T, sweep (S ++ [AO.ins 1 []]) AV.non (S ++ feed0 w m1 m2 S.length f T) = .ok .non (S ++ feed0 w m1 m2 S.length f T) := fun T => sweep_chg (a := S.length) (by simp [Inn]) (by simp [feed0, feed])
  rcases hA with ⟨al, rfl, hal⟩ | rfl
  · have hb := inn_of hal
    rcases hx with ⟨rfl, rfl⟩ | ⟨rfl, rfl⟩ | ⟨rfl, rfl⟩ <;>
    · refine Eq.trans ?_ (fin _)
      simp [List.lookup_cons, runF, c19, hal, hb, hl, ixA, prog, putN, putD, wipeA, layF, goneF, onF, pickF, skipF, h34, h35, h36, h37, h45, h46, h47, h56, h57, h67, p_strung, wO_l, feed0, feed, eatW, FD]
  · rcases hx with ⟨rfl, rfl⟩ | ⟨rfl, rfl⟩ | ⟨rfl, rfl⟩ <;>
    · refine Eq.trans ?_ (fin _)
      simp [List.lookup_cons, runF, c19, hl, ixA, prog, putN, putD, wipeA, layF, goneF, onF, pickF, skipF, h34, h35, h36, h37, h45, h46, h47, h56, h57, h67, p_strung, wO_l, feed0, feed, eatW, FD]
end
end K69
set_option Elab.async false
set_option linter.all false
set_option maxRecDepth 100000
set_option maxHeartbeats 800000
/-! NsK: the law's checks of feeds. -/
namespace K69
open NM
theorem evCs_nx {G : Gam} {c : C} {cs : List C} {ls ls1 : Ls} {S S1 : Hh} {R : Res (Fl × Ls)} (h1 : evC G c ls S = .ok (.nx, ls1) S1) (h2 : evCs G cs ls1 S1 = R) : evCs G (c :: cs) ls S = R := by rw [evCs_cons, h1]; exact h2
theorem evCs_rt {G : Gam} {c : C} {cs : List C} {ls ls1 : Ls} {S S1 : Hh} {v : AV} (h1 : evC G c ls S = .ok (.rt v, ls1) S1) : evCs G (c :: cs) ls S = .ok (.rt v, ls1) S1 := by rw [evCs_cons, h1]; rfl
/-- a bead whose repr and == are told -/
structure Okb (b : AV) : Prop where
  r : ∃ s, ∀ S, bi1 .repr [b] S = .ok (.str s) S
  q : eq2 b b = some true
  n : isNon b = false
section
variable {w : Nat → List Nat} {m1 m2 k a fd : Nat}
def rb : List C := [.ifs (.or (.val (.cmp .ne (.bi .repr [.meth 8 (.var 5) []]) (.bi .repr [.var 8]))) (.val (.cmp .ne (.meth 5 (.var 5) []) (.idx (.var 6) (.var 7))))) [.ret (.cst (.bl false))] []]
theorem fe_ins {S : Hh} {e : Int} {W : AV} (f : Fe w m1 m2 a fd S e W) : S[a]? = some (.ins 1 [(6, prog w m1 m2), (1, .ref fd), (2, .int e), (7, W)]) := f.f
theorem right_go {mo : Nat} {o0 o1 o2 o3 o4 : Option AV} : ∀ {l : List (AV × Int)} {S S' : Hh} {i : Nat} {pre : List Int} {last : Int} {o7 o8 : Option AV}, (∀ x ∈ l, Okb x.1) → Giv w m1 m2 k a fd S l S' → (∃ e W, Fe w m1 m2 a fd S e W) → S[mo]? = some (.lst ((pre ++ l.map (·.2) ++ [last]).map AV.int)) → pre.length = i →
    ∃ o7' o8', forGo (fun x ls S => match asgT (.tp [.nm 7, .nm 8]) x ls S with | some ls' => evCs (gam TT (phi TT (k + 2)) (phi TT (k + 1))) rb ls' S | none => .bad) [] (enumA i (l.map (·.1))) [o0, o1, o2, o3, o4, some (.ref a), some (.ref mo), o7, o8] S = .ok (.nx, [o0, o1, o2, o3, o4, some (.ref a), some (.ref mo), o7', o8']) S'
  | [], S, S', i, pre, last, o7, o8, _, g, _, _, _ => by
    cases g
    exact ⟨o7, o8, by simp [enumA]⟩
  | (v, e) :: l, S, S', i, pre, last, o7, o8, hok, g, ⟨e0, W0, f0⟩, hm, hi => by
    cases g with
    | @cons _ S1 _ _ _ W _ b f n c g =>
      have q := p_bead b f0.f (by rw [← f0.f]; exact n)
      obtain ⟨s, hs⟩ := (hok _ List.mem_cons_self).r
      have hma : mo ≠ a := f0.ne hm
      have hm1 : S1[mo]? = some (.lst ((pre ++ ((v, e) :: l).map (·.2) ++ [last]).map AV.int)) := c.get hma hm
      have hx : ixA ((pre ++ ((v, e) :: l).map (·.2) ++ [last]).map AV.int) (i : Int) = some (.int e) := by
        subst hi
        simp [ixA]
      have hm2 : S1[mo]? = some (.lst (((pre ++ [e]) ++ l.map (·.2) ++ [last]).map AV.int)) := by rw [hm1]; simp
      obtain ⟨o7', o8', r⟩ := right_go (i := i + 1) (pre := pre ++ [e]) (o7 := some (.int i)) (o8 := some v) (fun x hx => hok x (List.mem_cons_of_mem _ hx)) g ⟨e, W, f⟩ hm2 (by simp [hi])
      refine ⟨o7', o8', ?_⟩
      have h0 := fe_ins f0
      have h1 := fe_ins f
      simp [enumA, rb, h0, h1, mt_bead, mt_eaten, q, hs, p_eaten f.f, hm1] at hx ⊢
      simp [hx]
      exact r
theorem giv_last {l : List (AV × Int)} {S S' : Hh} (g : Giv w m1 m2 k a fd S l S') : S.length ≤ S'.length := by
  induction g with
  | nil => exact Nat.le_refl _
  | cons b f n c g ih => exact Nat.le_trans c.len ih
theorem p_right {S : Hh} {f : List Nat} {A : AV} {ys : List AV} {er : Nat} {l : List (AV × Int)} {last : Int} (hl : l.length ≤ 100000) (hne : l ≠ []) (hlast : (l.map (·.2)).getLast? = some last) (hok : ∀ x ∈ l, Okb x.1) (her : S[er]? = some (.lst ((l.map (·.2)).map AV.int)))
    (hin : phi TT (k + 1) 19 [.ref S.length, prog w m1 m2, .str f, A] (S ++ [.ins 1 []]) = .ok .non (S ++ feed0 w m1 m2 S.length f ys))
    (hg : ∃ S', Giv w m1 m2 k S.length (S.length + 1) (S ++ feed0 w m1 m2 S.length f ys ++ [.lst [.int last], .lst ((l.map (·.2) ++ [last]).map AV.int)]) l S' ∧ Fe w m1 m2 S.length (S.length + 1) S' last .non ∧ Ch S.length (S ++ feed0 w m1 m2 S.length f ys ++ [.lst [.int last], .lst ((l.map (·.2) ++ [last]).map AV.int)]) S') :
    phi TT (k + 3) 37 [prog w m1 m2, .str f, A, .tup (l.map (·.1)), .ref er] S = .ok (.bl true) S := by
  obtain ⟨S', g, f', c⟩ := hg
  have hb := inn_of her
  have hln : line = 1000000 := rfl
  have hf0 : Fe w m1 m2 S.length (S.length + 1) (S ++ feed0 w m1 m2 S.length f ys ++ [.lst [.int last], .lst ((l.map (·.2) ++ [last]).map AV.int)]) 0 (eatW f (S.length + 2)) := ⟨by simp [feed0], by simp [feed0], by omega⟩
  have hmo : (S ++ feed0 w m1 m2 S.length f ys ++ [.lst [.int last], .lst ((l.map (·.2) ++ [last]).map AV.int)])[S.length + 4]? = some (.lst (([] ++ l.map (fun x : AV × Int => x.2) ++ [last]).map AV.int)) := by simp [feed0]
  obtain ⟨o7', o8', r⟩ := right_go (mo := S.length + 4) (i := 0) (pre := []) (last := last) (o0 := some (prog w m1 m2)) (o1 := some (.str f)) (o2 := some A) (o3 := some (.tup (l.map (·.1)))) (o4 := some (.ref er)) (o7 := none) (o8 := none) hok g ⟨_, _, hf0⟩ hmo rfl
  have hmo' : S'[S.length + 4]? = some (.lst ((l.map (·.2) ++ [last]).map AV.int)) := by
    have := c.get (by omega) hmo
    simpa using this
  have hix : ixA ((l.map (·.2)).map AV.int) (-1) = some (.int last) := by
    have h2 : ((l.map (·.2)).map AV.int).getLast? = some (.int last) := by rw [List.getLast?_map, hlast]; rfl
    have h3 : ((l.map (·.2)).map AV.int).length ≠ 0 := by cases l with | nil => exact absurd rfl hne | cons => simp
    rw [List.getLast?_eq_getElem?] at h2
    unfold ixA
    rw [if_neg (by decide), if_pos (by omega)]
    exact h2
  have hix2 : ixA ((l.map (·.2) ++ [last]).map AV.int) (-1) = some (.int last) := by
    unfold ixA
    rw [if_neg (by decide), if_pos (by simp; omega)]
    simp
  have hins := fe_ins f'
  rw [phi_at (Fc := ⟨5, 9, c37⟩) rfl]
  have e1 : evCs (gam TT (phi TT (k + 2)) (phi TT (k + 1))) c37 [some (prog w m1 m2), some (.str f), some A, some (.tup (l.map (·.1))), some (.ref er), none, none, none, none] S = .ok (.rt (.bl true), [some (prog w m1 m2), some (.str f), some A, some (.tup (l.map (·.1))), some (.ref er), some (.ref S.length), some (.ref (S.length + 4)), o7', o8']) S' := by
    have hini : TT.ini 1 = some 19 := rfl
    have hin2 := hin
    simp only [feed0] at hin2
    simp only [List.map_append, List.map_map, List.map_cons, List.map_nil] at hix hix2 hmo'
    have s1 : evC (gam TT (phi TT (k + 2)) (phi TT (k + 1))) (.asg (.tp [.nm 5, .nm 6]) (.tup [.make 1 [.var 0, .var 1, .var 2] [], .bin .add (.var 4) (.lst [.idx (.var 4) (.neg (.cst (.int 1)))])])) [some (prog w m1 m2), some (.str f), some A, some (.tup (l.map (·.1))), some (.ref er), none, none, none, none] S = .ok (.nx, [some (prog w m1 m2), some (.str f), some A, some (.tup (l.map (·.1))), some (.ref er), some (.ref S.length), some (.ref (S.length + 4)), none, none]) (S ++ feed0 w m1 m2 S.length f ys ++ [.lst [.int last], .lst ((l.map (·.2) ++ [last]).map AV.int)]) := by
      simp [hini, hin2, her, hb, hix, hln, show l.length + 1 ≤ 1000000 by omega, feed0]
    have s2 : evC (gam TT (phi TT (k + 2)) (phi TT (k + 1))) (.forr (.tp [.nm 7, .nm 8]) (.enm (.var 3)) rb) [some (prog w m1 m2), some (.str f), some A, some (.tup (l.map (·.1))), some (.ref er), some (.ref S.length), some (.ref (S.length + 4)), none, none] (S ++ feed0 w m1 m2 S.length f ys ++ [.lst [.int last], .lst ((l.map (·.2) ++ [last]).map AV.int)]) = .ok (.nx, [some (prog w m1 m2), some (.str f), some A, some (.tup (l.map (·.1))), some (.ref er), some (.ref S.length), some (.ref (S.length + 4)), o7', o8']) S' := by
      rw [evC_forr, evIt_enm, ev_var]
      exact r
    have s3 : evC (gam TT (phi TT (k + 2)) (phi TT (k + 1))) (.ret (.band (.cmp .isN (.meth 8 (.var 5) []) (.cst .non)) (.band (.cmp .eq (.meth 14 (.var 5) []) (.cst (.int 0))) (.cmp .eq (.meth 5 (.var 5) []) (.idx (.var 6) (.neg (.cst (.int 1)))))))) [some (prog w m1 m2), some (.str f), some A, some (.tup (l.map (·.1))), some (.ref er), some (.ref S.length), some (.ref (S.length + 4)), o7', o8'] S' = .ok (.rt (.bl true), [some (prog w m1 m2), some (.str f), some A, some (.tup (l.map (·.1))), some (.ref er), some (.ref S.length), some (.ref (S.length + 4)), o7', o8']) S' := by
      simp [hins, mt_bead, mt_left, mt_eaten, p_bead_non f'.f, p_left_non f'.f, p_eaten f'.f, hmo', hix2]
    exact evCs_nx s1 (evCs_nx s2 (evCs_rt s3))
  have e2 : runF (gam TT (phi TT (k + 2)) (phi TT (k + 1))) ⟨5, 9, c37⟩ [prog w m1 m2, .str f, A, .tup (l.map (·.1)), .ref er] S = sweep S (.bl true) S' := by
    unfold runF
    rw [if_pos (by rfl)]
    show (evCs (gam TT (phi TT (k + 2)) (phi TT (k + 1))) c37 [some (prog w m1 m2), some (.str f), some A, some (.tup (l.map (·.1))), some (.ref er), none, none, none, none] S).bind _ = _
    rw [e1]
    rfl
  rw [e2]
  refine sweep_flat rfl ?_
  have k1 : Kp S.length S (S ++ feed0 w m1 m2 S.length f ys ++ [.lst [.int last], .lst ((l.map (·.2) ++ [last]).map AV.int)]) := by rw [List.append_assoc]; exact Kp.app (Nat.le_refl _)
  exact k1.trans (c.kp (by simp))
end
end K69
set_option Elab.async false
set_option linter.all false
set_option maxRecDepth 100000
set_option maxHeartbeats 800000
/-! NsM: a row handed on, bead by bead. -/
namespace K69
open NM
section
variable {w : Nat → List Nat} {m1 m2 : Nat}
def restW (r : List AV) : AV := if r = [] then .non else rowW (strg r)
/-- the beads of a row that is handed on, and what is left behind each -/
inductive Rwy (w : Nat → List Nat) (m1 m2 k a fd : Nat) (e : Int) : Hh → List AV → Hh → Prop
  | nil {S} : Rwy w m1 m2 k a fd e S [] S
  | cons {S S1 S' b r} : Bd k a S b S1 → Fe w m1 m2 a fd S1 e (restW r) → S1[a]? ≠ S[a]? → Ch a S S1 → Rwy w m1 m2 k a fd e S1 r S' → Rwy w m1 m2 k a fd e S (b :: r) S'
variable {k a fd : Nat} {e : Int}
theorem rwy_row : ∀ {r : List AV} {S : Hh}, r ≠ [] → Fe w m1 m2 a fd S e (rowW (strg r)) → ∃ S', Rwy w m1 m2 k a fd e S r S' ∧ Fe w m1 m2 a fd S' e .non ∧ Ch a S S'
  | [], _, h, _ => absurd rfl h
  | b :: r, S, _, f => by
    have b1 := bd_row (k := k) f.f
    have f1 : Fe w m1 m2 a fd (S.set a (feed w m1 m2 fd e (if r = [] then .non else rowW (strg r)))) e (restW r) := f.put0
    have ne : (S.set a (feed w m1 m2 fd e (if r = [] then .non else rowW (strg r))))[a]? ≠ S[a]? := by
      rw [f1.f, f.f]
      exact feed_W (Ne.symm (row_ne b r))
    cases r with
    | nil => exact ⟨_, .cons b1 f1 ne Ch.set .nil, f1, Ch.set⟩
    | cons c r =>
      obtain ⟨S', g, f2, c2⟩ := rwy_row (r := c :: r) (List.cons_ne_nil _ _) f1
      exact ⟨S', .cons b1 f1 ne Ch.set g, f2, Ch.set.trans c2⟩
theorem rwy_to {S S0 : Hh} {o : List AV} {e0 : Int} (ho : o ≠ []) (h : ∀ v S', Bd k a S0 v S' → Bd k a S v S') (c : Ch a S S0) (f0 : Fe w m1 m2 a fd S0 e (rowW (strg o))) {W : AV} (f : Fe w m1 m2 a fd S e0 W) (hne : e0 ≠ e) :
    ∃ S', Rwy w m1 m2 k a fd e S o S' ∧ Fe w m1 m2 a fd S' e .non ∧ Ch a S S' := by
  obtain ⟨S', g, f2, c2⟩ := rwy_row (k := k) ho f0
  cases o with
  | nil => exact absurd rfl ho
  | cons b r =>
    cases g with
    | @cons _ S1 _ _ _ b1 f1 n1 c1 g1 => exact ⟨S', .cons (h _ _ b1) f1 (by rw [f1.f, f.f]; exact feed_e (Ne.symm hne)) (c.trans c1) g1, f2, c.trans c2⟩
theorem rwy_lay (hw : WD w) {l : List AV} (hl : l.length = cnt m2) {o : List AV} (ho : o ≠ []) : ∀ {os : List (List AV)} {S : Hh} {e : Int}, (∀ x ∈ os, x.length = cnt m1) → laySt w m1 m2 a fd S e (strg (rowB w os l)) (strg o) →
    ∃ l1 Sm S', l1.length = os.length ∧ Giv w m1 m2 (k + 3) a fd S l1 Sm ∧ Ch a S Sm ∧ (∃ e W, Fe w m1 m2 a fd Sm e W) ∧ Rwy w m1 m2 (k + 3) a fd (e + 1 + os.length) Sm o S' ∧ Fe w m1 m2 a fd S' (e + 1 + os.length) .non ∧ Ch a Sm S'
  | [], S, e, _, st => by
    obtain ⟨S0, al, W, tr, c, f, f0, h⟩ := lay_eat (k := k) st
    have q := p_feat2' hw (k := k + 1) (.inl rfl) hl f0.f f0.d h (by rw [fd_lay hw]; rfl)
    generalize hS1 : (S0.set a (feed w m1 m2 fd (e + 1) (termW (nT (w 11)) (S0.length + 1))) ++ [AO.lst [strg o], .dic ((w 11, strg o) :: (ws w m2).zip l), .dic ((ws w m2).zip l)]) = S1 at q
    have f1 : Fe w m1 m2 a fd S1 (e + 1) (termW (nT (w 11)) (S0.length + 1)) := by rw [← hS1]; exact f0.put
    have c1 : Ch a S0 S1 := by rw [← hS1]; exact Ch.mk'
    have k1 : S1[S0.length + 1]? = some (.dic ((w 11, strg o) :: (ws w m2).zip l)) := by rw [← hS1]; simp
    have q2 := p_beh_name (k := k + 2) (a := a) k1 (getD_hd _ _ _)
    have f2 : Fe w m1 m2 a fd (S1.set a (feed w m1 m2 fd (e + 1) (rowW (strg o)))) (e + 1) (rowW (strg o)) := f1.put0
    obtain ⟨S', r1, r2, r3⟩ := rwy_to (k := k + 3) ho (fun v S' b => tr _ _ (bd_eat f0.f q (bd_beh (t := nT (w 11)) rfl (by rfl) f1.f q2 f1.f b))) ((c.trans c1).trans Ch.set) f2 f (by omega)
    have hz : e + 1 + (([] : List (List AV)).length : Int) = e + 1 := by simp
    rw [hz]
    exact ⟨[], S, S', rfl, .nil, Ch.refl, ⟨_, _, f⟩, r1, r2, r3⟩
  | x :: os, S, e, hos, st => by
    obtain ⟨S0, al, W, tr, c, f, f0, h⟩ := lay_eat (k := k) st
    have hx := hos x List.mem_cons_self
    have q := p_feat2 hw (k := k + 1) (.inl rfl) hx f0.f f0.d (show S0[al]? = some (.lst [.tup [.tup (.str (w 1) :: x), strg (rowB w os l)], strg o]) from h) (by rw [fd_lay hw]; rfl)
    generalize hkn : ((w 11, strg o) :: ((ws w m1).zip x ++ [(w 16, strg (rowB w os l))])) = kn at q
    generalize hS1 : (S0.set a (feed w m1 m2 fd (e + 1) (termW (mkT w 1 m1 (againT w)) (S0.length + 1))) ++ [AO.lst [strg o], .dic kn, .dic ((ws w m1).zip x ++ [(w 16, strg (rowB w os l))])]) = S1 at q
    have f1 : Fe w m1 m2 a fd S1 (e + 1) (termW (mkT w 1 m1 (againT w)) (S0.length + 1)) := by rw [← hS1]; exact f0.put
    have c1 : Ch a S0 S1 := by rw [← hS1]; exact Ch.mk'
    have k1 : S1[S0.length + 1]? = some (.dic kn) := by rw [← hS1]; simp
    have b2 : Bd (k + 3) a S1 (opB w x) (S1.set a (feed w m1 m2 fd (e + 1) (termW (againT w) (S0.length + 1))) ++ [AO.lst x]) := bd_make (j := k + 2) (e := e + 1) (fd := fd) (m1 := m1) (m2 := m2) (bI := 1) k1 (by rw [← hkn]; exact kn_n hw (.inl rfl) hx) (.inr ⟨_, rfl⟩) f1.f
    have f2 : Fe w m1 m2 a fd (S1.set a (feed w m1 m2 fd (e + 1) (termW (againT w) (S0.length + 1))) ++ [AO.lst x]) (e + 1) (termW (againT w) (S0.length + 1)) := f1.put
    have k2 : (S1.set a (feed w m1 m2 fd (e + 1) (termW (againT w) (S0.length + 1))) ++ [AO.lst x])[S0.length + 1]? = some (.dic kn) := (Ch.mk').get (f1.neD k1) k1
    obtain ⟨l1, Sm, S', hl1, g, cm, hm, r1, r2, r3⟩ := rwy_lay hw hl ho (os := os) (e := e + 1) (fun y hy => hos y (List.mem_cons_of_mem _ hy)) (.inr ⟨_, kn, f2, k2, by rw [← hkn]; exact kn_r hw (.inl rfl) hx, by rw [← hkn]; exact getD_hd _ _ _⟩)
    have hh : e + 1 + ((x :: os).length : Int) = e + 1 + 1 + (os.length : Int) := by simp; omega
    rw [hh]
    refine ⟨(opB w x, e + 1) :: l1, Sm, S', by simp [hl1], .cons (W := termW (againT w) (S0.length + 1)) (tr _ _ (bd_eat f0.f q b2)) f2 ?_ ((c.trans c1).trans Ch.mk') g, ((c.trans c1).trans Ch.mk').trans cm, hm, r1, r2, r3⟩
    have := f2.f
    rw [f.f]
    intro z
    exact absurd (this.symm.trans z) (feed_e (by omega))
theorem forGo_nx {g : AV → Ls → Hh → Res (Fl × Ls)} {gs : Gd} {x : AV} {xs : List AV} {ls ls1 : Ls} {S S1 : Hh} {R : Res (Fl × Ls)} (hg : gdOk gs S = true) (h1 : g x ls S = .ok (.nx, ls1) S1) (h2 : forGo g gs xs ls1 S1 = R) : forGo g gs (x :: xs) ls S = R := by rw [forGo_cons, if_pos hg, h1]; exact h2
/-! ### handed -/
def ha1 : List C := [.expr (.meth 8 (.var 5) [])]
def ha2 : List C := [.asg (.nm 8) (.meth 5 (.var 5) []),
    .ifs (.or (.val (.cmp .ne (.meth 8 (.var 5) []) (.var 7))) (.or (.val (.cmp .ne (.meth 14 (.var 5) []) (.bin .sub (.bin .sub (.bi .len [.var 4]) (.cst (.int 1))) (.var 6)))) (.and (.val (.cmp .gt (.var 6) (.cst (.int 0)))) (.val (.cmp .ne (.meth 5 (.var 5) []) (.var 8)))))) [.ret (.cst (.bl false))] []]
theorem ha_go1 {o0 o1 o2 o3 o4 o7 o8 : Option AV} : ∀ {l : List (AV × Int)} {S S' : Hh} {xs : List AV} {o6 : Option AV}, xs.length = l.length → Giv w m1 m2 k a fd S l S' → (∃ e W, Fe w m1 m2 a fd S e W) →
    ∃ o6', forGo (fun x ls S => match asgT (.nm 6) x ls S with | some ls' => evCs (gam TT (phi TT (k + 2)) (phi TT (k + 1))) ha1 ls' S | none => .bad) [] xs [o0, o1, o2, o3, o4, some (.ref a), o6, o7, o8] S = .ok (.nx, [o0, o1, o2, o3, o4, some (.ref a), o6', o7, o8]) S'
  | [], S, S', xs, o6, hx, g, _ => by
    cases g
    cases xs with
    | nil => exact ⟨o6, by simp⟩
    | cons => simp at hx
  | (v, e) :: l, S, S', xs, o6, hx, g, ⟨e0, W0, f0⟩ => by
    cases xs with
    | nil => simp at hx
    | cons x xs =>
      cases g with
      | @cons _ S1 _ _ _ W _ b f n c g =>
        have q := p_bead b f0.f (by rw [← f0.f]; exact n)
        obtain ⟨o6', r⟩ := ha_go1 (xs := xs) (o6 := some x) (by simpa using hx) g ⟨e, W, f⟩
        have h0 := fe_ins f0
        exact ⟨o6', forGo_nx rfl (by simp [ha1, h0, mt_bead, q]) r⟩
theorem p_left_rest {r : List AV} {S : Hh} (f : Fe w m1 m2 a fd S e (restW r)) : phi TT (k + 3) 28 [.ref a] S = .ok (.int r.length) S := by
  cases r with
  | nil => exact p_left_non (k := k + 1) f.f
  | cons b r => exact p_left_row (List.cons_ne_nil _ _) f.f
theorem ha_go2 {o0 o1 o2 o3 : Option AV} {row : List AV} (hr : row.length ≤ 100000) : ∀ {r : List AV} {S S' : Hh} {i : Nat} {o6 o7 o8 : Option AV}, (∀ x ∈ r, Okb x) → i + r.length = row.length → Rwy w m1 m2 (k + 1) a fd e S r S' → (∃ e0 W, Fe w m1 m2 a fd S e0 W ∧ (0 < i → e0 = e)) →
    ∃ o6' o7' o8', forGo (fun x ls S => match asgT (.tp [.nm 6, .nm 7]) x ls S with | some ls' => evCs (gam TT (phi TT (k + 3)) (phi TT (k + 2))) ha2 ls' S | none => .bad) [] (enumA i r) [o0, o1, o2, o3, some (.tup row), some (.ref a), o6, o7, o8] S = .ok (.nx, [o0, o1, o2, o3, some (.tup row), some (.ref a), o6', o7', o8']) S'
  | [], S, S', i, o6, o7, o8, _, _, g, _ => by
    cases g
    exact ⟨o6, o7, o8, by simp [enumA]⟩
  | b :: r, S, S', i, o6, o7, o8, hok, hi, g, ⟨e0, W0, f0, he⟩ => by
    cases g with
    | @cons _ S1 _ _ _ b1 f n c g =>
      have q := p_bead b1 f0.f (by rw [← f0.f]; exact n)
      have hq := (hok _ List.mem_cons_self).q
      obtain ⟨o6', o7', o8', rr⟩ := ha_go2 (o0 := o0) (o1 := o1) (o2 := o2) (o3 := o3) hr (i := i + 1) (o6 := some (.int i)) (o7 := some b) (o8 := some (.int e0)) (fun x hx => hok x (List.mem_cons_of_mem _ hx)) (by simp at hi; omega) g ⟨e, _, f, fun _ => rfl⟩
      refine ⟨o6', o7', o8', forGo_nx rfl ?_ rr⟩
      have h0 := fe_ins f0
      have h1 := fe_ins f
      have hl := p_left_rest (k := k) f
      have hz : (r.length : Int) = (row.length : Int) - 1 - i := by simp at hi; omega
      have p1 := p_eaten (k := k + 1) f0.f
      have p2 := p_eaten (k := k + 1) f.f
      by_cases hp : 0 < i
      · have he2 := he hp
        rw [he2] at p1
        simp [ha2, h0, h1, mt_bead, mt_eaten, mt_left, q, hq, hl, p1, p2, hz, he2]
      · have : i = 0 := by omega
        subst this
        simp [ha2, h0, h1, mt_bead, mt_eaten, mt_left, q, hq, hl, p1, p2, hz]
end
end K69
set_option Elab.async false
set_option linter.all false
set_option maxRecDepth 100000
set_option maxHeartbeats 800000
/-! NsN: the law's check of a row that is handed on. -/
namespace K69
open NM
section
variable {w : Nat → List Nat} {m1 m2 k : Nat}
theorem evIt_rng1 {G : Gam} {es : List E} {ls : Ls} {S S1 : Hh} {j : Int} (h : evs G es ls S = .ok [.int j] S1) (h1 : -(line : Int) < j) (h2 : j < (line : Int)) : evIt G (.rng es) ls S = .ok (rngA 0 j.toNat, []) S1 := by
  rw [evIt_rng, h, bind_ok]
  exact if_pos ⟨h1, h2⟩
theorem rng_len (n : Nat) : (rngA 0 n).length = n := by simp [rngA]
theorem p_handed {S Sm S' : Hh} {f : List Nat} {A : AV} {ys row : List AV} {l1 : List (AV × Int)} {e : Int} (hl1 : l1.length ≤ 10000) (hr : row.length ≤ 100000) (hok : ∀ x ∈ row, Okb x)
    (hin : phi TT (k + 2) 19 [.ref S.length, prog w m1 m2, .str f, A] (S ++ [.ins 1 []]) = .ok .non (S ++ feed0 w m1 m2 S.length f ys))
    (g : Giv w m1 m2 (k + 1) S.length (S.length + 1) (S ++ feed0 w m1 m2 S.length f ys) l1 Sm) (c1 : Ch S.length (S ++ feed0 w m1 m2 S.length f ys) Sm) (hm : ∃ e W, Fe w m1 m2 S.length (S.length + 1) Sm e W)
    (r : Rwy w m1 m2 (k + 1) S.length (S.length + 1) e Sm row S') (f' : Fe w m1 m2 S.length (S.length + 1) S' e .non) (c2 : Ch S.length Sm S') :
    phi TT (k + 4) 38 [prog w m1 m2, .str f, A, .int (l1.length : Nat), .tup row] S = .ok (.bl true) S := by
  have hf0 : Fe w m1 m2 S.length (S.length + 1) (S ++ feed0 w m1 m2 S.length f ys) 0 (eatW f (S.length + 2)) := ⟨by simp [feed0], by simp [feed0], by omega⟩
  obtain ⟨o6, g1⟩ := ha_go1 (k := k + 1) (o0 := some (prog w m1 m2)) (o1 := some (.str f)) (o2 := some A) (o3 := some (.int (l1.length : Nat))) (o4 := some (.tup row)) (o7 := none) (o8 := none) (o6 := none) (xs := rngA 0 l1.length) (rng_len _) g ⟨_, _, hf0⟩
  obtain ⟨em, Wm, fm⟩ := hm
  obtain ⟨o6', o7', o8', g2⟩ := ha_go2 (k := k) (o0 := some (prog w m1 m2)) (o1 := some (.str f)) (o2 := some A) (o3 := some (.int (l1.length : Nat))) (row := row) (o7 := none) (o8 := none) (o6 := o6) (i := 0) hr hok (by simp) r ⟨em, Wm, fm, fun h => absurd h (by omega)⟩
  have hini : TT.ini 1 = some 19 := rfl
  have hins := fe_ins f'
  have hln : line = 1000000 := rfl
  have hA : -(line : Int) < ((l1.length : Nat) : Int) := by rw [hln]; omega
  have hB : ((l1.length : Nat) : Int) < (line : Int) := by rw [hln]; omega
  rw [phi_at (Fc := ⟨5, 9, c38⟩) rfl]
  have s1 : evC (gam TT (phi TT (k + 3)) (phi TT (k + 2))) (.asg (.nm 5) (.make 1 [.var 0, .var 1, .var 2] [])) [some (prog w m1 m2), some (.str f), some A, some (.int (l1.length : Nat)), some (.tup row), none, none, none, none] S = .ok (.nx, [some (prog w m1 m2), some (.str f), some A, some (.int (l1.length : Nat)), some (.tup row), some (.ref S.length), none, none, none]) (S ++ feed0 w m1 m2 S.length f ys) := by
    simp [hini, hin]
  have s2 : evC (gam TT (phi TT (k + 3)) (phi TT (k + 2))) (.forr (.nm 6) (.rng [.var 3]) ha1) [some (prog w m1 m2), some (.str f), some A, some (.int (l1.length : Nat)), some (.tup row), some (.ref S.length), none, none, none] (S ++ feed0 w m1 m2 S.length f ys) = .ok (.nx, [some (prog w m1 m2), some (.str f), some A, some (.int (l1.length : Nat)), some (.tup row), some (.ref S.length), o6, none, none]) Sm := by
    rw [evC_forr, evIt_rng1 (j := (l1.length : Nat)) (S1 := S ++ feed0 w m1 m2 S.length f ys) (by simp) hA hB, Int.toNat_natCast]
    exact g1
  have s3 : evC (gam TT (phi TT (k + 3)) (phi TT (k + 2))) (.forr (.tp [.nm 6, .nm 7]) (.enm (.var 4)) ha2) [some (prog w m1 m2), some (.str f), some A, some (.int (l1.length : Nat)), some (.tup row), some (.ref S.length), o6, none, none] Sm = .ok (.nx, [some (prog w m1 m2), some (.str f), some A, some (.int (l1.length : Nat)), some (.tup row), some (.ref S.length), o6', o7', o8']) S' := by
    rw [evC_forr, evIt_enm, ev_var]
    exact g2
  have s4 : evC (gam TT (phi TT (k + 3)) (phi TT (k + 2))) (.ret (.cmp .isN (.meth 8 (.var 5) []) (.cst .non))) [some (prog w m1 m2), some (.str f), some A, some (.int (l1.length : Nat)), some (.tup row), some (.ref S.length), o6', o7', o8'] S' = .ok (.rt (.bl true), [some (prog w m1 m2), some (.str f), some A, some (.int (l1.length : Nat)), some (.tup row), some (.ref S.length), o6', o7', o8']) S' := by
    simp [hins, mt_bead, p_bead_non f'.f]
  have e2 : runF (gam TT (phi TT (k + 3)) (phi TT (k + 2))) ⟨5, 9, c38⟩ [prog w m1 m2, .str f, A, .int (l1.length : Nat), .tup row] S = sweep S (.bl true) S' := by
    unfold runF
    rw [if_pos (by rfl)]
    show (evCs (gam TT (phi TT (k + 3)) (phi TT (k + 2))) c38 [some (prog w m1 m2), some (.str f), some A, some (.int (l1.length : Nat)), some (.tup row), none, none, none, none] S).bind _ = _
    rw [show evCs (gam TT (phi TT (k + 3)) (phi TT (k + 2))) c38 [some (prog w m1 m2), some (.str f), some A, some (.int (l1.length : Nat)), some (.tup row), none, none, none, none] S = _ from evCs_nx s1 (evCs_nx s2 (evCs_nx s3 (evCs_rt s4)))]
    rfl
  rw [e2]
  refine sweep_flat rfl ?_
  exact (Kp.app (Nat.le_refl _)).trans ((c1.kp (by simp)).trans (c2.kp (Nat.le_trans (by simp) c1.len)))
end
end K69
set_option Elab.async false
set_option linter.all false
set_option maxRecDepth 100000
set_option maxHeartbeats 800000
/-! NsW: the deal, draws. -/
namespace K69
open NM
theorem evCs_n {G : Gam} {c : C} {cs : List C} {ls ls1 : Ls} {S S1 : Hh} {R : Res (Fl × Ls)} (h1 : evC G c ls S = .ok (.nx, ls1) S1) (h2 : evCs G cs ls1 S1 = R) : evCs G (c :: cs) ls S = R := by rw [evCs_cons, h1]; exact h2
theorem evCs_r {G : Gam} {c : C} {cs : List C} {ls ls1 : Ls} {S S1 : Hh} {v : AV} (h1 : evC G c ls S = .ok (.rt v, ls1) S1) : evCs G (c :: cs) ls S = .ok (.rt v, ls1) S1 := by rw [evCs_cons, h1]; rfl
def dlD (a b : Int) (l : Nat) : AO := .dic [([115, 101, 101, 100], .int a), ([110, 117, 109, 98, 101, 114], .int b), ([108, 101, 102, 116], .ref l)]
structure Dl (d l : Nat) (S : Hh) : Prop where
  ex : ∃ (a b : Int) (xs : List Int), S[d]? = some (dlD a b l) ∧ 0 ≤ b ∧ S[l]? = some (.lst (xs.map AV.int)) ∧ (∀ x ∈ xs, 0 ≤ x) ∧ xs.length < 1000
/-- two places may change, no other -/
structure Ch2 (d l : Nat) (S S' : Hh) : Prop where
  len : S'.length = S.length
  at_ : ∀ i, i ≠ d → i ≠ l → S'[i]? = S[i]?
theorem Ch2.refl {d l : Nat} {S : Hh} : Ch2 d l S S := ⟨rfl, fun _ _ _ => rfl⟩
theorem Ch2.trans {d l : Nat} {S S1 S2 : Hh} (a : Ch2 d l S S1) (b : Ch2 d l S1 S2) : Ch2 d l S S2 := ⟨b.len.trans a.len, fun i h h2 => (b.at_ i h h2).trans (a.at_ i h h2)⟩
theorem Ch2.setd {d l : Nat} {S : Hh} {o : AO} : Ch2 d l S (S.set d o) := ⟨by simp, fun i h _ => List.getElem?_set_ne (Ne.symm h)⟩
theorem Ch2.setl {d l : Nat} {S : Hh} {o : AO} : Ch2 d l S (S.set l o) := ⟨by simp, fun i _ h => List.getElem?_set_ne (Ne.symm h)⟩
def dc_ : T := .and (.val (.cmp .eq (.idx (.var 0) (.cst (.str [110, 117, 109, 98, 101, 114]))) (.cst (.int 0)))) (.val (.cmp .gt (.bi .len [.idx (.var 0) (.cst (.str [108, 101, 102, 116]))]) (.cst (.int 0))))
def db_ : List C := [.asg (.idx (.var 0) (.cst (.str [110, 117, 109, 98, 101, 114]))) (.bm .pop (.idx (.var 0) (.cst (.str [108, 101, 102, 116]))) [])]
theorem draw_loop {G : Gam} {d l : Nat} {o1 o2 o3 o4 : Option AV} (hdl : d ≠ l) : ∀ (n : Nat) {xs : List Int} {a b : Int} {S : Hh}, xs.length = n → S[d]? = some (dlD a b l) → 0 ≤ b → S[l]? = some (.lst (xs.map AV.int)) → (∀ x ∈ xs, 0 ≤ x) → xs.length < 1000 →
    ∃ (b' : Int) (xs' : List Int) (S' : Hh), whR (evT G dc_) (evCs G db_) [some (.ref d), o1, o2, o3, o4] S = .ok (.nx, [some (.ref d), o1, o2, o3, o4]) S' ∧ S'[d]? = some (dlD a b' l) ∧ 0 ≤ b' ∧ S'[l]? = some (.lst (xs'.map AV.int)) ∧ (∀ x ∈ xs', 0 ≤ x) ∧ xs'.length < 1000 ∧ Ch2 d l S S'
  | 0, xs, a, b, S, hn, hd, hb, hl, hx, hlen => by
    have : xs = [] := List.length_eq_zero_iff.mp hn
    subst this
    refine ⟨b, [], S, whR_done ?_, hd, hb, hl, hx, hlen, Ch2.refl⟩
    by_cases h0 : b = 0 <;> simp [dc_, hd, dlD, getD, hl, h0]
  | n + 1, xs, a, b, S, hn, hd, hb, hl, hx, hlen => by
    by_cases h0 : b = 0
    · obtain ⟨ys, x, rfl⟩ : ∃ ys x, xs = ys ++ [x] := ⟨xs.dropLast, xs.getLast (by intro z; subst z; simp at hn), (List.dropLast_concat_getLast _).symm⟩
      have i1 := inn_of hd
      have i2 := inn_of hl
      have hld : l ≠ d := Ne.symm hdl
      obtain ⟨b', xs', S', r, h1, h2, h3, h4, h5, h6⟩ := draw_loop hdl n (xs := ys) (a := a) (b := x) (S := (S.set l (.lst (ys.map AV.int))).set d (dlD a x l)) (G := G) (o1 := o1) (o2 := o2) (o3 := o3) (o4 := o4) (by simp at hn; exact hn) (by simp [i1]) (hx x (by simp)) (by simp [hdl, i2]) (fun y hy => hx y (by simp [hy])) (by simp at hlen; omega)
      refine ⟨b', xs', S', whR_next (S1 := S) (ls1 := [some (.ref d), o1, o2, o3, o4]) (S2 := (S.set l (.lst (ys.map AV.int))).set d (dlD a x l)) ?_ ?_ r, h1, h2, h3, h4, h5, (Ch2.setl.trans Ch2.setd).trans h6⟩
      · simp [dc_, hd, dlD, getD, hl, h0]
      · have hln : line = 1000000 := rfl
        simp [db_, hd, dlD, getD, hl, hdl, hld, i1, i2, putD, hln]
    · refine ⟨b, xs, S, whR_done ?_, hd, hb, hl, hx, hlen, Ch2.refl⟩
      simp [dc_, hd, dlD, getD, hl, h0]
theorem p_draw {k d l : Nat} {S : Hh} {m : Int} (h : Dl d l S) (hdl : d ≠ l) (h0 : 0 < m) (h1 : m ≤ 1000000000) : ∃ r S', phi TT (k + 2) 30 [.ref d, .int m] S = .ok (.int r) S' ∧ 0 ≤ r ∧ r < m ∧ Dl d l S' ∧ Ch2 d l S S' := by
  obtain ⟨a, b, xs, hd, hb, hl, hx, hlen⟩ := h.ex
  obtain ⟨b', xs', S1, r, g1, g2, g3, g4, g5, g6⟩ := draw_loop (G := gam TT (phi TT (k + 1)) (phi TT k)) (o1 := some (.int m)) (o2 := none) (o3 := none) (o4 := none) hdl _ rfl hd hb hl hx hlen
  have i1 := inn_of g1
  have hln : line = 1000000 := rfl
  rw [phi_at (Fc := ⟨2, 5, c30⟩) rfl]
  have hw : evC (gam TT (phi TT (k + 1)) (phi TT k)) (.whl dc_ db_) [some (.ref d), some (.int m), none, none, none] S = .ok (.nx, [some (.ref d), some (.int m), none, none, none]) S1 := by rw [evC_whl]; exact r
  simp only [dc_, db_] at hw
  by_cases hp : 0 < b'
  · refine ⟨b' % m, S1.set d (dlD a (b' / m) l), ?_, Int.emod_nonneg _ (by omega), Int.emod_lt_of_pos _ h0, ⟨a, b' / m, xs', by simp [i1], Int.ediv_nonneg g2 (by omega), by simp [hdl, g3], g4, g5⟩, g6.trans Ch2.setd⟩
    have h2 : m < 1073741824 := by omega
    have e1 : evCs (gam TT (phi TT (k + 1)) (phi TT k)) c30 [some (.ref d), some (.int m), none, none, none] S = .ok (.rt (.int (b' % m)), [some (.ref d), some (.int m), some (.int b'), none, none]) (S1.set d (dlD a (b' / m) l)) := by
      refine evCs_n hw ?_
      simp [g1, dlD, getD, hp, h0, h2, putD, hln, i1]
    unfold runF
    rw [if_pos (by rfl)]
    show (evCs (gam TT (phi TT (k + 1)) (phi TT k)) c30 [some (.ref d), some (.int m), none, none, none] S).bind _ = _
    rw [e1]
    exact sweep_any (by simp [g6.len])
  · have hz : b' = 0 := by omega
    generalize hs1 : (a * 48271 + 7919) % 2147483647 = s1
    have s1a : 0 ≤ s1 := by rw [← hs1]; exact Int.emod_nonneg _ (by decide)
    have s1b : s1 < 2147483647 := by rw [← hs1]; exact Int.emod_lt_of_pos _ (by decide)
    generalize hs2 : (s1 * 40692 + 104729) % 2147483399 = s2
    have s2a : 0 ≤ s2 := by rw [← hs2]; exact Int.emod_nonneg _ (by decide)
    have s2b : s2 < 2147483399 := by rw [← hs2]; exact Int.emod_lt_of_pos _ (by decide)
    have big : (2 : Int) ^ 64 = 18446744073709551616 := by decide
    have q1 : mulOk a 48271 = true := by simp [mulOk]
    have q2 : mulOk s1 40692 = true := by simp [mulOk]
    have q3 : mulOk s2 s2 = true := by simp only [mulOk, big, Bool.or_eq_true, Bool.and_eq_true, decide_eq_true_eq]; omega
    have q4 : mulOk s1 s1 = true := by simp only [mulOk, big, Bool.or_eq_true, Bool.and_eq_true, decide_eq_true_eq]; omega
    have q5 : ∀ z, mulOk z 2147483563 = true := fun z => by simp [mulOk]
    refine ⟨(s1 * s1 % 2147483629 * 2147483563 + s2 * s2 % 2147483563) % m, S1.set d (dlD s2 0 l), ?_, Int.emod_nonneg _ (by omega), Int.emod_lt_of_pos _ h0, ⟨s2, 0, xs', by simp [i1], by decide, by simp [hdl, g3], g4, g5⟩, g6.trans Ch2.setd⟩
    have e1 : evCs (gam TT (phi TT (k + 1)) (phi TT k)) c30 [some (.ref d), some (.int m), none, none, none] S = .ok (.rt (.int ((s1 * s1 % 2147483629 * 2147483563 + s2 * s2 % 2147483563) % m)), [some (.ref d), some (.int m), some (.int 0), some (.int s1), some (.int (s2 * s2 % 2147483563))]) (S1.set d (dlD s2 0 l)) := by
      refine evCs_n hw ?_
      simp [g1, dlD, getD, hz, h0, putD, hln, i1, q1, q2, q3, q4, q5, hs1, hs2]
    unfold runF
    rw [if_pos (by rfl)]
    show (evCs (gam TT (phi TT (k + 1)) (phi TT k)) c30 [some (.ref d), some (.int m), none, none, none] S).bind _ = _
    rw [e1]
    exact sweep_any (by simp [g6.len])
end K69
set_option Elab.async false
set_option linter.all false
set_option maxRecDepth 100000
set_option maxHeartbeats 800000
/-! NsX: figures, the deal. -/
namespace K69
open NM
/-- nothing but these places may change -/
structure Cx (ex : List Nat) (S S' : Hh) : Prop where
  len : S.length ≤ S'.length
  at_ : ∀ i, i < S.length → i ∉ ex → S'[i]? = S[i]?
theorem Cx.refl {ex : List Nat} {S : Hh} : Cx ex S S := ⟨Nat.le_refl _, fun _ _ _ => rfl⟩
theorem Cx.trans {ex : List Nat} {S S1 S2 : Hh} (a : Cx ex S S1) (b : Cx ex S1 S2) : Cx ex S S2 := ⟨Nat.le_trans a.len b.len, fun i h h2 => (b.at_ i (Nat.lt_of_lt_of_le h a.len) h2).trans (a.at_ i h h2)⟩
theorem Cx.mono {ex ex' : List Nat} {S S' : Hh} (a : Cx ex S S') (h : ∀ i, i < S.length → i ∈ ex → i ∈ ex') : Cx ex' S S' := ⟨a.len, fun i h1 h2 => a.at_ i h1 fun z => h2 (h i h1 z)⟩
theorem Cx.app {ex : List Nat} {S T : Hh} : Cx ex S (S ++ T) := ⟨by simp, fun i h _ => List.getElem?_append_left h⟩
theorem Cx.set {ex : List Nat} {S : Hh} {n : Nat} {o : AO} (h : n ∈ ex) : Cx ex S (S.set n o) := ⟨by simp, fun i _ h2 => List.getElem?_set_ne fun z => h2 (by rw [← z]; exact h)⟩
theorem Cx.get {ex : List Nat} {S S' : Hh} {i : Nat} {o : AO} (c : Cx ex S S') (hi : i ∉ ex) (h : S[i]? = some o) : S'[i]? = some o := (c.at_ i (get_lt h) hi).trans h
theorem Ch2.cx {d l : Nat} {S S' : Hh} (c : Ch2 d l S S') : Cx [d, l] S S' := ⟨Nat.le_of_eq c.len.symm, fun i _ h => c.at_ i (fun z => h (by simp [z])) fun z => h (by simp [z])⟩
theorem Dl.cx {d l : Nat} {S S' : Hh} {ex : List Nat} (h : Dl d l S) (c : Cx ex S S') (hd : d ∉ ex) (hl : l ∉ ex) : Dl d l S' := by
  obtain ⟨a, b, xs, h1, h2, h3, h4, h5⟩ := h.ex
  exact ⟨a, b, xs, c.get hd h1, h2, c.get hl h3, h4, h5⟩
theorem Dl.app {d l : Nat} {S T : Hh} (h : Dl d l S) : Dl d l (S ++ T) := h.cx (ex := []) Cx.app (by simp) (by simp)
theorem sweep_or (S : Hh) (v : AV) (S' : Hh) : sweep S v S' = .ok v S ∨ sweep S v S' = .ok v S' := by
  unfold sweep
  split
  · exact .inl rfl
  · exact .inr rfl
theorem p_figure {k d l : Nat} {S : Hh} (h : Dl d l S) (hdl : d ≠ l) : ∃ (r : Int) (S' : Hh), phi TT (k + 3) 32 [.ref d] S = .ok (.int r) S' ∧ 0 ≤ r ∧ r < 1000000000 ∧ Dl d l S' ∧ Cx [d, l] S S' := by
  obtain ⟨r1, S1, e1, a1, b1, h1, c1⟩ := p_draw (k := k) (m := 1000000000) h hdl (by decide) (by decide)
  obtain ⟨r2, S2, e2, a2, b2, h2, c2⟩ := p_draw (k := k) (m := 5) (S := S1 ++ [.lst [.int 0, .int 1, .int 2, .int 7, .int (999999999 - r1)]]) h1.app hdl (by decide) (by decide)
  have hn : S1.length ∉ [d, l] := by
    obtain ⟨a, b, xs, g1, _, g3, _⟩ := h1.ex
    have := get_lt g1
    have := get_lt g3
    simp; omega
  have hg : S2[S1.length]? = some (.lst [.int 0, .int 1, .int 2, .int 7, .int (999999999 - r1)]) := c2.cx.get hn (by simp)
  have cc : Cx [d, l] S S2 := (c1.cx.trans Cx.app).trans c2.cx
  have key : ∃ v : Int, ixA [AV.int 0, .int 1, .int 2, .int 7, .int (999999999 - r1)] r2 = some (.int v) ∧ 0 ≤ v ∧ v < 1000000000 := by
    have : r2 = 0 ∨ r2 = 1 ∨ r2 = 2 ∨ r2 = 3 ∨ r2 = 4 := by omega
    rcases this with rfl | rfl | rfl | rfl | rfl
    · exact ⟨0, rfl, by omega, by omega⟩
    · exact ⟨1, rfl, by omega, by omega⟩
    · exact ⟨2, rfl, by omega, by omega⟩
    · exact ⟨7, rfl, by omega, by omega⟩
    · exact ⟨999999999 - r1, rfl, by omega, by omega⟩
  obtain ⟨v, hv, v1, v2⟩ := key
  have er : runF (gam TT (phi TT (k + 2)) (phi TT (k + 1))) ⟨1, 1, c32⟩ [.ref d] S = sweep S (.int v) S2 := by
    simp [runF, c32, e1, e2, hg, hv]
  rw [phi_at (Fc := ⟨1, 1, c32⟩) rfl, er]
  rcases sweep_or S (.int v) S2 with z | z <;> rw [z]
  · exact ⟨v, S, rfl, v1, v2, h, Cx.refl⟩
  · exact ⟨v, S2, rfl, v1, v2, h2, cc⟩
/-- a bead's numbers -/
def Figs (ns : List Int) : Prop := ∀ x ∈ ns, 0 ≤ x ∧ x < 1000000000
theorem figs_go {k d l D : Nat} {ls : Ls} {t : Nat} (hdl : d ≠ l) (hD : D ∉ [d, l]) (h0 : (ls.set t (some (.ref d)))[0]? = some (some (.ref d))) (hls : ∀ z : AV, (ls.set t (some z))[0]? = some (some (.ref d))) : ∀ {xs : List AV} {S : Hh} {acc : List AV}, Dl d l S → S[D]? = some (.lst acc) → acc.length + xs.length < 1000 →
    ∃ (ns : List Int) (S' : Hh), lcGo (fun x S => match asgT (.nm t) x ls S with
        | some ls' => (evTs (gam TT (phi TT (k + 3)) (phi TT (k + 2))) [] ls' S).bind fun b S => if b = true then (ev (gam TT (phi TT (k + 3)) (phi TT (k + 2))) (.call 32 [.var 0] []) ls' S).bind fun y S => .ok (some y) S else .ok none S
        | none => .bad) [] D xs S = .ok () S' ∧ ns.length = xs.length ∧ Figs ns ∧ S'[D]? = some (.lst (acc ++ ns.map AV.int)) ∧ Dl d l S' ∧ Cx [d, l, D] S S'
  | [], S, acc, h, hS, _ => ⟨[], S, by simp, rfl, fun x hx => (by simp at hx), by simpa using hS, h, Cx.refl⟩
  | x :: xs, S, acc, h, hS, hl => by
    obtain ⟨r, S1, e1, a1, b1, h1, c1⟩ := p_figure (k := k) h hdl
    have hS1 := c1.get hD hS
    have hln : line = 1000000 := rfl
    have i1 := inn_of hS1
    simp only [List.length_cons] at hl
    have hd : d ∉ [D] := fun z => hD (by simp at z; simp [z])
    have hl' : l ∉ [D] := fun z => hD (by simp at z; simp [z])
    obtain ⟨ns, S', e2, q1, q2, q3, q4, q5⟩ := figs_go hdl hD h0 hls (xs := xs) (S := S1.set D (.lst (acc ++ [.int r]))) (acc := acc ++ [.int r]) (h1.cx (ex := [D]) (Cx.set (by simp)) hd hl') (by simp [i1]) (by simp; omega)
    refine ⟨r :: ns, S', ?_, by simp [q1], fun y hy => ?_, by simpa using q3, q4, ((c1.mono (by simp; omega)).trans (Cx.set (by simp))).trans q5⟩
    · rw [lcGo_cons, if_pos (gd_nil _)]
      have : (ev (gam TT (phi TT (k + 3)) (phi TT (k + 2))) (.call 32 [.var 0] []) (ls.set t (some x)) S) = .ok (.int r) S1 := by simp [hls, e1]
      simp only [asgT_nm, evTs_nil, bind_ok, if_true, this, hS1]
      rw [if_pos (by rw [hln]; omega)]
      exact e2
    · rcases List.mem_cons.mp hy with rfl | hy
      · exact ⟨a1, b1⟩
      · exact q2 y hy
end K69
set_option Elab.async false
set_option linter.all false
set_option maxRecDepth 100000
set_option maxHeartbeats 400000
/-! NsQ: comprehensions that only map and filter. -/
namespace K69
open NM
theorem gd_set {gs : Gd} {S : Hh} {D : Nat} {o : AO} (hD : ∀ g ∈ gs, g.1 ≠ D) (h : gdOk gs S = true) : gdOk gs (S.set D o) = true := by
  induction gs with
  | nil => rfl
  | cons g gs ih =>
    obtain ⟨n, p⟩ := g
    rw [gd_cons] at h ⊢
    exact ⟨by rw [List.getElem?_set_ne (Ne.symm (hD _ List.mem_cons_self))]; exact h.1, ih (fun g hg => hD g (List.mem_cons_of_mem _ hg)) h.2⟩
theorem lcGo_pure {g : AV → Hh → Res (Option AV)} {h : AV → Option AV} {gs : Gd} {D : Nat} (hD : ∀ q ∈ gs, q.1 ≠ D) : ∀ {xs acc : List AV} {S : Hh}, (∀ x ∈ xs, ∀ S, g x S = .ok (h x) S) → gdOk gs S = true → S[D]? = some (.lst acc) → acc.length + xs.length ≤ 100000 →
    lcGo g gs D xs S = .ok () (S.set D (.lst (acc ++ xs.filterMap h)))
  | [], acc, S, _, hg, hS, _ => by
    rw [lcGo_nil, if_pos hg]
    have : S.set D (.lst (acc ++ ([] : List AV).filterMap h)) = S := by
      apply List.ext_getElem?
      intro i
      by_cases hi : D = i
      · subst hi; rw [List.getElem?_set_self (get_lt hS), hS]; simp
      · rw [List.getElem?_set_ne hi]
    rw [this]
  | x :: xs, acc, S, hx, hg, hS, hl => by
    have hln : line = 1000000 := rfl
    simp only [List.length_cons] at hl
    rw [lcGo_cons, if_pos hg, hx x List.mem_cons_self S, bind_ok]
    cases e : h x with
    | none =>
      show lcGo g gs D xs S = _
      rw [lcGo_pure hD (fun y hy => hx y (List.mem_cons_of_mem _ hy)) hg hS (by omega)]
      simp [e]
    | some y =>
      show (match S[D]? with
        | some (.lst acc) => if acc.length < line then lcGo g gs D xs (S.set D (.lst (acc ++ [y]))) else .bad
        | _ => .bad) = _
      rw [hS]
      show (if _ then _ else _) = _
      rw [if_pos (by rw [hln]; omega), lcGo_pure hD (acc := acc ++ [y]) (fun y hy => hx y (List.mem_cons_of_mem _ hy)) (gd_set hD hg) (List.getElem?_set_self (get_lt hS)) (by simp; omega)]
      simp [e]
end K69
set_option Elab.async false
set_option linter.all false
set_option maxRecDepth 100000
set_option maxHeartbeats 400000
/-! NsS: the deal. -/
namespace K69
open NM
theorem deal_go {G : Gam} {o0 o1 o3 : Option AV} {gs : Gd} {S : Hh} (hg : gdOk gs S = true) : ∀ {xs : List Int} {n : Int} {o2 : Option AV}, 0 ≤ n → (∀ x ∈ xs, 0 ≤ x) →
    ∃ (n' : Int) (o2' : Option AV), forGo (fun x ls S => match asgT (.nm 2) x ls S with | some ls' => evCs G [.asg (.nm 4) (.bin .mod (.bin .add (.bin .mul (.var 4) (.cst (.int 48271))) (.bin .mod (.var 2) (.cst (.int 2147483629)))) (.cst (.int 2147483647)))] ls' S | none => .bad) gs (xs.map AV.int) [o0, o1, o2, o3, some (.int n)] S = .ok (.nx, [o0, o1, o2', o3, some (.int n')]) S ∧ 0 ≤ n'
  | [], n, o2, hn, _ => ⟨n, o2, by simp [hg], hn⟩
  | x :: xs, n, o2, hn, hx => by
    have q1 : mulOk n 48271 = true := by simp [mulOk]
    obtain ⟨n', o2', e, h⟩ := deal_go (G := G) (o0 := o0) (o1 := o1) (o3 := o3) hg (xs := xs) (n := (n * 48271 + x % 2147483629) % 2147483647) (o2 := some (.int x)) (Int.emod_nonneg _ (by decide)) (fun y hy => hx y (List.mem_cons_of_mem _ hy))
    refine ⟨n', o2', ?_, h⟩
    rw [List.map_cons, forGo_cons, if_pos hg]
    have : (match asgT (.nm 2) (AV.int x) [o0, o1, o2, o3, some (.int n)] S with | some ls' => evCs G [.asg (.nm 4) (.bin .mod (.bin .add (.bin .mul (.var 4) (.cst (.int 48271))) (.bin .mod (.var 2) (.cst (.int 2147483629)))) (.cst (.int 2147483647)))] ls' S | none => .bad) = .ok (.nx, [o0, o1, some (.int x), o3, some (.int ((n * 48271 + x % 2147483629) % 2147483647))]) S := by simp [q1]
    rw [this, bind_ok]
    exact e
end K69
set_option Elab.async false
set_option linter.all false
set_option maxRecDepth 100000
set_option maxHeartbeats 400000
/-! NsT: the deal. -/
namespace K69
open NM
def mx (i : Int) : Int := if 0 - i > i then 0 - i else i
theorem mx_nn (i : Int) : 0 ≤ mx i := by unfold mx; split <;> omega
theorem gd_mem {gs : Gd} {S : Hh} : gdOk gs S = true ↔ ∀ q ∈ gs, S[q.1]? = some q.2 := by
  induction gs with
  | nil => simp
  | cons g gs ih =>
    obtain ⟨n, o⟩ := g
    rw [gd_cons, ih]
    simp
theorem ev_lc_pure {G : Gam} {ls : Ls} {S S1 : Hh} {elt : E} {t : Nat} {it : It} {cs : List T} {xs : List AV} {gs : Gd} {h : AV → Option AV} (hi : evIt G it ls S = .ok (xs, gs) S1) (hg : gdOk gs S1 = true)
    (hx : ∀ x ∈ xs, ∀ S, ((evTs G cs ((wipeA ls [t]).set t (some x)) S).bind fun b S => if b = true then (ev G elt ((wipeA ls [t]).set t (some x)) S).bind fun y S => .ok (some y) S else .ok none S) = .ok (h x) S) (hl : xs.length ≤ 100000) :
    ev G (.lc elt (.nm t) it cs [t]) ls S = .ok (.ref S1.length) (S1 ++ [.lst (xs.filterMap h)]) := by
  have hD : ∀ q ∈ gs, q.1 ≠ S1.length := fun q hq z => by
    have := get_lt (gd_mem.mp hg q hq)
    omega
  have hg' : gdOk gs (S1 ++ [AO.lst []]) = true := gd_mem.mpr fun q hq => get_app (gd_mem.mp hg q hq)
  rw [ev_lc, hi, bind_ok]
  have e := lcGo_pure (g := fun x S => match asgT (.nm t) x (wipeA ls [t]) S with
        | some ls' => (evTs G cs ls' S).bind fun b S => if b = true then (ev G elt ls' S).bind fun y S => .ok (some y) S else .ok none S
        | none => .bad) (h := h) (gs := gs) (D := S1.length) (xs := xs) (acc := []) (S := S1 ++ [.lst []]) hD (fun x hxm S => hx x hxm S) hg' (by simp) (by simpa using hl)
  refine (congrArg (fun z => Res.bind z fun _ S2 => Res.ok (AV.ref S1.length) S2) e).trans ?_
  simp
theorem fm_all {α β : Type} (f : α → β) : ∀ xs : List α, xs.filterMap (fun x => some (f x)) = xs.map f
  | [] => rfl
  | x :: xs => by simp [fm_all f xs]
def mxV : AV → AV
  | .int i => .int (mx i)
  | v => v
def bigV : AV → Option AV
  | .int i => if 1000000000000000000 ≤ i then some (.int i) else none
  | _ => none
theorem big_map : ∀ xs : List Int, (xs.map AV.int).filterMap bigV = (xs.filter fun i => decide (1000000000000000000 ≤ i)).map AV.int
  | [] => rfl
  | x :: xs => by
    by_cases h : 1000000000000000000 ≤ x
    · simp [bigV, h, big_map xs]
    · simp [bigV, h, big_map xs]
theorem p_deal {k sc : Nat} {ns : List Int} {S : Hh} (hl : ns.length ≤ 63) (hS : S[sc]? = some (.rol (ns.map AV.int))) :
    ∃ S', phi TT (k + 2) 29 [.ref sc, .int 0] S = .ok (.ref (S.length + 2)) S' ∧ Dl (S.length + 2) (S.length + 4) S' ∧ S'.length = S.length + 5 ∧ Kp S.length S S' := by
  generalize hG : gam TT (phi TT (k + 1)) (phi TT k) = G
  obtain ⟨zs, hz, hzl⟩ : ∃ zs : List Int, cutA (ns.map AV.int) (some 0) (some 63) = zs.map AV.int ∧ zs.length ≤ 63 := by
    refine ⟨cutA ns (some 0) (some 63), by simp [cutA, sIx, List.map_take, List.map_drop], ?_⟩
    simp [cutA, sIx]; omega
  generalize hy : zs.map mx = ys
  have hyn : ∀ y ∈ ys, 0 ≤ y := by
    rw [← hy]; intro y h
    obtain ⟨z, _, rfl⟩ := List.mem_map.mp h
    exact mx_nn z
  have hyl : ys.length ≤ 63 := by rw [← hy]; simpa using hzl
  generalize hls0 : [some (AV.ref sc), some (.int 0), none, none, none] = ls0
  have a0 : ls0[0]? = some (some (.ref sc)) := by rw [← hls0]; rfl
  have a1 : ls0[1]? = some (some (.int 0)) := by rw [← hls0]; rfl
  have e1 : evIt G (.val (.slc (.var 0) (some (.var 1)) (some (.cst (.int 63))))) ls0 S = .ok (zs.map AV.int, [(S.length, .lst (zs.map AV.int))]) (S ++ [.lst (zs.map AV.int)]) := by
    simp [a0, a1, hS, hz, wO_l]
  have e2 := ev_lc_pure (G := G) (ls := ls0) (elt := .bi .max2 [.var 2, .bin .sub (.cst (.int 0)) (.var 2)]) (t := 2) (cs := []) (h := fun x => some (mxV x)) e1 (by simp) (fun x hx S => by
    obtain ⟨i, _, rfl⟩ := List.mem_map.mp hx
    simp [← hls0, wipeA, mxV, mx]) (by simp; omega)
  rw [fm_all, List.map_map] at e2
  have e3 : (zs.map (mxV ∘ AV.int)) = ys.map AV.int := by rw [← hy, List.map_map]; rfl
  rw [e3] at e2
  generalize hS2 : S ++ [AO.lst (zs.map AV.int)] ++ [AO.lst (ys.map AV.int)] = S2 at e2
  have len2 : S2.length = S.length + 2 := by rw [← hS2]; simp
  have g2 : S2[S.length + 1]? = some (.lst (ys.map AV.int)) := by rw [← hS2]; simp
  have s1 : evC G (.asg (.nm 3) (.lc (.bi .max2 [.var 2, .bin .sub (.cst (.int 0)) (.var 2)]) (.nm 2) (.val (.slc (.var 0) (some (.var 1)) (some (.cst (.int 63))))) [] [2])) ls0 S = .ok (.nx, [some (.ref sc), some (.int 0), none, some (.ref (S.length + 1)), none]) S2 := by
    rw [evC_asg, e2, bind_ok]
    simp [← hls0]
  have s2 : evC G (.asg (.nm 4) (.bin .add (.cst (.int 7919)) (.var 1))) [some (.ref sc), some (.int 0), none, some (.ref (S.length + 1)), none] S2 = .ok (.nx, [some (.ref sc), some (.int 0), none, some (.ref (S.length + 1)), some (.int 7919)]) S2 := by simp
  obtain ⟨n', o2', e4, hn'⟩ := deal_go (G := G) (o0 := some (.ref sc)) (o1 := some (.int 0)) (o3 := some (.ref (S.length + 1))) (gs := [(S.length + 1, .lst (ys.map AV.int))]) (S := S2) (by simp [g2]) (xs := ys) (n := 7919) (o2 := none) (by decide) hyn
  have s3 : evC G (.forr (.nm 2) (.val (.var 3)) [.asg (.nm 4) (.bin .mod (.bin .add (.bin .mul (.var 4) (.cst (.int 48271))) (.bin .mod (.var 2) (.cst (.int 2147483629)))) (.cst (.int 2147483647)))]) [some (.ref sc), some (.int 0), none, some (.ref (S.length + 1)), some (.int 7919)] S2 = .ok (.nx, [some (.ref sc), some (.int 0), o2', some (.ref (S.length + 1)), some (.int n')]) S2 := by
    rw [evC_forr, evIt_val, ev_var]
    show (match walkOf (.ref (S.length + 1)) S2 with | some w => Res.ok w S2 | none => .bad).bind _ = _
    rw [wO_l _ g2]
    exact e4
  generalize hls3 : [some (AV.ref sc), some (.int 0), o2', some (.ref (S.length + 1)), some (.int n')] = ls3 at e4 s3
  have b3 : ls3[3]? = some (some (.ref (S.length + 1))) := by rw [← hls3]; rfl
  have b4 : ls3[4]? = some (some (.int n')) := by rw [← hls3]; rfl
  have g3 : (S2 ++ [AO.dic []])[S.length + 1]? = some (.lst (ys.map AV.int)) := get_app g2
  have e5 := ev_lc_pure (G := G) (ls := ls3) (S := S2 ++ [.dic []]) (S1 := S2 ++ [.dic []]) (it := .val (.var 3)) (xs := ys.map AV.int) (gs := [(S.length + 1, .lst (ys.map AV.int))]) (elt := .var 2) (t := 2) (cs := [.val (.cmp .ge (.var 2) (.bin .pow (.cst (.int 10)) (.cst (.int 18))))]) (h := bigV) (by
      rw [evIt_val, ev_var, b3]
      show (match walkOf (.ref (S.length + 1)) (S2 ++ [AO.dic []]) with | some w => Res.ok w (S2 ++ [AO.dic []]) | none => .bad) = _
      rw [wO_l _ g3]) (by simp only [gd_cons, gd_nil, and_true]; exact g3) (fun x hx S => by
    obtain ⟨i, _, rfl⟩ := List.mem_map.mp hx
    by_cases hi : 1000000000000000000 ≤ i
    · simp [← hls3, wipeA, bigV, hi]
    · simp [← hls3, wipeA, bigV, hi]) (by simp; omega)
  rw [big_map] at e5
  generalize hfs : (ys.filter fun i => decide (1000000000000000000 ≤ i)) = fs at e5
  have hfn : ∀ y ∈ fs, 0 ≤ y := by rw [← hfs]; intro y h; exact hyn y (List.mem_filter.mp h).1
  have hfl : fs.length ≤ 63 := by rw [← hfs]; exact Nat.le_trans (List.length_filter_le _ _) hyl
  have len3 : (S2 ++ [AO.dic []]).length = S.length + 3 := by simp [len2]
  rw [len3] at e5
  generalize hS3 : S2 ++ [AO.dic []] ++ [AO.lst (fs.map AV.int)] = S3 at e5
  have len3' : S3.length = S.length + 4 := by rw [← hS3]; simp [len2]
  have g4 : S3[S.length + 3]? = some (.lst (fs.map AV.int)) := by rw [← hS3, ← len3]; simp
  have e6 : ev G (.lrev (.lc (.var 2) (.nm 2) (.val (.var 3)) [.val (.cmp .ge (.var 2) (.bin .pow (.cst (.int 10)) (.cst (.int 18))))] [2])) ls3 (S2 ++ [.dic []]) = .ok (.ref (S.length + 4)) (S3 ++ [.lst (fs.reverse.map AV.int)]) := by
    rw [ev_lrev, e5, bind_ok]
    show (match S3[S.length + 3]? with | some (.lst xs) => NM.alloc (.lst xs.reverse) S3 | _ => .bad) = _
    rw [g4]
    simp [len3', List.map_reverse]
  have e7 : evs G [.var 4, .cst (.int 0), .lrev (.lc (.var 2) (.nm 2) (.val (.var 3)) [.val (.cmp .ge (.var 2) (.bin .pow (.cst (.int 10)) (.cst (.int 18))))] [2])] ls3 (S2 ++ [.dic []]) = .ok [.int n', .int 0, .ref (S.length + 4)] (S3 ++ [.lst (fs.reverse.map AV.int)]) := by
    rw [evs_cons, ev_var, b4]
    show Res.bind (.ok (AV.int n') (S2 ++ [.dic []])) _ = _
    rw [bind_ok, evs_cons, ev_cst, bind_ok, evs_cons, e6, bind_ok, evs_nil]
    rfl
  have g5 : (S3 ++ [AO.lst (fs.reverse.map AV.int)])[S.length + 2]? = some (.dic []) := by
    refine get_app ?_
    rw [← hS3, ← len2]
    simp
  have e8 : ev G (.dic [[115, 101, 101, 100], [110, 117, 109, 98, 101, 114], [108, 101, 102, 116]] [.var 4, .cst (.int 0), .lrev (.lc (.var 2) (.nm 2) (.val (.var 3)) [.val (.cmp .ge (.var 2) (.bin .pow (.cst (.int 10)) (.cst (.int 18))))] [2])]) ls3 S2 = .ok (.ref (S.length + 2)) ((S3 ++ [AO.lst (fs.reverse.map AV.int)]).set (S.length + 2) (dlD n' 0 (S.length + 4))) := by
    simp only [ev] 
    rw [e7, bind_ok, len2]
    show (match (S3 ++ [AO.lst (fs.reverse.map AV.int)])[S.length + 2]? with | some (.dic []) => Res.ok (AV.ref (S.length + 2)) _ | _ => .bad) = _
    rw [g5]
    simp [dlD, putD]
  have s4 : evC G (.ret (.dic [[115, 101, 101, 100], [110, 117, 109, 98, 101, 114], [108, 101, 102, 116]] [.var 4, .cst (.int 0), .lrev (.lc (.var 2) (.nm 2) (.val (.var 3)) [.val (.cmp .ge (.var 2) (.bin .pow (.cst (.int 10)) (.cst (.int 18))))] [2])])) ls3 S2 = .ok (.rt (.ref (S.length + 2)), ls3) ((S3 ++ [AO.lst (fs.reverse.map AV.int)]).set (S.length + 2) (dlD n' 0 (S.length + 4))) := by rw [evC_ret, e8, bind_ok]
  refine ⟨(S3 ++ [AO.lst (fs.reverse.map AV.int)]).set (S.length + 2) (dlD n' 0 (S.length + 4)), ?_, ⟨n', 0, fs.reverse, by rw [List.getElem?_set_self (by simp [len3'])], by decide, ?_, by simpa using hfn, by simp; omega⟩, by simp [len3'], ?_⟩
  · rw [phi_at (Fc := ⟨2, 5, c29⟩) rfl, hG]
    have er : runF G ⟨2, 5, c29⟩ [.ref sc, .int 0] S = sweep S (.ref (S.length + 2)) ((S3 ++ [AO.lst (fs.reverse.map AV.int)]).set (S.length + 2) (dlD n' 0 (S.length + 4))) := by
      unfold runF
      rw [if_pos (by rfl)]
      show (evCs G c29 [some (AV.ref sc), some (.int 0), none, none, none] S).bind _ = _
      rw [hls0, show evCs G c29 ls0 S = _ from evCs_n s1 (evCs_n s2 (evCs_n s3 (evCs_r s4)))]
      rfl
    rw [er]
    exact sweep_ref rfl
  · rw [List.getElem?_set_ne (by omega), ← len3']
    simp
  · refine Kp.trans (S1 := S3 ++ [AO.lst (fs.reverse.map AV.int)]) ?_ (Kp.set (by omega))
    rw [← hS3, ← hS2]
    simp only [List.append_assoc]
    exact Kp.app (Nat.le_refl _)
end K69
set_option Elab.async false
set_option linter.all false
set_option maxRecDepth 100000
set_option maxHeartbeats 800000
/-! NsV: words. -/
namespace K69
open NM
/-- comprehensions that look into the heap, which stands but for the list made -/
theorem lcGo_keep {g : AV → Hh → Res (Option AV)} {h : AV → AV} {gs : Gd} {S1 : Hh} (hg : gdOk gs S1 = true) : ∀ {xs acc : List AV}, (∀ x ∈ xs, ∀ acc, g x (S1 ++ [.lst acc]) = .ok (some (h x)) (S1 ++ [.lst acc])) → acc.length + xs.length ≤ 100000 →
    lcGo g gs S1.length xs (S1 ++ [.lst acc]) = .ok () (S1 ++ [.lst (acc ++ xs.map h)])
  | [], acc, _, _ => by
    have hg' : gdOk gs (S1 ++ [AO.lst acc]) = true := gd_mem.mpr fun q hq => get_app (gd_mem.mp hg q hq)
    rw [lcGo_nil, if_pos hg']
    simp
  | x :: xs, acc, hx, hl => by
    have hln : line = 1000000 := rfl
    have hg' : gdOk gs (S1 ++ [AO.lst acc]) = true := gd_mem.mpr fun q hq => get_app (gd_mem.mp hg q hq)
    simp only [List.length_cons] at hl
    rw [lcGo_cons, if_pos hg', hx x List.mem_cons_self acc, bind_ok]
    have e : (S1 ++ [AO.lst acc])[S1.length]? = some (.lst acc) := by simp
    simp only [e]
    rw [if_pos (by rw [hln]; omega), show (S1 ++ [AO.lst acc]).set S1.length (.lst (acc ++ [h x])) = S1 ++ [.lst (acc ++ [h x])] by simp, lcGo_keep hg (acc := acc ++ [h x]) (fun y hy => hx y (List.mem_cons_of_mem _ hy)) (by simp; omega)]
    simp
theorem ev_lc_keep {G : Gam} {ls : Ls} {S S1 : Hh} {elt : E} {t : Nat} {it : It} {xs : List AV} {gs : Gd} {h : AV → AV} (hi : evIt G it ls S = .ok (xs, gs) S1) (hg : gdOk gs S1 = true)
    (hx : ∀ x ∈ xs, ∀ acc, ev G elt ((wipeA ls [t]).set t (some x)) (S1 ++ [.lst acc]) = .ok (h x) (S1 ++ [.lst acc])) (hl : xs.length ≤ 100000) :
    ev G (.lc elt (.nm t) it [] [t]) ls S = .ok (.ref S1.length) (S1 ++ [.lst (xs.map h)]) := by
  rw [ev_lc, hi, bind_ok]
  have e := lcGo_keep (g := fun x S => match asgT (.nm t) x (wipeA ls [t]) S with
        | some ls' => (evTs G [] ls' S).bind fun b S => if b = true then (ev G elt ls' S).bind fun y S => .ok (some y) S else .ok none S
        | none => .bad) (h := h) (gs := gs) (S1 := S1) hg (xs := xs) (acc := []) (fun x hxm acc => by
    simp only [asgT_nm, evTs_nil, bind_ok, if_true]
    rw [hx x hxm acc]
    rfl) (by simpa using hl)
  refine (congrArg (fun z => Res.bind z fun _ S2 => Res.ok (AV.ref S1.length) S2) e).trans ?_
  simp
/-! ### letters -/
def abc : List Nat := [97, 98, 99, 100, 101, 102, 103, 104, 105, 106, 107, 108, 109, 110, 111, 112, 113, 114, 115, 116, 117, 118, 119, 120, 121, 122]
theorem abc_at (r : Int) (h0 : 0 ≤ r) (h1 : r < 26) : ixA abc r = some (97 + r.toNat) := by
  obtain ⟨n, rfl⟩ := Int.eq_ofNat_of_zero_le h0
  have : n < 26 := by omega
  have key : ∀ n : Nat, n < 26 → ixA abc (n : Int) = some (97 + (n : Int).toNat) := by decide
  exact key n this
theorem abc_len : abc.length = 26 := rfl
theorem wd_go {k d l D : Nat} {ls : Ls} {t : Nat} (hdl : d ≠ l) (hD : D ∉ [d, l]) (hls : ∀ z : AV, (ls.set t (some z))[0]? = some (some (.ref d))) (hls2 : ∀ z : AV, (ls.set t (some z))[2]? = some (some (.str abc))) : ∀ {xs : List AV} {S : Hh} {acc : List AV}, Dl d l S → S[D]? = some (.lst acc) → acc.length + xs.length < 1000 →
    ∃ (cs : List Nat) (S' : Hh), lcGo (fun x S => match asgT (.nm t) x ls S with
        | some ls' => (evTs (gam TT (phi TT (k + 2)) (phi TT (k + 1))) [] ls' S).bind fun b S => if b = true then (ev (gam TT (phi TT (k + 2)) (phi TT (k + 1))) (.idx (.var 2) (.call 30 [.var 0, .cst (.int 26)] [])) ls' S).bind fun y S => .ok (some y) S else .ok none S
        | none => .bad) [] D xs S = .ok () S' ∧ cs.length = xs.length ∧ (∀ c ∈ cs, 97 ≤ c ∧ c < 123) ∧ S'[D]? = some (.lst (acc ++ cs.map fun c => AV.str [c])) ∧ Dl d l S' ∧ Cx [d, l, D] S S'
  | [], S, acc, h, hS, _ => ⟨[], S, by simp, rfl, fun x hx => (by simp at hx), by simpa using hS, h, Cx.refl⟩
  | x :: xs, S, acc, h, hS, hl => by
    obtain ⟨r, S1, e1, a1, b1, h1, c1⟩ := p_draw (k := k) (m := 26) h hdl (by decide) (by decide)
    have hS1 := c1.cx.get hD hS
    have hln : line = 1000000 := rfl
    have i1 := inn_of hS1
    simp only [List.length_cons] at hl
    have hd : d ∉ [D] := fun z => hD (by simp at z; simp [z])
    have hl' : l ∉ [D] := fun z => hD (by simp at z; simp [z])
    obtain ⟨cs, S', e2, q1, q2, q3, q4, q5⟩ := wd_go (k := k) hdl hD hls hls2 (xs := xs) (S := S1.set D (.lst (acc ++ [AV.str [97 + r.toNat]]))) (acc := acc ++ [AV.str [97 + r.toNat]]) (h1.cx (ex := [D]) (Cx.set (by simp)) hd hl') (by simp [i1]) (by simp; omega)
    refine ⟨(97 + r.toNat) :: cs, S', ?_, by simp [q1], fun y hy => ?_, by simpa using q3, q4, ((c1.cx.mono (by simp; omega)).trans (Cx.set (by simp))).trans q5⟩
    · rw [lcGo_cons, if_pos (gd_nil _)]
      have : (ev (gam TT (phi TT (k + 2)) (phi TT (k + 1))) (.idx (.var 2) (.call 30 [.var 0, .cst (.int 26)] [])) (ls.set t (some x)) S) = .ok (.str [97 + r.toNat]) S1 := by
        have ha := abc_at r a1 b1
        have hab : abc.length ≤ line := by rw [hln]; decide
        simp only [ev_idx, ev_var, hls2, bind_ok, ev_call, evs_cons, hls, ev_cst, evs_nil, gam_fn, List.append_nil, e1, i2_s, if_pos hab, ha]
      simp only [asgT_nm, evTs_nil, bind_ok, if_true, this, hS1]
      rw [if_pos (by rw [hln]; omega)]
      exact e2
    · rcases List.mem_cons.mp hy with rfl | hy
      · omega
      · exact q2 y hy
theorem join_chars : ∀ cs : List Nat, joinN [] (cs.map fun c => [c]) = cs
  | [] => rfl
  | [c] => rfl
  | c :: b :: r => by
    have := join_chars (b :: r)
    simp only [List.map_cons] at this ⊢
    simp only [joinN, this, List.append_nil]
    rfl
theorem strs_chars : ∀ cs : List Nat, strsOf (cs.map fun c => AV.str [c]) = some (cs.map fun c => [c])
  | [] => rfl
  | c :: r => by simp [strsOf, strs_chars r]
/-- the k-th word -/
def wdF (core : List Nat) (at_ turn : Nat) (tl : List Nat) (i : Nat) : List Nat := core.take at_ ++ (97 + (turn + i) % 26) :: tl ++ core.drop at_ ++ (if i % 2 = 0 then [] else [122])
theorem wdF_at {core : List Nat} {at_ turn : Nat} {tl : List Nat} {i : Nat} (h : at_ ≤ core.length) : (wdF core at_ turn tl i)[at_]? = some (97 + (turn + i) % 26) := by
  unfold wdF
  have : (core.take at_).length = at_ := by simp; omega
  rw [List.append_assoc, List.append_assoc, List.getElem?_append_right (by omega), this]
  simp
theorem wdF_apart {core : List Nat} {at_ turn : Nat} {tl : List Nat} (h : at_ ≤ core.length) : WD (wdF core at_ turn tl) := by
  intro i j hi hj
  constructor
  · intro e
    have := congrArg (fun z => z[at_]?) e
    simp only [wdF_at h, Option.some.injEq] at this
    omega
  · intro e; rw [e]
theorem wdF_len {core : List Nat} {at_ turn : Nat} {tl : List Nat} {i : Nat} : (wdF core at_ turn tl i).length ≤ core.length + tl.length + 2 := by
  unfold wdF
  simp only [List.length_append, List.length_cons, List.length_take, List.length_drop]
  split <;> simp <;> omega
theorem wdF_chars {core : List Nat} {at_ turn : Nat} {tl : List Nat} {i : Nat} (h1 : ∀ c ∈ core, c < 128) (h2 : ∀ c ∈ tl, c < 128) : ∀ c ∈ wdF core at_ turn tl i, c < 128 := by
  intro c hc
  unfold wdF at hc
  rcases List.mem_append.mp hc with hc | hc
  · rcases List.mem_append.mp hc with hc | hc
    · rcases List.mem_append.mp hc with hc | hc
      · exact h1 c (List.mem_of_mem_take hc)
      · rcases List.mem_cons.mp hc with rfl | hc
        · omega
        · exact h2 c hc
    · exact h1 c (List.mem_of_mem_drop hc)
  · split at hc
    · cases hc
    · simp at hc; omega
theorem ixA_nat {α : Type} (xs : List α) (n : Nat) : ixA xs (n : Int) = xs[n]? := by
  unfold ixA
  rw [if_pos (by omega), Int.toNat_natCast]
theorem p_words {k d l : Nat} {S : Hh} (h : Dl d l S) (hdl : d ≠ l) :
    ∃ (w : Nat → List Nat) (wl : Nat) (S' : Hh), phi TT (k + 3) 31 [.ref d, .int 20] S = .ok (.ref wl) S' ∧ WD w ∧ (∀ i, (w i).length ≤ 10 ∧ ∀ c ∈ w i, c < 128) ∧ S'[wl]? = some (.lst ((List.range 20).map fun i => AV.str (w i))) ∧ wl ∉ [d, l] ∧ Dl d l S' ∧ Cx [d, l] S S' := by
  have hln : line = 1000000 := rfl
  have dn : ∀ {S}, Dl d l S → d < S.length ∧ l < S.length := fun h => by obtain ⟨a, b, xs, g1, _, g3, _⟩ := h.ex; exact ⟨get_lt g1, get_lt g3⟩
  have hab : abc.length ≤ line := by rw [hln]; decide
  generalize hG : gam TT (phi TT (k + 2)) (phi TT (k + 1)) = G
  have hGf : G.fn = phi TT (k + 2) := by rw [← hG]; rfl
  generalize hL1 : [some (AV.ref d), some (.int 20), some (.str abc), none, none, none, none, none, none] = L1
  have l10 : L1[0]? = some (some (.ref d)) := by rw [← hL1]; rfl
  have s1 : evC G (.asg (.nm 2) (.cst (.str [97, 98, 99, 100, 101, 102, 103, 104, 105, 106, 107, 108, 109, 110, 111, 112, 113, 114, 115, 116, 117, 118, 119, 120, 121, 122]))) [some (AV.ref d), some (.int 20), none, none, none, none, none, none, none] S = .ok (.nx, L1) S := by
    simp only [evC_asg, ev_cst, bind_ok, asgL_nm, ← hL1, List.set_cons_succ, List.set_cons_zero]
    rfl
  -- the core
  obtain ⟨r1, S1, e1, a1, b1, h1, c1⟩ := p_draw (k := k) (m := 6) h hdl (by decide) (by decide)
  obtain ⟨n1, rfl⟩ := Int.eq_ofNat_of_zero_le a1
  have d1 := dn h1
  have hD : S1.length ∉ [d, l] := by simp; omega
  obtain ⟨core, S2, e2, q1, q2, q3, h2, c2⟩ := wd_go (k := k) (D := S1.length) (ls := wipeA L1 [8]) (t := 8) hdl hD (by intro z; rw [← hL1]; rfl) (by intro z; rw [← hL1]; rfl) (xs := rngA 0 n1) (S := S1 ++ [.lst []]) (acc := []) h1.app (by simp) (by simp [rngA]; omega)
  have hcl : core.length = n1 := by rw [q1]; simp [rngA]
  have e3 : ev G (.lc (.idx (.var 2) (.call 30 [.var 0, .cst (.int 26)] [])) (.nm 8) (.rng [.call 30 [.var 0, .cst (.int 6)] []]) [] [8]) L1 S = .ok (.ref S1.length) S2 := by
    have x1 : evs G [.call 30 [.var 0, .cst (.int 6)] []] L1 S = .ok [.int (n1 : Int)] S1 := by
      simp only [evs_cons, ev_call, ev_var, l10, ev_cst, evs_nil, bind_ok, hGf, List.append_nil]
      rw [e1]
      rfl
    have x2 : evIt G (.rng [.call 30 [.var 0, .cst (.int 6)] []]) L1 S = .ok (rngA 0 n1, []) S1 := by
      rw [evIt_rng, x1, bind_ok]
      exact if_pos ⟨by rw [hln]; omega, by rw [hln]; omega⟩
    rw [ev_lc, x2, bind_ok, ← hG]
    exact (congrArg (fun z => Res.bind z fun _ S2 => Res.ok (AV.ref S1.length) S2) e2).trans rfl
  have q3' : S2[S1.length]? = some (.lst (core.map fun c => AV.str [c])) := by simpa using q3
  have e4 : ev G (.bm .join (.cst (.str [])) [.lc (.idx (.var 2) (.call 30 [.var 0, .cst (.int 26)] [])) (.nm 8) (.rng [.call 30 [.var 0, .cst (.int 6)] []]) [] [8]]) L1 S = .ok (.str core) S2 := by
    rw [ev_bm, ev_cst, bind_ok, if_pos (bt_join _ _), evs_cons, e3, bind_ok, evs_nil, bind_ok, bind_ok]
    show bmJoin (.str []) (.ref S1.length) S2 = _
    unfold bmJoin
    simp only [sq_r, q3', Option.bind_some, ro_l, strs_chars, join_chars]
    rw [if_pos]
    have : ((core.map fun c => [c]).map List.length).sum = core.length := by
      clear e3 e2 q1 q2 q3 q3' hcl
      induction core with
      | nil => rfl
      | cons c r ih => simp only [List.map_cons, List.sum_cons, List.length_cons, List.length_nil] at ih ⊢; omega
    rw [this, hln]
    simp
    omega
  generalize hL2 : [some (AV.ref d), some (.int 20), some (.str abc), some (.str core), none, none, none, none, none] = L2
  have s2 : evC G (.asg (.nm 3) (.bm .join (.cst (.str [])) [.lc (.idx (.var 2) (.call 30 [.var 0, .cst (.int 26)] [])) (.nm 8) (.rng [.call 30 [.var 0, .cst (.int 6)] []]) [] [8]])) L1 S = .ok (.nx, L2) S2 := by
    rw [evC_asg, e4, bind_ok, asgL_nm, bind_ok, ← hL2, ← hL1]
    rfl
  -- where, from which letter on
  obtain ⟨r3, S3, e5, a3, b3, h3, c3⟩ := p_draw (k := k) (m := (n1 : Int) + 1) h2 hdl (by omega) (by omega)
  obtain ⟨r4, S4, e6, a4, b4, h4, c4⟩ := p_draw (k := k) (m := 26) h3 hdl (by decide) (by decide)
  obtain ⟨at_, rfl⟩ := Int.eq_ofNat_of_zero_le a3
  obtain ⟨turn, rfl⟩ := Int.eq_ofNat_of_zero_le a4
  generalize hL3 : [some (AV.ref d), some (.int 20), some (.str abc), some (.str core), some (.int (at_ : Nat)), some (.int (turn : Nat)), none, none, none] = L3
  have l20 : L2[0]? = some (some (.ref d)) := by rw [← hL2]; rfl
  have l23 : L2[3]? = some (some (.str core)) := by rw [← hL2]; rfl
  have hcle : core.length ≤ line := by rw [hln]; omega
  have hn1 : n1 ≤ line := by rw [hln]; omega
  have s3 : evC G (.asg (.tp [.nm 4, .nm 5]) (.tup [.call 30 [.var 0, .bin .add (.bi .len [.var 3]) (.cst (.int 1))] [], .call 30 [.var 0, .cst (.int 26)] []])) L2 S2 = .ok (.nx, L3) S4 := by
    have x1 : ev G (.call 30 [.var 0, .bin .add (.bi .len [.var 3]) (.cst (.int 1))] []) L2 S2 = .ok (.int (at_ : Nat)) S3 := by
      simp only [ev_call, evs_cons, ev_var, l20, l23, ev_bin, ev_bi, ev_cst, evs_nil, bind_ok, hGf, List.append_nil, bi_len, lA_s, b2_addI, hcl, if_pos hn1]
      exact e5
    have x2 : ev G (.call 30 [.var 0, .cst (.int 26)] []) L2 S3 = .ok (.int (turn : Nat)) S4 := by
      simp only [ev_call, evs_cons, ev_var, l20, ev_cst, evs_nil, bind_ok, hGf, List.append_nil]
      exact e6
    rw [evC_asg, ev_tup, evs_cons, x1, bind_ok, evs_cons, x2, bind_ok, evs_nil]
    simp only [bind_ok, asgL_tp, asgT_tp, asgTs_cons, asgT_nm, asgTs_nil, Option.bind_some, ← hL3, ← hL2]
    rfl
  -- the tails
  have d4 := dn h4
  generalize hS5 : S4 ++ [AO.lst [.str [113], .str [119], .str [120], .str [122]], .lst [.str [], .str [113], .str [119], .str [120]], .lst [.ref S4.length, .ref (S4.length + 1)]] = S5
  have h5 : Dl d l S5 := by rw [← hS5]; exact h4.app
  obtain ⟨r6, S6, e7, a6, b6, h6, c6⟩ := p_draw (k := k) (m := 2) h5 hdl (by decide) (by decide)
  have hz6 : r6 = 0 ∨ r6 = 1 := by omega
  have l30 : L3[0]? = some (some (.ref d)) := by rw [← hL3]; rfl
  have l33 : L3[3]? = some (some (.str core)) := by rw [← hL3]; rfl
  have g50 : S5[S4.length]? = some (.lst [.str [113], .str [119], .str [120], .str [122]]) := by rw [← hS5]; simp
  have g51 : S5[S4.length + 1]? = some (.lst [.str [], .str [113], .str [119], .str [120]]) := by rw [← hS5]; simp
  have g52 : S5[S4.length + 2]? = some (.lst [.ref S4.length, .ref (S4.length + 1)]) := by rw [← hS5]; simp
  have g60 := c6.cx.get (by simp; omega) g50
  have g61 := c6.cx.get (by simp; omega) g51
  have g62 := c6.cx.get (by simp; omega) g52
  obtain ⟨tn, tl0, tr, ht1, ht2, ht3⟩ : ∃ (tn : Nat) (tl0 : List Nat) (tr : List AV), ev G (.idx (.lst [.lst [.cst (.str [113]), .cst (.str [119]), .cst (.str [120]), .cst (.str [122])], .lst [.cst (.str []), .cst (.str [113]), .cst (.str [119]), .cst (.str [120])]]) (.bin .mul (.call 30 [.var 0, .cst (.int 2)] []) (.bi .int [.cmp .eq (.var 3) (.cst (.str []))]))) L3 S4 = .ok (.ref tn) S6 ∧ S6[tn]? = some (.lst (.str tl0 :: tr)) ∧ (tl0 = [] ∨ tl0 = [113]) := by
    have x1 : ev G (.lst [.lst [.cst (.str [113]), .cst (.str [119]), .cst (.str [120]), .cst (.str [122])], .lst [.cst (.str []), .cst (.str [113]), .cst (.str [119]), .cst (.str [120])]]) L3 S4 = .ok (.ref (S4.length + 2)) S5 := by
      rw [← hS5]
      simp
    have x2 : ev G (.call 30 [.var 0, .cst (.int 2)] []) L3 S5 = .ok (.int r6) S6 := by
      simp only [ev_call, evs_cons, ev_var, l30, ev_cst, evs_nil, bind_ok, hGf, List.append_nil]
      exact e7
    have x3 : ev G (.bi .int [.cmp .eq (.var 3) (.cst (.str []))]) L3 S6 = .ok (.int (if (core == []) = true then 1 else 0)) S6 := by
      simp only [ev_bi, evs_cons, ev_cmp, ev_var, l33, ev_cst, evs_nil, bind_ok, c2_eq, eq2_ss, ofB_some, bi_intB, Bool.bne_false]
    have x4 : ∀ z : Int, z = 0 ∨ z = 1 → bin2 .mul (.int r6) (.int z) S6 = .ok (.int (r6 * z)) S6 := fun z hz => by
      rw [b2_mulI, if_pos]
      rcases hz6 with rfl | rfl <;> rcases hz with rfl | rfl <;> decide
    have hz : r6 * (if (core == []) = true then 1 else 0) = 0 ∨ r6 * (if (core == []) = true then 1 else 0) = 1 := by
      rcases hz6 with rfl | rfl <;> split <;> simp
    have hz0 : (if (core == []) = true then (1 : Int) else 0) = 0 ∨ (if (core == []) = true then (1 : Int) else 0) = 1 := by split <;> simp
    rcases hz with hz | hz
    · refine ⟨S4.length, [113], [.str [119], .str [120], .str [122]], ?_, g60, .inr rfl⟩
      rw [ev_idx, x1, bind_ok, ev_bin, x2, bind_ok, x3, bind_ok, x4 _ hz0, bind_ok, hz, i2_l, g62]
      rfl
    · refine ⟨S4.length + 1, [], [.str [113], .str [119], .str [120]], ?_, g61, .inl rfl⟩
      rw [ev_idx, x1, bind_ok, ev_bin, x2, bind_ok, x3, bind_ok, x4 _ hz0, bind_ok, hz, i2_l, g62]
      rfl
  generalize hL4 : [some (AV.ref d), some (.int 20), some (.str abc), some (.str core), some (.int (at_ : Nat)), some (.int (turn : Nat)), some (.ref tn), none, none] = L4
  have s4 : evC G (.asg (.nm 6) (.idx (.lst [.lst [.cst (.str [113]), .cst (.str [119]), .cst (.str [120]), .cst (.str [122])], .lst [.cst (.str []), .cst (.str [113]), .cst (.str [119]), .cst (.str [120])]]) (.bin .mul (.call 30 [.var 0, .cst (.int 2)] []) (.bi .int [.cmp .eq (.var 3) (.cst (.str []))])))) L3 S4 = .ok (.nx, L4) S6 := by
    rw [evC_asg, ht1, bind_ok, asgL_nm, bind_ok, ← hL4, ← hL3]
    rfl
  -- the letters
  have x20 : ∀ (L : Ls) (S : Hh), L[1]? = some (some (.int 20)) → evIt G (.rng [.var 1]) L S = .ok (rngA 0 20, []) S := fun L S hL => by
    simp only [evIt_rng, evs_cons, ev_var, hL, evs_nil, bind_ok]
    exact if_pos ⟨by rw [hln]; omega, by rw [hln]; omega⟩
  have e8 := ev_lc_keep (G := G) (ls := L4) (S := S6) (S1 := S6) (elt := .bin .add (.idx (.var 2) (.bin .mod (.bin .add (.var 5) (.var 8)) (.cst (.int 26)))) (.idx (.var 6) (.bin .fdiv (.var 8) (.cst (.int 26))))) (t := 8) (it := .rng [.var 1]) (xs := rngA 0 20) (gs := []) (h := fun x => match x with | .int i => .str ((97 + (turn + i.toNat) % 26) :: tl0) | v => v) (x20 _ _ (by rw [← hL4]; rfl)) rfl (fun x hx acc => by
    obtain ⟨i, hi, rfl⟩ := List.mem_map.mp hx
    have hi : i < 20 := List.mem_range.mp hi
    have y1 : (L4 : Ls)[2]? = some (some (.str abc)) := by rw [← hL4]; rfl
    have z : (0 : Int) + (i : Nat) = (i : Nat) := by omega
    rw [z]
    have v2 : ((wipeA L4 [8]).set 8 (some (AV.int (i : Nat))))[2]? = some (some (.str abc)) := by rw [← hL4]; rfl
    have v5 : ((wipeA L4 [8]).set 8 (some (AV.int (i : Nat))))[5]? = some (some (.int (turn : Nat))) := by rw [← hL4]; rfl
    have v6 : ((wipeA L4 [8]).set 8 (some (AV.int (i : Nat))))[6]? = some (some (.ref tn)) := by rw [← hL4]; rfl
    have v8 : ((wipeA L4 [8]).set 8 (some (AV.int (i : Nat))))[8]? = some (some (.int (i : Nat))) := by rw [← hL4]; rfl
    have m1 : ((turn : Int) + (i : Nat)) % 26 = ((turn + i) % 26 : Nat) := by omega
    have m2 : ((i : Nat) : Int) / 26 = (0 : Nat) := by omega
    have m3 := abc_at (((turn + i) % 26 : Nat) : Int) (by omega) (by omega)
    have m4 : (S6 ++ [AO.lst acc])[tn]? = some (.lst (.str tl0 :: tr)) := get_app ht2
    have m5 : [97 + (turn + i) % 26].length + tl0.length ≤ line := by rw [hln]; rcases ht3 with rfl | rfl <;> simp
    simp only [ev_bin, ev_idx, ev_var, v2, v5, v6, v8, bind_ok, b2_addI, ev_cst, b2_mod, if_pos (show (0 : Int) < 26 by decide), m1, i2_s, if_pos hab, m3, b2_fdiv, if_pos (show (0 : Int) < 26 ∧ (26 : Int) < 1073741824 by decide), m2, i2_l, m4, Option.bind_some, ro_l, ixA_nat, List.getElem?_cons_zero, b2_addS, Int.toNat_natCast, if_pos m5, List.singleton_append]) (by simp [rngA])
  generalize hS7 : S6 ++ [AO.lst ((rngA 0 20).map fun x => match x with | .int i => .str ((97 + (turn + i.toNat) % 26) :: tl0) | v => v)] = S7 at e8
  have g7 : S7[S6.length]? = some (.lst ((rngA 0 20).map fun x => match x with | .int i => .str ((97 + (turn + i.toNat) % 26) :: tl0) | v => v)) := by rw [← hS7]; simp
  have h7 : Dl d l S7 := by rw [← hS7]; exact h6.app
  generalize hL5 : [some (AV.ref d), some (.int 20), some (.str abc), some (.str core), some (.int (at_ : Nat)), some (.int (turn : Nat)), some (.ref tn), some (.ref S6.length), none] = L5
  have s5 : evC G (.asg (.nm 7) (.lc (.bin .add (.idx (.var 2) (.bin .mod (.bin .add (.var 5) (.var 8)) (.cst (.int 26)))) (.idx (.var 6) (.bin .fdiv (.var 8) (.cst (.int 26))))) (.nm 8) (.rng [.var 1]) [] [8])) L4 S6 = .ok (.nx, L5) S7 := by
    rw [evC_asg, e8, bind_ok, asgL_nm, bind_ok, ← hL5, ← hL4]
    rfl
  -- the words
  have e9 := ev_lc_keep (G := G) (ls := L5) (S := S7) (S1 := S7) (elt := .bin .add (.bin .add (.bin .add (.slc (.var 3) none (some (.var 4))) (.idx (.var 7) (.var 8))) (.slc (.var 3) (some (.var 4)) none)) (.bin .mul (.cst (.str [122])) (.bin .mod (.var 8) (.cst (.int 2))))) (t := 8) (it := .rng [.var 1]) (xs := rngA 0 20) (gs := []) (h := fun x => match x with | .int i => .str (wdF core at_ turn tl0 i.toNat) | v => v) (x20 _ _ (by rw [← hL5]; rfl)) rfl (fun x hx acc => by
    obtain ⟨i, hi, rfl⟩ := List.mem_map.mp hx
    have hi : i < 20 := List.mem_range.mp hi
    have z : (0 : Int) + (i : Nat) = (i : Nat) := by omega
    rw [z]
    have v3 : ((wipeA L5 [8]).set 8 (some (AV.int (i : Nat))))[3]? = some (some (.str core)) := by rw [← hL5]; rfl
    have v4 : ((wipeA L5 [8]).set 8 (some (AV.int (i : Nat))))[4]? = some (some (.int (at_ : Nat))) := by rw [← hL5]; rfl
    have v7 : ((wipeA L5 [8]).set 8 (some (AV.int (i : Nat))))[7]? = some (some (.ref S6.length)) := by rw [← hL5]; rfl
    have v8 : ((wipeA L5 [8]).set 8 (some (AV.int (i : Nat))))[8]? = some (some (.int (i : Nat))) := by rw [← hL5]; rfl
    have m1 : ((rngA 0 20).map fun x => match x with | .int i => AV.str ((97 + (turn + i.toNat) % 26) :: tl0) | v => v)[i]? = some (.str ((97 + (turn + i) % 26) :: tl0)) := by
      rw [List.getElem?_map]
      have : (rngA 0 20)[i]? = some (.int (i : Nat)) := by simp [rngA, hi]
      rw [this]
      rfl
    have m4 : (S7 ++ [AO.lst acc])[S6.length]? = some (.lst ((rngA 0 20).map fun x => match x with | .int i => .str ((97 + (turn + i.toNat) % 26) :: tl0) | v => v)) := get_app g7
    have hat : (0 : Int) ≤ (at_ : Nat) ∧ core.length ≤ line := ⟨by omega, hcle⟩
    have htl : tl0.length ≤ 1 := by rcases ht3 with rfl | rfl <;> simp
    have l1 : (core.take at_).length + ((97 + (turn + i) % 26) :: tl0).length ≤ line := by rw [hln]; simp; omega
    have l2 : (core.take at_ ++ (97 + (turn + i) % 26) :: tl0).length + (core.drop at_).length ≤ line := by rw [hln]; simp; omega
    have m2 : ((i : Nat) : Int) % 2 = (i % 2 : Nat) := by omega
    have m3 : [122].length ≤ 1 ∧ (0 : Int) ≤ (i % 2 : Nat) ∧ ((i % 2 : Nat) : Int) ≤ 1 := ⟨by decide, by omega, by omega⟩
    have m6 : (List.replicate (i % 2) [122]).flatten = if i % 2 = 0 then [] else [122] := by
      have : i % 2 = 0 ∨ i % 2 = 1 := by omega
      rcases this with h | h <;> rw [h] <;> rfl
    have l3 : (core.take at_ ++ (97 + (turn + i) % 26) :: tl0 ++ core.drop at_).length + (if i % 2 = 0 then [] else [122]).length ≤ line := by rw [hln]; split <;> simp <;> omega
    simp only [ev_bin, ev_slc, ev_idx, ev_var, v3, v4, v7, v8, bind_ok, evO_none, evO_some, s2_s1, s2_s2, if_pos hat, i2_l, m4, Option.bind_some, ro_l, ixA_nat, m1, b2_addS, Int.toNat_natCast, if_pos l1, if_pos l2, ev_cst, b2_mod, if_pos (show (0 : Int) < 2 by decide), m2, b2_mulS, if_pos m3, m6, if_pos l3]
    rfl) (by simp [rngA])
  have e10 : ((rngA 0 20).map fun x => match x with | .int i => AV.str (wdF core at_ turn tl0 i.toNat) | v => v) = (List.range 20).map fun i => AV.str (wdF core at_ turn tl0 i) := by
    unfold rngA
    rw [List.map_map]
    apply List.map_congr_left
    intro i _
    have z : (0 : Int) + (i : Nat) = (i : Nat) := by omega
    show AV.str (wdF core at_ turn tl0 ((0 : Int) + (i : Nat)).toNat) = _
    rw [z, Int.toNat_natCast]
  rw [e10] at e9
  have s6 := evC_ret G L5 S7 (.lc (.bin .add (.bin .add (.bin .add (.slc (.var 3) none (some (.var 4))) (.idx (.var 7) (.var 8))) (.slc (.var 3) (some (.var 4)) none)) (.bin .mul (.cst (.str [122])) (.bin .mod (.var 8) (.cst (.int 2))))) (.nm 8) (.rng [.var 1]) [] [8])
  rw [e9, bind_ok] at s6
  have er : runF G ⟨2, 9, c31⟩ [.ref d, .int 20] S = sweep S (.ref S7.length) (S7 ++ [.lst ((List.range 20).map fun i => AV.str (wdF core at_ turn tl0 i))]) := by
    unfold runF
    rw [if_pos (by rfl)]
    show (evCs G c31 [some (AV.ref d), some (.int 20), none, none, none, none, none, none, none] S).bind _ = _
    rw [show evCs G c31 [some (AV.ref d), some (.int 20), none, none, none, none, none, none, none] S = _ from evCs_n s1 (evCs_n s2 (evCs_n s3 (evCs_n s4 (evCs_n s5 (evCs_r s6)))))]
    rfl
  have hle : at_ ≤ core.length := by omega
  have d7 := dn h7
  refine ⟨wdF core at_ turn tl0, S7.length, S7 ++ [.lst ((List.range 20).map fun i => AV.str (wdF core at_ turn tl0 i))], ?_, wdF_apart hle, fun i => ⟨?_, wdF_chars (fun c hc => by have := q2 c hc; omega) (fun c hc => by rcases ht3 with rfl | rfl <;> simp at hc; omega)⟩, by simp, by simp; omega, h7.app, ?_⟩
  · rw [phi_at (Fc := ⟨2, 9, c31⟩) rfl, hG, er]
    exact sweep_ref rfl
  · have := wdF_len (core := core) (at_ := at_) (turn := turn) (tl := tl0) (i := i)
    have htl : tl0.length ≤ 1 := by rcases ht3 with rfl | rfl <;> simp
    omega
  · have x1 : Cx [d, l] S S2 := (((c1.cx.mono (ex' := [d, l, S1.length]) (by simp; omega)).trans Cx.app).trans c2).mono (fun i hi hm => by have := c1.len; simp at hm ⊢; omega)
    have x2 : Cx [d, l] S4 S5 := by rw [← hS5]; exact Cx.app
    have x3 : Cx [d, l] S6 S7 := by rw [← hS7]; exact Cx.app
    exact ((((((x1.trans c3.cx).trans c4.cx).trans x2).trans c6.cx).trans x3)).trans Cx.app
end K69
set_option Elab.async false
set_option linter.all false
set_option maxRecDepth 100000
set_option maxHeartbeats 800000
/-! NsB: beads told. -/
namespace K69
open NM PySem
theorem int_len {i : Int} (h0 : 0 ≤ i) (h1 : i < 1000000000) : (Str.ofString (toString i)).length ≤ 10 := by
  rw [ofString_length]
  exact int_text_length_le10 (k := 9) (by decide) (by omega)
theorem str_len {nm : List Nat} (h1 : nm.length ≤ 10) (h2 : ∀ c ∈ nm, c < 128) : (reprText ⟨nm.toArray⟩).length ≤ 102 := by
  have := StrLaws.reprText_len (⟨nm.toArray⟩ : PySem.Str) (fun c hc => by
    have := h2 c (by simpa using hc)
    have h3 : (128 : Nat) < 16 ^ 8 := by decide
    omega)
  have e : (⟨nm.toArray⟩ : PySem.Str).length = nm.length := by simp [Str.length]
  rw [e] at this
  omega
theorem int_log {i : Int} (h0 : 0 ≤ i) (h1 : i < 1000000000) : i.natAbs.log2 < 1920 := by
  have h : i.natAbs < 2 ^ 1920 := by
    have h3 : (1000000000 : Nat) < 2 ^ 1920 := by decide
    omega
  by_cases hz : i.natAbs = 0
  · rw [hz]; decide
  · exact (Nat.log2_lt hz).mpr h
theorem two_len (a b : PySem.Str) : (a ++ b).length = a.length + b.length := strLen_append a b
theorem okb {nm : List Nat} {ns : List Int} (h1 : nm.length ≤ 10) (h2 : ∀ c ∈ nm, c < 128) (hn : ns.length ≤ 2) (hf : Figs ns) : Okb (.tup (.str nm :: ns.map AV.int)) := by
  have hln : line = 1000000 := rfl
  have hs := str_len h1 h2
  have hok : PyData.strOk ⟨nm.toArray⟩ = true := by
    simp [PyData.strOk]
    intro c hc
    have := h2 c hc
    omega
  refine ⟨⟨(toD (.tup (.str nm :: ns.map AV.int))).shown.cps.toList, fun S => ?_⟩, ?_, rfl⟩
  · show (if _ then _ else _) = _
    rw [if_pos]
    match ns, hn, hf with
    | [], _, _ =>
      have e : (tupleText [reprText ⟨nm.toArray⟩]).length ≤ line := by
        unfold tupleText
        rw [two_len, two_len]
        show 1 + (reprText ⟨nm.toArray⟩).length + 2 ≤ _
        omega
      simp [AV.dp, dpAll, AV.atom, toD, toDs, PyData.showable, PyData.showableAll, PyData.shown, PyData.shownAll, e]
    | [x], _, hf =>
      have a := hf x (by simp)
      have l1 := int_len a.1 a.2
      have e : (tupleText [reprText ⟨nm.toArray⟩, Str.ofString (toString x)]).length ≤ line := by
        unfold tupleText
        rw [two_len, two_len]
        show 1 + (reprText ⟨nm.toArray⟩ ++ ((", " : String) : Str) ++ Str.ofString (toString x)).length + 1 ≤ _
        rw [two_len, two_len]
        have : (((", " : String) : Str)).length = 2 := rfl
        omega
      simp [AV.dp, dpAll, AV.atom, toD, toDs, PyData.showable, PyData.showableAll, PyData.shown, PyData.shownAll, int_log a.1 a.2]
      exact e
    | [x, y], _, hf =>
      have a := hf x (by simp)
      have b := hf y (by simp)
      have l1 := int_len a.1 a.2
      have l2 := int_len b.1 b.2
      have e : (tupleText [reprText ⟨nm.toArray⟩, Str.ofString (toString x), Str.ofString (toString y)]).length ≤ line := by
        unfold tupleText
        rw [two_len, two_len]
        show 1 + (reprText ⟨nm.toArray⟩ ++ ((", " : String) : Str) ++ (Str.ofString (toString x) ++ ((", " : String) : Str) ++ Str.ofString (toString y))).length + 1 ≤ _
        rw [two_len, two_len, two_len, two_len]
        have : (((", " : String) : Str)).length = 2 := rfl
        omega
      simp [AV.dp, dpAll, AV.atom, toD, toDs, PyData.showable, PyData.showableAll, PyData.shown, PyData.shownAll, int_log a.1 a.2, int_log b.1 b.2]
      exact e
  · unfold eq2
    rw [if_neg (by simp [sca, AV.atom]), if_pos]
    · match ns, hn, hf with
      | [], _, _ => simp [aeq, aeqs]
      | [x], _, _ => simp [aeq, aeqs]
      | [x, y], _, _ => simp [aeq, aeqs]
    · match ns, hn, hf with
      | [], _, _ => simp [AV.dp, dpAll, toD, toDs, SeqAt.shaped, PyData.canLay0, PyData.canLayAll0, hok, PyData.depth, PyData.depthAll]
      | [x], _, _ => simp [AV.dp, dpAll, toD, toDs, SeqAt.shaped, PyData.canLay0, PyData.canLayAll0, hok, PyData.depth, PyData.depthAll]
      | [x, y], _, _ => simp [AV.dp, dpAll, toD, toDs, SeqAt.shaped, PyData.canLay0, PyData.canLayAll0, hok, PyData.depth, PyData.depthAll]
end K69
set_option Elab.async false
set_option linter.all false
set_option maxRecDepth 100000
set_option maxHeartbeats 800000
/-! NsY: long rows. -/
namespace K69
open NM
theorem ev_rng1 {G : Gam} {es : List E} {ls : Ls} {S S1 : Hh} {j : Int} (h : evs G es ls S = .ok [.int j] S1) (h1 : -(line : Int) < j) (h2 : j < (line : Int)) : evIt G (.rng es) ls S = .ok (rngA 0 j.toNat, []) S1 := by
  rw [evIt_rng, h, bind_ok]
  exact if_pos ⟨h1, h2⟩
theorem rng_len' (n : Nat) : (rngA 0 n).length = n := by simp [rngA]
def figLc (t : Nat) (i : Nat) : E := .lc (.call 32 [.var 0] []) (.nm t) (.rng [.var i]) [] [t]
theorem ev_figs {k d l t i m : Nat} {ls : Ls} {S : Hh} (h : Dl d l S) (hdl : d ≠ l) (hm : m < 900) (hi : ls[i]? = some (some (.int (m : Nat)))) (hls : ∀ z : AV, ((wipeA ls [t]).set t (some z))[0]? = some (some (.ref d))) :
    ∃ (ns : List Int) (S' : Hh), ev (gam TT (phi TT (k + 3)) (phi TT (k + 2))) (figLc t i) ls S = .ok (.ref S.length) S' ∧ ns.length = m ∧ Figs ns ∧ S'[S.length]? = some (.lst (ns.map AV.int)) ∧ Dl d l S' ∧ Cx [d, l] S S' := by
  have hD : S.length ∉ [d, l] := by
    obtain ⟨a, b, xs, g1, _, g3, _⟩ := h.ex
    have := get_lt g1
    have := get_lt g3
    simp; omega
  have hln : line = 1000000 := rfl
  obtain ⟨ns, S', e, q1, q2, q3, q4, q5⟩ := figs_go (k := k) (D := S.length) (ls := wipeA ls [t]) (t := t) hdl hD (hls _) hls (xs := rngA 0 m) (S := S ++ [.lst []]) (acc := []) h.app (by simp) (by rw [rng_len']; simp; omega)
  refine ⟨ns, S', ?_, by rw [q1, rng_len'], q2, by simpa using q3, q4, ((Cx.app (ex := [d, l, S.length])).trans q5).mono fun i hi2 hm2 => ?_⟩
  · unfold figLc
    rw [ev_lc, ev_rng1 (j := (m : Nat)) (S1 := S) (by simp [hi]) (by rw [hln]; omega) (by rw [hln]; omega), bind_ok, Int.toNat_natCast]
    exact (congrArg (fun z => Res.bind z fun _ S2 => Res.ok (AV.ref S.length) S2) e).trans rfl
  · simp at hm2 ⊢
    omega
def lgB : List C := [.expr (.bm .append (.var 3) [.bin .add (.tup [.var 4]) (.bi .tuple [figLc 7 5])])]
/-- one bead more -/
theorem lg_step {k d l fo m : Nat} {nm : List Nat} {o1 o2 o6 o7 : Option AV} {S : Hh} {acc : List AV} (h : Dl d l S) (hdl : d ≠ l) (hm : m < 900) (hfo : fo ∉ [d, l]) (hf : S[fo]? = some (.lst acc)) (ha : acc.length < 1000) :
    ∃ (ns : List Int) (S' : Hh), evCs (gam TT (phi TT (k + 3)) (phi TT (k + 2))) lgB [some (.ref d), o1, o2, some (.ref fo), some (.str nm), some (.int (m : Nat)), o6, o7] S = .ok (.nx, [some (.ref d), o1, o2, some (.ref fo), some (.str nm), some (.int (m : Nat)), o6, o7]) S' ∧ ns.length = m ∧ Figs ns ∧ S'[fo]? = some (.lst (acc ++ [.tup (.str nm :: ns.map AV.int)])) ∧ Dl d l S' ∧ Cx [d, l, fo] S S' := by
  obtain ⟨ns, S1, e, q1, q2, q3, q4, q5⟩ := ev_figs (k := k) (t := 7) (i := 5) (m := m) (ls := [some (.ref d), o1, o2, some (.ref fo), some (.str nm), some (.int (m : Nat)), o6, o7]) h hdl hm rfl (by simp [wipeA])
  have hf1 := q5.get hfo hf
  have i1 := inn_of hf1
  have hln : line = 1000000 := rfl
  have hd : d ∉ [fo] := fun z => hfo (by simp at z; simp [z])
  have hl : l ∉ [fo] := fun z => hfo (by simp at z; simp [z])
  have hadd : bin2 .add (.tup [.str nm]) (.tup (ns.map AV.int)) S1 = .ok (.tup (.str nm :: ns.map AV.int)) S1 := by
    rw [b2_addT]
    exact if_pos (by rw [hln, List.length_map, List.length_singleton]; omega)
  have b2 : acc.length < line := by rw [hln]; omega
  refine ⟨ns, S1.set fo (.lst (acc ++ [.tup (.str nm :: ns.map AV.int)])), ?_, q1, q2, by simp [i1], q4.cx (ex := [fo]) (Cx.set (by simp)) hd hl, (q5.mono (by simp; omega)).trans (Cx.set (by simp))⟩
  have hbm : bm1 .append (.ref fo) [.tup (.str nm :: ns.map AV.int)] S1 = .ok .non (S1.set fo (.lst (acc ++ [.tup (.str nm :: ns.map AV.int)]))) := by
    rw [bm_app, hf1]
    exact if_pos b2
  generalize hG : gam TT (phi TT (k + 3)) (phi TT (k + 2)) = G at e ⊢
  generalize hls : [some (AV.ref d), o1, o2, some (.ref fo), some (.str nm), some (.int (m : Nat)), o6, o7] = ls at e ⊢
  have l3 : ls[3]? = some (some (.ref fo)) := by rw [← hls]; rfl
  have l4 : ls[4]? = some (some (.str nm)) := by rw [← hls]; rfl
  have t1 : ev G (.tup [.var 4]) ls S = .ok (.tup [.str nm]) S := by simp [l4]
  have t2 : ev G (.bi .tuple [figLc 7 5]) ls S = .ok (.tup (ns.map AV.int)) S1 := by
    rw [ev_bi, evs_cons, e]
    simp [q3]
  have t3 : ev G (.bin .add (.tup [.var 4]) (.bi .tuple [figLc 7 5])) ls S = .ok (.tup (.str nm :: ns.map AV.int)) S1 := by rw [ev_bin, t1, bind_ok, t2, bind_ok, hadd]
  have t4 : evs G [.bin .add (.tup [.var 4]) (.bi .tuple [figLc 7 5])] ls S = .ok [.tup (.str nm :: ns.map AV.int)] S1 := by rw [evs_cons, t3, bind_ok, evs_nil, bind_ok]
  have t5 : ev G (.var 3) ls S = .ok (.ref fo) S := by simp [l3]
  have t6 : bmTy .append (.ref fo) S = true := by rw [bt_app, hf]
  have t7 : ev G (.bm .append (.var 3) [.bin .add (.tup [.var 4]) (.bi .tuple [figLc 7 5])]) ls S = .ok .non (S1.set fo (.lst (acc ++ [.tup (.str nm :: ns.map AV.int)]))) := by rw [ev_bm, t5, bind_ok, if_pos t6, t4, bind_ok, hbm]
  show evCs G [_] ls S = _
  exact evCs_n (by rw [evC_expr, t7, bind_ok]) (evCs_nil G ls _)
theorem lg_go {k d l fo su m1 m2 : Nat} {w1 w2 : List Nat} {o1 o2 : Option AV} {its : List AV} (hdl : d ≠ l) (hm1 : m1 < 900) (hm2 : m2 < 900) (hfo : fo ∉ [d, l]) (hsu : su ∉ [d, l, fo]) : ∀ (r : Nat) {S : Hh} {acc : List AV} {o4 o5 o6 o7 : Option AV}, Dl d l S → S[fo]? = some (.lst acc) → S[su]? = some (.lst its) → acc.length + r < 900 →
    ∃ (os : List (List Int)) (la : List Int) (S' : Hh) (p4 p5 p6 p7 : Option AV), forGo (fun x ls S => match asgT (.tp [.nm 4, .nm 5, .nm 6]) x ls S with | some ls' => evCs (gam TT (phi TT (k + 3)) (phi TT (k + 2))) lgB ls' S | none => .bad) [(su, .lst its)] (List.replicate r (AV.tup [.str w1, .int (m1 : Nat), .bl true]) ++ [AV.tup [.str w2, .int (m2 : Nat), .bl false]]) [some (.ref d), o1, o2, some (.ref fo), o4, o5, o6, o7] S = .ok (.nx, [some (.ref d), o1, o2, some (.ref fo), p4, p5, p6, p7]) S' ∧
      os.length = r ∧ (∀ ns ∈ os, ns.length = m1 ∧ Figs ns) ∧ la.length = m2 ∧ Figs la ∧ S'[fo]? = some (.lst (acc ++ (os.map fun ns => AV.tup (.str w1 :: ns.map AV.int)) ++ [AV.tup (.str w2 :: la.map AV.int)])) ∧ Dl d l S' ∧ Cx [d, l, fo] S S'
  | 0, S, acc, o4, o5, o6, o7, h, hf, hs, ha => by
    obtain ⟨ns, S1, e, q1, q2, q3, q4, q5⟩ := lg_step (k := k) (nm := w2) (m := m2) (o1 := o1) (o2 := o2) (o6 := some (.bl false)) (o7 := o7) h hdl hm2 hfo hf (by omega)
    refine ⟨[], ns, S1, some (.str w2), some (.int (m2 : Nat)), some (.bl false), o7, ?_, rfl, fun x hx => by simp at hx, q1, q2, by simpa using q3, q4, q5⟩
    · simp only [List.replicate_zero, List.nil_append, forGo_cons]
      rw [if_pos (by simp [hs])]
      have : (match asgT (.tp [.nm 4, .nm 5, .nm 6]) (AV.tup [.str w2, .int (m2 : Nat), .bl false]) [some (.ref d), o1, o2, some (.ref fo), o4, o5, o6, o7] S with | some ls' => evCs (gam TT (phi TT (k + 3)) (phi TT (k + 2))) lgB ls' S | none => .bad) = .ok (.nx, [some (.ref d), o1, o2, some (.ref fo), some (.str w2), some (.int (m2 : Nat)), some (.bl false), o7]) S1 := by
        simp only [asgT_tp, asgTs_cons, asgT_nm, asgTs_nil, Option.bind_some, List.set_cons_succ, List.set_cons_zero]
        exact e
      rw [this, bind_ok]
      simp only [forGo_nil]
      rw [if_pos (by simp [q5.get hsu hs])]
  | r + 1, S, acc, o4, o5, o6, o7, h, hf, hs, ha => by
    obtain ⟨ns, S1, e, q1, q2, q3, q4, q5⟩ := lg_step (k := k) (nm := w1) (m := m1) (o1 := o1) (o2 := o2) (o6 := some (.bl true)) (o7 := o7) h hdl hm1 hfo hf (by omega)
    obtain ⟨os, la, S', p4, p5, p6, p7, e2, t1, t2, t3, t4, t5, t6, t7⟩ := lg_go (k := k) (w1 := w1) (w2 := w2) (o1 := o1) (o2 := o2) hdl hm1 hm2 hfo hsu r (o4 := some (.str w1)) (o5 := some (.int (m1 : Nat))) (o6 := some (.bl true)) (o7 := o7) q4 q3 (q5.get hsu hs) (by simp; omega)
    refine ⟨ns :: os, la, S', p4, p5, p6, p7, ?_, by simp [t1], fun x hx => ?_, t3, t4, by simpa using t5, t6, q5.trans t7⟩
    · rw [List.replicate_succ, List.cons_append, forGo_cons, if_pos (by simp [hs])]
      have : (match asgT (.tp [.nm 4, .nm 5, .nm 6]) (AV.tup [.str w1, .int (m1 : Nat), .bl true]) [some (.ref d), o1, o2, some (.ref fo), o4, o5, o6, o7] S with | some ls' => evCs (gam TT (phi TT (k + 3)) (phi TT (k + 2))) lgB ls' S | none => .bad) = .ok (.nx, [some (.ref d), o1, o2, some (.ref fo), some (.str w1), some (.int (m1 : Nat)), some (.bl true), o7]) S1 := by
        simp only [asgT_tp, asgTs_cons, asgT_nm, asgTs_nil, Option.bind_some, List.set_cons_succ, List.set_cons_zero]
        exact e
      rw [this, bind_ok]
      exact e2
    · rcases List.mem_cons.mp hx with rfl | hx
      · exact ⟨q1, q2⟩
      · exact t2 x hx
end K69
set_option Elab.async false
set_option linter.all false
set_option maxRecDepth 100000
set_option maxHeartbeats 800000
/-! NsZ: a long row. -/
namespace K69
open NM
theorem rep_one (r : Nat) (x : AV) : (List.replicate r [x]).flatten = List.replicate r x := by
  induction r with
  | zero => rfl
  | succ r ih => simp [List.replicate_succ, ih]
theorem p_long {k d l bl m1 m2 : Nat} {w1 w2 : List Nat} {S : Hh} {room : Int} (h : Dl d l S) (hdl : d ≠ l) (hm1 : m1 < 900) (hm2 : m2 < 900) (h0 : 0 < room) (h1 : room ≤ 60) (hb : bl ∉ [d, l]) (hbl : S[bl]? = some (.lst [AV.tup [.str w1, .int (m1 : Nat), .bl true], AV.tup [.str w2, .int (m2 : Nat), .bl false]])) :
    ∃ (os : List (List Int)) (la : List Int) (S' : Hh), phi TT (k + 4) 33 [.ref d, .ref bl, .int room] S = .ok (.tup ((os.map fun ns => AV.tup (.str w1 :: ns.map AV.int)) ++ [AV.tup (.str w2 :: la.map AV.int)])) S' ∧ os.length < 60 ∧ (∀ ns ∈ os, ns.length = m1 ∧ Figs ns) ∧ la.length = m2 ∧ Figs la ∧ Dl d l S' ∧ Cx [d, l] S S' := by
  have hln : line = 1000000 := rfl
  have dn : d < S.length := by obtain ⟨a, b, xs, g1, _, g3, _⟩ := h.ex; exact get_lt g1
  have lnn : l < S.length := by obtain ⟨a, b, xs, g1, _, g3, _⟩ := h.ex; exact get_lt g3
  have i0 := inn_of hbl
  generalize hb1 : AV.tup [.str w1, .int (m1 : Nat), .bl true] = b1 at hbl
  generalize hb2 : AV.tup [.str w2, .int (m2 : Nat), .bl false] = b2 at hbl
  obtain ⟨r, Sb, e, r0, r1, hB, cB⟩ := p_draw (k := k + 1) (S := S ++ [.lst [], .lst [b1]]) (m := room) h.app hdl h0 (by omega)
  obtain ⟨n, rfl⟩ := Int.eq_ofNat_of_zero_le r0
  have lenB : Sb.length = S.length + 2 := by rw [cB.len]; simp
  have keepB : ∀ {i : Nat} {o : AO}, i ∉ [d, l] → (S ++ [.lst [], .lst [b1]])[i]? = some o → Sb[i]? = some o := fun hi ho => cB.cx.get hi ho
  have hfo : S.length ∉ [d, l] := by simp; omega
  have g0 : Sb[S.length]? = some (.lst []) := keepB hfo (by simp)
  have g1 : Sb[S.length + 1]? = some (.lst [b1]) := keepB (by simp; omega) (by simp)
  have g2 : Sb[bl]? = some (.lst [b1, b2]) := keepB hb (by simp [i0, hbl])
  generalize hits : List.replicate n b1 ++ [b2] = its
  generalize hSc : Sb ++ [.lst (List.replicate n b1), .lst [b2], .lst its] = Sc
  have c0 : Sc[S.length]? = some (.lst []) := by rw [← hSc]; exact get_app g0
  have cs : Sc[S.length + 4]? = some (.lst its) := by rw [← hSc, show S.length + 4 = Sb.length + 2 by omega]; simp
  have hC : Dl d l Sc := by rw [← hSc]; exact hB.app
  obtain ⟨os, la, S', p4, p5, p6, p7, e2, t1, t2, t3, t4, t5, t6, t7⟩ := lg_go (k := k) (fo := S.length) (su := S.length + 4) (m1 := m1) (m2 := m2) (w1 := w1) (w2 := w2) (o1 := some (.ref bl)) (o2 := some (.int room)) (its := its) hdl hm1 hm2 hfo (by simp; omega) n (o4 := none) (o5 := none) (o6 := none) (o7 := none) hC c0 cs (by simp; omega)
  rw [hb1, hb2, hits] at e2
  have cc : Cx [d, l] S S' := by
    have x1 : Cx [d, l, S.length] S Sc := by rw [← hSc]; exact ((Cx.app).trans (cB.cx.mono (by simp; omega))).trans Cx.app
    exact (x1.trans t7).mono fun i hi hm => by simp at hm ⊢; omega
  generalize hG : gam TT (phi TT (k + 3)) (phi TT (k + 2)) = G at e2
  have hGf : G.fn = phi TT (k + 3) := by rw [← hG]; rfl
  generalize hls : [some (AV.ref d), some (.ref bl), some (.int room), some (.ref S.length), none, none, none, none] = ls at e2
  have l0 : ls[0]? = some (some (.ref d)) := by rw [← hls]; rfl
  have l1 : ls[1]? = some (some (.ref bl)) := by rw [← hls]; rfl
  have l2 : ls[2]? = some (some (.int room)) := by rw [← hls]; rfl
  have u1 : ev G (.lst [.idx (.var 1) (.cst (.int 0))]) ls (S ++ [.lst []]) = .ok (.ref (S.length + 1)) (S ++ [.lst [], .lst [b1]]) := by simp [l1, i0, hbl, ixA]
  have u2 : ev G (.call 30 [.var 0, .var 2] []) ls (S ++ [.lst [], .lst [b1]]) = .ok (.int (n : Nat)) Sb := by simp [l0, l2, hGf]; exact e
  have u3 : bin2 .mul (.ref (S.length + 1)) (.int (n : Nat)) Sb = .ok (.ref (S.length + 2)) (Sb ++ [.lst (List.replicate n b1)]) := by
    rw [b2_mulR, g1]
    show (if _ then _ else _) = _
    rw [if_pos ⟨by omega, by omega, by simp⟩, Int.toNat_natCast, rep_one, ← lenB]
    rfl
  have u4 : ev G (.lst [.idx (.var 1) (.cst (.int 1))]) ls (Sb ++ [.lst (List.replicate n b1)]) = .ok (.ref (S.length + 3)) (Sb ++ [.lst (List.replicate n b1), .lst [b2]]) := by
    simp [l1, inn_of g2, g2, ixA, lenB]
  have u5 : bin2 .add (.ref (S.length + 2)) (.ref (S.length + 3)) (Sb ++ [.lst (List.replicate n b1), .lst [b2]]) = .ok (.ref (S.length + 4)) Sc := by
    have v1 : (Sb ++ [AO.lst (List.replicate n b1), .lst [b2]])[S.length + 2]? = some (.lst (List.replicate n b1)) := by rw [← lenB]; simp
    have v2 : (Sb ++ [AO.lst (List.replicate n b1), .lst [b2]])[S.length + 3]? = some (.lst [b2]) := by rw [show S.length + 3 = Sb.length + 1 by omega]; simp
    rw [b2_addR, v1, v2]
    show (if _ then _ else _) = _
    rw [if_pos (by rw [hln, List.length_replicate, List.length_singleton]; omega), ← hSc, ← hits]
    simp [lenB]
  have s2 : evIt G (.val (.bin .add (.bin .mul (.lst [.idx (.var 1) (.cst (.int 0))]) (.call 30 [.var 0, .var 2] [])) (.lst [.idx (.var 1) (.cst (.int 1))]))) ls (S ++ [.lst []]) = .ok (its, [(S.length + 4, .lst its)]) Sc := by
    rw [evIt_val, ev_bin, ev_bin, u1, bind_ok, u2, bind_ok, u3, bind_ok, u4, bind_ok, u5, bind_ok, wO_l _ cs]
  have s3 : evC G (.forr (.tp [.nm 4, .nm 5, .nm 6]) (.val (.bin .add (.bin .mul (.lst [.idx (.var 1) (.cst (.int 0))]) (.call 30 [.var 0, .var 2] [])) (.lst [.idx (.var 1) (.cst (.int 1))]))) lgB) ls (S ++ [.lst []]) = .ok (.nx, [some (.ref d), some (.ref bl), some (.int room), some (.ref S.length), p4, p5, p6, p7]) S' := by
    rw [evC_forr, s2, bind_ok]
    exact e2
  have s1 : evC G (.asg (.nm 3) (.lst [])) [some (.ref d), some (.ref bl), some (.int room), none, none, none, none, none] S = .ok (.nx, ls) (S ++ [.lst []]) := by simp [← hls]
  have s4 : evC G (.ret (.bi .tuple [.var 3])) [some (.ref d), some (.ref bl), some (.int room), some (.ref S.length), p4, p5, p6, p7] S' = .ok (.rt (.tup ((os.map fun ns => AV.tup (.str w1 :: ns.map AV.int)) ++ [AV.tup (.str w2 :: la.map AV.int)])), [some (.ref d), some (.ref bl), some (.int room), some (.ref S.length), p4, p5, p6, p7]) S' := by
    have t5' := t5
    simp only [List.nil_append] at t5'
    simp [t5']
  have er : runF G ⟨3, 8, c33⟩ [.ref d, .ref bl, .int room] S = sweep S (.tup ((os.map fun ns => AV.tup (.str w1 :: ns.map AV.int)) ++ [AV.tup (.str w2 :: la.map AV.int)])) S' := by
    unfold runF
    rw [if_pos (by rfl)]
    show (evCs G c33 [some (.ref d), some (.ref bl), some (.int room), none, none, none, none, none] S).bind _ = _
    rw [show evCs G c33 [some (.ref d), some (.ref bl), some (.int room), none, none, none, none, none] S = _ from evCs_n s1 (evCs_n s3 (evCs_r s4))]
    rfl
  rw [phi_at (Fc := ⟨3, 8, c33⟩) rfl, show gam TT (phi TT (k + 2 + 1)) (phi TT (k + 2)) = G from hG, er]
  rcases sweep_or S (.tup ((os.map fun ns => AV.tup (.str w1 :: ns.map AV.int)) ++ [AV.tup (.str w2 :: la.map AV.int)])) S' with z | z <;> rw [z]
  · exact ⟨os, la, S, rfl, by omega, t2, t3, t4, h, Cx.refl⟩
  · exact ⟨os, la, S', rfl, by omega, t2, t3, t4, t6, cc⟩
end K69
set_option Elab.async false
set_option linter.all false
set_option maxRecDepth 100000
set_option maxHeartbeats 800000
/-! NrA: a run's steps. -/
namespace K69
open NM
section
variable {w : Nat → List Nat} {m1 m2 : Nat}
/-- a run at rest -/
def runO (w : Nat → List Nat) (m1 m2 fd : Nat) (e m : Int) (pl tk : Nat) : AO := .ins 0 [(0, shp w m1 m2), (1, .ref fd), (2, .int e), (3, .int m), (4, .ref pl), (5, .ref tk)]
def eatT (f : List Nat) (n : Nat) : AV := .tup [.str [101, 97, 116], .str f, .int n]
def mkK (bead : List Nat) (n : Nat) : AV := .tup [.str [109, 97, 107, 101], .str bead, .int n, .bl true]
theorem mt_turn : TT.mt 0 0 = some 6 := rfl
theorem mt_reat : TT.mt 0 1 = some 7 := rfl
theorem mt_goon : TT.mt 0 2 = some 8 := rfl
theorem mt_begin : TT.mt 0 3 = some 9 := rfl
theorem mt_rmake : TT.mt 0 4 = some 10 := rfl
theorem mt_reaten : TT.mt 0 5 = some 11 := rfl
theorem mt_rmade : TT.mt 0 6 = some 12 := rfl
theorem mt_rout : TT.mt 0 7 = some 13 := rfl
theorem ixA_last {α : Type} (xs : List α) (x : α) : ixA (xs ++ [x]) (-1) = some x := by
  unfold ixA
  rw [if_neg (by decide), if_pos (by simp; omega)]
  simp
/-- a run in the heap: its piled things P, its tasks T -/
structure Rs (w : Nat → List Nat) (m1 m2 b a fd pl tk : Nat) (S : Hh) (e m : Int) (P T : List AV) : Prop where
  i : S[a]? = some (runO w m1 m2 fd e m pl tk)
  d : S[fd]? = some (.dic (FD w m1 m2))
  p : S[pl]? = some (.lst P)
  t : S[tk]? = some (.lst T)
  n : pl ≠ tk
  ba : b ≤ a
  bp : b ≤ pl
  bt : b ≤ tk
/-- the part ahead of b stands, and all dicts -/
structure Rp (b : Nat) (S S' : Hh) : Prop where
  kp : Kp b S S'
  dc : ∀ (i : Nat) (kvs : List (List Nat × AV)), S[i]? = some (AO.dic kvs) → S'[i]? = some (AO.dic kvs)
theorem Rp.refl {b : Nat} {S : Hh} : Rp b S S := ⟨Kp.refl, fun _ _ h => h⟩
theorem Rp.trans {b : Nat} {S S1 S2 : Hh} (x : Rp b S S1) (y : Rp b S1 S2) : Rp b S S2 := ⟨x.kp.trans y.kp, fun i kvs h => y.dc i kvs (x.dc i kvs h)⟩
theorem Rp.app {b : Nat} {S T : Hh} (h : b ≤ S.length) : Rp b S (S ++ T) := ⟨Kp.app h, fun i kvs h => get_app h⟩
theorem Rp.setL {b n : Nat} {S : Hh} {xs : List AV} {o : AO} (h : b ≤ n) (hn : S[n]? = some (.lst xs)) : Rp b S (S.set n o) := ⟨Kp.set h, fun i kvs hi => by
  have : n ≠ i := fun z => by subst z; rw [hn] at hi; cases hi
  rw [List.getElem?_set_ne this]; exact hi⟩
theorem Rp.setI {b n C : Nat} {S : Hh} {xs : List (Nat × AV)} {o : AO} (h : b ≤ n) (hn : S[n]? = some (.ins C xs)) : Rp b S (S.set n o) := ⟨Kp.set h, fun i kvs hi => by
  have : n ≠ i := fun z => by subst z; rw [hn] at hi; cases hi
  rw [List.getElem?_set_ne this]; exact hi⟩
variable {b a fd pl tk k : Nat} {S S1 S' : Hh} {e m : Int} {P T : List AV}
theorem Rs.ai (r : Rs w m1 m2 b a fd pl tk S e m P T) : Inn S a := inn_of r.i
theorem Rs.ap (r : Rs w m1 m2 b a fd pl tk S e m P T) : a ≠ pl := fun z => by subst z; have := r.i.symm.trans r.p; cases this
theorem Rs.at' (r : Rs w m1 m2 b a fd pl tk S e m P T) : a ≠ tk := fun z => by subst z; have := r.i.symm.trans r.t; cases this
theorem Rs.af (r : Rs w m1 m2 b a fd pl tk S e m P T) : a ≠ fd := fun z => by subst z; have := r.i.symm.trans r.d; cases this
theorem Rs.pf (r : Rs w m1 m2 b a fd pl tk S e m P T) : pl ≠ fd := fun z => by subst z; have := r.p.symm.trans r.d; cases this
theorem Rs.tf (r : Rs w m1 m2 b a fd pl tk S e m P T) : tk ≠ fd := fun z => by subst z; have := r.t.symm.trans r.d; cases this
theorem Rs.len (r : Rs w m1 m2 b a fd pl tk S e m P T) : b ≤ S.length := by have := get_lt r.i; have := r.ba; omega
theorem Rs.app (r : Rs w m1 m2 b a fd pl tk S e m P T) {X : Hh} : Rs w m1 m2 b a fd pl tk (S ++ X) e m P T := ⟨get_app r.i, get_app r.d, get_app r.p, get_app r.t, r.n, r.ba, r.bp, r.bt⟩
theorem Rs.setP (r : Rs w m1 m2 b a fd pl tk S e m P T) {P' : List AV} : Rs w m1 m2 b a fd pl tk (S.set pl (.lst P')) e m P' T :=
  ⟨by rw [List.getElem?_set_ne (Ne.symm r.ap)]; exact r.i, by rw [List.getElem?_set_ne r.pf]; exact r.d, List.getElem?_set_self (get_lt r.p), by rw [List.getElem?_set_ne r.n]; exact r.t, r.n, r.ba, r.bp, r.bt⟩
theorem Rs.setT (r : Rs w m1 m2 b a fd pl tk S e m P T) {T' : List AV} : Rs w m1 m2 b a fd pl tk (S.set tk (.lst T')) e m P T' :=
  ⟨by rw [List.getElem?_set_ne (Ne.symm r.at')]; exact r.i, by rw [List.getElem?_set_ne r.tf]; exact r.d, by rw [List.getElem?_set_ne (Ne.symm r.n)]; exact r.p, List.getElem?_set_self (get_lt r.t), r.n, r.ba, r.bp, r.bt⟩
theorem Rs.setI (r : Rs w m1 m2 b a fd pl tk S e m P T) {e' m' : Int} : Rs w m1 m2 b a fd pl tk (S.set a (runO w m1 m2 fd e' m' pl tk)) e' m' P T :=
  ⟨List.getElem?_set_self (get_lt r.i), by rw [List.getElem?_set_ne r.af]; exact r.d, by rw [List.getElem?_set_ne r.ap]; exact r.p, by rw [List.getElem?_set_ne r.at']; exact r.t, r.n, r.ba, r.bp, r.bt⟩
/-! ### eat -/
theorem p_reat (hw : WD w) {al : Nat} {rest other p0 kd s0 t1 t2 : AV} {f q : List Nat} {ns : List AV} (hq : q = w 11 ∨ q = w 12) (hn : ns.length = cnt m1) (r : Rs w m1 m2 b a fd pl tk S e m P T) (hT : T.length < 100000)
    (hal : S[al]? = some (.lst [.tup [.tup (.str (w 1) :: ns), rest], other]))
    (hF : getD (FD w m1 m2) f = some (.tup [.str f, .tup [p0, .tup [.str q, kd]], s0, .tup [.tup [openN w m1, t1], .tup [lastN w m2, t2]]])) :
    phi TT (k + 3) 7 [.ref a, .str f, .ref al] S = .ok .non ((S.set a (runO w m1 m2 fd (e + 1) m pl tk)).set tk (.lst (T ++ [termW t1 (S.length + 1)])) ++ [.lst [other], .dic ((q, other) :: ((ws w m1).zip ns ++ [(w 16, rest)]))]) := by
  have hf := r.i
  have hfd := r.d
  have ht := r.t
  have hat := r.at'
  have ha := inn_of hf
  have hb := inn_of hfd
  have hc := inn_of hal
  have hd := inn_of ht
  have h1 : ¬ w 11 = w 13 := by rw [hw _ _ (by decide) (by decide)]; decide
  have h2 : ¬ w 11 = w 14 := by rw [hw _ _ (by decide) (by decide)]; decide
  have h3 : ¬ w 11 = w 16 := by rw [hw _ _ (by decide) (by decide)]; decide
  have h4 : ¬ w 12 = w 13 := by rw [hw _ _ (by decide) (by decide)]; decide
  have h5 : ¬ w 12 = w 14 := by rw [hw _ _ (by decide) (by decide)]; decide
  have h6 : ¬ w 12 = w 16 := by rw [hw _ _ (by decide) (by decide)]; decide
  have h7 : ¬ w 13 = w 14 := by rw [hw _ _ (by decide) (by decide)]; decide
  have h8 : ¬ w 13 = w 16 := by rw [hw _ _ (by decide) (by decide)]; decide
  have h9 : ¬ w 14 = w 16 := by rw [hw _ _ (by decide) (by decide)]; decide
  have hl : line = 1000000 := rfl
  have hT2 : T.length < 1000000 := by omega
  rw [phi_at (Fc := ⟨3, 20, c7⟩) rfl]
  match m1, ns, hn with
  | 0, [], _ =>
    rcases hq with rfl | rfl
    all_goals
      simp [List.lookup_cons, runF, c7, hf, runO, hfd, hF, hal, ht, hat, hT2, ixA, p_bead_of1, zipA, putD, sIx, cutA, openN, nmL, ws, wipeA, putN, termW, ha, hb, hc, hd, hl, h1, h2, h3, h4, h5, h6, h7, h8, h9]
      exact sweep_chg ha (by simp [ha, hf, hat, Ne.symm hat, runO] <;> intros <;> omega)
  | 1, [x], _ =>
    rcases hq with rfl | rfl
    all_goals
      simp [List.lookup_cons, runF, c7, hf, runO, hfd, hF, hal, ht, hat, hT2, ixA, p_bead_of1, zipA, putD, sIx, cutA, openN, nmL, ws, wipeA, putN, termW, ha, hb, hc, hd, hl, h1, h2, h3, h4, h5, h6, h7, h8, h9]
      exact sweep_chg ha (by simp [ha, hf, hat, Ne.symm hat, runO] <;> intros <;> omega)
  | m + 2, [x, y], _ =>
    rcases hq with rfl | rfl
    all_goals
      simp [List.lookup_cons, runF, c7, hf, runO, hfd, hF, hal, ht, hat, hT2, ixA, p_bead_of1, zipA, putD, sIx, cutA, openN, nmL, ws, wipeA, putN, termW, ha, hb, hc, hd, hl, h1, h2, h3, h4, h5, h6, h7, h8, h9]
      exact sweep_chg ha (by simp [ha, hf, hat, Ne.symm hat, runO] <;> intros <;> omega)
theorem p_reat' (hw : WD w) {al : Nat} {other p0 kd s0 t1 t2 : AV} {f q : List Nat} {ns : List AV} (hq : q = w 11 ∨ q = w 12) (hn : ns.length = cnt m2) (r : Rs w m1 m2 b a fd pl tk S e m P T) (hT : T.length < 100000)
    (hal : S[al]? = some (.lst [.tup [.tup (.str (w 2) :: ns), .non], other]))
    (hF : getD (FD w m1 m2) f = some (.tup [.str f, .tup [p0, .tup [.str q, kd]], s0, .tup [.tup [openN w m1, t1], .tup [lastN w m2, t2]]])) :
    phi TT (k + 3) 7 [.ref a, .str f, .ref al] S = .ok .non ((S.set a (runO w m1 m2 fd (e + 1) m pl tk)).set tk (.lst (T ++ [termW t2 (S.length + 1)])) ++ [.lst [other], .dic ((q, other) :: (ws w m2).zip ns)]) := by
  have hf := r.i
  have hfd := r.d
  have ht := r.t
  have hat := r.at'
  have ha := inn_of hf
  have hb := inn_of hfd
  have hc := inn_of hal
  have hd := inn_of ht
  have h1 : ¬ w 11 = w 13 := by rw [hw _ _ (by decide) (by decide)]; decide
  have h2 : ¬ w 11 = w 14 := by rw [hw _ _ (by decide) (by decide)]; decide
  have h4 : ¬ w 12 = w 13 := by rw [hw _ _ (by decide) (by decide)]; decide
  have h5 : ¬ w 12 = w 14 := by rw [hw _ _ (by decide) (by decide)]; decide
  have h7 : ¬ w 13 = w 14 := by rw [hw _ _ (by decide) (by decide)]; decide
  have hl : line = 1000000 := rfl
  have hT2 : T.length < 1000000 := by omega
  rw [phi_at (Fc := ⟨3, 20, c7⟩) rfl]
  match m2, ns, hn with
  | 0, [], _ =>
    rcases hq with rfl | rfl
    all_goals
      simp [List.lookup_cons, runF, c7, hf, runO, hfd, hF, hal, ht, hat, hT2, ixA, p_bead_of2 hw, zipA, putD, sIx, cutA, lastN, nmL, ws, wipeA, putN, termW, ha, hb, hc, hd, hl, h1, h2, h4, h5, h7]
      exact sweep_chg ha (by simp [ha, hf, hat, Ne.symm hat, runO] <;> intros <;> omega)
  | 1, [x], _ =>
    rcases hq with rfl | rfl
    all_goals
      simp [List.lookup_cons, runF, c7, hf, runO, hfd, hF, hal, ht, hat, hT2, ixA, p_bead_of2 hw, zipA, putD, sIx, cutA, lastN, nmL, ws, wipeA, putN, termW, ha, hb, hc, hd, hl, h1, h2, h4, h5, h7]
      exact sweep_chg ha (by simp [ha, hf, hat, Ne.symm hat, runO] <;> intros <;> omega)
  | m + 2, [x, y], _ =>
    rcases hq with rfl | rfl
    all_goals
      simp [List.lookup_cons, runF, c7, hf, runO, hfd, hF, hal, ht, hat, hT2, ixA, p_bead_of2 hw, zipA, putD, sIx, cutA, lastN, nmL, ws, wipeA, putN, termW, ha, hb, hc, hd, hl, h1, h2, h4, h5, h7]
      exact sweep_chg ha (by simp [ha, hf, hat, Ne.symm hat, runO] <;> intros <;> omega)
end
end K69
set_option Elab.async false
set_option linter.all false
set_option maxRecDepth 100000
set_option maxHeartbeats 800000
/-! NrB: a run's tasks. -/
namespace K69
open NM
theorem evCs_p {G : Gam} {c : C} {cs : List C} {ls ls1 : Ls} {S S1 : Hh} {R : Res (Fl × Ls)} (h1 : evC G c ls S = .ok (.nx, ls1) S1) (h2 : evCs G cs ls1 S1 = R) : evCs G (c :: cs) ls S = R := by rw [evCs_cons, h1]; exact h2
theorem evCs_q {G : Gam} {c : C} {cs : List C} {ls ls1 : Ls} {S S1 : Hh} {v : AV} (h1 : evC G c ls S = .ok (.rt v, ls1) S1) : evCs G (c :: cs) ls S = .ok (.rt v, ls1) S1 := by rw [evCs_cons, h1]; rfl
section
variable {w : Nat → List Nat} {m1 m2 b a fd pl tk k : Nat} {S S1 S' : Hh} {e m : Int} {P T : List AV}
theorem set_self {S : Hh} {n : Nat} {o : AO} (h : S[n]? = some o) : S.set n o = S := by
  apply List.ext_getElem?
  intro i
  by_cases hi : n = i
  · subst hi; rw [List.getElem?_set_self (get_lt h), h]
  · rw [List.getElem?_set_ne hi]
theorem sweep_tk {S X : Hh} {n : Nat} {v : AV} {xs ys : List AV} (h : S[n]? = some (.lst xs)) (hne : ys.length ≠ xs.length) : sweep S v (S.set n (.lst ys) ++ X) = .ok v (S.set n (.lst ys) ++ X) := by
  refine sweep_chg (inn_of h) ?_
  have hi := inn_of h
  rw [h]
  simp [hi]
  intro z
  exact hne (by rw [z])
/-- a name -/
theorem p_go_name {kn : Nat} {x : List Nat} {kvs : List (List Nat × AV)} {v : AV} (r : Rs w m1 m2 b a fd pl tk S e m P T) (hP : P.length < 100000) (hk : S[kn]? = some (.dic kvs)) (hx : getD kvs x = some v) :
    phi TT (k + 3) 8 [.ref a, termW (nT x) kn] S = .ok .non (S.set pl (.lst (P ++ [v]))) := by
  have hi := r.i
  have hp := r.p
  have hl : line = 1000000 := rfl
  have hP2 : P.length < 1000000 := by omega
  have e1 : phi TT (k + 2) 9 [.ref a, nT x, .ref kn] S = .ok .non (S.set pl (.lst (P ++ [v]))) := by
    rw [phi_at (Fc := ⟨3, 6, c9⟩) rfl]
    simp [runF, c9, nT, ixA, hi, hp, hk, hx, runO, List.lookup_cons, hl, hP2]
    exact sweep_any (by simp)
  rw [phi_at (Fc := ⟨2, 5, c8⟩) rfl]
  simp [runF, c8, termW, ixA, hi, runO, mt_begin, e1]
  exact sweep_any (by simp)
/-- a make of the names of the bead and a term -/
theorem p_go_make (hm : m1 = 0 ∨ m1 = 1 ∨ m1 = 2) {kn : Nat} (r : Rs w m1 m2 b a fd pl tk S e m P T) (hT : T.length < 100000) :
    phi TT (k + 3) 8 [.ref a, termW (mkT w 1 m1 (againT w)) kn] S = .ok .non (S.set tk (.lst (T ++ mkK (w 1) m1 :: termW (againT w) kn :: ((nmT w m1).map fun t => termW t kn).reverse)) ++ [.lst (nmT w m1), .lst [againT w], .lst [againT w], .lst (nmT w m1 ++ [againT w]), .lst (termW (againT w) kn :: ((nmT w m1).map fun t => termW t kn).reverse)]) := by
  have hi := r.i
  have ht := r.t
  have ha := inn_of hi
  have hd := inn_of ht
  have hl : line = 1000000 := rfl
  have hT2 : T.length < 1000000 := by omega
  have hT3 : T.length + 1 + 1 ≤ 1000000 := by omega
  have hT4 : T.length + 1 + 2 ≤ 1000000 := by omega
  have hT5 : T.length + 1 + 3 ≤ 1000000 := by omega
  have e1 : phi TT (k + 2) 9 [.ref a, mkT w 1 m1 (againT w), .ref kn] S = .ok .non (S.set tk (.lst (T ++ mkK (w 1) m1 :: termW (againT w) kn :: ((nmT w m1).map fun t => termW t kn).reverse)) ++ [.lst (nmT w m1), .lst [againT w], .lst [againT w], .lst (nmT w m1 ++ [againT w]), .lst (termW (againT w) kn :: ((nmT w m1).map fun t => termW t kn).reverse)]) := by
    have hta : tk ≠ a := Ne.symm r.at'
    have hA : (nmT w m1).length = m1 := by rcases hm with rfl | rfl | rfl <;> rfl
    have hA2 : m1 ≤ 2 := by omega
    have hgN : isNon (againT w) = false := rfl
    have fin := sweep_tk (v := .non) (X := [.lst (nmT w m1), .lst [againT w], .lst [againT w], .lst (nmT w m1 ++ [againT w]), .lst (termW (againT w) kn :: ((nmT w m1).map fun t => termW t kn).reverse)]) ht (ys := T ++ mkK (w 1) m1 :: termW (againT w) kn :: ((nmT w m1).map fun t => termW t kn).reverse) (by simp)
    rw [phi_at (Fc := ⟨3, 6, c9⟩) rfl]
    generalize hG : gam TT (phi TT (k + 1)) (phi TT k) = G
    generalize hAA : nmT w m1 = A at *
    generalize hgg : againT w = g at *
    have hmk : mkT w 1 m1 g = .tup [.str [109, 97, 107, 101], .str (w 1), .tup A, g] := by rw [← hAA]; rfl
    generalize hls : [some (AV.ref a), some (mkT w 1 m1 g), some (.ref kn), some (.str [109, 97, 107, 101]), none, none] = ls0
    have l1 : ls0[1]? = some (some (.tup [.str [109, 97, 107, 101], .str (w 1), .tup A, g])) := by rw [← hls, hmk]; rfl
    have i2 : ixA [AV.str [109, 97, 107, 101], .str (w 1), .tup A, g] 2 = some (.tup A) := rfl
    have i3 : ixA [AV.str [109, 97, 107, 101], .str (w 1), .tup A, g] 3 = some g := rfl
    have i1 : ixA [AV.str [109, 97, 107, 101], .str (w 1), .tup A, g] 1 = some (.str (w 1)) := rfl
    have x1 : ev G (.bi .list [.idx (.var 1) (.cst (.int 2))]) ls0 S = .ok (.ref S.length) (S ++ [.lst A]) := by
      simp only [ev_bi, evs_cons, ev_idx, ev_var, l1, ev_cst, bind_ok, i2_t, i2, evs_nil, bi_list, sq_t, alloc_]
    have x2 : evIt G (.val (.lst [.idx (.var 1) (.cst (.int 3))])) ls0 (S ++ [.lst A]) = .ok ([g], [(S.length + 1, .lst [g])]) (S ++ [.lst A, .lst [g]]) := by
      have y : ev G (.lst [.idx (.var 1) (.cst (.int 3))]) ls0 (S ++ [.lst A]) = .ok (.ref (S.length + 1)) (S ++ [.lst A, .lst [g]]) := by
        simp only [ev_lst, evs_cons, ev_idx, ev_var, l1, ev_cst, bind_ok, i2_t, i3, evs_nil, alloc_]
        simp
      have y2 : (S ++ [AO.lst A, .lst [g]])[S.length + 1]? = some (.lst [g]) := (get_at (n := 1) rfl).trans rfl
      rw [evIt_val, y, bind_ok, wO_l _ y2]
    have x3 := ev_lc_pure (G := G) (ls := ls0) (elt := .var 5) (t := 5) (cs := [.val (.cmp .notN (.var 5) (.cst .non))]) (h := fun x => some x) x2 (by
      have y2 : (S ++ [AO.lst A, .lst [g]])[S.length + 1]? = some (.lst [g]) := (get_at (n := 1) rfl).trans rfl
      rw [gd_cons]; exact ⟨y2, rfl⟩) (fun x hx S => by
      have hx : x = g := by simpa using hx
      subst hx
      simp [wipeA, ← hls, hgN]) (by simp)
    rw [show [g].filterMap (fun x => some x) = [g] from rfl] at x3
    have x4 : (S ++ [AO.lst A, .lst [g]] ++ [AO.lst [g]]) = S ++ [.lst A, .lst [g], .lst [g]] := by simp
    have x5 : ev G (.bin .add (.bi .list [.idx (.var 1) (.cst (.int 2))]) (.lc (.var 5) (.nm 5) (.val (.lst [.idx (.var 1) (.cst (.int 3))])) [.val (.cmp .notN (.var 5) (.cst .non))] [5])) ls0 S = .ok (.ref (S.length + 3)) (S ++ [.lst A, .lst [g], .lst [g], .lst (A ++ [g])]) := by
      have y1 : (S ++ [AO.lst A, .lst [g], .lst [g]])[S.length]? = some (.lst A) := get_at0 rfl
      have y2 : (S ++ [AO.lst A, .lst [g], .lst [g]])[S.length + 2]? = some (.lst [g]) := (get_at (n := 2) rfl).trans rfl
      have y3 : (S ++ [AO.lst A, .lst [g]]).length = S.length + 2 := by simp
      have y4 : A.length + [g].length ≤ line := by rw [hl, List.length_singleton]; omega
      rw [ev_bin, x1, bind_ok, x3, bind_ok, x4, y3, b2_addR, y1, y2]
      show (if _ then _ else _) = _
      rw [if_pos y4, alloc_]
      simp
    generalize hls2 : [some (AV.ref a), some (mkT w 1 m1 g), some (.ref kn), some (.str [109, 97, 107, 101]), some (AV.ref (S.length + 3)), none] = ls1
    have m1' : ls1[1]? = some (some (.tup [.str [109, 97, 107, 101], .str (w 1), .tup A, g])) := by rw [← hls2, hmk]; rfl
    have m0' : ls1[0]? = some (some (.ref a)) := by rw [← hls2]; rfl
    have m4' : ls1[4]? = some (some (.ref (S.length + 3))) := by rw [← hls2]; rfl
    generalize hS4 : S ++ [AO.lst A, .lst [g], .lst [g], .lst (A ++ [g])] = S4 at x5
    have hi4 : S4[a]? = some (runO w m1 m2 fd e m pl tk) := by rw [← hS4]; exact get_app hi
    have ht4 : S4[tk]? = some (.lst T) := by rw [← hS4]; exact get_app ht
    have hn4 : S4[S.length + 3]? = some (.lst (A ++ [g])) := by rw [← hS4]; exact (get_at (n := 3) rfl).trans rfl
    have hia := inn_of hi4
    have hit := inn_of ht4
    have htn : tk ≠ S.length + 3 := by have := get_lt ht; omega
    have s2 : evC G (.asg (.nm 4) (.bin .add (.bi .list [.idx (.var 1) (.cst (.int 2))]) (.lc (.var 5) (.nm 5) (.val (.lst [.idx (.var 1) (.cst (.int 3))])) [.val (.cmp .notN (.var 5) (.cst .non))] [5]))) ls0 S = .ok (.nx, ls1) S4 := by
      rw [evC_asg, x5, bind_ok, asgL_nm, bind_ok, ← hls, ← hls2]
      rfl
    have s3 : evC G (.expr (.bm .append (.fld (.var 0) 5) [.tup [.cst (.str [109, 97, 107, 101]), .idx (.var 1) (.cst (.int 1)), .bi .len [.idx (.var 1) (.cst (.int 2))], .cmp .notN (.idx (.var 1) (.cst (.int 3))) (.cst .non)]])) ls1 S4 = .ok (.nx, ls1) (S4.set tk (.lst (T ++ [mkK (w 1) m1]))) := by
      simp only [runO] at hi4
      simp [m0', m1', hi4, ht4, List.lookup_cons, i1, i2, i3, hgN, hl, hT2, hA, mkK]
    have s4 : evC G (.expr (.bm .extend (.fld (.var 0) 5) [.lc (.tup [.cst (.str [116, 101, 114, 109]), .var 5, .var 2]) (.nm 5) (.rev (.var 4)) [] [5]])) ls1 (S4.set tk (.lst (T ++ [mkK (w 1) m1]))) = .ok (.nx, ls1) (S.set tk (.lst (T ++ mkK (w 1) m1 :: termW g kn :: (A.map fun t => termW t kn).reverse)) ++ [.lst A, .lst [g], .lst [g], .lst (A ++ [g]), .lst (termW g kn :: (A.map fun t => termW t kn).reverse)]) := by
      have z1 : (S4.set tk (.lst (T ++ [mkK (w 1) m1])))[S.length + 3]? = some (.lst (A ++ [g])) := by rw [List.getElem?_set_ne htn]; exact hn4
      have z2 : (S4.set tk (.lst (T ++ [mkK (w 1) m1])))[tk]? = some (.lst (T ++ [mkK (w 1) m1])) := List.getElem?_set_self (get_lt ht4)
      have z3 : (S4.set tk (.lst (T ++ [mkK (w 1) m1])))[a]? = some (runO w m1 m2 fd e m pl tk) := by rw [List.getElem?_set_ne hta]; exact hi4
      have z0 : S4.length = S.length + 4 := by rw [← hS4]; simp
      have z4 : (S4.set tk (.lst (T ++ [mkK (w 1) m1]))).length = S.length + 4 := by rw [List.length_set, z0]
      generalize hS5 : S4.set tk (.lst (T ++ [mkK (w 1) m1])) = S5 at *
      have w1 : evIt G (.rev (.var 4)) ls1 S5 = .ok (g :: A.reverse, [(S.length + 3, .lst (A ++ [g]))]) S5 := by
        rw [evIt_rev, ev_var, m4']
        simp [z1]
      have w2 := ev_lc_pure (G := G) (ls := ls1) (elt := .tup [.cst (.str [116, 101, 114, 109]), .var 5, .var 2]) (t := 5) (cs := []) (h := fun x => some (termW x kn)) w1 (by rw [gd_cons]; exact ⟨z1, rfl⟩) (fun x hx S => by simp [wipeA, ← hls2, termW]) (by simp; omega)
      rw [fm_all, z4] at w2
      have w3 : (g :: A.reverse).map (fun x => termW x kn) = termW g kn :: (A.map fun t => termW t kn).reverse := by simp
      rw [w3] at w2
      have w4 : ev G (.fld (.var 0) 5) ls1 S5 = .ok (.ref tk) S5 := by
        simp only [runO] at z3
        simp [m0', z3, List.lookup_cons]
      have w5 : bmTy .extend (.ref tk) S5 = true := by rw [bt_ext, z2]
      have y1 : (S5 ++ [AO.lst (termW g kn :: (A.map fun t => termW t kn).reverse)])[tk]? = some (.lst (T ++ [mkK (w 1) m1])) := get_app z2
      have y2 : (S5 ++ [AO.lst (termW g kn :: (A.map fun t => termW t kn).reverse)])[S.length + 4]? = some (.lst (termW g kn :: (A.map fun t => termW t kn).reverse)) := get_at0 z4
      have y3 : (T ++ [mkK (w 1) m1]).length + (termW g kn :: (A.map fun t => termW t kn).reverse).length ≤ line := by rw [hl]; simp; omega
      have w6 : bm1 .extend (.ref tk) [.ref (S.length + 4)] (S5 ++ [AO.lst (termW g kn :: (A.map fun t => termW t kn).reverse)]) = .ok .non ((S5 ++ [AO.lst (termW g kn :: (A.map fun t => termW t kn).reverse)]).set tk (.lst (T ++ [mkK (w 1) m1] ++ termW g kn :: (A.map fun t => termW t kn).reverse))) := by
        rw [bm_ext, y1, y2]
        exact if_pos y3
      have w7 : (S5 ++ [AO.lst (termW g kn :: (A.map fun t => termW t kn).reverse)]).set tk (.lst (T ++ [mkK (w 1) m1] ++ termW g kn :: (A.map fun t => termW t kn).reverse)) = S.set tk (.lst (T ++ mkK (w 1) m1 :: termW g kn :: (A.map fun t => termW t kn).reverse)) ++ [.lst A, .lst [g], .lst [g], .lst (A ++ [g]), .lst (termW g kn :: (A.map fun t => termW t kn).reverse)] := by
        rw [← hS5, ← hS4]
        simp [hd]
      rw [evC_expr, ev_bm, w4, bind_ok, if_pos w5, evs_cons, w2, bind_ok, evs_nil, bind_ok, bind_ok, w6, bind_ok, w7]
    have s1 : evC G (.asg (.nm 3) (.idx (.var 1) (.cst (.int 0)))) [some (AV.ref a), some (mkT w 1 m1 g), some (.ref kn), none, none, none] S = .ok (.nx, ls0) S := by
      rw [hmk]
      simp [ixA, ← hls, hmk]
    have l3 : ls0[3]? = some (some (.str [109, 97, 107, 101])) := by rw [← hls]; rfl
    show runF G ⟨3, 6, c9⟩ _ S = _
    have er : ∀ {R}, (evCs G [.asg (.nm 4) (.bin .add (.bi .list [.idx (.var 1) (.cst (.int 2))]) (.lc (.var 5) (.nm 5) (.val (.lst [.idx (.var 1) (.cst (.int 3))])) [.val (.cmp .notN (.var 5) (.cst .non))] [5])), .expr (.bm .append (.fld (.var 0) 5) [.tup [.cst (.str [109, 97, 107, 101]), .idx (.var 1) (.cst (.int 1)), .bi .len [.idx (.var 1) (.cst (.int 2))], .cmp .notN (.idx (.var 1) (.cst (.int 3))) (.cst .non)]]), .expr (.bm .extend (.fld (.var 0) 5) [.lc (.tup [.cst (.str [116, 101, 114, 109]), .var 5, .var 2]) (.nm 5) (.rev (.var 4)) [] [5]])] ls0 S = .ok (.nx, ls1) R) → runF G ⟨3, 6, c9⟩ [.ref a, mkT w 1 m1 g, .ref kn] S = sweep S .non R := by
      intro R hR
      unfold runF
      rw [if_pos (by rfl)]
      show (evCs G c9 [some (AV.ref a), some (mkT w 1 m1 g), some (.ref kn), none, none, none] S).bind _ = _
      unfold c9
      rw [evCs_p s1 rfl, evCs_cons, evC_ifs]
      simp only [evT_val, ev_cmp, ev_var, l3, ev_cst, bind_ok, c2_eq, eq2_ss, ofB_some, tru_b]
      rw [if_neg (by decide)]
      simp only [evCs_cons, evC_ifs, evT_val, ev_cmp, ev_var, l3, ev_cst, bind_ok, c2_eq, eq2_ss, ofB_some, tru_b] at hR ⊢
      rw [if_neg (by decide), if_neg (by decide), if_pos (by decide)]
      rw [hR]
      rfl
    rw [er (evCs_p s2 (evCs_p s3 (evCs_p s4 (evCs_nil _ _ _))))]
    exact fin
  have fin := sweep_tk (v := .non) (X := [.lst (nmT w m1), .lst [againT w], .lst [againT w], .lst (nmT w m1 ++ [againT w]), .lst (termW (againT w) kn :: ((nmT w m1).map fun t => termW t kn).reverse)]) ht (ys := T ++ mkK (w 1) m1 :: termW (againT w) kn :: ((nmT w m1).map fun t => termW t kn).reverse) (by simp)
  generalize S.set tk (.lst (T ++ mkK (w 1) m1 :: termW (againT w) kn :: ((nmT w m1).map fun t => termW t kn).reverse)) ++ [AO.lst (nmT w m1), .lst [againT w], .lst [againT w], .lst (nmT w m1 ++ [againT w]), .lst (termW (againT w) kn :: ((nmT w m1).map fun t => termW t kn).reverse)] = S2 at *
  rw [phi_at (Fc := ⟨2, 5, c8⟩) rfl]
  simp only [runO] at hi
  simp [runF, c8, termW, ixA, hi, mt_begin, e1, fin]
/-- the call -/
theorem p_go_call {kn : Nat} (r : Rs w m1 m2 b a fd pl tk S e m P T) (hT : T.length < 100000) :
    phi TT (k + 3) 8 [.ref a, termW (againT w) kn] S = .ok .non (S.set tk (.lst (T ++ [eatT (w 3) 2, termW (nT (w 11)) kn, termW (nT (w 16)) kn])) ++ [.lst [termW (nT (w 11)) kn, termW (nT (w 16)) kn]]) := by
  have hi := r.i
  have ht := r.t
  have ha := inn_of hi
  have hd := inn_of ht
  have hl : line = 1000000 := rfl
  have hT2 : T.length < 1000000 := by omega
  have hT4 : T.length + 1 + 2 ≤ 1000000 := by omega
  have e1 : phi TT (k + 2) 9 [.ref a, againT w, .ref kn] S = .ok .non (S.set tk (.lst (T ++ [eatT (w 3) 2, termW (nT (w 11)) kn, termW (nT (w 16)) kn])) ++ [.lst [termW (nT (w 11)) kn, termW (nT (w 16)) kn]]) := by
    have hta : tk ≠ a := Ne.symm r.at'
    have fin := sweep_tk (v := .non) (X := [.lst [termW (nT (w 11)) kn, termW (nT (w 16)) kn]]) ht (ys := T ++ [eatT (w 3) 2, termW (nT (w 11)) kn, termW (nT (w 16)) kn]) (by simp)
    rw [phi_at (Fc := ⟨3, 6, c9⟩) rfl]
    simp only [runO] at hi
    refine Eq.trans ?_ fin
    simp [runF, c9, nT, againT, ixA, hi, ht, List.lookup_cons, hl, hT2, hT4, ha, hd, hta, wipeA, eatT, termW]
  have fin := sweep_tk (v := .non) (X := [.lst [termW (nT (w 11)) kn, termW (nT (w 16)) kn]]) ht (ys := T ++ [eatT (w 3) 2, termW (nT (w 11)) kn, termW (nT (w 16)) kn]) (by simp)
  generalize S.set tk (.lst (T ++ [eatT (w 3) 2, termW (nT (w 11)) kn, termW (nT (w 16)) kn])) ++ [AO.lst [termW (nT (w 11)) kn, termW (nT (w 16)) kn]] = S2 at *
  rw [phi_at (Fc := ⟨2, 5, c8⟩) rfl]
  simp only [runO] at hi
  simp [runF, c8, termW, ixA, hi, mt_begin, e1, fin]
theorem cut_to {α : Type} (N ns : List α) : cutA (N ++ ns) none (some (N.length : Nat)) = N := by simp [cutA, sIx]
theorem cut_from {α : Type} (N ns : List α) : cutA (N ++ ns) (some (N.length : Nat)) none = ns := by
  unfold cutA
  simp only [sIx]
  rw [List.take_of_length_le (Nat.le_refl _)]
  simp
/-- a bead is made -/
theorem p_rmake {N ns : List AV} {rest : AV} {bd : List Nat} (r : Rs w m1 m2 b a fd pl tk S e m (N ++ ns ++ [rest]) T) (hP : N.length + ns.length < 100000) :
    phi TT (k + 2) 10 [.ref a, .str bd, .int (ns.length : Nat), .bl true] S = .ok .non ((S.set pl (.lst (N ++ [.tup [.tup (.str bd :: ns), rest]]))).set a (runO w m1 m2 fd e (m + 1) pl tk) ++ [.lst ns, .lst [.tup [.tup (.str bd :: ns), rest]]]) := by
  have hi := r.i
  have hp := r.p
  have ha := inn_of hi
  have hd := inn_of hp
  have hap := r.ap
  have hpa := Ne.symm hap
  have hl : line = 1000000 := rfl
  have hz : ((N ++ ns).length : Int) - (ns.length : Nat) = (N.length : Nat) := by simp
  rw [phi_at (Fc := ⟨4, 6, c10⟩) rfl]
  generalize hG : gam TT (phi TT (k + 1)) (phi TT k) = G
  generalize hP1 : N ++ ns = P1 at *
  have hcut : cutA P1 (some (N.length : Nat)) none = ns := by rw [← hP1]; exact cut_from _ _
  have hlen : P1.length < 100000 := by rw [← hP1]; simpa using hP
  have htk : P1.take N.length = N := by rw [← hP1]; simp
  have hle : N.length ≤ P1.length := by rw [← hP1]; simp
  have s1 : evC G (.asg (.nm 4) (.cst .non)) [some (.ref a), some (.str bd), some (.int (ns.length : Nat)), some (.bl true), none, none] S = .ok (.nx, [some (.ref a), some (.str bd), some (.int (ns.length : Nat)), some (.bl true), some .non, none]) S := by simp
  have s2 : evC G (.ifs (.val (.var 3)) [.asg (.nm 4) (.bm .pop (.fld (.var 0) 4) [])] []) [some (.ref a), some (.str bd), some (.int (ns.length : Nat)), some (.bl true), some .non, none] S = .ok (.nx, [some (.ref a), some (.str bd), some (.int (ns.length : Nat)), some (.bl true), some rest, none]) (S.set pl (.lst P1)) := by
    simp [hi, hp, runO, List.lookup_cons]
  have r1 : (S.set pl (.lst P1))[a]? = some (runO w m1 m2 fd e m pl tk) := by rw [List.getElem?_set_ne hpa]; exact hi
  have r2 : (S.set pl (.lst P1))[pl]? = some (.lst P1) := List.getElem?_set_self (get_lt hp)
  have s3 : evC G (.asg (.nm 5) (.bin .sub (.bi .len [.fld (.var 0) 4]) (.var 2))) [some (.ref a), some (.str bd), some (.int (ns.length : Nat)), some (.bl true), some rest, none] (S.set pl (.lst P1)) = .ok (.nx, [some (.ref a), some (.str bd), some (.int (ns.length : Nat)), some (.bl true), some rest, some (.int (N.length : Nat))]) (S.set pl (.lst P1)) := by
    simp only [runO] at r1
    simp [r1, r2, List.lookup_cons, hz, -get_set_same, -get_set_ne]
  generalize hSa : S.set pl (.lst P1) = Sa at *
  have hia : Inn Sa a := inn_of r1
  have hip : Inn Sa pl := inn_of r2
  generalize hbd : AV.tup [.tup (.str bd :: ns), rest] = bd' at *
  have s4 : evC G (.asg (.slcFrom (.fld (.var 0) 4) (.var 5)) (.lst [.tup [.bin .add (.tup [.var 1]) (.bi .tuple [.slc (.fld (.var 0) 4) (some (.var 5)) none]), .var 4]])) [some (.ref a), some (.str bd), some (.int (ns.length : Nat)), some (.bl true), some rest, some (.int (N.length : Nat))] Sa = .ok (.nx, [some (.ref a), some (.str bd), some (.int (ns.length : Nat)), some (.bl true), some rest, some (.int (N.length : Nat))]) (Sa.set pl (.lst (N ++ [bd'])) ++ [.lst ns, .lst [bd']]) := by
    have q1 : ns.length + 1 ≤ 1000000 := by omega
    have q2 : P1.length + 1 ≤ 1000000 := by omega
    have q3 : pl ≠ Sa.length + 1 := by have := get_lt r2; omega
    simp only [runO] at r1
    simp [r1, r2, List.lookup_cons, hcut, hia, hip, hl, q1, q2, q3, htk, hle, asgL, hbd, Nat.add_comm 1 ns.length]
  have s5 : evC G (.augF (.var 0) 3 .add (.cst (.int 1))) [some (.ref a), some (.str bd), some (.int (ns.length : Nat)), some (.bl true), some rest, some (.int (N.length : Nat))] (Sa.set pl (.lst (N ++ [bd'])) ++ [.lst ns, .lst [bd']]) = .ok (.nx, [some (.ref a), some (.str bd), some (.int (ns.length : Nat)), some (.bl true), some rest, some (.int (N.length : Nat))]) ((Sa.set pl (.lst (N ++ [bd']))).set a (runO w m1 m2 fd e (m + 1) pl tk) ++ [.lst ns, .lst [bd']]) := by
    simp only [runO] at r1 ⊢
    simp [r1, hpa, hia, hip, List.lookup_cons, putN]
  have e1 : runF G ⟨4, 6, c10⟩ [.ref a, .str bd, .int (ns.length : Nat), .bl true] S = sweep S .non ((Sa.set pl (.lst (N ++ [bd']))).set a (runO w m1 m2 fd e (m + 1) pl tk) ++ [.lst ns, .lst [bd']]) := by
    unfold runF
    rw [if_pos (by rfl)]
    show (evCs G c10 [some (.ref a), some (.str bd), some (.int (ns.length : Nat)), some (.bl true), none, none] S).bind _ = _
    rw [show evCs G c10 [some (.ref a), some (.str bd), some (.int (ns.length : Nat)), some (.bl true), none, none] S = _ from evCs_p s1 (evCs_p s2 (evCs_p s3 (evCs_p s4 (evCs_p s5 (evCs_nil _ _ _)))))]
    rfl
  have e2 : Sa.set pl (.lst (N ++ [bd'])) = S.set pl (.lst (N ++ [bd'])) := by rw [← hSa, List.set_set]
  rw [e1, e2]
  refine sweep_chg ha ?_
  rw [hi]
  have : (((S.set pl (.lst (N ++ [bd']))).set a (runO w m1 m2 fd e (m + 1) pl tk)) ++ [.lst ns, .lst [bd']])[a]? = some (runO w m1 m2 fd e (m + 1) pl tk) := by simp [ha]
  rw [this]
  simp [runO]
  omega
theorem p_go_mk {N ns : List AV} {rest : AV} {bd : List Nat} (r : Rs w m1 m2 b a fd pl tk S e m (N ++ ns ++ [rest]) T) (hP : N.length + ns.length < 100000) :
    phi TT (k + 3) 8 [.ref a, mkK bd ns.length] S = .ok .non ((S.set pl (.lst (N ++ [.tup [.tup (.str bd :: ns), rest]]))).set a (runO w m1 m2 fd e (m + 1) pl tk) ++ [.lst ns, .lst [.tup [.tup (.str bd :: ns), rest]]]) := by
  have hi := r.i
  have ha := inn_of hi
  have q := p_rmake (k := k) (bd := bd) r hP
  rw [phi_at (Fc := ⟨2, 5, c8⟩) rfl]
  simp [runF, c8, mkK, ixA, hi, runO, mt_rmake] at q ⊢
  simp [q]
  refine sweep_chg ha ?_
  simp [ha, hi, runO]
  omega
/-! ### the tasks of a turn -/
def tnC : NM.T := .and (.val (.cmp .gt (.bi .len [.fld (.var 0) 5]) (.cst (.int 0)))) (.val (.cmp .ne (.idx (.idx (.fld (.var 0) 5) (.neg (.cst (.int 1)))) (.cst (.int 0))) (.cst (.str [101, 97, 116]))))
def tnB : List C := [.expr (.meth 2 (.var 0) [.bm .pop (.fld (.var 0) 5) []])]
def Tn (k a : Nat) (S S' : Hh) : Prop := ∀ ls : Ls, ls[0]? = some (some (.ref a)) → whR (evT (gam TT (phi TT (k + 1)) (phi TT k)) tnC) (evCs (gam TT (phi TT (k + 1)) (phi TT k)) tnB) ls S = .ok (.nx, ls) S'
theorem tn_nil (r : Rs w m1 m2 b a fd pl tk S e m P []) : Tn k a S S := by
  intro ls hls
  have hi := r.i
  have ht := r.t
  refine whR_done ?_
  simp [tnC, hls, hi, ht, runO, List.lookup_cons]
theorem tn_eat {f : List Nat} {n : Nat} (r : Rs w m1 m2 b a fd pl tk S e m P (T ++ [eatT f n])) : Tn k a S S := by
  intro ls hls
  have hi := r.i
  have ht := r.t
  have hx := ixA_last T (eatT f n)
  refine whR_done ?_
  have hpos : ¬ T ++ [eatT f n] = [] := by simp
  generalize hT : T ++ [eatT f n] = T1 at *
  have h0 : ixA [AV.str [101, 97, 116], AV.str f, AV.int (n : Nat)] 0 = some (.str [101, 97, 116]) := rfl
  simp only [eatT] at hx
  simp [tnC, hls, hi, ht, runO, List.lookup_cons, hx, hpos, h0]
theorem tn_step {task v : AV} {wd : List Nat} {rr : List AV} (hk : task = .tup (.str wd :: rr)) (hwd : (wd == [101, 97, 116]) = false) (r : Rs w m1 m2 b a fd pl tk S e m P (T ++ [task])) (h : phi TT (k + 1) 8 [.ref a, task] (S.set tk (.lst T)) = .ok v S1) (t : Tn k a S1 S') : Tn k a S S' := by
  intro ls hls
  have hi := r.i
  have ht := r.t
  have hx := ixA_last T task
  refine whR_next (S1 := S) (ls1 := ls) (S2 := S1) ?_ ?_ (t ls hls)
  · have hpos : ¬ T ++ [task] = [] := by simp
    generalize hT : T ++ [task] = T1 at *
    subst hk
    have h0 : ixA (AV.str wd :: rr) 0 = some (.str wd) := rfl
    simp [tnC, hls, hi, ht, runO, List.lookup_cons, hpos, hx, hwd, h0]
  · simp [tnB, hls, hi, ht, runO, List.lookup_cons, mt_goon, h]
end
end K69
set_option Elab.async false
set_option linter.all false
set_option maxRecDepth 100000
set_option maxHeartbeats 800000
/-! NrC: a run's turns. -/
namespace K69
open NM
section
variable {w : Nat → List Nat} {m1 m2 b a fd pl tk k : Nat} {S S1 S' : Hh} {e m : Int} {P T : List AV}
/-- a turn, from its eating on -/
theorem p_turn {f : List Nat} {n : Nat} {N args : List AV} {v : AV} (r : Rs w m1 m2 b a fd pl tk S e m P (T ++ [eatT f n])) (hc1 : cutA P (some ((P.length : Int) - n)) none = args) (hc2 : cutA P none (some ((P.length : Int) - n)) = N)
    (h1 : phi TT (k + 1) 7 [.ref a, .str f, .ref S.length] ((S.set tk (AO.lst T) ++ [AO.lst args, AO.lst N]).set a (runO w m1 m2 fd e m (S.length + 1) tk)) = .ok v S1) (t : Tn k a S1 S') (ne : S'[a]? ≠ S[a]?) :
    phi TT (k + 2) 6 [.ref a] S = .ok (.bl true) S' := by
  have hi := r.i
  have hp := r.p
  have ht := r.t
  have ha := inn_of hi
  have hpi := inn_of hp
  have hti := inn_of ht
  have hat := r.at'
  have hta := Ne.symm hat
  have htp := Ne.symm r.n
  rw [phi_at (Fc := ⟨1, 5, c6⟩) rfl]
  have t' := t
  unfold Tn at t'
  generalize hG : gam TT (phi TT (k + 1)) (phi TT k) = G at t'
  have hGm : G.mt 0 1 = fun vs S => phi TT (k + 1) 7 vs S := by rw [← hG]; rfl
  have s1 : evC G (.ifs (.val (.cmp .eq (.bi .len [.fld (.var 0) 5]) (.cst (.int 0)))) [.ret (.cst (.bl false))] []) [some (.ref a), none, none, none, none] S = .ok (.nx, [some (.ref a), none, none, none, none]) S := by
    have hpos : ¬ T ++ [eatT f n] = [] := by simp
    generalize hT : T ++ [eatT f n] = T1 at *
    simp [hi, ht, runO, List.lookup_cons, hpos]
  have s2 : evC G (.asg (.tp [.nm 1, .nm 2, .nm 3]) (.bm .pop (.fld (.var 0) 5) [])) [some (.ref a), none, none, none, none] S = .ok (.nx, [some (.ref a), some (.str [101, 97, 116]), some (.str f), some (.int n), none]) (S.set tk (AO.lst T)) := by
    simp [hi, ht, runO, List.lookup_cons, eatT]
  have r1 : (S.set tk (AO.lst T))[a]? = some (runO w m1 m2 fd e m pl tk) := by rw [List.getElem?_set_ne hta]; exact hi
  have r2 : (S.set tk (AO.lst T))[pl]? = some (AO.lst P) := by rw [List.getElem?_set_ne htp]; exact hp
  have r3 : (S.set tk (AO.lst T)).length = S.length := by simp
  generalize hSa : S.set tk (AO.lst T) = Sa at *
  have hia : Inn Sa a := inn_of r1
  have hip : Inn Sa pl := inn_of r2
  have s3 : evC G (.asg (.nm 4) (.slc (.fld (.var 0) 4) (some (.bin .sub (.bi .len [.fld (.var 0) 4]) (.var 3))) none)) [some (.ref a), some (.str [101, 97, 116]), some (.str f), some (.int n), none] Sa = .ok (.nx, [some (.ref a), some (.str [101, 97, 116]), some (.str f), some (.int n), some (.ref S.length)]) (Sa ++ [AO.lst args]) := by
    simp only [runO] at r1
    simp [r1, r2, List.lookup_cons, hc1, r3]
  have s4 : evC G (.asg (.fld (.var 0) 4) (.slc (.fld (.var 0) 4) none (some (.bin .sub (.bi .len [.fld (.var 0) 4]) (.var 3))))) [some (.ref a), some (.str [101, 97, 116]), some (.str f), some (.int n), some (.ref S.length)] (Sa ++ [AO.lst args]) = .ok (.nx, [some (.ref a), some (.str [101, 97, 116]), some (.str f), some (.int n), some (.ref S.length)]) ((Sa ++ [AO.lst args, AO.lst N]).set a (runO w m1 m2 fd e m (S.length + 1) tk)) := by
    simp only [runO] at r1 ⊢
    simp [r1, r2, List.lookup_cons, hc2, r3, hia, hip, putN]
  have r5 : ((Sa ++ [AO.lst args, AO.lst N]).set a (runO w m1 m2 fd e m (S.length + 1) tk))[a]? = some (runO w m1 m2 fd e m (S.length + 1) tk) := by simp [hia]
  have s5 : evC G (.expr (.meth 1 (.var 0) [.var 2, .var 4])) [some (.ref a), some (.str [101, 97, 116]), some (.str f), some (.int n), some (.ref S.length)] ((Sa ++ [AO.lst args, AO.lst N]).set a (runO w m1 m2 fd e m (S.length + 1) tk)) = .ok (.nx, [some (.ref a), some (.str [101, 97, 116]), some (.str f), some (.int n), some (.ref S.length)]) S1 := by
    generalize ((Sa ++ [AO.lst args, AO.lst N]).set a (runO w m1 m2 fd e m (S.length + 1) tk)) = Sb at *
    simp only [runO] at r5
    simp [r5, hGm, h1]
  have s6 : evC G (.whl tnC tnB) [some (.ref a), some (.str [101, 97, 116]), some (.str f), some (.int n), some (.ref S.length)] S1 = .ok (.nx, [some (.ref a), some (.str [101, 97, 116]), some (.str f), some (.int n), some (.ref S.length)]) S' := by
    rw [evC_whl]
    exact t' _ rfl
  have s7 : evC G (.ret (.cst (.bl true))) [some (.ref a), some (.str [101, 97, 116]), some (.str f), some (.int n), some (.ref S.length)] S' = .ok (.rt (.bl true), [some (.ref a), some (.str [101, 97, 116]), some (.str f), some (.int n), some (.ref S.length)]) S' := by simp
  have e1 : runF G ⟨1, 5, c6⟩ [.ref a] S = sweep S (.bl true) S' := by
    unfold runF
    rw [if_pos (by rfl)]
    show (evCs G c6 [some (.ref a), none, none, none, none] S).bind _ = _
    rw [show evCs G c6 [some (.ref a), none, none, none, none] S = _ from evCs_p s1 (evCs_p s2 (evCs_p s3 (evCs_p s4 (evCs_p s5 (evCs_p s6 (evCs_q s7))))))]
    rfl
  rw [e1]
  exact sweep_chg ha ne
theorem p_turn_no (r : Rs w m1 m2 b a fd pl tk S e m P []) : phi TT (k + 2) 6 [.ref a] S = .ok (.bl false) S := by
  have hi := r.i
  have ht := r.t
  rw [phi_at (Fc := ⟨1, 5, c6⟩) rfl]
  simp [runF, c6, hi, ht, runO, List.lookup_cons]
theorem turn_st {f : List Nat} {n : Nat} {N args : List AV} (r : Rs w m1 m2 b a fd pl tk S e m P (T ++ [eatT f n])) :
    Rs w m1 m2 b a fd (S.length + 1) tk ((S.set tk (AO.lst T) ++ [AO.lst args, AO.lst N]).set a (runO w m1 m2 fd e m (S.length + 1) tk)) e m N T ∧ ((S.set tk (AO.lst T) ++ [AO.lst args, AO.lst N]).set a (runO w m1 m2 fd e m (S.length + 1) tk))[S.length]? = some (AO.lst args) ∧ Rp b S ((S.set tk (AO.lst T) ++ [AO.lst args, AO.lst N]).set a (runO w m1 m2 fd e m (S.length + 1) tk)) := by
  have r1 := (r.setT (T' := T)).app (X := [AO.lst args, AO.lst N])
  have hla := get_lt r.i
  have hlt := get_lt r.t
  have hb := r.len
  have hba := r.ba
  have hz : (S.set tk (AO.lst T)).length = S.length := by simp
  have g1 : (S.set tk (AO.lst T) ++ [AO.lst args, AO.lst N])[S.length]? = some (AO.lst args) := get_at0 hz
  have g2 : (S.set tk (AO.lst T) ++ [AO.lst args, AO.lst N])[S.length + 1]? = some (AO.lst N) := (get_at (n := 1) hz).trans rfl
  refine ⟨⟨List.getElem?_set_self (by simp <;> omega), by rw [List.getElem?_set_ne r1.af]; exact r1.d, by rw [List.getElem?_set_ne (by omega)]; exact g2, by rw [List.getElem?_set_ne r1.at']; exact r1.t, by omega, r.ba, by omega, r.bt⟩, by rw [List.getElem?_set_ne (by omega)]; exact g1, ?_⟩
  refine ((Rp.setL r.bt r.t).trans (Rp.app (by simp <;> omega))).trans (Rp.setI r.ba r1.i)
/-- the names of a bead are piled -/
theorem tn_names {kn : Nat} {kvs : List (List Nat × AV)} : ∀ {xs : List (List Nat)} {ns : List AV} {S : Hh} {P : List AV}, xs.map (getD kvs) = ns.map some → Rs w m1 m2 b a fd pl tk S e m P (T ++ (xs.map fun x => termW (nT x) kn).reverse) → S[kn]? = some (.dic kvs) → P.length + ns.length < 100000 →
    ∃ S1, (∀ S', Tn (k + 2) a S1 S' → Tn (k + 2) a S S') ∧ Rs w m1 m2 b a fd pl tk S1 e m (P ++ ns) T ∧ Rp b S S1
  | [], ns, S, P, hx, r, hk, hl => by
    have : ns = [] := by simpa using hx.symm
    subst this
    exact ⟨S, fun _ h => h, by simpa using r, Rp.refl⟩
  | x :: xs, ns, S, P, hx, r, hk, hl => by
    cases ns with
    | nil => simp at hx
    | cons v ns =>
      simp only [List.map_cons, List.cons.injEq] at hx
      simp only [List.length_cons] at hl
      have r0 : Rs w m1 m2 b a fd pl tk S e m P ((T ++ (xs.map fun x => termW (nT x) kn).reverse) ++ [termW (nT x) kn]) := by
        have := r
        simp only [List.map_cons, List.reverse_cons] at this
        rw [List.append_assoc]
        exact this
      have r1 := r0.setT (T' := T ++ (xs.map fun x => termW (nT x) kn).reverse)
      have c1 := Rp.setL (o := AO.lst (T ++ (xs.map fun x => termW (nT x) kn).reverse)) r0.bt r0.t
      have q := p_go_name (k := k) r1 (by omega) (c1.dc _ _ hk) hx.1
      have r2 := r1.setP (P' := P ++ [v])
      have c2 := Rp.setL (o := AO.lst (P ++ [v])) r1.bp r1.p
      obtain ⟨S1, g1, g2, g3⟩ := tn_names hx.2 r2 (c2.dc _ _ (c1.dc _ _ hk)) (by simp <;> omega)
      refine ⟨S1, fun S' h => tn_step (task := termW (nT x) kn) rfl (by rfl) r0 q (g1 S' h), by simpa using g2, (c1.trans c2).trans g3⟩
theorem nmT_ws (m : Nat) : nmT w m = (ws w m).map nT := by
  match m with
  | 0 => rfl
  | 1 => rfl
  | m + 2 => rfl
theorem ws_le (m : Nat) : (ws w m).length ≤ 2 := by
  match m with
  | 0 => simp [ws]
  | 1 => simp [ws]
  | m + 2 => simp [ws]
/-- an open bead is laid -/
theorem turn_open (hw : WD w) (hm : m1 = 0 ∨ m1 = 1 ∨ m1 = 2) {x o : List AV} {os : List (List AV)} {l N : List AV} (hx : x.length = cnt m1) (r : Rs w m1 m2 b a fd pl tk S e m (N ++ [strg (rowB w (x :: os) l), strg o]) (T ++ [eatT (w 3) 2])) (hN : N.length < 90000) (hT : T.length < 90000) :
    ∃ S' pl', phi TT (k + 4) 6 [.ref a] S = .ok (.bl true) S' ∧ Rs w m1 m2 b a fd pl' tk S' (e + 1) m ((N ++ x) ++ [strg (rowB w os l), strg o]) ((T ++ [mkK (w 1) m1]) ++ [eatT (w 3) 2]) ∧ Rp b S S' := by
  obtain ⟨r1, h1, c1⟩ := turn_st (N := N) (args := [strg (rowB w (x :: os) l), strg o]) r
  have hc1 : cutA (N ++ [strg (rowB w (x :: os) l), strg o]) (some (((N ++ [strg (rowB w (x :: os) l), strg o]).length : Int) - (2 : Nat))) none = [strg (rowB w (x :: os) l), strg o] := by
    have : ((N ++ [strg (rowB w (x :: os) l), strg o]).length : Int) - (2 : Nat) = (N.length : Nat) := by simp <;> omega
    rw [this]; exact cut_from _ _
  have hc2 : cutA (N ++ [strg (rowB w (x :: os) l), strg o]) none (some (((N ++ [strg (rowB w (x :: os) l), strg o]).length : Int) - (2 : Nat))) = N := by
    have : ((N ++ [strg (rowB w (x :: os) l), strg o]).length : Int) - (2 : Nat) = (N.length : Nat) := by simp <;> omega
    rw [this]; exact cut_to _ _
  have ht := fun (v : AV) (S1 S' : Hh) => p_turn (k := k + 2) (v := v) (S1 := S1) (S' := S') r hc1 hc2
  generalize hSb : (S.set tk (AO.lst T) ++ [AO.lst [strg (rowB w (x :: os) l), strg o], AO.lst N]).set a (runO w m1 m2 fd e m (S.length + 1) tk) = Sb at *
  have q := p_reat hw (k := k) (.inl rfl) hx r1 (by omega) (show Sb[S.length]? = some (AO.lst [.tup [.tup (.str (w 1) :: x), strg (rowB w os l)], strg o]) from h1) (by rw [fd_lay hw]; rfl)
  generalize hkn : ((w 11, strg o) :: ((ws w m1).zip x ++ [(w 16, strg (rowB w os l))])) = kn at q
  have r2 := ((r1.setI (e' := e + 1) (m' := m)).setT (T' := T ++ [termW (mkT w 1 m1 (againT w)) (Sb.length + 1)])).app (X := [AO.lst [strg o], .dic kn])
  have c2 : Rp b Sb ((Sb.set a (runO w m1 m2 fd (e + 1) m (S.length + 1) tk)).set tk (AO.lst (T ++ [termW (mkT w 1 m1 (againT w)) (Sb.length + 1)])) ++ [AO.lst [strg o], .dic kn]) :=
    ((Rp.setI r1.ba r1.i).trans (Rp.setL r1.bt (r1.setI (e' := e + 1) (m' := m)).t)).trans (Rp.app (by simp; exact r1.len))
  generalize hSc : (Sb.set a (runO w m1 m2 fd (e + 1) m (S.length + 1) tk)).set tk (AO.lst (T ++ [termW (mkT w 1 m1 (againT w)) (Sb.length + 1)])) ++ [AO.lst [strg o], .dic kn] = Sc at *
  have k2 : Sc[Sb.length + 1]? = some (.dic kn) := by
    rw [← hSc]
    exact (get_at (n := 1) (by simp)).trans rfl
  have q3 := p_go_make (k := k) hm (kn := Sb.length + 1) (r2.setT (T' := T)) (by omega)
  rw [List.set_set] at q3
  have r3 := (r2.setT (T' := T ++ mkK (w 1) m1 :: termW (againT w) (Sb.length + 1) :: ((nmT w m1).map fun t => termW t (Sb.length + 1)).reverse)).app (X := [AO.lst (nmT w m1), AO.lst [againT w], AO.lst [againT w], AO.lst (nmT w m1 ++ [againT w]), AO.lst (termW (againT w) (Sb.length + 1) :: ((nmT w m1).map fun t => termW t (Sb.length + 1)).reverse)])
  have c3 := (Rp.setL (o := AO.lst (T ++ mkK (w 1) m1 :: termW (againT w) (Sb.length + 1) :: ((nmT w m1).map fun t => termW t (Sb.length + 1)).reverse)) r2.bt r2.t).trans (Rp.app (T := [AO.lst (nmT w m1), AO.lst [againT w], AO.lst [againT w], AO.lst (nmT w m1 ++ [againT w]), AO.lst (termW (againT w) (Sb.length + 1) :: ((nmT w m1).map fun t => termW t (Sb.length + 1)).reverse)]) (by simp; exact r2.len))
  generalize hSd : Sc.set tk (AO.lst (T ++ mkK (w 1) m1 :: termW (againT w) (Sb.length + 1) :: ((nmT w m1).map fun t => termW t (Sb.length + 1)).reverse)) ++ [AO.lst (nmT w m1), AO.lst [againT w], AO.lst [againT w], AO.lst (nmT w m1 ++ [againT w]), AO.lst (termW (againT w) (Sb.length + 1) :: ((nmT w m1).map fun t => termW t (Sb.length + 1)).reverse)] = Sd at *
  have k3 := c3.dc _ _ k2
  have hkx : (ws w m1).map (getD kn) = x.map some := by rw [← hkn]; exact kn_n hw (.inl rfl) hx
  have r3' : Rs w m1 m2 b a fd (S.length + 1) tk Sd (e + 1) m N (((T ++ [mkK (w 1) m1]) ++ [termW (againT w) (Sb.length + 1)]) ++ ((ws w m1).map fun y => termW (nT y) (Sb.length + 1)).reverse) := by
    have := r3
    rw [nmT_ws] at this
    simpa [List.map_map, Function.comp_def] using this
  have hx2 : x.length ≤ 2 := by rw [hx, ← cnt_ws (w := w)]; exact ws_le _
  obtain ⟨Se, g1, g2, g3⟩ := tn_names (k := k) hkx r3' k3 (by omega)
  have q4 := p_go_call (k := k) (kn := Sb.length + 1) (g2.setT (T' := T ++ [mkK (w 1) m1])) (by simp <;> omega)
  rw [List.set_set] at q4
  have r4 := (g2.setT (T' := T ++ [mkK (w 1) m1] ++ [eatT (w 3) 2, termW (nT (w 11)) (Sb.length + 1), termW (nT (w 16)) (Sb.length + 1)])).app (X := [AO.lst [termW (nT (w 11)) (Sb.length + 1), termW (nT (w 16)) (Sb.length + 1)]])
  have c4 := (Rp.setL (o := AO.lst (T ++ [mkK (w 1) m1] ++ [eatT (w 3) 2, termW (nT (w 11)) (Sb.length + 1), termW (nT (w 16)) (Sb.length + 1)])) g2.bt g2.t).trans (Rp.app (T := [AO.lst [termW (nT (w 11)) (Sb.length + 1), termW (nT (w 16)) (Sb.length + 1)]]) (by simp; exact g2.len))
  generalize hSf : Se.set tk (AO.lst (T ++ [mkK (w 1) m1] ++ [eatT (w 3) 2, termW (nT (w 11)) (Sb.length + 1), termW (nT (w 16)) (Sb.length + 1)])) ++ [AO.lst [termW (nT (w 11)) (Sb.length + 1), termW (nT (w 16)) (Sb.length + 1)]] = Sf at *
  have k4 := c4.dc _ _ (g3.dc _ _ k3)
  have r4' : Rs w m1 m2 b a fd (S.length + 1) tk Sf (e + 1) m (N ++ x) ((T ++ [mkK (w 1) m1] ++ [eatT (w 3) 2]) ++ ([w 16, w 11].map fun y => termW (nT y) (Sb.length + 1)).reverse) := by simpa using r4
  have hky : [w 16, w 11].map (getD kn) = [strg (rowB w os l), strg o].map some := by
    have h16 : getD kn (w 16) = some (strg (rowB w os l)) := by rw [← hkn]; exact kn_r hw (.inl rfl) hx
    have h11 : getD kn (w 11) = some (strg o) := by rw [← hkn]; exact getD_hd _ _ _
    simp [h16, h11]
  obtain ⟨Sg, i1, i2, i3⟩ := tn_names (k := k) hky r4' k4 (by simp <;> omega)
  have tn : Tn (k + 2) a Sc Sg := by
    refine tn_step (task := termW (mkT w 1 m1 (againT w)) (Sb.length + 1)) rfl (by rfl) r2 q3 ?_
    refine g1 _ ?_
    refine tn_step (task := termW (againT w) (Sb.length + 1)) rfl (by rfl) g2 q4 ?_
    exact i1 _ (tn_eat i2)
  refine ⟨Sg, S.length + 1, ht _ _ _ q tn ?_, i2, (((c1.trans c2).trans c3).trans g3).trans (c4.trans i3)⟩
  rw [i2.i, r.i]
  simp [runO]
  omega
/-- all beads are made -/
theorem tn_makes {bd : List Nat} : ∀ (n : Nat) {os : List (List AV)} {o : List AV} {S : Hh} {m : Int}, os.length = n → (∀ x ∈ os, x.length = m1) → m1 ≤ 2 → n ≤ 20000 → Rs w m1 m2 b a fd pl tk S e m (os.flatten ++ [strg o]) (List.replicate n (mkK bd m1)) →
    ∃ S', Tn (k + 2) a S S' ∧ Rs w m1 m2 b a fd pl tk S' e (m + n) [strg ((os.map fun x => AV.tup (.str bd :: x)) ++ o)] [] ∧ Rp b S S'
  | 0, os, o, S, m, hn, _, _, _, r => by
    have : os = [] := List.length_eq_zero_iff.mp hn
    subst this
    exact ⟨S, tn_nil r, by simpa using r, Rp.refl⟩
  | n + 1, os, o, S, m, hn, hx, hm, hl, r => by
    obtain ⟨ys, y, rfl⟩ : ∃ ys y, os = ys ++ [y] := ⟨os.dropLast, os.getLast (by intro z; subst z; simp at hn), (List.dropLast_concat_getLast _).symm⟩
    have hy : y.length = m1 := hx y (by simp)
    have hys : ∀ x ∈ ys, x.length = m1 := fun x h => hx x (by simp [h])
    have hlen : ys.length = n := by simpa using hn
    have hfl : ys.flatten.length = n * m1 := by
      clear r hx hn
      rw [← hlen]
      clear hlen
      induction ys with
      | nil => simp
      | cons z ys ih =>
        simp only [List.flatten_cons, List.length_append, List.length_cons]
        rw [ih fun x h => hys x (List.mem_cons_of_mem _ h), hys z List.mem_cons_self]
        rw [Nat.add_mul, Nat.one_mul, Nat.add_comm]
    have hsm : n * m1 ≤ 40000 := Nat.le_trans (Nat.mul_le_mul (show n ≤ 20000 by omega) hm) (by decide)
    have r0 : Rs w m1 m2 b a fd pl tk S e m (ys.flatten ++ y ++ [strg o]) (List.replicate n (mkK bd m1) ++ [mkK bd m1]) := by
      have := r
      rw [List.replicate_succ'] at this
      simpa using this
    have q := p_go_mk (k := k) (bd := bd) (r0.setT (T' := List.replicate n (mkK bd m1))) (by omega)
    rw [hy] at q
    have r1 := r0.setT (T' := List.replicate n (mkK bd m1))
    have c1 := Rp.setL (o := AO.lst (List.replicate n (mkK bd m1))) r0.bt r0.t
    have r2 := ((r1.setP (P' := ys.flatten ++ [.tup [.tup (.str bd :: y), strg o]])).setI (e' := e) (m' := m + 1)).app (X := [AO.lst y, AO.lst [.tup [.tup (.str bd :: y), strg o]]])
    have c2 := ((Rp.setL (o := AO.lst (ys.flatten ++ [.tup [.tup (.str bd :: y), strg o]])) r1.bp r1.p).trans (Rp.setI (o := runO w m1 m2 fd e (m + 1) pl tk) r1.ba (r1.setP (P' := ys.flatten ++ [.tup [.tup (.str bd :: y), strg o]])).i)).trans (Rp.app (T := [AO.lst y, AO.lst [.tup [.tup (.str bd :: y), strg o]]]) (by simp; exact r0.len))
    obtain ⟨S', t, r3, c3⟩ := tn_makes n (o := AV.tup (.str bd :: y) :: o) hlen hys hm (by omega) r2
    refine ⟨S', tn_step (task := mkK bd m1) rfl (by rfl) r0 q t, ?_, (c1.trans c2).trans c3⟩
    have hz : m + ((n + 1 : Nat) : Int) = m + 1 + (n : Nat) := by omega
    rw [hz]
    simpa using r3
/-- the last bead: the other row, and all that waits is made -/
theorem turn_last (hw : WD w) (hm : m1 ≤ 2) {o : List AV} {os : List (List AV)} {l : List AV} (hl : l.length = cnt m2) (hos : ∀ x ∈ os, x.length = m1) (hn : os.length ≤ 20000) (r : Rs w m1 m2 b a fd pl tk S e m (os.flatten ++ [strg (rowB w [] l), strg o]) (List.replicate os.length (mkK (w 1) m1) ++ [eatT (w 3) 2])) :
    ∃ S' pl', phi TT (k + 4) 6 [.ref a] S = .ok (.bl true) S' ∧ Rs w m1 m2 b a fd pl' tk S' (e + 1) (m + os.length) [strg ((os.map fun x => AV.tup (.str (w 1) :: x)) ++ o)] [] ∧ Rp b S S' := by
  generalize hT : List.replicate os.length (mkK (w 1) m1) = T at r
  have hTl : T.length ≤ 20000 := by rw [← hT]; simpa using hn
  generalize hNe : os.flatten = N at r
  have hNl : N.length ≤ 40000 := by
    have : N.length ≤ os.length * 2 := by
      rw [← hNe]
      clear r hT hNe hn hTl
      induction os with
      | nil => simp
      | cons z os ih =>
        have := ih fun x h => hos x (List.mem_cons_of_mem _ h)
        have hz := hos z List.mem_cons_self
        simp only [List.flatten_cons, List.length_append, List.length_cons]
        omega
    omega
  obtain ⟨r1, h1, c1⟩ := turn_st (N := N) (args := [strg (rowB w [] l), strg o]) r
  have hc1 : cutA (N ++ [strg (rowB w [] l), strg o]) (some (((N ++ [strg (rowB w [] l), strg o]).length : Int) - (2 : Nat))) none = [strg (rowB w [] l), strg o] := by
    have : ((N ++ [strg (rowB w [] l), strg o]).length : Int) - (2 : Nat) = (N.length : Nat) := by simp <;> omega
    rw [this]; exact cut_from _ _
  have hc2 : cutA (N ++ [strg (rowB w [] l), strg o]) none (some (((N ++ [strg (rowB w [] l), strg o]).length : Int) - (2 : Nat))) = N := by
    have : ((N ++ [strg (rowB w [] l), strg o]).length : Int) - (2 : Nat) = (N.length : Nat) := by simp <;> omega
    rw [this]; exact cut_to _ _
  have ht := fun (v : AV) (S1 S' : Hh) => p_turn (k := k + 2) (v := v) (S1 := S1) (S' := S') r hc1 hc2
  generalize hSb : (S.set tk (AO.lst T) ++ [AO.lst [strg (rowB w [] l), strg o], AO.lst N]).set a (runO w m1 m2 fd e m (S.length + 1) tk) = Sb at *
  have q := p_reat' hw (k := k) (.inl rfl) hl r1 (by omega) (show Sb[S.length]? = some (AO.lst [.tup [.tup (.str (w 2) :: l), .non], strg o]) from h1) (by rw [fd_lay hw]; rfl)
  generalize hkn : ((w 11, strg o) :: (ws w m2).zip l) = kn at q
  have r2 := ((r1.setI (e' := e + 1) (m' := m)).setT (T' := T ++ [termW (nT (w 11)) (Sb.length + 1)])).app (X := [AO.lst [strg o], .dic kn])
  have c2 : Rp b Sb ((Sb.set a (runO w m1 m2 fd (e + 1) m (S.length + 1) tk)).set tk (AO.lst (T ++ [termW (nT (w 11)) (Sb.length + 1)])) ++ [AO.lst [strg o], .dic kn]) :=
    ((Rp.setI r1.ba r1.i).trans (Rp.setL r1.bt (r1.setI (e' := e + 1) (m' := m)).t)).trans (Rp.app (by simp; exact r1.len))
  generalize hSc : (Sb.set a (runO w m1 m2 fd (e + 1) m (S.length + 1) tk)).set tk (AO.lst (T ++ [termW (nT (w 11)) (Sb.length + 1)])) ++ [AO.lst [strg o], .dic kn] = Sc at *
  have k2 : Sc[Sb.length + 1]? = some (.dic kn) := by
    rw [← hSc]
    exact (get_at (n := 1) (by simp)).trans rfl
  have hky : [w 11].map (getD kn) = [strg o].map some := by
    have h11 : getD kn (w 11) = some (strg o) := by rw [← hkn]; exact getD_hd _ _ _
    simp [h11]
  obtain ⟨Sg, i1, i2, i3⟩ := tn_names (k := k) (xs := [w 11]) hky (show Rs w m1 m2 b a fd (S.length + 1) tk Sc (e + 1) m N (T ++ ([w 11].map fun y => termW (nT y) (Sb.length + 1)).reverse) from r2) k2 (by simp <;> omega)
  rw [← hT, ← hNe] at i2
  obtain ⟨Sh, j1, j2, j3⟩ := tn_makes (k := k) os.length rfl hos hm hn i2
  refine ⟨Sh, S.length + 1, ht _ _ _ q (i1 _ j1) ?_, j2, (c1.trans c2).trans (i3.trans j3)⟩
  rw [j2.i, r.i]
  simp [runO]
  omega
end
end K69
set_option Elab.async false
set_option linter.all false
set_option maxRecDepth 100000
set_option maxHeartbeats 800000
/-! NrD: a row laid ahead of itself, run whole. -/
namespace K69
open NM
section
variable {w : Nat → List Nat} {m1 m2 b a fd pl tk k : Nat} {S S1 S' : Hh} {e m : Int} {P T : List AV}
def run0 (w : Nat → List Nat) (m1 m2 n : Nat) (f : List Nat) (r o : List AV) : Hh := [runO w m1 m2 (n + 1) 0 0 (n + 2) (n + 3), .dic (FD w m1 m2), .lst [strg r, strg o], .lst [eatT f 2]]
theorem p_rinit (hw : WD w) {f : List Nat} {al : Nat} {r o : List AV} (hal : S[al]? = some (.lst [.tup r, .tup o])) :
    phi TT (k + 4) 5 [.ref S.length, prog w m1 m2, .str f, .ref al] (S ++ [.ins 0 []]) = .ok .non (S ++ run0 w m1 m2 S.length f r o) := by
  have h34 : ¬ w 3 = w 4 := by rw [hw _ _ (by decide) (by decide)]; decide
  have h35 : ¬ w 3 = w 5 := by rw [hw _ _ (by decide) (by decide)]; decide
  have h36 : ¬ w 3 = w 6 := by rw [hw _ _ (by decide) (by decide)]; decide
  have h37 : ¬ w 3 = w 7 := by rw [hw _ _ (by decide) (by decide)]; decide
  have h45 : ¬ w 4 = w 5 := by rw [hw _ _ (by decide) (by decide)]; decide
  have h46 : ¬ w 4 = w 6 := by rw [hw _ _ (by decide) (by decide)]; decide
  have h47 : ¬ w 4 = w 7 := by rw [hw _ _ (by decide) (by decide)]; decide
  have h56 : ¬ w 5 = w 6 := by rw [hw _ _ (by decide) (by decide)]; decide
  have h57 : ¬ w 5 = w 7 := by rw [hw _ _ (by decide) (by decide)]; decide
  have h67 : ¬ w 6 = w 7 := by rw [hw _ _ (by decide) (by decide)]; decide
  have hl : line = 1000000 := rfl
  have hb := inn_of hal
  rw [phi_at (Fc := ⟨4, 6, c5⟩) rfl]
  have fin : sweep (S ++ [AO.ins 0 []]) AV.non (S ++ run0 w m1 m2 S.length f r o) = .ok .non (S ++ run0 w m1 m2 S.length f r o) := sweep_chg (a := S.length) (by simp [Inn]) (by simp [run0, runO])
  refine Eq.trans ?_ fin
  simp [List.lookup_cons, runF, c5, hal, hb, hl, ixA, prog, putN, putD, wipeA, layF, goneF, onF, pickF, skipF, h34, h35, h36, h37, h45, h46, h47, h56, h57, h67, p_worn_t, wO_l, run0, runO, eatT, FD]
theorem p_outcome {r : List AV} (hr : r ≠ []) (hf : flatAll r = true) (hl : r.length ≤ 100000) (s : Rs w m1 m2 b a fd pl tk S e m [strg r] []) : phi TT (k + 3) 13 [.ref a] S = .ok (.tup r) S := by
  have hi := s.i
  have hp := s.p
  have ht := s.t
  have q := p_unstrung k r S hf hl
  rw [phi_at (Fc := ⟨1, 1, c13⟩) rfl]
  obtain ⟨x, r, rfl⟩ : ∃ x r', r = x :: r' := by cases r with | nil => exact absurd rfl hr | cons x r' => exact ⟨x, r', rfl⟩
  simp only [strg] at q
  simp [runF, c13, hi, hp, ht, runO, List.lookup_cons, ixA, strg, q]
theorem p_reaten (s : Rs w m1 m2 b a fd pl tk S e m P T) : phi TT (k + 2) 11 [.ref a] S = .ok (.int e) S := by
  have hi := s.i
  rw [phi_at (Fc := ⟨1, 1, c11⟩) rfl]
  simp [runF, c11, hi, runO, List.lookup_cons]
theorem p_rmade (s : Rs w m1 m2 b a fd pl tk S e m P T) : phi TT (k + 2) 12 [.ref a] S = .ok (.int m) S := by
  have hi := s.i
  rw [phi_at (Fc := ⟨1, 1, c12⟩) rfl]
  simp [runF, c12, hi, runO, List.lookup_cons]
def rnC : NM.T := .val (.meth 0 (.var 4) [])
def rnB : List C := [.ifs (.val (.cmp .gt (.bin .add (.meth 5 (.var 4) []) (.meth 6 (.var 4) [])) (.var 3))) [.never] []]
def Rn (k a : Nat) (S S' : Hh) : Prop := ∀ o0 o1 o2 : Option AV, whR (evT (gam TT (phi TT (k + 1)) (phi TT k)) rnC) (evCs (gam TT (phi TT (k + 1)) (phi TT k)) rnB) [o0, o1, o2, some (.int 20000), some (.ref a)] S = .ok (.nx, [o0, o1, o2, some (.int 20000), some (.ref a)]) S'
theorem rn_done (r : Rs w m1 m2 b a fd pl tk S e m P []) : Rn (k + 1) a S S := by
  intro o0 o1 o2
  have hi := r.i
  have q := p_turn_no (k := k) r
  simp only [runO] at hi
  refine whR_done ?_
  simp [rnC, hi, mt_turn, q]
theorem rn_step {e' m' : Int} {P' T' : List AV} {pl' : Nat} (r : Rs w m1 m2 b a fd pl tk S e m P T) (h : phi TT (k + 2) 6 [.ref a] S = .ok (.bl true) S1) (r1 : Rs w m1 m2 b a fd pl' tk S1 e' m' P' T') (hle : e' + m' ≤ 20000) (n : Rn (k + 1) a S1 S') : Rn (k + 1) a S S' := by
  intro o0 o1 o2
  have hi := r.i
  have hi1 := r1.i
  have q1 := p_reaten (k := k) r1
  have q2 := p_rmade (k := k) r1
  simp only [runO] at hi hi1
  have hlt : ¬ 20000 < e' + m' := by omega
  refine whR_next (S1 := S1) (ls1 := [o0, o1, o2, some (.int 20000), some (.ref a)]) (S2 := S1) ?_ ?_ (n o0 o1 o2)
  · simp [rnC, hi, mt_turn, h]
  · simp [rnB, hi1, mt_reaten, mt_rmade, q1, q2, hlt]
theorem rn_all (hw : WD w) (hm : m1 = 0 ∨ m1 = 1 ∨ m1 = 2) {o l : List AV} (hl : l.length = cnt m2) : ∀ {os dn : List (List AV)} {S : Hh} {pl : Nat} {e : Int}, (∀ x ∈ os, x.length = m1) → (∀ x ∈ dn, x.length = m1) → dn.length + os.length ≤ 5000 → e = dn.length → Rs w m1 m2 b a fd pl tk S e 0 (dn.flatten ++ [strg (rowB w os l), strg o]) (List.replicate dn.length (mkK (w 1) m1) ++ [eatT (w 3) 2]) →
    ∃ S' pl', Rn (k + 3) a S S' ∧ Rs w m1 m2 b a fd pl' tk S' (e + os.length + 1) (dn.length + os.length : Nat) [strg (((dn ++ os).map fun x => AV.tup (.str (w 1) :: x)) ++ o)] [] ∧ Rp b S S'
  | [], dn, S, pl, e, _, hdn, hn, he, r => by
    obtain ⟨S1, pl1, h, r1, c1⟩ := turn_last (k := k) hw (by omega) hl hdn (by omega) r
    have hz : (0 : Int) + (dn.length : Nat) = (dn.length : Nat) := by omega
    rw [hz] at r1
    refine ⟨S1, pl1, rn_step (k := k + 2) r h r1 ?_ (rn_done (k := k + 2) r1), ?_, c1⟩
    · simp only [List.length_nil] at hn; omega
    · simpa using r1
  | x :: os, dn, S, pl, e, hos, hdn, hn, he, r => by
    have hx : x.length = m1 := hos x List.mem_cons_self
    have hc : cnt m1 = m1 := by rcases hm with rfl | rfl | rfl <;> rfl
    simp only [List.length_cons] at hn
    have hfl : dn.flatten.length ≤ dn.length * 2 := by
      clear r hn he
      induction dn with
      | nil => simp
      | cons z dn ih =>
        have := ih fun x h => hdn x (List.mem_cons_of_mem _ h)
        have hz := hdn z List.mem_cons_self
        simp only [List.flatten_cons, List.length_append, List.length_cons]
        omega
    obtain ⟨S1, pl1, h, r1, c1⟩ := turn_open (k := k) hw hm (by rw [hc]; exact hx) r (by omega) (by simp; omega)
    have r1' : Rs w m1 m2 b a fd pl1 tk S1 (e + 1) 0 ((dn ++ [x]).flatten ++ [strg (rowB w os l), strg o]) (List.replicate (dn ++ [x]).length (mkK (w 1) m1) ++ [eatT (w 3) 2]) := by
      have h1 : (dn ++ [x]).flatten = dn.flatten ++ x := by simp
      have h2 : (dn ++ [x]).length = dn.length + 1 := by simp
      rw [h1, h2, List.replicate_succ']
      exact r1
    obtain ⟨S', pl', n, r2, c2⟩ := rn_all hw hm hl (os := os) (dn := dn ++ [x]) (fun y h => hos y (List.mem_cons_of_mem _ h)) (fun y h => by
      rcases List.mem_append.mp h with h | h
      · exact hdn y h
      · simp at h; rw [h]; exact hx) (by simp; omega) (by simp; omega) r1'
    refine ⟨S', pl', rn_step (k := k + 2) r h r1 (by omega) n, ?_, c1.trans c2⟩
    have h3 : e + ((x :: os).length : Nat) + 1 = e + 1 + (os.length : Nat) + 1 := by simp; omega
    have h4 : dn.length + (x :: os).length = (dn ++ [x]).length + os.length := by simp; omega
    rw [h3, h4]
    simpa using r2
theorem flat_rowB {os : List (List AV)} {l : List AV} (hos : ∀ x ∈ os, flatAll x = true) (hl : flatAll l = true) : flatAll (rowB w os l) = true := by
  induction os with
  | nil => simp [rowB, laB, flatAll, AV.flat, hl]
  | cons x os ih =>
    have := ih fun y h => hos y (List.mem_cons_of_mem _ h)
    simp only [rowB] at this
    simp [rowB, opB, flatAll, AV.flat, hos x List.mem_cons_self]
    exact this
theorem p_ran (hw : WD w) (hm : m1 = 0 ∨ m1 = 1 ∨ m1 = 2) {os : List (List AV)} {l : List AV} {al : Nat} (hos : ∀ x ∈ os, x.length = m1) (hl : l.length = cnt m2) (hf : ∀ x ∈ os, flatAll x = true) (hfl : flatAll l = true) (hn : os.length ≤ 5000)
    (hal : S[al]? = some (.lst [.tup (rowB w os l), .tup (rowB w os l)])) :
    phi TT (k + 6) 14 [prog w m1 m2, .str (w 3), .ref al, .int 20000] S = .ok (.tup [.tup (rowB w (os ++ os) l), .int (os.length + 1 : Nat), .int (os.length : Nat)]) S := by
  have q := p_rinit (k := k) (m1 := m1) (m2 := m2) hw (f := w 3) hal
  have r : Rs w m1 m2 S.length S.length (S.length + 1) (S.length + 2) (S.length + 3) (S ++ run0 w m1 m2 S.length (w 3) (rowB w os l) (rowB w os l)) 0 0 ([].flatten ++ [strg (rowB w os l), strg (rowB w os l)]) (List.replicate ([] : List (List AV)).length (mkK (w 1) m1) ++ [eatT (w 3) 2]) :=
    ⟨by simp [run0], by simp [run0], by simp [run0], by simp [run0], by omega, by omega, by omega, by omega⟩
  obtain ⟨S', pl', n, r2, c⟩ := rn_all (k := k + 1) hw hm (o := rowB w os l) hl (os := os) (dn := []) hos (fun x h => by cases h) (by simpa using hn) rfl r
  have e1 : ((([] : List (List AV)).length : Nat) : Int) + (os.length : Nat) + 1 = (os.length + 1 : Nat) := by simp
  have e2 : ((([] : List (List AV)).length + os.length : Nat) : Int) = (os.length : Nat) := by simp
  have e3 : ((([] : List (List AV)) ++ os).map fun x => AV.tup (.str (w 1) :: x)) ++ rowB w os l = rowB w (os ++ os) l := by
    simp only [rowB, List.nil_append, List.map_append, List.append_assoc]
    rfl
  rw [e1, e2, e3] at r2
  have q2 := p_reaten (k := k + 3) r2
  have q3 := p_rmade (k := k + 3) r2
  have hfr : flatAll (rowB w (os ++ os) l) = true := flat_rowB (fun x h => by rcases List.mem_append.mp h with h | h <;> exact hf x h) hfl
  have q4 := p_outcome (k := k + 2) (by simp [rowB]) hfr (by simp [rowB]; omega) r2
  have hi2 := r2.i
  simp only [runO] at hi2
  have hini : TT.ini 0 = some 5 := rfl
  rw [phi_at (Fc := ⟨4, 5, c14⟩) rfl]
  unfold Rn at n
  generalize hG : gam TT (phi TT (k + 4 + 1)) (phi TT (k + 4)) = G
  have hn' : evC G (.whl rnC rnB) [some (prog w m1 m2), some (.str (w 3)), some (.ref al), some (.int 20000), some (.ref S.length)] (S ++ run0 w m1 m2 S.length (w 3) (rowB w os l) (rowB w os l)) = .ok (.nx, [some (prog w m1 m2), some (.str (w 3)), some (.ref al), some (.int 20000), some (.ref S.length)]) S' := by
    rw [evC_whl, ← hG]
    exact n _ _ _
  have s1 : evC G (.asg (.nm 4) (.make 0 [.var 0, .var 1, .var 2] [])) [some (prog w m1 m2), some (.str (w 3)), some (.ref al), some (.int 20000), none] S = .ok (.nx, [some (prog w m1 m2), some (.str (w 3)), some (.ref al), some (.int 20000), some (.ref S.length)]) (S ++ run0 w m1 m2 S.length (w 3) (rowB w os l) (rowB w os l)) := by
    rw [← hG]
    simp [hini, q]
  have s3 : evC G (.ret (.tup [.meth 7 (.var 4) [], .meth 5 (.var 4) [], .meth 6 (.var 4) []])) [some (prog w m1 m2), some (.str (w 3)), some (.ref al), some (.int 20000), some (.ref S.length)] S' = .ok (.rt (.tup [.tup (rowB w (os ++ os) l), .int (os.length + 1 : Nat), .int (os.length : Nat)]), [some (prog w m1 m2), some (.str (w 3)), some (.ref al), some (.int 20000), some (.ref S.length)]) S' := by
    rw [← hG]
    simp [hi2, mt_rout, mt_reaten, mt_rmade, q2, q3, q4]
  have e4 : runF G ⟨4, 5, c14⟩ [prog w m1 m2, .str (w 3), .ref al, .int 20000] S = sweep S (.tup [.tup (rowB w (os ++ os) l), .int (os.length + 1 : Nat), .int (os.length : Nat)]) S' := by
    unfold runF
    rw [if_pos (by rfl)]
    show (evCs G c14 [some (prog w m1 m2), some (.str (w 3)), some (.ref al), some (.int 20000), none] S).bind _ = _
    rw [show evCs G c14 [some (prog w m1 m2), some (.str (w 3)), some (.ref al), some (.int 20000), none] S = _ from evCs_p s1 (evCs_p hn' (evCs_q s3))]
    rfl
  rw [e4]
  refine sweep_flat ?_ ((Kp.app (Nat.le_refl _)).trans c.kp)
  simp [AV.flat, flatAll, hfr]
end
end K69
set_option Elab.async false
set_option linter.all false
set_option maxRecDepth 100000
set_option maxHeartbeats 1600000
/-! NsP: the program as the law writes it (printed by genP.py). -/
namespace K69
open NM
section
variable {w : Nat → List Nat}
theorem flat_nmT : ∀ m, flatAll (nmT w m) = true
  | 0 => rfl
  | 1 => rfl
  | m + 2 => rfl
theorem p_made {k b m : Nat} {fl r : AV} {S : Hh} (hm : m = 0 ∨ m = 1 ∨ m = 2) (hr : r.flat = true) : phi TT (k + 2) 34 [.tup [.str (w b), .int (m : Nat), fl], .tup (nmL w m), r] S = .ok (mkT w b m r) S := by
  have hln : line = 1000000 := rfl
  have fin : ∀ T, sweep S (mkT w b m r) (S ++ T) = .ok (mkT w b m r) S := fun T => sweep_flat (by simp [mkT, AV.flat, flatAll, flat_nmT, hr]) (Kp.app (Nat.le_refl _))
  rw [phi_at (Fc := ⟨3, 4, c34⟩) rfl]
  rcases hm with rfl | rfl | rfl
  · refine Eq.trans ?_ (fin [.lst (nmT w 0)])
    simp [runF, c34, ixA, nmL, cutA, sIx, wipeA, hln, mkT, nmT, nT]
  · refine Eq.trans ?_ (fin [.lst (nmT w 1)])
    simp [runF, c34, ixA, nmL, cutA, sIx, wipeA, hln, mkT, nmT, nT]
  · refine Eq.trans ?_ (fin [.lst (nmT w 2)])
    simp [runF, c34, ixA, nmL, cutA, sIx, wipeA, hln, mkT, nmT, nT]
theorem flat_nmL : ∀ m, flatAll (nmL w m) = true
  | 0 => rfl
  | 1 => rfl
  | m + 2 => rfl
theorem flat_app : ∀ {a b : List AV}, flatAll a = true → flatAll b = true → flatAll (a ++ b) = true
  | [], _, _, h => h
  | x :: a, b, h, h2 => by
    simp only [flatAll, Bool.and_eq_true] at h
    simp only [List.cons_append, flatAll, Bool.and_eq_true]
    exact ⟨h.1, flat_app h.2 h2⟩
theorem flat_prog {m1 m2 : Nat} : (prog w m1 m2).flat = true := by
  have hd : ((nmT w m1 ++ [AV.tup [.str [110, 117, 109], .int 3]]).headD AV.non).flat = true := by
    match m1 with
    | 0 => rfl
    | 1 => rfl
    | m + 2 => rfl
  have ho : flatAll (nmL w m1 ++ [.str (w 16)]) = true := flat_app (flat_nmL m1) rfl
  simp only [prog, shp, bd1, bd2, layF, goneF, onF, pickF, skipF, par2, parN, par1, mkT, againT, fewerT, ifT, chosenT, skipT, openN, lastN, nT, AV.flat, flatAll, flat_nmT, flat_nmL, hd, ho, Bool.and_true, Bool.true_and, Bool.and_self]
def wsL (w : Nat → List Nat) : List AV := [.str (w 0), .str (w 1), .str (w 2), .str (w 3), .str (w 4), .str (w 5), .str (w 6), .str (w 7), .str (w 8), .str (w 9), .str (w 10), .str (w 11), .str (w 12), .str (w 13), .str (w 14), .str (w 15), .str (w 16), .str (w 17), .str (w 18), .str (w 19)]
theorem p_program {k wl bl m1 m2 : Nat} {S : Hh} (hm1 : m1 = 0 ∨ m1 = 1 ∨ m1 = 2) (hm2 : m2 = 0 ∨ m2 = 1 ∨ m2 = 2) (hw : S[wl]? = some (.lst (wsL w))) (hb : S[bl]? = some (.lst [bd1 w m1, bd2 w m2])) :
    phi TT (k + 3) 35 [.ref wl, .ref bl] S = .ok (prog w m1 m2) S := by
  have hln : line = 1000000 := rfl
  have a1 : ∀ S, phi TT (k + 2) 34 [bd1 w m1, .tup (nmL w m1), againT w] S = .ok (mkT w 1 m1 (againT w)) S := fun S => p_made hm1 rfl
  have a2 : ∀ S, phi TT (k + 2) 34 [bd2 w m2, .tup (nmL w m2), .non] S = .ok (mkT w 2 m2 .non) S := fun S => p_made hm2 rfl
  have hc1 : cutA (wsL w) (some 13) (some (13 + (m1 : Int))) = nmL w m1 := by rcases hm1 with rfl | rfl | rfl <;> rfl
  have hc2 : cutA (wsL w) (some 13) (some (13 + (m2 : Int))) = nmL w m2 := by rcases hm2 with rfl | rfl | rfl <;> rfl
  have hadd : ∀ S, bin2 .add (.tup (nmL w m1)) (.tup [.str (w 16)]) S = .ok (.tup (nmL w m1 ++ [.str (w 16)])) S := fun S => by
    rw [b2_addT]
    exact if_pos (by rw [hln]; rcases hm1 with rfl | rfl | rfl <;> simp [nmL])
  rw [phi_at (Fc := ⟨2, 23, c35⟩) rfl]
  generalize hG : gam TT (phi TT (k + 2)) (phi TT (k + 1)) = G
  have hGf : G.fn = phi TT (k + 2) := by rw [← hG]; rfl
  have hw0 := hw
  have hb0 := hb
  have fin : ∀ T, sweep S (prog w m1 m2) (S ++ T) = .ok (prog w m1 m2) S := fun T => sweep_flat flat_prog (Kp.app (Nat.le_refl _))
  generalize hS0 : S = S0 at hw0 hb0
  have i10 := inn_of hw0
  have i20 := inn_of hb0
  generalize hS1 : S0 ++ [AO.lst (nmL w m1)] = S1
  have hw1 : S1[wl]? = some (.lst (wsL w)) := by rw [← hS1]; exact get_app hw0
  have hb1 : S1[bl]? = some (.lst [bd1 w m1, bd2 w m2]) := by rw [← hS1]; exact get_app hb0
  have i11 := inn_of hw1
  have i21 := inn_of hb1
  generalize hS2 : S1 ++ [AO.lst (nmL w m2)] = S2
  have hw2 : S2[wl]? = some (.lst (wsL w)) := by rw [← hS2]; exact get_app hw1
  have hb2 : S2[bl]? = some (.lst [bd1 w m1, bd2 w m2]) := by rw [← hS2]; exact get_app hb1
  generalize hS3 : S2 ++ [AO.lst (nmT w m1), .lst [.tup [.str [110, 117, 109], .int 3]], .lst (nmT w m1 ++ [.tup [.str [110, 117, 109], .int 3]])] = S3
  have hw3 : S3[wl]? = some (.lst (wsL w)) := by rw [← hS3]; exact get_app hw2
  have hb3 : S3[bl]? = some (.lst [bd1 w m1, bd2 w m2]) := by rw [← hS3]; exact get_app hb2
  have s0 : evC G (.asg (.tp [.nm 2, .nm 3]) (.tup [.idx (.var 0) (.cst (.int 0)), .idx (.var 0) (.cst (.int 10))])) [some (.ref wl), some (.ref bl), none, none, none, none, none, none, none, none, none, none, none, none, none, none, none, none, none, none, none, none, none] S0 = .ok (.nx, [some (.ref wl), some (.ref bl), some (.str (w 0)), some (.str (w 10)), none, none, none, none, none, none, none, none, none, none, none, none, none, none, none, none, none, none, none]) S0 := by
    simp [hw0, hb0, ixA, wsL]
  have s1 : evC G (.asg (.tp [.nm 4, .nm 5]) (.tup [.idx (.var 0) (.cst (.int 11)), .idx (.var 0) (.cst (.int 12))])) [some (.ref wl), some (.ref bl), some (.str (w 0)), some (.str (w 10)), none, none, none, none, none, none, none, none, none, none, none, none, none, none, none, none, none, none, none] S0 = .ok (.nx, [some (.ref wl), some (.ref bl), some (.str (w 0)), some (.str (w 10)), some (.str (w 11)), some (.str (w 12)), none, none, none, none, none, none, none, none, none, none, none, none, none, none, none, none, none]) S0 := by
    simp [hw0, hb0, ixA, wsL]
  have s2 : evC G (.asg (.nm 6) (.bi .tuple [.slc (.var 0) (some (.cst (.int 13))) (some (.bin .add (.cst (.int 13)) (.idx (.idx (.var 1) (.cst (.int 0))) (.cst (.int 1)))))])) [some (.ref wl), some (.ref bl), some (.str (w 0)), some (.str (w 10)), some (.str (w 11)), some (.str (w 12)), none, none, none, none, none, none, none, none, none, none, none, none, none, none, none, none, none] S0 = .ok (.nx, [some (.ref wl), some (.ref bl), some (.str (w 0)), some (.str (w 10)), some (.str (w 11)), some (.str (w 12)), some (.tup (nmL w m1)), none, none, none, none, none, none, none, none, none, none, none, none, none, none, none, none]) S1 := by
    simp [hw0, hb0, ixA, bd1, hc1, i10, i20, ← hS1]
  have s3 : evC G (.asg (.nm 7) (.bi .tuple [.slc (.var 0) (some (.cst (.int 13))) (some (.bin .add (.cst (.int 13)) (.idx (.idx (.var 1) (.cst (.int 1))) (.cst (.int 1)))))])) [some (.ref wl), some (.ref bl), some (.str (w 0)), some (.str (w 10)), some (.str (w 11)), some (.str (w 12)), some (.tup (nmL w m1)), none, none, none, none, none, none, none, none, none, none, none, none, none, none, none, none] S1 = .ok (.nx, [some (.ref wl), some (.ref bl), some (.str (w 0)), some (.str (w 10)), some (.str (w 11)), some (.str (w 12)), some (.tup (nmL w m1)), some (.tup (nmL w m2)), none, none, none, none, none, none, none, none, none, none, none, none, none, none, none]) S2 := by
    simp [hw1, hb1, ixA, bd2, hc2, i11, i21, ← hS2]
  have s4 : evC G (.asg (.tp [.nm 8, .nm 9]) (.tup [.idx (.var 0) (.cst (.int 16)), .tup [.tup [.var 3, .var 2], .tup [.var 4, .var 2]]])) [some (.ref wl), some (.ref bl), some (.str (w 0)), some (.str (w 10)), some (.str (w 11)), some (.str (w 12)), some (.tup (nmL w m1)), some (.tup (nmL w m2)), none, none, none, none, none, none, none, none, none, none, none, none, none, none, none] S2 = .ok (.nx, [some (.ref wl), some (.ref bl), some (.str (w 0)), some (.str (w 10)), some (.str (w 11)), some (.str (w 12)), some (.tup (nmL w m1)), some (.tup (nmL w m2)), some (.str (w 16)), some (par2 w), none, none, none, none, none, none, none, none, none, none, none, none, none]) S2 := by
    simp [hw2, hb2, ixA, wsL, par2]
  have s5 : evC G (.asg (.nm 10) (.tup [.cst (.str [99, 97, 108, 108]), .idx (.var 0) (.cst (.int 3)), .tup [.tup [.cst (.str [110, 97, 109, 101]), .var 8], .tup [.cst (.str [110, 97, 109, 101]), .var 4]]])) [some (.ref wl), some (.ref bl), some (.str (w 0)), some (.str (w 10)), some (.str (w 11)), some (.str (w 12)), some (.tup (nmL w m1)), some (.tup (nmL w m2)), some (.str (w 16)), some (par2 w), none, none, none, none, none, none, none, none, none, none, none, none, none] S2 = .ok (.nx, [some (.ref wl), some (.ref bl), some (.str (w 0)), some (.str (w 10)), some (.str (w 11)), some (.str (w 12)), some (.tup (nmL w m1)), some (.tup (nmL w m2)), some (.str (w 16)), some (par2 w), some (againT w), none, none, none, none, none, none, none, none, none, none, none, none]) S2 := by
    simp [hw2, hb2, ixA, wsL, againT, nT]
  have s6 : evC G (.asg (.nm 11) (.tup [.bin .add (.var 6) (.tup [.var 8]), .call 34 [.idx (.var 1) (.cst (.int 0)), .var 6, .var 10] []])) [some (.ref wl), some (.ref bl), some (.str (w 0)), some (.str (w 10)), some (.str (w 11)), some (.str (w 12)), some (.tup (nmL w m1)), some (.tup (nmL w m2)), some (.str (w 16)), some (par2 w), some (againT w), none, none, none, none, none, none, none, none, none, none, none, none] S2 = .ok (.nx, [some (.ref wl), some (.ref bl), some (.str (w 0)), some (.str (w 10)), some (.str (w 11)), some (.str (w 12)), some (.tup (nmL w m1)), some (.tup (nmL w m2)), some (.str (w 16)), some (par2 w), some (againT w), some (.tup [openN w m1, mkT w 1 m1 (againT w)]), none, none, none, none, none, none, none, none, none, none, none]) S2 := by
    simp [hw2, hb2, ixA, wsL, openN, a1, hadd, hGf]
  have s7 : evC G (.asg (.nm 12) (.tup [.var 7, .tup [.cst (.str [110, 97, 109, 101]), .var 4]])) [some (.ref wl), some (.ref bl), some (.str (w 0)), some (.str (w 10)), some (.str (w 11)), some (.str (w 12)), some (.tup (nmL w m1)), some (.tup (nmL w m2)), some (.str (w 16)), some (par2 w), some (againT w), some (.tup [openN w m1, mkT w 1 m1 (againT w)]), none, none, none, none, none, none, none, none, none, none, none] S2 = .ok (.nx, [some (.ref wl), some (.ref bl), some (.str (w 0)), some (.str (w 10)), some (.str (w 11)), some (.str (w 12)), some (.tup (nmL w m1)), some (.tup (nmL w m2)), some (.str (w 16)), some (par2 w), some (againT w), some (.tup [openN w m1, mkT w 1 m1 (againT w)]), some (.tup [lastN w m2, nT (w 11)]), none, none, none, none, none, none, none, none, none, none]) S2 := by
    simp [hw2, hb2, ixA, wsL, lastN, nT]
  have s8 : evC G (.asg (.nm 13) (.tup [.idx (.var 0) (.cst (.int 3)), .var 9, .var 2, .tup [.var 11, .var 12]])) [some (.ref wl), some (.ref bl), some (.str (w 0)), some (.str (w 10)), some (.str (w 11)), some (.str (w 12)), some (.tup (nmL w m1)), some (.tup (nmL w m2)), some (.str (w 16)), some (par2 w), some (againT w), some (.tup [openN w m1, mkT w 1 m1 (againT w)]), some (.tup [lastN w m2, nT (w 11)]), none, none, none, none, none, none, none, none, none, none] S2 = .ok (.nx, [some (.ref wl), some (.ref bl), some (.str (w 0)), some (.str (w 10)), some (.str (w 11)), some (.str (w 12)), some (.tup (nmL w m1)), some (.tup (nmL w m2)), some (.str (w 16)), some (par2 w), some (againT w), some (.tup [openN w m1, mkT w 1 m1 (againT w)]), some (.tup [lastN w m2, nT (w 11)]), some (layF w m1 m2), none, none, none, none, none, none, none, none, none]) S2 := by
    simp [hw2, hb2, ixA, wsL, layF]
  have s9 : evC G (.asg (.nm 14) (.tup [.cst (.str [99, 97, 108, 108]), .idx (.var 0) (.cst (.int 4)), .tup [.tup [.cst (.str [110, 97, 109, 101]), .var 8], .tup [.cst (.str [111, 112]), .cst (.str [45]), .tup [.cst (.str [110, 97, 109, 101]), .var 5], .tup [.cst (.str [110, 117, 109]), .cst (.int 1)]]]])) [some (.ref wl), some (.ref bl), some (.str (w 0)), some (.str (w 10)), some (.str (w 11)), some (.str (w 12)), some (.tup (nmL w m1)), some (.tup (nmL w m2)), some (.str (w 16)), some (par2 w), some (againT w), some (.tup [openN w m1, mkT w 1 m1 (againT w)]), some (.tup [lastN w m2, nT (w 11)]), some (layF w m1 m2), none, none, none, none, none, none, none, none, none] S2 = .ok (.nx, [some (.ref wl), some (.ref bl), some (.str (w 0)), some (.str (w 10)), some (.str (w 11)), some (.str (w 12)), some (.tup (nmL w m1)), some (.tup (nmL w m2)), some (.str (w 16)), some (par2 w), some (againT w), some (.tup [openN w m1, mkT w 1 m1 (againT w)]), some (.tup [lastN w m2, nT (w 11)]), some (layF w m1 m2), some (fewerT w), none, none, none, none, none, none, none, none]) S2 := by
    simp [hw2, hb2, ixA, wsL, fewerT, nT]
  have s10 : evC G (.asg (.nm 14) (.tup [.cst (.str [105, 102]), .tup [.cst (.str [110, 97, 109, 101]), .var 5], .var 14, .tup [.cst (.str [110, 97, 109, 101]), .var 8]])) [some (.ref wl), some (.ref bl), some (.str (w 0)), some (.str (w 10)), some (.str (w 11)), some (.str (w 12)), some (.tup (nmL w m1)), some (.tup (nmL w m2)), some (.str (w 16)), some (par2 w), some (againT w), some (.tup [openN w m1, mkT w 1 m1 (againT w)]), some (.tup [lastN w m2, nT (w 11)]), some (layF w m1 m2), some (fewerT w), none, none, none, none, none, none, none, none] S2 = .ok (.nx, [some (.ref wl), some (.ref bl), some (.str (w 0)), some (.str (w 10)), some (.str (w 11)), some (.str (w 12)), some (.tup (nmL w m1)), some (.tup (nmL w m2)), some (.str (w 16)), some (par2 w), some (againT w), some (.tup [openN w m1, mkT w 1 m1 (againT w)]), some (.tup [lastN w m2, nT (w 11)]), some (layF w m1 m2), some (ifT w), none, none, none, none, none, none, none, none]) S2 := by
    simp [hw2, hb2, ixA, wsL, ifT, nT]
  have s11 : evC G (.asg (.nm 11) (.tup [.bin .add (.var 6) (.tup [.var 8]), .var 14])) [some (.ref wl), some (.ref bl), some (.str (w 0)), some (.str (w 10)), some (.str (w 11)), some (.str (w 12)), some (.tup (nmL w m1)), some (.tup (nmL w m2)), some (.str (w 16)), some (par2 w), some (againT w), some (.tup [openN w m1, mkT w 1 m1 (againT w)]), some (.tup [lastN w m2, nT (w 11)]), some (layF w m1 m2), some (ifT w), none, none, none, none, none, none, none, none] S2 = .ok (.nx, [some (.ref wl), some (.ref bl), some (.str (w 0)), some (.str (w 10)), some (.str (w 11)), some (.str (w 12)), some (.tup (nmL w m1)), some (.tup (nmL w m2)), some (.str (w 16)), some (par2 w), some (againT w), some (.tup [openN w m1, ifT w]), some (.tup [lastN w m2, nT (w 11)]), some (layF w m1 m2), some (ifT w), none, none, none, none, none, none, none, none]) S2 := by
    simp [hw2, hb2, ixA, wsL, openN, hadd]
  have s12 : evC G (.asg (.nm 15) (.tup [.var 7, .call 34 [.idx (.var 1) (.cst (.int 1)), .var 7, .cst .non] []])) [some (.ref wl), some (.ref bl), some (.str (w 0)), some (.str (w 10)), some (.str (w 11)), some (.str (w 12)), some (.tup (nmL w m1)), some (.tup (nmL w m2)), some (.str (w 16)), some (par2 w), some (againT w), some (.tup [openN w m1, ifT w]), some (.tup [lastN w m2, nT (w 11)]), some (layF w m1 m2), some (ifT w), none, none, none, none, none, none, none, none] S2 = .ok (.nx, [some (.ref wl), some (.ref bl), some (.str (w 0)), some (.str (w 10)), some (.str (w 11)), some (.str (w 12)), some (.tup (nmL w m1)), some (.tup (nmL w m2)), some (.str (w 16)), some (par2 w), some (againT w), some (.tup [openN w m1, ifT w]), some (.tup [lastN w m2, nT (w 11)]), some (layF w m1 m2), some (ifT w), some (.tup [lastN w m2, mkT w 2 m2 .non]), none, none, none, none, none, none, none]) S2 := by
    simp [hw2, hb2, ixA, wsL, lastN, a2, hGf]
  have s13 : evC G (.asg (.nm 16) (.tup [.idx (.var 0) (.cst (.int 4)), .tup [.tup [.var 3, .var 2], .tup [.var 5, .cst (.str [110, 117, 109])]], .var 2, .tup [.var 11, .var 15]])) [some (.ref wl), some (.ref bl), some (.str (w 0)), some (.str (w 10)), some (.str (w 11)), some (.str (w 12)), some (.tup (nmL w m1)), some (.tup (nmL w m2)), some (.str (w 16)), some (par2 w), some (againT w), some (.tup [openN w m1, ifT w]), some (.tup [lastN w m2, nT (w 11)]), some (layF w m1 m2), some (ifT w), some (.tup [lastN w m2, mkT w 2 m2 .non]), none, none, none, none, none, none, none] S2 = .ok (.nx, [some (.ref wl), some (.ref bl), some (.str (w 0)), some (.str (w 10)), some (.str (w 11)), some (.str (w 12)), some (.tup (nmL w m1)), some (.tup (nmL w m2)), some (.str (w 16)), some (par2 w), some (againT w), some (.tup [openN w m1, ifT w]), some (.tup [lastN w m2, nT (w 11)]), some (layF w m1 m2), some (ifT w), some (.tup [lastN w m2, mkT w 2 m2 .non]), some (goneF w m1 m2), none, none, none, none, none, none]) S2 := by
    simp [hw2, hb2, ixA, wsL, goneF, parN]
  have s14 : evC G (.asg (.nm 17) (.tup [.idx (.var 0) (.cst (.int 5)), .var 9, .var 2, .tup [.tup [.bin .add (.var 6) (.tup [.var 8]), .tup [.cst (.str [110, 97, 109, 101]), .var 4]], .tup [.var 7, .tup [.cst (.str [110, 97, 109, 101]), .var 4]]]])) [some (.ref wl), some (.ref bl), some (.str (w 0)), some (.str (w 10)), some (.str (w 11)), some (.str (w 12)), some (.tup (nmL w m1)), some (.tup (nmL w m2)), some (.str (w 16)), some (par2 w), some (againT w), some (.tup [openN w m1, ifT w]), some (.tup [lastN w m2, nT (w 11)]), some (layF w m1 m2), some (ifT w), some (.tup [lastN w m2, mkT w 2 m2 .non]), some (goneF w m1 m2), none, none, none, none, none, none] S2 = .ok (.nx, [some (.ref wl), some (.ref bl), some (.str (w 0)), some (.str (w 10)), some (.str (w 11)), some (.str (w 12)), some (.tup (nmL w m1)), some (.tup (nmL w m2)), some (.str (w 16)), some (par2 w), some (againT w), some (.tup [openN w m1, ifT w]), some (.tup [lastN w m2, nT (w 11)]), some (layF w m1 m2), some (ifT w), some (.tup [lastN w m2, mkT w 2 m2 .non]), some (goneF w m1 m2), some (onF w m1 m2), none, none, none, none, none]) S2 := by
    simp [hw2, hb2, ixA, wsL, onF, openN, lastN, hadd, nT]
  have s15 : evC G (.asg (.nm 18) (.idx (.bin .add (.lc (.tup [.cst (.str [110, 97, 109, 101]), .var 11]) (.nm 11) (.val (.var 6)) [] [11]) (.lst [.tup [.cst (.str [110, 117, 109]), .cst (.int 3)]])) (.cst (.int 0)))) [some (.ref wl), some (.ref bl), some (.str (w 0)), some (.str (w 10)), some (.str (w 11)), some (.str (w 12)), some (.tup (nmL w m1)), some (.tup (nmL w m2)), some (.str (w 16)), some (par2 w), some (againT w), some (.tup [openN w m1, ifT w]), some (.tup [lastN w m2, nT (w 11)]), some (layF w m1 m2), some (ifT w), some (.tup [lastN w m2, mkT w 2 m2 .non]), some (goneF w m1 m2), some (onF w m1 m2), none, none, none, none, none] S2 = .ok (.nx, [some (.ref wl), some (.ref bl), some (.str (w 0)), some (.str (w 10)), some (.str (w 11)), some (.str (w 12)), some (.tup (nmL w m1)), some (.tup (nmL w m2)), some (.str (w 16)), some (par2 w), some (againT w), some (.tup [openN w m1, ifT w]), some (.tup [lastN w m2, nT (w 11)]), some (layF w m1 m2), some (ifT w), some (.tup [lastN w m2, mkT w 2 m2 .non]), some (goneF w m1 m2), some (onF w m1 m2), some ((nmT w m1 ++ [AV.tup [.str [110, 117, 109], .int 3]]).headD AV.non), none, none, none, none]) S3 := by
    have e1 := ev_lc_pure (G := G) (ls := [some (.ref wl), some (.ref bl), some (.str (w 0)), some (.str (w 10)), some (.str (w 11)), some (.str (w 12)), some (.tup (nmL w m1)), some (.tup (nmL w m2)), some (.str (w 16)), some (par2 w), some (againT w), some (.tup [openN w m1, ifT w]), some (.tup [lastN w m2, nT (w 11)]), some (layF w m1 m2), some (ifT w), some (.tup [lastN w m2, mkT w 2 m2 .non]), some (goneF w m1 m2), some (onF w m1 m2), none, none, none, none, none]) (S := S2) (S1 := S2) (elt := .tup [.cst (.str [110, 97, 109, 101]), .var 11]) (t := 11) (it := .val (.var 6)) (cs := []) (xs := nmL w m1) (gs := []) (h := fun x => some (.tup [.str [110, 97, 109, 101], x])) (by simp) rfl (fun x _ S => by simp [wipeA]) (by rcases hm1 with rfl | rfl | rfl <;> simp [nmL])
    rw [show (nmL w m1).filterMap (fun x => some (AV.tup [.str [110, 97, 109, 101], x])) = nmT w m1 by rcases hm1 with rfl | rfl | rfl <;> rfl] at e1
    have e3 : bin2 .add (.ref S2.length) (.ref (S2.length + 1)) (S2 ++ [.lst (nmT w m1), .lst [.tup [.str [110, 117, 109], .int 3]]]) = .ok (.ref (S2.length + 2)) S3 := by
      rw [b2_addR, show (S2 ++ [AO.lst (nmT w m1), .lst [.tup [.str [110, 117, 109], .int 3]]])[S2.length]? = some (.lst (nmT w m1)) by simp, show (S2 ++ [AO.lst (nmT w m1), .lst [.tup [.str [110, 117, 109], .int 3]]])[S2.length + 1]? = some (.lst [.tup [.str [110, 117, 109], .int 3]]) by simp]
      show (if _ then _ else _) = _
      rw [if_pos (by rw [hln]; rcases hm1 with rfl | rfl | rfl <;> simp [nmT]), ← hS3]
      simp
    have e4 : S3[S2.length + 2]? = some (.lst (nmT w m1 ++ [.tup [.str [110, 117, 109], .int 3]])) := by rw [← hS3]; simp
    have e5 : ixA (nmT w m1 ++ [AV.tup [.str [110, 117, 109], .int 3]]) 0 = some ((nmT w m1 ++ [AV.tup [.str [110, 117, 109], .int 3]]).headD AV.non) := by rcases hm1 with rfl | rfl | rfl <;> rfl
    rw [evC_asg, ev_idx, ev_bin, e1, bind_ok]
    simp [e3, e4, e5]
  have s16 : evC G (.asg (.nm 19) (.tup [.cst (.str [105, 102]), .tup [.cst (.str [111, 112]), .cst (.str [60]), .var 18, .tup [.cst (.str [110, 117, 109]), .cst (.int 2)]], .tup [.cst (.str [110, 97, 109, 101]), .var 8], .tup [.cst (.str [110, 97, 109, 101]), .var 4]])) [some (.ref wl), some (.ref bl), some (.str (w 0)), some (.str (w 10)), some (.str (w 11)), some (.str (w 12)), some (.tup (nmL w m1)), some (.tup (nmL w m2)), some (.str (w 16)), some (par2 w), some (againT w), some (.tup [openN w m1, ifT w]), some (.tup [lastN w m2, nT (w 11)]), some (layF w m1 m2), some (ifT w), some (.tup [lastN w m2, mkT w 2 m2 .non]), some (goneF w m1 m2), some (onF w m1 m2), some ((nmT w m1 ++ [AV.tup [.str [110, 117, 109], .int 3]]).headD AV.non), none, none, none, none] S3 = .ok (.nx, [some (.ref wl), some (.ref bl), some (.str (w 0)), some (.str (w 10)), some (.str (w 11)), some (.str (w 12)), some (.tup (nmL w m1)), some (.tup (nmL w m2)), some (.str (w 16)), some (par2 w), some (againT w), some (.tup [openN w m1, ifT w]), some (.tup [lastN w m2, nT (w 11)]), some (layF w m1 m2), some (ifT w), some (.tup [lastN w m2, mkT w 2 m2 .non]), some (goneF w m1 m2), some (onF w m1 m2), some ((nmT w m1 ++ [AV.tup [.str [110, 117, 109], .int 3]]).headD AV.non), some (chosenT w m1), none, none, none]) S3 := by
    simp [hw3, hb3, ixA, wsL, chosenT, nT]
  have s17 : evC G (.asg (.nm 20) (.tup [.idx (.var 0) (.cst (.int 6)), .var 9, .var 2, .tup [.tup [.bin .add (.var 6) (.tup [.var 8]), .var 19], .tup [.var 7, .tup [.cst (.str [110, 97, 109, 101]), .var 4]]]])) [some (.ref wl), some (.ref bl), some (.str (w 0)), some (.str (w 10)), some (.str (w 11)), some (.str (w 12)), some (.tup (nmL w m1)), some (.tup (nmL w m2)), some (.str (w 16)), some (par2 w), some (againT w), some (.tup [openN w m1, ifT w]), some (.tup [lastN w m2, nT (w 11)]), some (layF w m1 m2), some (ifT w), some (.tup [lastN w m2, mkT w 2 m2 .non]), some (goneF w m1 m2), some (onF w m1 m2), some ((nmT w m1 ++ [AV.tup [.str [110, 117, 109], .int 3]]).headD AV.non), some (chosenT w m1), none, none, none] S3 = .ok (.nx, [some (.ref wl), some (.ref bl), some (.str (w 0)), some (.str (w 10)), some (.str (w 11)), some (.str (w 12)), some (.tup (nmL w m1)), some (.tup (nmL w m2)), some (.str (w 16)), some (par2 w), some (againT w), some (.tup [openN w m1, ifT w]), some (.tup [lastN w m2, nT (w 11)]), some (layF w m1 m2), some (ifT w), some (.tup [lastN w m2, mkT w 2 m2 .non]), some (goneF w m1 m2), some (onF w m1 m2), some ((nmT w m1 ++ [AV.tup [.str [110, 117, 109], .int 3]]).headD AV.non), some (chosenT w m1), some (pickF w m1 m2), none, none]) S3 := by
    simp [hw3, hb3, ixA, wsL, pickF, openN, lastN, hadd, nT]
  have s18 : evC G (.asg (.nm 21) (.tup [.bin .add (.var 6) (.tup [.var 8]), .tup [.cst (.str [99, 97, 108, 108]), .idx (.var 0) (.cst (.int 7)), .tup [.tup [.cst (.str [110, 97, 109, 101]), .var 8]]]])) [some (.ref wl), some (.ref bl), some (.str (w 0)), some (.str (w 10)), some (.str (w 11)), some (.str (w 12)), some (.tup (nmL w m1)), some (.tup (nmL w m2)), some (.str (w 16)), some (par2 w), some (againT w), some (.tup [openN w m1, ifT w]), some (.tup [lastN w m2, nT (w 11)]), some (layF w m1 m2), some (ifT w), some (.tup [lastN w m2, mkT w 2 m2 .non]), some (goneF w m1 m2), some (onF w m1 m2), some ((nmT w m1 ++ [AV.tup [.str [110, 117, 109], .int 3]]).headD AV.non), some (chosenT w m1), some (pickF w m1 m2), none, none] S3 = .ok (.nx, [some (.ref wl), some (.ref bl), some (.str (w 0)), some (.str (w 10)), some (.str (w 11)), some (.str (w 12)), some (.tup (nmL w m1)), some (.tup (nmL w m2)), some (.str (w 16)), some (par2 w), some (againT w), some (.tup [openN w m1, ifT w]), some (.tup [lastN w m2, nT (w 11)]), some (layF w m1 m2), some (ifT w), some (.tup [lastN w m2, mkT w 2 m2 .non]), some (goneF w m1 m2), some (onF w m1 m2), some ((nmT w m1 ++ [AV.tup [.str [110, 117, 109], .int 3]]).headD AV.non), some (chosenT w m1), some (pickF w m1 m2), some (.tup [openN w m1, skipT w]), none]) S3 := by
    simp [hw3, hb3, ixA, wsL, openN, hadd, skipT, nT]
  have s19 : evC G (.asg (.nm 22) (.tup [.idx (.var 0) (.cst (.int 7)), .slc (.var 9) none (some (.cst (.int 1))), .var 2, .tup [.var 21, .var 15]])) [some (.ref wl), some (.ref bl), some (.str (w 0)), some (.str (w 10)), some (.str (w 11)), some (.str (w 12)), some (.tup (nmL w m1)), some (.tup (nmL w m2)), some (.str (w 16)), some (par2 w), some (againT w), some (.tup [openN w m1, ifT w]), some (.tup [lastN w m2, nT (w 11)]), some (layF w m1 m2), some (ifT w), some (.tup [lastN w m2, mkT w 2 m2 .non]), some (goneF w m1 m2), some (onF w m1 m2), some ((nmT w m1 ++ [AV.tup [.str [110, 117, 109], .int 3]]).headD AV.non), some (chosenT w m1), some (pickF w m1 m2), some (.tup [openN w m1, skipT w]), none] S3 = .ok (.nx, [some (.ref wl), some (.ref bl), some (.str (w 0)), some (.str (w 10)), some (.str (w 11)), some (.str (w 12)), some (.tup (nmL w m1)), some (.tup (nmL w m2)), some (.str (w 16)), some (par2 w), some (againT w), some (.tup [openN w m1, ifT w]), some (.tup [lastN w m2, nT (w 11)]), some (layF w m1 m2), some (ifT w), some (.tup [lastN w m2, mkT w 2 m2 .non]), some (goneF w m1 m2), some (onF w m1 m2), some ((nmT w m1 ++ [AV.tup [.str [110, 117, 109], .int 3]]).headD AV.non), some (chosenT w m1), some (pickF w m1 m2), some (.tup [openN w m1, skipT w]), some (skipF w m1 m2)]) S3 := by
    simp [hw3, hb3, ixA, wsL, skipF, par1, par2, cutA, sIx]
  have s20 : evC G (.ret (.tup [.tup [.tup [.var 2, .bi .tuple [.var 1]]], .tup [.var 13, .var 16, .var 17, .var 20, .var 22]])) [some (.ref wl), some (.ref bl), some (.str (w 0)), some (.str (w 10)), some (.str (w 11)), some (.str (w 12)), some (.tup (nmL w m1)), some (.tup (nmL w m2)), some (.str (w 16)), some (par2 w), some (againT w), some (.tup [openN w m1, ifT w]), some (.tup [lastN w m2, nT (w 11)]), some (layF w m1 m2), some (ifT w), some (.tup [lastN w m2, mkT w 2 m2 .non]), some (goneF w m1 m2), some (onF w m1 m2), some ((nmT w m1 ++ [AV.tup [.str [110, 117, 109], .int 3]]).headD AV.non), some (chosenT w m1), some (pickF w m1 m2), some (.tup [openN w m1, skipT w]), some (skipF w m1 m2)] S3 = .ok (.rt (prog w m1 m2), [some (.ref wl), some (.ref bl), some (.str (w 0)), some (.str (w 10)), some (.str (w 11)), some (.str (w 12)), some (.tup (nmL w m1)), some (.tup (nmL w m2)), some (.str (w 16)), some (par2 w), some (againT w), some (.tup [openN w m1, ifT w]), some (.tup [lastN w m2, nT (w 11)]), some (layF w m1 m2), some (ifT w), some (.tup [lastN w m2, mkT w 2 m2 .non]), some (goneF w m1 m2), some (onF w m1 m2), some ((nmT w m1 ++ [AV.tup [.str [110, 117, 109], .int 3]]).headD AV.non), some (chosenT w m1), some (pickF w m1 m2), some (.tup [openN w m1, skipT w]), some (skipF w m1 m2)]) S3 := by
    simp [hw3, hb3, prog, shp]
  have er : runF G ⟨2, 23, c35⟩ [.ref wl, .ref bl] S0 = sweep S0 (prog w m1 m2) S3 := by
    unfold runF
    rw [if_pos (by rfl)]
    show (evCs G c35 [some (.ref wl), some (.ref bl), none, none, none, none, none, none, none, none, none, none, none, none, none, none, none, none, none, none, none, none, none] S0).bind _ = _
    rw [show evCs G c35 [some (.ref wl), some (.ref bl), none, none, none, none, none, none, none, none, none, none, none, none, none, none, none, none, none, none, none, none, none] S0 = _ from evCs_n s0 (evCs_n s1 (evCs_n s2 (evCs_n s3 (evCs_n s4 (evCs_n s5 (evCs_n s6 (evCs_n s7 (evCs_n s8 (evCs_n s9 (evCs_n s10 (evCs_n s11 (evCs_n s12 (evCs_n s13 (evCs_n s14 (evCs_n s15 (evCs_n s16 (evCs_n s17 (evCs_n s18 (evCs_n s19 (evCs_r s20))))))))))))))))))))]
    rfl
  rw [hS0] at fin
  rw [er, ← hS3, ← hS2, ← hS1, List.append_assoc, List.append_assoc]
  exact fin _
end
end K69
set_option Elab.async false
set_option linter.all false
set_option maxRecDepth 100000
set_option maxHeartbeats 800000
/-! NsL: the long row. -/
namespace K69
open NM
section
variable {w : Nat → List Nat} {m1 m2 k : Nat}
theorem ev_bead {d l m : Nat} {nm : List Nat} {ls : Ls} {S : Hh} (h : Dl d l S) (hdl : d ≠ l) (hm : m < 900) (h9 : ls[9]? = some (some (.str nm))) (h10 : ls[10]? = some (some (.int (m : Nat)))) (hls : ∀ z : AV, ((wipeA ls [12]).set 12 (some z))[0]? = some (some (.ref d))) :
    ∃ (ns : List Int) (S' : Hh), ev (gam TT (phi TT (k + 3)) (phi TT (k + 2))) (.bin .add (.tup [.var 9]) (.bi .tuple [figLc 12 10])) ls S = .ok (.tup (.str nm :: ns.map AV.int)) S' ∧ ns.length = m ∧ Figs ns ∧ Dl d l S' ∧ Cx [d, l] S S' := by
  obtain ⟨ns, S1, e, q1, q2, q3, q4, q5⟩ := ev_figs (k := k) (t := 12) (i := 10) (m := m) (ls := ls) h hdl hm h10 hls
  have hln : line = 1000000 := rfl
  have hadd : bin2 .add (.tup [.str nm]) (.tup (ns.map AV.int)) S1 = .ok (.tup (.str nm :: ns.map AV.int)) S1 := by
    rw [b2_addT]
    exact if_pos (by rw [hln, List.length_map, List.length_singleton]; omega)
  refine ⟨ns, S1, ?_, q1, q2, q4, q5⟩
  generalize hG : gam TT (phi TT (k + 3)) (phi TT (k + 2)) = G at e ⊢
  have t1 : ev G (.tup [.var 9]) ls S = .ok (.tup [.str nm]) S := by simp [h9]
  have t2 : ev G (.bi .tuple [figLc 12 10]) ls S = .ok (.tup (ns.map AV.int)) S1 := by
    rw [ev_bi, evs_cons, e]
    simp [q3]
  rw [ev_bin, t1, bind_ok, t2, bind_ok, hadd]
def twoLc : E := .lc (.bin .add (.tup [.var 9]) (.bi .tuple [figLc 12 10])) (.tp [.nm 9, .nm 10, .nm 11]) (.val (.var 3)) [] [9, 10, 11]
theorem ev_two {d l bl m1 m2 : Nat} {w1 w2 : List Nat} {o1 o2 : Option AV} {S : Hh} (h : Dl d l S) (hdl : d ≠ l) (hm1 : m1 < 900) (hm2 : m2 < 900) (hb : bl ∉ [d, l]) (hbl : S[bl]? = some (.lst [AV.tup [.str w1, .int (m1 : Nat), .bl true], AV.tup [.str w2, .int (m2 : Nat), .bl false]])) :
    ∃ (n1 n2 : List Int) (S' : Hh), ev (gam TT (phi TT (k + 3)) (phi TT (k + 2))) twoLc [some (.ref d), o1, o2, some (.ref bl), none, none, none, none, none, none, none, none, none] S = .ok (.ref S.length) S' ∧ n1.length = m1 ∧ Figs n1 ∧ n2.length = m2 ∧ Figs n2 ∧ S'[S.length]? = some (.lst [.tup (.str w1 :: n1.map AV.int), .tup (.str w2 :: n2.map AV.int)]) ∧ Dl d l S' ∧ Cx [d, l] S S' := by
  have hln : line = 1000000 := rfl
  have dn : d < S.length ∧ l < S.length := by obtain ⟨a, b, xs, g1, _, g3, _⟩ := h.ex; exact ⟨get_lt g1, get_lt g3⟩
  have hDn : S.length ∉ [d, l] := by simp; omega
  generalize hb1 : AV.tup [.str w1, .int (m1 : Nat), .bl true] = b1 at hbl
  generalize hb2 : AV.tup [.str w2, .int (m2 : Nat), .bl false] = b2 at hbl
  have hb0 : (S ++ [AO.lst []])[bl]? = some (.lst [b1, b2]) := get_app hbl
  obtain ⟨n1, S1, e1, q1, q2, q3, q4⟩ := ev_bead (k := k) (d := d) (l := l) (m := m1) (nm := w1) (ls := [some (.ref d), o1, o2, some (.ref bl), none, none, none, none, none, some (.str w1), some (.int (m1 : Nat)), some (.bl true), none]) (S := S ++ [.lst []]) h.app hdl hm1 rfl rfl (fun z => by simp [wipeA])
  have g1 : S1[S.length]? = some (.lst []) := q4.get hDn (by simp)
  have i1 := inn_of g1
  have h1 : Dl d l (S1.set S.length (.lst [.tup (.str w1 :: n1.map AV.int)])) := q3.cx (ex := [S.length]) (Cx.set (by simp)) (by simp; omega) (by simp; omega)
  obtain ⟨n2, S2, e2, r1, r2, r3, r4⟩ := ev_bead (k := k) (d := d) (l := l) (m := m2) (nm := w2) (ls := [some (.ref d), o1, o2, some (.ref bl), none, none, none, none, none, some (.str w2), some (.int (m2 : Nat)), some (.bl false), none]) h1 hdl hm2 rfl rfl (fun z => by simp [wipeA])
  have g2 : S2[S.length]? = some (.lst [.tup (.str w1 :: n1.map AV.int)]) := r4.get hDn (by simp [i1])
  have i2 := inn_of g2
  have hbn : bl ≠ S.length := by have := get_lt hbl; omega
  have hbs : S1[bl]? = some (.lst [b1, b2]) := q4.get hb hb0
  have hbs1 : (S1.set S.length (.lst [.tup (.str w1 :: n1.map AV.int)]))[bl]? = some (.lst [b1, b2]) := by rw [List.getElem?_set_ne (Ne.symm hbn)]; exact hbs
  have hbs2 : S2[bl]? = some (.lst [b1, b2]) := r4.get hb hbs1
  refine ⟨n1, n2, S2.set S.length (.lst [.tup (.str w1 :: n1.map AV.int), .tup (.str w2 :: n2.map AV.int)]), ?_, q1, q2, r1, r2, by simp [i2], r3.cx (ex := [S.length]) (Cx.set (by simp)) (by simp; omega) (by simp; omega), ?_⟩
  · generalize hG : gam TT (phi TT (k + 3)) (phi TT (k + 2)) = G at e1 e2 ⊢
    generalize hls : [some (AV.ref d), o1, o2, some (.ref bl), none, none, none, none, none, none, none, none, none] = ls
    have l3 : ls[3]? = some (some (.ref bl)) := by rw [← hls]; rfl
    unfold twoLc
    have hit : evIt G (.val (.var 3)) ls S = .ok ([b1, b2], [(bl, .lst [b1, b2])]) S := by
      rw [evIt_val, ev_var, l3]
      show (match walkOf (.ref bl) S with | some w => Res.ok w S | none => .bad) = _
      rw [wO_l _ hbl]
    rw [ev_lc, hit, bind_ok]
    have a1 : asgT (.tp [.nm 9, .nm 10, .nm 11]) b1 (wipeA ls [9, 10, 11]) (S ++ [.lst []]) = some [some (.ref d), o1, o2, some (.ref bl), none, none, none, none, none, some (.str w1), some (.int (m1 : Nat)), some (.bl true), none] := by
      rw [← hb1, ← hls]; rfl
    have a2 : ∀ X, asgT (.tp [.nm 9, .nm 10, .nm 11]) b2 (wipeA ls [9, 10, 11]) X = some [some (.ref d), o1, o2, some (.ref bl), none, none, none, none, none, some (.str w2), some (.int (m2 : Nat)), some (.bl false), none] := fun X => by
      rw [← hb2, ← hls]; rfl
    have c1 : (0 : Nat) < line := by rw [hln]; omega
    have c2 : (1 : Nat) < line := by rw [hln]; omega
    have p0 : gdOk [(bl, AO.lst [b1, b2])] (S ++ [.lst []]) = true := by rw [gd_cons]; exact ⟨hb0, rfl⟩
    have p1 : gdOk [(bl, AO.lst [b1, b2])] (S1.set S.length (.lst [.tup (.str w1 :: n1.map AV.int)])) = true := by rw [gd_cons]; exact ⟨hbs1, rfl⟩
    have p2 : gdOk [(bl, AO.lst [b1, b2])] (S2.set S.length (.lst [.tup (.str w1 :: n1.map AV.int), .tup (.str w2 :: n2.map AV.int)])) = true := by rw [gd_cons]; exact ⟨by rw [List.getElem?_set_ne (Ne.symm hbn)]; exact hbs2, rfl⟩
    simp only [lcGo_cons, if_pos p0, a1, evTs_nil, bind_ok, if_true, e1, g1, List.length_nil, if_pos c1, List.nil_append, if_pos p1, a2, e2, g2, List.length_singleton, if_pos c2, List.singleton_append, lcGo_nil, if_pos p2]
  · exact ((((Cx.app (ex := [d, l, S.length])).trans (q4.mono (by simp; omega))).trans (Cx.set (by simp))).trans ((r4.mono (by simp; omega)).trans (Cx.set (by simp)))).mono fun i hi hm => by simp at hm ⊢; omega
theorem rowB_rep (x : List AV) (l : List AV) (n : Nat) : List.replicate n (opB w x) ++ [laB w l] = rowB w (List.replicate n x) l := by simp [rowB]
def lrB : List C := [.asg (.tp [.nm 5, .nm 6]) (.tup [.idx (.callk 14 [.var 1, .idx (.var 2) (.cst (.int 3)), .lst [.var 5, .var 5]] [.cst (.int 20000)]) (.cst (.int 0)), .bin .mul (.cst (.int 2)) (.var 6)])]
theorem lr_go (hw : WD w) (hm : m1 = 0 ∨ m1 = 1 ∨ m1 = 2) {l : List AV} {wl : Nat} {wv : List AV} {o0 o3 o4 o8 o9 o10 o11 o12 : Option AV} (hl : l.length = cnt m2) (hfl : flatAll l = true) (hix : ixA wv 3 = some (.str (w 3))) : ∀ {xs : List AV} {os : List (List AV)} {S : Hh} {o7 : Option AV}, (∀ x ∈ os, x.length = m1 ∧ flatAll x = true) → os.length * 2 ^ xs.length ≤ 5000 → S[wl]? = some (.lst wv) →
    ∃ (os' : List (List AV)) (S' : Hh) (o7' : Option AV), forGo (fun x ls S => match asgT (.nm 7) x ls S with | some ls' => evCs (gam TT (phi TT (k + 6)) (phi TT (k + 5))) lrB ls' S | none => .bad) [] xs [o0, some (prog w m1 m2), some (.ref wl), o3, o4, some (.tup (rowB w os l)), some (.int (os.length : Nat)), o7, o8, o9, o10, o11, o12] S = .ok (.nx, [o0, some (prog w m1 m2), some (.ref wl), o3, o4, some (.tup (rowB w os' l)), some (.int (os'.length : Nat)), o7', o8, o9, o10, o11, o12]) S' ∧ os'.length ≤ 5000 ∧ (∀ x ∈ os', x.length = m1 ∧ flatAll x = true) ∧ Cx [] S S'
  | [], os, S, o7, hos, hn, hS => ⟨os, S, o7, by simp, by simpa using hn, hos, Cx.refl⟩
  | x :: xs, os, S, o7, hos, hn, hS => by
    have hn2 : (os ++ os).length * 2 ^ xs.length ≤ 5000 := by
      have : (os ++ os).length * 2 ^ xs.length = os.length * 2 ^ (xs.length + 1) := by
        rw [List.length_append, Nat.pow_succ]
        rw [Nat.mul_comm (2 ^ xs.length) 2, ← Nat.mul_assoc, Nat.mul_two]
      rw [this]; simpa using hn
    have hn1 : os.length ≤ 5000 := by
      have h1 : 1 ≤ 2 ^ xs.length := Nat.one_le_two_pow
      have h2 := Nat.mul_le_mul_left (os ++ os).length h1
      simp at h2 hn2
      omega
    have q := p_ran (k := k) (m2 := m2) (al := S.length) (S := S ++ [.lst [.tup (rowB w os l), .tup (rowB w os l)]]) hw hm (fun y hy => (hos y hy).1) hl (fun y hy => (hos y hy).2) hfl hn1 (by simp)
    have hS2 : (S ++ [AO.lst [.tup (rowB w os l), .tup (rowB w os l)]])[wl]? = some (.lst wv) := get_app hS
    obtain ⟨os', S', o7', e, r1, r2, r3⟩ := lr_go hw hm (o0 := o0) (o3 := o3) (o4 := o4) (o8 := o8) (o9 := o9) (o10 := o10) (o11 := o11) (o12 := o12) hl hfl hix (xs := xs) (os := os ++ os) (o7 := some x) (fun y hy => by
      rcases List.mem_append.mp hy with hy | hy <;> exact hos y hy) hn2 hS2
    refine ⟨os', S', o7', ?_, r1, r2, Cx.app.trans r3⟩
    rw [forGo_cons, if_pos (gd_nil _), asgT_nm]
    have hmul : mulOk 2 (os.length : Nat) = true := by simp [mulOk]
    have h2 : (2 : Int) * (os.length : Nat) = ((os ++ os).length : Nat) := by simp; omega
    have s1 : evCs (gam TT (phi TT (k + 6)) (phi TT (k + 5))) lrB [o0, some (prog w m1 m2), some (.ref wl), o3, o4, some (.tup (rowB w os l)), some (.int (os.length : Nat)), some x, o8, o9, o10, o11, o12] S = .ok (.nx, [o0, some (prog w m1 m2), some (.ref wl), o3, o4, some (.tup (rowB w (os ++ os) l)), some (.int ((os ++ os).length : Nat)), some x, o8, o9, o10, o11, o12]) (S ++ [.lst [.tup (rowB w os l), .tup (rowB w os l)]]) := by
      generalize hG : gam TT (phi TT (k + 6)) (phi TT (k + 5)) = G
      have hGf : G.fn = phi TT (k + 6) := by rw [← hG]; rfl
      have ix0 : ∀ a b c : AV, ixA [a, b, c] 0 = some a := fun _ _ _ => rfl
      rw [← h2]
      generalize rowB w os l = r1 at *
      generalize rowB w (os ++ os) l = r2 at *
      simp [lrB, hS, hix, hGf, q, ix0, hmul]
    simp only [List.set_cons_succ, List.set_cons_zero]
    rw [s1, bind_ok]
    exact e
theorem flat_ints : ∀ ns : List Int, flatAll (ns.map AV.int) = true
  | [] => rfl
  | n :: ns => by simp [flatAll, AV.flat, flat_ints ns]
theorem p_longr (hw : WD w) (hm1 : m1 = 0 ∨ m1 = 1 ∨ m1 = 2) (hm2 : m2 = 0 ∨ m2 = 1 ∨ m2 = 2) (hwc : ∀ i, (w i).length ≤ 10 ∧ ∀ c ∈ w i, c < 128) {d l wl bl : Nat} {S : Hh} (h : Dl d l S) (hdl : d ≠ l) (hb : bl ∉ [d, l]) (hwl : wl ∉ [d, l]) (hbl : S[bl]? = some (.lst [bd1 w m1, bd2 w m2])) (hS : S[wl]? = some (.lst (wsL w))) :
    ∃ S', phi TT (k + 7) 36 [.ref d, prog w m1 m2, .ref wl, .ref bl] S = .ok (.bl true) S' ∧ Dl d l S' ∧ Cx [d, l] S S' := by
  have hln : line = 1000000 := rfl
  have dn : ∀ {S : Hh}, Dl d l S → d < S.length ∧ l < S.length := fun h => by obtain ⟨a, b, xs, g1, _, g3, _⟩ := h.ex; exact ⟨get_lt g1, get_lt g3⟩
  have d0 := dn h
  obtain ⟨n1, n2, S1, e1, q1, q2, q3, q4, q5, h1, c1⟩ := ev_two (k := k + 3) (o1 := some (prog w m1 m2)) (o2 := some (.ref wl)) h hdl (by omega) (by omega) hb hbl
  have d1 := dn h1
  have hlS1 : S.length < S1.length := get_lt q5
  obtain ⟨r, S2, e2, r0, r1, h2, c2⟩ := p_draw (k := k + 4) (m := 20) h1 hdl (by decide) (by decide)
  obtain ⟨n, rfl⟩ := Int.eq_ofNat_of_zero_le r0
  have hDn : S.length ∉ [d, l] := by simp; omega
  have g2 : S2[S.length]? = some (.lst [.tup (.str (w 1) :: n1.map AV.int), .tup (.str (w 2) :: n2.map AV.int)]) := c2.cx.get hDn q5
  have hw1 : S1[wl]? = some (.lst (wsL w)) := c1.get hwl hS
  have hw2 : S2[wl]? = some (.lst (wsL w)) := c2.cx.get hwl hw1
  have hl2 : (n2.map AV.int).length = cnt m2 := by rw [List.length_map, q3]; rcases hm2 with rfl | rfl | rfl <;> rfl
  have hfl : flatAll (n2.map AV.int) = true := flat_ints _
  have hx1 : (n1.map AV.int).length = m1 := by rw [List.length_map, q1]
  have hc1 : cnt m1 = m1 := by rcases hm1 with rfl | rfl | rfl <;> rfl
  have hos0 : ∀ x ∈ List.replicate (40 + n) (n1.map AV.int), x.length = m1 ∧ flatAll x = true := fun x hx => by
    have := List.eq_of_mem_replicate hx
    rw [this]; exact ⟨hx1, flat_ints _⟩
  obtain ⟨os, S3, o7, e3, t1, t2, c3⟩ := lr_go (k := k) hw hm1 (m2 := m2) (l := n2.map AV.int) (wl := wl) (wv := wsL w) (o0 := some (.ref d)) (o3 := some (.ref bl)) (o4 := some (.ref S.length)) (o8 := none) (o9 := none) (o10 := none) (o11 := none) (o12 := none) hl2 hfl rfl (xs := rngA 0 5) (os := List.replicate (40 + n) (n1.map AV.int)) (S := S2) (o7 := none) hos0 (by rw [show (rngA 0 5).length = 5 from rfl, List.length_replicate]; omega) hw2
  have d3 : Dl d l S3 := h2.cx c3 (by simp) (by simp)
  have hw3 : S3[wl]? = some (.lst (wsL w)) := c3.get (by simp) hw2
  have g3 : S3[S.length]? = some (.lst [.tup (.str (w 1) :: n1.map AV.int), .tup (.str (w 2) :: n2.map AV.int)]) := c3.get (by simp) g2
  generalize hrow : rowB w os (n2.map AV.int) = row at e3
  have hrl : row.length = os.length + 1 := by rw [← hrow]; simp [rowB]
  -- the feed
  generalize hS4 : S3 ++ [AO.lst [.tup row]] = S4
  have hal : S4[S3.length]? = some (.lst [.tup row]) := by rw [← hS4]; simp
  have g4 : S4[S.length]? = some (.lst [.tup (.str (w 1) :: n1.map AV.int), .tup (.str (w 2) :: n2.map AV.int)]) := by rw [← hS4]; exact get_app g3
  have hw4 : S4[wl]? = some (.lst (wsL w)) := by rw [← hS4]; exact get_app hw3
  have qi := p_finit (k := k + 2) (m1 := m1) (m2 := m2) hw (S := S4) (f := w 7) (A := .ref S3.length) (r := row) (o := []) (n := 0) [.tup row] [strg row] (.inl ⟨_, rfl, hal⟩) (.inr (.inr ⟨rfl, rfl⟩))
  generalize hS5 : S4 ++ feed0 w m1 m2 S4.length (w 7) [strg row] = S5 at qi
  have f5 : Fe w m1 m2 S4.length (S4.length + 1) S5 0 (eatW (w 7) (S4.length + 2)) := by rw [← hS5]; exact ⟨by simp [feed0], by simp [feed0], by omega⟩
  have a5 : S5[S4.length + 2]? = some (.lst [strg row]) := by rw [← hS5]; simp [feed0]
  have g5 : S5[S.length]? = some (.lst [.tup (.str (w 1) :: n1.map AV.int), .tup (.str (w 2) :: n2.map AV.int)]) := by rw [← hS5]; exact get_app g4
  have ql := p_left_eat (k := k + 3) (r := row) (by intro z; rw [z] at hrl; simp at hrl) a5 f5.f
  obtain ⟨S6, gv, f6, c6⟩ := giv_skip (k := k) hw hl2 (os := os) (S := S5) (S0 := S5) (e := 0) (e0 := 0) (fun x hx => by rw [hc1]; exact (t2 x hx).1) f5 (by rw [hrow]; exact a5) (fun _ _ b => b) Ch.refl f5 (Int.le_refl _)
  have hlt5 : S.length ≠ S4.length := by
    have : S4.length = S3.length + 1 := by rw [← hS4]; simp
    have := get_lt g3
    omega
  have g6 : S6[S.length]? = some (.lst [.tup (.str (w 1) :: n1.map AV.int), .tup (.str (w 2) :: n2.map AV.int)]) := c6.get hlt5 g5
  have hz : (0 : Int) + (os.length : Nat) + 1 = (os.length + 1 : Nat) := by omega
  rw [hz] at gv f6
  have qb : phi TT (k + 6) 20 [.ref S4.length] S5 = .ok (laB w (n2.map AV.int)) S6 := by
    cases gv with
    | @cons _ S1 _ _ _ W _ b f n c g =>
      cases g
      exact p_bead b f5.f (by rw [← f5.f]; exact n)
  have hok : Okb (laB w (n2.map AV.int)) := okb (hwc 2).1 (hwc 2).2 (by rw [q3]; omega) q4
  have qe := p_eaten (k := k + 4) f6.f
  have qn := p_bead_non (k := k + 4) f6.f
  have qz := p_left_non (k := k + 4) f6.f
  have hi5 := fe_ins f5
  have hi6 := fe_ins f6
  have hq := hok.q
  rw [phi_at (Fc := ⟨4, 13, c36⟩) rfl]
  generalize hG : gam TT (phi TT (k + 5 + 1)) (phi TT (k + 5)) = G
  have hGf : G.fn = phi TT (k + 6) := by rw [← hG]; rfl
  have hGi : G.ini 1 = phi TT (k + 5) 19 := by rw [← hG]; rfl
  have hG20 : G.mt 1 8 = phi TT (k + 6) 20 := by rw [← hG]; rfl
  have hG28 : G.mt 1 14 = phi TT (k + 6) 28 := by rw [← hG]; rfl
  have hG27 : G.mt 1 5 = phi TT (k + 6) 27 := by rw [← hG]; rfl
  replace e1 : ev G twoLc [some (.ref d), some (prog w m1 m2), some (.ref wl), some (.ref bl), none, none, none, none, none, none, none, none, none] S = .ok (.ref S.length) S1 := by rw [← hG]; exact e1
  have s1 : evC G (.asg (.nm 4) twoLc) [some (.ref d), some (prog w m1 m2), some (.ref wl), some (.ref bl), none, none, none, none, none, none, none, none, none] S = .ok (.nx, [some (.ref d), some (prog w m1 m2), some (.ref wl), some (.ref bl), some (.ref S.length), none, none, none, none, none, none, none, none]) S1 := by
    rw [evC_asg, e1, bind_ok]; rfl
  have ix0 : ∀ a b : AV, ixA [a, b] 0 = some a := fun _ _ => rfl
  have ix1 : ∀ a b : AV, ixA [a, b] 1 = some b := fun _ _ => rfl
  have s2 : evC G (.asg (.nm 5) (.bin .add (.bin .mul (.tup [.idx (.var 4) (.cst (.int 0))]) (.bin .add (.cst (.int 40)) (.call 30 [.var 0, .cst (.int 20)] []))) (.tup [.idx (.var 4) (.cst (.int 1))]))) [some (.ref d), some (prog w m1 m2), some (.ref wl), some (.ref bl), some (.ref S.length), none, none, none, none, none, none, none, none] S1 = .ok (.nx, [some (.ref d), some (prog w m1 m2), some (.ref wl), some (.ref bl), some (.ref S.length), some (.tup (rowB w (List.replicate (40 + n) (n1.map AV.int)) (n2.map AV.int))), none, none, none, none, none, none, none]) S2 := by
    have hb2 : ∀ x : AV, bin2 .mul (.tup [x]) (.int ((40 : Int) + (n : Nat))) S2 = .ok (.tup (List.replicate (40 + n) x)) S2 := fun x => by
      rw [b2_mulT, if_pos ⟨rfl, by omega, by omega, by simp⟩]
      have : ((40 : Int) + (n : Nat)).toNat = 40 + n := by omega
      rw [this, rep_one]
    have hb3 : ∀ x y : AV, bin2 .add (.tup (List.replicate (40 + n) x)) (.tup [y]) S2 = .ok (.tup (List.replicate (40 + n) x ++ [y])) S2 := fun x y => by
      rw [b2_addT]
      exact if_pos (by rw [hln, List.length_replicate, List.length_singleton]; omega)
    rw [← rowB_rep]
    simp only [evC_asg, ev_bin, ev_tup, evs_cons, ev_idx, ev_var, List.getElem?_cons_succ, List.getElem?_cons_zero, bind_ok, ev_cst, i2_l, q5, g2, Option.bind_some, ro_l, ix0, ix1, evs_nil, ev_call, hGf, List.append_nil, e2, b2_addI, hb2, hb3, asgL_nm, List.set_cons_succ, List.set_cons_zero]
    rfl
  have s3 : evC G (.asg (.nm 6) (.bin .sub (.bi .len [.var 5]) (.cst (.int 1)))) [some (.ref d), some (prog w m1 m2), some (.ref wl), some (.ref bl), some (.ref S.length), some (.tup (rowB w (List.replicate (40 + n) (n1.map AV.int)) (n2.map AV.int))), none, none, none, none, none, none, none] S2 = .ok (.nx, [some (.ref d), some (prog w m1 m2), some (.ref wl), some (.ref bl), some (.ref S.length), some (.tup (rowB w (List.replicate (40 + n) (n1.map AV.int)) (n2.map AV.int))), some (.int ((List.replicate (40 + n) (n1.map AV.int)).length : Nat)), none, none, none, none, none, none]) S2 := by
    have : (((rowB w (List.replicate (40 + n) (n1.map AV.int)) (n2.map AV.int)).length : Nat) : Int) - 1 = ((List.replicate (40 + n) (n1.map AV.int)).length : Nat) := by simp [rowB]
    generalize rowB w (List.replicate (40 + n) (n1.map AV.int)) (n2.map AV.int) = rr at *
    generalize (List.replicate (40 + n) (n1.map AV.int)).length = nn at *
    simp [this]
  have s4 : evC G (.forr (.nm 7) (.rng [.cst (.int 5)]) lrB) [some (.ref d), some (prog w m1 m2), some (.ref wl), some (.ref bl), some (.ref S.length), some (.tup (rowB w (List.replicate (40 + n) (n1.map AV.int)) (n2.map AV.int))), some (.int ((List.replicate (40 + n) (n1.map AV.int)).length : Nat)), none, none, none, none, none, none] S2 = .ok (.nx, [some (.ref d), some (prog w m1 m2), some (.ref wl), some (.ref bl), some (.ref S.length), some (.tup row), some (.int (os.length : Nat)), o7, none, none, none, none, none]) S3 := by
    rw [evC_forr, evIt_rng1 (j := 5) (S1 := S2) (by simp) (by rw [hln]; omega) (by rw [hln]; omega), ← hG]
    exact e3
  have s5 : evC G (.asg (.nm 8) (.make 1 [.var 1, .idx (.var 2) (.cst (.int 7)), .lst [.var 5]] [])) [some (.ref d), some (prog w m1 m2), some (.ref wl), some (.ref bl), some (.ref S.length), some (.tup row), some (.int (os.length : Nat)), o7, none, none, none, none, none] S3 = .ok (.nx, [some (.ref d), some (prog w m1 m2), some (.ref wl), some (.ref bl), some (.ref S.length), some (.tup row), some (.int (os.length : Nat)), o7, some (.ref S4.length), none, none, none, none]) S5 := by
    have ix7 : ixA (wsL w) 7 = some (.str (w 7)) := rfl
    have y : evs G [.var 1, .idx (.var 2) (.cst (.int 7)), .lst [.var 5]] [some (.ref d), some (prog w m1 m2), some (.ref wl), some (.ref bl), some (.ref S.length), some (.tup row), some (.int (os.length : Nat)), o7, none, none, none, none, none] S3 = .ok [prog w m1 m2, .str (w 7), .ref S3.length] S4 := by
      rw [← hS4]
      simp [hw3, ix7]
    rw [evC_asg, ev_make, y, bind_ok, List.append_nil, hGi, qi]
    rfl
  have s6 : evC G (.ifs (.or (.val (.cmp .ne (.meth 14 (.var 8) []) (.bin .add (.var 6) (.cst (.int 1))))) (.or (.val (.cmp .ne (.meth 8 (.var 8) []) (.idx (.var 4) (.cst (.int 1))))) (.val (.cmp .ne (.meth 5 (.var 8) []) (.bin .add (.var 6) (.cst (.int 1))))))) [.ret (.cst (.bl false))] []) [some (.ref d), some (prog w m1 m2), some (.ref wl), some (.ref bl), some (.ref S.length), some (.tup row), some (.int (os.length : Nat)), o7, some (.ref S4.length), none, none, none, none] S5 = .ok (.nx, [some (.ref d), some (prog w m1 m2), some (.ref wl), some (.ref bl), some (.ref S.length), some (.tup row), some (.int (os.length : Nat)), o7, some (.ref S4.length), none, none, none, none]) S6 := by
    have hrl' : ((row.length : Nat) : Int) = (os.length : Nat) + 1 := by rw [hrl]; simp
    rw [hrl'] at ql
    have hos1 : ((os.length + 1 : Nat) : Int) = (os.length : Nat) + 1 := by simp
    rw [hos1] at qe
    have hla : AV.tup (.str (w 2) :: n2.map AV.int) = laB w (n2.map AV.int) := rfl
    rw [hla] at g6
    generalize laB w (n2.map AV.int) = lb at *
    simp [hi5, hi6, hG20, hG28, hG27, ql, qb, qe, g6, ix1, hq]
  have s7 : evC G (.ret (.band (.cmp .isN (.meth 8 (.var 8) []) (.cst .non)) (.cmp .eq (.meth 14 (.var 8) []) (.cst (.int 0))))) [some (.ref d), some (prog w m1 m2), some (.ref wl), some (.ref bl), some (.ref S.length), some (.tup row), some (.int (os.length : Nat)), o7, some (.ref S4.length), none, none, none, none] S6 = .ok (.rt (.bl true), [some (.ref d), some (prog w m1 m2), some (.ref wl), some (.ref bl), some (.ref S.length), some (.tup row), some (.int (os.length : Nat)), o7, some (.ref S4.length), none, none, none, none]) S6 := by
    simp [hi6, hG20, hG28, qn, qz]
  have er : runF G ⟨4, 13, c36⟩ [.ref d, prog w m1 m2, .ref wl, .ref bl] S = sweep S (.bl true) S6 := by
    unfold runF
    rw [if_pos (by rfl)]
    show (evCs G c36 [some (.ref d), some (prog w m1 m2), some (.ref wl), some (.ref bl), none, none, none, none, none, none, none, none, none] S).bind _ = _
    rw [show evCs G c36 [some (.ref d), some (prog w m1 m2), some (.ref wl), some (.ref bl), none, none, none, none, none, none, none, none, none] S = _ from evCs_n s1 (evCs_n s2 (evCs_n s3 (evCs_n s4 (evCs_n s5 (evCs_n s6 (evCs_r s7))))))]
    rfl
  rw [er]
  have x3 : Cx [d, l] S S3 := (c1.trans c2.cx).trans (c3.mono (by simp))
  have x5 : Cx [d, l] S S5 := by
    have := (x3.trans (Cx.app (T := [.lst [.tup row]]))).trans (Cx.app (ex := [d, l]) (T := feed0 w m1 m2 S4.length (w 7) [strg row]))
    rw [hS4, hS5] at this
    exact this
  have x6 : Cx [d, l] S S6 := by
    have : Cx [d, l, S4.length] S S6 := (x5.mono (by simp; omega)).trans ⟨c6.len, fun i hi hn => c6.at_ i (fun z => hn (by simp [z])) hi⟩
    refine this.mono fun i hi hm => ?_
    have : S4.length = S3.length + 1 := by rw [← hS4]; simp
    have := x3.len
    simp at hm ⊢
    omega
  have hd6 : Dl d l S6 := by
    have h3 : S4.length = S3.length + 1 := by rw [← hS4]; simp
    have h4 : Dl d l S5 := by
      have y : Dl d l S4 := by rw [← hS4]; exact d3.app
      rw [← hS5]; exact y.app
    have := dn d3
    exact h4.cx (ex := [S4.length]) ⟨c6.len, fun i hi hn => c6.at_ i (fun z => hn (by simp [z])) hi⟩ (by simp; omega) (by simp; omega)
  rcases sweep_or S (.bl true) S6 with z | z <;> rw [z]
  · exact ⟨S, rfl, h, Cx.refl⟩
  · exact ⟨S6, rfl, hd6, x6⟩
end
end K69
set_option Elab.async false
set_option linter.all false
set_option maxRecDepth 100000
set_option maxHeartbeats 800000
/-! NsO: the law's calls of its checks. -/
namespace K69
open NM
theorem mapc {α β : Type} (xs : List α) (c : β) : xs.map (fun _ => c) = List.replicate xs.length c := by
  induction xs with
  | nil => rfl
  | cons x xs ih => rw [List.map_cons, ih]; rfl
section
variable {w : Nat → List Nat} {m1 m2 : Nat}
def intsA (os : List (List Int)) : List (List AV) := os.map fun x => x.map AV.int
/-- a row of drawn beads -/
structure Rw (m1 m2 : Nat) (os : List (List Int)) (la : List Int) : Prop where
  n : os.length < 60
  o : ∀ x ∈ os, x.length = m1 ∧ Figs x
  l : la.length = m2
  f : Figs la
def rwB (w : Nat → List Nat) (os : List (List Int)) (la : List Int) : List AV := rowB w (intsA os) (la.map AV.int)
variable {os os2 : List (List Int)} {la la2 : List Int}
theorem rw_len : (rwB w os la).length = os.length + 1 := by simp [rwB, rowB, intsA]
theorem rw_ne : rwB w os la ≠ [] := by simp [rwB, rowB]
theorem rw_ok (hm1 : m1 ≤ 2) (hm2 : m2 ≤ 2) (hwc : ∀ i, (w i).length ≤ 10 ∧ ∀ c ∈ w i, c < 128) (r : Rw m1 m2 os la) : ∀ b ∈ rwB w os la, Okb b := by
  intro b hb
  rcases List.mem_append.mp hb with hb | hb
  · obtain ⟨x, hx, rfl⟩ := List.mem_map.mp hb
    obtain ⟨y, hy, rfl⟩ := List.mem_map.mp hx
    have := r.o y hy
    exact okb (hwc 1).1 (hwc 1).2 (by omega) this.2
  · simp at hb
    rw [hb]
    exact okb (hwc 2).1 (hwc 2).2 (by rw [r.l]; exact hm2) r.f
theorem rw_cnt (hc : cnt m1 = m1) (r : Rw m1 m2 os la) : ∀ x ∈ intsA os, x.length = cnt m1 := by
  intro x hx
  obtain ⟨y, hy, rfl⟩ := List.mem_map.mp hx
  rw [List.length_map, hc]
  exact (r.o y hy).1
theorem rw_cntl (hc : cnt m2 = m2) (r : Rw m1 m2 os la) : (la.map AV.int).length = cnt m2 := by rw [List.length_map, hc]; exact r.l
theorem call_right (hw : WD w) {S : Hh} {f : List Nat} {r o xs ys : List AV} {al er : Nat} {n last : Int} {l : List (AV × Int)} (hal : S[al]? = some (.lst xs)) (hx : (xs = [.tup r, .tup o] ∧ ys = [strg r, strg o]) ∨ (xs = [.tup r, .int n] ∧ ys = [strg r, .int n]) ∨ (xs = [.tup r] ∧ ys = [strg r]))
    (hl : l.length ≤ 100000) (hne : l ≠ []) (hlast : (l.map (·.2)).getLast? = some last) (hok : ∀ x ∈ l, Okb x.1) (her : S[er]? = some (.lst ((l.map (·.2)).map AV.int)))
    (hg : ∀ S1, Fe w m1 m2 S.length (S.length + 1) S1 0 (eatW f (S.length + 2)) → S1[S.length + 2]? = some (.lst ys) → ∃ S', Giv w m1 m2 36 S.length (S.length + 1) S1 l S' ∧ Fe w m1 m2 S.length (S.length + 1) S' last .non ∧ Ch S.length S1 S') :
    phi TT 39 37 [prog w m1 m2, .str f, .ref al, .tup (l.map (·.1)), .ref er] S = .ok (.bl true) S := by
  refine p_right (k := 36) (ys := ys) hl hne hlast hok her (p_finit (k := 34) hw xs ys (.inl ⟨al, rfl, hal⟩) hx) (hg _ ⟨by simp [feed0], by simp [feed0], by omega⟩ (by simp [feed0]))
theorem last_const {pk : List AV} {c : Int} (h : pk ≠ []) : ((pk.map fun b => (b, c)).map (·.2)).getLast? = some c := by
  rw [List.getLast?_map, List.getLast?_map, List.getLast?_eq_some_getLast h]
  rfl
theorem call_const (hw : WD w) {S : Hh} {f : List Nat} {r o xs ys pk : List AV} {al er : Nat} {n c : Int} (hal : S[al]? = some (.lst xs)) (hx : (xs = [.tup r, .tup o] ∧ ys = [strg r, strg o]) ∨ (xs = [.tup r, .int n] ∧ ys = [strg r, .int n]) ∨ (xs = [.tup r] ∧ ys = [strg r]))
    (hl : pk.length ≤ 100000) (hne : pk ≠ []) (hok : ∀ x ∈ pk, Okb x) (her : S[er]? = some (.lst (List.replicate pk.length (.int c))))
    (hg : ∀ S1, Fe w m1 m2 S.length (S.length + 1) S1 0 (eatW f (S.length + 2)) → S1[S.length + 2]? = some (.lst ys) → ∃ S', Giv w m1 m2 36 S.length (S.length + 1) S1 (pk.map fun b => (b, c)) S' ∧ Fe w m1 m2 S.length (S.length + 1) S' c .non ∧ Ch S.length S1 S') :
    phi TT 39 37 [prog w m1 m2, .str f, .ref al, .tup pk, .ref er] S = .ok (.bl true) S := by
  have e1 : (pk.map fun b => (b, c)).map (·.1) = pk := by rw [List.map_map]; exact List.map_id' pk
  have e2 : ((pk.map fun b => (b, c)).map (·.2)).map AV.int = List.replicate pk.length (.int c) := by
    rw [List.map_map, List.map_map]
    exact mapc pk (AV.int c)
  have := call_right (l := pk.map fun b => (b, c)) hw hal hx (by simpa using hl) (by simpa using hne) (last_const hne) (fun x hx => by
    obtain ⟨b, hb, rfl⟩ := List.mem_map.mp hx
    exact hok b hb) (by rw [e2]; exact her) hg
  rw [e1] at this
  exact this
theorem mi_fst {α : Type} {f : α → AV} {g : Nat → Int} (xs : List α) : (xs.mapIdx fun i x => (f x, g i)).map (·.1) = xs.map f := by
  apply List.ext_getElem?
  intro i
  simp [List.getElem?_mapIdx]
  cases xs[i]? <;> rfl
theorem mi_snd {α : Type} {f : α → AV} {g : Nat → Int} (xs : List α) : (xs.mapIdx fun i x => (f x, g i)).map (·.2) = (List.range xs.length).map g := by
  apply List.ext_getElem?
  intro i
  simp only [List.getElem?_map, List.getElem?_mapIdx]
  by_cases h : i < xs.length
  · rw [List.getElem?_eq_getElem h, List.getElem?_eq_getElem (by simpa using h)]
    simp
  · rw [List.getElem?_eq_none (by omega), List.getElem?_eq_none (by simp; omega)]
    rfl
/-- what is told of the eaten ones as a row is laid -/
def toldA (n m : Nat) : List AV := ((List.range n).map fun i => AV.int ((i : Nat) + 1)) ++ List.replicate m (.int ((n + 1 : Nat) : Int))
theorem call_lay (hw : WD w) (hm1 : m1 ≤ 2) (hm2 : m2 ≤ 2) (hc1 : cnt m1 = m1) (hc2 : cnt m2 = m2) (hwc : ∀ i, (w i).length ≤ 10 ∧ ∀ c ∈ w i, c < 128) (r : Rw m1 m2 os la) (r2 : Rw m1 m2 os2 la2) {S : Hh} {al er : Nat} (hal : S[al]? = some (.lst [.tup (rwB w os la), .tup (rwB w os2 la2)]))
    (her : S[er]? = some (.lst (toldA os.length (rwB w os2 la2).length))) :
    phi TT 39 37 [prog w m1 m2, .str (w 3), .ref al, .tup ((intsA os).map (opB w) ++ rwB w os2 la2), .ref er] S = .ok (.bl true) S := by
  have ho : rwB w os2 la2 ≠ [] := rw_ne
  have hil : (intsA os).length = os.length := by simp [intsA]
  have e1 : (((intsA os).mapIdx fun i x => (opB w x, (0 : Int) + 1 + (i : Int))) ++ (rwB w os2 la2).map fun b => (b, (0 : Int) + 1 + (intsA os).length)).map (·.1) = (intsA os).map (opB w) ++ rwB w os2 la2 := by
    rw [List.map_append, mi_fst, List.map_map]
    congr 1
    exact List.map_id' _
  have e2 : ((((intsA os).mapIdx fun i x => (opB w x, (0 : Int) + 1 + (i : Int))) ++ (rwB w os2 la2).map fun b => (b, (0 : Int) + 1 + (intsA os).length)).map (·.2)).map AV.int = toldA os.length (rwB w os2 la2).length := by
    rw [List.map_append, mi_snd, List.map_map, List.map_append, List.map_map, List.map_map, hil]
    unfold toldA
    congr 1
    · apply List.map_congr_left
      intro i _
      show AV.int ((0 : Int) + 1 + (i : Int)) = _
      rw [show (0 : Int) + 1 + (i : Int) = (i : Nat) + 1 by omega]
    · have : (0 : Int) + 1 + (os.length : Nat) = ((os.length + 1 : Nat) : Int) := by omega
      rw [← this]
      exact mapc (rwB w os2 la2) (AV.int ((0 : Int) + 1 + (os.length : Nat)))
  have := call_right (l := ((intsA os).mapIdx fun i x => (opB w x, (0 : Int) + 1 + (i : Int))) ++ (rwB w os2 la2).map fun b => (b, (0 : Int) + 1 + (intsA os).length)) (last := (0 : Int) + 1 + (intsA os).length) (n := 0) (f := w 3) hw hal (.inl ⟨rfl, rfl⟩) (by
      have := r.n
      have := r2.n
      simp [rw_len, hil]; omega) (by simp [ho]) (by
      rw [List.map_append, List.getLast?_append, last_const ho]; rfl) (fun x hx => by
      rcases List.mem_append.mp hx with hx | hx
      · obtain ⟨i, hi, rfl⟩ := List.mem_mapIdx.mp hx
        have hmem : (intsA os)[i] ∈ intsA os := List.getElem_mem hi
        obtain ⟨y, hy, hy2⟩ := List.mem_map.mp hmem
        have hf := r.o y hy
        show Okb (opB w (intsA os)[i])
        rw [← hy2]
        exact okb (hwc 1).1 (hwc 1).2 (by omega) hf.2
      · obtain ⟨b, hb, rfl⟩ := List.mem_map.mp hx
        exact rw_ok hm1 hm2 hwc r2 b hb) (by rw [e2]; exact her) (fun S1 f1 a1 =>
      giv_lay (k := 33) hw (rw_cntl hc2 r) ho (rw_cnt hc1 r) (.inl ⟨_, f1, a1⟩))
  rw [e1] at this
  exact this
theorem call_hand (hw : WD w) (hm1 : m1 ≤ 2) (hm2 : m2 ≤ 2) (hc1 : cnt m1 = m1) (hc2 : cnt m2 = m2) (hwc : ∀ i, (w i).length ≤ 10 ∧ ∀ c ∈ w i, c < 128) (r : Rw m1 m2 os la) (r2 : Rw m1 m2 os2 la2) {S : Hh} :
    phi TT 39 38 [prog w m1 m2, .str (w 3), .tup [.tup (rwB w os la), .tup (rwB w os2 la2)], .int (os.length : Nat), .tup (rwB w os2 la2)] S = .ok (.bl true) S := by
  have ho : rwB w os2 la2 ≠ [] := rw_ne
  have hil : (intsA os).length = os.length := by simp [intsA]
  have f0 : Fe w m1 m2 S.length (S.length + 1) (S ++ feed0 w m1 m2 S.length (w 3) [strg (rwB w os la), strg (rwB w os2 la2)]) 0 (eatW (w 3) (S.length + 2)) := ⟨by simp [feed0], by simp [feed0], by omega⟩
  obtain ⟨l1, Sm, S', hl1, g, cm, hm, rr, f', c2⟩ := rwy_lay (k := 33) (a := S.length) (fd := S.length + 1) (e := 0) hw (rw_cntl hc2 r) ho (rw_cnt hc1 r) (.inl ⟨_, f0, by simp [feed0]; rfl⟩)
  have hz : l1.length = os.length := by rw [hl1, hil]
  rw [← hz]
  exact p_handed (k := 35) (l1 := l1) (by have := r.n; omega) (by have := r2.n; rw [rw_len]; omega) (rw_ok hm1 hm2 hwc r2) (p_finit (k := 34) (n := 0) hw [.tup (rwB w os la), .tup (rwB w os2 la2)] _ (.inr rfl) (.inl ⟨rfl, rfl⟩)) g cm hm rr f' c2
def goneR (w : Nat → List Nat) (os : List (List Int)) (la : List Int) (n : Nat) : List AV := if os.length ≤ n then [laB w (la.map AV.int)] else rowB w ((intsA os).drop (n + 1)) (la.map AV.int)
def goneE (os : List (List Int)) (n : Nat) : Nat := (if os.length ≤ n then os.length else n) + 1
theorem goneR_ne {n : Nat} : goneR w os la n ≠ [] := by unfold goneR; split <;> simp [rowB]
theorem goneR_len {n : Nat} : (goneR w os la n).length ≤ os.length + 1 := by
  unfold goneR
  split
  · simp
  · simp [rowB, intsA]
theorem goneR_mem {n : Nat} : ∀ b ∈ goneR w os la n, b ∈ rwB w os la := by
  intro b hb
  unfold goneR at hb
  split at hb
  · exact List.mem_append_right _ hb
  · rcases List.mem_append.mp hb with hb | hb
    · obtain ⟨x, hx, rfl⟩ := List.mem_map.mp hb
      exact List.mem_append_left _ (List.mem_map_of_mem (List.mem_of_mem_drop hx))
    · exact List.mem_append_right _ hb
theorem call_gone (hw : WD w) (hm1 : m1 ≤ 2) (hm2 : m2 ≤ 2) (hc1 : cnt m1 = m1) (hc2 : cnt m2 = m2) (hwc : ∀ i, (w i).length ≤ 10 ∧ ∀ c ∈ w i, c < 128) (r : Rw m1 m2 os la) {S : Hh} {al er n : Nat} (hn : n < 100) (hal : S[al]? = some (.lst [.tup (rwB w os la), .int (n : Nat)]))
    (her : S[er]? = some (.lst (List.replicate (goneR w os la n).length (.int (goneE os n : Nat))))) :
    phi TT 39 37 [prog w m1 m2, .str (w 4), .ref al, .tup (goneR w os la n), .ref er] S = .ok (.bl true) S := by
  have hil : (intsA os).length = os.length := by simp [intsA]
  refine call_const (o := []) hw hal (.inr (.inl ⟨rfl, rfl⟩)) (by have := r.n; have := goneR_len (w := w) (os := os) (la := la) (n := n); omega) goneR_ne (fun b hb => rw_ok hm1 hm2 hwc r b (goneR_mem b hb)) her (fun S1 f1 a1 => ?_)
  obtain ⟨S', e', he, g, f2, c2⟩ := giv_gone (k := 32) hw (rw_cntl hc2 r) hn (rw_cnt hc1 r) (e := 0) ⟨_, f1, a1⟩ (fun _ _ b => b) Ch.refl f1 (Int.le_refl _)
  have hz : e' = (goneE os n : Nat) := by
    rw [he, hil]
    unfold goneE
    split <;> simp <;> omega
  rw [hil] at g
  rw [← hz]
  exact ⟨S', g, f2, c2⟩
theorem call_on (hw : WD w) (hm1 : m1 ≤ 2) (hm2 : m2 ≤ 2) (hc1 : cnt m1 = m1) (hc2 : cnt m2 = m2) (hwc : ∀ i, (w i).length ≤ 10 ∧ ∀ c ∈ w i, c < 128) (r : Rw m1 m2 os la) (r2 : Rw m1 m2 os2 la2) {S : Hh} {al er : Nat} (hal : S[al]? = some (.lst [.tup (rwB w os la), .tup (rwB w os2 la2)]))
    (her : S[er]? = some (.lst (List.replicate (rwB w os2 la2).length (.int 1)))) :
    phi TT 39 37 [prog w m1 m2, .str (w 5), .ref al, .tup (rwB w os2 la2), .ref er] S = .ok (.bl true) S :=
  call_const (n := 0) hw hal (.inl ⟨rfl, rfl⟩) (by have := r2.n; rw [rw_len]; omega) rw_ne (rw_ok hm1 hm2 hwc r2) her (fun S1 f1 a1 => giv_on (k := 33) (e := 0) hw (rw_cntl hc2 r) rw_ne (rw_cnt hc1 r) f1 a1)
def pickR (w : Nat → List Nat) (os : List (List Int)) (la : List Int) (o : List AV) : List AV := match os with
  | [] => o
  | x :: os => if fst3 x < 2 then rwB w os la else o
theorem call_pick (hw : WD w) (hm1 : m1 ≤ 2) (hm2 : m2 ≤ 2) (hc1 : cnt m1 = m1) (hc2 : cnt m2 = m2) (hwc : ∀ i, (w i).length ≤ 10 ∧ ∀ c ∈ w i, c < 128) (r : Rw m1 m2 os la) (r2 : Rw m1 m2 os2 la2) {S : Hh} {al er : Nat} (hal : S[al]? = some (.lst [.tup (rwB w os la), .tup (rwB w os2 la2)]))
    (her : S[er]? = some (.lst (List.replicate (pickR w os la (rwB w os2 la2)).length (.int 1)))) :
    phi TT 39 37 [prog w m1 m2, .str (w 6), .ref al, .tup (pickR w os la (rwB w os2 la2)), .ref er] S = .ok (.bl true) S := by
  have hn2 := r2.n
  cases os with
  | nil =>
    exact call_const (n := 0) hw hal (.inl ⟨rfl, rfl⟩) (by show (rwB w os2 la2).length ≤ _; rw [rw_len]; omega) rw_ne (rw_ok hm1 hm2 hwc r2) her (fun S1 f1 a1 => giv_pick' (k := 33) (e := 0) hw (rw_cntl hc2 r) rw_ne f1 a1)
  | cons x os =>
    have hx : x.length = cnt m1 := by rw [hc1]; exact (r.o x List.mem_cons_self).1
    have hn := r.n
    simp only [List.length_cons] at hn
    have r' : Rw m1 m2 os la := ⟨by omega, fun y hy => r.o y (List.mem_cons_of_mem _ hy), r.l, r.f⟩
    have hp : pickR w (x :: os) la (rwB w os2 la2) = if fst3 x < 2 then rwB w os la else rwB w os2 la2 := rfl
    rw [hp] at her ⊢
    refine call_const (n := 0) (pk := if fst3 x < 2 then rwB w os la else rwB w os2 la2) hw hal (.inl ⟨rfl, rfl⟩) (by split <;> rw [rw_len] <;> omega) (by split <;> exact rw_ne) (by
      split
      · exact rw_ok hm1 hm2 hwc r'
      · exact rw_ok hm1 hm2 hwc r2) her (fun S1 f1 a1 => ?_)
    exact giv_pick (k := 33) (e := 0) hw (rw_cntl hc2 r) rw_ne hx f1 a1
end
end K69
set_option Elab.async false
set_option linter.all false
set_option maxRecDepth 100000
set_option maxHeartbeats 1600000
/-! Nq69: the law k69 in plain Lean. -/
namespace K69
open NM
theorem cut_last {α : Type} (xs : List α) (x : α) : cutA (xs ++ [x]) none (some (-1)) = xs := by
  unfold cutA
  simp only [sIx]
  rw [if_neg (by decide)]
  simp
theorem cut_end {α : Type} (xs : List α) (x : α) : cutA (xs ++ [x]) (some (-1)) none = [x] := by
  unfold cutA
  simp only [sIx]
  rw [if_neg (by decide), List.take_of_length_le (Nat.le_refl _)]
  have : (xs ++ [x]).length - (-(-1 : Int)).toNat = xs.length := by simp
  rw [this]
  simp
theorem cut_fr {α : Type} (xs : List α) (n : Nat) : cutA xs (some (n : Int)) none = xs.drop n := by
  unfold cutA
  simp only [sIx]
  rw [if_pos (by omega), List.take_of_length_le (Nat.le_refl _), Int.toNat_natCast]
  by_cases h : n ≤ xs.length
  · rw [Nat.min_eq_left h]
  · rw [Nat.min_eq_right (by omega), List.drop_of_length_le (Nat.le_refl _), List.drop_of_length_le (by omega)]
theorem ev_rep {G : Gam} {ls : Ls} {S : Hh} {e : E} {x : Int} {j : Nat} {r : List AV} (he : ev G e ls S = .ok (.int x) S) (hj : ls[j]? = some (some (.tup r))) (hr : r.length ≤ 1000) :
    ev G (.bin .mul (.lst [e]) (.bi .len [.var j])) ls S = .ok (.ref (S.length + 1)) (S ++ [.lst [.int x], .lst (List.replicate r.length (.int x))]) := by
  have h1 : ev G (.lst [e]) ls S = .ok (.ref S.length) (S ++ [.lst [.int x]]) := by
    rw [ev_lst, evs_cons, he, bind_ok, evs_nil]
    rfl
  have h2 : ev G (.bi .len [.var j]) ls (S ++ [.lst [.int x]]) = .ok (.int (r.length : Nat)) (S ++ [.lst [.int x]]) := by
    simp only [ev_bi, evs_cons, ev_var, hj, evs_nil, bind_ok, bi_len, lA_t]
  rw [ev_bin, h1, bind_ok, h2, bind_ok, b2_mulR, get_at0 rfl]
  show (if _ then _ else _) = _
  rw [if_pos ⟨by omega, by omega, by simp⟩, Int.toNat_natCast, rep_one, alloc_]
  simp
section
variable {w : Nat → List Nat} {m1 m2 : Nat}
theorem mem3 {m : Int} (h0 : 0 ≤ m) (h1 : m < 3) : ∃ n : Nat, m = (n : Nat) ∧ (n = 0 ∨ n = 1 ∨ n = 2) := ⟨m.toNat, by omega, by omega⟩
theorem cnt3 {n : Nat} (h : n = 0 ∨ n = 1 ∨ n = 2) : cnt n = n := by rcases h with rfl | rfl | rfl <;> rfl
theorem wsL_range (w : Nat → List Nat) : ((List.range 20).map fun i => AV.str (w i)) = wsL w := rfl
theorem row_cut {os : List (List Int)} {la : List Int} : cutA (rwB w os la) none (some (-1)) = (intsA os).map (opB w) := cut_last _ _
theorem row_end {os : List (List Int)} {la : List Int} : cutA (rwB w os la) (some (-1)) none = [laB w (la.map AV.int)] := cut_end _ _
theorem row_drop {os : List (List Int)} {la : List Int} {n : Nat} (h : ¬ os.length ≤ n) : cutA (rwB w os la) (some ((n + 1 : Nat) : Int)) none = goneR w os la n := by
  rw [cut_fr]
  unfold goneR
  rw [if_neg h]
  unfold rwB rowB
  rw [List.drop_append_of_le_length (by simp [intsA]; omega), List.map_drop]
theorem row_of {os : List (List Int)} {la : List Int} : ((os.map fun ns => AV.tup (.str (w 1) :: ns.map AV.int)) ++ [AV.tup (.str (w 2) :: la.map AV.int)]) = rwB w os la := by
  unfold rwB rowB intsA
  rw [List.map_map]
  rfl
/-- told, as the law writes it -/
theorem ev_told {G : Gam} {ls : Ls} {S : Hh} {n : Nat} {r : List AV} (h7 : ls[7]? = some (some (.int ((n + 1 : Nat) : Int)))) (h6 : ls[6]? = some (some (.tup r))) (hn : n < 60) (hr : r.length ≤ 100) (hw14 : ∀ x, ((wipeA ls [14]).set 14 (some x))[14]? = some (some x)) :
    ∃ X, ev G (.bin .add (.lc (.bin .add (.var 14) (.cst (.int 1))) (.nm 14) (.rng [.bin .sub (.var 7) (.cst (.int 1))]) [] [14]) (.bin .mul (.lst [.var 7]) (.bi .len [.var 6]))) ls S = .ok (.ref (S.length + 3)) (S ++ X) ∧ (S ++ X)[S.length + 3]? = some (.lst (toldA n r.length)) := by
  have hln : line = 1000000 := rfl
  have hz : ((n + 1 : Nat) : Int) - 1 = (n : Nat) := by omega
  have e1 : evIt G (.rng [.bin .sub (.var 7) (.cst (.int 1))]) ls S = .ok (rngA 0 n, []) S := by
    have := evIt_rng1 (G := G) (es := [.bin .sub (.var 7) (.cst (.int 1))]) (ls := ls) (S := S) (S1 := S) (j := (n : Nat)) (by
      simp only [evs_cons, ev_bin, ev_var, h7, ev_cst, bind_ok, b2_subI, hz, evs_nil]) (by rw [hln]; omega) (by rw [hln]; omega)
    rw [this, Int.toNat_natCast]
  have e2 := ev_lc_pure (G := G) (ls := ls) (S := S) (S1 := S) (elt := .bin .add (.var 14) (.cst (.int 1))) (t := 14) (it := .rng [.bin .sub (.var 7) (.cst (.int 1))]) (cs := []) (xs := rngA 0 n) (gs := []) (h := fun x => some (match x with | .int i => .int (i + 1) | v => v)) e1 rfl (fun x hx S => by
    obtain ⟨i, _, rfl⟩ := List.mem_map.mp hx
    simp only [evTs_nil, bind_ok, if_true, ev_bin, ev_var, hw14, ev_cst, b2_addI]) (by simp [rngA]; omega)
  rw [fm_all] at e2
  have e3 : (rngA 0 n).map (fun x => match x with | .int i => AV.int (i + 1) | v => v) = (List.range n).map fun i => AV.int ((i : Nat) + 1) := by
    unfold rngA
    rw [List.map_map]
    apply List.map_congr_left
    intro i _
    show AV.int ((0 : Int) + (i : Nat) + 1) = _
    rw [Int.zero_add]
  rw [e3] at e2
  generalize hA : ((List.range n).map fun i => AV.int ((i : Nat) + 1)) = A at e2
  have hAl : A.length = n := by rw [← hA]; simp
  have e4 := ev_rep (G := G) (ls := ls) (S := S ++ [.lst A]) (e := .var 7) (x := ((n + 1 : Nat) : Int)) (j := 6) (r := r) (by simp only [ev_var, h7]) h6 (by omega)
  refine ⟨[.lst A, .lst [.int ((n + 1 : Nat) : Int)], .lst (List.replicate r.length (.int ((n + 1 : Nat) : Int))), .lst (toldA n r.length)], ?_, ?_⟩
  · have x1 : (S ++ [AO.lst A]).length + 1 = S.length + 2 := by simp
    have x2 : S ++ [AO.lst A] ++ [AO.lst [.int ((n + 1 : Nat) : Int)], .lst (List.replicate r.length (.int ((n + 1 : Nat) : Int)))] = S ++ [AO.lst A, .lst [.int ((n + 1 : Nat) : Int)], .lst (List.replicate r.length (.int ((n + 1 : Nat) : Int)))] := by simp
    rw [ev_bin, e2, bind_ok, e4, bind_ok, x1, x2, b2_addR, get_at0 rfl, get_at (n := 2) rfl]
    show (if _ then _ else _) = _
    rw [if_pos (by rw [hln, hAl, List.length_replicate]; omega), alloc_]
    have : A ++ List.replicate r.length (.int ((n + 1 : Nat) : Int)) = toldA n r.length := by rw [← hA]; rfl
    rw [this]
    simp
  · rw [get_at (n := 3) rfl]; rfl
end
theorem evC_chk {G : Gam} {ls : Ls} {S S1 : Hh} {e : E} {cs : List C} (h : ev G e ls S = .ok (.bl true) S1) : evC G (.ifs (.not (.val e)) cs []) ls S = .ok (.nx, ls) S1 := by
  rw [evC_ifs, evT_not, evT_val, h]
  rfl
theorem law_true (ns : List Int) (h : ns.length ≤ 63) : ∃ S', phi TT 40 39 [.ref 0] [.rol (ns.map AV.int)] = .ok (.bl true) S' := by
  have hln : line = 1000000 := rfl
  -- the deal
  obtain ⟨S1, e1, D1, len1, k1⟩ := p_deal (k := 37) (sc := 0) (ns := ns) (S := [.rol (ns.map AV.int)]) h rfl
  generalize hd : ([AO.rol (ns.map AV.int)] : Hh).length + 2 = d at e1 D1
  generalize hl : ([AO.rol (ns.map AV.int)] : Hh).length + 4 = l at D1
  have hdl : d ≠ l := by omega
  have dn : ∀ {S : Hh}, Dl d l S → d < S.length ∧ l < S.length := fun h => by obtain ⟨a, b, xs, g1, _, g3, _⟩ := h.ex; exact ⟨get_lt g1, get_lt g3⟩
  -- the words
  obtain ⟨w, wl, S2, e2, hw, hwc, hwl, hwn, D2, c2⟩ := p_words (k := 36) D1 hdl
  rw [wsL_range] at hwl
  -- the beads
  obtain ⟨i1, S3, e3, a3, b3, D3, c3⟩ := p_draw (k := 37) (m := 3) D2 hdl (by decide) (by decide)
  obtain ⟨m1, rfl, hm1⟩ := mem3 a3 b3
  obtain ⟨i2, S4, e4, a4, b4, D4, c4⟩ := p_draw (k := 37) (m := 3) D3 hdl (by decide) (by decide)
  obtain ⟨m2, rfl, hm2⟩ := mem3 a4 b4
  have w3 : S3[wl]? = some (.lst (wsL w)) := c3.cx.get hwn hwl
  have w4 : S4[wl]? = some (.lst (wsL w)) := c4.cx.get hwn w3
  generalize hS5 : S4 ++ [AO.lst [bd1 w m1, bd2 w m2]] = S5
  have bl5 : S5[S4.length]? = some (.lst [bd1 w m1, bd2 w m2]) := by rw [← hS5]; simp
  have w5 : S5[wl]? = some (.lst (wsL w)) := by rw [← hS5]; exact get_app w4
  have D5 : Dl d l S5 := by rw [← hS5]; exact D4.app
  have hbn : S4.length ∉ [d, l] := by have := dn D4; simp; omega
  -- the program
  have e5 := p_program (k := 36) hm1 hm2 w5 bl5
  -- the rows
  obtain ⟨os, la, S6, e6, n6, o6, l6, f6, D6, c6⟩ := p_long (k := 35) (m1 := m1) (m2 := m2) (w1 := w 1) (w2 := w 2) (room := 60) D5 hdl (by omega) (by omega) (by decide) (by decide) hbn bl5
  have bl6 : S6[S4.length]? = some (.lst [bd1 w m1, bd2 w m2]) := c6.get hbn bl5
  have w6 : S6[wl]? = some (.lst (wsL w)) := c6.get hwn w5
  obtain ⟨os2, la2, S7, e7, n7, o7, l7, f7, D7, c7⟩ := p_long (k := 35) (m1 := m1) (m2 := m2) (w1 := w 1) (w2 := w 2) (room := 60) D6 hdl (by omega) (by omega) (by decide) (by decide) hbn bl6
  have bl7 : S7[S4.length]? = some (.lst [bd1 w m1, bd2 w m2]) := c7.get hbn bl6
  have w7 : S7[wl]? = some (.lst (wsL w)) := c7.get hwn w6
  rw [row_of] at e6 e7
  have r : Rw m1 m2 os la := ⟨n6, o6, l6, f6⟩
  have r2 : Rw m1 m2 os2 la2 := ⟨n7, o7, l7, f7⟩
  have hM1 : m1 ≤ 2 := by omega
  have hM2 : m2 ≤ 2 := by omega
  have hc1 := cnt3 hm1
  have hc2 := cnt3 hm2
  -- the long row
  obtain ⟨S8, e8, D8, c8⟩ := p_longr (k := 32) hw hm1 hm2 hwc D7 hdl hbn hwn bl7 w7
  have w8 : S8[wl]? = some (.lst (wsL w)) := c8.get hwn w7
  have hrl : (rwB w os la).length = os.length + 1 := rw_len
  have hrl2 : (rwB w os2 la2).length = os2.length + 1 := rw_len
  have hlay := fun (S : Hh) (al er : Nat) => call_lay (S := S) (al := al) (er := er) hw hM1 hM2 hc1 hc2 hwc r r2
  have hhand := fun (S : Hh) => call_hand (S := S) hw hM1 hM2 hc1 hc2 hwc r r2
  have hgone := fun (S : Hh) (al er n : Nat) => call_gone (S := S) (al := al) (er := er) (n := n) hw hM1 hM2 hc1 hc2 hwc r
  have hon := fun (S : Hh) (al er : Nat) => call_on (S := S) (al := al) (er := er) hw hM1 hM2 hc1 hc2 hwc r r2
  have hpick := fun (S : Hh) (al er : Nat) => call_pick (S := S) (al := al) (er := er) hw hM1 hM2 hc1 hc2 hwc r r2
  have hcut := row_cut (w := w) (os := os) (la := la)
  have hend := row_end (w := w) (os := os) (la := la)
  have hdrop := fun n => row_drop (w := w) (os := os) (la := la) (n := n)
  have hpl : (pickR w os la (rwB w os2 la2)).length ≤ 100 := by
    cases os with
    | nil => show (rwB w os2 la2).length ≤ 100; omega
    | cons x os =>
      have : pickR w (x :: os) la (rwB w os2 la2) = if fst3 x < 2 then rwB w os la else rwB w os2 la2 := rfl
      simp only [List.length_cons] at n6
      rw [this]; split
      · rw [rw_len]; omega
      · omega
  have hgl := fun n => goneR_len (w := w) (os := os) (la := la) (n := n)
  generalize hG : gam TT (phi TT 39) (phi TT 38) = G
  have hGf : G.fn = phi TT 39 := by rw [← hG]; rfl
  simp only [Nat.reduceAdd] at e1 e2 e3 e4 e5 e6 e7 e8
  have ix1 : ixA (wsL w) 1 = some (.str (w 1)) := rfl
  have ix2 : ixA (wsL w) 2 = some (.str (w 2)) := rfl
  have ix3 : ixA (wsL w) 3 = some (.str (w 3)) := rfl
  have ix4 : ixA (wsL w) 4 = some (.str (w 4)) := rfl
  have ix5 : ixA (wsL w) 5 = some (.str (w 5)) := rfl
  have ix6 : ixA (wsL w) 6 = some (.str (w 6)) := rfl
  have s1 : evC G (.asg (.nm 1) (.call 29 [.var 0, .cst (.int 0)] [])) [some (.ref 0), none, none, none, none, none, none, none, none, none, none, none, none, none, none] [.rol (ns.map AV.int)] = .ok (.nx, [some (.ref 0), some (.ref d), none, none, none, none, none, none, none, none, none, none, none, none, none]) S1 := by
    simp only [evC_asg, ev_call, evs_cons, ev_var, List.getElem?_cons_zero, bind_ok, ev_cst, evs_nil, hGf, List.append_nil, e1]
    rfl
  have s2 : evC G (.asg (.nm 2) (.call 31 [.var 1, .cst (.int 20)] [])) [some (.ref 0), some (.ref d), none, none, none, none, none, none, none, none, none, none, none, none, none] S1 = .ok (.nx, [some (.ref 0), some (.ref d), some (.ref wl), none, none, none, none, none, none, none, none, none, none, none, none]) S2 := by
    simp only [evC_asg, ev_call, evs_cons, ev_var, List.getElem?_cons_zero, List.getElem?_cons_succ, bind_ok, ev_cst, evs_nil, hGf, List.append_nil, e2]
    rfl
  have s3 : evC G (.asg (.nm 3) (.lst [.tup [.idx (.var 2) (.cst (.int 1)), .call 30 [.var 1, .cst (.int 3)] [], .cst (.bl true)], .tup [.idx (.var 2) (.cst (.int 2)), .call 30 [.var 1, .cst (.int 3)] [], .cst (.bl false)]])) [some (.ref 0), some (.ref d), some (.ref wl), none, none, none, none, none, none, none, none, none, none, none, none] S2 = .ok (.nx, [some (.ref 0), some (.ref d), some (.ref wl), some (.ref S4.length), none, none, none, none, none, none, none, none, none, none, none]) S5 := by
    simp only [evC_asg, ev_lst, ev_tup, ev_call, evs_cons, ev_idx, ev_var, List.getElem?_cons_zero, List.getElem?_cons_succ, bind_ok, ev_cst, evs_nil, hGf, List.append_nil, i2_l, hwl, w3, Option.bind_some, ro_l, ix1, ix2, e3, e4, alloc_, ← hS5, asgL_nm]
    rfl
  have s4 : evC G (.asg (.nm 4) (.call 35 [.var 2, .var 3] [])) [some (.ref 0), some (.ref d), some (.ref wl), some (.ref S4.length), none, none, none, none, none, none, none, none, none, none, none] S5 = .ok (.nx, [some (.ref 0), some (.ref d), some (.ref wl), some (.ref S4.length), some (prog w m1 m2), none, none, none, none, none, none, none, none, none, none]) S5 := by
    simp only [evC_asg, ev_call, evs_cons, ev_var, List.getElem?_cons_zero, List.getElem?_cons_succ, bind_ok, evs_nil, hGf, List.append_nil, e5]
    rfl
  generalize hrow : rwB w os la = row at *
  generalize hoth : rwB w os2 la2 = oth at *
  have s5 : evC G (.asg (.tp [.nm 5, .nm 6]) (.tup [.call 33 [.var 1, .var 3, .cst (.int 60)] [], .call 33 [.var 1, .var 3, .cst (.int 60)] []])) [some (.ref 0), some (.ref d), some (.ref wl), some (.ref S4.length), some (prog w m1 m2), none, none, none, none, none, none, none, none, none, none] S5 = .ok (.nx, [some (.ref 0), some (.ref d), some (.ref wl), some (.ref S4.length), some (prog w m1 m2), some (.tup row), some (.tup oth), none, none, none, none, none, none, none, none]) S7 := by
    simp only [evC_asg, ev_tup, ev_call, evs_cons, ev_var, List.getElem?_cons_zero, List.getElem?_cons_succ, bind_ok, ev_cst, evs_nil, hGf, List.append_nil, e6, e7, asgL_tp, asgT_tp, asgTs_cons, asgT_nm, asgTs_nil, Option.bind_some]
    rfl
  have s6 : evC G (.asg (.nm 7) (.bi .len [.var 5])) [some (.ref 0), some (.ref d), some (.ref wl), some (.ref S4.length), some (prog w m1 m2), some (.tup row), some (.tup oth), none, none, none, none, none, none, none, none] S7 = .ok (.nx, [some (.ref 0), some (.ref d), some (.ref wl), some (.ref S4.length), some (prog w m1 m2), some (.tup row), some (.tup oth), some (.int ((os.length + 1 : Nat) : Int)), none, none, none, none, none, none, none]) S7 := by
    simp only [evC_asg, ev_bi, evs_cons, ev_var, List.getElem?_cons_zero, List.getElem?_cons_succ, bind_ok, evs_nil, bi_len, lA_t, hrl]
    rfl
  have s7 : evC G (.ifs (.not (.val (.call 36 [.var 1, .var 4, .var 2, .var 3] []))) [.ret (.cst (.bl false))] []) [some (.ref 0), some (.ref d), some (.ref wl), some (.ref S4.length), some (prog w m1 m2), some (.tup row), some (.tup oth), some (.int ((os.length + 1 : Nat) : Int)), none, none, none, none, none, none, none] S7 = .ok (.nx, [some (.ref 0), some (.ref d), some (.ref wl), some (.ref S4.length), some (prog w m1 m2), some (.tup row), some (.tup oth), some (.int ((os.length + 1 : Nat) : Int)), none, none, none, none, none, none, none]) S8 := by
    refine evC_chk ?_
    simp only [ev_call, evs_cons, ev_var, List.getElem?_cons_zero, List.getElem?_cons_succ, bind_ok, evs_nil, hGf, List.append_nil, e8]
  -- the row laid
  generalize hlays : (intsA os).map (opB w) = lays at *
  have hlaysl : lays.length = os.length := by rw [← hlays]; simp [intsA]
  have s8 : evC G (.asg (.nm 8) (.bin .add (.slc (.var 5) none (some (.neg (.cst (.int 1))))) (.var 6))) [some (.ref 0), some (.ref d), some (.ref wl), some (.ref S4.length), some (prog w m1 m2), some (.tup row), some (.tup oth), some (.int ((os.length + 1 : Nat) : Int)), none, none, none, none, none, none, none] S8 = .ok (.nx, [some (.ref 0), some (.ref d), some (.ref wl), some (.ref S4.length), some (prog w m1 m2), some (.tup row), some (.tup oth), some (.int ((os.length + 1 : Nat) : Int)), some (.tup (lays ++ oth)), none, none, none, none, none, none]) S8 := by
    have q : lays.length + oth.length ≤ line := by rw [hln]; omega
    simp only [evC_asg, ev_bin, ev_slc, ev_var, List.getElem?_cons_zero, List.getElem?_cons_succ, bind_ok, evO_none, evO_some, ev_neg, ev_cst, s2_t, hcut, b2_addT, if_pos q]
    rfl
  generalize hL8 : [some (AV.ref 0), some (.ref d), some (.ref wl), some (.ref S4.length), some (prog w m1 m2), some (.tup row), some (.tup oth), some (.int ((os.length + 1 : Nat) : Int)), some (.tup (lays ++ oth)), none, none, none, none, none, none] = L8 at s8
  obtain ⟨X, e9, g9⟩ := ev_told (G := G) (ls := L8) (S := S8) (n := os.length) (r := oth) (by rw [← hL8]; rfl) (by rw [← hL8]; rfl) n6 (by omega) (by intro x; rw [← hL8]; rfl)
  have D9 : Dl d l (S8 ++ X) := D8.app
  have w9 : (S8 ++ X)[wl]? = some (.lst (wsL w)) := get_app w8
  generalize hS9 : S8 ++ X = S9 at *
  have s9 : evC G (.asg (.nm 9) (.bin .add (.lc (.bin .add (.var 14) (.cst (.int 1))) (.nm 14) (.rng [.bin .sub (.var 7) (.cst (.int 1))]) [] [14]) (.bin .mul (.lst [.var 7]) (.bi .len [.var 6])))) L8 S8 = .ok (.nx, [some (.ref 0), some (.ref d), some (.ref wl), some (.ref S4.length), some (prog w m1 m2), some (.tup row), some (.tup oth), some (.int ((os.length + 1 : Nat) : Int)), some (.tup (lays ++ oth)), some (.ref (S8.length + 3)), none, none, none, none, none]) S9 := by
    rw [evC_asg, e9, bind_ok, ← hL8]
    rfl
  have hal10 : (S9 ++ [AO.lst [.tup row, .tup oth]])[S9.length]? = some (.lst [.tup row, .tup oth]) := get_at0 rfl
  have e10 := hlay (S9 ++ [.lst [.tup row, .tup oth]]) S9.length (S8.length + 3) hal10 (get_app g9)
  have s10 : evC G (.ifs (.not (.val (.call 37 [.var 4, .idx (.var 2) (.cst (.int 3)), .lst [.var 5, .var 6], .var 8, .var 9] []))) [.ret (.cst (.bl false))] []) [some (.ref 0), some (.ref d), some (.ref wl), some (.ref S4.length), some (prog w m1 m2), some (.tup row), some (.tup oth), some (.int ((os.length + 1 : Nat) : Int)), some (.tup (lays ++ oth)), some (.ref (S8.length + 3)), none, none, none, none, none] S9 = .ok (.nx, [some (.ref 0), some (.ref d), some (.ref wl), some (.ref S4.length), some (prog w m1 m2), some (.tup row), some (.tup oth), some (.int ((os.length + 1 : Nat) : Int)), some (.tup (lays ++ oth)), some (.ref (S8.length + 3)), none, none, none, none, none]) (S9 ++ [.lst [.tup row, .tup oth]]) := by
    refine evC_chk ?_
    simp only [ev_call, evs_cons, ev_idx, ev_lst, ev_var, List.getElem?_cons_zero, List.getElem?_cons_succ, bind_ok, ev_cst, evs_nil, i2_l, w9, Option.bind_some, ro_l, ix3, alloc_, hGf, List.append_nil]
    exact e10
  have D10 : Dl d l (S9 ++ [AO.lst [.tup row, .tup oth]]) := D9.app
  have w10 : (S9 ++ [AO.lst [.tup row, .tup oth]])[wl]? = some (.lst (wsL w)) := get_app w9
  generalize S9 ++ [AO.lst [.tup row, .tup oth]] = S10 at *
  have e11 := hhand S10
  have s11 : evC G (.ifs (.not (.val (.call 38 [.var 4, .idx (.var 2) (.cst (.int 3)), .tup [.var 5, .var 6], .bin .sub (.var 7) (.cst (.int 1)), .var 6] []))) [.ret (.cst (.bl false))] []) [some (.ref 0), some (.ref d), some (.ref wl), some (.ref S4.length), some (prog w m1 m2), some (.tup row), some (.tup oth), some (.int ((os.length + 1 : Nat) : Int)), some (.tup (lays ++ oth)), some (.ref (S8.length + 3)), none, none, none, none, none] S10 = .ok (.nx, [some (.ref 0), some (.ref d), some (.ref wl), some (.ref S4.length), some (prog w m1 m2), some (.tup row), some (.tup oth), some (.int ((os.length + 1 : Nat) : Int)), some (.tup (lays ++ oth)), some (.ref (S8.length + 3)), none, none, none, none, none]) S10 := by
    refine evC_chk ?_
    have hz : ((os.length + 1 : Nat) : Int) - 1 = (os.length : Nat) := by omega
    simp only [ev_call, ev_tup, ev_bin, evs_cons, ev_idx, ev_var, List.getElem?_cons_zero, List.getElem?_cons_succ, bind_ok, ev_cst, evs_nil, i2_l, w10, Option.bind_some, ro_l, ix3, b2_subI, hz, hGf, List.append_nil]
    exact e11
  -- the beads let go
  obtain ⟨fi, S12, e12, a12, b12, D12, c12⟩ := p_draw (k := 37) (m := 3) D10 hdl (by decide) (by decide)
  obtain ⟨few, rfl, hfew⟩ := mem3 a12 b12
  simp only [Nat.reduceAdd] at e12
  have w12 : S12[wl]? = some (.lst (wsL w)) := c12.cx.get hwn w10
  have s12 : evC G (.asg (.nm 10) (.call 30 [.var 1, .cst (.int 3)] [])) [some (.ref 0), some (.ref d), some (.ref wl), some (.ref S4.length), some (prog w m1 m2), some (.tup row), some (.tup oth), some (.int ((os.length + 1 : Nat) : Int)), some (.tup (lays ++ oth)), some (.ref (S8.length + 3)), none, none, none, none, none] S10 = .ok (.nx, [some (.ref 0), some (.ref d), some (.ref wl), some (.ref S4.length), some (prog w m1 m2), some (.tup row), some (.tup oth), some (.int ((os.length + 1 : Nat) : Int)), some (.tup (lays ++ oth)), some (.ref (S8.length + 3)), some (.int (few : Nat)), none, none, none, none]) S12 := by
    simp only [evC_asg, ev_call, evs_cons, ev_var, List.getElem?_cons_zero, List.getElem?_cons_succ, bind_ok, ev_cst, evs_nil, hGf, List.append_nil, e12]
    rfl
  have hf1 : (few : Int) + 1 = ((few + 1 : Nat) : Int) := by omega
  have s13 : evC G (.asg (.tp [.nm 11, .nm 12]) (.tup [.slc (.var 5) (some (.bin .add (.var 10) (.cst (.int 1)))) none, .bin .add (.var 10) (.cst (.int 1))])) [some (.ref 0), some (.ref d), some (.ref wl), some (.ref S4.length), some (prog w m1 m2), some (.tup row), some (.tup oth), some (.int ((os.length + 1 : Nat) : Int)), some (.tup (lays ++ oth)), some (.ref (S8.length + 3)), some (.int (few : Nat)), none, none, none, none] S12 = .ok (.nx, [some (.ref 0), some (.ref d), some (.ref wl), some (.ref S4.length), some (prog w m1 m2), some (.tup row), some (.tup oth), some (.int ((os.length + 1 : Nat) : Int)), some (.tup (lays ++ oth)), some (.ref (S8.length + 3)), some (.int (few : Nat)), some (.tup (cutA row (some ((few + 1 : Nat) : Int)) none)), some (.int ((few + 1 : Nat) : Int)), none, none]) S12 := by
    simp only [evC_asg, ev_tup, ev_slc, ev_bin, evs_cons, ev_var, List.getElem?_cons_zero, List.getElem?_cons_succ, bind_ok, ev_cst, evs_nil, evO_none, evO_some, b2_addI, hf1, s2_t, asgL_tp, asgT_tp, asgTs_cons, asgT_nm, asgTs_nil, Option.bind_some]
    rfl
  have s14 : evC G (.ifs (.val (.cmp .le (.var 7) (.bin .add (.var 10) (.cst (.int 1))))) [.asg (.tp [.nm 11, .nm 12]) (.tup [.slc (.var 5) (some (.neg (.cst (.int 1)))) none, .var 7])] []) [some (.ref 0), some (.ref d), some (.ref wl), some (.ref S4.length), some (prog w m1 m2), some (.tup row), some (.tup oth), some (.int ((os.length + 1 : Nat) : Int)), some (.tup (lays ++ oth)), some (.ref (S8.length + 3)), some (.int (few : Nat)), some (.tup (cutA row (some ((few + 1 : Nat) : Int)) none)), some (.int ((few + 1 : Nat) : Int)), none, none] S12 = .ok (.nx, [some (.ref 0), some (.ref d), some (.ref wl), some (.ref S4.length), some (prog w m1 m2), some (.tup row), some (.tup oth), some (.int ((os.length + 1 : Nat) : Int)), some (.tup (lays ++ oth)), some (.ref (S8.length + 3)), some (.int (few : Nat)), some (.tup (goneR w os la few)), some (.int (goneE os few : Nat)), none, none]) S12 := by
    rw [evC_ifs]
    simp only [evT_val, ev_cmp, ev_bin, ev_var, List.getElem?_cons_zero, List.getElem?_cons_succ, bind_ok, ev_cst, b2_addI, hf1, c2_le, tru_b]
    by_cases hz : os.length ≤ few
    · have hz2 : ((os.length + 1 : Nat) : Int) ≤ ((few + 1 : Nat) : Int) := by omega
      have hR : goneR w os la few = [laB w (la.map AV.int)] := by unfold goneR; rw [if_pos hz]
      have hE : goneE os few = os.length + 1 := by unfold goneE; rw [if_pos hz]
      rw [if_pos (by simpa using hz2), hR, hE, ← hend]
      simp only [evCs_cons, evC_asg, ev_tup, ev_slc, evs_cons, ev_neg, ev_var, List.getElem?_cons_zero, List.getElem?_cons_succ, bind_ok, ev_cst, evs_nil, evO_none, evO_some, s2_t, asgL_tp, asgT_tp, asgTs_cons, asgT_nm, asgTs_nil, Option.bind_some, evCs_nil]
      rfl
    · have hz2 : ¬ ((os.length + 1 : Nat) : Int) ≤ ((few + 1 : Nat) : Int) := by omega
      have hE : goneE os few = few + 1 := by unfold goneE; rw [if_neg hz]
      rw [if_neg (by simpa using hz2), ← hdrop few hz, hE, evCs_nil]
  generalize hgR : goneR w os la few = gR at *
  have hgRl : gR.length ≤ 1000 := by rw [← hgR]; have := hgl few; omega
  generalize hL14 : [some (AV.ref 0), some (.ref d), some (.ref wl), some (.ref S4.length), some (prog w m1 m2), some (.tup row), some (.tup oth), some (.int ((os.length + 1 : Nat) : Int)), some (.tup (lays ++ oth)), some (.ref (S8.length + 3)), some (.int (few : Nat)), some (.tup gR), some (.int (goneE os few : Nat)), none, none] = L14 at s14
  have l2 : L14[2]? = some (some (.ref wl)) := by rw [← hL14]; rfl
  have l4 : L14[4]? = some (some (prog w m1 m2)) := by rw [← hL14]; rfl
  have l5 : L14[5]? = some (some (.tup row)) := by rw [← hL14]; rfl
  have l6 : L14[6]? = some (some (.tup oth)) := by rw [← hL14]; rfl
  have l7 : L14[7]? = some (some (.int ((os.length + 1 : Nat) : Int))) := by rw [← hL14]; rfl
  have l10 : L14[10]? = some (some (.int (few : Nat))) := by rw [← hL14]; rfl
  have l11 : L14[11]? = some (some (.tup gR)) := by rw [← hL14]; rfl
  have l12 : L14[12]? = some (some (.int (goneE os few : Nat))) := by rw [← hL14]; rfl
  generalize hS13 : S12 ++ [AO.lst [.tup row, .int (few : Nat)]] = S13
  have al13 : S13[S12.length]? = some (.lst [.tup row, .int (few : Nat)]) := by rw [← hS13]; exact get_at0 rfl
  have w13 : S13[wl]? = some (.lst (wsL w)) := by rw [← hS13]; exact get_app w12
  have e15a := ev_rep (G := G) (ls := L14) (S := S13) (e := .var 12) (x := (goneE os few : Nat)) (j := 11) (r := gR) (by simp only [ev_var, l12]) l11 hgRl
  have er15 : (S13 ++ [AO.lst [.int (goneE os few : Nat)], .lst (List.replicate gR.length (.int (goneE os few : Nat)))])[S13.length + 1]? = some (.lst (List.replicate gR.length (.int (goneE os few : Nat)))) := by rw [get_at (n := 1) rfl]; rfl
  have e15 := hgone (S13 ++ [.lst [.int (goneE os few : Nat)], .lst (List.replicate gR.length (.int (goneE os few : Nat)))]) S12.length (S13.length + 1) few (by omega) (get_app al13) (by rw [hgR]; exact er15)
  rw [hgR] at e15
  have s15 : evC G (.ifs (.not (.val (.call 37 [.var 4, .idx (.var 2) (.cst (.int 4)), .lst [.var 5, .var 10], .var 11, .bin .mul (.lst [.var 12]) (.bi .len [.var 11])] []))) [.ret (.cst (.bl false))] []) L14 S12 = .ok (.nx, L14) (S13 ++ [.lst [.int (goneE os few : Nat)], .lst (List.replicate gR.length (.int (goneE os few : Nat)))]) := by
    refine evC_chk ?_
    have y : ev G (.lst [.var 5, .var 10]) L14 S12 = .ok (.ref S12.length) S13 := by
      simp only [ev_lst, evs_cons, ev_var, l5, l10, bind_ok, evs_nil, alloc_, hS13]
    simp only [ev_call, evs_cons, ev_idx, ev_var, l2, l4, l11, bind_ok, ev_cst, evs_nil, i2_l, w12, Option.bind_some, ro_l, ix4, y, e15a, hGf, List.append_nil]
    exact e15
  have w15 : (S13 ++ [AO.lst [.int (goneE os few : Nat)], .lst (List.replicate gR.length (.int (goneE os few : Nat)))])[wl]? = some (.lst (wsL w)) := get_app w13
  generalize S13 ++ [AO.lst [.int (goneE os few : Nat)], .lst (List.replicate gR.length (.int (goneE os few : Nat)))] = S15 at *
  -- handed on at once
  generalize hS16 : S15 ++ [AO.lst [.tup row, .tup oth]] = S16
  have al16 : S16[S15.length]? = some (.lst [.tup row, .tup oth]) := by rw [← hS16]; exact get_at0 rfl
  have w16 : S16[wl]? = some (.lst (wsL w)) := by rw [← hS16]; exact get_app w15
  have e16a := ev_rep (G := G) (ls := L14) (S := S16) (e := .cst (.int 1)) (x := 1) (j := 6) (r := oth) (by simp only [ev_cst]) l6 (by omega)
  have er16 : (S16 ++ [AO.lst [.int 1], .lst (List.replicate oth.length (.int 1))])[S16.length + 1]? = some (.lst (List.replicate oth.length (.int 1))) := by rw [get_at (n := 1) rfl]; rfl
  have e16 := hon (S16 ++ [.lst [.int 1], .lst (List.replicate oth.length (.int 1))]) S15.length (S16.length + 1) (get_app al16) er16
  have s16 : evC G (.ifs (.not (.val (.call 37 [.var 4, .idx (.var 2) (.cst (.int 5)), .lst [.var 5, .var 6], .var 6, .bin .mul (.lst [.cst (.int 1)]) (.bi .len [.var 6])] []))) [.ret (.cst (.bl false))] []) L14 S15 = .ok (.nx, L14) (S16 ++ [.lst [.int 1], .lst (List.replicate oth.length (.int 1))]) := by
    refine evC_chk ?_
    have y : ev G (.lst [.var 5, .var 6]) L14 S15 = .ok (.ref S15.length) S16 := by
      simp only [ev_lst, evs_cons, ev_var, l5, l6, bind_ok, evs_nil, alloc_, hS16]
    simp only [ev_call, evs_cons, ev_idx, ev_var, l2, l4, l6, bind_ok, ev_cst, evs_nil, i2_l, w15, Option.bind_some, ro_l, ix5, y, e16a, hGf, List.append_nil]
    exact e16
  have w17 : (S16 ++ [AO.lst [.int 1], .lst (List.replicate oth.length (.int 1))])[wl]? = some (.lst (wsL w)) := get_app w16
  generalize S16 ++ [AO.lst [.int 1], .lst (List.replicate oth.length (.int 1))] = S17 at *
  -- picked
  generalize hL17 : L14.set 13 (some (.tup oth)) = L17
  have s17 : evC G (.asg (.nm 13) (.var 6)) L14 S17 = .ok (.nx, L17) S17 := by
    simp only [evC_asg, ev_var, l6, bind_ok, asgL_nm, hL17]
  obtain ⟨S18, L18, s18, w18, q2, q4, q5, q6, q13⟩ : ∃ S18 L18, evC G (.ifs (.and (.val (.cmp .gt (.var 7) (.cst (.int 1)))) (.val (.cmp .lt (.idx (.bin .add (.bi .list [.slc (.idx (.var 5) (.cst (.int 0))) (some (.cst (.int 1))) none]) (.lst [.cst (.int 3)])) (.cst (.int 0))) (.cst (.int 2))))) [.asg (.nm 13) (.slc (.var 5) (some (.cst (.int 1))) none)] []) L17 S17 = .ok (.nx, L18) S18 ∧ S18[wl]? = some (.lst (wsL w)) ∧ L18[2]? = some (some (.ref wl)) ∧ L18[4]? = some (some (prog w m1 m2)) ∧ L18[5]? = some (some (.tup row)) ∧ L18[6]? = some (some (.tup oth)) ∧ L18[13]? = some (some (.tup (pickR w os la oth))) := by
    have k5 : L17[5]? = some (some (.tup row)) := by rw [← hL17, ← hL14]; rfl
    have k7 : L17[7]? = some (some (.int ((os.length + 1 : Nat) : Int))) := by rw [← hL17, ← hL14]; rfl
    cases os with
    | nil =>
      refine ⟨S17, L17, ?_, w17, by rw [← hL17, ← hL14]; rfl, by rw [← hL17, ← hL14]; rfl, k5, by rw [← hL17, ← hL14]; rfl, by rw [← hL17, ← hL14]; rfl⟩
      rw [evC_ifs, evT_and]
      simp only [evT_val, ev_cmp, ev_var, k7, bind_ok, ev_cst, c2_gt, tru_b]
      rw [if_neg (by decide), bind_ok, if_neg (by decide), evCs_nil]
    | cons x os' =>
      have hrx : row = opB w (x.map AV.int) :: rwB w os' la := by rw [← hrow]; rfl
      have hr0 : ixA row 0 = some (opB w (x.map AV.int)) := by rw [hrx]; rfl
      have hr1 : cutA row (some 1) none = rwB w os' la := by
        have := cut_fr row 1
        rw [show ((1 : Nat) : Int) = 1 from rfl] at this
        rw [this, hrx]; rfl
      have hb1 : cutA (AV.str (w 1) :: x.map AV.int) (some 1) none = x.map AV.int := by
        have := cut_fr (AV.str (w 1) :: x.map AV.int) 1
        rw [show ((1 : Nat) : Int) = 1 from rfl] at this
        rw [this]; rfl
      have hxl := (r.o x List.mem_cons_self).1
      have t1 : ev G (.bi .list [.slc (.idx (.var 5) (.cst (.int 0))) (some (.cst (.int 1))) none]) L17 S17 = .ok (.ref S17.length) (S17 ++ [.lst (x.map AV.int)]) := by
        simp only [ev_bi, evs_cons, ev_slc, ev_idx, ev_var, k5, bind_ok, ev_cst, i2_t, hr0, evO_some, evO_none, opB, s2_t, hb1, evs_nil, bi_list, sq_t, alloc_]
      have t2 : ev G (.lst [.cst (.int 3)]) L17 (S17 ++ [.lst (x.map AV.int)]) = .ok (.ref (S17.length + 1)) (S17 ++ [.lst (x.map AV.int), .lst [.int 3]]) := by simp
      have t3 : bin2 .add (.ref S17.length) (.ref (S17.length + 1)) (S17 ++ [.lst (x.map AV.int), .lst [.int 3]]) = .ok (.ref (S17.length + 2)) (S17 ++ [.lst (x.map AV.int), .lst [.int 3], .lst (x.map AV.int ++ [.int 3])]) := by
        rw [b2_addR, get_at0 rfl, get_at (n := 1) rfl]
        show (if _ then _ else _) = _
        rw [if_pos (by rw [hln, List.length_map, hxl, List.length_singleton]; omega), alloc_]
        simp
      have t4 : ev G (.idx (.bin .add (.bi .list [.slc (.idx (.var 5) (.cst (.int 0))) (some (.cst (.int 1))) none]) (.lst [.cst (.int 3)])) (.cst (.int 0))) L17 S17 = .ok (.int (fst3 x)) (S17 ++ [.lst (x.map AV.int), .lst [.int 3], .lst (x.map AV.int ++ [.int 3])]) := by
        have z : ixA (x.map AV.int ++ [AV.int 3]) 0 = some (.int (fst3 x)) := by cases x <;> rfl
        rw [ev_idx, ev_bin, t1, bind_ok, t2, bind_ok, t3, bind_ok, ev_cst, bind_ok, i2_l, get_at (n := 2) rfl]
        show (match ixA (x.map AV.int ++ [AV.int 3]) 0 with | some v => Res.ok v _ | none => .bad) = _
        rw [z]
      have hgt : (1 : Int) < (((x :: os').length + 1 : Nat) : Int) := by simp; omega
      have c0 : evT G (.and (.val (.cmp .gt (.var 7) (.cst (.int 1)))) (.val (.cmp .lt (.idx (.bin .add (.bi .list [.slc (.idx (.var 5) (.cst (.int 0))) (some (.cst (.int 1))) none]) (.lst [.cst (.int 3)])) (.cst (.int 0))) (.cst (.int 2))))) L17 S17 = .ok (decide (fst3 x < 2)) (S17 ++ [.lst (x.map AV.int), .lst [.int 3], .lst (x.map AV.int ++ [.int 3])]) := by
        rw [evT_and]
        simp only [evT_val, ev_cmp, ev_var, k7, bind_ok, ev_cst, c2_gt, tru_b]
        rw [if_pos (by simpa using hgt), t4, bind_ok]
        rfl
      by_cases hz : fst3 x < 2
      · refine ⟨S17 ++ [.lst (x.map AV.int), .lst [.int 3], .lst (x.map AV.int ++ [.int 3])], L17.set 13 (some (.tup (rwB w os' la))), ?_, get_app w17, by rw [← hL17, ← hL14]; rfl, by rw [← hL17, ← hL14]; rfl, by rw [← hL17, ← hL14]; rfl, by rw [← hL17, ← hL14]; rfl, ?_⟩
        · rw [evC_ifs, c0, bind_ok, if_pos (by simpa using hz)]
          simp only [evCs_cons, evC_asg, ev_slc, ev_var, k5, bind_ok, evO_some, evO_none, ev_cst, s2_t, hr1, asgL_nm, evCs_nil]
        · have : pickR w (x :: os') la oth = rwB w os' la := if_pos hz
          rw [this, ← hL17, ← hL14]; rfl
      · refine ⟨S17 ++ [.lst (x.map AV.int), .lst [.int 3], .lst (x.map AV.int ++ [.int 3])], L17, ?_, get_app w17, by rw [← hL17, ← hL14]; rfl, by rw [← hL17, ← hL14]; rfl, by rw [← hL17, ← hL14]; rfl, by rw [← hL17, ← hL14]; rfl, ?_⟩
        · rw [evC_ifs, c0, bind_ok, if_neg (by simpa using hz), evCs_nil]
        · have : pickR w (x :: os') la oth = oth := if_neg hz
          rw [this, ← hL17, ← hL14]; rfl
  generalize hpk : pickR w os la oth = pk at *
  generalize hS19 : S18 ++ [AO.lst [.tup row, .tup oth]] = S19
  have al19 : S19[S18.length]? = some (.lst [.tup row, .tup oth]) := by rw [← hS19]; exact get_at0 rfl
  have e19a := ev_rep (G := G) (ls := L18) (S := S19) (e := .cst (.int 1)) (x := 1) (j := 13) (r := pk) (by simp only [ev_cst]) q13 (by omega)
  have er19 : (S19 ++ [AO.lst [.int 1], .lst (List.replicate pk.length (.int 1))])[S19.length + 1]? = some (.lst (List.replicate pk.length (.int 1))) := by rw [get_at (n := 1) rfl]; rfl
  have e19 := hpick (S19 ++ [.lst [.int 1], .lst (List.replicate pk.length (.int 1))]) S18.length (S19.length + 1) (get_app al19) er19
  have s19 : evC G (.ret (.call 37 [.var 4, .idx (.var 2) (.cst (.int 6)), .lst [.var 5, .var 6], .var 13, .bin .mul (.lst [.cst (.int 1)]) (.bi .len [.var 13])] [])) L18 S18 = .ok (.rt (.bl true), L18) (S19 ++ [.lst [.int 1], .lst (List.replicate pk.length (.int 1))]) := by
    have y : ev G (.lst [.var 5, .var 6]) L18 S18 = .ok (.ref S18.length) S19 := by
      simp only [ev_lst, evs_cons, ev_var, q5, q6, bind_ok, evs_nil, alloc_, hS19]
    simp only [evC_ret, ev_call, evs_cons, ev_idx, ev_var, q2, q4, q13, bind_ok, ev_cst, evs_nil, i2_l, w18, Option.bind_some, ro_l, ix6, y, e19a, hGf, List.append_nil]
    rw [e19]
    rfl
  rw [show (40 : Nat) = 38 + 2 from rfl, phi_at (Fc := ⟨1, 15, c39⟩) rfl, show gam TT (phi TT (38 + 1)) (phi TT 38) = G from hG]
  unfold runF
  rw [if_pos (by rfl)]
  show ∃ S', (evCs G c39 [some (.ref 0), none, none, none, none, none, none, none, none, none, none, none, none, none, none] [.rol (ns.map AV.int)]).bind _ = _
  rw [show evCs G c39 [some (.ref 0), none, none, none, none, none, none, none, none, none, none, none, none, none, none] [.rol (ns.map AV.int)] = _ from evCs_n s1 (evCs_n s2 (evCs_n s3 (evCs_n s4 (evCs_n s5 (evCs_n s6 (evCs_n s7 (evCs_n s8 (evCs_n s9 (evCs_n s10 (evCs_n s11 (evCs_n s12 (evCs_n s13 (evCs_n s14 (evCs_n s15 (evCs_n s16 (evCs_n s17 (evCs_n s18 (evCs_r s19))))))))))))))))))]
  show ∃ S', sweep _ (.bl true) _ = _
  rcases sweep_or ([.rol (ns.map AV.int)] : Hh) (.bl true) (S19 ++ [.lst [.int 1], .lst (List.replicate pk.length (.int 1))]) with z | z <;> rw [z] <;> exact ⟨_, rfl⟩
end K69
set_option Elab.async false
set_option linter.all false
set_option maxRecDepth 100000
set_option maxHeartbeats 8000000
open PySem PySem.W PySem.Calls PyProof.Rows
theorem PySem.Challenge.cw_nomiddle_k69_rows_handed_on_holds : PySem.Challenge.rw_nomiddle_k69_rows_handed_on.Holds := by
  w_on; o_law
  refine HandSHeadRun.head_any (r := PySem.W.OpenLaw.row PySem.Challenge.rw_nomiddle_k69_rows_handed_on) (q := view (PySem.W.OpenLaw.row PySem.Challenge.rw_nomiddle_k69_rows_handed_on).prog [33]) (H := K69.hk) (ob := K69.ob) (M := 4000) (loose := K69.loose) (d := HandSHeadRun.topDef (PySem.W.OpenLaw.row PySem.Challenge.rw_nomiddle_k69_rows_handed_on).prog 33) (kwd := []) K69.ob_eq
    (by kernel_rfl) (fun s => by kernel_rfl) K69.run (by kernel_rfl) (by kernel_rfl) (by kernel_rfl) (by rfl) (by first | assumption | decide +kernel) (by decide +kernel) ⟨rfl, rfl, rfl, rfl, rfl, by decide +kernel⟩ ?hw ?hc
  case hw => w_witness2
  case hc =>
    refine NM.walk_g (l := PySem.Challenge.rw_nomiddle_k69_rows_handed_on) (n := 63) (k := 40) (x := "_law_script") rfl (by decide) (by kernel_rfl) ⟨rfl, by decide, by decide⟩ ?F
    intro w mg fa h Y G hmg0
    obtain ⟨K, KX, c⟩ := Y
    have hmg : mg ("law" : PySem.Str) = some (.ref fa) := by
      have e : (HandSHeadRun.topDef (PySem.W.OpenLaw.row PySem.Challenge.rw_nomiddle_k69_rows_handed_on).prog 33).name = ("law" : PySem.Str) := by kernel_rfl
      rw [← e]
      exact hmg0
    obtain ⟨fd, T⟩ := K69.tx KX G c
    have e := hmg.symm.trans (He.glo_ok KX G (c.fact 73 (f := .glo "law") rfl))
    cases e
    have b := L2.FunD.bindsA (ps := ["_law_script"]) T.F39 fun _ _ _ _ _ _ us hl => match us, hl with | [_], _ => rfl
    refine ⟨K, fd 39, _, KX, fun s v => b s [v] rfl, fun H a ns hl hO hS => ?_, fun base _ _ => K69.g39 T 37⟩
    obtain ⟨S', e⟩ := K69.law_true ns hl
    exact NM.sp_law hO hS e
