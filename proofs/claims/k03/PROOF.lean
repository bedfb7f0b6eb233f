import PyProof.Rows.All
import Wide.All
import OpenK.AllK
import Wide.FinOn
import HandS.ForMost
import HandS.Wide
import HandS.Style
import HandS.Star
import HandS.IsInst
import HandS.Conv
import HandS.TupAny
import HandS.TupMul
import HandS.Defaults
import KE.GoesEnum
import KE.GoesNew
import KE.DataFind
import KE.KDictZip
import PyProof.ListNew
import HandS.Head0
import HandS.Head1
import HandS.Head2
import HandS.HeadEnd
import HandS.HeadHook1
import HandS.HeadHook2
import PySem.Challenge.RW_neveroftener_k03_whole_wrong_parts_in_th
set_option Elab.async false
set_option exponentiation.threshold 200000
set_option linter.all false
set_option maxRecDepth 100000
/-! MP: a small interpreter over abstract values, for the pure part of Python that the program is written in. -/
namespace MP
open PySem

/-! ### values, memory, results -/
inductive Val where
  | non | bl (b : Bool) | int (i : Int) | str (x : Str) | tup (xs : List Val) | lst (xs : List Val) | scr (ns : List Int) | ref (l : Nat)
instance : Inhabited Val := ⟨.non⟩
/-- what stands in the memory of a run: lists that may be changed -/
inductive MO where
  | dead | lst (xs : List Val)
abbrev Mem := List MO
abbrev Env := List (Option Val)
inductive R (α : Type) where
  | ok (a : α) (m : Mem) | ex (c : Nat) (v : Val) (m : Mem) | bad
def R.bind {α β : Type} (r : R α) (f : α → Mem → R β) : R β := match r with
  | .ok a m => f a m
  | .ex c v m => .ex c v m
  | .bad => .bad
def ofO {α : Type} (o : Option α) (m : Mem) : R α := match o with
  | some a => .ok a m
  | none => .bad

mutual
def noRef : Val → Bool
  | .tup xs => noRefs xs
  | .lst xs => noRefs xs
  | .ref _ => false
  | _ => true
def noRefs : List Val → Bool
  | [] => true
  | v :: vs => noRef v && noRefs vs
end
mutual
def noLst : Val → Bool
  | .tup xs => noLsts xs
  | .lst _ => false
  | .scr _ => false
  | .ref _ => false
  | _ => true
def noLsts : List Val → Bool
  | [] => true
  | v :: vs => noLst v && noLsts vs
end
mutual
def isD : Val → Bool
  | .tup xs => isDs xs
  | .lst xs => isDs xs
  | .scr _ => false
  | .ref _ => false
  | _ => true
def isDs : List Val → Bool
  | [] => true
  | v :: vs => isD v && isDs vs
end
mutual
def toD : Val → PyData
  | .bl b => .bool b
  | .int i => .int i
  | .str x => .str x
  | .tup xs => .tuple (toDs xs)
  | .lst xs => .list (toDs xs)
  | _ => .none
def toDs : List Val → List PyData
  | [] => []
  | v :: vs => toD v :: toDs vs
end
/-- a value as it is read: a list of the memory as what it holds -/
def rs (m : Mem) : Val → Val
  | .ref l => (match m[l]? with
    | some (.lst xs) => .lst xs
    | _ => .ref l)
  | v => v
/-- where a list of the memory stands -/
def memAt (m : Mem) : Val → Option Nat
  | .ref l => (match m[l]? with
    | some (.lst _) => some l
    | _ => none)
  | _ => none
/-- a value handed to another run, as long as nothing here is changed -/
def snap (m : Mem) (v : Val) : Option Val := if noRef (rs m v) then some (rs m v) else none
def snaps (m : Mem) : List Val → Option (List Val)
  | [] => some []
  | v :: vs => (match snap m v, snaps m vs with
    | some w, some ws => some (w :: ws)
    | _, _ => none)

/-! ### the text -/
inductive Bop where
  | add | sub | mul | fdiv | mod | pow
  deriving DecidableEq
inductive Cop where
  | eq | ne | lt | le | gt | ge | isN | isnN | in_ | nin
  deriving DecidableEq
inductive Blt where
  | len | abs | int | sum | all | any | max2 | min2 | tuple | list
  deriving DecidableEq
inductive Ty where
  | tuple | int | bool | str | list
  deriving DecidableEq
inductive Tg where
  | nm (i : Nat) | tp (is : List Nat)
mutual
inductive Ex where
  | var (i : Nat) | cst (v : Val)
  | op (o : Bop) (a b : Ex) | neg (a : Ex)
  | cmp (o : Cop) (a b : Ex) | chain (o o' : Cop) (a b c : Ex)
  | and (a b : Ex) | or (a b : Ex) | not (a : Ex) | ife (c a b : Ex)
  | tup (es : Exs) | lst (mt : Bool) (es : Exs)
  | idx (a b : Ex) | sl (a : Ex) (lo hi st : Oe)
  | pcall (th : Bool) (f : Nat) (es : Exs) | mcall (f : Nat) (es : Exs)
  | blt (b : Blt) (e : Ex) | blt2 (b : Blt) (a b : Ex) | isi (e : Ex) (t : Ty)
  | lc (mt : Bool) (elt : Ex) (tg : Tg) (q : Sq) (c : Oe) (own : List Nat)
  | lq (mt : Bool) (q : Sq)
  | app (l e : Ex) | ext (l e : Ex) | rem (l e : Ex)
  | frz (e : Ex) | err
inductive Exs where
  | nil | cons (e : Ex) (es : Exs) | star (e : Ex) (es : Exs)
inductive Oe where
  | non | som (e : Ex)
inductive Sq where
  | of (e : Ex) | rng1 (a : Ex) | rng2 (a b : Ex) | rng3 (a b c : Ex) | zip2 (a b : Ex) | zip3 (a b c : Ex) | enum (e : Ex) | lz (q : Sq)
end
mutual
inductive Sm where
  | asg (tg : Tg) (e : Ex) | asgs (is : List Nat) (es : Exs) | seti (o i e : Ex) | exp (e : Ex) | ret (e : Ex)
  | ite (c : Ex) (a b : Sms) | whl (c : Ex) (b : Sms) | fr (tg : Tg) (q : Sq) (b : Sms) | rse (c : Nat) (e : Ex) | pss | brk | cnt
inductive Sms where
  | nil | cons (s : Sm) (ss : Sms) | gfz (i : Nat) (ss : Sms)
end

/-! ### operations on values -/
/-- the longest list that is made -/
def LL : Nat := 1000000
def mulOk (i j : Int) : Bool := decide (i.natAbs.log2 + j.natAbs.log2 < 1000000)
def divOk (j : Int) : Bool := decide (0 < j) && decide (j.natAbs.log2 < 9000)
def ndivOk (j : Int) : Bool := decide (j < 0) && decide (j.natAbs < 1073741824)
def powOk (i j : Int) : Bool := decide (0 ≤ j) && decide ((Builtin.Int.intBits i : Int) * j ≤ 134217728)
def addV : Val → Val → Option Val
  | .int i, .int j => some (.int (i + j))
  | .tup xs, .tup ys => if xs.length + ys.length ≤ LL then some (.tup (xs ++ ys)) else none
  | .lst xs, .lst ys => if xs.length + ys.length ≤ LL then some (.lst (xs ++ ys)) else none
  | _, _ => none
def subV : Val → Val → Option Val
  | .int i, .int j => some (.int (i - j))
  | _, _ => none
def mulV : Val → Val → Option Val
  | .int i, .int j => if mulOk i j then some (.int (i * j)) else none
  | .lst xs, .int k => if (decide (0 ≤ k) && decide (k ≤ 1000)) && decide (xs.length * k.toNat ≤ LL) then some (.lst (List.replicate k.toNat xs).flatten) else none
  | _, _ => none
def fdivV : Val → Val → Option Val
  | .int i, .int j => if divOk j then some (.int (i / j)) else if ndivOk j then some (.int (i.fdiv j)) else none
  | _, _ => none
def modV : Val → Val → Option Val
  | .int i, .int j => if j = 0 then none else some (.int (i.fmod j))
  | _, _ => none
def powV : Val → Val → Option Val
  | .int i, .int j => if powOk i j then some (.int (i ^ j.toNat)) else none
  | _, _ => none
def opV (o : Bop) (a b : Val) : Option Val := match o with
  | .add => addV a b
  | .sub => subV a b
  | .mul => mulV a b
  | .fdiv => fdivV a b
  | .mod => modV a b
  | .pow => powV a b
def eqV (a b : Val) : Option Bool := if isD a && (isD b && (SeqAt.shaped (toD a) && SeqAt.shaped (toD b))) then some (PyData.eqv (toD a) (toD b)) else none
def isNon : Val → Bool
  | .non => true
  | _ => false
/-- numbers, texts, none and bools: no list, no tuple -/
def isInt : Val → Bool
  | .int _ => true
  | _ => false
def inIs (i : Int) : List Val → Option Bool
  | [] => some false
  | .int j :: vs => if j = i then some true else inIs i vs
  | _ :: _ => none
def allInts (vs : List Val) : Bool := vs.all isInt
def inV (a : Val) (vs : List Val) : Option Bool := match a with
  | .int i => if allInts vs then some (vs.any fun v => match v with | .int j => decide (j = i) | _ => false) else none
  | _ => none
def ordV (p : Int → Int → Bool) : Val → Val → Option Bool
  | .int i, .int j => some (p i j)
  | _, _ => none
def isV (a : Val) : Val → Option Bool
  | .non => some (isNon a)
  | _ => none
def memV (a : Val) : Val → Option Bool
  | .lst xs => inV a xs
  | .tup xs => inV a xs
  | _ => none
def cmpV (o : Cop) (a b : Val) : Option Bool := match o with
  | .eq => eqV a b
  | .ne => (eqV a b).map (!·)
  | .lt => ordV (fun i j => decide (i < j)) a b
  | .le => ordV (fun i j => decide (i ≤ j)) a b
  | .gt => ordV (fun i j => decide (j < i)) a b
  | .ge => ordV (fun i j => decide (j ≤ i)) a b
  | .isN => isV a b
  | .isnN => (isV a b).map (!·)
  | .in_ => memV a b
  | .nin => (memV a b).map (!·)
def idxV : Val → Val → Option Val
  | .lst xs, .int i => L2.atI xs i
  | .tup xs, .int i => L2.atI xs i
  | .scr ns, .int i => (L2.atI ns i).map .int
  | _, _ => none
def cutL {α : Type} (xs : List α) (lo hi : Option Int) : List α := (xs.drop (HT.sIx xs.length 0 lo)).take (HT.sIx xs.length xs.length hi - HT.sIx xs.length 0 lo)
/-- every st-th item -/
def pickL {α : Type} (xs : List α) (lo hi st : Option Int) : List α :=
  (sliceRange (sliceBounds lo hi st xs.length).1 (sliceBounds lo hi st xs.length).2.1 (sliceBounds lo hi st xs.length).2.2).filterMap (xs[·]?)
def cutO (lo hi : Option Int) : Val → Option Val
  | .lst xs => some (.lst (cutL xs lo hi))
  | .tup xs => some (.tup (cutL xs lo hi))
  | .scr ns => some (.lst ((cutL ns lo hi).map .int))
  | _ => none
def stepO (k : Int) (lo hi : Option Int) : Val → Option Val
  | .lst xs => if k = 0 then none else some (.lst (pickL xs lo hi (some k)))
  | .tup xs => if lo.isNone && (hi.isNone && decide (k = -1)) then some (.tup xs.reverse) else none
  | _ => none
def slO (x : Val) (lo hi st : Option Int) : Option Val := match st with
  | none => cutO lo hi x
  | some k => stepO k lo hi x
def sumI : List Val → Option Int
  | [] => some 0
  | .int i :: vs => (sumI vs).map (i + ·)
  | _ :: _ => none
def allB : List Val → Option Bool
  | [] => some true
  | .bl b :: vs => (allB vs).map (b && ·)
  | _ :: _ => none
def anyB : List Val → Option Bool
  | [] => some false
  | .bl b :: vs => (anyB vs).map (b || ·)
  | _ :: _ => none
def lenV : Val → Option Val
  | .lst xs => some (.int xs.length)
  | .tup xs => some (.int xs.length)
  | .scr ns => some (.int ns.length)
  | _ => none
def absV : Val → Option Val
  | .int i => some (.int (if i < 0 then -i else i))
  | _ => none
def intV : Val → Option Val
  | .int i => some (.int i)
  | .bl b => some (.int (if b then 1 else 0))
  | _ => none
def sumV : Val → Option Val
  | .lst xs => (sumI xs).map .int
  | _ => none
def allV : Val → Option Val
  | .lst xs => (allB xs).map .bl
  | _ => none
def anyV : Val → Option Val
  | .lst xs => (anyB xs).map .bl
  | _ => none
def tupV : Val → Option Val
  | .lst xs => some (.tup xs)
  | .tup xs => some (.tup xs)
  | _ => none
def lisV : Val → Option Val
  | .lst xs => some (.lst xs)
  | .tup xs => some (.lst xs)
  | .scr ns => some (.lst (ns.map .int))
  | _ => none
def bltV (b : Blt) (v : Val) : Option Val := match b with
  | .len => lenV v
  | .abs => absV v
  | .int => intV v
  | .sum => sumV v
  | .all => allV v
  | .any => anyV v
  | .tuple => tupV v
  | .list => lisV v
  | _ => none
def blt2V : Blt → Val → Val → Option Val
  | .max2, .int i, .int j => some (.int (if j > i then j else i))
  | .min2, .int i, .int j => some (.int (if j < i then j else i))
  | _, _, _ => none
def isiV : Val → Ty → Option Bool
  | .non, _ => some false
  | .bl _, .bool => some true
  | .bl _, .int => some true
  | .bl _, _ => some false
  | .int _, .int => some true
  | .int _, _ => some false
  | .str _, .str => some true
  | .str _, _ => some false
  | .tup _, .tuple => some true
  | .tup _, _ => some false
  | .lst _, .list => some true
  | .lst _, _ => some false
  | _, _ => none
def seqOf : Val → Option (List Val)
  | .lst xs => some xs
  | .tup xs => some xs
  | .scr ns => some (ns.map .int)
  | _ => none
def bindTp : List Nat → List Val → Env → Option Env
  | [], [], e => some e
  | i :: is, v :: vs, e => bindTp is vs (e.set i (some v))
  | _, _, _ => none
def bindTg : Tg → Val → Env → Option Env
  | .nm i, v, e => some (e.set i (some v))
  | .tp is, .tup vs, e => bindTp is vs e
  | _, _, _ => none
def wipeE (e : Env) : List Nat → Env
  | [] => e
  | v :: vs => (wipeE e vs).set v none
/-- a new list: frozen, or into the memory -/
def newL (mt : Bool) (xs : List Val) (m : Mem) : R Val := if mt then .ok (.ref m.length) (m ++ [.lst xs]) else .ok (.lst xs) m
def rngOk (i : Int) : Bool := decide (-1000000 ≤ i) && decide (i ≤ 1000000)
def rngL (lo : Int) (n : Nat) : List Val := (List.range n).map fun k => .int (lo + (k : Nat))
def rng1V : Val → Option (List Val)
  | .int j => if rngOk j then some (rngL 0 j.toNat) else none
  | _ => none
def rng2V : Val → Val → Option (List Val)
  | .int i, .int j => if rngOk i && rngOk j then some (rngL i (j - i).toNat) else none
  | _, _ => none
def rng3V : Val → Val → Val → Option (List Val)
  | .int i, .int j, .int c => if rngOk i && (rngOk j && decide (c = -1)) then some ((List.range (i - j).toNat).map fun k => .int (i - (k : Nat))) else none
  | _, _, _ => none
def zip2V : List Val → List Val → List Val
  | a :: as, b :: bs => .tup [a, b] :: zip2V as bs
  | _, _ => []
def zip3V : List Val → List Val → List Val → List Val
  | a :: as, b :: bs, c :: cs => .tup [a, b, c] :: zip3V as bs cs
  | _, _, _ => []
def enumV (k : Nat) : List Val → List Val
  | [] => []
  | v :: vs => .tup [.int (k : Nat), v] :: enumV (k + 1) vs
def rem1 (a : Val) (xs : List Val) : Option (List Val) := if isD a && (isDs xs && SeqAt.shaped (toD a)) then (SeqAt.dataPlace (toDs xs) (toD a)).map fun j => xs.eraseIdx j else none

/-! ### running -/
structure Calls where
  run : Nat → List Val → Mem → R Val
def pcallR (C : Calls) (th : Bool) (f : Nat) (as : List Val) (m : Mem) : R Val := match snaps m as with
  | none => .bad
  | some bs => (match C.run f bs [] with
    | .bad => .bad
    | .ex c v m1 => if noRef v && (noRefs as || noLst v) then .ex c v m else .bad
    | .ok r m1 => (match th with
      | true => (match r with
        | .ref l => (match m1[l]? with
          | some (.lst xs) => if noLsts xs then .ok (.ref m.length) (m ++ [.lst xs]) else .bad
          | _ => .bad)
        | _ => .bad)
      | false => (match snap m1 r with
        | some v => if noRefs as || noLst v then .ok v m else .bad
        | none => .bad)))
def mapR (f : Val → Mem → R (Option Val)) : List Val → Mem → R (List Val)
  | [], m => .ok [] m
  | v :: vs, m => (f v m).bind fun o m1 => (mapR f vs m1).bind fun ws m2 => .ok (match o with | some w => w :: ws | none => ws) m2
mutual
def evE (C : Calls) : Ex → Env → Mem → R Val
  | .var i, e, m => (match e[i]? with
    | some (some v) => .ok v m
    | _ => .bad)
  | .cst v, _, m => .ok v m
  | .op o a b, e, m => (evE C a e m).bind fun x m1 => (evE C b e m1).bind fun y m2 => ofO (opV o (rs m2 x) (rs m2 y)) m2
  | .neg a, e, m => (evE C a e m).bind fun x m1 => (match x with
    | .int i => .ok (.int (-i)) m1
    | _ => .bad)
  | .cmp o a b, e, m => (evE C a e m).bind fun x m1 => (evE C b e m1).bind fun y m2 => ofO ((cmpV o (rs m2 x) (rs m2 y)).map .bl) m2
  | .chain o o' a b c, e, m => (evE C a e m).bind fun x m1 => (evE C b e m1).bind fun y m2 => (match cmpV o (rs m2 x) (rs m2 y) with
    | some true => (evE C c e m2).bind fun z m3 => ofO ((cmpV o' (rs m3 y) (rs m3 z)).map .bl) m3
    | some false => .ok (.bl false) m2
    | none => .bad)
  | .and a b, e, m => (evE C a e m).bind fun x m1 => (match x with
    | .bl true => (evE C b e m1).bind fun y m2 => (match y with
      | .bl c => .ok (.bl c) m2
      | _ => .bad)
    | .bl false => .ok (.bl false) m1
    | _ => .bad)
  | .or a b, e, m => (evE C a e m).bind fun x m1 => (match x with
    | .bl false => (evE C b e m1).bind fun y m2 => (match y with
      | .bl c => .ok (.bl c) m2
      | _ => .bad)
    | .bl true => .ok (.bl true) m1
    | _ => .bad)
  | .not a, e, m => (evE C a e m).bind fun x m1 => (match x with
    | .bl b => .ok (.bl (!b)) m1
    | _ => .bad)
  | .ife c a b, e, m => (evE C c e m).bind fun x m1 => (match x with
    | .bl true => evE C a e m1
    | .bl false => evE C b e m1
    | _ => .bad)
  | .tup es, e, m => (evs C es e m).bind fun vs m1 => if vs.length ≤ LL then .ok (.tup vs) m1 else .bad
  | .lst mt es, e, m => (evs C es e m).bind fun vs m1 => if vs.length ≤ LL then newL mt vs m1 else .bad
  | .idx a b, e, m => (evE C a e m).bind fun x m1 => (evE C b e m1).bind fun y m2 => ofO (idxV (rs m2 x) y) m2
  | .sl a lo hi st, e, m => (evE C a e m).bind fun x m1 => (evO C lo e m1).bind fun l m2 => (evO C hi e m2).bind fun h m3 => (match st with
    | .non => ofO (slO (rs m3 x) l h none) m3
    | .som st => (evE C st e m3).bind fun s m4 => (match s with
      | .int k => ofO (slO (rs m4 x) l h (some k)) m4
      | _ => .bad))
  | .pcall th f es, e, m => (evs C es e m).bind fun vs m1 => pcallR C th f vs m1
  | .mcall f es, e, m => (evs C es e m).bind fun vs m1 => C.run f vs m1
  | .blt b a, e, m => (evE C a e m).bind fun x m1 => ofO (bltV b (rs m1 x)) m1
  | .blt2 o a b, e, m => (evE C a e m).bind fun x m1 => (evE C b e m1).bind fun y m2 => ofO (blt2V o x y) m2
  | .isi a t, e, m => (evE C a e m).bind fun x m1 => ofO ((isiV (rs m1 x) t).map .bl) m1
  | .lc mt elt tg q c own, e, m => (evQ C q e m).bind fun vs m1 => (mapR (fun v m2 => (match bindTg tg v (wipeE e own) with
      | some e2 => (match c with
        | .non => (evE C elt e2 m2).bind fun w m3 => .ok (some w) m3
        | .som c => (evE C c e2 m2).bind fun b m3 => (match b with
          | .bl true => (evE C elt e2 m3).bind fun w m4 => .ok (some w) m4
          | .bl false => .ok none m3
          | _ => .bad))
      | none => .bad)) vs m1).bind fun ws m3 => newL mt ws m3
  | .lq mt q, e, m => (evQ C q e m).bind fun vs m1 => newL mt vs m1
  | .app l a, e, m => (evE C l e m).bind fun x m1 => (match memAt m1 x with
    | none => .bad
    | some n => (evE C a e m1).bind fun y m2 => (match m2[n]? with
      | some (.lst xs) => if xs.length < LL then .ok .non (m2.set n (.lst (xs ++ [y]))) else .bad
      | _ => .bad))
  | .ext l a, e, m => (evE C l e m).bind fun x m1 => (match memAt m1 x with
    | none => .bad
    | some n => (evE C a e m1).bind fun y m2 => (match y with
      | .lst ys => (match m2[n]? with
        | some (.lst xs) => if xs.length + ys.length ≤ LL then .ok .non (m2.set n (.lst (xs ++ ys))) else .bad
        | _ => .bad)
      | _ => .bad))
  | .rem l a, e, m => (evE C l e m).bind fun x m1 => (match memAt m1 x with
    | none => .bad
    | some n => (evE C a e m1).bind fun y m2 => (match m2[n]? with
      | some (.lst xs) => (match rem1 y xs with
        | some ys => .ok .non (m2.set n (.lst ys))
        | none => .bad)
      | _ => .bad))
  | .frz a, e, m => (evE C a e m).bind fun x m1 => (match x with
    | .ref n => (match m1[n]? with
      | some (.lst xs) => .ok (.lst xs) (m1.set n .dead)
      | _ => .bad)
    | _ => .bad)
  | .err, _, _ => .bad
def evs (C : Calls) : Exs → Env → Mem → R (List Val)
  | .nil, _, m => .ok [] m
  | .cons a es, e, m => (evE C a e m).bind fun x m1 => (evs C es e m1).bind fun xs m2 => .ok (x :: xs) m2
  | .star a es, e, m => (evE C a e m).bind fun x m1 => (match rs m1 x with
    | .lst xs => (evs C es e m1).bind fun ys m2 => .ok (xs ++ ys) m2
    | .tup xs => (evs C es e m1).bind fun ys m2 => .ok (xs ++ ys) m2
    | _ => .bad)
def evO (C : Calls) : Oe → Env → Mem → R (Option Int)
  | .non, _, m => .ok none m
  | .som a, e, m => (evE C a e m).bind fun x m1 => (match x with
    | .int i => .ok (some i) m1
    | _ => .bad)
def evQ (C : Calls) : Sq → Env → Mem → R (List Val)
  | .of a, e, m => (evE C a e m).bind fun x m1 => ofO (seqOf x) m1
  | .rng1 a, e, m => (evE C a e m).bind fun x m1 => ofO (rng1V x) m1
  | .rng2 a b, e, m => (evE C a e m).bind fun x m1 => (evE C b e m1).bind fun y m2 => ofO (rng2V x y) m2
  | .rng3 a b c, e, m => (evE C a e m).bind fun x m1 => (evE C b e m1).bind fun y m2 => (evE C c e m2).bind fun z m3 => ofO (rng3V x y z) m3
  | .zip2 a b, e, m => (evE C a e m).bind fun x m1 => (evE C b e m1).bind fun y m2 => (match seqOf x, seqOf y with
    | some xs, some ys => .ok (zip2V xs ys) m2
    | _, _ => .bad)
  | .zip3 a b c, e, m => (evE C a e m).bind fun x m1 => (evE C b e m1).bind fun y m2 => (evE C c e m2).bind fun z m3 => (match seqOf x, seqOf y, seqOf z with
    | some xs, some ys, some zs => .ok (zip3V xs ys zs) m3
    | _, _, _ => .bad)
  | .enum a, e, m => (evE C a e m).bind fun x m1 => (match seqOf x with
    | some xs => .ok (enumV 0 xs) m1
    | none => .bad)
  | .lz q, e, m => evQ C q e m
end
inductive Fl where
  | nx (e : Env) | rt (v : Val) | bk (e : Env) | ct (e : Env)
def whlGo (c : Env → Mem → R Val) (b : Env → Mem → R Fl) : Nat → Env → Mem → R Fl
  | 0, _, _ => .bad
  | n + 1, e, m => (c e m).bind fun v m1 => (match v with
    | .bl true => (b e m1).bind fun fl m2 => (match fl with
      | .nx e' => whlGo c b n e' m2
      | .ct e' => whlGo c b n e' m2
      | .bk e' => .ok (.nx e') m2
      | .rt v => .ok (.rt v) m2)
    | .bl false => .ok (.nx e) m1
    | _ => .bad)
def frGo (tg : Tg) (b : Env → Mem → R Fl) : List Val → Env → Mem → R Fl
  | [], e, m => .ok (.nx e) m
  | v :: vs, e, m => (match bindTg tg v e with
    | none => .bad
    | some e1 => (b e1 m).bind fun fl m2 => (match fl with
      | .nx e' => frGo tg b vs e' m2
      | .ct e' => frGo tg b vs e' m2
      | .bk e' => .ok (.nx e') m2
      | .rt v => .ok (.rt v) m2))
def FUEL : Nat := 2 ^ 100000
mutual
def exS (C : Calls) : Sm → Env → Mem → R Fl
  | .asg tg a, e, m => (evE C a e m).bind fun x m1 => (match bindTg tg x e with
    | some e' => .ok (.nx e') m1
    | none => .bad)
  | .asgs is es, e, m => (evs C es e m).bind fun vs m1 => (match bindTp is vs e with
    | some e' => .ok (.nx e') m1
    | none => .bad)
  | .seti o i a, e, m => (evE C a e m).bind fun v m1 => (evE C o e m1).bind fun x m2 => (evE C i e m2).bind fun j m3 => (match x, j with
    | .ref n, .int j => (match m3[n]? with
      | some (.lst xs) => if decide (0 ≤ j) && decide (j.toNat < xs.length) then .ok (.nx e) (m3.set n (.lst (xs.set j.toNat v))) else .bad
      | _ => .bad)
    | _, _ => .bad)
  | .exp a, e, m => (evE C a e m).bind fun _ m1 => .ok (.nx e) m1
  | .ret a, e, m => (evE C a e m).bind fun v m1 => .ok (.rt v) m1
  | .ite c a b, e, m => (evE C c e m).bind fun x m1 => (match x with
    | .bl true => exSs C a e m1
    | .bl false => exSs C b e m1
    | _ => .bad)
  | .whl c b, e, m => whlGo (evE C c) (exSs C b) FUEL e m
  | .fr tg q b, e, m => (evQ C q e m).bind fun vs m1 => frGo tg (exSs C b) vs e m1
  | .rse c a, e, m => .bad
  | .pss, e, m => .ok (.nx e) m
  | .brk, e, m => .ok (.bk e) m
  | .cnt, e, m => .ok (.ct e) m
def exSs (C : Calls) : Sms → Env → Mem → R Fl
  | .nil, e, m => .ok (.nx e) m
  | .cons s ss, e, m => (exS C s e m).bind fun fl m1 => (match fl with
    | .nx e' => exSs C ss e' m1
    | .rt v => .ok (.rt v) m1
    | .bk e' => .ok (.bk e') m1
    | .ct e' => .ok (.ct e') m1)
  | .gfz i ss, e, m => (match e[i]? with
    | some (some (.ref l)) => (match m[l]? with
      | some (.lst xs) => exSs C ss (e.set i (some (.lst xs))) (m.set l .dead)
      | _ => .bad)
    | _ => .bad)
end
structure Fn where
  np : Nat
  ns : Nat
  body : Sms
def startE (ns : Nat) (as : List Val) : Env := as.map some ++ List.replicate (ns - as.length) none
def runF (Γ : Nat → Option Fn) : Nat → Nat → List Val → Mem → R Val
  | 0, _, _, _ => .bad
  | k + 1, f, as, m => (match Γ f with
    | none => .bad
    | some fn => if as.length = fn.np then (exSs ⟨runF Γ k⟩ fn.body (startE fn.ns as) m).bind fun fl m' => (match fl with
        | .rt v => .ok v m'
        | .nx _ => .ok .non m'
        | _ => .bad) else .bad)
abbrev calls (Γ : Nat → Option Fn) (k : Nat) : Calls := ⟨runF Γ k⟩
end MP
/-! MP: what the abstract values and the memory say of the heap. -/
namespace MP
open PySem PySem.Spec PyProof.Rows L2

/-! ### outcomes -/
def R.Out {α : Type} (r : R α) (P : α → Mem → Prop) (W : Nat → Val → Mem → Prop) : Prop := match r with
  | .ok a m => P a m
  | .ex c v m => W c v m
  | .bad => False
section
variable {α β : Type} {r : R α} {P P' : α → Mem → Prop} {W W' : Nat → Val → Mem → Prop}
theorem Out_bind {f : α → Mem → R β} {P : β → Mem → Prop} : (r.bind f).Out P W = r.Out (fun a m => (f a m).Out P W) W := by
  cases r <;> rfl
theorem R.Out.mono (h : r.Out P W) (hP : ∀ a m, P a m → P' a m) (hW : ∀ c v m, W c v m → W' c v m) : r.Out P' W' := by
  cases r with
  | ok a m => exact hP _ _ h
  | ex c v m => exact hW _ _ _ h
  | bad => exact h
theorem Out_ofO {o : Option α} {m : Mem} (h : (ofO o m).Out P W) : ∃ a, o = some a ∧ P a m := by
  cases o with
  | none => exact h.elim
  | some a => exact ⟨a, rfl, h⟩
end

/-! ### values -/
abbrev Rho := List (Option Addr)
def Al (ρ : Rho) (a : Addr) : Prop := some a ∈ ρ
/-- a list that nobody changes: the script -/
def SqS (K : PySem.W.Frag) (H : Hp) (a : Addr) (xs : List V) : Prop := (∃ o, H a = some (.frz o (.lst xs))) ∨
    ∃ (o : Obj) (its : Array Value) (n : Nat), K.lookup a = some o ∧ o.cls = .type "list" ∧ o.dict = none ∧ o.data = .seq its n ∧ its.size ≤ sizeLine ∧ Vals xs its.toList
theorem SqS.sql {K : PySem.W.Frag} {H : Hp} {a : Addr} {xs : List V} (h : SqS K H a xs) : SqL K H a xs := by
  rcases h with ⟨o, h⟩ | h
  · exact .inl (.inr ⟨o, h⟩)
  · exact .inr h
mutual
inductive Den (K : PySem.W.Frag) (F : Addr → Prop) (ρ : Rho) (H : Hp) : Val → V → Prop
  | non : Den K F ρ H .non .non
  | bl (b : Bool) : Den K F ρ H (.bl b) (.bl b)
  | int (i : Int) : Den K F ρ H (.int i) (.int i)
  | str (x : Str) : Den K F ρ H (.str x) (.str x)
  | tup {a : Addr} {xs : List V} {ds : List Val} : SqT K H a xs → DenAll K F ρ H ds xs → Den K F ρ H (.tup ds) (.ref a)
  | lst {a : Addr} {xs : List V} {ds : List Val} : H a = some (.lst xs) → ¬ Al ρ a → ¬ F a → DenAll K F ρ H ds xs → Den K F ρ H (.lst ds) (.ref a)
  | scr {a : Addr} {ns : List Int} : SqS K H a (ns.map V.int) → Den K F ρ H (.scr ns) (.ref a)
  | ref {l : Nat} {a : Addr} : l < ρ.length → (∀ b, ρ[l]? = some (some b) → a = b) → Den K F ρ H (.ref l) (.ref a)
inductive DenAll (K : PySem.W.Frag) (F : Addr → Prop) (ρ : Rho) (H : Hp) : List Val → List V → Prop
  | nil : DenAll K F ρ H [] []
  | cons {d : Val} {ds : List Val} {v : V} {vs : List V} : Den K F ρ H d v → DenAll K F ρ H ds vs → DenAll K F ρ H (d :: ds) (v :: vs)
end
/-- a value that is read: also a list of the memory -/
inductive Sees (K : PySem.W.Frag) (F : Addr → Prop) (ρ : Rho) (H : Hp) : Val → V → Prop
  | den {d : Val} {v : V} : Den K F ρ H d v → Sees K F ρ H d v
  | mem {a : Addr} {xs : List V} {ds : List Val} : H a = some (.lst xs) → DenAll K F ρ H ds xs → Sees K F ρ H (.lst ds) (.ref a)

def imm : HO → Prop
  | .tup _ => True
  | .frz _ _ => True
  | _ => False
structure Ext (D : Addr → Prop) (ρ : Rho) (H : Hp) (ρ' : Rho) (H' : Hp) : Prop where
  len : ρ.length ≤ ρ'.length
  stay : ∀ (i : Nat) (a : Addr), i < ρ.length → ρ'[i]? = some (some a) → ρ[i]? = some (some a)
  new : ∀ a, Al ρ' a → ¬ Al ρ a → H a = none
  keep : ∀ a o, H a = some o → ¬ Al ρ a → ¬ D a → H' a = some o
  imm_ : ∀ a o, H a = some o → imm o → H' a = some o
  dom : ∀ a, H' a = none → H a = none
abbrev D0 : Addr → Prop := fun _ => False
structure Rel (K : PySem.W.Frag) (F : Addr → Prop) (ρ : Rho) (H : Hp) (m : Mem) : Prop where
  len : ρ.length = m.length
  inj : ∀ (i j : Nat) (a : Addr), ρ[i]? = some (some a) → ρ[j]? = some (some a) → i = j
  obj : ∀ (i : Nat) (a : Addr), ρ[i]? = some (some a) → ∃ ds xs, m[i]? = some (.lst ds) ∧ H a = some (.lst xs) ∧ DenAll K F ρ H ds xs
  liv : ∀ (i : Nat) (ds : List Val), m[i]? = some (.lst ds) → ∃ a, ρ[i]? = some (some a)
  fa : ∀ a, F a → H a ≠ none
  fal : ∀ a, F a → ¬ Al ρ a
structure RelE (K : PySem.W.Frag) (F : Addr → Prop) (ρ : Rho) (H : Hp) (e : Env) (σ : L2.St) : Prop where
  len : e.length = σ.length
  at_ : ∀ (i : Nat) (d : Val), e[i]? = some (some d) → ∃ v, σ[i]? = some (some v) ∧ Den K F ρ H d v

section
variable {K : PySem.W.Frag} {F F' D D' : Addr → Prop} {ρ ρ' ρ1 ρ2 : Rho} {H H' H1 H2 : Hp} {m m' : Mem}
theorem Al.get {a : Addr} (h : Al ρ a) : ∃ i : Nat, ρ[i]? = some (some a) := List.getElem?_of_mem h
theorem Al.of {i : Nat} {a : Addr} (h : ρ[i]? = some (some a)) : Al ρ a := List.mem_of_getElem? h
theorem Rel.al (r : Rel K F ρ H m) {a : Addr} (h : Al ρ a) : ∃ xs, H a = some (.lst xs) := by
  obtain ⟨i, hi⟩ := h.get
  obtain ⟨ds, xs, _, e, _⟩ := r.obj i a hi
  exact ⟨xs, e⟩
theorem Rel.not_al (r : Rel K F ρ H m) {a : Addr} (h : H a = none) : ¬ Al ρ a := fun z => by
  obtain ⟨xs, e⟩ := r.al z
  rw [h] at e; cases e
theorem Rel.not_f (r : Rel K F ρ H m) {a : Addr} (h : H a = none) : ¬ F a := fun z => r.fa a z h
theorem Ext.refl : Ext D ρ H ρ H := ⟨Nat.le_refl _, fun _ _ _ h => h, fun a h n => (n h).elim, fun _ _ h _ _ => h, fun _ _ h _ => h, fun _ h => h⟩
theorem Ext.trans (a : Ext D ρ H ρ1 H1) (b : Ext D ρ1 H1 ρ2 H2) : Ext D ρ H ρ2 H2 where
  len := Nat.le_trans a.len b.len
  stay := fun i x hi h => a.stay i x hi (b.stay i x (Nat.lt_of_lt_of_le hi a.len) h)
  new := fun x h n => by
    by_cases hx : Al ρ1 x
    · exact a.new x hx n
    · exact a.dom x (b.new x h hx)
  keep := fun x o h n d => by
    refine b.keep x o (a.keep x o h n d) (fun z => ?_) d
    rw [a.new x z n] at h; cases h
  imm_ := fun x o h i => b.imm_ x o (a.imm_ x o h i) i
  dom := fun x h => a.dom x (b.dom x h)
theorem Ext.wide (a : Ext D ρ H ρ' H') (h : ∀ x, D x → D' x) : Ext D' ρ H ρ' H' := ⟨a.len, a.stay, a.new, fun x o e n d => a.keep x o e n fun z => d (h x z), a.imm_, a.dom⟩
theorem Ext.sqt (e : Ext D ρ H ρ' H') {a : Addr} {xs : List V} (h : SqT K H a xs) : SqT K H' a xs := by
  rcases h with (h | ⟨o, h⟩) | h
  · exact .inl (.inl (e.imm_ _ _ h True.intro))
  · exact .inl (.inr ⟨o, e.imm_ _ _ h True.intro⟩)
  · exact .inr h
theorem Ext.sql (e : Ext D ρ H ρ' H') {a : Addr} {xs : List V} (n : ¬ Al ρ a) (d : ¬ D a) (h : SqL K H a xs) : SqL K H' a xs := by
  rcases h with (h | ⟨o, h⟩) | h
  · exact .inl (.inl (e.keep _ _ h n d))
  · exact .inl (.inr ⟨o, e.imm_ _ _ h True.intro⟩)
  · exact .inr h
theorem Ext.sqs (e : Ext D ρ H ρ' H') {a : Addr} {xs : List V} (h : SqS K H a xs) : SqS K H' a xs := by
  rcases h with ⟨o, h⟩ | h
  · exact .inl ⟨o, e.imm_ _ _ h True.intro⟩
  · exact .inr h
/-- what stood and is not of the run's own stays out -/
theorem Ext.out (e : Ext D ρ H ρ' H') {a : Addr} (n : ¬ Al ρ a) (h : H a ≠ none) : ¬ Al ρ' a := fun z => h (e.new a z n)
end
section
variable {K : PySem.W.Frag} {F F' D : Addr → Prop} {ρ ρ' : Rho} {H H' : Hp}
mutual
theorem Den.ext (e : Ext D ρ H ρ' H') (hD : ∀ a, D a → ¬ F a → H a = none) (hs : ∀ a, ¬ F a → F' a → H a = none) : ∀ {d : Val} {v : V}, Den K F ρ H d v → Den K F' ρ' H' d v
  | _, _, .non => .non
  | _, _, .bl b => .bl b
  | _, _, .int i => .int i
  | _, _, .str x => .str x
  | _, _, .tup h t => .tup (e.sqt h) (DenAll.ext e hD hs t)
  | _, _, .lst h n f t => .lst (e.keep _ _ h n fun z => by have := hD _ z f; rw [h] at this; cases this) (e.out n (by rw [h]; exact fun z => nomatch z)) (fun z => by have := hs _ f z; rw [h] at this; cases this) (DenAll.ext e hD hs t)
  | _, _, .scr h => .scr (e.sqs h)
  | _, _, .ref hl h => .ref (Nat.lt_of_lt_of_le hl e.len) fun b hb => h b (e.stay _ _ hl hb)
theorem DenAll.ext (e : Ext D ρ H ρ' H') (hD : ∀ a, D a → ¬ F a → H a = none) (hs : ∀ a, ¬ F a → F' a → H a = none) : ∀ {ds : List Val} {vs : List V}, DenAll K F ρ H ds vs → DenAll K F' ρ' H' ds vs
  | _, _, .nil => .nil
  | _, _, .cons h t => .cons (Den.ext e hD hs h) (DenAll.ext e hD hs t)
end
end
section
variable {K : PySem.W.Frag} {F F' D : Addr → Prop} {ρ ρ' : Rho} {H H' : Hp} {m m' : Mem} {e : Env} {σ : L2.St}
theorem Den.on (x : Ext D0 ρ H ρ' H') {d : Val} {v : V} (h : Den K F ρ H d v) : Den K F ρ' H' d v := h.ext x (fun _ z => z.elim) fun _ f z => (f z).elim
theorem DenAll.on (x : Ext D0 ρ H ρ' H') {ds : List Val} {vs : List V} (h : DenAll K F ρ H ds vs) : DenAll K F ρ' H' ds vs := h.ext x (fun _ z => z.elim) fun _ f z => (f z).elim
theorem RelE.ext (r : RelE K F ρ H e σ) (x : Ext D ρ H ρ' H') (hD : ∀ a, D a → ¬ F a → H a = none) (hs : ∀ a, ¬ F a → F' a → H a = none) : RelE K F' ρ' H' e σ := ⟨r.len, fun i d h => by
  obtain ⟨v, h1, h2⟩ := r.at_ i d h
  exact ⟨v, h1, h2.ext x hD hs⟩⟩
theorem RelE.on (r : RelE K F ρ H e σ) (x : Ext D0 ρ H ρ' H') : RelE K F ρ' H' e σ := r.ext x (fun _ z => z.elim) fun _ f z => (f z).elim
theorem DenAll.length : ∀ {ds : List Val} {vs : List V}, DenAll K F ρ H ds vs → ds.length = vs.length
  | _, _, .nil => rfl
  | _, _, .cons _ t => congrArg (· + 1) t.length
theorem DenAll.get : ∀ {ds : List Val} {vs : List V}, DenAll K F ρ H ds vs → ∀ (i : Nat) (d : Val), ds[i]? = some d → ∃ v, vs[i]? = some v ∧ Den K F ρ H d v
  | _, _, .nil, i, d, h => by simp at h
  | _, _, .cons h t, 0, d, e => by simp at e; subst e; exact ⟨_, rfl, h⟩
  | _, _, .cons h t, i + 1, d, e => by
    obtain ⟨v, h1, h2⟩ := DenAll.get t i d (by simpa using e)
    exact ⟨v, by simpa using h1, h2⟩
theorem DenAll.getV : ∀ {ds : List Val} {vs : List V}, DenAll K F ρ H ds vs → ∀ (i : Nat) (v : V), vs[i]? = some v → ∃ d, ds[i]? = some d ∧ Den K F ρ H d v
  | _, _, .nil, i, d, h => by simp at h
  | _, _, .cons h t, 0, d, e => by simp at e; subst e; exact ⟨_, rfl, h⟩
  | _, _, .cons h t, i + 1, d, e => by
    obtain ⟨v, h1, h2⟩ := DenAll.getV t i d (by simpa using e)
    exact ⟨v, by simpa using h1, h2⟩
theorem DenAll.append : ∀ {ds es : List Val} {vs ws : List V}, DenAll K F ρ H ds vs → DenAll K F ρ H es ws → DenAll K F ρ H (ds ++ es) (vs ++ ws)
  | _, _, _, _, .nil, s => s
  | _, _, _, _, .cons h t, s => .cons h (DenAll.append t s)
theorem DenAll.take : ∀ {ds : List Val} {vs : List V} (n : Nat), DenAll K F ρ H ds vs → DenAll K F ρ H (ds.take n) (vs.take n)
  | _, _, 0, _ => .nil
  | _, _, _ + 1, .nil => .nil
  | _, _, n + 1, .cons h t => .cons h (DenAll.take n t)
theorem DenAll.drop : ∀ {ds : List Val} {vs : List V} (n : Nat), DenAll K F ρ H ds vs → DenAll K F ρ H (ds.drop n) (vs.drop n)
  | _, _, 0, h => h
  | _, _, _ + 1, .nil => .nil
  | _, _, n + 1, .cons h t => DenAll.drop n t
theorem DenAll.rev : ∀ {ds : List Val} {vs : List V}, DenAll K F ρ H ds vs → DenAll K F ρ H ds.reverse vs.reverse
  | _, _, .nil => .nil
  | _, _, .cons h t => by
    rw [List.reverse_cons, List.reverse_cons]
    exact t.rev.append (.cons h .nil)
theorem DenAll.set : ∀ {ds : List Val} {vs : List V} {d : Val} {v : V} (i : Nat), DenAll K F ρ H ds vs → Den K F ρ H d v → DenAll K F ρ H (ds.set i d) (vs.set i v)
  | _, _, _, _, _, .nil, _ => .nil
  | _, _, _, _, 0, .cons h t, q => .cons q t
  | _, _, _, _, i + 1, .cons h t, q => .cons h (DenAll.set i t q)
theorem DenAll.ints : ∀ ns : List Int, DenAll K F ρ H (ns.map Val.int) (ns.map V.int)
  | [] => .nil
  | n :: ns => .cons (.int n) (DenAll.ints ns)
/-- what stands at a list of the run -/
theorem Rel.lst (r : Rel K F ρ H m) {l : Nat} {ds : List Val} {v : V} (h : m[l]? = some (.lst ds)) (d : Den K F ρ H (.ref l) v) : ∃ a xs, v = .ref a ∧ ρ[l]? = some (some a) ∧ H a = some (.lst xs) ∧ DenAll K F ρ H ds xs := by
  cases d with
  | @ref _ a hl ha =>
    obtain ⟨b, hb⟩ := r.liv l ds h
    have e := ha b hb
    subst e
    obtain ⟨ds', xs, h1, h2, h3⟩ := r.obj l a hb
    rw [h] at h1; cases h1
    exact ⟨a, xs, rfl, hb, h2, h3⟩
theorem Rel.sees (r : Rel K F ρ H m) {d : Val} {v : V} (h : Den K F ρ H d v) : Sees K F ρ H (rs m d) v := by
  cases d with
  | ref l =>
    show Sees K F ρ H (match m[l]? with | some (.lst xs) => .lst xs | _ => .ref l) v
    cases hm : m[l]? with
    | none => exact .den h
    | some o => cases o with
      | dead => exact .den h
      | lst xs =>
        obtain ⟨a, ys, rfl, _, h2, h3⟩ := r.lst hm h
        exact .mem h2 h3
  | _ => exact .den h
/-- all stands, the heap has grown: the memory's objects are as they were -/
theorem Rel.same (r : Rel K F ρ H m) (x : Ext D0 ρ H ρ H') (h : ∀ a o, H a = some o → H' a = some o) : Rel K F ρ H' m where
  len := r.len
  inj := r.inj
  obj := fun i a e => by
    obtain ⟨ds, xs, h1, h2, h3⟩ := r.obj i a e
    exact ⟨ds, xs, h1, h _ _ h2, h3.on x⟩
  liv := r.liv
  fa := fun a f z => r.fa a f (x.dom a z)
  fal := r.fal
/-- a new object that is not the memory's -/
theorem Ext.laid {p : Addr} {o : HO} (hp : H p = none) : Ext D0 ρ H ρ (upd H p o) where
  len := Nat.le_refl _
  stay := fun _ _ _ h => h
  new := fun a h n => (n h).elim
  keep := fun a ob e _ _ => by rw [upd_ne (ne_of_none e hp)]; exact e
  imm_ := fun a ob e _ => by rw [upd_ne (ne_of_none e hp)]; exact e
  dom := fun a e => by
    by_cases ha : a = p
    · rw [ha]; exact hp
    · rw [upd_ne ha] at e; exact e
theorem Rel.laid (r : Rel K F ρ H m) {p : Addr} {o : HO} (hp : H p = none) : Rel K F ρ (upd H p o) m :=
  r.same (Ext.laid hp) fun a ob e => by rw [upd_ne (ne_of_none e hp)]; exact e
theorem Den.newTup (r : Rel K F ρ H m) {p : Addr} {ds : List Val} {xs : List V} (hp : H p = none) (h : DenAll K F ρ H ds xs) : Den K F ρ (upd H p (.tup xs)) (.tup ds) (.ref p) :=
  .tup (SqT.of upd_same) (h.on (Ext.laid hp))
theorem Den.newLst (r : Rel K F ρ H m) {p : Addr} {ds : List Val} {xs : List V} (hp : H p = none) (h : DenAll K F ρ H ds xs) : Den K F ρ (upd H p (.lst xs)) (.lst ds) (.ref p) :=
  .lst upd_same (r.not_al hp) (r.not_f hp) (h.on (Ext.laid hp))
/-- a new list into the memory -/
theorem Ext.grow {p : Addr} {o : HO} (hp : H p = none) : Ext D0 ρ H (ρ ++ [some p]) (upd H p o) where
  len := by simp
  stay := fun i a hi h => by rw [List.getElem?_append_left hi] at h; exact h
  new := fun a h n => by
    rcases List.mem_append.mp h with z | z
    · exact (n z).elim
    · have e : a = p := by simpa using z
      rw [e]; exact hp
  keep := fun a ob e _ _ => by rw [upd_ne (ne_of_none e hp)]; exact e
  imm_ := fun a ob e _ => by rw [upd_ne (ne_of_none e hp)]; exact e
  dom := fun a e => by
    by_cases ha : a = p
    · rw [ha]; exact hp
    · rw [upd_ne ha] at e; exact e
theorem Rel.grow (r : Rel K F ρ H m) {p : Addr} {ds : List Val} {xs : List V} (hp : H p = none) (h : DenAll K F ρ H ds xs) : Rel K F (ρ ++ [some p]) (upd H p (.lst xs)) (m ++ [.lst ds]) where
  len := by simp [r.len]
  inj := fun i j a h1 h2 => by
    have np := r.not_al hp
    by_cases hi : i < ρ.length
    · rw [List.getElem?_append_left hi] at h1
      by_cases hj : j < ρ.length
      · rw [List.getElem?_append_left hj] at h2; exact r.inj i j a h1 h2
      · rw [List.getElem?_append_right (by omega)] at h2
        have e := List.mem_of_getElem? h2
        have e : a = p := by simpa using e
        exact (np (e ▸ Al.of h1)).elim
    · rw [List.getElem?_append_right (by omega)] at h1
      have e := List.mem_of_getElem? h1
      have e : a = p := by simpa using e
      by_cases hj : j < ρ.length
      · rw [List.getElem?_append_left hj] at h2; exact (np (e ▸ Al.of h2)).elim
      · rw [List.getElem?_append_right (by omega)] at h2
        obtain ⟨k1, _⟩ := List.getElem?_eq_some_iff.mp h1
        obtain ⟨k2, _⟩ := List.getElem?_eq_some_iff.mp h2
        simp at k1 k2
        omega
  obj := fun i a e => by
    by_cases hi : i < ρ.length
    · rw [List.getElem?_append_left hi] at e
      obtain ⟨ds', xs', h1, h2, h3⟩ := r.obj i a e
      have hm : i < m.length := by rw [← r.len]; exact hi
      exact ⟨ds', xs', by rw [List.getElem?_append_left hm]; exact h1, by rw [upd_ne (ne_of_none h2 hp)]; exact h2, h3.on (Ext.grow hp)⟩
    · have e' := e
      rw [List.getElem?_append_right (by omega)] at e
      have ea := List.mem_of_getElem? e
      have ea : a = p := by simpa using ea
      obtain ⟨k1, _⟩ := List.getElem?_eq_some_iff.mp e'
      have hk : i = m.length := by rw [← r.len]; simp at k1; omega
      subst hk
      refine ⟨ds, xs, by simp, by rw [ea]; exact upd_same, h.on (Ext.grow hp)⟩
  liv := fun i ds' e => by
    by_cases hi : i < m.length
    · rw [List.getElem?_append_left hi] at e
      obtain ⟨a, ha⟩ := r.liv i ds' e
      exact ⟨a, by rw [List.getElem?_append_left (by rw [r.len]; exact hi)]; exact ha⟩
    · obtain ⟨k1, _⟩ := List.getElem?_eq_some_iff.mp e
      have hk : i = ρ.length := by rw [r.len]; simp at k1; omega
      exact ⟨p, by rw [hk]; simp⟩
  fa := fun a f z => r.fa a f ((Ext.laid (ρ := ρ) hp).dom a z)
  fal := fun a f z => by
    rcases List.mem_append.mp z with y | y
    · exact r.fal a f y
    · have e : a = p := by simpa using y
      exact r.fa a f (by rw [e]; exact hp)
theorem Den.newRef {p : Addr} {o : HO} : Den K F (ρ ++ [some p]) (upd H p o) (.ref ρ.length) (.ref p) := .ref (by simp) fun b h => by
  have e : some p = some b := by simpa using h
  exact Option.some.inj e
/-- a list of the memory is changed -/
theorem Ext.change {l : Nat} {a : Addr} {xs ys : List V} (hl : ρ[l]? = some (some a)) (h : H a = some (.lst xs)) : Ext D0 ρ H ρ (upd H a (.lst ys)) where
  len := Nat.le_refl _
  stay := fun _ _ _ h => h
  new := fun a h n => (n h).elim
  keep := fun b ob e n _ => by
    have nb : b ≠ a := fun z => n (by rw [z]; exact Al.of hl)
    rw [upd_ne nb]; exact e
  imm_ := fun b ob e i => by
    rw [upd_ne (fun z => ?_)]
    · exact e
    · rw [z, h] at e; cases e; exact i
  dom := fun b e => by
    by_cases ha : b = a
    · rw [ha, upd_same] at e; cases e
    · rw [upd_ne ha] at e; exact e
theorem Rel.change (r : Rel K F ρ H m) {l : Nat} {a : Addr} {xs ys : List V} {es : List Val} (hl : ρ[l]? = some (some a)) (h : H a = some (.lst xs)) (hy : DenAll K F ρ H es ys) : Rel K F ρ (upd H a (.lst ys)) (m.set l (.lst es)) where
  len := by simp [r.len]
  inj := r.inj
  obj := fun i b e => by
    obtain ⟨ds', xs', h1, h2, h3⟩ := r.obj i b e
    by_cases hi : i = l
    · subst hi
      rw [hl] at e; cases e
      have hm : i < m.length := by obtain ⟨k, _⟩ := List.getElem?_eq_some_iff.mp h1; exact k
      exact ⟨es, ys, by rw [List.getElem?_set_self hm], upd_same, hy.on (Ext.change hl h)⟩
    · have nb : b ≠ a := fun z => hi (r.inj i l b e (z ▸ hl))
      exact ⟨ds', xs', by rw [List.getElem?_set_ne (Ne.symm hi)]; exact h1, by rw [upd_ne nb]; exact h2, h3.on (Ext.change hl h)⟩
  liv := fun i ds' e => by
    by_cases hi : i = l
    · exact ⟨a, by rw [hi]; exact hl⟩
    · rw [List.getElem?_set_ne (Ne.symm hi)] at e
      exact r.liv i ds' e
  fa := fun b f z => r.fa b f ((Ext.change hl h).dom b z)
  fal := r.fal
/-- a list of the memory is frozen -/
theorem al_set {l : Nat} {b : Addr} (h : Al (ρ.set l none) b) : Al ρ b := by
  obtain ⟨i, hi⟩ := h.get
  by_cases e : i = l
  · subst e
    rw [List.getElem?_set] at hi
    split at hi
    · split at hi <;> cases hi
    · exact Al.of hi
  · rw [List.getElem?_set_ne (Ne.symm e)] at hi; exact Al.of hi
theorem set_get {l i : Nat} {b : Addr} (h : (ρ.set l none)[i]? = some (some b)) : i ≠ l ∧ ρ[i]? = some (some b) := by
  by_cases e : i = l
  · subst e
    by_cases hl : i < ρ.length
    · rw [List.getElem?_set_self hl] at h; cases h
    · rw [List.getElem?_eq_none (by simpa using hl)] at h; cases h
  · rw [List.getElem?_set_ne (Ne.symm e)] at h; exact ⟨e, h⟩
theorem Ext.freeze {l : Nat} : Ext D0 ρ H (ρ.set l none) H where
  len := by simp
  stay := fun i a _ h => (set_get h).2
  new := fun a h n => (n (al_set h)).elim
  keep := fun _ _ h _ _ => h
  imm_ := fun _ _ h _ => h
  dom := fun _ h => h
theorem Rel.freeze (r : Rel K F ρ H m) {l : Nat} : Rel K F (ρ.set l none) H (m.set l .dead) where
  len := by simp [r.len]
  inj := fun i j a h1 h2 => r.inj i j a (set_get h1).2 (set_get h2).2
  obj := fun i a e => by
    obtain ⟨ne, e⟩ := set_get e
    obtain ⟨ds, xs, h1, h2, h3⟩ := r.obj i a e
    exact ⟨ds, xs, by rw [List.getElem?_set_ne (Ne.symm ne)]; exact h1, h2, h3.on Ext.freeze⟩
  liv := fun i ds e => by
    have ne : i ≠ l := fun z => by
      subst z
      by_cases hl : i < m.length
      · rw [List.getElem?_set_self hl] at e; cases e
      · rw [List.getElem?_eq_none (by simpa using hl)] at e; cases e
    rw [List.getElem?_set_ne (Ne.symm ne)] at e
    obtain ⟨a, ha⟩ := r.liv i ds e
    exact ⟨a, by rw [List.getElem?_set_ne (Ne.symm ne)]; exact ha⟩
  fa := r.fa
  fal := fun a f z => r.fal a f (al_set z)
theorem Den.frozen (r : Rel K F ρ H m) {l : Nat} {ds : List Val} {v : V} (h : m[l]? = some (.lst ds)) (d : Den K F ρ H (.ref l) v) : Den K F (ρ.set l none) H (.lst ds) v := by
  obtain ⟨a, xs, rfl, h1, h2, h3⟩ := r.lst h d
  refine .lst h2 (fun z => ?_) (fun f => r.fal a f (Al.of h1)) (h3.on Ext.freeze)
  obtain ⟨i, hi⟩ := z.get
  obtain ⟨ne, e⟩ := set_get hi
  exact ne (r.inj i l a e h1)
/-! ### the names -/
theorem RelE.set (r : RelE K F ρ H e σ) {i : Nat} {d : Val} {v : V} (h : Den K F ρ H d v) : RelE K F ρ H (e.set i (some d)) (σ.set i (some v)) := ⟨by simp [r.len], fun j d' q => by
  by_cases hj : j = i
  · subst hj
    by_cases hl : j < e.length
    · rw [List.getElem?_set_self hl] at q
      cases q
      exact ⟨v, by rw [List.getElem?_set_self (by rw [← r.len]; exact hl)], h⟩
    · rw [List.getElem?_eq_none (by simpa using hl)] at q; cases q
  · rw [List.getElem?_set_ne (Ne.symm hj)] at q ⊢
    exact r.at_ j d' q⟩
theorem RelE.wipe1 (r : RelE K F ρ H e σ) {i : Nat} : RelE K F ρ H (e.set i none) (σ.set i none) := ⟨by simp [r.len], fun j d' q => by
  by_cases hj : j = i
  · subst hj
    by_cases hl : j < e.length
    · rw [List.getElem?_set_self hl] at q; cases q
    · rw [List.getElem?_eq_none (by simpa using hl)] at q; cases q
  · rw [List.getElem?_set_ne (Ne.symm hj)] at q ⊢
    exact r.at_ j d' q⟩
theorem RelE.wipe (r : RelE K F ρ H e σ) : ∀ vs : List Nat, RelE K F ρ H (wipeE e vs) (L2.wipe σ vs)
  | [] => r
  | v :: vs => (RelE.wipe r vs).wipe1
end
end MP
/-! MP: the operations on values. -/
namespace MP
open PySem PySem.Spec PyProof.Rows L2

/-- what is wanted of a value d, the memory m -/
def Ans (K : PySem.W.Frag) (F : Addr → Prop) (ρ : Rho) (H : Hp) (Q : VK) (d : Val) (m : Mem) : Prop :=
  ∀ v H' ρ', Ext D0 ρ H ρ' H' → Rel K F ρ' H' m → Den K F ρ' H' d v → Q v H'
section
variable {K : PySem.W.Frag} {F : Addr → Prop} {ρ ρ' : Rho} {H H' : Hp} {m m' : Mem} {Q : VK} {d : Val} {v : V}
theorem Ans.on (x : Ext D0 ρ H ρ' H') (h : Ans K F ρ H Q d m) : Ans K F ρ' H' Q d m := fun v H2 ρ2 e r q => h v H2 ρ2 (x.trans e) r q
theorem Ans.now (h : Ans K F ρ H Q d m) (r : Rel K F ρ H m) (q : Den K F ρ H d v) : Q v H := h v H ρ Ext.refl r q
theorem Ans.int {i : Int} (h : Ans K F ρ H Q (.int i) m) (r : Rel K F ρ H m) : Q (.int i) H := h.now r (.int i)
theorem Ans.bl {b : Bool} (h : Ans K F ρ H Q (.bl b) m) (r : Rel K F ρ H m) : Q (.bl b) H := h.now r (.bl b)
theorem Ans.newT {ds : List Val} {xs : List V} (h : Ans K F ρ H Q (.tup ds) m) (r : Rel K F ρ H m) (a : DenAll K F ρ H ds xs) : ∀ p, H p = none → Q (.ref p) (upd H p (.tup xs)) :=
  fun p hp => h _ _ ρ (Ext.laid hp) (r.laid hp) (Den.newTup r hp a)
theorem Ans.newF {ds : List Val} {xs : List V} (h : Ans K F ρ H Q (.lst ds) m) (r : Rel K F ρ H m) (a : DenAll K F ρ H ds xs) : ∀ p, H p = none → Q (.ref p) (upd H p (.lst xs)) :=
  fun p hp => h _ _ ρ (Ext.laid hp) (r.laid hp) (Den.newLst r hp a)
theorem Ans.newM {ds : List Val} {xs : List V} (h : Ans K F ρ H Q (.ref m.length) (m ++ [.lst ds])) (r : Rel K F ρ H m) (a : DenAll K F ρ H ds xs) : ∀ p, H p = none → Q (.ref p) (upd H p (.lst xs)) :=
  fun p hp => h _ _ (ρ ++ [some p]) (Ext.grow hp) (r.grow hp a) (by rw [← r.len]; exact Den.newRef)
theorem Ans.newL {mt : Bool} {ds : List Val} {xs : List V} {W} (h : (newL mt ds m).Out (Ans K F ρ H Q) W) (r : Rel K F ρ H m) (a : DenAll K F ρ H ds xs) : ∀ p, H p = none → Q (.ref p) (upd H p (.lst xs)) := by
  cases mt with
  | true => exact Ans.newM h r a
  | false => exact Ans.newF h r a
/-! ### what is seen -/
theorem Sees.int {i : Int} (h : Sees K F ρ H (.int i) v) : v = .int i := by
  cases h with
  | den h => cases h; rfl
theorem Sees.bl {b : Bool} (h : Sees K F ρ H (.bl b) v) : v = .bl b := by
  cases h with
  | den h => cases h; rfl
theorem Sees.non (h : Sees K F ρ H .non v) : v = .non := by
  cases h with
  | den h => cases h; rfl
theorem Sees.tup {ds : List Val} (h : Sees K F ρ H (.tup ds) v) : ∃ a xs, v = .ref a ∧ SqT K H a xs ∧ DenAll K F ρ H ds xs := by
  cases h with
  | den h => cases h with
    | tup a b => exact ⟨_, _, rfl, a, b⟩
theorem Sees.lst {ds : List Val} (h : Sees K F ρ H (.lst ds) v) : ∃ a xs, v = .ref a ∧ H a = some (.lst xs) ∧ DenAll K F ρ H ds xs := by
  cases h with
  | den h => cases h with
    | lst a _ _ b => exact ⟨_, _, rfl, a, b⟩
  | mem a b => exact ⟨_, _, rfl, a, b⟩
theorem Sees.scr {ns : List Int} (h : Sees K F ρ H (.scr ns) v) : ∃ a, v = .ref a ∧ SqS K H a (ns.map V.int) := by
  cases h with
  | den h => cases h with
    | scr a => exact ⟨_, rfl, a⟩
theorem Sees.on (x : Ext D0 ρ H ρ' H') (r : Rel K F ρ H m) (r' : Rel K F ρ' H' m') (hd : Den K F ρ H d v) : Den K F ρ' H' d v := hd.on x
mutual
theorem Den.dp : ∀ {d : Val} {v : V}, isD d = true → Den K F ρ H d v → Dp K H v (toD d)
  | .non, _, _, .non => .non
  | .bl b, _, _, .bl _ => .bl b
  | .int i, _, _, .int _ => .int i
  | .str x, _, _, .str _ => .str x
  | .tup ds, _, h, .tup a b => .tup a (DenAll.dp (show isDs ds = true from h) b)
  | .lst ds, _, h, .lst a _ _ b => .lst (SqL.of a) (DenAll.dp (show isDs ds = true from h) b)
  | .scr _, _, h, _ => by cases h
  | .ref _, _, h, _ => by cases h
theorem DenAll.dp : ∀ {ds : List Val} {vs : List V}, isDs ds = true → DenAll K F ρ H ds vs → DpAll K H vs (toDs ds)
  | [], _, _, .nil => .nil
  | d :: ds, _, h, .cons a b => by
    have h' : (isD d && isDs ds) = true := h
    rw [Bool.and_eq_true] at h'
    exact .cons (Den.dp h'.1 a) (DenAll.dp h'.2 b)
end
theorem Sees.dp (hd : isD d = true) (h : Sees K F ρ H d v) : Dp K H v (toD d) := by
  cases h with
  | den h => exact h.dp hd
  | mem a b => exact .lst (SqL.of a) (b.dp hd)
theorem LL_size : LL ≤ sizeLine := by rw [sizeLine_eq]; decide
end

section
variable {X : Cx}
theorem OpR.imp {f : Value → Value → Sem Value} {r r' : R2} (h : OpR X f r) (hr : ∀ x y H Q, r' x y H Q → r x y H Q) : OpR X f r' := fun pins s σ H x y v u Q I a b q => h pins s σ H x y v u Q I a b (hr _ _ _ _ q)
theorem CallR.imp {f : Value} {r r' : List V → Hp → VK → Prop} (h : CallR X f r) (hr : ∀ x H Q, r' x H Q → r x H Q) : CallR X f r' := fun pins s σ H x u Q I a q => h pins s σ H x u Q I a (hr _ _ _ q)
theorem PE.imp {e : Expr} {t t' : L2.TE} (h : PE X e t) (ht : ∀ σ H Q, t' σ H Q → t σ H Q) : PE X e t' := ⟨fun pins s σ H Q I q => h.run pins s σ H Q I (ht _ _ _ q)⟩
theorem PT.imp {e : Expr} {t t' : L2.TT} (h : PT X e t) (ht : ∀ σ H Q, t' σ H Q → t σ H Q) : PT X e t' := ⟨fun pins s σ H Q I q => h.run pins s σ H Q I (ht _ _ _ q)⟩
theorem PW.imp {e : Expr} {t t' : L2.TT} (h : PW X e t) (ht : ∀ σ H Q, t' σ H Q → t σ H Q) : PW X e t' := ⟨fun wh pins s σ H Q I q => h.run wh pins s σ H Q I (ht _ _ _ q)⟩
theorem PA.imp {e : List Expr} {t t' : L2.TA} (h : PA X e t) (ht : ∀ σ H Q, t' σ H Q → t σ H Q) : PA X e t' := ⟨fun pos pins s σ H Q I q => h.run pos pins s σ H Q I (ht _ _ _ q)⟩
theorem PS.imp {e : Stmt} {t t' : L2.TS} (h : PS X e t) (ht : ∀ D σ H, t' D σ H → t D σ H) : PS X e t' := ⟨fun pins s σ H Q I q => h.run pins s σ H Q I (ht _ _ _ q)⟩
theorem PSs.imp {e : List Stmt} {t t' : L2.TS} (h : PSs X e t) (ht : ∀ D σ H, t' D σ H → t D σ H) : PSs X e t' := ⟨fun pins s σ H Q I q => h.run pins s σ H Q I (ht _ _ _ q)⟩

/-- an operation by the abstract values -/
def rV (K : PySem.W.Frag) (f : Val → Val → Option Val) : R2 := fun x y H Q => ∃ (F : Addr → Prop) (ρ : Rho) (m : Mem) (d1 d2 d : Val), Rel K F ρ H m ∧ Sees K F ρ H d1 x ∧ Sees K F ρ H d2 y ∧ f d1 d2 = some d ∧ Ans K F ρ H Q d m
def trB : Bop → Operator
  | .add => .Add | .sub => .Sub | .mul => .Mult | .fdiv => .FloorDiv | .mod => .Mod | .pow => .Pow
theorem op_add_V : OpR X (binaryOp .Add) (rV X.K addV) := by
  refine OpR.imp (OpR.or (OpR.or op_add op_catA) op_cat) fun x y H Q ⟨F, ρ, m, d1, d2, d, r, s1, s2, e, a⟩ => ?_
  unfold addV at e
  split at e
  · injection e with e; subst e
    exact .inl (.inl ⟨_, _, s1.int, s2.int, a.int r⟩)
  · split at e
    · rename_i hz
      injection e with e; subst e
      obtain ⟨p, vs, rfl, h1, a1⟩ := s1.tup
      obtain ⟨q, ws, rfl, h2, a2⟩ := s2.tup
      refine .inl (.inr ⟨p, q, vs, ws, rfl, rfl, h1, h2, by rw [← a1.length, ← a2.length]; exact Nat.le_trans hz LL_size, fun e => ?_, fun e e2 => ?_, fun _ _ => a.newT r (a1.append a2)⟩)
      · subst e; cases a1; exact a.now r (.tup h2 a2)
      · subst e2; cases a2; rw [List.append_nil] at a; exact a.now r (.tup h1 a1)
    · cases e
  · split at e
    · rename_i hz
      injection e with e; subst e
      obtain ⟨p, vs, rfl, h1, a1⟩ := s1.lst
      obtain ⟨q, ws, rfl, h2, a2⟩ := s2.lst
      exact .inr ⟨p, q, vs, ws, rfl, rfl, h1, h2, by rw [← a1.length, ← a2.length]; exact Nat.le_trans hz LL_size, a.newF r (a1.append a2)⟩
    · cases e
  · cases e
theorem op_sub_V : OpR X (binaryOp .Sub) (rV X.K subV) := by
  refine OpR.imp op_sub fun x y H Q ⟨F, ρ, m, d1, d2, d, r, s1, s2, e, a⟩ => ?_
  unfold subV at e
  split at e
  · injection e with e; subst e
    exact ⟨_, _, s1.int, s2.int, a.int r⟩
  · cases e
theorem DenAll.rep {K : PySem.W.Frag} {F : Addr → Prop} {ρ : Rho} {H : Hp} {ds : List Val} {vs : List V} (h : DenAll K F ρ H ds vs) : ∀ n : Nat, DenAll K F ρ H (List.replicate n ds).flatten (List.replicate n vs).flatten
  | 0 => .nil
  | n + 1 => by
    rw [List.replicate_succ, List.replicate_succ, List.flatten_cons, List.flatten_cons]
    exact h.append (DenAll.rep h n)
theorem op_mul_V : OpR X (binaryOp .Mult) (rV X.K mulV) := by
  refine OpR.imp (OpR.or op_mulW op_rep) fun x y H Q ⟨F, ρ, m, d1, d2, d, r, s1, s2, e, a⟩ => ?_
  unfold mulV at e
  split at e
  · split at e
    · rename_i hz
      injection e with e; subst e
      unfold mulOk at hz
      exact .inl ⟨_, _, s1.int, s2.int, (by unfold CMulW; exact of_decide_eq_true hz), a.int r⟩
    · cases e
  · split at e
    · rename_i hz
      injection e with e; subst e
      rw [Bool.and_eq_true, Bool.and_eq_true] at hz
      obtain ⟨⟨z1, z2⟩, z3⟩ := hz
      have z1 := of_decide_eq_true z1
      have z2 := of_decide_eq_true z2
      have z3 := of_decide_eq_true z3
      obtain ⟨p, vs, rfl, h1, a1⟩ := s1.lst
      exact .inr ⟨p, _, vs, rfl, s2.int, h1, by omega, by omega, by rw [← a1.length]; exact Nat.le_trans z3 LL_size, a.newF r (a1.rep _)⟩
    · cases e
  · cases e
theorem op_fdiv_V : OpR X (binaryOp .FloorDiv) (rV X.K fdivV) := by
  refine OpR.imp (OpR.or op_fdivW op_fdivN) fun x y H Q ⟨F, ρ, m, d1, d2, d, r, s1, s2, e, a⟩ => ?_
  unfold fdivV at e
  split at e
  · split at e
    · rename_i hz
      injection e with e; subst e
      unfold divOk at hz
      rw [Bool.and_eq_true] at hz
      exact .inl ⟨_, _, s1.int, s2.int, ⟨of_decide_eq_true hz.1, of_decide_eq_true hz.2⟩, a.int r⟩
    · split at e
      · rename_i hz
        injection e with e; subst e
        unfold ndivOk at hz
        rw [Bool.and_eq_true] at hz
        have z1 := of_decide_eq_true hz.1
        exact .inr ⟨_, _, s1.int, s2.int, ⟨by omega, of_decide_eq_true hz.2⟩, a.int r⟩
      · cases e
  · cases e
theorem op_mod_V : OpR X (binaryOp .Mod) (rV X.K modV) := by
  refine OpR.imp op_modN fun x y H Q ⟨F, ρ, m, d1, d2, d, r, s1, s2, e, a⟩ => ?_
  unfold modV at e
  split at e
  · split at e
    · cases e
    · rename_i hz
      injection e with e; subst e
      exact ⟨_, _, s1.int, s2.int, hz, a.int r⟩
  · cases e
theorem op_pow2 : OpR X (binaryOp .Pow) (rI (fun i j => 0 ≤ j ∧ (Builtin.Int.intBits i : Int) * j ≤ 134217728) fun i j => .int (i ^ j.toNat)) := opI fun _ _ _ _ _ _ _ hc q => pow_int hc.1 (Int.le_trans hc.2 (by decide)) q
theorem op_pow_V : OpR X (binaryOp .Pow) (rV X.K powV) := by
  refine OpR.imp op_pow2 fun x y H Q ⟨F, ρ, m, d1, d2, d, r, s1, s2, e, a⟩ => ?_
  unfold powV at e
  split at e
  · split at e
    · rename_i hz
      injection e with e; subst e
      unfold powOk at hz
      rw [Bool.and_eq_true] at hz
      exact ⟨_, _, s1.int, s2.int, ⟨of_decide_eq_true hz.1, of_decide_eq_true hz.2⟩, a.int r⟩
    · cases e
  · cases e
theorem op_V : ∀ o : Bop, OpR X (binaryOp (trB o)) (rV X.K (opV o))
  | .add => op_add_V
  | .sub => op_sub_V
  | .mul => op_mul_V
  | .fdiv => op_fdiv_V
  | .mod => op_mod_V
  | .pow => op_pow_V

/-! ### comparisons -/
/-- a comparison by the abstract values: the heap stays -/
def rC (K : PySem.W.Frag) (f : Val → Val → Option Bool) : R2 := fun x y H Q => ∃ (F : Addr → Prop) (ρ : Rho) (m : Mem) (d1 d2 : Val) (b : Bool), Rel K F ρ H m ∧ Sees K F ρ H d1 x ∧ Sees K F ρ H d2 y ∧ f d1 d2 = some b ∧ Q (.bl b) H
def trC : Cop → CmpOp
  | .eq => .Eq | .ne => .NotEq | .lt => .Lt | .le => .LtE | .gt => .Gt | .ge => .GtE | .isN => .Is | .isnN => .IsNot | .in_ => .In | .nin => .NotIn
theorem eqV_some {a b : Val} {c : Bool} (h : eqV a b = some c) : isD a = true ∧ isD b = true ∧ SeqAt.shaped (toD a) = true ∧ SeqAt.shaped (toD b) = true ∧ PyData.eqv (toD a) (toD b) = c := by
  unfold eqV at h
  split at h
  · rename_i hz
    rw [Bool.and_eq_true, Bool.and_eq_true, Bool.and_eq_true] at hz
    injection h with h
    exact ⟨hz.1, hz.2.1, hz.2.2.1, hz.2.2.2, h⟩
  · cases h
theorem map_some {α β : Type} {f : α → β} {o : Option α} {b : β} (h : o.map f = some b) : ∃ a, o = some a ∧ f a = b := by
  cases o with
  | none => cases h
  | some a => exact ⟨a, rfl, Option.some.inj h⟩
theorem ordV_some {p : Int → Int → Bool} {a b : Val} {c : Bool} (h : ordV p a b = some c) : ∃ i j, a = .int i ∧ b = .int j ∧ p i j = c := by
  unfold ordV at h
  split at h
  · exact ⟨_, _, rfl, rfl, Option.some.inj h⟩
  · cases h
theorem cop_eq (hu : X.A.units + 64 < cLine) : OpR X (compareOp .Eq) (rC X.K eqV) := by
  refine OpR.imp (op_eqD hu) fun x y H Q ⟨F, ρ, m, d1, d2, b, r, s1, s2, e, a⟩ => ?_
  obtain ⟨h1, h2, h3, h4, h5⟩ := eqV_some e
  exact ⟨_, _, s1.dp h1, s2.dp h2, h3, h4, by rw [h5]; exact a⟩
theorem cop_ne (hu : X.A.units + 64 < cLine) : OpR X (compareOp .NotEq) (rC X.K fun a b => (eqV a b).map (!·)) := by
  refine OpR.imp (op_neD hu) fun x y H Q ⟨F, ρ, m, d1, d2, b, r, s1, s2, e, a⟩ => ?_
  obtain ⟨c, e2, rfl⟩ := map_some e
  obtain ⟨h1, h2, h3, h4, h5⟩ := eqV_some e2
  exact ⟨_, _, s1.dp h1, s2.dp h2, h3, h4, by rw [h5]; exact a⟩
theorem cop_ord {op : CmpOp} {p : Int → Int → Bool} (h : OpR X (compareOp op) (rI0 fun i j => .bl (p i j))) : OpR X (compareOp op) (rC X.K (ordV p)) := by
  refine OpR.imp h fun x y H Q ⟨F, ρ, m, d1, d2, b, r, s1, s2, e, a⟩ => ?_
  obtain ⟨i, j, rfl, rfl, rfl⟩ := ordV_some e
  exact ⟨i, j, s1.int, s2.int, a⟩
theorem isNon_iff {K : PySem.W.Frag} {F : Addr → Prop} {ρ : Rho} {H : Hp} {d : Val} {v : V} (h : Sees K F ρ H d v) : isNon d = decide (v = .non) := by
  cases h with
  | den h => cases h <;> rfl
  | mem _ _ => rfl
theorem isV_some {a b : Val} {c : Bool} (h : isV a b = some c) : b = .non ∧ isNon a = c := by
  unfold isV at h
  split at h
  · exact ⟨rfl, Option.some.inj h⟩
  · cases h
theorem cop_is : OpR X (compareOp .Is) (rC X.K isV) := by
  refine OpR.imp op_isN fun x y H Q ⟨F, ρ, m, d1, d2, b, r, s1, s2, e, a⟩ => ?_
  obtain ⟨rfl, rfl⟩ := isV_some e
  exact ⟨s2.non, by rw [← isNon_iff s1]; exact a⟩
theorem cop_isn : OpR X (compareOp .IsNot) (rC X.K fun a b => (isV a b).map (!·)) := by
  refine OpR.imp op_notN fun x y H Q ⟨F, ρ, m, d1, d2, b, r, s1, s2, e, a⟩ => ?_
  obtain ⟨c, e2, rfl⟩ := map_some e
  obtain ⟨rfl, rfl⟩ := isV_some e2
  exact ⟨s2.non, by rw [← isNon_iff s1]; exact a⟩
theorem ints_of {K : PySem.W.Frag} {F : Addr → Prop} {ρ : Rho} {H : Hp} : ∀ {ds : List Val} {vs : List V}, allInts ds = true → DenAll K F ρ H ds vs → ∃ ns : List Int, ds = ns.map Val.int ∧ vs = ns.map V.int
  | [], _, _, .nil => ⟨[], rfl, rfl⟩
  | d :: ds, _, h, .cons a b => by
    have h' : (isInt d && allInts ds) = true := h
    rw [Bool.and_eq_true] at h'
    obtain ⟨ns, rfl, rfl⟩ := ints_of h'.2 b
    cases d with
    | int i => cases a; exact ⟨i :: ns, rfl, rfl⟩
    | _ => cases h'.1
theorem inV_ints {i : Int} {ns : List Int} : L2.inV (.int i) (ns.map V.int) = (ns.map Val.int).any fun v => match v with | .int j => decide (j = i) | _ => false := by
  unfold L2.inV
  rw [List.any_map, List.any_map]
  congr 1
theorem inV_some {a : Val} {xs : List Val} {c : Bool} (h : inV a xs = some c) : ∃ i, a = .int i ∧ allInts xs = true ∧ (xs.any fun v => match v with | .int j => decide (j = i) | _ => false) = c := by
  unfold inV at h
  split at h
  · split at h
    · rename_i hz; exact ⟨_, rfl, hz, Option.some.inj h⟩
    · cases h
  · cases h
theorem mem_rin {K : PySem.W.Frag} {neg : Bool} {H : Hp} {x y : V} {Q : VK} {F : Addr → Prop} {ρ : Rho} {d1 d2 : Val} {c : Bool} (s1 : Sees K F ρ H d1 x) (s2 : Sees K F ρ H d2 y) (e : memV d1 d2 = some c) (q : Q (.bl (if neg then !c else c)) H) : rIn K neg x y H Q := by
  have go : ∀ (p : Addr) (vs : List V) (ds : List Val), y = .ref p → (SqL K H p vs ∨ SqT K H p vs) → DenAll K F ρ H ds vs → inV d1 ds = some c → rIn K neg x y H Q := fun p vs ds e1 hq a e => by
    obtain ⟨i, rfl, h1, h2⟩ := inV_some e
    obtain ⟨ns, rfl, rfl⟩ := ints_of h1 a
    have e3 : x = .int i := s1.int
    subst e3
    refine ⟨p, _, e1, hq, rfl, ?_, ?_⟩
    · rw [List.all_map]; exact List.all_eq_true.mpr fun _ _ => rfl
    · rw [inV_ints, h2]; exact q
  unfold memV at e
  split at e
  · obtain ⟨p, vs, rfl, h, a⟩ := s2.lst
    exact go p vs _ rfl (.inl (SqL.of h)) a e
  · obtain ⟨p, vs, rfl, h, a⟩ := s2.tup
    exact go p vs _ rfl (.inr h) a e
  · cases e
theorem cop_in : OpR X (compareOp .In) (rC X.K memV) := by
  refine OpR.imp op_in_seq fun x y H Q ⟨F, ρ, m, d1, d2, b, r, s1, s2, e, a⟩ => ?_
  exact mem_rin s1 s2 e a
theorem cop_nin : OpR X (compareOp .NotIn) (rC X.K fun a b => (memV a b).map (!·)) := by
  refine OpR.imp op_notIn_seq fun x y H Q ⟨F, ρ, m, d1, d2, b, r, s1, s2, e, a⟩ => ?_
  obtain ⟨c, e2, rfl⟩ := map_some e
  exact mem_rin s1 s2 e2 a
theorem cop_V (hu : X.A.units + 64 < cLine) : ∀ o : Cop, OpR X (compareOp (trC o)) (rC X.K (cmpV o))
  | .eq => cop_eq hu
  | .ne => cop_ne hu
  | .lt => cop_ord op_lt
  | .le => cop_ord op_le
  | .gt => cop_ord op_gt
  | .ge => cop_ord op_ge
  | .isN => cop_is
  | .isnN => cop_isn
  | .in_ => cop_in
  | .nin => cop_nin
end
end MP
/-! MP: built-in functions, subscripts, methods. -/
namespace MP
open PySem PySem.Spec PyProof.Rows L2

section
variable {X : Cx}
/-- a call of one value by the abstract values -/
def r1 (K : PySem.W.Frag) (f : Val → Option Val) : List V → Hp → VK → Prop := fun xs H Q => ∃ (F : Addr → Prop) (ρ : Rho) (m : Mem) (d1 d : Val) (x : V), xs = [x] ∧ Rel K F ρ H m ∧ Sees K F ρ H d1 x ∧ f d1 = some d ∧ Ans K F ρ H Q d m
def bName : Blt → Str
  | .len => "len" | .abs => "abs" | .int => "int" | .sum => "sum" | .all => "all" | .any => "any" | .max2 => "max" | .min2 => "min" | .tuple => "tuple" | .list => "list"
def bVal : Blt → Value
  | .len => .builtin "len" | .abs => .builtin "abs" | .int => .type "int" | .sum => .builtin "sum" | .all => .builtin "all" | .any => .builtin "any" | .max2 => .builtin "max" | .min2 => .builtin "min" | .tuple => .type "tuple" | .list => .type "list"
theorem b_boot : ∀ b : Blt, bootBuiltins (bName b) = some (bVal b) := by
  intro b; cases b <;> decide +kernel
theorem bl_len : CallR X (.builtin "len") (r1 X.K lenV) := by
  refine CallR.imp call_len_seq fun xs H Q ⟨F, ρ, m, d1, d, x, e0, r, s1, e, a⟩ => ?_
  subst e0
  unfold lenV at e
  split at e
  · injection e with e; subst e
    obtain ⟨p, vs, rfl, h, al⟩ := s1.lst
    refine ⟨p, vs, rfl, .inl (SqL.of h), ?_⟩
    rw [← al.length]; exact a.int r
  · injection e with e; subst e
    obtain ⟨p, vs, rfl, h, al⟩ := s1.tup
    refine ⟨p, vs, rfl, .inr h, ?_⟩
    rw [← al.length]; exact a.int r
  · injection e with e; subst e
    obtain ⟨p, rfl, h⟩ := s1.scr
    refine ⟨p, _, rfl, .inl h.sql, ?_⟩
    rw [List.length_map]; exact a.int r
  · cases e
theorem bl_abs : CallR X (.builtin "abs") (r1 X.K absV) := by
  refine CallR.imp call_abs fun xs H Q ⟨F, ρ, m, d1, d, x, e0, r, s1, e, a⟩ => ?_
  subst e0
  unfold absV at e
  split at e
  · injection e with e; subst e
    rw [s1.int]
    exact ⟨_, rfl, a.int r⟩
  · cases e
theorem bl_int : CallR X (.type "int") (r1 X.K intV) := by
  refine CallR.imp call_int1 fun xs H Q ⟨F, ρ, m, d1, d, x, e0, r, s1, e, a⟩ => ?_
  subst e0
  unfold intV at e
  split at e
  · injection e with e; subst e
    rw [s1.int]
    exact .inl ⟨_, rfl, a.int r⟩
  · injection e with e; subst e
    rw [s1.bl]
    exact .inr ⟨_, rfl, a.int r⟩
  · cases e
theorem sumI_some {K : PySem.W.Frag} {F : Addr → Prop} {ρ : Rho} {H : Hp} : ∀ {ds : List Val} {vs : List V} {n : Int}, sumI ds = some n → DenAll K F ρ H ds vs → ∃ ns : List Int, vs = ns.map V.int ∧ ns.sum = n
  | [], _, n, h, .nil => ⟨[], rfl, Option.some.inj h⟩
  | d :: ds, _, n, h, .cons a b => by
    cases d with
    | int i =>
      obtain ⟨k, h1, h2⟩ := map_some (show (sumI ds).map (i + ·) = some n from h)
      obtain ⟨ns, rfl, h3⟩ := sumI_some h1 b
      cases a
      exact ⟨i :: ns, rfl, by rw [List.sum_cons, h3]; exact h2⟩
    | _ => cases h
theorem bl_sum (hc : X.calm = true) : CallR X (.builtin "sum") (r1 X.K sumV) := by
  refine CallR.imp (cr_sum hc) fun xs H Q ⟨F, ρ, m, d1, d, x, e0, r, s1, e, a⟩ => ?_
  subst e0
  unfold sumV at e
  split at e
  · obtain ⟨n, h1, rfl⟩ := map_some e
    obtain ⟨p, vs, rfl, h, al⟩ := s1.lst
    obtain ⟨ns, rfl, rfl⟩ := sumI_some h1 al
    exact ⟨p, ns, rfl, SqL.of h, a.int r⟩
  · cases e
theorem allB_some {K : PySem.W.Frag} {F : Addr → Prop} {ρ : Rho} {H : Hp} : ∀ {ds : List Val} {vs : List V} {n : Bool}, allB ds = some n → DenAll K F ρ H ds vs → ∃ bs : List Bool, vs = bs.map V.bl ∧ bs.all id = n
  | [], _, n, h, .nil => ⟨[], rfl, Option.some.inj h⟩
  | d :: ds, _, n, h, .cons a b => by
    cases d with
    | bl i =>
      obtain ⟨k, h1, h2⟩ := map_some (show (allB ds).map (i && ·) = some n from h)
      obtain ⟨ns, rfl, h3⟩ := allB_some h1 b
      cases a
      exact ⟨i :: ns, rfl, by rw [List.all_cons, h3]; exact h2⟩
    | _ => cases h
theorem anyB_some {K : PySem.W.Frag} {F : Addr → Prop} {ρ : Rho} {H : Hp} : ∀ {ds : List Val} {vs : List V} {n : Bool}, anyB ds = some n → DenAll K F ρ H ds vs → ∃ bs : List Bool, vs = bs.map V.bl ∧ bs.any id = n
  | [], _, n, h, .nil => ⟨[], rfl, Option.some.inj h⟩
  | d :: ds, _, n, h, .cons a b => by
    cases d with
    | bl i =>
      obtain ⟨k, h1, h2⟩ := map_some (show (anyB ds).map (i || ·) = some n from h)
      obtain ⟨ns, rfl, h3⟩ := anyB_some h1 b
      cases a
      exact ⟨i :: ns, rfl, by rw [List.any_cons, h3]; exact h2⟩
    | _ => cases h
theorem bl_all (hc : X.calm = true) : CallR X (.builtin "all") (r1 X.K allV) := by
  refine CallR.imp (cr_all hc) fun xs H Q ⟨F, ρ, m, d1, d, x, e0, r, s1, e, a⟩ => ?_
  subst e0
  unfold allV at e
  split at e
  · obtain ⟨n, h1, rfl⟩ := map_some e
    obtain ⟨p, vs, rfl, h, al⟩ := s1.lst
    obtain ⟨ns, rfl, rfl⟩ := allB_some h1 al
    exact ⟨p, ns, rfl, SqL.of h, a.bl r⟩
  · cases e
theorem bl_any (hc : X.calm = true) : CallR X (.builtin "any") (r1 X.K anyV) := by
  refine CallR.imp (cr_any hc) fun xs H Q ⟨F, ρ, m, d1, d, x, e0, r, s1, e, a⟩ => ?_
  subst e0
  unfold anyV at e
  split at e
  · obtain ⟨n, h1, rfl⟩ := map_some e
    obtain ⟨p, vs, rfl, h, al⟩ := s1.lst
    obtain ⟨ns, rfl, rfl⟩ := anyB_some h1 al
    exact ⟨p, ns, rfl, SqL.of h, a.bl r⟩
  · cases e
theorem bl_tuple : CallR X (.type "tuple") (r1 X.K tupV) := by
  refine CallR.imp call_tuple_of fun xs H Q ⟨F, ρ, m, d1, d, x, e0, r, s1, e, a⟩ => ?_
  subst e0
  unfold tupV at e
  split at e
  · injection e with e; subst e
    obtain ⟨p, vs, rfl, h, al⟩ := s1.lst
    exact ⟨p, vs, rfl, .inl ⟨SqL.of h, a.newT r al⟩⟩
  · injection e with e; subst e
    obtain ⟨p, vs, rfl, h, al⟩ := s1.tup
    exact ⟨p, vs, rfl, .inr ⟨h, a.now r (.tup h al)⟩⟩
  · cases e
theorem bl_list : CallR X (.type "list") (r1 X.K lisV) := by
  refine CallR.imp call_list_of fun xs H Q ⟨F, ρ, m, d1, d, x, e0, r, s1, e, a⟩ => ?_
  subst e0
  unfold lisV at e
  split at e
  · injection e with e; subst e
    obtain ⟨p, vs, rfl, h, al⟩ := s1.lst
    exact ⟨p, vs, rfl, .inl (SqL.of h), a.newF r al⟩
  · injection e with e; subst e
    obtain ⟨p, vs, rfl, h, al⟩ := s1.tup
    exact ⟨p, vs, rfl, .inr h, a.newF r al⟩
  · injection e with e; subst e
    obtain ⟨p, rfl, h⟩ := s1.scr
    exact ⟨p, _, rfl, .inl h.sql, a.newF r (DenAll.ints _)⟩
  · cases e
theorem bl_V (hc : X.calm = true) : ∀ b : Blt, CallR X (bVal b) (r1 X.K (bltV b))
  | .len => bl_len
  | .abs => bl_abs
  | .int => bl_int
  | .sum => bl_sum hc
  | .all => bl_all hc
  | .any => bl_any hc
  | .tuple => bl_tuple
  | .list => bl_list
  | .max2 => fun _ _ _ _ _ _ _ _ _ ⟨_, _, _, _, _, _, _, _, _, e, _⟩ => by cases e
  | .min2 => fun _ _ _ _ _ _ _ _ _ ⟨_, _, _, _, _, _, _, _, _, e, _⟩ => by cases e
def r2 (K : PySem.W.Frag) (f : Val → Val → Option Val) : List V → Hp → VK → Prop := fun xs H Q => ∃ (F : Addr → Prop) (ρ : Rho) (m : Mem) (d1 d2 d : Val) (x y : V), xs = [x, y] ∧ Rel K F ρ H m ∧ Den K F ρ H d1 x ∧ Den K F ρ H d2 y ∧ f d1 d2 = some d ∧ Ans K F ρ H Q d m
theorem blt2V_max {a b d : Val} (h : blt2V .max2 a b = some d) : ∃ i j, a = .int i ∧ b = .int j ∧ d = .int (if j > i then j else i) := by
  cases a <;> cases b <;> first | (cases h; done) | exact ⟨_, _, rfl, rfl, (Option.some.inj h).symm⟩
theorem blt2V_min {a b d : Val} (h : blt2V .min2 a b = some d) : ∃ i j, a = .int i ∧ b = .int j ∧ d = .int (if j < i then j else i) := by
  cases a <;> cases b <;> first | (cases h; done) | exact ⟨_, _, rfl, rfl, (Option.some.inj h).symm⟩
theorem bl2_V (hc : X.calm = true) : ∀ b : Blt, CallR X (bVal b) (r2 X.K (blt2V b))
  | .max2 => by
    refine CallR.imp (call_max2 hc) fun xs H Q ⟨F, ρ, m, d1, d2, d, x, y, e0, r, s1, s2, e, a⟩ => ?_
    subst e0
    obtain ⟨i, j, rfl, rfl, rfl⟩ := blt2V_max e
    cases s1; cases s2
    exact ⟨i, j, rfl, a.int r⟩
  | .min2 => by
    refine CallR.imp (call_min2 hc) fun xs H Q ⟨F, ρ, m, d1, d2, d, x, y, e0, r, s1, s2, e, a⟩ => ?_
    subst e0
    obtain ⟨i, j, rfl, rfl, rfl⟩ := blt2V_min e
    cases s1; cases s2
    exact ⟨i, j, rfl, a.int r⟩
  | .len => fun _ _ _ _ _ _ _ _ _ ⟨_, _, _, _, _, _, _, _, _, _, _, _, e, _⟩ => by revert e; simp [blt2V]
  | .abs => fun _ _ _ _ _ _ _ _ _ ⟨_, _, _, _, _, _, _, _, _, _, _, _, e, _⟩ => by revert e; simp [blt2V]
  | .int => fun _ _ _ _ _ _ _ _ _ ⟨_, _, _, _, _, _, _, _, _, _, _, _, e, _⟩ => by revert e; simp [blt2V]
  | .sum => fun _ _ _ _ _ _ _ _ _ ⟨_, _, _, _, _, _, _, _, _, _, _, _, e, _⟩ => by revert e; simp [blt2V]
  | .all => fun _ _ _ _ _ _ _ _ _ ⟨_, _, _, _, _, _, _, _, _, _, _, _, e, _⟩ => by revert e; simp [blt2V]
  | .any => fun _ _ _ _ _ _ _ _ _ ⟨_, _, _, _, _, _, _, _, _, _, _, _, e, _⟩ => by revert e; simp [blt2V]
  | .tuple => fun _ _ _ _ _ _ _ _ _ ⟨_, _, _, _, _, _, _, _, _, _, _, _, e, _⟩ => by revert e; simp [blt2V]
  | .list => fun _ _ _ _ _ _ _ _ _ ⟨_, _, _, _, _, _, _, _, _, _, _, _, e, _⟩ => by revert e; simp [blt2V]
/-! ### isinstance -/
def tyName : Ty → String
  | .tuple => "tuple" | .int => "int" | .bool => "bool" | .str => "str" | .list => "list"
theorem isi_ok {K : PySem.W.Frag} {F : Addr → Prop} {ρ : Rho} {H : Hp} {d : Val} {v : V} {t : Ty} {b : Bool} (s : Sees K F ρ H d v) (e : isiV d t = some b) : ∃ u, TyX K H v u ∧ PySem.W.kitOne K u (.type (tyName t)) = some b := by
  have tupT : ∀ {p : Addr} {vs : List V}, SqT K H p vs → TyX K H (.ref p) (.type "tuple") := fun {p vs} h => by
    rcases h with (h | ⟨o, h⟩) | ⟨o, its, n, h, c, _⟩
    · exact .base (.tup h)
    · exact .fTuple h
    · exact .kTuple h c
  cases d with
  | non =>
    rw [s.non]
    exact ⟨_, .base .non, by cases t <;> (injection e with e; subst e; rfl)⟩
  | bl c =>
    rw [s.bl]
    exact ⟨_, .base (.bl _), by cases t <;> (injection e with e; subst e; rfl)⟩
  | int i =>
    rw [s.int]
    exact ⟨_, .base (.int _), by cases t <;> (injection e with e; subst e; rfl)⟩
  | str x =>
    cases s with
    | den h => cases h; exact ⟨_, .base (.str _), by cases t <;> (injection e with e; subst e; rfl)⟩
  | tup ds =>
    obtain ⟨p, vs, rfl, h, al⟩ := s.tup
    exact ⟨_, tupT h, by cases t <;> (injection e with e; subst e; rfl)⟩
  | lst ds =>
    obtain ⟨p, vs, rfl, h, al⟩ := s.lst
    exact ⟨_, .base (.lst h), by cases t <;> (injection e with e; subst e; rfl)⟩
  | scr ns => cases e
  | ref l => cases e
/-! ### subscripts -/
theorem atI_den {K : PySem.W.Frag} {F : Addr → Prop} {ρ : Rho} {H : Hp} {ds : List Val} {vs : List V} {i : Int} {d : Val} (h : atI ds i = some d) (a : DenAll K F ρ H ds vs) : ∃ v, atI vs i = some v ∧ Den K F ρ H d v := by
  unfold atI at h ⊢
  cases q : ixN ds.length i with
  | none => rw [q] at h; cases h
  | some j =>
    rw [q] at h
    obtain ⟨v, h1, h2⟩ := a.get j d h
    exact ⟨v, by rw [← a.length, q]; exact h1, h2⟩
theorem atI_map {α β : Type} {f : α → β} {xs : List α} {i : Int} {y : β} (h : (atI xs i).map f = some y) : atI (xs.map f) i = some y := by
  obtain ⟨x, h1, rfl⟩ := map_some h
  unfold atI at h1 ⊢
  rw [List.length_map]
  cases q : ixN xs.length i with
  | none => rw [q] at h1; cases h1
  | some j =>
    rw [q] at h1
    have h2 : xs[j]? = some x := h1
    show (xs.map f)[j]? = _
    rw [List.getElem?_map, h2]
    rfl
theorem IxR.imp {r r' : R2} (h : IxR X r) (hr : ∀ x y H Q, r' x y H Q → r x y H Q) : IxR X r' := fun a b pins s σ H x y v u Q I e f q => h a b pins s σ H x y v u Q I e f (hr _ _ _ _ q)
theorem ix_V : IxR X (rV X.K idxV) := by
  refine IxR.imp (IxR.or ix_list ix_tup) fun x y H Q ⟨F, ρ, m, d1, d2, d, r, s1, s2, e, a⟩ => ?_
  unfold idxV at e
  split at e
  · obtain ⟨p, vs, rfl, h, al⟩ := s1.lst
    obtain ⟨v, h1, h2⟩ := atI_den e al
    exact .inl ⟨p, vs, _, v, rfl, s2.int, SqL.of h, h1, a.now r h2⟩
  · obtain ⟨p, vs, rfl, h, al⟩ := s1.tup
    obtain ⟨v, h1, h2⟩ := atI_den e al
    exact .inr ⟨p, vs, _, v, rfl, s2.int, h, h1, a.now r h2⟩
  · obtain ⟨p, rfl, h⟩ := s1.scr
    obtain ⟨k, h1, rfl⟩ := map_some e
    exact .inl ⟨p, _, _, .int k, rfl, s2.int, h.sql, atI_map (f := V.int) (by rw [h1]; rfl), a.int r⟩
  · cases e
/-! ### methods -/
theorem MtM.imp {id : String} {r r' : V → List V → Hp → VK → Prop} (h : MtM X id r) (hr : ∀ x y H Q, r' x y H Q → r x y H Q) : MtM X id r' := fun pins s σ H x y v u Q I e f q => h pins s σ H x y v u Q I e f (hr _ _ _ _ q)
theorem mt_app {K : PySem.W.Frag} {F : Addr → Prop} {ρ : Rho} {m : Mem} {H : Hp} {l : Nat} {ds : List Val} {d : Val} {v y : V} {Q : VK} (r : Rel K F ρ H m) (e : m[l]? = some (.lst ds)) (h : Den K F ρ H (.ref l) v) (hy : Den K F ρ H d y) (hz : ds.length < LL)
    (a : Ans K F ρ H Q .non (m.set l (.lst (ds ++ [d])))) : rAppend v [y] H Q := by
  obtain ⟨p, xs, rfl, h1, h2, h3⟩ := r.lst e h
  refine ⟨p, xs, y, rfl, rfl, h2, by rw [← h3.length]; exact Nat.lt_of_lt_of_le hz LL_size, ?_⟩
  exact a _ _ ρ (Ext.change h1 h2) (r.change h1 h2 (h3.append (.cons hy .nil))) .non
theorem mt_ext {K : PySem.W.Frag} {F : Addr → Prop} {ρ : Rho} {m : Mem} {H : Hp} {l : Nat} {ds es : List Val} {v y : V} {Q : VK} (r : Rel K F ρ H m) (e : m[l]? = some (.lst ds)) (h : Den K F ρ H (.ref l) v) (hy : Den K F ρ H (.lst es) y) (hz : ds.length + es.length ≤ LL)
    (a : Ans K F ρ H Q .non (m.set l (.lst (ds ++ es)))) : rExtend v [y] H Q := by
  obtain ⟨p, xs, rfl, h1, h2, h3⟩ := r.lst e h
  cases hy with
  | lst g1 g2 g3 g4 =>
    refine ⟨p, _, xs, _, rfl, rfl, h2, g1, by rw [← h3.length, ← g4.length]; exact Nat.le_trans hz LL_size, ?_⟩
    exact a _ _ ρ (Ext.change h1 h2) (r.change h1 h2 (h3.append g4)) .non
theorem tyV_list {K : PySem.W.Frag} {F : Addr → Prop} {ρ : Rho} {m : Mem} {H : Hp} {l : Nat} {ds : List Val} {v : V} (r : Rel K F ρ H m) (e : m[l]? = some (.lst ds)) (h : Den K F ρ H (.ref l) v) : tyV K "list" v H := by
  obtain ⟨p, xs, rfl, h1, h2, h3⟩ := r.lst e h
  exact .inl ⟨rfl, xs, SqL.of h2⟩
theorem isDs_plain : ∀ {ds : List Val}, isDs ds = true → PyData.plainAll (toDs ds) = true
  | [], _ => rfl
  | d :: ds, h => by
    have h' : (isD d && isDs ds) = true := h
    rw [Bool.and_eq_true] at h'
    show (PyData.plain (toD d) && PyData.plainAll (toDs ds)) = true
    rw [isDs_plain h'.2, Bool.and_true]
    exact isD_plain h'.1
where isD_plain : ∀ {d : Val}, isD d = true → PyData.plain (toD d) = true
  | .non, _ => rfl
  | .bl _, _ => rfl
  | .int _, _ => rfl
  | .str _, _ => rfl
  | .tup ds, h => by
    show PyData.plainAll (toDs ds) = true
    exact isDs_plain h
  | .lst ds, h => by
    show PyData.plainAll (toDs ds) = true
    exact isDs_plain h
  | .scr _, h => by cases h
  | .ref _, h => by cases h
theorem toDs_length : ∀ ds : List Val, (toDs ds).length = ds.length
  | [] => rfl
  | d :: ds => congrArg (· + 1) (toDs_length ds)
theorem DenAll.erase {K : PySem.W.Frag} {F : Addr → Prop} {ρ : Rho} {H : Hp} : ∀ {ds : List Val} {vs : List V} (j : Nat), DenAll K F ρ H ds vs → DenAll K F ρ H (ds.eraseIdx j) (vs.eraseIdx j)
  | _, _, _, .nil => .nil
  | _, _, 0, .cons h t => t
  | _, _, j + 1, .cons h t => .cons h (DenAll.erase j t)
def rRemV (K : PySem.W.Frag) : V → List V → Hp → VK → Prop := fun x xs H Q => ∃ (F : Addr → Prop) (ρ : Rho) (m : Mem) (l : Nat) (ds es : List Val) (d : Val) (y : V), xs = [y] ∧ Rel K F ρ H m ∧ m[l]? = some (.lst ds) ∧ Den K F ρ H (.ref l) x ∧ Den K F ρ H d y ∧ rem1 d ds = some es ∧ Ans K F ρ H Q .non (m.set l (.lst es))
theorem mt_rem (hu : X.A.units + 100 < cLine) : MtM X "list.remove" (rRemV X.K) := by
  intro pins s σ H x xs v us Q I rx rxs ⟨F, ρ, m, l, ds, es, d, y, e0, r, e, h, hy, hz, a⟩
  subst e0
  obtain ⟨p, ys, rfl, h1, h2, h3⟩ := r.lst e h
  cases rx
  obtain ⟨u, rfl, ru⟩ := rxs.one
  unfold rem1 at hz
  split at hz
  · rename_i hc
    rw [Bool.and_eq_true, Bool.and_eq_true] at hc
    obtain ⟨j, hj, rfl⟩ := map_some hz
    obtain ⟨z, its, n, rv, hl, eo⟩ := I.lstM h2
    obtain ⟨as, rs⟩ := Dp.readsAll I (toDs ds) ys its (h3.dp hc.2.1) rv
    obtain ⟨bs, rx⟩ := Dp.reads I (toD d) y u (hy.dp hc.1) ru
    have hsh := hc.2.2
    have hd : (toD d).depth ≤ 64 := SeqAt.depth_of_shaped hsh
    refine SeqAt.remove_list_data (vs := its.toArray) (j := j) (as := as) (bs := bs) (xs := toDs ds) (d := toD d) ⟨_, eo, rfl, n, rfl⟩ (by simpa using rs) rx (isDs_plain hc.2.1) (PyData.plain_of_canLay0 _ (SeqAt.canLay_of_shaped hsh)) ?_ hj (by rw [List.size_toArray]; omega) ?_
    · have := Nat.min_le_right (PyData.depthAll (toDs ds)) (toD d).depth
      omega
    · refine ⟨.non, _, I.lset (its' := its.eraseIdx j) (t' := s.toks) h2 eo ?_ (rv.eraseIdx j) ?_, rfl, ?_⟩
      · rw [List.eraseIdxIfInBounds_toArray]
      · exact Nat.le_trans (len_erase _ _) z
      · exact a _ _ ρ (Ext.change h1 h2) (r.change h1 h2 (h3.erase j)) .non
  · cases hz
/-! ### slices -/
def rS (K : PySem.W.Frag) (st : Option Int) : V → Option Int → Option Int → Hp → VK → Prop := fun x lo hi H Q => ∃ (F : Addr → Prop) (ρ : Rho) (m : Mem) (d1 d : Val), Rel K F ρ H m ∧ Sees K F ρ H d1 x ∧ slO d1 lo hi st = some d ∧ Ans K F ρ H Q d m
theorem SlR.imp {r r' : V → Option Int → Option Int → Hp → VK → Prop} (h : L2.SlR X r) (hr : ∀ x l u H Q, r' x l u H Q → r x l u H Q) : L2.SlR X r' := fun pins s σ H x v vl vu lo hi sl Q I a b c d q => h pins s σ H x v vl vu lo hi sl Q I a b c d (hr _ _ _ _ _ q)
theorem cut_den {K : PySem.W.Frag} {F : Addr → Prop} {ρ : Rho} {H : Hp} {ds : List Val} {vs : List V} (a : DenAll K F ρ H ds vs) (lo hi : Option Int) : DenAll K F ρ H (cutL ds lo hi) (cutV vs lo hi) := by
  unfold cutL cutV
  rw [← a.length]
  exact (a.drop _).take _
theorem cut_ints (ns : List Int) (lo hi : Option Int) : cutV (ns.map V.int) lo hi = (cutL ns lo hi).map V.int := by
  unfold cutL cutV
  rw [List.length_map, List.map_take, List.map_drop]
theorem sl_V : L2.SlR X (rS X.K none) := by
  refine SlR.imp (L2.SlR.or sl_list sl_tupA) fun x lo hi H Q ⟨F, ρ, m, d1, d, r, s1, e, a⟩ => ?_
  have e : cutO lo hi d1 = some d := e
  unfold cutO at e
  split at e
  · injection e with e; subst e
    obtain ⟨p, vs, rfl, h, al⟩ := s1.lst
    exact .inl ⟨p, vs, rfl, SqL.of h, a.newF r (cut_den al lo hi)⟩
  · injection e with e; subst e
    obtain ⟨p, vs, rfl, h, al⟩ := s1.tup
    refine .inr ⟨p, vs, rfl, h, fun ⟨z1, z2⟩ => ?_, fun _ => a.newT r (cut_den al lo hi)⟩
    refine a.now r (.tup h ?_)
    unfold cutL
    rw [al.length, z1, z2, ← al.length]
    simp only [List.drop_zero, Nat.sub_zero, List.take_length]
    exact al
  · injection e with e; subst e
    obtain ⟨p, rfl, h⟩ := s1.scr
    refine .inl ⟨p, _, rfl, h.sql, ?_⟩
    rw [cut_ints]
    exact a.newF r (DenAll.ints _)
  · cases e
theorem adj_rev (n : Nat) : Builtin.Slice.sliceAdjust none none (-1) (n : Int) = ((n : Int) - 1, -1) := by
  unfold Builtin.Slice.sliceAdjust
  simp
theorem places_rev (n : Nat) : Builtin.Slice.slicePlaces ((n : Int) - 1) (-1) (-1) = n := by
  unfold Builtin.Slice.slicePlaces
  simp only [show ¬ ((-1 : Int) > 0) by decide, if_false, show (- -1 : Int) = 1 by decide, Int.ediv_one]
  split <;> omega
end
section
variable {prog : Program} {w : World} {A : Around} {E : Value → Shared → Prop} {s : Shared}
theorem applied_rev {sl : Addr} {vl vu vs : Value} {n : Nat} {Q : Int × Int × Nat → Shared → Prop} (hs : s.heap.IsSliceOf sl vl vu vs) (pl : IsPart vl none) (pu : IsPart vu none) (ps : IsPart vs (some (-1)))
    (h : Q ((n : Int) - 1, -1, n) s) : wpAny (model prog w) A (Builtin.Slice.sliceApplied (.ref sl) (pure (n : Int))) Q E s := by
  obtain ⟨os, hos, hcs, hds⟩ := id hs
  unfold Builtin.Slice.sliceApplied Builtin.Slice.sliceFields
  refine wpAny_bind (wpAny_bind (wpAny_field hos hds (x := vl) rfl (wpAny_bind (wpAny_field hos hds (x := vu) rfl (wpAny_bind (wpAny_field hos hds (x := vs) rfl (wpAny_pure ?_)))))))
  refine wpAny_bind (HT.slicePart_ ps ?_)
  show wpAny _ _ (if ((-1 : Int) == 0) = true then _ else _) _ _ s
  rw [if_neg (by decide)]
  refine wpAny_bind (HT.slicePart_ pl (wpAny_bind (HT.slicePart_ pu (wpAny_bind (wpAny_pure ?_)))))
  show wpAny _ _ (match Builtin.Slice.sliceAdjust none none (-1) (n : Int) with | (lo, hi) => pure (lo, (-1 : Int), Builtin.Slice.slicePlaces lo hi (-1))) _ _ s
  rw [adj_rev]
  show wpAny _ _ (pure ((n : Int) - 1, (-1 : Int), Builtin.Slice.slicePlaces ((n : Int) - 1) (-1) (-1))) _ _ s
  rw [places_rev]
  exact wpAny_pure h
theorem fm_congr {α β : Type} {f g : α → Option β} : ∀ l : List α, (∀ x ∈ l, f x = g x) → l.filterMap f = l.filterMap g
  | [], _ => rfl
  | a :: l, h => by
    rw [List.filterMap_cons, List.filterMap_cons, h a List.mem_cons_self, fm_congr l fun x hx => h x (List.mem_cons_of_mem _ hx)]
theorem pick_rev (xs : Array Value) : ((List.range xs.size).filterMap fun (k : Nat) => xs[((xs.size : Int) - 1 + (k : Int) * (-1)).toNat]?).toArray = xs.toList.reverse.toArray := by
  have e : (List.range xs.size).filterMap (fun (k : Nat) => xs[((xs.size : Int) - 1 + (k : Int) * (-1)).toNat]?) = ((List.range xs.size).map fun k => xs.size - 1 - k).filterMap (xs[·]?) := by
    rw [List.filterMap_map]
    refine fm_congr _ fun k hk => ?_
    have hk := List.mem_range.mp hk
    have : ((xs.size : Int) - 1 + (k : Int) * (-1)).toNat = xs.size - 1 - k := by omega
    show xs[((xs.size : Int) - 1 + (k : Int) * (-1)).toNat]? = xs[xs.size - 1 - k]?
    rw [this]
  rw [e, PySem.W.krv_range, List.filterMap_reverse, PySem.W.krv_all]
theorem getItem_tuple_rev {t sl : Addr} {items : Array Value} {vl vu vs : Value} {Q : Value → Shared → Prop} (ht : IsTup s.heap t items) (hs : s.heap.IsSliceOf sl vl vu vs) (pl : IsPart vl none) (pu : IsPart vu none) (ps : IsPart vs (some (-1)))
    (h : Q (.ref s.heap.objs.size) { s with heap := s.heap.push { cls := .type "tuple", data := .seq items.toList.reverse.toArray } })
    (hsz : items.size ≤ sizeLine) : wpAny (model prog w) A (getItem (.ref t) (.ref sl)) Q E s := by
  have htake : sizeOk (.seq items.toList.reverse.toArray) := by
    show items.toList.reverse.toArray.size ≤ sizeLine
    rw [List.size_toArray, List.length_reverse, Array.length_toList]
    exact hsz
  obtain ⟨os, hos, hcs, hds⟩ := id hs
  have hTs : s.TypeIs (.ref sl) "slice" := ⟨os, hos, hcs⟩
  unfold getItem
  try with_reducible refine wpAny_holding ?_
  first | refine wpAny_bind (wpAny_pure ?_) | skip
  refine wpAny_bind (wpAny_sequenceKey ht.typeIs (by decide) ?_)
  refine wpAny_bind (wpAny_callSpecial?_slot (name := Str.ofString "__getitem__") ht.typeIs PyProof.Rows.slot_tuple_getitem
    (wpAny_call_entry PyProof.Rows.slot_tuple_getitem ht.typeIs entry_tuple_getitem ?_ (args_tuple_getitem _ _)))
  show wpAny _ _ (Builtin.Tuple.tupleItemsOf (.ref t) >>= _) _ _ s
  refine wpAny_bind (tupleItemsOf_ ht ?_)
  refine wpAny_bind (wpAny_typeOf hTs ?_)
  rw [if_pos (by decide)]
  refine wpAny_bind (applied_rev hs pl pu ps ?_)
  have hno : ¬ ((((items.size : Int) - 1) == 0 && (-1 : Int) == 1 && items.size == items.size) = true) := by
    intro q
    rw [Bool.and_eq_true, Bool.and_eq_true] at q
    have q1 : (-1 : Int) = 1 := eq_of_beq q.1.2
    omega
  show wpAny _ _ (if (((items.size : Int) - 1) == 0 && (-1 : Int) == 1 && items.size == items.size) = true then _ else _) _ _ s
  rw [if_neg hno, pick_rev]
  first
    | exact wpAny_bind (m := Builtin.Tuple.tupleExact _) (wpAny_newObj_type (wpAny_pure ⟨_, rfl, wpAny_pure h⟩) htake)
    | exact wpAny_bind (m := Builtin.Tuple.tupleExact _) (wpAny_newObj_type (wpAny_bind (wpAny_pure (wpAny_pure ⟨_, rfl, wpAny_pure h⟩))) htake)
    | exact wpAny_bind (wpAny_bind (m := Builtin.Tuple.tupleExact _) (wpAny_newObj_type (wpAny_pure (wpAny_pure ⟨_, rfl, wpAny_pure h⟩)) htake))
    | exact wpAny_bind (wpAny_bind (m := Builtin.Tuple.tupleExact _) (wpAny_newObj_type (wpAny_pure ⟨_, rfl, wpAny_pure h⟩) htake))
end
section
variable {X : Cx}
theorem filterMap_den {K : PySem.W.Frag} {F : Addr → Prop} {ρ : Rho} {H : Hp} {ds : List Val} {vs : List V} (a : DenAll K F ρ H ds vs) : ∀ l : List Nat, DenAll K F ρ H (l.filterMap (ds[·]?)) (l.filterMap (vs[·]?))
  | [] => .nil
  | i :: l => by
    rw [List.filterMap_cons, List.filterMap_cons]
    cases e : ds[i]? with
    | none =>
      have e2 : vs[i]? = none := List.getElem?_eq_none_iff.mpr (by rw [← a.length]; exact List.getElem?_eq_none_iff.mp e)
      rw [e2]
      exact filterMap_den a l
    | some d =>
      obtain ⟨v, h1, h2⟩ := a.get i d e
      rw [h1]
      exact .cons h2 (filterMap_den a l)
theorem Vals.filterMap {vs : List V} {us : List Value} (a : Vals vs us) : ∀ l : List Nat, Vals (l.filterMap (vs[·]?)) (l.filterMap (us[·]?))
  | [] => .nil
  | i :: l => by
    rw [List.filterMap_cons, List.filterMap_cons]
    cases e : vs[i]? with
    | none =>
      rw [a.none_of e]
      exact Vals.filterMap a l
    | some d =>
      obtain ⟨v, h1, h2⟩ := a.get e
      rw [h1]
      exact .cons h2 (Vals.filterMap a l)
theorem pick_vals {vs : List V} {us : List Value} (a : Vals vs us) (lo hi st : Option Int) : Vals (pickL vs lo hi st) (slicePick us.toArray lo hi st).toList := by
  unfold pickL slicePick
  rw [List.size_toArray, ← a.length]
  have e : (fun i : Nat => us.toArray[i]?) = fun i => us[i]? := by funext i; simp
  show Vals _ ((List.filterMap (fun i : Nat => us.toArray[i]?) _).toArray).toList
  rw [e]
  exact Vals.filterMap a _
theorem pick_den {K : PySem.W.Frag} {F : Addr → Prop} {ρ : Rho} {H : Hp} {ds : List Val} {vs : List V} (a : DenAll K F ρ H ds vs) (lo hi st : Option Int) : DenAll K F ρ H (pickL ds lo hi st) (pickL vs lo hi st) := by
  unfold pickL
  rw [← a.length]
  exact filterMap_den a _
theorem pe_sl3 {e st : Expr} {lo hi : Option Expr} {te : L2.TE} {tl th ts : L2.TO} {p3 pos : Pos} (he : PE X e te) (hl : PO X lo tl) (hu : PO X hi th) (hs : PO X (some st) ts) : PE X (.Subscript e (.Slice lo hi (some st) p3) pos)
    (fun σ H Q => te σ H fun x H1 => tl σ H1 fun l H2 => th σ H2 fun u H3 => ts σ H3 fun o H4 => ∃ k, o = some k ∧ rS X.K (some k) x l u H4 Q) := by
  refine ⟨fun pins s σ H Q I h => ?_⟩
  refine Subscript_ (thn (he.run pins s σ H _ I h) fun v s1 ⟨x, H1, I1, r1, q1⟩ => ?_)
  refine wpAny_Slice (thn (hl.run pins s1 σ H1 _ I1 q1) fun vl s2 ⟨l, H2, I2, pl, q2⟩ => ?_)
  refine thn (hu.run pins s2 σ H2 _ I2 q2) fun vu s3 ⟨u, H3, I3, pu, q3⟩ => ?_
  refine thn (hs.run pins s3 σ H3 _ I3 q3) fun vs s4 ⟨o, H4, I4, ps, q4⟩ => ?_
  obtain ⟨k, e0, F, ρ, m, d1, d, r, s0, e2, a⟩ := q4
  subst e0
  have I5 : Inv X pins σ H4 { s4 with heap := s4.heap.push { cls := .type "slice", data := .fields #[vl, vu, vs] } } := I4.kept (t' := s4.toks) fun b ob q => Heap.get?_push_of_some _ q
  have e3 : stepO k l u d1 = some d := e2
  unfold stepO at e3
  split at e3
  · split at e3
    · cases e3
    · rename_i hk
      injection e3 with e3; subst e3
      obtain ⟨p, xs, rfl, h2, h3⟩ := s0.lst
      cases r1
      obtain ⟨its, rv, ht, hz⟩ := I5.list (SqL.of h2)
      have hlen := rv.length
      show wpAny (model X.prog X.w) X.A (subscriptTail e (.Slice lo hi (some st) p3) (.ref p) (.ref s4.heap.objs.size)) (EP X pins σ Q) X.xe { s4 with heap := s4.heap.push { cls := .type "slice", data := .fields #[vl, vu, vs] } }
      refine tail_any (ops := [.ref p, .ref s4.heap.objs.size]) ht.isList.typeIs (PySem.slot_list_getitem.lookup) ?_ (by with_unfolding_all rfl)
      have hk2 : (some k : Option Int) ≠ some 0 := fun z => hk (Option.some.inj z)
      refine wpAny_getItem_list_slice ht.isList (Heap.IsSliceOf.new _ vl vu vs) pl pu ps hk2 ?_ (by rw [List.size_toArray]; omega)
      have hv := pick_vals rv l u (some k)
      have hd := pick_den h3 l u (some k)
      have hle : (pickL xs l u (some k)).length ≤ sizeLine := by
        have h1 := slicePick_size_le its.toArray l u (some k)
        have h2 : (pickL xs l u (some k)).length = (slicePick its.toArray l u (some k)).size := hv.length.trans (Array.length_toList ..)
        have h3 : its.toArray.size = its.length := List.size_toArray ..
        rw [h3] at h1
        omega
      have q := a.newF r hd
      refine ⟨.ref _, _, I5.laid (t' := s4.toks) (o := .lst (pickL xs l u (some k))) (fun b ob q => Heap.get?_push_of_some _ q) (Nat.le_refl _) ?_, rfl, q _ (I5.hok.fresh (Nat.le_refl _))⟩
      exact ⟨hle, _, 0, hv, by rw [Array.toArray_toList]; exact Heap.get?_push_size _ rfl⟩
  · split at e3
    · rename_i hc
      rw [Bool.and_eq_true, Bool.and_eq_true] at hc
      obtain ⟨c1, c2, c3⟩ := hc
      injection e3 with e3; subst e3
      obtain rfl := Option.isNone_iff_eq_none.mp c1
      obtain rfl := Option.isNone_iff_eq_none.mp c2
      have c3 := of_decide_eq_true c3
      subst c3
      obtain ⟨p, xs, rfl, h2, h3⟩ := s0.tup
      cases r1
      obtain ⟨its, rv, ht, hz⟩ := I5.tuple h2
      have hlen := rv.length
      show wpAny (model X.prog X.w) X.A (subscriptTail e (.Slice lo hi (some st) p3) (.ref p) (.ref s4.heap.objs.size)) (EP X pins σ Q) X.xe { s4 with heap := s4.heap.push { cls := .type "slice", data := .fields #[vl, vu, vs] } }
      refine tail_any (ops := [.ref p, .ref s4.heap.objs.size]) ht.typeIs (PyProof.Rows.slot_tuple_getitem.lookup) ?_ (by with_unfolding_all rfl)
      refine getItem_tuple_rev ht (Heap.IsSliceOf.new _ vl vu vs) pl pu ps ?_ (by rw [List.size_toArray]; omega)
      refine ⟨.ref _, _, I5.laid (t' := s4.toks) (o := .tup xs.reverse) (fun b ob q => Heap.get?_push_of_some _ q) (Nat.le_refl _) ?_, rfl, a.newT r h3.rev _ (I5.hok.fresh (Nat.le_refl _))⟩
      exact ⟨by rw [List.length_reverse]; exact hz, _, rv.reverse, IsTup.new _ _⟩
    · cases e3
  · cases e3
end
end MP
/-! MP: what a loop walks: lists, tuples, zip and enumerate of any of them. -/
namespace MP
open PySem PySem.Spec PyProof.Rows L2

/-! ### a list (true) or a tuple (false) -/
def SqK (k : Bool) (K : PySem.W.Frag) (H : Hp) (a : Addr) (xs : List V) : Prop := match k with
  | true => SqL K H a xs
  | false => SqT K H a xs
def ItK (k : Bool) (h : Heap) (it a : Addr) (i : Nat) : Prop := match k with
  | true => h.IsListIter it a i
  | false => h.IsTupleIter it a i
def HasK (k : Bool) (h : Heap) (a : Addr) (items : Array Value) : Prop := match k with
  | true => h.IsList a items
  | false => h.IsTuple a items
section
variable {X : Cx} {pins : List (Addr × Obj)} {σ : L2.St} {H : Hp} {s : Shared} {k : Bool} {a it : Addr} {xs ys : List V}
theorem seq_of (I : Inv X pins σ H s) (h : SqK k X.K H a xs) : ∃ its : List Value, Vals xs its ∧ HasK k s.heap a its.toArray ∧ xs.length ≤ sizeLine := by
  cases k with
  | true =>
    obtain ⟨its, r, p, z⟩ := I.list h
    exact ⟨its, r, p.isList, z⟩
  | false =>
    obtain ⟨its, r, p, z⟩ := I.tuple h
    exact ⟨its, r, p, z⟩
theorem seq_inj (I : Inv X pins σ H s) (h : SqK k X.K H a xs) (h' : SqK k X.K H a ys) : xs = ys := by
  cases k with
  | true => exact I.list_inj h h'
  | false => exact I.tuple_inj h h'
theorem seq_lt (I : Inv X pins σ H s) (h : SqK k X.K H a xs) : a < s.heap.objs.size := by
  cases k with
  | true =>
    obtain ⟨its, r, p, z⟩ := I.list h
    exact p.lt
  | false =>
    obtain ⟨its, r, p, z⟩ := I.tuple h
    obtain ⟨o, ho, _⟩ := p
    exact Heap.lt_size ho
end
section
variable {prog : Program} {w : World} {A : Around}
theorem draws_k (k : Bool) (hh : A.handled = none) (it l : Addr) (hne : l ≠ it) (items : Array Value) :
    Draws prog w A it [it, l] items.size (fun i v => items[i]? = some v) (fun i h => ItK k h it l i ∧ HasK k h l items) := by
  cases k with
  | true => exact Draws.list hh it l hne items
  | false => exact Draws.tuple hh it l hne items
def itObj (k : Bool) (a : Addr) : Obj := match k with
  | true => { cls := .type "list_iterator", data := .fields #[.ref a, .int 0 0] }
  | false => { cls := .type "tuple_iterator", data := .fields #[.ref a, .int 0 0] }
theorem begins_k (k : Bool) (l : Addr) (items : Array Value) : Begins (.ref l) (itObj k l) fun h => HasK k h l items := by
  cases k with
  | true => exact begins_list l items
  | false => exact begins_tuple l items
theorem it_new {k : Bool} {h : Heap} {it a : Addr} (e : h.get? it = some (itObj k a)) : ItK k h it a 0 := by
  cases k with
  | true => exact ⟨_, e, rfl, rfl⟩
  | false => exact ⟨_, e, rfl, rfl⟩
theorem it_keep {k : Bool} {h h' : Heap} {it a : Addr} {i : Nat} (x : ItK k h it a i) (e : ∀ o, h.get? it = some o → h'.get? it = some o) : ItK k h' it a i := by
  cases k with
  | true => obtain ⟨o, ho, r⟩ := x; exact ⟨o, e o ho, r⟩
  | false => obtain ⟨o, ho, r⟩ := x; exact ⟨o, e o ho, r⟩
theorem it_obj {k : Bool} {h : Heap} {it a : Addr} {i : Nat} (x : ItK k h it a i) : ∃ o, h.get? it = some o ∧ ∀ v, o.data ≠ .cell v := by
  cases k with
  | true => obtain ⟨o, ho, _, hd⟩ := x; exact ⟨o, ho, fun v q => by rw [hd] at q; cases q⟩
  | false => obtain ⟨o, ho, _, hd⟩ := x; exact ⟨o, ho, fun v q => by rw [hd] at q; cases q⟩
end

/-! ### zip of two -/
def Itz2 (K : PySem.W.Frag) (k1 k2 : Bool) (a b : Addr) : It :=
  ⟨fun i H => ∃ (xs ys : List V) (x y : V), SqK k1 K H a xs ∧ SqK k2 K H b ys ∧ xs[i]? = some x ∧ ys[i]? = some y,
    fun i H v H' => ∃ T x y, v = .ref T ∧ H T = none ∧ H' = upd H T (.tup [x, y]) ∧ (∀ xs, SqK k1 K H a xs → xs[i]? = some x) ∧ ∀ ys, SqK k2 K H b ys → ys[i]? = some y,
    fun i H => ∃ xs ys : List V, SqK k1 K H a xs ∧ SqK k2 K H b ys ∧ i ≤ xs.length ∧ i ≤ ys.length ∧ (i = xs.length ∨ i = ys.length)⟩
theorem turn_zip2 {P : Program} {w : World} {K : PySem.W.Frag} {elts : List Expr} {kk : Nat} {tpos : Pos} {k1 k2 : Bool} {a b z TI TO i1 i2 : Addr} (S : ZipSep2 z TI TO i1 i2 [i1, a] [i2, b]) (na : a ≠ i1) (nb : b ≠ i2) :
    Turn P w K (.Tuple elts kk tpos) (Itz2 K k1 k2 a b) [z, TI, TO, i1, i2] z (fun i h => IsZip h z TI TO .none ∧ IsTupOf2 h TI (.ref i1) (.ref i2) ∧ (∃ x y, IsTupOf2 h TO x y) ∧ ItK k1 h i1 a i ∧ ItK k2 h i2 b i) where
  mem := by simp
  obj := fun i h st c hc => by
    obtain ⟨hz, hTI, ⟨x, y, hTO⟩, h1, h2⟩ := st
    have e' : c = z ∨ c = TI ∨ c = TO ∨ c = i1 ∨ c = i2 := by simpa using hc
    rcases e' with q | q | q | q | q
    · rw [q]; exact ⟨_, hz, fun v q => nomatch q⟩
    · rw [q]; exact ⟨_, hTI, fun v q => nomatch q⟩
    · rw [q]; exact ⟨_, hTO, fun v q => nomatch q⟩
    · rw [q]; exact it_obj h1
    · rw [q]; exact it_obj h2
  keep := fun i h h' st k => by
    obtain ⟨hz, hTI, ⟨x, y, hTO⟩, h1, h2⟩ := st
    exact ⟨k z (by simp) _ hz, k TI (by simp) _ hTI, ⟨x, y, k TO (by simp) _ hTO⟩, it_keep h1 fun o q => k i1 (by simp) o q, it_keep h2 fun o q => k i2 (by simp) o q⟩
  item := by
    intro X hP hw hK hc i pins s σ H E I hf st hg
    subst hP hw hK
    obtain ⟨hz, hTI, hTO, h1, h2⟩ := st
    obtain ⟨xs, ys, x, y, hqx, hqy, hx, hy⟩ := hg
    obtain ⟨its, rv, p, _⟩ := seq_of I hqx
    obtain ⟨its2, rv2, p2, _⟩ := seq_of I hqy
    obtain ⟨u, hu, ru⟩ := rv.get hx
    obtain ⟨u2, hu2, ru2⟩ := rv2.get hy
    have hh : X.A.in1.handled = none := I.ok.hd hc
    have G := GoesN.zip2 (prog := X.prog) (w := X.w) (A := X.A) (elts := elts) (x1 := kk) (pos := tpos) S (draws_k k1 hh i1 a na its.toArray) (draws_k k2 hh i2 b nb its2.toArray)
    have l1 : i < its.length := (List.getElem?_eq_some_iff.mp hu).1
    have l2 : i < its2.length := (List.getElem?_eq_some_iff.mp hu2).1
    refine wpAny_mono (G.goes i s (fun v s2 => ∃ x H', Inv X pins σ H' s2 ∧ RelV x v ∧ (Itz2 X.K k1 k2 a b).yld i H x H' ∧ (IsZip s2.heap z TI TO .none ∧ IsTupOf2 s2.heap TI (.ref i1) (.ref i2) ∧ (∃ x y, IsTupOf2 s2.heap TO x y) ∧ ItK k1 s2.heap i1 a (i + 1) ∧ ItK k2 s2.heap i2 b (i + 1)) ∧ ∀ b ∈ [z, TI, TO, i1, i2], H' b = none) E (by simp; omega) ⟨hz, hTI, hTO, ⟨h1, p⟩, ⟨h2, p2⟩⟩
      fun v h' tk ⟨T, t1, t2, ev, hT, q1, q2, hN⟩ ⟨z1, z2, z3, ⟨z4, _⟩, ⟨z5, _⟩⟩ hk _ => ?_) (fun _ _ q => q) fun _ _ q => q
    have e1 : t1 = u := by
      have q1 : its.toArray[i]? = some t1 := q1
      rw [List.getElem?_toArray, hu] at q1; exact (Option.some.inj q1).symm
    have e2 : t2 = u2 := by
      have q2 : its2.toArray[i]? = some t2 := q2
      rw [List.getElem?_toArray, hu2] at q2; exact (Option.some.inj q2).symm
    subst ev e1 e2
    have new : ObjOk X.prog X.w (upd H T (.tup [x, y])) h' T (.tup [x, y]) := ⟨by show 2 ≤ sizeLine; decide, [t1, t2], .cons ru (.cons ru2 .nil), hN⟩
    have I1 : Inv X pins σ (upd H T (.tup [x, y])) { s with heap := h', toks := tk } :=
      I.turnedNew (t' := tk) (ch := [z, TO, i1, i2]) hk (fun c hc => hf c (by simp at hc ⊢; rcases hc with q | q | q | q <;> simp [q])) hT new
    refine ⟨.ref T, _, I1, rfl, ⟨_, x, y, rfl, I.hok.fresh hT, rfl, fun l hl => by rw [seq_inj I hl hqx]; exact hx, fun l hl => by rw [seq_inj I hl hqy]; exact hy⟩, ⟨z1, z2, z3, z4, z5⟩, fun c hcm => ?_⟩
    rw [upd_ne]
    · exact (hf c hcm).1
    · intro e
      have hlt : c < s.heap.objs.size := by
        have e' : c = z ∨ c = TI ∨ c = TO ∨ c = i1 ∨ c = i2 := by simpa using hcm
        rcases e' with q | q | q | q | q
        · rw [q]; exact Heap.lt_size hz
        · rw [q]; exact Heap.lt_size hTI
        · obtain ⟨_, _, hTO⟩ := hTO; rw [q]; exact Heap.lt_size hTO
        · obtain ⟨o, ho, _⟩ := it_obj h1; rw [q]; exact Heap.lt_size ho
        · obtain ⟨o, ho, _⟩ := it_obj h2; rw [q]; exact Heap.lt_size ho
      rw [e] at hlt
      exact absurd (Nat.lt_of_lt_of_le hlt hT) (Nat.lt_irrefl _)
  done := by
    intro X hP hw hK hc i pins s σ H E I hf st hg
    subst hP hw hK
    obtain ⟨hz, hTI, hTO, h1, h2⟩ := st
    obtain ⟨xs, ys, hqx, hqy, hl1, hl2, hend⟩ := hg
    obtain ⟨its, rv, p, _⟩ := seq_of I hqx
    obtain ⟨its2, rv2, p2, _⟩ := seq_of I hqy
    have hh : X.A.in1.handled = none := I.ok.hd hc
    have e1 : its.toArray.size = xs.length := (List.size_toArray ..).trans rv.length.symm
    have e2 : its2.toArray.size = ys.length := (List.size_toArray ..).trans rv2.length.symm
    obtain ⟨_, _, hTO⟩ := hTO
    exact wpAny_pyNext_zipD2_end S (draws_k k1 hh i1 a na its.toArray) (draws_k k2 hh i2 b nb its2.toArray) hz hTI hTO ⟨h1, p⟩ ⟨h2, p2⟩ (by omega) (by omega) (by omega) fun h' tk hk => ⟨rfl, I.turnedL (t' := tk) (ch := [z, TO, i1, i2]) (fun c o hb q =>
      hk c o (fun q' => hb (by simp [q'])) (fun q' => hb (by simp [q'])) (fun q' => hb (by simp [q'])) (fun q' => hb (by simp [q'])) q) (fun c hc => hf c (by simp at hc ⊢; rcases hc with q | q | q | q <;> simp [q]))⟩
  self := fun A i s Q E st h => wpAny_pyIter_zip st.1 h
/-! ### zip of three -/
def Itz3 (K : PySem.W.Frag) (k1 k2 k3 : Bool) (a b c : Addr) : It :=
  ⟨fun i H => ∃ (xs ys zs : List V) (x y u : V), SqK k1 K H a xs ∧ SqK k2 K H b ys ∧ SqK k3 K H c zs ∧ xs[i]? = some x ∧ ys[i]? = some y ∧ zs[i]? = some u,
    fun i H v H' => ∃ T x y u, v = .ref T ∧ H T = none ∧ H' = upd H T (.tup [x, y, u]) ∧ (∀ xs, SqK k1 K H a xs → xs[i]? = some x) ∧ (∀ ys, SqK k2 K H b ys → ys[i]? = some y) ∧ ∀ zs, SqK k3 K H c zs → zs[i]? = some u,
    fun i H => ∃ xs ys zs : List V, SqK k1 K H a xs ∧ SqK k2 K H b ys ∧ SqK k3 K H c zs ∧ i ≤ xs.length ∧ i ≤ ys.length ∧ i ≤ zs.length ∧ (i = xs.length ∨ i = ys.length ∨ i = zs.length)⟩
theorem turn_zip3 {P : Program} {w : World} {K : PySem.W.Frag} {elts : List Expr} {kk : Nat} {tpos : Pos} {k1 k2 k3 : Bool} {a b d z TI TO i1 i2 i3 : Addr} (S : ZipSep3 z TI TO i1 i2 i3 [i1, a] [i2, b] [i3, d]) (na : a ≠ i1) (nb : b ≠ i2) (nd : d ≠ i3) :
    Turn P w K (.Tuple elts kk tpos) (Itz3 K k1 k2 k3 a b d) [z, TI, TO, i1, i2, i3] z (fun i h => IsZip h z TI TO .none ∧ IsTupOf3 h TI (.ref i1) (.ref i2) (.ref i3) ∧ (∃ x y u, IsTupOf3 h TO x y u) ∧ ItK k1 h i1 a i ∧ ItK k2 h i2 b i ∧ ItK k3 h i3 d i) where
  mem := by simp
  obj := fun i h st c hc => by
    obtain ⟨hz, hTI, ⟨x, y, u, hTO⟩, h1, h2, h3⟩ := st
    have e' : c = z ∨ c = TI ∨ c = TO ∨ c = i1 ∨ c = i2 ∨ c = i3 := by simpa using hc
    rcases e' with q | q | q | q | q | q
    · rw [q]; exact ⟨_, hz, fun v q => nomatch q⟩
    · rw [q]; exact ⟨_, hTI, fun v q => nomatch q⟩
    · rw [q]; exact ⟨_, hTO, fun v q => nomatch q⟩
    · rw [q]; exact it_obj h1
    · rw [q]; exact it_obj h2
    · rw [q]; exact it_obj h3
  keep := fun i h h' st k => by
    obtain ⟨hz, hTI, ⟨x, y, u, hTO⟩, h1, h2, h3⟩ := st
    exact ⟨k z (by simp) _ hz, k TI (by simp) _ hTI, ⟨x, y, u, k TO (by simp) _ hTO⟩, it_keep h1 fun o q => k i1 (by simp) o q, it_keep h2 fun o q => k i2 (by simp) o q, it_keep h3 fun o q => k i3 (by simp) o q⟩
  item := by
    intro X hP hw hK hc i pins s σ H E I hf st hg
    subst hP hw hK
    obtain ⟨hz, hTI, hTO, h1, h2, h3⟩ := st
    obtain ⟨xs, ys, zs, x, y, v3, hqx, hqy, hqz, hx, hy, hv⟩ := hg
    obtain ⟨its, rv, p, _⟩ := seq_of I hqx
    obtain ⟨its2, rv2, p2, _⟩ := seq_of I hqy
    obtain ⟨its3, rv3, p3, _⟩ := seq_of I hqz
    obtain ⟨u, hu, ru⟩ := rv.get hx
    obtain ⟨u2, hu2, ru2⟩ := rv2.get hy
    obtain ⟨u3, hu3, ru3⟩ := rv3.get hv
    have hh : X.A.in1.handled = none := I.ok.hd hc
    have G := GoesN.zip3 (prog := X.prog) (w := X.w) (A := X.A) (elts := elts) (x1 := kk) (pos := tpos) S (draws_k k1 hh i1 a na its.toArray) (draws_k k2 hh i2 b nb its2.toArray) (draws_k k3 hh i3 d nd its3.toArray)
    have l1 : i < its.length := (List.getElem?_eq_some_iff.mp hu).1
    have l2 : i < its2.length := (List.getElem?_eq_some_iff.mp hu2).1
    have l3 : i < its3.length := (List.getElem?_eq_some_iff.mp hu3).1
    refine wpAny_mono (G.goes i s (fun v s2 => ∃ x H', Inv X pins σ H' s2 ∧ RelV x v ∧ (Itz3 X.K k1 k2 k3 a b d).yld i H x H' ∧ (IsZip s2.heap z TI TO .none ∧ IsTupOf3 s2.heap TI (.ref i1) (.ref i2) (.ref i3) ∧ (∃ x y u, IsTupOf3 s2.heap TO x y u) ∧ ItK k1 s2.heap i1 a (i + 1) ∧ ItK k2 s2.heap i2 b (i + 1) ∧ ItK k3 s2.heap i3 d (i + 1)) ∧ ∀ b ∈ [z, TI, TO, i1, i2, i3], H' b = none) E (by simp; omega) ⟨hz, hTI, hTO, ⟨h1, p⟩, ⟨h2, p2⟩, ⟨h3, p3⟩⟩
      fun v h' tk ⟨T, t1, t2, t3, ev, hT, q1, q2, q3, hN⟩ ⟨z1, z2, z3, ⟨z4, _⟩, ⟨z5, _⟩, ⟨z6, _⟩⟩ hk _ => ?_) (fun _ _ q => q) fun _ _ q => q
    have e1 : t1 = u := by
      have q1 : its.toArray[i]? = some t1 := q1
      rw [List.getElem?_toArray, hu] at q1; exact (Option.some.inj q1).symm
    have e2 : t2 = u2 := by
      have q2 : its2.toArray[i]? = some t2 := q2
      rw [List.getElem?_toArray, hu2] at q2; exact (Option.some.inj q2).symm
    have e3 : t3 = u3 := by
      have q3 : its3.toArray[i]? = some t3 := q3
      rw [List.getElem?_toArray, hu3] at q3; exact (Option.some.inj q3).symm
    subst ev e1 e2 e3
    have new : ObjOk X.prog X.w (upd H T (.tup [x, y, v3])) h' T (.tup [x, y, v3]) := ⟨by show 3 ≤ sizeLine; decide, [t1, t2, t3], .cons ru (.cons ru2 (.cons ru3 .nil)), hN⟩
    have I1 : Inv X pins σ (upd H T (.tup [x, y, v3])) { s with heap := h', toks := tk } :=
      I.turnedNew (t' := tk) (ch := [z, TO, i1, i2, i3]) hk (fun c hc => hf c (by simp at hc ⊢; rcases hc with q | q | q | q | q <;> simp [q])) hT new
    refine ⟨.ref T, _, I1, rfl, ⟨_, x, y, v3, rfl, I.hok.fresh hT, rfl, fun l hl => by rw [seq_inj I hl hqx]; exact hx, fun l hl => by rw [seq_inj I hl hqy]; exact hy, fun l hl => by rw [seq_inj I hl hqz]; exact hv⟩, ⟨z1, z2, z3, z4, z5, z6⟩, fun c hcm => ?_⟩
    rw [upd_ne]
    · exact (hf c hcm).1
    · intro e
      have hlt : c < s.heap.objs.size := by
        have e' : c = z ∨ c = TI ∨ c = TO ∨ c = i1 ∨ c = i2 ∨ c = i3 := by simpa using hcm
        rcases e' with q | q | q | q | q | q
        · rw [q]; exact Heap.lt_size hz
        · rw [q]; exact Heap.lt_size hTI
        · obtain ⟨_, _, _, hTO⟩ := hTO; rw [q]; exact Heap.lt_size hTO
        · obtain ⟨o, ho, _⟩ := it_obj h1; rw [q]; exact Heap.lt_size ho
        · obtain ⟨o, ho, _⟩ := it_obj h2; rw [q]; exact Heap.lt_size ho
        · obtain ⟨o, ho, _⟩ := it_obj h3; rw [q]; exact Heap.lt_size ho
      rw [e] at hlt
      exact absurd (Nat.lt_of_lt_of_le hlt hT) (Nat.lt_irrefl _)
  done := by
    intro X hP hw hK hc i pins s σ H E I hf st hg
    subst hP hw hK
    obtain ⟨hz, hTI, hTO, h1, h2, h3⟩ := st
    obtain ⟨xs, ys, zs, hqx, hqy, hqz, hl1, hl2, hl3, hend⟩ := hg
    obtain ⟨its, rv, p, _⟩ := seq_of I hqx
    obtain ⟨its2, rv2, p2, _⟩ := seq_of I hqy
    obtain ⟨its3, rv3, p3, _⟩ := seq_of I hqz
    have hh : X.A.in1.handled = none := I.ok.hd hc
    have e1 : its.toArray.size = xs.length := (List.size_toArray ..).trans rv.length.symm
    have e2 : its2.toArray.size = ys.length := (List.size_toArray ..).trans rv2.length.symm
    have e3 : its3.toArray.size = zs.length := (List.size_toArray ..).trans rv3.length.symm
    obtain ⟨_, _, _, hTO⟩ := hTO
    exact wpAny_pyNext_zipD3_end S (draws_k k1 hh i1 a na its.toArray) (draws_k k2 hh i2 b nb its2.toArray) (draws_k k3 hh i3 d nd its3.toArray) hz hTI hTO ⟨h1, p⟩ ⟨h2, p2⟩ ⟨h3, p3⟩ (by omega) (by omega) (by omega) (by omega) fun h' tk hk => ⟨rfl, I.turnedL (t' := tk) (ch := [z, TO, i1, i2, i3]) (fun c o hb q =>
      hk c o (fun q' => hb (by simp [q'])) (fun q' => hb (by simp [q'])) (fun q' => hb (by simp [q'])) (fun q' => hb (by simp [q'])) (fun q' => hb (by simp [q'])) q) (fun c hc => hf c (by simp at hc ⊢; rcases hc with q | q | q | q | q <;> simp [q]))⟩
  self := fun A i s Q E st h => wpAny_pyIter_zip st.1 h

/-! ### enumerate -/
def Itn (K : PySem.W.Frag) (k : Bool) (a : Addr) : It :=
  ⟨fun i H => ∃ (xs : List V) (x : V), SqK k K H a xs ∧ xs[i]? = some x, fun i H v H' => ∃ T x, v = .ref T ∧ H T = none ∧ H' = upd H T (.tup [.int (i : Nat), x]) ∧ ∀ xs, SqK k K H a xs → xs[i]? = some x, fun i H => ∃ xs : List V, SqK k K H a xs ∧ i = xs.length⟩
theorem turn_enumK {P : Program} {w : World} {K : PySem.W.Frag} {elts : List Expr} {kk : Nat} {tpos : Pos} {k : Bool} (a e it : Addr) (hei : e ≠ it) (hea : e ≠ a) (hia : a ≠ it) :
    Turn P w K (.Tuple elts kk tpos) (Itn K k a) [e, it] e (fun i h => (∃ old, IsEnum h e it ((i : Nat) : Int) old) ∧ ItK k h it a i) where
  mem := by simp
  obj := fun i h st b hb => by
    obtain ⟨⟨old, he⟩, h1⟩ := st
    have e' : b = e ∨ b = it := by simpa using hb
    rcases e' with z | z
    · rw [z]; exact ⟨_, he, fun v q => nomatch q⟩
    · rw [z]; exact it_obj h1
  keep := fun i h h' st k => let ⟨⟨old, he⟩, hi⟩ := st; ⟨⟨old, k e (by simp) _ he⟩, it_keep hi fun o q => k it (by simp) o q⟩
  item := by
    intro X hP hw hK hc i pins s σ H E I hf st hg
    subst hP hw hK
    obtain ⟨⟨old, he⟩, h1⟩ := st
    obtain ⟨xs, x, hqx, hx⟩ := hg
    obtain ⟨its, rv, p, _⟩ := seq_of I hqx
    obtain ⟨u, hu, ru⟩ := rv.get hx
    have hh : X.A.in1.handled = none := I.ok.hd hc
    have G := GoesN.enumFrom (prog := X.prog) (w := X.w) (A := X.A) (elts := elts) (x1 := kk) (pos := tpos) 0 (draws_k k hh it a hia its.toArray) e hei (by simp; exact ⟨hei, hea⟩) (by simp)
    have l1 : i < its.length := (List.getElem?_eq_some_iff.mp hu).1
    have he' : IsEnum s.heap e it (0 + (i : Int)) old := by rw [Int.zero_add]; exact he
    refine wpAny_mono (G.goes i s (fun v s2 => ∃ x H', Inv X pins σ H' s2 ∧ RelV x v ∧ (Itn X.K k a).yld i H x H' ∧ ((∃ old, IsEnum s2.heap e it (((i + 1 : Nat) : Nat) : Int) old) ∧ ItK k s2.heap it a (i + 1)) ∧ ∀ b ∈ [e, it], H' b = none) E (by simp; omega) ⟨⟨_, he'⟩, h1, p⟩
      fun v h' tk ⟨T, t, t1, ev, hT, q1, hN⟩ ⟨⟨old2, z1⟩, z4, _⟩ hk _ => ?_) (fun _ _ q => q) fun _ _ q => q
    have e1 : t1 = u := by
      have q1 : its.toArray[i]? = some t1 := q1
      rw [List.getElem?_toArray, hu] at q1; exact (Option.some.inj q1).symm
    subst ev e1
    rw [Int.zero_add] at hN z1
    have new : ObjOk X.prog X.w (upd H T (.tup [.int (i : Nat), x])) h' T (.tup [.int (i : Nat), x]) := ⟨by show 2 ≤ sizeLine; decide, [.int i t, t1], .cons ⟨_, rfl⟩ (.cons ru .nil), hN⟩
    have I1 : Inv X pins σ (upd H T (.tup [.int (i : Nat), x])) { s with heap := h', toks := tk } :=
      I.turnedNew (t' := tk) (ch := [e, it]) hk hf hT new
    refine ⟨.ref T, _, I1, rfl, ⟨_, x, rfl, I.hok.fresh hT, rfl, fun l hl => by rw [seq_inj I hl hqx]; exact hx⟩, ⟨⟨_, z1⟩, z4⟩, fun c hcm => ?_⟩
    rw [upd_ne]
    · exact (hf c hcm).1
    · intro ec
      have hlt : c < s.heap.objs.size := by
        have e' : c = e ∨ c = it := by simpa using hcm
        rcases e' with q | q
        · rw [q]; exact Heap.lt_size he
        · obtain ⟨o, ho, _⟩ := it_obj h1; rw [q]; exact Heap.lt_size ho
      rw [ec] at hlt
      exact absurd (Nat.lt_of_lt_of_le hlt hT) (Nat.lt_irrefl _)
  done := by
    intro X hP hw hK hc i pins s σ H E I hf st hg
    subst hP hw hK
    obtain ⟨⟨old, he⟩, h1⟩ := st
    obtain ⟨xs, hqx, hl⟩ := hg
    obtain ⟨its, rv, p, _⟩ := seq_of I hqx
    have hh : X.A.in1.handled = none := I.ok.hd hc
    have G := GoesN.enumFrom (prog := X.prog) (w := X.w) (A := X.A) (elts := elts) (x1 := kk) (pos := tpos) 0 (draws_k k hh it a hia its.toArray) e hei (by simp; exact ⟨hei, hea⟩) (by simp)
    have en : its.toArray.size = i := by rw [List.size_toArray, hl]; exact rv.length.symm
    have he' : IsEnum s.heap e it (0 + (its.toArray.size : Int)) old := by rw [Int.zero_add, en]; exact he
    exact wpAny_mono (G.stops s (fun s1 => Inv X pins σ H s1) E ⟨⟨_, he'⟩, by rw [en]; exact h1, p⟩ fun h' tk hk _ => I.turnedL (t' := tk) (ch := [e, it]) hk hf) (fun _ _ q => q) fun _ _ q => q
  self := fun A i s Q E st h => let ⟨⟨_, he⟩, _⟩ := st; wpAny_pyIter_enum he h
end MP
/-! MP: what a loop walks, by the abstract values. -/
namespace MP
open PySem PySem.Spec PyProof.Rows L2

structure Wk (K : PySem.W.Frag) (F : Addr → Prop) (J : It) (vs : List Val) (ρ0 : Rho) (H0 : Hp) : Prop where
  go : ∀ D F' ρ H m i, Ext D ρ0 H0 ρ H → (∀ a, D a → H0 a = none) → Rel K F' ρ H m → i < vs.length → J.go i H
  stop : ∀ D F' ρ H m i, Ext D ρ0 H0 ρ H → (∀ a, D a → H0 a = none) → Rel K F' ρ H m → i = vs.length → J.stop i H
  yld : ∀ D F' ρ H m i x H', Ext D ρ0 H0 ρ H → (∀ a, D a → H0 a = none) → (∀ a, ¬ F a → F' a → H0 a = none) → Rel K F' ρ H m → J.yld i H x H' → i < vs.length → ∃ d, vs[i]? = some d ∧ Ext D0 ρ H ρ H' ∧ Rel K F' ρ H' m ∧ Den K F' ρ H' d x
/-- what nobody changes -/
def Frz (k : Bool) (K : PySem.W.Frag) (ρ : Rho) (H : Hp) (a : Addr) (xs : List V) : Prop := match k with
  | true => (H a = some (.lst xs) ∧ ¬ Al ρ a) ∨ SqS K H a xs
  | false => SqT K H a xs
section
variable {K : PySem.W.Frag} {F F' D : Addr → Prop} {ρ ρ' : Rho} {H H' : Hp} {m m' : Mem} {k : Bool} {a : Addr} {xs : List V}
theorem Frz.sq (h : Frz k K ρ H a xs) : SqK k K H a xs := by
  cases k with
  | true =>
    rcases h with ⟨h, _⟩ | h
    · exact SqL.of h
    · exact h.sql
  | false => exact h
theorem Frz.ext (h : Frz k K ρ H a xs) (x : Ext D ρ H ρ' H') (hD : ∀ a, D a → H a = none) : Frz k K ρ' H' a xs := by
  cases k with
  | true =>
    rcases h with ⟨h, n⟩ | h
    · exact .inl ⟨x.keep _ _ h n fun z => (by have := hD _ z; rw [h] at this; cases this), x.out n (by rw [h]; exact fun z => nomatch z)⟩
    · exact .inr (x.sqs h)
  | false => exact x.sqt h
theorem frz_of {d : Val} {ds : List Val} {v : V} (e : seqOf d = some ds) (h : Den K F ρ H d v) : ∃ k a xs, v = .ref a ∧ Frz k K ρ H a xs ∧ DenAll K F ρ H ds xs := by
  cases h with
  | tup h t => injection e with e; subst e; exact ⟨false, _, _, rfl, h, t⟩
  | lst h n f t => injection e with e; subst e; exact ⟨true, _, _, rfl, .inl ⟨h, n⟩, t⟩
  | scr h => injection e with e; subst e; exact ⟨true, _, _, rfl, .inr h, DenAll.ints _⟩
  | _ => cases e
/-! ### the walks -/
def ItS (k : Bool) (K : PySem.W.Frag) (a : Addr) : It := match k with
  | true => Itl K a
  | false => Itt K a
theorem its_go {i : Nat} {x : V} (h : SqK k K H a xs) (e : xs[i]? = some x) : (ItS k K a).go i H := by
  cases k <;> exact ⟨xs, x, h, e⟩
theorem its_stop {i : Nat} (h : SqK k K H a xs) (e : xs.length ≤ i) : (ItS k K a).stop i H := by
  cases k <;> exact ⟨xs, h, e⟩
theorem its_yld {i : Nat} {x : V} {H' : Hp} (h : (ItS k K a).yld i H x H') (hq : SqK k K H a xs) : H' = H ∧ xs[i]? = some x := by
  cases k <;> exact ⟨h.1, h.2 xs hq⟩
theorem get_of {α : Type} {l : List α} {i : Nat} (h : i < l.length) : ∃ x, l[i]? = some x := ⟨_, List.getElem?_eq_getElem h⟩
theorem wk_seq {ds : List Val} (hf : Frz k K ρ H a xs) (al : DenAll K F ρ H ds xs) : Wk K F (ItS k K a) ds ρ H where
  go := fun D F' ρ' H' m i x hD r hi => by
    obtain ⟨v, hv⟩ := get_of (l := xs) (i := i) (by rw [← al.length]; exact hi)
    exact its_go (hf.ext x hD).sq hv
  stop := fun D F' ρ' H' m i x hD r hi => its_stop (hf.ext x hD).sq (by rw [← al.length]; omega)
  yld := fun D F' ρ' H' m i v H2 x hD hs r y hi => by
    obtain ⟨e, hv⟩ := its_yld y (hf.ext x hD).sq
    subst e
    obtain ⟨d, h1, h2⟩ := al.getV i v hv
    exact ⟨d, h1, Ext.refl, r, h2.ext x (fun a z _ => hD a z) hs⟩
/-- a range -/
theorem wk_rng {lo : Int} {n : Nat} : Wk K F (Itr lo n) (rngL lo n) ρ H where
  go := fun D F' ρ' H' m i x hD r hi => by
    have : i < n := by simpa [rngL] using hi
    exact this
  stop := fun D F' ρ' H' m i x hD r hi => by
    have : i = n := by simpa [rngL] using hi
    show n ≤ i
    omega
  yld := fun D F' ρ' H' m i v H2 x hD hs r y hi => by
    obtain ⟨e, ev⟩ := y
    subst e ev
    have hn : i < n := by simpa [rngL] using hi
    refine ⟨.int (lo + (i : Nat)), ?_, Ext.refl, r, .int _⟩
    unfold rngL
    rw [List.getElem?_map, List.getElem?_range hn]
    rfl
theorem wk_down {lo : Int} {n : Nat} : Wk K F (Itc lo (-1) n) ((List.range n).map fun k => .int (lo - (k : Nat))) ρ H where
  go := fun D F' ρ' H' m i x hD r hi => by
    have : i < n := by simpa using hi
    exact this
  stop := fun D F' ρ' H' m i x hD r hi => by
    have : i = n := by simpa using hi
    show n ≤ i
    omega
  yld := fun D F' ρ' H' m i v H2 x hD hs r y hi => by
    obtain ⟨e, ev⟩ := y
    subst e ev
    have hn : i < n := by simpa using hi
    refine ⟨.int (lo + (i : Nat) * (-1)), ?_, Ext.refl, r, .int _⟩
    rw [List.getElem?_map, List.getElem?_range hn]
    show some (Val.int (lo - (i : Nat))) = some (Val.int (lo + (i : Nat) * (-1)))
    congr 2
    omega
theorem zip2_get : ∀ {as bs : List Val} {i : Nat} {a b : Val}, as[i]? = some a → bs[i]? = some b → (zip2V as bs)[i]? = some (.tup [a, b])
  | [], _, _, _, _, h, _ => by simp at h
  | _ :: _, [], _, _, _, _, h => by simp at h
  | x :: as, y :: bs, 0, a, b, h1, h2 => by
    simp at h1 h2
    subst h1 h2
    rfl
  | x :: as, y :: bs, i + 1, a, b, h1, h2 => zip2_get (as := as) (bs := bs) (i := i) (by simpa using h1) (by simpa using h2)
theorem zip2_len : ∀ as bs : List Val, (zip2V as bs).length = min as.length bs.length
  | [], bs => by simp [zip2V]
  | a :: as, [] => by simp [zip2V]
  | a :: as, b :: bs => by
    show (zip2V as bs).length + 1 = _
    rw [zip2_len as bs]
    simp only [List.length_cons]
    omega
theorem zip3_get : ∀ {as bs cs : List Val} {i : Nat} {a b c : Val}, as[i]? = some a → bs[i]? = some b → cs[i]? = some c → (zip3V as bs cs)[i]? = some (.tup [a, b, c])
  | [], _, _, _, _, _, _, h, _, _ => by simp at h
  | _ :: _, [], _, _, _, _, _, _, h, _ => by simp at h
  | _ :: _, _ :: _, [], _, _, _, _, _, _, h => by simp at h
  | x :: as, y :: bs, z :: cs, 0, a, b, c, h1, h2, h3 => by
    simp at h1 h2 h3
    subst h1 h2 h3
    rfl
  | x :: as, y :: bs, z :: cs, i + 1, a, b, c, h1, h2, h3 => zip3_get (as := as) (bs := bs) (cs := cs) (i := i) (by simpa using h1) (by simpa using h2) (by simpa using h3)
theorem zip3_len : ∀ as bs cs : List Val, (zip3V as bs cs).length = min (min as.length bs.length) cs.length
  | [], bs, cs => by simp [zip3V]
  | a :: as, [], cs => by simp [zip3V]
  | a :: as, b :: bs, [] => by simp [zip3V]
  | a :: as, b :: bs, c :: cs => by
    show (zip3V as bs cs).length + 1 = _
    rw [zip3_len as bs cs]
    simp only [List.length_cons]
    omega
theorem enum_get : ∀ {ds : List Val} {k i : Nat} {d : Val}, ds[i]? = some d → (enumV k ds)[i]? = some (.tup [.int ((k + i : Nat) : Int), d])
  | [], _, _, _, h => by simp at h
  | x :: ds, k, 0, d, h => by
    simp at h
    subst h
    rfl
  | x :: ds, k, i + 1, d, h => by
    have e := enum_get (ds := ds) (k := k + 1) (i := i) (d := d) (by simpa using h)
    have e2 : k + 1 + i = k + (i + 1) := by omega
    rw [e2] at e
    exact e
theorem enum_len : ∀ (ds : List Val) (k : Nat), (enumV k ds).length = ds.length
  | [], _ => rfl
  | _ :: ds, k => congrArg (· + 1) (enum_len ds (k + 1))
theorem wk_zip2 {k1 k2 : Bool} {b : Addr} {ys : List V} {ds es : List Val} (h1 : Frz k1 K ρ H a xs) (a1 : DenAll K F ρ H ds xs) (h2 : Frz k2 K ρ H b ys) (a2 : DenAll K F ρ H es ys) : Wk K F (Itz2 K k1 k2 a b) (zip2V ds es) ρ H where
  go := fun D F' ρ' H' m i x hD r hi => by
    rw [zip2_len] at hi
    obtain ⟨v, hv⟩ := get_of (l := xs) (i := i) (by rw [← a1.length]; omega)
    obtain ⟨u, hu⟩ := get_of (l := ys) (i := i) (by rw [← a2.length]; omega)
    exact ⟨xs, ys, v, u, (h1.ext x hD).sq, (h2.ext x hD).sq, hv, hu⟩
  stop := fun D F' ρ' H' m i x hD r hi => by
    rw [zip2_len] at hi
    have e1 := a1.length
    have e2 := a2.length
    exact ⟨xs, ys, (h1.ext x hD).sq, (h2.ext x hD).sq, by omega, by omega, by omega⟩
  yld := fun D F' ρ' H' m i v H2 x hD hs r y hi => by
    obtain ⟨T, u, w, ev, hT, eH, y1, y2⟩ := y
    subst ev eH
    obtain ⟨d, q1, q2⟩ := a1.getV i u (y1 xs (h1.ext x hD).sq)
    obtain ⟨e, q3, q4⟩ := a2.getV i w (y2 ys (h2.ext x hD).sq)
    refine ⟨.tup [d, e], zip2_get q1 q3, Ext.laid hT, r.laid hT, Den.newTup r hT (.cons (q2.ext x (fun a z _ => hD a z) hs) (.cons (q4.ext x (fun a z _ => hD a z) hs) .nil))⟩
theorem wk_zip3 {k1 k2 k3 : Bool} {b c : Addr} {ys zs : List V} {ds es fs : List Val} (h1 : Frz k1 K ρ H a xs) (a1 : DenAll K F ρ H ds xs) (h2 : Frz k2 K ρ H b ys) (a2 : DenAll K F ρ H es ys) (h3 : Frz k3 K ρ H c zs) (a3 : DenAll K F ρ H fs zs) :
    Wk K F (Itz3 K k1 k2 k3 a b c) (zip3V ds es fs) ρ H where
  go := fun D F' ρ' H' m i x hD r hi => by
    rw [zip3_len] at hi
    obtain ⟨v, hv⟩ := get_of (l := xs) (i := i) (by rw [← a1.length]; omega)
    obtain ⟨u, hu⟩ := get_of (l := ys) (i := i) (by rw [← a2.length]; omega)
    obtain ⟨w, hw⟩ := get_of (l := zs) (i := i) (by rw [← a3.length]; omega)
    exact ⟨xs, ys, zs, v, u, w, (h1.ext x hD).sq, (h2.ext x hD).sq, (h3.ext x hD).sq, hv, hu, hw⟩
  stop := fun D F' ρ' H' m i x hD r hi => by
    rw [zip3_len] at hi
    have e1 := a1.length
    have e2 := a2.length
    have e3 := a3.length
    exact ⟨xs, ys, zs, (h1.ext x hD).sq, (h2.ext x hD).sq, (h3.ext x hD).sq, by omega, by omega, by omega, by omega⟩
  yld := fun D F' ρ' H' m i v H2 x hD hs r y hi => by
    obtain ⟨T, u, w, t, ev, hT, eH, y1, y2, y3⟩ := y
    subst ev eH
    obtain ⟨d, q1, q2⟩ := a1.getV i u (y1 xs (h1.ext x hD).sq)
    obtain ⟨e, q3, q4⟩ := a2.getV i w (y2 ys (h2.ext x hD).sq)
    obtain ⟨f, q5, q6⟩ := a3.getV i t (y3 zs (h3.ext x hD).sq)
    refine ⟨.tup [d, e, f], zip3_get q1 q3 q5, Ext.laid hT, r.laid hT, Den.newTup r hT (.cons (q2.ext x (fun a z _ => hD a z) hs) (.cons (q4.ext x (fun a z _ => hD a z) hs) (.cons (q6.ext x (fun a z _ => hD a z) hs) .nil)))⟩
theorem wk_enum {ds : List Val} (h1 : Frz k K ρ H a xs) (a1 : DenAll K F ρ H ds xs) : Wk K F (Itn K k a) (enumV 0 ds) ρ H where
  go := fun D F' ρ' H' m i x hD r hi => by
    rw [enum_len] at hi
    obtain ⟨v, hv⟩ := get_of (l := xs) (i := i) (by rw [← a1.length]; omega)
    exact ⟨xs, v, (h1.ext x hD).sq, hv⟩
  stop := fun D F' ρ' H' m i x hD r hi => by
    rw [enum_len] at hi
    have e1 := a1.length
    exact ⟨xs, (h1.ext x hD).sq, by omega⟩
  yld := fun D F' ρ' H' m i v H2 x hD hs r y hi => by
    obtain ⟨T, u, ev, hT, eH, y1⟩ := y
    subst ev eH
    obtain ⟨d, q1, q2⟩ := a1.getV i u (y1 xs (h1.ext x hD).sq)
    have e := enum_get (k := 0) q1
    rw [Nat.zero_add] at e
    exact ⟨_, e, Ext.laid hT, r.laid hT, Den.newTup r hT (.cons (.int _) (.cons (q2.ext x (fun a z _ => hD a z) hs) .nil))⟩
end

/-! ### how they begin -/
section
variable {X : Cx} {tg : Expr}
/-- a list or a tuple -/
theorem pi_seq {l : Expr} {tl : L2.TE} (hl : PE X l tl) : PI X tg l (fun σ H R => tl σ H fun x H1 => ∃ k a xs, x = .ref a ∧ SqK k X.K H1 a xs ∧ (xs.length ≤ sizeLine → R (ItS k X.K a) H1)) := by
  refine ⟨fun pins s σ H R I h => ?_⟩
  refine thn (hl.run pins s σ H _ I h) fun v s1 ⟨x, H1, I1, r1, q1⟩ => ?_
  obtain ⟨k, a, xs, e, hq, q⟩ := q1
  subst e
  cases r1
  have fp : ∀ b ∈ [s1.heap.objs.size], FpOk X pins H1 b := fun b hb => by
    have e : b = s1.heap.objs.size := by simpa using hb
    subst e
    exact I1.fpOk (Nat.le_refl _) (I1.hok.fresh (Nat.le_refl _))
  cases k with
  | true =>
    obtain ⟨its, rv, p, hz⟩ := I1.list hq
    exact wpAny_pyIter_list p.isList ⟨s1.heap.objs.size, [s1.heap.objs.size], _, _, H1, rfl, I1.kept (t' := s1.toks) fun b o e => Heap.get?_push_of_some _ e, turn_list a _, ⟨_, Heap.get?_push_size _ rfl, rfl, rfl⟩, fp, q hz⟩
  | false =>
    obtain ⟨its, rv, p, hz⟩ := I1.tuple hq
    exact wpAny_pyIter_tuple (show s1.heap.IsTuple a its.toArray from p) ⟨s1.heap.objs.size, [s1.heap.objs.size], _, _, H1, rfl, I1.kept (t' := s1.toks) fun b o e => Heap.get?_push_of_some _ e, turn_tuple a _, ⟨_, Heap.get?_push_size _ rfl, rfl, rfl⟩, fp, q hz⟩
theorem lt_mem2 {N : Nat} {c : Addr} {l : List Addr} (h : ∀ c ∈ l, N ≤ c) {pins : List (Addr × Obj)} {σ : L2.St} {H : Hp} {s : Shared} (I : Inv X pins σ H s) (e : s.heap.objs.size = N) (hc : c ∈ l) : FpOk X pins H c :=
  I.fpOk (by rw [e]; exact h c hc) (I.hok.fresh (by rw [e]; exact h c hc))
theorem pi_zip2 {e e2 : Expr} {ta : L2.TA} {p pos tpos : Pos} {elts : List Expr} {kk : Nat} (hg : Gl X "zip") (hm : X.mg "zip" = none) (ha : PA X [e, e2] ta)
    (hs : starEach [e, e2] X.env = (false, eval e X.env) :: starEach [e2] X.env := by rfl) (hpl : (backTo pos (starEach [e2] X.env)).any (·.1) = false := by rfl) :
    PI X (.Tuple elts kk tpos) (.Call (.Name "zip" p) [e, e2] [] pos) (fun σ H R => ta σ H fun vs H1 => ∃ k1 k2 a b xs ys, vs = [.ref a, .ref b] ∧ SqK k1 X.K H1 a xs ∧ SqK k2 X.K H1 b ys ∧ (xs.length ≤ sizeLine → R (Itz2 X.K k1 k2 a b) H1)) := by
  refine ⟨fun pins s σ H R I h => ?_⟩
  refine Call_ (ld_blt I hg hm PyProof.Rows.boot_zip (PyProof.Rows.callWith_type1 (thn (ha.run pos pins s σ H _ I h) fun us s1 ⟨vs, H1, I1, r1, q1⟩ => ?_) hs hpl))
  obtain ⟨k1, k2, a, b, xs, ys, ex, hqx, hqy, q⟩ := q1
  subst ex
  cases r1 with
  | cons r rr =>
    cases rr with
    | cons r' rr =>
      cases rr
      cases r
      cases r'
      obtain ⟨its, rv, p1, hz0⟩ := seq_of I1 hqx
      obtain ⟨its2, rv2, p2, _⟩ := seq_of I1 hqy
      have la := seq_lt I1 hqx
      have lb := seq_lt I1 hqy
      refine zip_begins2 (begins_k k1 a its.toArray) (begins_k k2 b its2.toArray) p1 p2 fun h' hz hTI hTO h1 h2 hsz hk => wpAny_pyIter_zip hz ?_
      have I2 : Inv X pins σ H1 { s1 with heap := h' } := I1.kept (t' := s1.toks) hk
      refine ⟨s1.heap.objs.size + 4, [s1.heap.objs.size + 4, s1.heap.objs.size + 2, s1.heap.objs.size + 3, s1.heap.objs.size, s1.heap.objs.size + 1], _, _, H1, rfl, I2,
        turn_zip2 (zip_sep2 (N := s1.heap.objs.size) (fp1 := [a]) (fp2 := [b]) (by simpa using la) (by simpa using lb)) (Nat.ne_of_lt la) (Nat.ne_of_lt (Nat.lt_succ_of_lt lb)), ⟨hz, hTI, ⟨_, _, hTO⟩, it_new h1, it_new h2⟩, fun c hcm => ?_, q hz0⟩
      exact lt_mem2 (N := s1.heap.objs.size) (by simp) I1 rfl hcm
theorem pi_zip3 {e e2 e3 : Expr} {ta : L2.TA} {p pos tpos : Pos} {elts : List Expr} {kk : Nat} (hg : Gl X "zip") (hm : X.mg "zip" = none) (ha : PA X [e, e2, e3] ta)
    (hs : starEach [e, e2, e3] X.env = (false, eval e X.env) :: starEach [e2, e3] X.env := by rfl) (hpl : (backTo pos (starEach [e2, e3] X.env)).any (·.1) = false := by rfl) :
    PI X (.Tuple elts kk tpos) (.Call (.Name "zip" p) [e, e2, e3] [] pos) (fun σ H R => ta σ H fun vs H1 => ∃ k1 k2 k3 a b c xs ys zs, vs = [.ref a, .ref b, .ref c] ∧ SqK k1 X.K H1 a xs ∧ SqK k2 X.K H1 b ys ∧ SqK k3 X.K H1 c zs ∧ (xs.length ≤ sizeLine → R (Itz3 X.K k1 k2 k3 a b c) H1)) := by
  refine ⟨fun pins s σ H R I h => ?_⟩
  refine Call_ (ld_blt I hg hm PyProof.Rows.boot_zip (PyProof.Rows.callWith_type1 (thn (ha.run pos pins s σ H _ I h) fun us s1 ⟨vs, H1, I1, r1, q1⟩ => ?_) hs hpl))
  obtain ⟨k1, k2, k3, a, b, c, xs, ys, zs, ex, hqx, hqy, hqz, q⟩ := q1
  subst ex
  cases r1 with
  | cons r rr =>
    cases rr with
    | cons r' rr =>
      cases rr with
      | cons r'' rr =>
        cases rr
        cases r
        cases r'
        cases r''
        obtain ⟨its, rv, p1, hz0⟩ := seq_of I1 hqx
        obtain ⟨its2, rv2, p2, _⟩ := seq_of I1 hqy
        obtain ⟨its3, rv3, p3, _⟩ := seq_of I1 hqz
        have la := seq_lt I1 hqx
        have lb := seq_lt I1 hqy
        have lc := seq_lt I1 hqz
        refine zip_begins3 (begins_k k1 a its.toArray) (begins_k k2 b its2.toArray) (begins_k k3 c its3.toArray) p1 p2 p3 fun h' hz hTI hTO h1 h2 h3 hsz hk => wpAny_pyIter_zip hz ?_
        have I2 : Inv X pins σ H1 { s1 with heap := h' } := I1.kept (t' := s1.toks) hk
        refine ⟨s1.heap.objs.size + 5, [s1.heap.objs.size + 5, s1.heap.objs.size + 3, s1.heap.objs.size + 4, s1.heap.objs.size, s1.heap.objs.size + 1, s1.heap.objs.size + 2], _, _, H1, rfl, I2,
          turn_zip3 (zip_sep3 (N := s1.heap.objs.size) (fp1 := [a]) (fp2 := [b]) (fp3 := [c]) (by simpa using la) (by simpa using lb) (by simpa using lc)) (Nat.ne_of_lt la) (Nat.ne_of_lt (Nat.lt_succ_of_lt lb)) (Nat.ne_of_lt (Nat.lt_succ_of_lt (Nat.lt_succ_of_lt lc))), ⟨hz, hTI, ⟨_, _, _, hTO⟩, it_new h1, it_new h2, it_new h3⟩, fun c hcm => ?_, q hz0⟩
        exact lt_mem2 (N := s1.heap.objs.size) (by simp) I1 rfl hcm
end
set_option maxHeartbeats 1000000 in
theorem meets_enumerate_newB1 {v : Value} {o : Obj} {H : Heap → Prop} (B : Begins v o H) :
    Meets (Builtin.«enumerate.__new__» ⟨[.type "enumerate", v], []⟩) (fun _ R s => H s.heap ∧
      R (.ok (.ret (.ref (s.heap.push o).objs.size))) { s with heap := (s.heap.push o).push { cls := .type "enumerate", data := .fields #[.none, .bool false, .ref s.heap.objs.size, rawInt 0, .none, .none] } }) :=
  .of_wp fun prog w A R s h => by
    obtain ⟨hp, g, d, tk, os⟩ := s; obtain ⟨h1, h⟩ := h
    have hsub := sub_enumerate
    have q1 : ∀ {A' : Around} {E : Value → Shared → Prop} {Q : Value → Shared → Prop}, Q (.ref hp.objs.size) ⟨hp.push o, g, d, tk, os⟩ → wpAny (model prog w) A' (pyIter v) Q E ⟨hp, g, d, tk, os⟩ :=
      fun q => B.iter prog w _ _ ⟨hp, g, d, tk, os⟩ _ h1 q
    wp_walk using q1
    refine wpAny_stack_any fun st => wpAny_pure ?_
    split
    · rename_i c _ _ _ _ _
      cases (c == Value.type "enumerate")
      · wp_walk using q1
        exact ⟨_, rfl, h⟩
      · wp_walk using q1
        exact ⟨_, rfl, h⟩
    · wp_walk using q1
      exact ⟨_, rfl, h⟩
section
variable {prog : Program} {w : World} {A : Around} {E : Value → Shared → Prop} {s : Shared}
theorem enum_begins1 {v : Value} {o : Obj} {H : Heap → Prop} {Q : Value → Shared → Prop} (B : Begins v o H) (h1 : H s.heap)
    (h : ∀ h', IsEnum h' (s.heap.objs.size + 1) s.heap.objs.size 0 .none → h'.get? s.heap.objs.size = some o → h'.objs.size = s.heap.objs.size + 2 →
      (∀ b o, s.heap.get? b = some o → h'.get? b = some o) → Q (.ref (s.heap.objs.size + 1)) { s with heap := h' }) :
    wpAny (model prog w) A (call (.type "enumerate") [v]) Q E s := by
  refine callType_new F.called_enumerate (by decide) (F.typeCall_enumerate_1 _) (F.newCall_enumerate_1 _) (fun obj => F.args_object_init_2 obj _) F.entry_enumerate_new
    (meets_enumerate_newB1 B) ⟨h1, ?_⟩
  have hz : (s.heap.push o).objs.size = s.heap.objs.size + 1 := Heap.size_push ..
  show _ ∧ _
  rw [hz]
  have he : IsEnum ((s.heap.push o).push { cls := .type "enumerate", data := .fields #[.none, .bool false, .ref s.heap.objs.size, rawInt 0, .none, .none] }) (s.heap.objs.size + 1) s.heap.objs.size 0 .none := by
    have := Heap.get?_push_size (s.heap.push o) (o := { cls := .type "enumerate", data := .fields #[.none, .bool false, .ref s.heap.objs.size, rawInt 0, .none, .none] }) rfl
    rw [hz] at this; exact this
  refine ⟨⟨_, he, rfl⟩, h _ he (Heap.get?_push_of_some _ (Heap.get?_push_size _ B.free)) (by rw [Heap.size_push, hz]) fun b o x => Heap.get?_push_of_some _ (Heap.get?_push_of_some _ x)⟩
end
section
variable {X : Cx}
theorem pi_enumK {e : Expr} {ta : L2.TA} {p pos tpos : Pos} {elts : List Expr} {kk : Nat} (hg : Gl X "enumerate") (hm : X.mg "enumerate" = none) (ha : PA X [e] ta) (hs : starEach [e] X.env = [(false, eval e X.env)] := by rfl) :
    PI X (.Tuple elts kk tpos) (.Call (.Name "enumerate" p) [e] [] pos) (fun σ H R => ta σ H fun vs H1 => ∃ k a xs, vs = [.ref a] ∧ SqK k X.K H1 a xs ∧ (xs.length ≤ sizeLine → R (Itn X.K k a) H1)) := by
  refine ⟨fun pins s σ H R I h => ?_⟩
  refine Call_ (ld_blt I hg hm boot_enumerate (PyProof.Rows.callWith_type1 (thn (ha.run pos pins s σ H _ I h) fun us s1 ⟨vs, H1, I1, r1, q1⟩ => ?_) hs rfl))
  obtain ⟨k, a, xs, ex, hqx, q⟩ := q1
  subst ex
  cases r1 with
  | cons r rr =>
    cases rr
    cases r
    obtain ⟨its, rv, p1, hz0⟩ := seq_of I1 hqx
    have la := seq_lt I1 hqx
    refine enum_begins1 (begins_k k a its.toArray) p1 fun h' he h1 hsz hk => wpAny_pyIter_enum he ?_
    have I2 : Inv X pins σ H1 { s1 with heap := h' } := I1.kept (t' := s1.toks) hk
    refine ⟨s1.heap.objs.size + 1, [s1.heap.objs.size + 1, s1.heap.objs.size], _, _, H1, rfl, I2, turn_enumK a (s1.heap.objs.size + 1) s1.heap.objs.size (Nat.succ_ne_self _) (Nat.ne_of_gt (Nat.lt_succ_of_lt la)) (Nat.ne_of_lt la), ⟨⟨.none, he⟩, it_new h1⟩, fun c hcm => ?_, q hz0⟩
    exact lt_mem2 (N := s1.heap.objs.size) (by simp) I1 rfl hcm
end
end MP
/-! MP: list(zip(..)): the tuples stay with the list, so zip makes each anew. -/
namespace MP
open PySem PySem.Spec PyProof.Rows L2

/-! ### zip's turn when its last tuple is still out -/
section
variable {prog : Program} {w : World} {A : Around} {E : Value → Shared → Prop} {s : Shared} {z TI TO T i1 i2 i3 : Addr} {fp1 fp2 fp3 : List Addr} {n1 n2 n3 i : Nat} {P1 P2 P3 : Nat → Value → Prop} {St1 St2 St3 : Nat → Heap → Prop} {f : Bool} {oT : Obj}
theorem zip2h_item {Q : Value → Shared → Prop} (S : ZipSep2 z TI TO i1 i2 fp1 fp2) (D1 : Draws prog w A i1 fp1 n1 P1 St1) (D2 : Draws prog w A i2 fp2 n2 P2 St2)
    (hz : IsZipHeld s.heap z TI TO T f) (hT : s.heap.get? T = some oT) (hTI : IsTupOf2 s.heap TI (.ref i1) (.ref i2)) (st1 : St1 i s.heap) (st2 : St2 i s.heap) (hlt1 : i < n1) (hlt2 : i < n2)
    (hQ : ∀ x1 x2 h' tk, P1 i x1 → P2 i x2 → IsZipHeld h' z TI TO T true → St1 (i + 1) h' → St2 (i + 1) h' → IsTupOf2 h' s.heap.objs.size x1 x2 → h'.objs.size = s.heap.objs.size + 1 →
      (∀ c o, c ≠ z → c ≠ i1 → c ≠ i2 → s.heap.get? c = some o → h'.get? c = some o) → Q (.ref s.heap.objs.size) { s with heap := h', toks := tk }) :
    wpAny (model prog w) A (Builtin.«zip.__next__» ⟨[.ref z], []⟩) (fun fin s' => ∃ v, fin = .done (.ret v) ∧ Q v s') E s := by
  obtain ⟨hp, g, d, tk0, os⟩ := s
  show wpAny _ _ (field (.ref z) 2 >>= _) _ _ _
  refine wpAny_bind (wpAny_field hz rfl (x := .bool false) rfl ?_)
  show wpAny _ _ (field (.ref z) 3 >>= _) _ _ _
  refine wpAny_bind (wpAny_field hz rfl (x := .ref TI) rfl ?_)
  refine wpAny_bind (wpAny_seqItems hTI rfl ?_)
  show wpAny _ _ (Builtin.SmallTypes.ownedTupleIsFree (.ref z) >>= _) _ _ _
  refine wpAny_bind (wpAny_tupleHeld_zip hz hT fun g0 hz0 hs0 => ?_)
  replace hs0 : Heap.SameBut z hp g0 := hs0
  simp only [Bool.false_eq_true, if_false]
  refine wpAny_bind ?_
  rw [← Array.forIn_toList]
  simp only [List.forIn_cons, List.forIn_nil]
  refine wpAny_bind (wpAny_bind (wpAny_holding ?_))
  show wpAny _ _ (Builtin.SmallTypes.nextOf (.ref i1) >>= _) _ _ ⟨g0, g, d, tk0, os⟩
  refine wpAny_bind (D1.item i _ _ _ hlt1 (D1.over st1 hs0 S.zf1) fun x1 p1 tk1 hx1 sn1 hp1 => wpAny_pure ?_)
  replace hp1 : Heap.SameBut i1 g0 p1 := hp1
  refine wpAny_pure ?_
  refine wpAny_bind (wpAny_bind (wpAny_holding ?_))
  show wpAny _ _ (Builtin.SmallTypes.nextOf (.ref i2) >>= _) _ _ ⟨p1, g, d, tk1, os⟩
  refine wpAny_bind (D2.item i _ _ _ hlt2 (D2.over (D2.over st2 hs0 S.zf2) hp1 S.sep1_2) fun x2 p2 tk2 hx2 sn2 hp2 => wpAny_pure ?_)
  replace hp2 : Heap.SameBut i2 p1 p2 := hp2
  refine wpAny_pure (wpAny_pure ?_)
  show wpAny _ _ (newTuple [x1, x2] >>= _) _ _ _
  refine wpAny_bind (wpAny_newTuple ?_)
  have hsz : p2.objs.size = hp.objs.size := by rw [hp2.1, hp1.1, hs0.1]
  have hzz : IsZipHeld p2 z TI TO T true := hp2.extBut _ _ S.zi2 (hp1.extBut _ _ S.zi1 hz0)
  have hkk : ∀ c o, c ≠ z → c ≠ i1 → c ≠ i2 → hp.get? c = some o → p2.get? c = some o := fun c o cz c1 c2 e => hp2.extBut _ _ c2 (hp1.extBut _ _ c1 (hs0.extBut _ _ cz e))
  have hj1 : St1 (i + 1) p2 := D1.over sn1 hp2 S.sep2_1
  refine wpAny_pure ⟨_, rfl, ?_⟩
  have up : ∀ c o, p2.get? c = some o → (p2.push { cls := .type "tuple", data := .seq #[x1, x2] }).get? c = some o := fun c o e => Heap.get?_push_of_some _ e
  have hN : IsTupOf2 (p2.push { cls := .type "tuple", data := .seq #[x1, x2] }) p2.objs.size x1 x2 := Heap.get?_push_size _ rfl
  have hz8 : (p2.push { cls := .type "tuple", data := .seq #[x1, x2] }).objs.size = p2.objs.size + 1 := Heap.size_push ..
  show Q (.ref p2.objs.size) ⟨p2.push { cls := .type "tuple", data := .seq #[x1, x2] }, g, d, tk2, os⟩
  rw [hsz] at hN hz8 ⊢
  exact hQ x1 x2 _ tk2 hx1 hx2 (up _ _ hzz) (D1.frame _ _ _ hj1 fun b _ o e => up b o e) (D2.frame _ _ _ sn2 fun b _ o e => up b o e) hN hz8 fun c o cz c1 c2 e => up c o (hkk c o cz c1 c2 e)
theorem zip2h_end {Q : Fin → Shared → Prop} (S : ZipSep2 z TI TO i1 i2 fp1 fp2) (D1 : Draws prog w A i1 fp1 n1 P1 St1) (D2 : Draws prog w A i2 fp2 n2 P2 St2)
    (hz : IsZipHeld s.heap z TI TO T f) (hT : s.heap.get? T = some oT) (hTI : IsTupOf2 s.heap TI (.ref i1) (.ref i2)) (st1 : St1 i s.heap) (st2 : St2 i s.heap) (hle1 : i ≤ n1) (hle2 : i ≤ n2) (hend : i = n1 ∨ i = n2)
    (hE : ∀ h' tk e, (∀ c o, c ≠ z → c ≠ i1 → c ≠ i2 → s.heap.get? c = some o → h'.get? c = some o) → (∃ o, h'.get? e = some o ∧ o.cls = .type "StopIteration") → E (.ref e) { s with heap := h', toks := tk }) :
    wpAny (model prog w) A (Builtin.«zip.__next__» ⟨[.ref z], []⟩) Q E s := by
  obtain ⟨hp, g, d, tk0, os⟩ := s
  show wpAny _ _ (field (.ref z) 2 >>= _) _ _ _
  refine wpAny_bind (wpAny_field hz rfl (x := .bool false) rfl ?_)
  show wpAny _ _ (field (.ref z) 3 >>= _) _ _ _
  refine wpAny_bind (wpAny_field hz rfl (x := .ref TI) rfl ?_)
  refine wpAny_bind (wpAny_seqItems hTI rfl ?_)
  show wpAny _ _ (Builtin.SmallTypes.ownedTupleIsFree (.ref z) >>= _) _ _ _
  refine wpAny_bind (wpAny_tupleHeld_zip hz hT fun g0 hz0 hs0 => ?_)
  replace hs0 : Heap.SameBut z hp g0 := hs0
  simp only [Bool.false_eq_true, if_false]
  refine wpAny_bind ?_
  rw [← Array.forIn_toList]
  simp only [List.forIn_cons, List.forIn_nil]
  refine wpAny_bind (wpAny_bind (wpAny_holding ?_))
  show wpAny _ _ (Builtin.SmallTypes.nextOf (.ref i1) >>= _) _ _ ⟨g0, g, d, tk0, os⟩
  by_cases hlt1 : i < n1
  · refine wpAny_bind (D1.item i _ _ _ hlt1 (D1.over st1 hs0 S.zf1) fun x1 p1 tk1 hx1 sn1 hp1 => wpAny_pure ?_)
    replace hp1 : Heap.SameBut i1 g0 p1 := hp1
    have hi2 : i = n2 := by omega
    refine wpAny_pure ?_
    refine wpAny_bind (wpAny_bind (wpAny_holding ?_))
    show wpAny _ _ (Builtin.SmallTypes.nextOf (.ref i2) >>= _) _ _ ⟨p1, g, d, tk1, os⟩
    refine wpAny_bind (D2.done ⟨p1, g, d, tk1, os⟩ _ _ (by rw [← hi2]; exact D2.over (D2.over st2 hs0 S.zf2) hp1 S.sep1_2) fun q e hq he => ?_)
    replace hq : Heap.ExtBut i2 p1 q := hq
    exact hE q tk1 e (fun c o cz c1 c2 x => hq _ _ c2 (hp1.extBut _ _ c1 (hs0.extBut _ _ cz x))) he
  · have hi1 : i = n1 := by omega
    refine wpAny_bind (D1.done ⟨g0, g, d, tk0, os⟩ _ _ (by rw [← hi1]; exact D1.over st1 hs0 S.zf1) fun q e hq he => ?_)
    replace hq : Heap.ExtBut i1 g0 q := hq
    exact hE q tk0 e (fun c o cz c1 c2 x => hq _ _ c1 (hs0.extBut _ _ cz x)) he
theorem zip3h_item {Q : Value → Shared → Prop} (S : ZipSep3 z TI TO i1 i2 i3 fp1 fp2 fp3) (D1 : Draws prog w A i1 fp1 n1 P1 St1) (D2 : Draws prog w A i2 fp2 n2 P2 St2) (D3 : Draws prog w A i3 fp3 n3 P3 St3)
    (hz : IsZipHeld s.heap z TI TO T f) (hT : s.heap.get? T = some oT) (hTI : IsTupOf3 s.heap TI (.ref i1) (.ref i2) (.ref i3)) (st1 : St1 i s.heap) (st2 : St2 i s.heap) (st3 : St3 i s.heap) (hlt1 : i < n1) (hlt2 : i < n2) (hlt3 : i < n3)
    (hQ : ∀ x1 x2 x3 h' tk, P1 i x1 → P2 i x2 → P3 i x3 → IsZipHeld h' z TI TO T true → St1 (i + 1) h' → St2 (i + 1) h' → St3 (i + 1) h' → IsTupOf3 h' s.heap.objs.size x1 x2 x3 → h'.objs.size = s.heap.objs.size + 1 →
      (∀ c o, c ≠ z → c ≠ i1 → c ≠ i2 → c ≠ i3 → s.heap.get? c = some o → h'.get? c = some o) → Q (.ref s.heap.objs.size) { s with heap := h', toks := tk }) :
    wpAny (model prog w) A (Builtin.«zip.__next__» ⟨[.ref z], []⟩) (fun fin s' => ∃ v, fin = .done (.ret v) ∧ Q v s') E s := by
  obtain ⟨hp, g, d, tk0, os⟩ := s
  show wpAny _ _ (field (.ref z) 2 >>= _) _ _ _
  refine wpAny_bind (wpAny_field hz rfl (x := .bool false) rfl ?_)
  show wpAny _ _ (field (.ref z) 3 >>= _) _ _ _
  refine wpAny_bind (wpAny_field hz rfl (x := .ref TI) rfl ?_)
  refine wpAny_bind (wpAny_seqItems hTI rfl ?_)
  show wpAny _ _ (Builtin.SmallTypes.ownedTupleIsFree (.ref z) >>= _) _ _ _
  refine wpAny_bind (wpAny_tupleHeld_zip hz hT fun g0 hz0 hs0 => ?_)
  replace hs0 : Heap.SameBut z hp g0 := hs0
  simp only [Bool.false_eq_true, if_false]
  refine wpAny_bind ?_
  rw [← Array.forIn_toList]
  simp only [List.forIn_cons, List.forIn_nil]
  refine wpAny_bind (wpAny_bind (wpAny_holding ?_))
  show wpAny _ _ (Builtin.SmallTypes.nextOf (.ref i1) >>= _) _ _ ⟨g0, g, d, tk0, os⟩
  refine wpAny_bind (D1.item i _ _ _ hlt1 (D1.over st1 hs0 S.zf1) fun x1 p1 tk1 hx1 sn1 hp1 => wpAny_pure ?_)
  replace hp1 : Heap.SameBut i1 g0 p1 := hp1
  refine wpAny_pure ?_
  refine wpAny_bind (wpAny_bind (wpAny_holding ?_))
  show wpAny _ _ (Builtin.SmallTypes.nextOf (.ref i2) >>= _) _ _ ⟨p1, g, d, tk1, os⟩
  refine wpAny_bind (D2.item i _ _ _ hlt2 (D2.over (D2.over st2 hs0 S.zf2) hp1 S.sep1_2) fun x2 p2 tk2 hx2 sn2 hp2 => wpAny_pure ?_)
  replace hp2 : Heap.SameBut i2 p1 p2 := hp2
  refine wpAny_pure ?_
  refine wpAny_bind (wpAny_bind (wpAny_holding ?_))
  show wpAny _ _ (Builtin.SmallTypes.nextOf (.ref i3) >>= _) _ _ ⟨p2, g, d, tk2, os⟩
  refine wpAny_bind (D3.item i _ _ _ hlt3 (D3.over (D3.over (D3.over st3 hs0 S.zf3) hp1 S.sep1_3) hp2 S.sep2_3) fun x3 p3 tk3 hx3 sn3 hp3 => wpAny_pure ?_)
  replace hp3 : Heap.SameBut i3 p2 p3 := hp3
  refine wpAny_pure (wpAny_pure ?_)
  show wpAny _ _ (newTuple [x1, x2, x3] >>= _) _ _ _
  refine wpAny_bind (wpAny_newTuple ?_)
  have hsz : p3.objs.size = hp.objs.size := by rw [hp3.1, hp2.1, hp1.1, hs0.1]
  have hzz : IsZipHeld p3 z TI TO T true := hp3.extBut _ _ S.zi3 (hp2.extBut _ _ S.zi2 (hp1.extBut _ _ S.zi1 hz0))
  have hkk : ∀ c o, c ≠ z → c ≠ i1 → c ≠ i2 → c ≠ i3 → hp.get? c = some o → p3.get? c = some o := fun c o cz c1 c2 c3 e => hp3.extBut _ _ c3 (hp2.extBut _ _ c2 (hp1.extBut _ _ c1 (hs0.extBut _ _ cz e)))
  have hj1 : St1 (i + 1) p3 := D1.over (D1.over sn1 hp2 S.sep2_1) hp3 S.sep3_1
  have hj2 : St2 (i + 1) p3 := D2.over sn2 hp3 S.sep3_2
  refine wpAny_pure ⟨_, rfl, ?_⟩
  have up : ∀ c o, p3.get? c = some o → (p3.push { cls := .type "tuple", data := .seq #[x1, x2, x3] }).get? c = some o := fun c o e => Heap.get?_push_of_some _ e
  have hN : IsTupOf3 (p3.push { cls := .type "tuple", data := .seq #[x1, x2, x3] }) p3.objs.size x1 x2 x3 := Heap.get?_push_size _ rfl
  have hz8 : (p3.push { cls := .type "tuple", data := .seq #[x1, x2, x3] }).objs.size = p3.objs.size + 1 := Heap.size_push ..
  show Q (.ref p3.objs.size) ⟨p3.push { cls := .type "tuple", data := .seq #[x1, x2, x3] }, g, d, tk3, os⟩
  rw [hsz] at hN hz8 ⊢
  exact hQ x1 x2 x3 _ tk3 hx1 hx2 hx3 (up _ _ hzz) (D1.frame _ _ _ hj1 fun b _ o e => up b o e) (D2.frame _ _ _ hj2 fun b _ o e => up b o e) (D3.frame _ _ _ sn3 fun b _ o e => up b o e) hN hz8 fun c o cz c1 c2 c3 e => up c o (hkk c o cz c1 c2 c3 e)
theorem zip3h_end {Q : Fin → Shared → Prop} (S : ZipSep3 z TI TO i1 i2 i3 fp1 fp2 fp3) (D1 : Draws prog w A i1 fp1 n1 P1 St1) (D2 : Draws prog w A i2 fp2 n2 P2 St2) (D3 : Draws prog w A i3 fp3 n3 P3 St3)
    (hz : IsZipHeld s.heap z TI TO T f) (hT : s.heap.get? T = some oT) (hTI : IsTupOf3 s.heap TI (.ref i1) (.ref i2) (.ref i3)) (st1 : St1 i s.heap) (st2 : St2 i s.heap) (st3 : St3 i s.heap) (hle1 : i ≤ n1) (hle2 : i ≤ n2) (hle3 : i ≤ n3) (hend : i = n1 ∨ i = n2 ∨ i = n3)
    (hE : ∀ h' tk e, (∀ c o, c ≠ z → c ≠ i1 → c ≠ i2 → c ≠ i3 → s.heap.get? c = some o → h'.get? c = some o) → (∃ o, h'.get? e = some o ∧ o.cls = .type "StopIteration") → E (.ref e) { s with heap := h', toks := tk }) :
    wpAny (model prog w) A (Builtin.«zip.__next__» ⟨[.ref z], []⟩) Q E s := by
  obtain ⟨hp, g, d, tk0, os⟩ := s
  show wpAny _ _ (field (.ref z) 2 >>= _) _ _ _
  refine wpAny_bind (wpAny_field hz rfl (x := .bool false) rfl ?_)
  show wpAny _ _ (field (.ref z) 3 >>= _) _ _ _
  refine wpAny_bind (wpAny_field hz rfl (x := .ref TI) rfl ?_)
  refine wpAny_bind (wpAny_seqItems hTI rfl ?_)
  show wpAny _ _ (Builtin.SmallTypes.ownedTupleIsFree (.ref z) >>= _) _ _ _
  refine wpAny_bind (wpAny_tupleHeld_zip hz hT fun g0 hz0 hs0 => ?_)
  replace hs0 : Heap.SameBut z hp g0 := hs0
  simp only [Bool.false_eq_true, if_false]
  refine wpAny_bind ?_
  rw [← Array.forIn_toList]
  simp only [List.forIn_cons, List.forIn_nil]
  refine wpAny_bind (wpAny_bind (wpAny_holding ?_))
  show wpAny _ _ (Builtin.SmallTypes.nextOf (.ref i1) >>= _) _ _ ⟨g0, g, d, tk0, os⟩
  by_cases hlt1 : i < n1
  · refine wpAny_bind (D1.item i _ _ _ hlt1 (D1.over st1 hs0 S.zf1) fun x1 p1 tk1 hx1 sn1 hp1 => wpAny_pure ?_)
    replace hp1 : Heap.SameBut i1 g0 p1 := hp1
    refine wpAny_pure ?_
    refine wpAny_bind (wpAny_bind (wpAny_holding ?_))
    show wpAny _ _ (Builtin.SmallTypes.nextOf (.ref i2) >>= _) _ _ ⟨p1, g, d, tk1, os⟩
    by_cases hlt2 : i < n2
    · refine wpAny_bind (D2.item i _ _ _ hlt2 (D2.over (D2.over st2 hs0 S.zf2) hp1 S.sep1_2) fun x2 p2 tk2 hx2 sn2 hp2 => wpAny_pure ?_)
      replace hp2 : Heap.SameBut i2 p1 p2 := hp2
      have hi3 : i = n3 := by omega
      refine wpAny_pure ?_
      refine wpAny_bind (wpAny_bind (wpAny_holding ?_))
      show wpAny _ _ (Builtin.SmallTypes.nextOf (.ref i3) >>= _) _ _ ⟨p2, g, d, tk2, os⟩
      refine wpAny_bind (D3.done ⟨p2, g, d, tk2, os⟩ _ _ (by rw [← hi3]; exact D3.over (D3.over (D3.over st3 hs0 S.zf3) hp1 S.sep1_3) hp2 S.sep2_3) fun q e hq he => ?_)
      replace hq : Heap.ExtBut i3 p2 q := hq
      exact hE q tk2 e (fun c o cz c1 c2 c3 x => hq _ _ c3 (hp2.extBut _ _ c2 (hp1.extBut _ _ c1 (hs0.extBut _ _ cz x)))) he
    · have hi2 : i = n2 := by omega
      refine wpAny_bind (D2.done ⟨p1, g, d, tk1, os⟩ _ _ (by rw [← hi2]; exact D2.over (D2.over st2 hs0 S.zf2) hp1 S.sep1_2) fun q e hq he => ?_)
      replace hq : Heap.ExtBut i2 p1 q := hq
      exact hE q tk1 e (fun c o cz c1 c2 c3 x => hq _ _ c2 (hp1.extBut _ _ c1 (hs0.extBut _ _ cz x))) he
  · have hi1 : i = n1 := by omega
    refine wpAny_bind (D1.done ⟨g0, g, d, tk0, os⟩ _ _ (by rw [← hi1]; exact D1.over st1 hs0 S.zf1) fun q e hq he => ?_)
    replace hq : Heap.ExtBut i1 g0 q := hq
    exact hE q tk0 e (fun c o cz c1 c2 c3 x => hq _ _ c1 (hs0.extBut _ _ cz x)) he
end
/-! ### what hands out new tuples, one by one -/
structure HandZ (prog : Program) (w : World) (A : Around) (z : Addr) (fp own wr : List Addr) (n : Nat) (P : Nat → List Value → Prop) (Z : Option Addr → Nat → Heap → Prop) : Prop where
  obj : ∀ o i h, Z o i h → ∀ b ∈ own, ∃ u, h.get? b = some u
  sub : ∀ b ∈ wr, b ∈ own
  ty : ∀ o i h, Z o i h → ∃ u, h.get? z = some u ∧ u.cls = .type "zip"
  frame : ∀ o i h h', Z o i h → (∀ b ∈ fp, ∀ u, h.get? b = some u → h'.get? b = some u) → Z o i h'
  item : ∀ (o : Option Addr) (i : Nat) (s : Shared) (Q : Option Value → Shared → Prop) (E : Value → Shared → Prop), i < n → Z o i s.heap → (∀ T, o = some T → ∃ u, s.heap.get? T = some u) →
    (∀ vals h' tk T', P i vals → h'.get? s.heap.objs.size = some { cls := .type "tuple", data := .seq vals.toArray } → (T' = s.heap.objs.size ∨ o = some T') → Z (some T') (i + 1) h' →
      (∀ c u, c ∉ wr → s.heap.get? c = some u → h'.get? c = some u) → Q (some (.ref s.heap.objs.size)) { s with heap := h', toks := tk }) → wpAny (model prog w) A (pyNext (.ref z)) Q E s
  done : ∀ (o : Option Addr) (s : Shared) (Q : Option Value → Shared → Prop) (E : Value → Shared → Prop), Z o n s.heap → (∀ T, o = some T → ∃ u, s.heap.get? T = some u) →
    (∀ h' tk, (∀ c u, c ∉ wr → s.heap.get? c = some u → h'.get? c = some u) → Q none { s with heap := h', toks := tk }) → wpAny (model prog w) A (pyNext (.ref z)) Q E s
  self : ∀ (o : Option Addr) (i : Nat) (s : Shared) (Q : Value → Shared → Prop) (E : Value → Shared → Prop), Z o i s.heap → Q (.ref z) s → wpAny (model prog w) A (pyIter (.ref z)) Q E s
section
variable {prog : Program} {w : World} {A : Around} {z TI TO i1 i2 i3 : Addr} {fp1 fp2 fp3 : List Addr} {n1 n2 n3 : Nat} {P1 P2 P3 : Nat → Value → Prop} {St1 St2 St3 : Nat → Heap → Prop}
theorem iter_zip0 {s : Shared} {E : Value → Shared → Prop} {Q : Value → Shared → Prop} (hT : s.TypeIs (.ref z) "zip") (h : Q (.ref z) s) : wpAny (model prog w) A (pyIter (.ref z)) Q E s := by
  refine wpAny_pyIter_slot hT F.slot_zip_iter (wpAny_call_entry F.slot_zip_iter hT F.entry_zip_iter ?_ (F.args_zip_iter_1 _))
  show wpAny _ _ (ret (.ref z)) _ _ s
  exact wpAny_pure ⟨_, rfl, "zip", _, hT, F.slot_zip_next.lookup, h⟩
theorem isZip_held {h : Heap} {T : Addr} (e : IsZip h z TI TO (rawInt T)) : IsZipHeld h z TI TO T false := e
theorem hand2 (hh : A.in1.handled = none) (S : ZipSep2 z TI TO i1 i2 fp1 fp2) (D1 : Draws prog w A.in1 i1 fp1 n1 P1 St1) (D2 : Draws prog w A.in1 i2 fp2 n2 P2 St2) :
    HandZ prog w A z (z :: TI :: TO :: (fp1 ++ fp2)) [z, TI, TO, i1, i2] [z, TO, i1, i2] (min n1 n2) (fun i vals => ∃ x1 x2, P1 i x1 ∧ P2 i x2 ∧ vals = [x1, x2])
      (fun o i h => (match o with
        | none => IsZip h z TI TO .none
        | some T => ∃ f, IsZipHeld h z TI TO T f) ∧ IsTupOf2 h TI (.ref i1) (.ref i2) ∧ (∃ a1 a2, IsTupOf2 h TO a1 a2) ∧ St1 i h ∧ St2 i h) where
  obj := fun o i h ⟨hz, hTI, ⟨a1, a2, hTO⟩, st1, st2⟩ b hb => by
    have e' : b = z ∨ b = TI ∨ b = TO ∨ b = i1 ∨ b = i2 := by simpa using hb
    rcases e' with q | q | q | q | q
    · rw [q]
      cases o with
      | none => exact ⟨_, hz⟩
      | some T => obtain ⟨f, e⟩ := hz; exact ⟨_, e⟩
    · rw [q]; exact ⟨_, hTI⟩
    · rw [q]; exact ⟨_, hTO⟩
    · rw [q]; exact D1.live _ _ st1
    · rw [q]; exact D2.live _ _ st2
  sub := fun b hb => by simp at hb ⊢; rcases hb with q | q | q | q <;> simp [q]
  ty := fun o i h ⟨hz, _⟩ => by
    cases o with
    | none => exact ⟨_, hz, rfl⟩
    | some T => obtain ⟨f, e⟩ := hz; exact ⟨_, e, rfl⟩
  frame := fun o i h h' ⟨hz, hTI, ⟨a1, a2, hTO⟩, st1, st2⟩ hk => by
    refine ⟨?_, hk TI (by simp) _ hTI, ⟨a1, a2, hk TO (by simp) _ hTO⟩, D1.frame _ _ _ st1 fun b hb u e => hk b (by simp [hb]) u e, D2.frame _ _ _ st2 fun b hb u e => hk b (by simp [hb]) u e⟩
    cases o with
    | none => exact hk z (by simp) _ hz
    | some T => obtain ⟨f, e⟩ := hz; exact ⟨f, hk z (by simp) _ e⟩
  item := fun o i s Q E hi ⟨hz, hTI, ⟨a1, a2, hTO⟩, st1, st2⟩ hal hQ => by
    have hi1 : i < n1 := by omega
    have hi2 : i < n2 := by omega
    cases o with
    | none =>
      refine wpAny_pyNext_zipD2_item S D1 D2 hz hTI hTO st1 st2 hi1 hi2 fun x1 x2 h' tk y1 y2 b1 b2 d1 d2 b5 b6 hk => ?_
      refine hQ [x1, x2] h' tk s.heap.objs.size ⟨x1, x2, y1, y2, rfl⟩ b5 (.inl rfl) ⟨⟨false, b1⟩, hk _ _ S.TIz S.TITO S.TIi1 S.TIi2 hTI, ⟨_, _, b2⟩, d1, d2⟩ fun c u hc e => hk c u (fun x => hc (by simp [x])) (fun x => hc (by simp [x])) (fun x => hc (by simp [x])) (fun x => hc (by simp [x])) e
    | some T =>
      obtain ⟨f, hz⟩ := hz
      obtain ⟨oT, hT⟩ := hal T rfl
      have hTy : s.TypeIs (.ref z) "zip" := ⟨_, hz, rfl⟩
      unfold pyNext
      refine wpAny_bind (wpAny_attempt (wpAny_callSpecial?_slot (name := Str.ofString "__next__") hTy F.slot_zip_next
        (wpAny_call_entry F.slot_zip_next hTy F.entry_zip_next
          (zip2h_item S D1 D2 hz hT hTI st1 st2 hi1 hi2 fun x1 x2 h' tk y1 y2 b1 d1 d2 b5 b6 hk => wpAny_pure ?_) (F.args_zip_next_1 _))))
      refine hQ [x1, x2] h' tk T ⟨x1, x2, y1, y2, rfl⟩ b5 (.inr rfl) ⟨⟨true, b1⟩, hk _ _ S.TIz S.TIi1 S.TIi2 hTI, ⟨_, _, hk _ _ S.TOz S.Ti1 S.Ti2 hTO⟩, d1, d2⟩ fun c u hc e => hk c u (fun x => hc (by simp [x])) (fun x => hc (by simp [x])) (fun x => hc (by simp [x])) e
  done := fun o s Q E ⟨hz, hTI, ⟨a1, a2, hTO⟩, st1, st2⟩ hal hQ => by
    cases o with
    | none =>
      exact wpAny_pyNext_zipD2_end S D1 D2 hz hTI hTO st1 st2 (by omega) (by omega) (by omega) fun h' tk hk => hQ h' tk fun c u hc e => hk c u (fun x => hc (by simp [x])) (fun x => hc (by simp [x])) (fun x => hc (by simp [x])) (fun x => hc (by simp [x])) e
    | some T =>
      obtain ⟨f, hz⟩ := hz
      obtain ⟨oT, hT⟩ := hal T rfl
      have hTy : s.TypeIs (.ref z) "zip" := ⟨_, hz, rfl⟩
      unfold pyNext
      refine wpAny_bind (wpAny_attempt (wpAny_callSpecial?_slot (name := Str.ofString "__next__") hTy F.slot_zip_next
        (wpAny_call_entry F.slot_zip_next hTy F.entry_zip_next (zip2h_end S D1 D2 hz hT hTI st1 st2 (by omega) (by omega) (by omega) fun h' tk e hk he => ?_) (F.args_zip_next_1 _))))
      obtain ⟨ob, ho, hc⟩ := he
      refine wpAny_bind (wpAny_isInstance (T := "StopIteration") (b := true) ⟨ob, ho, hc⟩ isSubtype_stop ?_)
      exact wpAny_pure (hQ _ _ fun c u hc e => hk c u (fun x => hc (by simp [x])) (fun x => hc (by simp [x])) (fun x => hc (by simp [x])) e)
  self := fun o i s Q E ⟨hz, _⟩ hQ => by
    cases o with
    | none => exact wpAny_pyIter_zip hz hQ
    | some T => obtain ⟨f, e⟩ := hz; exact iter_zip0 ⟨_, e, rfl⟩ hQ
theorem hand3 (hh : A.in1.handled = none) (S : ZipSep3 z TI TO i1 i2 i3 fp1 fp2 fp3) (D1 : Draws prog w A.in1 i1 fp1 n1 P1 St1) (D2 : Draws prog w A.in1 i2 fp2 n2 P2 St2) (D3 : Draws prog w A.in1 i3 fp3 n3 P3 St3) :
    HandZ prog w A z (z :: TI :: TO :: (fp1 ++ (fp2 ++ fp3))) [z, TI, TO, i1, i2, i3] [z, TO, i1, i2, i3] (min (min n1 n2) n3) (fun i vals => ∃ x1 x2 x3, P1 i x1 ∧ P2 i x2 ∧ P3 i x3 ∧ vals = [x1, x2, x3])
      (fun o i h => (match o with
        | none => IsZip h z TI TO .none
        | some T => ∃ f, IsZipHeld h z TI TO T f) ∧ IsTupOf3 h TI (.ref i1) (.ref i2) (.ref i3) ∧ (∃ a1 a2 a3, IsTupOf3 h TO a1 a2 a3) ∧ St1 i h ∧ St2 i h ∧ St3 i h) where
  obj := fun o i h ⟨hz, hTI, ⟨a1, a2, a3, hTO⟩, st1, st2, st3⟩ b hb => by
    have e' : b = z ∨ b = TI ∨ b = TO ∨ b = i1 ∨ b = i2 ∨ b = i3 := by simpa using hb
    rcases e' with q | q | q | q | q | q
    · rw [q]
      cases o with
      | none => exact ⟨_, hz⟩
      | some T => obtain ⟨f, e⟩ := hz; exact ⟨_, e⟩
    · rw [q]; exact ⟨_, hTI⟩
    · rw [q]; exact ⟨_, hTO⟩
    · rw [q]; exact D1.live _ _ st1
    · rw [q]; exact D2.live _ _ st2
    · rw [q]; exact D3.live _ _ st3
  sub := fun b hb => by simp at hb ⊢; rcases hb with q | q | q | q | q <;> simp [q]
  ty := fun o i h ⟨hz, _⟩ => by
    cases o with
    | none => exact ⟨_, hz, rfl⟩
    | some T => obtain ⟨f, e⟩ := hz; exact ⟨_, e, rfl⟩
  frame := fun o i h h' ⟨hz, hTI, ⟨a1, a2, a3, hTO⟩, st1, st2, st3⟩ hk => by
    refine ⟨?_, hk TI (by simp) _ hTI, ⟨a1, a2, a3, hk TO (by simp) _ hTO⟩, D1.frame _ _ _ st1 fun b hb u e => hk b (by simp [hb]) u e, D2.frame _ _ _ st2 fun b hb u e => hk b (by simp [hb]) u e, D3.frame _ _ _ st3 fun b hb u e => hk b (by simp [hb]) u e⟩
    cases o with
    | none => exact hk z (by simp) _ hz
    | some T => obtain ⟨f, e⟩ := hz; exact ⟨f, hk z (by simp) _ e⟩
  item := fun o i s Q E hi ⟨hz, hTI, ⟨a1, a2, a3, hTO⟩, st1, st2, st3⟩ hal hQ => by
    have hi1 : i < n1 := by omega
    have hi2 : i < n2 := by omega
    have hi3 : i < n3 := by omega
    cases o with
    | none =>
      refine wpAny_pyNext_zipD3_item S D1 D2 D3 hz hTI hTO st1 st2 st3 hi1 hi2 hi3 fun x1 x2 x3 h' tk y1 y2 y3 b1 b2 d1 d2 d3 b5 b6 hk => ?_
      refine hQ [x1, x2, x3] h' tk s.heap.objs.size ⟨x1, x2, x3, y1, y2, y3, rfl⟩ b5 (.inl rfl) ⟨⟨false, b1⟩, hk _ _ S.TIz S.TITO S.TIi1 S.TIi2 S.TIi3 hTI, ⟨_, _, _, b2⟩, d1, d2, d3⟩ fun c u hc e => hk c u (fun x => hc (by simp [x])) (fun x => hc (by simp [x])) (fun x => hc (by simp [x])) (fun x => hc (by simp [x])) (fun x => hc (by simp [x])) e
    | some T =>
      obtain ⟨f, hz⟩ := hz
      obtain ⟨oT, hT⟩ := hal T rfl
      have hTy : s.TypeIs (.ref z) "zip" := ⟨_, hz, rfl⟩
      unfold pyNext
      refine wpAny_bind (wpAny_attempt (wpAny_callSpecial?_slot (name := Str.ofString "__next__") hTy F.slot_zip_next
        (wpAny_call_entry F.slot_zip_next hTy F.entry_zip_next
          (zip3h_item S D1 D2 D3 hz hT hTI st1 st2 st3 hi1 hi2 hi3 fun x1 x2 x3 h' tk y1 y2 y3 b1 d1 d2 d3 b5 b6 hk => wpAny_pure ?_) (F.args_zip_next_1 _))))
      refine hQ [x1, x2, x3] h' tk T ⟨x1, x2, x3, y1, y2, y3, rfl⟩ b5 (.inr rfl) ⟨⟨true, b1⟩, hk _ _ S.TIz S.TIi1 S.TIi2 S.TIi3 hTI, ⟨_, _, _, hk _ _ S.TOz S.Ti1 S.Ti2 S.Ti3 hTO⟩, d1, d2, d3⟩ fun c u hc e => hk c u (fun x => hc (by simp [x])) (fun x => hc (by simp [x])) (fun x => hc (by simp [x])) (fun x => hc (by simp [x])) e
  done := fun o s Q E ⟨hz, hTI, ⟨a1, a2, a3, hTO⟩, st1, st2, st3⟩ hal hQ => by
    cases o with
    | none =>
      exact wpAny_pyNext_zipD3_end S D1 D2 D3 hz hTI hTO st1 st2 st3 (by omega) (by omega) (by omega) (by omega) fun h' tk hk => hQ h' tk fun c u hc e => hk c u (fun x => hc (by simp [x])) (fun x => hc (by simp [x])) (fun x => hc (by simp [x])) (fun x => hc (by simp [x])) (fun x => hc (by simp [x])) e
    | some T =>
      obtain ⟨f, hz⟩ := hz
      obtain ⟨oT, hT⟩ := hal T rfl
      have hTy : s.TypeIs (.ref z) "zip" := ⟨_, hz, rfl⟩
      unfold pyNext
      refine wpAny_bind (wpAny_attempt (wpAny_callSpecial?_slot (name := Str.ofString "__next__") hTy F.slot_zip_next
        (wpAny_call_entry F.slot_zip_next hTy F.entry_zip_next (zip3h_end S D1 D2 D3 hz hT hTI st1 st2 st3 (by omega) (by omega) (by omega) (by omega) fun h' tk e hk he => ?_) (F.args_zip_next_1 _))))
      obtain ⟨ob, ho, hc⟩ := he
      refine wpAny_bind (wpAny_isInstance (T := "StopIteration") (b := true) ⟨ob, ho, hc⟩ isSubtype_stop ?_)
      exact wpAny_pure (hQ _ _ fun c u hc e => hk c u (fun x => hc (by simp [x])) (fun x => hc (by simp [x])) (fun x => hc (by simp [x])) (fun x => hc (by simp [x])) e)
  self := fun o i s Q E ⟨hz, _⟩ hQ => by
    cases o with
    | none => exact wpAny_pyIter_zip hz hQ
    | some T => obtain ⟨f, e⟩ := hz; exact iter_zip0 ⟨_, e, rfl⟩ hQ
end
end MP
/-! MP: list(zip(..)), the list and its tuples tracked. -/
namespace MP
open PySem PySem.Spec PyProof.Rows L2

/-- the heap as the list at S grows by new tuples -/
inductive Gr (S : Addr) (H0 : Hp) : List (List V) → List V → Hp → Prop
  | nil : Gr S H0 [] [] (upd H0 S (.lst []))
  | snoc {tl : List (List V)} {vs : List V} {H : Hp} {T : Addr} {xs : List V} : Gr S H0 tl vs H → H T = none → Gr S H0 (tl ++ [xs]) (vs ++ [.ref T]) (upd (upd H T (.tup xs)) S (.lst (vs ++ [.ref T])))
theorem Gr.at_ {S : Addr} {H0 H : Hp} {tl : List (List V)} {vs : List V} (g : Gr S H0 tl vs H) : H S = some (.lst vs) ∧ vs.length = tl.length := by
  induction g with
  | nil => exact ⟨upd_same, rfl⟩
  | snoc g hT ih => exact ⟨upd_same, by simp [ih.2]⟩
section
variable {X : Cx} {pins : List (Addr × Obj)} {σ : L2.St} {A : Around} {z : Addr} {fp own wr : List Addr} {n : Nat} {P : Nat → List Value → Prop} {Z : Option Addr → Nat → Heap → Prop} {R : Result → Shared → Prop}
theorem lz_loop (W : HandZ X.prog X.w A.in1 z fp own wr n P Z) (rows : List (List V)) (hn : rows.length = n) (hz : n ≤ sizeLine) (hP : ∀ i vals row, P i vals → rows[i]? = some row → Vals row vals) (hw : ∀ row ∈ rows, row.length ≤ sizeLine) (S : Addr) (H0 : Hp) (res : Value) (hSf : S ∉ fp) :
    ∀ (k i : Nat) (s : Shared) (H : Hp) (o : Option Addr) (vs : List V), n - i = k → i ≤ n → Inv X pins σ H s → (∀ b ∈ own, FpOk X pins H b) → Z o i s.heap → (∀ T, o = some T → ∃ xs, H T = some (.tup xs)) → Gr S H0 (rows.take i) vs H →
    (∀ s' H' vs', Inv X pins σ H' s' → Gr S H0 rows vs' H' → R (.ok (.ret res)) s') →
    codeAny (model X.prog X.w) A (.builtin "list.extend.loop" ⟨[.ref S, .ref z, res], []⟩) R s := by
  intro k
  induction k with
  | zero =>
    intro i s H o vs hk hi I hf hZ ho hg hR
    have hin : i = n := by omega
    subst hin
    refine codeAny_builtin F.entry_extend_loop ?_
    rw [Around.under_plainId F.plain_extend_loop _]
    show wpAny _ A.in1 (pyNext (.ref z) >>= _) _ _ s
    refine wpAny_bind (W.done o s _ _ hZ (fun T e => ?_) fun h' tk hk' => ?_)
    · obtain ⟨xs, e⟩ := ho T e
      obtain ⟨its, r, p, _⟩ := I.tuple (SqT.of e)
      obtain ⟨u, hu, _⟩ := p
      exact ⟨u, hu⟩
    · have ht : rows.take i = rows := List.take_of_length_le (by omega)
      rw [ht] at hg
      refine wpAny_pure (hR _ H vs ?_ hg)
      exact I.turnedL hk' fun b hb => hf b (W.sub b hb)
  | succ k ih =>
    intro i s H o vs hk hi I hf hZ ho hg hR
    have hlt : i < n := by omega
    obtain ⟨hS, hl⟩ := hg.at_
    rw [List.length_take] at hl
    refine codeAny_builtin F.entry_extend_loop ?_
    rw [Around.under_plainId F.plain_extend_loop _]
    show wpAny _ A.in1 (pyNext (.ref z) >>= _) _ _ s
    refine wpAny_bind (W.item o i s _ _ hlt hZ (fun T e => ?_) fun vals h' tk T' hPv hN hT' hZ' hkp => ?_)
    · obtain ⟨xs, e⟩ := ho T e
      obtain ⟨its, r, p, _⟩ := I.tuple (SqT.of e)
      obtain ⟨u, hu, _⟩ := p
      exact ⟨u, hu⟩
    · obtain ⟨row, hrow⟩ : ∃ row, rows[i]? = some row := ⟨_, List.getElem?_eq_getElem (by omega)⟩
      have rv := hP i vals row hPv hrow
      have hrz := hw row (List.mem_of_getElem? hrow)
      have hNn : H s.heap.objs.size = none := I.hok.fresh (Nat.le_refl _)
      have new : ObjOk X.prog X.w (upd H s.heap.objs.size (.tup row)) h' s.heap.objs.size (.tup row) := ⟨hrz, vals, rv, ⟨_, hN, rfl, _, rfl⟩⟩
      have I1 : Inv X pins σ (upd H s.heap.objs.size (.tup row)) { s with heap := h', toks := tk } :=
        I.turnedNew (t' := tk) (ch := wr) hkp (fun c hc => hf c (W.sub c hc)) (Nat.le_refl _) new
      have ne : ∀ b ∈ own, b ≠ s.heap.objs.size := fun b hb e => by
        obtain ⟨u, hu⟩ := W.obj o i _ hZ b hb
        have := Heap.lt_size hu
        rw [e] at this
        exact Nat.lt_irrefl _ this
      have hSn : S ≠ s.heap.objs.size := fun e => by rw [e, hNn] at hS; cases hS
      have hS1 : (upd H s.heap.objs.size (.tup row)) S = some (.lst vs) := by rw [upd_ne hSn]; exact hS
      obtain ⟨its, n0, rl, eo, _⟩ := I1.lst hS1
      have hli := rl.length
      show wpAny _ A.in1 (updateSeq S (·.push (.ref s.heap.objs.size)) >>= _) _ _ _
      refine wpAny_bind ?_
      have hv : vs.length < sizeLine := by omega
      have I2 := I1.lstUpd (ys := vs ++ [.ref s.heap.objs.size]) (its' := its ++ [.ref s.heap.objs.size]) (n' := n0 + 1) (f := Obj.mapSeq (·.push (.ref s.heap.objs.size))) hS1 eo (by simp [Obj.mapSeq]) (rl.append (show Vals [V.ref s.heap.objs.size] [Value.ref s.heap.objs.size] from .cons rfl .nil)) (by rw [List.length_append]; exact hv) tk
      have bS : ∀ b ∈ own, b ≠ S := fun b hb e => by
        have := (hf b hb).1
        rw [e, hS] at this
        cases this
      refine wpAny_updateSeq eo rfl (wpAny_pure ⟨plainId_quiet F.plain_extend_loop _, ih (i + 1) _ _ (some T') (vs ++ [.ref s.heap.objs.size]) (by omega) hlt I2 (fun b hb => ⟨?_, (hf b hb).2⟩) (W.frame _ _ _ _ hZ' fun b hb u e => ?_) (fun T e => ?_) ?_ hR⟩) (by rw [List.size_toArray]; omega) (by show (its.toArray.push _).size ≤ sizeLine + 1; rw [Array.size_push, List.size_toArray]; omega)
      · rw [upd_ne (bS b hb), upd_ne (ne b hb)]; exact (hf b hb).1
      · exact (Heap.get?_update_other _ _ (fun q : S = b => hSf (q ▸ hb))).trans e
      · rw [← Option.some.inj e]
        rcases hT' with q | q
        · rw [q, upd_ne (Ne.symm hSn), upd_same]; exact ⟨_, rfl⟩
        · obtain ⟨xs, e⟩ := ho T' q
          refine ⟨xs, ?_⟩
          rw [upd_ne (fun q2 => by rw [q2, hS] at e; cases e), upd_ne (fun q2 => by rw [q2, hNn] at e; cases e)]
          exact e
      · have et : rows.take (i + 1) = rows.take i ++ [row] := by
          rw [List.take_succ, hrow]; rfl
        rw [et]
        exact Gr.snoc hg hNn
/-- list(z) -/
theorem zip_no_len : typeLookup (.type "zip") "__len__" = pure none := by rw [typeLookup_type, builtinLookup_eq_fast]; kernel_rfl
theorem zip_no_hint : typeLookup (.type "zip") "__length_hint__" = pure none := by rw [typeLookup_type, builtinLookup_eq_fast]; kernel_rfl
theorem call_list_zip {s : Shared} {H : Hp} {Q : Value → Shared → Prop} {E : Value → Shared → Prop} (W : HandZ X.prog X.w A.in1.in1 z fp own wr n P Z) (rows : List (List V)) (hn : rows.length = n) (hz : n ≤ sizeLine) (hP : ∀ i vals row, P i vals → rows[i]? = some row → Vals row vals) (hw : ∀ row ∈ rows, row.length ≤ sizeLine)
    (I : Inv X pins σ H s) (hf : ∀ b ∈ own, FpOk X pins H b) (hZ : Z none 0 s.heap) (hfp : ∀ b ∈ fp, b < s.heap.objs.size) (hzo : z ∈ own) (hown : ∀ b ∈ own, b ∈ fp)
    (hQ : ∀ S s' H' vs', H S = none → Inv X pins σ H' s' → Gr S H rows vs' H' → Q (.ref S) s') : wpAny (model X.prog X.w) A (call (.type "list") [.ref z]) Q E s := by
  have hSn : H s.heap.objs.size = none := I.hok.fresh (Nat.le_refl _)
  have hSf : s.heap.objs.size ∉ fp := fun m => Nat.lt_irrefl _ (hfp _ m)
  have hSz : s.heap.objs.size ≠ z := fun e => hSf (e ▸ hown z hzo)
  refine callType_codes (Q₁ := fun obj s₁ => obj = .ref s.heap.objs.size ∧ s₁ = { s with heap := s.heap.push { cls := .type "list", data := .seq #[] } }) F.called_list (F.typeCall_list_1 _) F.entry_list_init
    (code_list_new _ ⟨rfl, rfl⟩) fun obj s₁ h₁ => ?_
  obtain ⟨rfl, rfl⟩ := h₁
  have hS : (s.heap.push { cls := .type "list", data := .seq #[] }).get? s.heap.objs.size = some { cls := .type "list", data := .seq #[] } := Heap.get?_push_size _ rfl
  refine ⟨⟨_, hS, rfl⟩, F.args_list_init_2 _ _, ?_⟩
  have I1 : Inv X pins σ (upd H s.heap.objs.size (.lst [])) { s with heap := s.heap.push { cls := .type "list", data := .seq #[] } } :=
    I.laid (t' := s.toks) (fun b o e => Heap.get?_push_of_some _ e) (Nat.le_refl _) ⟨Nat.zero_le _, [], 0, .nil, Heap.get?_push_size _ rfl⟩
  have hZ1 : Z none 0 (s.heap.push { cls := .type "list", data := .seq #[] }) := W.frame _ _ _ _ hZ fun b _ o e => Heap.get?_push_of_some _ e
  have up0 : ∀ {ho : Heap} {Hx : Hp}, Hx s.heap.objs.size = some (.lst []) → True := fun _ => trivial
  generalize hh1 : s.heap.push { cls := .type "list", data := .seq #[] } = h1 at hS I1 hZ1 ⊢
  show wpAny _ A.in1.in1 (do let old ← Builtin.List.listItems (.ref s.heap.objs.size); Builtin.List.listUpdate (.ref s.heap.objs.size) (fun _ => #[]); letGo old.toList.reverse; Builtin.List.listExtendWith (.ref s.heap.objs.size) (.ref z) .none) _ _ _
  refine wpAny_bind ?_
  unfold Builtin.List.listItems
  refine wpAny_bind (wpAny_seqItems hS rfl (wpAny_pure ?_))
  show wpAny _ A.in1.in1 (updateSeq s.heap.objs.size (fun _ => #[]) >>= fun _ => letGo (#[] : Array Value).toList.reverse >>= fun _ => Builtin.List.listExtendWith (.ref s.heap.objs.size) (.ref z) .none) _ _ _
  refine wpAny_bind (wpAny_updateSeq hS rfl ?_)
  have hS₂ := Heap.get?_update_self (Obj.mapSeq (fun _ => (#[] : Array Value))) hS rfl
  have I2 := I1.lstUpd (xs := []) (ys := []) (its := []) (its' := []) (n := 0) (n' := 0) (f := Obj.mapSeq (fun _ => (#[] : Array Value))) upd_same hS (by simp [Obj.mapSeq]) .nil (Nat.zero_le _) s.toks
  have hZ2 : Z none 0 (h1.update s.heap.objs.size (Obj.mapSeq (fun _ => (#[] : Array Value)))) := W.frame _ _ _ _ hZ1 fun b hb o e => (Heap.get?_update_other _ _ (fun q : s.heap.objs.size = b => hSf (q ▸ hb))).trans e
  refine wpAny_bind (wpAny_letGo ?_)
  generalize hh2 : h1.update s.heap.objs.size (Obj.mapSeq (fun _ => (#[] : Array Value))) = h2 at hS₂ I2 hZ2 ⊢
  obtain ⟨uz, hzt, hzc⟩ := W.ty _ _ _ hZ2
  unfold Builtin.List.listExtendWith
  refine wpAny_bind (wpAny_typeOf (T := "zip") ⟨uz, hzt, hzc⟩ ?_)
  have e1 : Builtin.List.listSameRef (.ref s.heap.objs.size) (.ref z) = false := by simp [Builtin.List.listSameRef, hSz]
  have e2 : (Value.type "zip" == Value.type "list") = false := by decide
  have e3 : (Value.type "zip" == Value.type "tuple") = false := by decide
  simp only [e1, e2, e3, Bool.or_false, Bool.false_eq_true, if_false]
  refine wpAny_bind (W.self none 0 _ _ _ hZ2 ?_)
  refine wpAny_bind (wpAny_holding ?_)
  unfold Builtin.List.listLengthHint
  refine wpAny_bind (wpAny_specialOf (T := "zip") ⟨uz, hzt, hzc⟩ zip_no_len ?_)
  show wpAny _ _ (specialOf (Value.ref z) (Str.ofString "__length_hint__") >>= _) _ _ _
  refine wpAny_bind (wpAny_specialOf (T := "zip") ⟨uz, hzt, hzc⟩ zip_no_hint ?_)
  refine wpAny_pure ?_
  show wpAny _ _ (rule "list.extend.makes-room" >>= fun _ => Builtin.List.listTouch (.ref s.heap.objs.size) >>= fun _ =>
    again (.builtin "list.extend.loop" ⟨[.ref s.heap.objs.size, .ref z, .none], []⟩)) _ _ _
  refine wpAny_bind (wpAny_rule ?_)
  refine wpAny_bind ?_
  show wpAny _ _ (updateSeq s.heap.objs.size (·.push .none) >>= fun _ => updateSeq s.heap.objs.size (·.pop)) _ _ _
  refine wpAny_bind (wpAny_updateSeq hS₂ rfl ?_)
  have hS₃ := Heap.get?_update_self (Obj.mapSeq (·.push Value.none)) hS₂ rfl
  have I3 := I2.write (o := .lst [.non]) (h' := h2.update s.heap.objs.size (Obj.mapSeq (·.push Value.none))) (t' := s.toks) (x := s.heap.objs.size) (by rw [upd_same]; trivial) (.inl rfl) (fun b u hb q => (Heap.get?_update_other _ _ (Ne.symm hb)).trans q) ⟨_, hS₃⟩ ⟨by show 1 ≤ sizeLine; decide, [.none], _, .cons rfl .nil, hS₃⟩
  refine wpAny_updateSeq hS₃ rfl ?_
  have hS₄ := Heap.get?_update_self (Obj.mapSeq (·.pop)) hS₃ rfl
  have I4 := I3.write (o := .lst []) (h' := (h2.update s.heap.objs.size (Obj.mapSeq (·.push Value.none))).update s.heap.objs.size (Obj.mapSeq (·.pop))) (t' := s.toks) (x := s.heap.objs.size) (by rw [upd_same]; trivial) (.inl rfl) (fun b u hb q => (Heap.get?_update_other _ _ (Ne.symm hb)).trans q) ⟨_, hS₄⟩ ⟨Nat.zero_le _, [], _, .nil, hS₄⟩
  have hH : upd (upd (upd (upd H s.heap.objs.size (.lst [])) s.heap.objs.size (.lst [])) s.heap.objs.size (.lst [.non])) s.heap.objs.size (.lst []) = upd H s.heap.objs.size (.lst []) := by
    funext b
    by_cases hb : b = s.heap.objs.size
    · rw [hb, upd_same, upd_same]
    · simp only [upd_ne hb]
  rw [hH] at I4
  have hZ4 : Z none 0 ((h2.update s.heap.objs.size (Obj.mapSeq (·.push Value.none))).update s.heap.objs.size (Obj.mapSeq (·.pop))) := W.frame _ _ _ _ hZ2 fun b hb o e =>
    (Heap.get?_update_other _ _ (fun q : s.heap.objs.size = b => hSf (q ▸ hb))).trans ((Heap.get?_update_other _ _ (fun q : s.heap.objs.size = b => hSf (q ▸ hb))).trans e)
  refine wpAny_pure ⟨plainId_quiet F.plain_extend_loop _, lz_loop W rows hn hz hP hw s.heap.objs.size H .none hSf n 0 _ _ none [] rfl (Nat.zero_le _) I4 (fun b hb => ⟨?_, (hf b hb).2⟩) hZ4 (fun T e => by cases e) Gr.nil fun s' H' vs' I' g' => ⟨rfl, hQ _ s' H' vs' hSn I' g'⟩⟩
  rw [upd_ne (fun q : b = s.heap.objs.size => hSf (q ▸ hown b hb))]
  exact (hf b hb).1
end
end MP
/-! MP: does a text say what the program's term says. -/
namespace MP
open PySem PySem.Spec PyProof.Rows L2

structure Glob where
  cst : List (Str × Val)
  fns : List (Str × Nat)
  free : List Str
def visB (sc : Scope) (x : Str) : Bool := match sc.names.lookup x with
  | some .local => true
  | some .cell => true
  | some .free => true
  | _ => false
def glB (sc : Scope) (x : Str) : Bool := decide (sc.names.lookup x = some .globalImplicit) && !(x == ("__debug__" : Str))
/-- a name that is stored: a def's local or cell, a block's own -/
def locB (blk : Option Scope) (sc : Scope) (x : Str) : Bool := match sc.names.lookup x with
  | some .local => true
  | some .cell => (match blk with
    | none => true
    | some b => b.names.lookup x == some .cell)
  | _ => false
def notStar : Expr → Bool
  | .Starred .. => false
  | _ => true
def notSet : Expr → Bool
  | .Set .. => false
  | _ => true
def plainIx : Expr → Bool
  | .Slice .. => false
  | _ => true
def isName : Expr → Bool
  | .Name .. => true
  | _ => false
/-- its test is its value's truth -/
def plainT : Expr → Bool
  | .Name .. => true
  | .Call .. => true
  | .Subscript .. => true
  | .Constant .. => true
  | .BinOp .. => true
  | _ => false
def ckCst (G : Glob) (sc : Scope) (v : Val) : Expr → Bool
  | .Constant (.int i) _ _ => (match v with
    | .int j => decide (i = j)
    | _ => false)
  | .Constant (.bool b) _ _ => (match v with
    | .bl c => decide (b = c)
    | _ => false)
  | .Constant .none _ _ => (match v with
    | .non => true
    | _ => false)
  | .Constant (.str x) _ _ => (match v with
    | .str y => decide (x = y)
    | _ => false)
  | _ => false
mutual
def valEq : Val → Val → Bool
  | .non, .non => true
  | .bl a, .bl b => a == b
  | .int a, .int b => a == b
  | .str a, .str b => decide (a = b)
  | .tup xs, .tup ys => valEqs xs ys
  | _, _ => false
def valEqs : List Val → List Val → Bool
  | [], [] => true
  | x :: xs, y :: ys => valEq x y && valEqs xs ys
  | _, _ => false
end
def ckGlb (G : Glob) (sc : Scope) (v : Val) : Expr → Bool
  | .Name x _ => glB sc x && (match G.cst.lookup x with
    | some w => valEq w v
    | none => false)
  | _ => false
def ckFn (G : Glob) (sc : Scope) (f : Nat) : Expr → Bool
  | .Name x _ => glB sc x && decide (G.fns.lookup x = some f)
  | _ => false
def ckBlt (G : Glob) (sc : Scope) (n : Str) : Expr → Bool
  | .Name x _ => decide (x = n) && (glB sc x && G.free.contains x)
  | _ => false
def ckNms (blk : Option Scope) (N : List Str) (sc : Scope) : List Nat → List Expr → Bool
  | [], [] => true
  | i :: is, .Name x _ :: es => decide (N[i]? = some x) && (locB blk sc x && ckNms blk N sc is es)
  | _, _ => false
def ckTg (blk : Option Scope) (N : List Str) (sc : Scope) : Tg → Expr → Bool
  | .nm i, .Name x _ => decide (N[i]? = some x) && locB blk sc x
  | .tp is, .Tuple es _ _ => ckNms blk N sc is es
  | _, _ => false
def ownOf (N : List Str) (own : List Nat) : List (Str × Nat) := own.filterMap fun i => N[i]?.map fun x => (x, i)
def tgIn : Tg → List Nat → Bool
  | .nm i, own => own.contains i
  | .tp is, own => is.all own.contains
def oneTg : Tg → Bool
  | .nm _ => true
  | .tp _ => false
/-- may it stand as a test -/
def tstE : Ex → Expr → Bool
  | .cmp .., _ => true
  | .chain .., _ => true
  | .err, _ => true
  | .and a b, .BoolOp .And (a' :: b' :: r) pos => tstE a a' && (match r with
    | [] => tstE b b'
    | _ => tstE b (.BoolOp .And (b' :: r) pos))
  | .or a b, .BoolOp .Or (a' :: b' :: r) pos => tstE a a' && (match r with
    | [] => tstE b b'
    | _ => tstE b (.BoolOp .Or (b' :: r) pos))
  | .not a, .UnaryOp .Not a' _ => tstE a a'
  | _, e' => plainT e'
/-- several names as a target: a tuple display -/
def tupTg : Tg → Expr → Bool
  | .nm _, _ => true
  | .tp _, .Tuple .. => true
  | _, _ => false
mutual
def ckE (G : Glob) (N : List Str) : Ex → Scope → Expr → Bool
  | .var i, sc, .Name x _ => decide (N[i]? = some x) && (visB sc x && (!(x == ("__debug__" : Str)) && !(x == ("__classdict__" : Str))))
  | .cst v, sc, e => ckCst G sc v e || ckGlb G sc v e
  | .op o a b, sc, .BinOp a' o' b' _ => decide (o' = trB o) && (ckE G N a sc a' && ckE G N b sc b')
  | .neg a, sc, .UnaryOp .USub a' _ => ckE G N a sc a'
  | .cmp o a b, sc, .Compare a' [o'] [b'] _ => decide (o' = trC o) && (notSet b' && (ckE G N a sc a' && ckE G N b sc b'))
  | .chain o p a b c, sc, .Compare a' [o', p'] [b', c'] _ => decide (o' = trC o) && (decide (p' = trC p) && (notSet c' && (ckE G N a sc a' && (ckE G N b sc b' && ckE G N c sc c'))))
  | .and a b, sc, .BoolOp .And (a' :: b' :: r) pos => ckE G N a sc a' && (match r with
    | [] => ckE G N b sc b'
    | _ => ckE G N b sc (.BoolOp .And (b' :: r) pos))
  | .or a b, sc, .BoolOp .Or (a' :: b' :: r) pos => ckE G N a sc a' && (match r with
    | [] => ckE G N b sc b'
    | _ => ckE G N b sc (.BoolOp .Or (b' :: r) pos))
  | .not a, sc, .UnaryOp .Not a' _ => ckE G N a sc a'
  | .ife c a b, sc, .IfExp c' a' b' _ => ckE G N c sc c' && (tstE c c' && (ckE G N a sc a' && ckE G N b sc b'))
  | .tup es, sc, .Tuple es' _ _ => ckEs G N es sc es'
  | .lst mt es, sc, .List es' _ => ckEs G N es sc es'
  | .idx a b, sc, .Subscript a' b' _ => plainIx b' && (ckE G N a sc a' && ckE G N b sc b')
  | .sl a lo hi st, sc, .Subscript a' (.Slice lo' hi' st' _) _ => ckE G N a sc a' && (ckO G N lo sc lo' && (ckO G N hi sc hi' && ckO G N st sc st'))
  | .pcall th f es, sc, .Call g as [] _ => ckFn G sc f g && ckEs G N es sc as && as.all notStar
  | .mcall f es, sc, .Call g as [] _ => ckFn G sc f g && ckEs G N es sc as && as.all notStar
  | .blt b e, sc, .Call g [a] [] _ => ckBlt G sc (bName b) g && (notStar a && ckE G N e sc a)
  | .blt2 b e e2, sc, .Call g [a, a2] [] _ => ckBlt G sc (bName b) g && (notStar a && (notStar a2 && (ckE G N e sc a && ckE G N e2 sc a2)))
  | .isi e t, sc, .Call g [a, t'] [] _ => ckBlt G sc "isinstance" g && (notStar a && (notStar t' && (ckBlt G sc (Str.ofString (tyName t)) t' && ckE G N e sc a)))
  | .lc mt elt tg q c own, sc, .ListComp elt' [⟨tg', it', ifs', a⟩] scope _ => decide (a = 0) && (ckQ G N q sc (oneTg tg) it' && (tupTg tg tg' && (decide ((ownOf N own).map (·.2) = own) && (blkC N sc scope (ownOf N own) && (ckTg (some scope) N (relS scope sc) tg tg' && (tgIn tg own && (notSet it' &&
      ((match c with
        | .non => (match ifs' with | [] => true | _ => false)
        | .som c => (match ifs' with | [c'] => ckE G N c (relS scope sc) c' && tstE c c' | _ => false)) && ckE G N elt (relS scope sc) elt'))))))))
  | .lq mt (.rng1 a), sc, .Call g [.Call g2 [a'] [] _] [] _ => ckBlt G sc "list" g && (ckBlt G sc "range" g2 && (notStar a' && ckE G N a sc a'))
  | .lq mt (.rng2 a b), sc, .Call g [.Call g2 [a', b'] [] _] [] _ => ckBlt G sc "list" g && (ckBlt G sc "range" g2 && (notStar a' && (notStar b' && (ckE G N a sc a' && ckE G N b sc b'))))
  | .lq mt (.of a), sc, .Call g [a'] [] _ => ckBlt G sc "list" g && (notStar a' && ckE G N a sc a')
  | .lq mt (.zip2 a b), sc, .Call g [.Call g2 [a', b'] [] _] [] _ => ckBlt G sc "list" g && (ckBlt G sc "zip" g2 && (notStar a' && (notStar b' && (ckE G N a sc a' && ckE G N b sc b'))))
  | .lq mt (.zip3 a b c), sc, .Call g [.Call g2 [a', b', c'] [] _] [] _ => ckBlt G sc "list" g && (ckBlt G sc "zip" g2 && (notStar a' && (notStar b' && (notStar c' && (ckE G N a sc a' && (ckE G N b sc b' && ckE G N c sc c'))))))
  | .app l e, sc, .Call (.Attribute l' m apos) [a] [] cpos => decide (m = ("append" : Str)) && ((apos.endLine == cpos.line) && (isName l' && (notStar a && (ckE G N l sc l' && ckE G N e sc a))))
  | .ext l e, sc, .Call (.Attribute l' m apos) [a] [] cpos => decide (m = ("extend" : Str)) && ((apos.endLine == cpos.line) && (isName l' && (notStar a && (ckE G N l sc l' && ckE G N e sc a))))
  | .rem l e, sc, .Call (.Attribute l' m apos) [a] [] cpos => decide (m = ("remove" : Str)) && ((apos.endLine == cpos.line) && (isName l' && (notStar a && (ckE G N l sc l' && ckE G N e sc a))))
  | .frz e, sc, e' => ckE G N e sc e'
  | .err, _, _ => true
  | _, _, _ => false
def ckEs (G : Glob) (N : List Str) : Exs → Scope → List Expr → Bool
  | .nil, _, [] => true
  | .cons e es, sc, e' :: r => notStar e' && (ckE G N e sc e' && ckEs G N es sc r)
  | .star e es, sc, .Starred e' _ :: r => ckE G N e sc e' && ckEs G N es sc r
  | _, _, _ => false
def ckO (G : Glob) (N : List Str) : Oe → Scope → Option Expr → Bool
  | .non, _, none => true
  | .som e, sc, some e' => ckE G N e sc e'
  | _, _, _ => false
/-- one: the target is one name -/
def ckQ (G : Glob) (N : List Str) : Sq → Scope → Bool → Expr → Bool
  | .of e, sc, _, e' => notSet e' && ckE G N e sc e'
  | .rng1 a, sc, _, .Call g [a'] [] _ => ckBlt G sc "range" g && (notStar a' && ckE G N a sc a')
  | .rng2 a b, sc, _, .Call g [a', b'] [] _ => ckBlt G sc "range" g && (notStar a' && (notStar b' && (ckE G N a sc a' && ckE G N b sc b')))
  | .rng3 a b c, sc, _, .Call g [a', b', c'] [] _ => ckBlt G sc "range" g && (notStar a' && (notStar b' && (notStar c' && (ckE G N a sc a' && (ckE G N b sc b' && ckE G N c sc c')))))
  | .zip2 a b, sc, one, .Call g [a', b'] [] _ => !one && (ckBlt G sc "zip" g && (notStar a' && (notStar b' && (ckE G N a sc a' && ckE G N b sc b'))))
  | .zip3 a b c, sc, one, .Call g [a', b', c'] [] _ => !one && (ckBlt G sc "zip" g && (notStar a' && (notStar b' && (notStar c' && (ckE G N a sc a' && (ckE G N b sc b' && ckE G N c sc c'))))))
  | .enum e, sc, one, .Call g [a] [] _ => !one && (ckBlt G sc "enumerate" g && (notStar a && ckE G N e sc a))
  | _, _, _, _ => false
end
end MP
/-! MP: expressions: what the small interpreter says is what the model does. -/
namespace MP
open PySem PySem.Spec PyProof.Rows L2

abbrev WF : Nat → Val → Mem → Prop := fun _ _ _ => False
def AnsL (K : PySem.W.Frag) (F : Addr → Prop) (ρ : Rho) (H : Hp) (Q : List V → Hp → Prop) (ds : List Val) (m : Mem) : Prop :=
  ∀ vs H' ρ', Ext D0 ρ H ρ' H' → Rel K F ρ' H' m → DenAll K F ρ' H' ds vs → Q vs H'
def AnsO (K : PySem.W.Frag) (F : Addr → Prop) (ρ : Rho) (H : Hp) (Q : Option Int → Hp → Prop) (o : Option Int) (m : Mem) : Prop :=
  ∀ H' ρ', Ext D0 ρ H ρ' H' → Rel K F ρ' H' m → Q o H'
def AnsQ (K : PySem.W.Frag) (F : Addr → Prop) (ρ : Rho) (H : Hp) (R : It → Hp → Prop) (vs : List Val) (m : Mem) : Prop :=
  ∀ J H' ρ', Ext D0 ρ H ρ' H' → Rel K F ρ' H' m → Wk K F J vs ρ' H' → vs.length ≤ sizeLine → R J H'
def TE (C : Calls) (K : PySem.W.Frag) (e : Ex) : L2.TE := fun σ H Q => ∃ F ρ m env, Rel K F ρ H m ∧ RelE K F ρ H env σ ∧ (evE C e env m).Out (Ans K F ρ H Q) WF
def TA (C : Calls) (K : PySem.W.Frag) (es : Exs) : L2.TA := fun σ H Q => ∃ F ρ m env, Rel K F ρ H m ∧ RelE K F ρ H env σ ∧ (evs C es env m).Out (AnsL K F ρ H Q) WF
def TO (C : Calls) (K : PySem.W.Frag) (o : Oe) : L2.TO := fun σ H Q => ∃ F ρ m env, Rel K F ρ H m ∧ RelE K F ρ H env σ ∧ (evO C o env m).Out (AnsO K F ρ H Q) WF
def TQ (C : Calls) (K : PySem.W.Frag) (q : Sq) : L2.TI := fun σ H R => ∃ F ρ m env, Rel K F ρ H m ∧ RelE K F ρ H env σ ∧ (evQ C q env m).Out (AnsQ K F ρ H R) WF
def TT (C : Calls) (K : PySem.W.Frag) (e : Ex) : L2.TT := fun σ H Q => TE C K e σ H fun v H' => ∃ b, v = .bl b ∧ Q b H'

section
variable {C : Calls} {K : PySem.W.Frag} {F : Addr → Prop} {ρ : Rho} {H : Hp} {m : Mem} {env : Env} {σ : L2.St} {e : Ex} {es : Exs} {o : Oe} {q : Sq}
theorem TE.run {Q : VK} (r : Rel K F ρ H m) (re : RelE K F ρ H env σ) (h : (evE C e env m).Out (fun d m' => ∀ v H' ρ', Ext D0 ρ H ρ' H' → Rel K F ρ' H' m' → RelE K F ρ' H' env σ → Den K F ρ' H' d v → Q v H') WF) : TE C K e σ H Q :=
  ⟨F, ρ, m, env, r, re, h.mono (fun d m' a v H' ρ' x r' dn => a v H' ρ' x r' (re.on x) dn) fun _ _ _ z => z⟩
theorem TA.run {Q : List V → Hp → Prop} (r : Rel K F ρ H m) (re : RelE K F ρ H env σ) (h : (evs C es env m).Out (fun d m' => ∀ v H' ρ', Ext D0 ρ H ρ' H' → Rel K F ρ' H' m' → RelE K F ρ' H' env σ → DenAll K F ρ' H' d v → Q v H') WF) : TA C K es σ H Q :=
  ⟨F, ρ, m, env, r, re, h.mono (fun d m' a v H' ρ' x r' dn => a v H' ρ' x r' (re.on x) dn) fun _ _ _ z => z⟩
theorem TO.run {Q : Option Int → Hp → Prop} (r : Rel K F ρ H m) (re : RelE K F ρ H env σ) (h : (evO C o env m).Out (fun d m' => ∀ H' ρ', Ext D0 ρ H ρ' H' → Rel K F ρ' H' m' → RelE K F ρ' H' env σ → Q d H') WF) : TO C K o σ H Q :=
  ⟨F, ρ, m, env, r, re, h.mono (fun d m' a H' ρ' x r' => a H' ρ' x r' (re.on x)) fun _ _ _ z => z⟩
theorem TQ.run {Q : It → Hp → Prop} (r : Rel K F ρ H m) (re : RelE K F ρ H env σ) (h : (evQ C q env m).Out (fun d m' => ∀ v H' ρ', Ext D0 ρ H ρ' H' → Rel K F ρ' H' m' → RelE K F ρ' H' env σ → Wk K F v d ρ' H' → d.length ≤ sizeLine → Q v H') WF) : TQ C K q σ H Q :=
  ⟨F, ρ, m, env, r, re, h.mono (fun d m' a v H' ρ' x r' dn z => a v H' ρ' x r' (re.on x) dn z) fun _ _ _ z => z⟩
end

/-! ### expressions, one construct after another -/
section
variable {C : Calls} {X : Cx} {a b c : Ex} {a' b' c' : Expr} {pos : Pos}
theorem te_var {i : Nat} {x : Str} (h : (decide (X.N[i]? = some x) && (visB X.env.scope x && (!(x == ("__debug__" : Str)) && !(x == ("__classdict__" : Str))))) = true) : PE X (.Name x pos) (TE C X.K (.var i)) := by
  simp only [Bool.and_eq_true] at h
  obtain ⟨h1, h2, h3, h4⟩ := h
  have hv : Vis X.env.scope x := by
    unfold visB at h2
    unfold Vis
    split at h2
    · exact .inl (by assumption)
    · exact .inr (.inl (by assumption))
    · exact .inr (.inr (by assumption))
    · cases h2
  refine PE.imp (pe_var (of_decide_eq_true h1) hv (by simpa using h3) (by simpa using h4)) fun σ H Q ⟨F, ρ, m, env, r, re, h⟩ => ?_
  rw [evE] at h
  split at h
  · rename_i v hv
    obtain ⟨u, h1, h2⟩ := re.at_ i v hv
    exact ⟨u, h1, Ans.now (show Ans X.K F ρ H Q v m from h) r h2⟩
  · exact h.elim
theorem te_int {i : Int} {j : Nat} : PE X (.Constant (.int i) j pos) (TE C X.K (.cst (.int i))) :=
  PE.imp pe_int fun σ H Q ⟨F, ρ, m, env, r, re, h⟩ => Ans.int (show Ans X.K F ρ H Q (.int i) m from h) r
theorem te_bl {i : Bool} {j : Nat} : PE X (.Constant (.bool i) j pos) (TE C X.K (.cst (.bl i))) :=
  PE.imp pe_bl fun σ H Q ⟨F, ρ, m, env, r, re, h⟩ => Ans.bl (show Ans X.K F ρ H Q (.bl i) m from h) r
theorem te_non {j : Nat} : PE X (.Constant .none j pos) (TE C X.K (.cst .non)) :=
  PE.imp pe_non fun σ H Q ⟨F, ρ, m, env, r, re, h⟩ => Ans.now (show Ans X.K F ρ H Q .non m from h) r .non
theorem te_str {x : Str} {j : Nat} : PE X (.Constant (.str x) j pos) (TE C X.K (.cst (.str x))) :=
  PE.imp pe_str fun σ H Q ⟨F, ρ, m, env, r, re, h⟩ => Ans.now (show Ans X.K F ρ H Q (.str x) m from h) r (.str x)
theorem te_cst {G : Glob} {v : Val} {e : Expr} (h : ckCst G X.env.scope v e = true) : PE X e (TE C X.K (.cst v)) := by
  unfold ckCst at h
  split at h
  · split at h
    · cases of_decide_eq_true h; exact te_int
    · cases h
  · split at h
    · cases of_decide_eq_true h; exact te_bl
    · cases h
  · split at h
    · exact te_non
    · cases h
  · split at h
    · cases of_decide_eq_true h; exact te_str
    · cases h
  · cases h
theorem te_op {o : Bop} (ha : PE X a' (TE C X.K a)) (hb : PE X b' (TE C X.K b)) : PE X (.BinOp a' (trB o) b' pos) (TE C X.K (.op o a b)) := by
  refine PE.imp (pe_op (op_V o) ha hb) fun σ H Q ⟨F, ρ, m, env, r, re, h⟩ => ?_
  rw [evE, Out_bind] at h
  refine TE.run r re (h.mono (fun d m1 h1 x H1 ρ1 x1 r1 re1 d1 => ?_) fun _ _ _ z => z)
  rw [Out_bind] at h1
  refine TE.run r1 re1 (h1.mono (fun d2 m2 h2 y H2 ρ2 x2 r2 re2 dd2 => ?_) fun _ _ _ z => z)
  obtain ⟨d3, e3, a3⟩ := Out_ofO h2
  exact ⟨F, ρ2, m2, _, _, d3, r2, r2.sees (d1.on x2), r2.sees dd2, e3, a3.on (x1.trans x2)⟩
theorem te_neg (ha : PE X a' (TE C X.K a)) : PE X (.UnaryOp .USub a' pos) (TE C X.K (.neg a)) := by
  refine PE.imp (pe_un un_neg ha) fun σ H Q ⟨F, ρ, m, env, r, re, h⟩ => ?_
  rw [evE, Out_bind] at h
  refine TE.run r re (h.mono (fun d m1 h1 x H1 ρ1 x1 r1 re1 d1 => ?_) fun _ _ _ z => z)
  split at h1
  · cases d1
    exact ⟨_, rfl, Ans.int (Ans.on x1 h1) r1⟩
  · exact h1.elim
theorem cmp_step {f g : Val → Val → Option Bool} {F : Addr → Prop} {ρ ρ2 : Rho} {H H2 : Hp} {m2 : Mem} {d1 d2 : Val} {x y : V} {Q : VK} (r2 : Rel X.K F ρ2 H2 m2) (s1 : Den X.K F ρ2 H2 d1 x) (s2 : Den X.K F ρ2 H2 d2 y) {b : Bool} (e : f (rs m2 d1) (rs m2 d2) = some b) (q : Q (.bl b) H2) : rC X.K f x y H2 Q :=
  ⟨F, ρ2, m2, _, _, b, r2, r2.sees s1, r2.sees s2, e, q⟩
theorem set_mark {e : Expr} (h : notSet e = true) {op : CmpOp} : behindInMarks op e = false := by
  cases e <;> first | rfl | cases h
theorem te_cmp {o : Cop} (hu : X.A.units + 64 < cLine) (ha : PE X a' (TE C X.K a)) (hb : PE X b' (TE C X.K b)) (hm : notSet b' = true) : PE X (.Compare a' [trC o] [b'] pos) (TE C X.K (.cmp o a b)) := by
  refine PE.imp (pe_cmpR (cop_V hu o) ha hb (set_mark hm)) fun σ H Q ⟨F, ρ, m, env, r, re, h⟩ => ?_
  rw [evE, Out_bind] at h
  refine TE.run r re (h.mono (fun d m1 h1 x H1 ρ1 x1 r1 re1 d1 => ?_) fun _ _ _ z => z)
  rw [Out_bind] at h1
  refine TE.run r1 re1 (h1.mono (fun d2 m2 h2 y H2 ρ2 x2 r2 re2 dd2 => ?_) fun _ _ _ z => z)
  obtain ⟨d3, e3, a3⟩ := Out_ofO h2
  obtain ⟨k, e4, rfl⟩ := map_some e3
  exact cmp_step (g := cmpV o) (ρ := ρ) (H := H) r2 (d1.on x2) dd2 e4 (Ans.bl (a3.on (x1.trans x2)) r2)
theorem tt_cmp {o : Cop} (hu : X.A.units + 64 < cLine) (ha : PE X a' (TE C X.K a)) (hb : PE X b' (TE C X.K b)) (hm : notSet b' = true) : PT X (.Compare a' [trC o] [b'] pos) (TT C X.K (.cmp o a b)) := by
  refine PT.imp (pt_cmpR (cop_V hu o) ha hb (set_mark hm)) fun σ H Q ⟨F, ρ, m, env, r, re, h⟩ => ?_
  rw [evE, Out_bind] at h
  refine TE.run r re (h.mono (fun d m1 h1 x H1 ρ1 x1 r1 re1 d1 => ?_) fun _ _ _ z => z)
  rw [Out_bind] at h1
  refine TE.run r1 re1 (h1.mono (fun d2 m2 h2 y H2 ρ2 x2 r2 re2 dd2 => ?_) fun _ _ _ z => z)
  obtain ⟨d3, e3, a3⟩ := Out_ofO h2
  obtain ⟨k, e4, rfl⟩ := map_some e3
  exact cmp_step (g := cmpV o) (ρ := ρ) (H := H) r2 (d1.on x2) dd2 e4 (Ans.bl (a3.on (x1.trans x2)) r2)
theorem last_mark {p q : CmpOp} {b e : Expr} (h : notSet e = true) : lastMarks [p, q] [b, e] = false := by
  show behindInMarks q e = false
  exact set_mark h
theorem te_chain {o p : Cop} (hu : X.A.units + 64 < cLine) (ha : PE X a' (TE C X.K a)) (hb : PE X b' (TE C X.K b)) (hc : PE X c' (TE C X.K c)) (hm : notSet c' = true) : PE X (.Compare a' [trC o, trC p] [b', c'] pos) (TE C X.K (.chain o p a b c)) := by
  refine PE.imp (pe_chain (cop_V hu o) (cop_V hu p) ha hb hc (last_mark hm)) fun σ H Q ⟨F, ρ, m, env, r, re, h⟩ => ?_
  rw [evE, Out_bind] at h
  refine TE.run r re (h.mono (fun d m1 h1 x H1 ρ1 x1 r1 re1 d1 => ?_) fun _ _ _ z => z)
  rw [Out_bind] at h1
  refine TE.run r1 re1 (h1.mono (fun d2 m2 h2 y H2 ρ2 x2 r2 re2 dd2 => ?_) fun _ _ _ z => z)
  split at h2
  · rename_i e4
    refine cmp_step (g := cmpV o) (ρ := ρ) (H := H) r2 (d1.on x2) dd2 e4 ⟨true, rfl, ?_⟩
    refine iteT ?_
    rw [Out_bind] at h2
    refine TE.run r2 re2 (h2.mono (fun d3 m3 h3 z H3 ρ3 x3 r3 re3 dd3 => ?_) fun _ _ _ z => z)
    obtain ⟨d4, e5, a4⟩ := Out_ofO h3
    obtain ⟨k, e6, rfl⟩ := map_some e5
    exact cmp_step (g := cmpV o) (ρ := ρ) (H := H) r3 (dd2.on x3) dd3 e6 (Ans.bl (a4.on ((x1.trans x2).trans x3)) r3)
  · rename_i e4
    refine cmp_step (g := cmpV o) (ρ := ρ) (H := H) r2 (d1.on x2) dd2 e4 ⟨false, rfl, ?_⟩
    refine iteF ?_
    exact Ans.bl (Ans.on (x1.trans x2) h2) r2
  · exact h2.elim
theorem tt_chain {o p : Cop} (hu : X.A.units + 64 < cLine) (ha : PE X a' (TE C X.K a)) (hb : PE X b' (TE C X.K b)) (hc : PE X c' (TE C X.K c)) (hm : notSet c' = true) : PT X (.Compare a' [trC o, trC p] [b', c'] pos) (TT C X.K (.chain o p a b c)) := by
  refine PT.imp (pt_chain (cop_V hu o) (cop_V hu p) ha hb hc (last_mark hm)) fun σ H Q ⟨F, ρ, m, env, r, re, h⟩ => ?_
  rw [evE, Out_bind] at h
  refine TE.run r re (h.mono (fun d m1 h1 x H1 ρ1 x1 r1 re1 d1 => ?_) fun _ _ _ z => z)
  rw [Out_bind] at h1
  refine TE.run r1 re1 (h1.mono (fun d2 m2 h2 y H2 ρ2 x2 r2 re2 dd2 => ?_) fun _ _ _ z => z)
  split at h2
  · rename_i e4
    refine cmp_step (g := cmpV o) (ρ := ρ) (H := H) r2 (d1.on x2) dd2 e4 ⟨true, rfl, ?_⟩
    refine iteT ?_
    rw [Out_bind] at h2
    refine TE.run r2 re2 (h2.mono (fun d3 m3 h3 z H3 ρ3 x3 r3 re3 dd3 => ?_) fun _ _ _ z => z)
    obtain ⟨d4, e5, a4⟩ := Out_ofO h3
    obtain ⟨k, e6, rfl⟩ := map_some e5
    exact cmp_step (g := cmpV o) (ρ := ρ) (H := H) r3 (dd2.on x3) dd3 e6 (Ans.bl (a4.on ((x1.trans x2).trans x3)) r3)
  · rename_i e4
    refine cmp_step (g := cmpV o) (ρ := ρ) (H := H) r2 (d1.on x2) dd2 e4 ⟨false, rfl, ?_⟩
    refine iteF ?_
    exact Ans.bl (Ans.on (x1.trans x2) h2) r2
  · exact h2.elim
theorem and_step {σ : L2.St} {H : Hp} {Q : VK} (h : TE C X.K (.and a b) σ H Q) : tAndV (TE C X.K a) (TE C X.K b) σ H Q := by
  obtain ⟨F, ρ, m, env, r, re, h⟩ := h
  rw [evE, Out_bind] at h
  refine TE.run r re (h.mono (fun d m1 h1 x H1 ρ1 x1 r1 re1 d1 => ?_) fun _ _ _ z => z)
  split at h1
  · cases d1
    refine ⟨true, rfl, ?_⟩
    refine iteT ?_
    rw [Out_bind] at h1
    refine TE.run r1 re1 (h1.mono (fun d2 m2 h2 y H2 ρ2 x2 r2 re2 dd2 => ?_) fun _ _ _ z => z)
    split at h2
    · cases dd2
      exact Ans.bl (Ans.on (x1.trans x2) h2) r2
    · exact h2.elim
  · cases d1
    refine ⟨false, rfl, ?_⟩
    refine iteF ?_
    exact Ans.bl (Ans.on x1 h1) r1
  · exact h1.elim
theorem or_step {σ : L2.St} {H : Hp} {Q : VK} (h : TE C X.K (.or a b) σ H Q) : tOrV (TE C X.K a) (TE C X.K b) σ H Q := by
  obtain ⟨F, ρ, m, env, r, re, h⟩ := h
  rw [evE, Out_bind] at h
  refine TE.run r re (h.mono (fun d m1 h1 x H1 ρ1 x1 r1 re1 d1 => ?_) fun _ _ _ z => z)
  split at h1
  · cases d1
    refine ⟨false, rfl, ?_⟩
    refine iteF ?_
    rw [Out_bind] at h1
    refine TE.run r1 re1 (h1.mono (fun d2 m2 h2 y H2 ρ2 x2 r2 re2 dd2 => ?_) fun _ _ _ z => z)
    split at h2
    · cases dd2
      exact Ans.bl (Ans.on (x1.trans x2) h2) r2
    · exact h2.elim
  · cases d1
    refine ⟨true, rfl, ?_⟩
    refine iteT ?_
    exact Ans.bl (Ans.on x1 h1) r1
  · exact h1.elim
theorem and_stepT {σ : L2.St} {H : Hp} {Q : Bool → Hp → Prop} (h : TT C X.K (.and a b) σ H Q) : tAnd (TT C X.K a) (TT C X.K b) σ H Q := by
  obtain ⟨F, ρ, m, env, r, re, h⟩ := h
  rw [evE, Out_bind] at h
  refine TE.run r re (h.mono (fun d m1 h1 x H1 ρ1 x1 r1 re1 d1 => ?_) fun _ _ _ z => z)
  split at h1
  · cases d1
    refine ⟨true, rfl, ?_⟩
    refine iteT ?_
    rw [Out_bind] at h1
    refine TE.run r1 re1 (h1.mono (fun d2 m2 h2 y H2 ρ2 x2 r2 re2 dd2 => ?_) fun _ _ _ z => z)
    split at h2
    · cases dd2
      exact Ans.bl (Ans.on (x1.trans x2) h2) r2
    · exact h2.elim
  · cases d1
    refine ⟨false, rfl, ?_⟩
    refine iteF ?_
    obtain ⟨b, e, q⟩ := Ans.bl (Ans.on x1 h1) r1
    cases e
    exact q
  · exact h1.elim
theorem or_stepT {σ : L2.St} {H : Hp} {Q : Bool → Hp → Prop} (h : TT C X.K (.or a b) σ H Q) : tOr (TT C X.K a) (TT C X.K b) σ H Q := by
  obtain ⟨F, ρ, m, env, r, re, h⟩ := h
  rw [evE, Out_bind] at h
  refine TE.run r re (h.mono (fun d m1 h1 x H1 ρ1 x1 r1 re1 d1 => ?_) fun _ _ _ z => z)
  split at h1
  · cases d1
    refine ⟨false, rfl, ?_⟩
    refine iteF ?_
    rw [Out_bind] at h1
    refine TE.run r1 re1 (h1.mono (fun d2 m2 h2 y H2 ρ2 x2 r2 re2 dd2 => ?_) fun _ _ _ z => z)
    split at h2
    · cases dd2
      exact Ans.bl (Ans.on (x1.trans x2) h2) r2
    · exact h2.elim
  · cases d1
    refine ⟨true, rfl, ?_⟩
    refine iteT ?_
    obtain ⟨b, e, q⟩ := Ans.bl (Ans.on x1 h1) r1
    cases e
    exact q
  · exact h1.elim
theorem te_not (ha : PE X a' (TE C X.K a)) : PE X (.UnaryOp .Not a' pos) (TE C X.K (.not a)) := by
  refine PE.imp (pe_not ha) fun σ H Q ⟨F, ρ, m, env, r, re, h⟩ => ?_
  rw [evE, Out_bind] at h
  refine TE.run r re (h.mono (fun d m1 h1 x H1 ρ1 x1 r1 re1 d1 => ?_) fun _ _ _ z => z)
  split at h1
  · cases d1
    exact ⟨_, rfl, Ans.bl (Ans.on x1 h1) r1⟩
  · exact h1.elim
theorem tt_not (ha : PT X a' (TT C X.K a)) : PT X (.UnaryOp .Not a' pos) (TT C X.K (.not a)) := by
  refine PT.imp (pt_not ha) fun σ H Q ⟨F, ρ, m, env, r, re, h⟩ => ?_
  rw [evE, Out_bind] at h
  refine TE.run r re (h.mono (fun d m1 h1 x H1 ρ1 x1 r1 re1 d1 => ?_) fun _ _ _ z => z)
  split at h1
  · cases d1
    obtain ⟨b, e, q⟩ := Ans.bl (Ans.on x1 h1) r1
    cases e
    exact ⟨_, rfl, q⟩
  · exact h1.elim
theorem te_ife (hc : PT X c' (TT C X.K c)) (ha : PE X a' (TE C X.K a)) (hb : PE X b' (TE C X.K b)) : PE X (.IfExp c' a' b' pos) (TE C X.K (.ife c a b)) := by
  refine PE.imp (pe_ifExp hc ha hb) fun σ H Q ⟨F, ρ, m, env, r, re, h⟩ => ?_
  rw [evE, Out_bind] at h
  refine TE.run r re (h.mono (fun d m1 h1 x H1 ρ1 x1 r1 re1 d1 => ?_) fun _ _ _ z => z)
  split at h1
  · cases d1
    refine ⟨true, rfl, ?_⟩
    refine iteT ?_
    exact ⟨F, ρ1, m1, env, r1, re1, h1.mono (fun d m' q => Ans.on x1 q) fun _ _ _ z => z⟩
  · cases d1
    refine ⟨false, rfl, ?_⟩
    refine iteF ?_
    exact ⟨F, ρ1, m1, env, r1, re1, h1.mono (fun d m' q => Ans.on x1 q) fun _ _ _ z => z⟩
  · exact h1.elim
/-- a value that is a bool, as a test -/
theorem tt_val (ha : PE X a' (TE C X.K a)) (hp : plainT a' = true) : PT X a' (TT C X.K a) := by
  refine PT.imp (pt_val ha ?_) fun σ H Q h => h
  intro wh
  cases a' <;> first | rfl | cases hp
end
end MP
/-! MP: expressions, further. -/
namespace MP
open PySem PySem.Spec PyProof.Rows L2

/-! ### argument lists -/
theorem star_one {e : Expr} {es : List Expr} {env : PySem.Env} (h : notStar e = true) : starEach (e :: es) env = (false, eval e env) :: starEach es env := by
  cases e <;> first | rfl | cases h
theorem star_any {env : PySem.Env} {pos : Pos} : ∀ {es : List Expr}, es.all notStar = true → (backTo pos (starEach es env)).any (·.1) = false
  | [], _ => rfl
  | e :: es, h => by
    rw [List.all_cons, Bool.and_eq_true] at h
    rw [star_one h.1]
    show (false || (backTo pos (starEach es env)).any (·.1)) = false
    rw [Bool.false_or]
    exact star_any h.2
section
variable {C : Calls} {X : Cx} {a b c : Ex} {es : Exs} {a' b' c' : Expr} {es' : List Expr} {pos : Pos}
theorem ta_nil : PA X [] (TA C X.K .nil) :=
  PA.imp pa_nil fun σ H Q ⟨F, ρ, m, env, r, re, h⟩ => (show AnsL X.K F ρ H Q [] m from h) [] H ρ Ext.refl r .nil
theorem ta_cons (ha : PE X a' (TE C X.K a)) (hs : PA X es' (TA C X.K es)) (h1 : notStar a' = true) : PA X (a' :: es') (TA C X.K (.cons a es)) := by
  refine PA.imp (pa_cons ha hs (star_one h1)) fun σ H Q ⟨F, ρ, m, env, r, re, h⟩ => ?_
  rw [evs, Out_bind] at h
  refine TE.run r re (h.mono (fun d m1 h1 x H1 ρ1 x1 r1 re1 d1 => ?_) fun _ _ _ z => z)
  rw [Out_bind] at h1
  refine TA.run r1 re1 (h1.mono (fun d2 m2 h2 y H2 ρ2 x2 r2 re2 dd2 => ?_) fun _ _ _ z => z)
  exact (show AnsL X.K F ρ H Q (d :: d2) m2 from h2) _ _ ρ2 (x1.trans x2) r2 (.cons (d1.on x2) dd2)
theorem ta_star {p : Pos} (ha : PE X a' (TE C X.K a)) (hs : PA X es' (TA C X.K es)) : PA X (.Starred a' p :: es') (TA C X.K (.star a es)) := by
  refine PA.imp (StX.pa_star ha hs) fun σ H Q ⟨F, ρ, m, env, r, re, h⟩ => ?_
  rw [evs, Out_bind] at h
  refine TE.run r re (h.mono (fun d m1 h1 x H1 ρ1 x1 r1 re1 d1 => ?_) fun _ _ _ z => z)
  have sd := r1.sees d1
  split at h1
  · rename_i e
    rw [e] at sd
    obtain ⟨p, vs, rfl, h2, al⟩ := sd.lst
    refine ⟨p, vs, rfl, .inr (SqL.of h2), ?_⟩
    rw [Out_bind] at h1
    refine TA.run r1 re1 (h1.mono (fun d2 m2 h2 y H2 ρ2 x2 r2 re2 dd2 => ?_) fun _ _ _ z => z)
    exact (show AnsL X.K F ρ H Q (_ ++ d2) m2 from h2) _ _ ρ2 (x1.trans x2) r2 ((al.on x2).append dd2)
  · rename_i e
    rw [e] at sd
    obtain ⟨p, vs, rfl, h2, al⟩ := sd.tup
    refine ⟨p, vs, rfl, .inl h2, ?_⟩
    rw [Out_bind] at h1
    refine TA.run r1 re1 (h1.mono (fun d2 m2 h2 y H2 ρ2 x2 r2 re2 dd2 => ?_) fun _ _ _ z => z)
    exact (show AnsL X.K F ρ H Q (_ ++ d2) m2 from h2) _ _ ρ2 (x1.trans x2) r2 ((al.on x2).append dd2)
  · exact h1.elim
theorem te_tup {k : Nat} (hs : PA X es' (TA C X.K es)) : PE X (.Tuple es' k pos) (TE C X.K (.tup es)) := by
  refine PE.imp (pe_tup hs) fun σ H Q ⟨F, ρ, m, env, r, re, h⟩ => ?_
  rw [evE, Out_bind] at h
  refine TA.run r re (h.mono (fun d m1 h1 x H1 ρ1 x1 r1 re1 d1 => ?_) fun _ _ _ z => z)
  split at h1
  · rename_i hz
    exact ⟨by rw [← d1.length]; exact Nat.le_trans hz LL_size, Ans.newT (Ans.on x1 h1) r1 d1⟩
  · exact h1.elim
theorem te_lst {mt : Bool} (hs : PA X es' (TA C X.K es)) : PE X (.List es' pos) (TE C X.K (.lst mt es)) := by
  refine PE.imp (pe_lst hs) fun σ H Q ⟨F, ρ, m, env, r, re, h⟩ => ?_
  rw [evE, Out_bind] at h
  refine TA.run r re (h.mono (fun d m1 h1 x H1 ρ1 x1 r1 re1 d1 => ?_) fun _ _ _ z => z)
  split at h1
  · rename_i hz
    refine ⟨by rw [← d1.length]; exact Nat.le_trans hz LL_size, Ans.newL (mt := mt) (W := WF) (h1.mono (fun _ _ q => Ans.on x1 q) fun _ _ _ z => z) r1 d1⟩
  · exact h1.elim
theorem te_idx (ha : PE X a' (TE C X.K a)) (hb : PE X b' (TE C X.K b)) (hp : L2.PlainIx b') : PE X (.Subscript a' b' pos) (TE C X.K (.idx a b)) := by
  refine PE.imp (pe_ix ix_V ha hb hp) fun σ H Q ⟨F, ρ, m, env, r, re, h⟩ => ?_
  rw [evE, Out_bind] at h
  refine TE.run r re (h.mono (fun d m1 h1 x H1 ρ1 x1 r1 re1 d1 => ?_) fun _ _ _ z => z)
  rw [Out_bind] at h1
  refine TE.run r1 re1 (h1.mono (fun d2 m2 h2 y H2 ρ2 x2 r2 re2 dd2 => ?_) fun _ _ _ z => z)
  obtain ⟨d3, e3, a3⟩ := Out_ofO h2
  exact ⟨F, ρ2, m2, _, _, d3, r2, r2.sees (d1.on x2), .den dd2, e3, a3.on (x1.trans x2)⟩
theorem plain_ix (h : plainIx b' = true) : L2.PlainIx b' := by
  intro o i
  cases b' <;> first | rfl | cases h
/-- a part of a slice -/
theorem to_non : PO X none (TO C X.K .non) := ⟨fun pins s σ H Q I ⟨F, ρ, m, env, r, re, h⟩ => po_none.run pins s σ H Q I ((show AnsO X.K F ρ H Q none m from h) H ρ Ext.refl r)⟩
theorem to_som (ha : PE X a' (TE C X.K a)) : PO X (some a') (TO C X.K (.som a)) := ⟨fun pins s σ H Q I ⟨F, ρ, m, env, r, re, h⟩ => (po_some ha).run pins s σ H Q I (by
  rw [evO, Out_bind] at h
  refine TE.run r re (h.mono (fun d m1 h1 x H1 ρ1 x1 r1 re1 d1 => ?_) fun _ _ _ z => z)
  split at h1
  · cases d1
    exact ⟨_, rfl, (show AnsO X.K F ρ H Q _ m1 from h1) H1 ρ1 x1 r1⟩
  · exact h1.elim)⟩
theorem te_sl2 {lo hi : Oe} {lo' hi' : Option Expr} {p2 : Pos} (ha : PE X a' (TE C X.K a)) (hl : PO X lo' (TO C X.K lo)) (hu : PO X hi' (TO C X.K hi)) : PE X (.Subscript a' (.Slice lo' hi' none p2) pos) (TE C X.K (.sl a lo hi .non)) := by
  refine PE.imp (pe_slice sl_V ha hl hu) fun σ H Q ⟨F, ρ, m, env, r, re, h⟩ => ?_
  rw [evE, Out_bind] at h
  refine TE.run r re (h.mono (fun d m1 h1 x H1 ρ1 x1 r1 re1 d1 => ?_) fun _ _ _ z => z)
  rw [Out_bind] at h1
  refine TO.run r1 re1 (h1.mono (fun d2 m2 h2 H2 ρ2 x2 r2 re2 => ?_) fun _ _ _ z => z)
  rw [Out_bind] at h2
  refine TO.run r2 re2 (h2.mono (fun d3 m3 h3 H3 ρ3 x3 r3 re3 => ?_) fun _ _ _ z => z)
  obtain ⟨d4, e4, a4⟩ := Out_ofO h3
  exact ⟨F, ρ3, m3, _, d4, r3, r3.sees ((d1.on x2).on x3), e4, a4.on ((x1.trans x2).trans x3)⟩
theorem te_sl3 {lo hi : Oe} {lo' hi' : Option Expr} {p2 : Pos} {st : Ex} {st' : Expr} (ha : PE X a' (TE C X.K a)) (hl : PO X lo' (TO C X.K lo)) (hu : PO X hi' (TO C X.K hi)) (hs : PE X st' (TE C X.K st)) : PE X (.Subscript a' (.Slice lo' hi' (some st') p2) pos) (TE C X.K (.sl a lo hi (.som st))) := by
  refine PE.imp (pe_sl3 ha hl hu (to_som hs)) fun σ H Q ⟨F, ρ, m, env, r, re, h⟩ => ?_
  rw [evE, Out_bind] at h
  refine TE.run r re (h.mono (fun d m1 h1 x H1 ρ1 x1 r1 re1 d1 => ?_) fun _ _ _ z => z)
  rw [Out_bind] at h1
  refine TO.run r1 re1 (h1.mono (fun d2 m2 h2 H2 ρ2 x2 r2 re2 => ?_) fun _ _ _ z => z)
  rw [Out_bind] at h2
  refine TO.run r2 re2 (h2.mono (fun d3 m3 h3 H3 ρ3 x3 r3 re3 => ?_) fun _ _ _ z => z)
  have h4 : ((evE C st env m3).bind fun s m4 => (match s with | .int k => ofO (slO (rs m4 d) d2 d3 (some k)) m4 | _ => .bad)).Out (Ans X.K F ρ H Q) WF := h3
  rw [Out_bind] at h4
  refine TO.run (o := .som st) r3 re3 ?_
  rw [evO, Out_bind]
  refine h4.mono (fun d4 m4 h5 => ?_) fun _ _ _ z => z
  split at h5
  · intro H4 ρ4 x4 r4 re4
    obtain ⟨d5, e5, a5⟩ := Out_ofO h5
    exact ⟨_, rfl, F, ρ4, m4, _, d5, r4, r4.sees (((d1.on x2).on x3).on x4), e5, a5.on (((x1.trans x2).trans x3).trans x4)⟩
  · exact h5.elim
/-! ### built-in functions -/
theorem blt_name {G : Glob} {n x : Str} {p : Pos} {sc : Scope} (h : ckBlt G sc n (.Name x p) = true) : x = n ∧ sc.names.lookup x = some .globalImplicit ∧ (x == ("__debug__" : Str)) = false ∧ G.free.contains x = true := by
  have h : (decide (x = n) && (glB sc x && G.free.contains x)) = true := h
  unfold glB at h
  simp only [Bool.and_eq_true] at h
  obtain ⟨h1, ⟨h2, h3⟩, h4⟩ := h
  exact ⟨of_decide_eq_true h1, of_decide_eq_true h2, by simpa using h3, h4⟩
theorem ck_name {G : Glob} {n : Str} {sc : Scope} {g : Expr} (h : ckBlt G sc n g = true) : ∃ x p, g = .Name x p := by
  cases g <;> first | exact ⟨_, _, rfl⟩ | cases h
theorem bName_ok : ∀ b : Blt, bName b ≠ ("__name__" : Str) := by
  intro b; cases b <;> decide +kernel
theorem callB_any {id : Blt} {r : List V → Hp → VK → Prop} {e : Expr} {es : List Expr} {t : L2.TA} {x : Str} {p : Pos} (hc : CallR X (bVal id) r) (hg : Gl X x) (hm : X.mg x = none) (hx : x = bName id) (hd : (x == ("__debug__" : Str)) = false) (ha : PA X (e :: es) t) (h1 : notStar e = true) (h2 : es.all notStar = true) :
    PE X (.Call (.Name x p) (e :: es) [] pos) (tCB r t) := by
  have hn : x ≠ "__name__" := by rw [hx]; exact bName_ok id
  have hv : bootBuiltins x = some (bVal id) := by rw [hx]; exact b_boot id
  cases id with
  | len => exact pe_callB hc hg hm hv ha hn hd (star_one h1) (star_any h2)
  | abs => exact pe_callB hc hg hm hv ha hn hd (star_one h1) (star_any h2)
  | sum => exact pe_callB hc hg hm hv ha hn hd (star_one h1) (star_any h2)
  | all => exact pe_callB hc hg hm hv ha hn hd (star_one h1) (star_any h2)
  | any => exact pe_callB hc hg hm hv ha hn hd (star_one h1) (star_any h2)
  | max2 => exact pe_callB hc hg hm hv ha hn hd (star_one h1) (star_any h2)
  | min2 => exact pe_callB hc hg hm hv ha hn hd (star_one h1) (star_any h2)
  | int => exact pe_callTy hc hg hm hv ha hn hd (star_one h1) (star_any h2)
  | tuple => exact pe_callTy hc hg hm hv ha hn hd (star_one h1) (star_any h2)
  | list => exact pe_callTy hc hg hm hv ha hn hd (star_one h1) (star_any h2)
theorem one_list (ha : PE X a' (TE C X.K a)) (h1 : notStar a' = true) : PA X [a'] (tCons (TE C X.K a) tNil) := pa_cons ha pa_nil (star_one h1)
theorem te_blt {G : Glob} {id : Blt} {g : Expr} (hc : X.calm = true) (hfree : ∀ x, G.free.contains x = true → X.mg x = none) (hg : ckBlt G X.env.scope (bName id) g = true) (ha : PE X a' (TE C X.K a)) (h1 : notStar a' = true) :
    PE X (.Call g [a'] [] pos) (TE C X.K (.blt id a)) := by
  obtain ⟨x, p, rfl⟩ := ck_name hg
  obtain ⟨e1, e2, e3, e4⟩ := blt_name hg
  refine PE.imp (callB_any (id := id) (bl_V hc id) e2 (hfree x e4) e1 e3 (one_list ha h1) h1 rfl) fun σ H Q ⟨F, ρ, m, env, r, re, h⟩ => ?_
  rw [evE, Out_bind] at h
  refine TE.run r re (h.mono (fun d m1 h1 x H1 ρ1 x1 r1 re1 d1 => ?_) fun _ _ _ z => z)
  obtain ⟨d4, e4, a4⟩ := Out_ofO h1
  exact ⟨F, ρ1, m1, _, d4, x, rfl, r1, r1.sees d1, e4, a4.on x1⟩
theorem te_blt2 {G : Glob} {id : Blt} {g : Expr} (hc : X.calm = true) (hfree : ∀ x, G.free.contains x = true → X.mg x = none) (hg : ckBlt G X.env.scope (bName id) g = true) (ha : PE X a' (TE C X.K a)) (hb : PE X b' (TE C X.K b)) (h1 : notStar a' = true) (h2 : notStar b' = true) :
    PE X (.Call g [a', b'] [] pos) (TE C X.K (.blt2 id a b)) := by
  obtain ⟨x, p, rfl⟩ := ck_name hg
  obtain ⟨e1, e2, e3, e4⟩ := blt_name hg
  refine PE.imp (callB_any (id := id) (bl2_V hc id) e2 (hfree x e4) e1 e3 (pa_cons ha (one_list hb h2) (star_one h1)) h1 (by rw [List.all_cons, h2]; rfl)) fun σ H Q ⟨F, ρ, m, env, r, re, h⟩ => ?_
  rw [evE, Out_bind] at h
  refine TE.run r re (h.mono (fun d m1 h1 x H1 ρ1 x1 r1 re1 d1 => ?_) fun _ _ _ z => z)
  rw [Out_bind] at h1
  refine TE.run r1 re1 (h1.mono (fun d2 m2 h2 y H2 ρ2 x2 r2 re2 dd2 => ?_) fun _ _ _ z => z)
  obtain ⟨d4, e4, a4⟩ := Out_ofO h2
  exact ⟨F, ρ2, m2, _, _, d4, x, y, rfl, r2, d1.on x2, dd2, e4, a4.on (x1.trans x2)⟩
theorem ty_boot : ∀ t : Ty, bootBuiltins (Str.ofString (tyName t)) = some (.type (tyName t)) := by
  intro t; cases t <;> decide +kernel
theorem ty_ok : ∀ t : Ty, Str.ofString (tyName t) ≠ ("__name__" : Str) := by
  intro t; cases t <;> decide +kernel
theorem te_isi {G : Glob} {t : Ty} {g t' : Expr} (hfree : ∀ x, G.free.contains x = true → X.mg x = none) (hg : ckBlt G X.env.scope "isinstance" g = true) (ht : ckBlt G X.env.scope (Str.ofString (tyName t)) t' = true) (ha : PE X a' (TE C X.K a)) (h1 : notStar a' = true) (h2 : notStar t' = true) :
    PE X (.Call g [a', t'] [] pos) (TE C X.K (.isi a t)) := by
  obtain ⟨x, p, rfl⟩ := ck_name hg
  obtain ⟨e1, e2, e3, e4⟩ := blt_name hg
  obtain ⟨y, q, rfl⟩ := ck_name ht
  obtain ⟨f1, f2, f3, f4⟩ := blt_name ht
  subst e1
  have pt : PE X (.Name y q) (tC (.ty (tyName t))) := pe_bltn (v := V.ty (tyName t)) (u := Value.type (tyName t)) f2 (hfree y f4) (by rw [f1]; exact ty_boot t) rfl (by rw [f1]; exact ty_ok t) f3
  refine PE.imp (pe_callB call_isi e2 (hfree _ e4) boot_isinstance (pa_cons ha (pa_cons pt pa_nil (star_one h2)) (star_one h1)) (by decide +kernel) e3 (star_one h1) (star_any (by rw [List.all_cons, h2]; rfl))) fun σ H Q ⟨F, ρ, m, env, r, re, h⟩ => ?_
  rw [evE, Out_bind] at h
  refine TE.run r re (h.mono (fun d m1 h1 x H1 ρ1 x1 r1 re1 d1 => ?_) fun _ _ _ z => z)
  obtain ⟨d4, e4, a4⟩ := Out_ofO h1
  obtain ⟨k, e5, rfl⟩ := map_some e4
  obtain ⟨u, ty, hk⟩ := isi_ok (r1.sees d1) e5
  exact ⟨x, .ty (tyName t), u, _, k, rfl, .ty _, ty, hk, Ans.bl (a4.on x1) r1⟩
/-! ### methods -/
theorem few_one {cpos : Pos} {env : PySem.Env} {e : Expr} (h1 : notStar e = true) : ((backTo cpos (starEach [e] env)).all (fun x => !x.1) && (backToKw cpos (keywordEach [] env)).all (fun x => x.1.isSome)
      && decide ([e].length + ([] : List Keyword).length + (if ([] : List Keyword).isEmpty then 0 else 1) < 30)) = true := by
  rw [star_one h1]
  rfl
theorem base_name {l : Expr} (h : isName l = true) {name : Str} {env : PySem.Env} : attributeBase l name env (eval l env) = eval l env := by
  cases l <;> first | rfl | cases h
theorem memAt_some {m : Mem} {d : Val} {n : Nat} (h : memAt m d = some n) : d = .ref n ∧ ∃ xs, m[n]? = some (.lst xs) := by
  unfold memAt at h
  split at h
  · split at h
    · rename_i l _ xs e
      injection h with h
      subst h
      exact ⟨rfl, xs, e⟩
    · cases h
  · cases h
theorem te_app {l : Ex} {l' : Expr} {apos cpos : Pos} (hl : PE X l' (TE C X.K l)) (ha : PE X a' (TE C X.K a)) (hn : isName l' = true) (h1 : notStar a' = true) (hline : (apos.endLine == cpos.line) = true) : PE X (.Call (.Attribute l' "append" apos) [a'] [] cpos) (TE C X.K (.app l a)) := by
  refine PE.imp (pe_bm PySem.F.plainAttrs_list PySem.F.slot_list_append PySem.F.type_list_append mt_append hl (one_list ha h1) (base_name hn) (few_one h1) hline (star_one h1) rfl) fun σ H Q ⟨F, ρ, m, env, r, re, h⟩ => ?_
  rw [evE, Out_bind] at h
  refine TE.run r re (h.mono (fun d m1 h1 x H1 ρ1 x1 r1 re1 d1 => ?_) fun _ _ _ z => z)
  split at h1
  · exact h1.elim
  · rename_i n e
    obtain ⟨rfl, xs0, e0⟩ := memAt_some e
    refine ⟨tyV_list r1 e0 d1, ?_⟩
    rw [Out_bind] at h1
    refine TE.run r1 re1 (h1.mono (fun d2 m2 h2 y H2 ρ2 x2 r2 re2 dd2 => ?_) fun _ _ _ z => z)
    split at h2
    · rename_i xs e2
      split at h2
      · rename_i hz
        exact mt_app r2 e2 (d1.on x2) dd2 hz (Ans.on (x1.trans x2) h2)
      · exact h2.elim
    · exact h2.elim
theorem te_ext {l : Ex} {l' : Expr} {apos cpos : Pos} (hl : PE X l' (TE C X.K l)) (ha : PE X a' (TE C X.K a)) (hn : isName l' = true) (h1 : notStar a' = true) (hline : (apos.endLine == cpos.line) = true) : PE X (.Call (.Attribute l' "extend" apos) [a'] [] cpos) (TE C X.K (.ext l a)) := by
  refine PE.imp (pe_bm PySem.F.plainAttrs_list PySem.F.slot_list_extend PySem.F.type_list_extend mt_extend hl (one_list ha h1) (base_name hn) (few_one h1) hline (star_one h1) rfl) fun σ H Q ⟨F, ρ, m, env, r, re, h⟩ => ?_
  rw [evE, Out_bind] at h
  refine TE.run r re (h.mono (fun d m1 h1 x H1 ρ1 x1 r1 re1 d1 => ?_) fun _ _ _ z => z)
  split at h1
  · exact h1.elim
  · rename_i n e
    obtain ⟨rfl, xs0, e0⟩ := memAt_some e
    refine ⟨tyV_list r1 e0 d1, ?_⟩
    rw [Out_bind] at h1
    refine TE.run r1 re1 (h1.mono (fun d2 m2 h2 y H2 ρ2 x2 r2 re2 dd2 => ?_) fun _ _ _ z => z)
    split at h2
    · split at h2
      · rename_i xs e2
        split at h2
        · rename_i hz
          exact mt_ext r2 e2 (d1.on x2) dd2 hz (Ans.on (x1.trans x2) h2)
        · exact h2.elim
      · exact h2.elim
    · exact h2.elim
theorem te_rem {l : Ex} {l' : Expr} {apos cpos : Pos} (hu : X.A.units + 100 < cLine) (hl : PE X l' (TE C X.K l)) (ha : PE X a' (TE C X.K a)) (hn : isName l' = true) (h1 : notStar a' = true) (hline : (apos.endLine == cpos.line) = true) : PE X (.Call (.Attribute l' "remove" apos) [a'] [] cpos) (TE C X.K (.rem l a)) := by
  refine PE.imp (pe_bm PySem.F.plainAttrs_list PySem.F.slot_list_remove PySem.F.type_list_remove (mt_rem hu) hl (one_list ha h1) (base_name hn) (few_one h1) hline (star_one h1) rfl) fun σ H Q ⟨F, ρ, m, env, r, re, h⟩ => ?_
  rw [evE, Out_bind] at h
  refine TE.run r re (h.mono (fun d m1 h1 x H1 ρ1 x1 r1 re1 d1 => ?_) fun _ _ _ z => z)
  split at h1
  · exact h1.elim
  · rename_i n e
    obtain ⟨rfl, xs0, e0⟩ := memAt_some e
    refine ⟨tyV_list r1 e0 d1, ?_⟩
    rw [Out_bind] at h1
    refine TE.run r1 re1 (h1.mono (fun d2 m2 h2 y H2 ρ2 x2 r2 re2 dd2 => ?_) fun _ _ _ z => z)
    split at h2
    · rename_i xs e2
      split at h2
      · rename_i ys hz
        exact ⟨F, ρ2, m2, n, xs, ys, d2, y, rfl, r2, e2, d1.on x2, dd2, hz, Ans.on (x1.trans x2) h2⟩
      · exact h2.elim
    · exact h2.elim
theorem te_frz (ha : PE X a' (TE C X.K a)) : PE X a' (TE C X.K (.frz a)) := by
  refine PE.imp ha fun σ H Q ⟨F, ρ, m, env, r, re, h⟩ => ?_
  rw [evE, Out_bind] at h
  refine TE.run r re (h.mono (fun d m1 h1 x H1 ρ1 x1 r1 re1 d1 => ?_) fun _ _ _ z => z)
  split at h1
  · split at h1
    · rename_i n _ xs e
      exact (show Ans X.K F ρ H Q (.lst xs) (m1.set n .dead) from h1) x H1 (ρ1.set n none) (x1.trans Ext.freeze) r1.freeze (Den.frozen r1 e d1)
    · exact h1.elim
  · exact h1.elim
/-! ### calls of own functions -/
/-- what a def promises: what its run says -/
def spF (K : PySem.W.Frag) (C : Calls) (f n : Nat) : Sp := fun vs H Q _ => vs.length = n ∧ ∃ F ρ m as, Rel K F ρ H m ∧ DenAll K F ρ H as vs ∧ (C.run f as m).Out (Ans K F ρ H Q) WF
structure FnK (X : Cx) (C : Calls) (k : Nat) (x : Str) (f : Nat) : Prop where
  ex : ∃ fa fd ps, X.mg x = some (.ref fa) ∧ PySem.W.keepIn X.K (.ref fa) = true ∧ Binds X.K fd ps [] ∧ FnOk X.prog X.w X.K X.mg X.base CX0 k fa fd ps (spF X.K C f ps.length) ∧ (∀ as m, as.length ≠ ps.length → C.run f as m = .bad)
end
mutual
theorem Den.snap {K : PySem.W.Frag} {F F' : Addr → Prop} {ρ ρ' : Rho} {H : Hp} (hf : ∀ a, ¬ F a → ¬ Al ρ a → ¬ F' a ∧ ¬ Al ρ' a) : ∀ {d : Val} {v : V}, noRef d = true → Den K F ρ H d v → Den K F' ρ' H d v
  | _, _, _, .non => .non
  | _, _, _, .bl b => .bl b
  | _, _, _, .int i => .int i
  | _, _, _, .str x => .str x
  | _, _, hn, .tup h t => .tup h (DenAll.snap hf hn t)
  | _, _, hn, .lst h n f t => .lst h (hf _ f n).2 (hf _ f n).1 (DenAll.snap hf hn t)
  | _, _, _, .scr h => .scr h
theorem DenAll.snap {K : PySem.W.Frag} {F F' : Addr → Prop} {ρ ρ' : Rho} {H : Hp} (hf : ∀ a, ¬ F a → ¬ Al ρ a → ¬ F' a ∧ ¬ Al ρ' a) : ∀ {ds : List Val} {vs : List V}, noRefs ds = true → DenAll K F ρ H ds vs → DenAll K F' ρ' H ds vs
  | _, _, _, .nil => .nil
  | d :: ds, _, hn, .cons h t => by
    have hn' : (noRef d && noRefs ds) = true := hn
    rw [Bool.and_eq_true] at hn'
    exact .cons (Den.snap hf hn'.1 h) (DenAll.snap hf hn'.2 t)
end
mutual
theorem Den.flat {K : PySem.W.Frag} {F F' : Addr → Prop} {ρ ρ' : Rho} {H : Hp} : ∀ {d : Val} {v : V}, noLst d = true → Den K F ρ H d v → Den K F' ρ' H d v
  | _, _, _, .non => .non
  | _, _, _, .bl b => .bl b
  | _, _, _, .int i => .int i
  | _, _, _, .str x => .str x
  | _, _, hn, .tup h t => .tup h (DenAll.flat hn t)
  | _, _, hn, .lst _ _ _ _ => by cases hn
  | _, _, hn, .scr _ => by cases hn
  | _, _, hn, .ref _ _ => by cases hn
theorem DenAll.flat {K : PySem.W.Frag} {F F' : Addr → Prop} {ρ ρ' : Rho} {H : Hp} : ∀ {ds : List Val} {vs : List V}, noLsts ds = true → DenAll K F ρ H ds vs → DenAll K F' ρ' H ds vs
  | _, _, _, .nil => .nil
  | d :: ds, _, hn, .cons h t => by
    have hn' : (noLst d && noLsts ds) = true := hn
    rw [Bool.and_eq_true] at hn'
    exact .cons (Den.flat hn'.1 h) (DenAll.flat hn'.2 t)
end
section
variable {K : PySem.W.Frag} {F F' : Addr → Prop} {ρ ρ' : Rho} {H H' : Hp} {m m' : Mem}
theorem al_nil {a : Addr} : ¬ Al [] a := fun h => nomatch h
theorem Rel.push (r : Rel K F ρ H m) {p : Addr} {ds : List Val} {xs : List V} (hp : H p = none) (x : Ext D0 ρ H (ρ ++ [some p]) H') (kp : ∀ b o, H b = some o → H' b = some o) (hq : H' p = some (.lst xs)) (h : DenAll K F (ρ ++ [some p]) H' ds xs) :
    Rel K F (ρ ++ [some p]) H' (m ++ [.lst ds]) where
  len := by simp [r.len]
  inj := fun i j a h1 h2 => (r.grow (ds := []) (xs := []) hp .nil).inj i j a h1 h2
  obj := fun i a e => by
    by_cases hi : i < ρ.length
    · rw [List.getElem?_append_left hi] at e
      obtain ⟨ds', xs', h1, h2, h3⟩ := r.obj i a e
      have hm : i < m.length := by rw [← r.len]; exact hi
      exact ⟨ds', xs', by rw [List.getElem?_append_left hm]; exact h1, kp _ _ h2, h3.on x⟩
    · have e' := e
      rw [List.getElem?_append_right (by omega)] at e
      have ea := List.mem_of_getElem? e
      have ea : a = p := by simpa using ea
      obtain ⟨k1, _⟩ := List.getElem?_eq_some_iff.mp e'
      have hk : i = m.length := by rw [← r.len]; simp at k1; omega
      subst hk
      exact ⟨ds, xs, by simp, by rw [ea]; exact hq, h⟩
  liv := fun i ds' e => by
    by_cases hi : i < m.length
    · rw [List.getElem?_append_left hi] at e
      obtain ⟨a, ha⟩ := r.liv i ds' e
      exact ⟨a, by rw [List.getElem?_append_left (by rw [r.len]; exact hi)]; exact ha⟩
    · obtain ⟨k1, _⟩ := List.getElem?_eq_some_iff.mp e
      have hk : i = ρ.length := by rw [r.len]; simp at k1; omega
      exact ⟨p, by rw [hk]; simp⟩
  fa := fun a f z => r.fa a f (x.dom a z)
  fal := fun a f z => by
    rcases List.mem_append.mp z with y | y
    · exact r.fal a f y
    · have e : a = p := by simpa using y
      exact r.fa a f (by rw [e]; exact hp)
/-- behind a call with a memory of its own -/
theorem Ext.back (x : Ext D0 [] H ρ' H') : Ext D0 ρ H ρ H' ∧ ∀ b o, H b = some o → H' b = some o :=
  have kp : ∀ b o, H b = some o → H' b = some o := fun b o h => x.keep b o h al_nil fun z => z
  ⟨⟨Nat.le_refl _, fun _ _ _ h => h, fun a h n => (n h).elim, fun a o h _ _ => kp a o h, fun a o h _ => kp a o h, x.dom⟩, kp⟩
theorem rs_noRef {d : Val} (h : noRef d = true) : rs m d = d := by
  cases d <;> first | rfl | cases h
theorem snaps_noRef : ∀ {as bs : List Val}, noRefs as = true → snaps m as = some bs → bs = as
  | [], _, _, h => (Option.some.inj h).symm
  | a :: as, bs, hn, h => by
    have hn' : (noRef a && noRefs as) = true := hn
    rw [Bool.and_eq_true] at hn'
    unfold snaps at h
    split at h
    · rename_i w ws e1 e2
      injection h with h
      subst h
      rw [snaps_noRef hn'.2 e2]
      unfold snap at e1
      rw [rs_noRef hn'.1, if_pos hn'.1] at e1
      rw [Option.some.inj e1]
    · cases h
theorem snap_den (r : Rel K F ρ H m) {d w : Val} {v : V} (h : snap m d = some w) (dn : Den K F ρ H d v) : Den K F [] H w v := by
  unfold snap at h
  split at h
  · rename_i hn
    injection h with h
    subst h
    have sn := r.sees dn
    generalize hg : rs m d = g at sn hn
    cases sn with
    | den q => exact Den.snap (fun a f _ => ⟨f, al_nil⟩) hn q
    | mem q1 q2 =>
      rename_i a xs ds
      refine .lst q1 al_nil (fun f => ?_) (q2.snap (fun a f _ => ⟨f, al_nil⟩) hn)
      cases d with
      | ref l =>
        have e' : (match m[l]? with | some (.lst xs) => Val.lst xs | _ => .ref l) = .lst ds := hg
        cases hm : m[l]? with
        | none => rw [hm] at e'; cases e'
        | some o =>
          cases o with
          | dead => rw [hm] at e'; cases e'
          | lst ys =>
            obtain ⟨b, zs, e3, h1, _, _⟩ := r.lst hm dn
            cases e3
            exact r.fal a f (Al.of h1)
      | lst ys =>
        cases dn with
        | lst _ _ f' _ => exact f' f
      | _ => cases hg
  · cases h
theorem snaps_den (r : Rel K F ρ H m) : ∀ {as bs : List Val} {vs : List V}, snaps m as = some bs → DenAll K F ρ H as vs → DenAll K F [] H bs vs
  | [], _, _, h, .nil => by cases h; exact .nil
  | a :: as, bs, _, h, .cons h1 h2 => by
    unfold snaps at h
    split at h
    · rename_i w ws e1 e2
      injection h with h
      subst h
      exact .cons (snap_den r e1 h1) (snaps_den r e2 h2)
    · cases h
theorem snaps_len : ∀ {as bs : List Val}, snaps m as = some bs → bs.length = as.length
  | [], _, h => by cases h; rfl
  | a :: as, bs, h => by
    unfold snaps at h
    split at h
    · rename_i w ws e1 e2
      injection h with h
      subst h
      exact congrArg (· + 1) (snaps_len e2)
    · cases h
/-- the hidden: what the caller may change -/
def hid (as : List Val) (F : Addr → Prop) (ρ : Rho) : Addr → Prop := fun a => F a ∨ (noRefs as = true ∧ Al ρ a)
theorem pcall_ok {C : Calls} {th : Bool} {f : Nat} {as : List Val} {vs : List V} {Q : VK} {n : Nat} (hn : ∀ as m, as.length ≠ n → C.run f as m = .bad) (r : Rel K F ρ H m) (dn : DenAll K F ρ H as vs) (h : (pcallR C th f as m).Out (Ans K F ρ H Q) WF) (E : XK) : spF K C f n vs H Q E := by
  unfold pcallR at h
  split at h
  · exact h.elim
  · rename_i bs hb
    have hl : vs.length = n := by
      refine Classical.byContradiction fun z => ?_
      rw [hn bs [] (by rw [snaps_len hb, dn.length]; exact z)] at h
      exact h
    refine ⟨hl, hid as F ρ, [], [], bs, ⟨rfl, fun _ _ _ h => by simp at h, fun _ _ h => by simp at h, fun _ _ h => by simp at h, fun a z => ?_, fun a _ => al_nil⟩, ?_, ?_⟩
    · rcases z with z | ⟨_, z⟩
      · exact r.fa a z
      · obtain ⟨xs, e⟩ := r.al z
        rw [e]; exact fun z => nomatch z
    · by_cases ha : noRefs as = true
      · rw [snaps_noRef ha hb]
        exact dn.snap (fun a f nl => ⟨fun z => z.elim f fun z => nl z.2, al_nil⟩) ha
      · exact (snaps_den r hb dn).snap (fun a f _ => ⟨fun z => z.elim f fun z => ha z.1, al_nil⟩) (by
          clear h dn r hl
          induction as generalizing bs with
          | nil => exact (ha rfl).elim
          | cons a as ih =>
            unfold snaps at hb
            split at hb
            · rename_i w ws e1 e2
              injection hb with hb
              subst hb
              show (noRef w && noRefs ws) = true
              have hw : noRef w = true := by
                unfold snap at e1
                split at e1
                · rename_i q; injection e1 with e1; subst e1; exact q
                · cases e1
              rw [hw, Bool.true_and]
              by_cases hs : noRefs as = true
              · rw [snaps_noRef hs e2]; exact hs
              · exact ih ws e2 hs
            · cases hb)
    · cases hr : C.run f bs [] with
      | bad => rw [hr] at h; exact h.elim
      | ex c v m1 =>
        rw [hr] at h
        have h : (if noRef v && (noRefs as || noLst v) then R.ex c v m else (.bad : R Val)).Out (Ans K F ρ H Q) WF := h
        split at h <;> exact h.elim
      | ok rv m1 =>
        rw [hr] at h
        intro v' H' ρ' x r' dv
        obtain ⟨xb, kp⟩ := Ext.back (ρ := ρ) x
        cases th with
        | true =>
          have h : (match rv with
            | Val.ref l => (match m1[l]? with
              | some (MO.lst xs) => if noLsts xs then R.ok (Val.ref m.length) (m ++ [MO.lst xs]) else .bad
              | _ => .bad)
            | _ => (.bad : R Val)).Out (Ans K F ρ H Q) WF := h
          split at h
          · split at h
            · rename_i l xs hm
              split at h
              · rename_i hx
                obtain ⟨a, ys, rfl, h1, h2, h3⟩ := r'.lst hm dv
                have ha : H a = none := x.new a (Al.of h1) al_nil
                have xe : Ext D0 ρ H (ρ ++ [some a]) H' := ⟨by simp, fun i b hi e => by rw [List.getElem?_append_left hi] at e; exact e, fun b z nl => by
                  rcases List.mem_append.mp z with y | y
                  · exact (nl y).elim
                  · have e : b = a := by simpa using y
                    rw [e]; exact ha, fun b o e _ _ => kp b o e, fun b o e _ => kp b o e, x.dom⟩
                refine (show Ans K F ρ H Q (.ref m.length) (m ++ [.lst xs]) from h) _ H' (ρ ++ [some a]) xe (r.push ha xe kp h2 (h3.flat hx)) ?_
                rw [← r.len]
                exact .ref (by simp) fun b e => by
                  have e : some a = some b := by simpa using e
                  exact Option.some.inj e
              · exact h.elim
            · exact h.elim
          · exact h.elim
        | false =>
          have h : (match snap m1 rv with
            | some v => if noRefs as || noLst v then R.ok v m else .bad
            | none => .bad).Out (Ans K F ρ H Q) WF := h
          split at h
          · rename_i v2 hs
            split at h
            · rename_i hc
              refine (show Ans K F ρ H Q v2 m from h) v' H' ρ xb (r.same xb kp) ?_
              by_cases ha : noRefs as = true
              · have hn2 : noRef v2 = true := by
                  unfold snap at hs
                  split at hs
                  · rename_i q; injection hs with hs; subst hs; exact q
                  · cases hs
                -- the list at the top may be the callee's own
                unfold snap at hs
                rw [if_pos (by
                  split at hs
                  · rename_i q; exact q
                  · cases hs)] at hs
                injection hs with hs
                subst hs
                have sn := r'.sees dv
                have hfl : ∀ a, ¬ hid as F ρ a → ¬ Al ρ' a → ¬ F a ∧ ¬ Al ρ a := fun a f _ => ⟨fun z => f (.inl z), fun z => f (.inr ⟨ha, z⟩)⟩
                generalize hg : rs m1 rv = g at sn hn2
                cases sn with
                | den q => exact q.snap hfl hn2
                | mem q1 q2 =>
                  rename_i a ys ds
                  have hfree : ¬ F a ∧ ¬ Al ρ a := by
                    cases rv with
                    | ref l =>
                      have e' : (match m1[l]? with | some (.lst xs) => Val.lst xs | _ => .ref l) = .lst ds := hg
                      cases hm : m1[l]? with
                      | none => rw [hm] at e'; cases e'
                      | some o =>
                        cases o with
                        | dead => rw [hm] at e'; cases e'
                        | lst zs =>
                          obtain ⟨b, ws, e3, h1, _, _⟩ := r'.lst hm dv
                          cases e3
                          have hz : H a = none := x.new a (Al.of h1) al_nil
                          exact ⟨r.not_f hz, r.not_al hz⟩
                    | lst zs =>
                      cases dv with
                      | lst _ n f _ => exact hfl _ f n
                    | _ => cases hg
                  exact .lst q1 hfree.2 hfree.1 (q2.snap hfl hn2)
              · have hl2 : noLst v2 = true := by
                  rw [Bool.or_eq_true] at hc
                  rcases hc with z | z
                  · exact absurd z ha
                  · exact z
                unfold snap at hs
                split at hs
                · injection hs with hs
                  subst hs
                  have sn := r'.sees dv
                  generalize hg : rs m1 rv = g at sn hl2
                  cases sn with
                  | den q => exact q.flat hl2
                  | mem _ _ => cases hl2
                · cases hs
            · exact h.elim
          · exact h.elim
end
section
variable {C : Calls} {X : Cx} {es : Exs} {es' : List Expr} {pos : Pos}
theorem fn_name {G : Glob} {f : Nat} {sc : Scope} {g : Expr} (h : ckFn G sc f g = true) : ∃ x p, g = .Name x p ∧ sc.names.lookup x = some .globalImplicit ∧ (x == ("__debug__" : Str)) = false ∧ G.fns.lookup x = some f := by
  unfold ckFn at h
  split at h
  · unfold glB at h
    simp only [Bool.and_eq_true] at h
    exact ⟨_, _, rfl, of_decide_eq_true h.1.1, by simpa using h.1.2, of_decide_eq_true h.2⟩
  · cases h
theorem call_any {k : Nat} {x : Str} {p : Pos} {t : L2.TA} {fa : Addr} {fd : FuncData} {ps : List Str} {sp : Sp} (F : FnOk X.prog X.w X.K X.mg X.base CX0 k fa fd ps sp) (hr : Room k X.A) (hg : Gl X x) (hm : X.mg x = some (.ref fa)) (hk : PySem.W.keepIn X.K (.ref fa) = true) (hb : Binds X.K fd ps [])
    (hd : (x == ("__debug__" : Str)) = false) (ha : PA X es' t) (h2 : es'.all notStar = true) (h0 : es' = [] → ∀ σ H Q, t σ H Q → Q [] H) : PE X (.Call (.Name x p) es' [] pos) (fun σ H Q => t σ H fun vs H1 => sp vs H1 Q E0) := by
  cases es' with
  | nil =>
    refine PE.imp (pe_call0 F hr hg hm hk hb .nil pass0 hd) fun σ H Q h => ?_
    exact h0 rfl σ H _ h
  | cons e es =>
    rw [List.all_cons, Bool.and_eq_true] at h2
    refine PE.imp (pe_call F hr hg hm hk hb .nil pass0 ha hd (star_one h2.1) (star_any h2.2)) fun σ H Q h => ?_
    show t σ H fun vs H1 => sp (vs ++ []) H1 Q E0
    simpa only [List.append_nil] using h
theorem evs_nil {G : Glob} {N : List Str} {sc : Scope} (h : ckEs G N es sc [] = true) : es = .nil := by
  cases es <;> first | rfl | cases h
theorem te_pcall {G : Glob} {k : Nat} {th : Bool} {f : Nat} {g : Expr} {N : List Str} (hr : Room k X.A) (hF : ∀ x f, G.fns.lookup x = some f → FnK X C k x f) (hg : ckFn G X.env.scope f g = true) (ha : PA X es' (TA C X.K es)) (h2 : es'.all notStar = true) (hc : ckEs G N es X.env.scope es' = true) :
    PE X (.Call g es' [] pos) (TE C X.K (.pcall th f es)) := by
  obtain ⟨x, p, rfl, g1, g2, g3⟩ := fn_name hg
  obtain ⟨fa, fd, ps, e1, e2, e3, e4, e5⟩ := (hF x f g3).ex
  refine PE.imp (call_any (p := p) e4 hr g1 e1 e2 e3 g2 ha h2 (fun e σ H Q h => ?_)) fun σ H Q ⟨F, ρ, m, env, r, re, h⟩ => ?_
  · subst e
    obtain ⟨F, ρ, m, env, r, re, h⟩ := h
    rw [evs_nil hc] at h
    exact (show AnsL X.K F ρ H Q [] m from h) [] H ρ Ext.refl r .nil
  · rw [evE, Out_bind] at h
    refine TA.run r re (h.mono (fun d m1 h1 x H1 ρ1 x1 r1 re1 d1 => ?_) fun _ _ _ z => z)
    exact pcall_ok (Q := Q) e5 r1 d1 (h1.mono (fun _ _ q => Ans.on x1 q) fun _ _ _ z => z) E0
theorem te_mcall {G : Glob} {k : Nat} {f : Nat} {g : Expr} {N : List Str} (hr : Room k X.A) (hF : ∀ x f, G.fns.lookup x = some f → FnK X C k x f) (hg : ckFn G X.env.scope f g = true) (ha : PA X es' (TA C X.K es)) (h2 : es'.all notStar = true) (hc : ckEs G N es X.env.scope es' = true) :
    PE X (.Call g es' [] pos) (TE C X.K (.mcall f es)) := by
  obtain ⟨x, p, rfl, g1, g2, g3⟩ := fn_name hg
  obtain ⟨fa, fd, ps, e1, e2, e3, e4, e5⟩ := (hF x f g3).ex
  refine PE.imp (call_any (p := p) e4 hr g1 e1 e2 e3 g2 ha h2 (fun e σ H Q h => ?_)) fun σ H Q ⟨F, ρ, m, env, r, re, h⟩ => ?_
  · subst e
    obtain ⟨F, ρ, m, env, r, re, h⟩ := h
    rw [evs_nil hc] at h
    exact (show AnsL X.K F ρ H Q [] m from h) [] H ρ Ext.refl r .nil
  · rw [evE, Out_bind] at h
    refine TA.run r re (h.mono (fun d m1 h1 vs H1 ρ1 x1 r1 re1 d1 => ?_) fun _ _ _ z => z)
    refine ⟨Classical.byContradiction fun z => ?_, F, ρ1, m1, d, r1, d1, h1.mono (fun _ _ q => Ans.on x1 q) fun _ _ _ z => z⟩
    rw [e5 d m1 (by rw [d1.length]; exact z)] at h1
    exact h1
/-! ### list(range(..)) -/
theorem rng_den {K : PySem.W.Frag} {F : Addr → Prop} {ρ : Rho} {H : Hp} (lo : Int) (n : Nat) : DenAll K F ρ H (rngL lo n) ((List.range n).map fun k : Nat => V.int (lo + (k : Int))) := by
  have h := DenAll.ints (K := K) (F := F) (ρ := ρ) (H := H) ((List.range n).map fun k : Nat => lo + (k : Int))
  rw [List.map_map, List.map_map] at h
  exact h
theorem rng_ok {i : Int} (h : rngOk i = true) : -1000000 ≤ i ∧ i ≤ 1000000 := by
  unfold rngOk at h
  rw [Bool.and_eq_true] at h
  exact ⟨of_decide_eq_true h.1, of_decide_eq_true h.2⟩
theorem rng1V_some {d : Val} {vs : List Val} (h : rng1V d = some vs) : ∃ j, d = .int j ∧ rngOk j = true ∧ vs = rngL 0 j.toNat := by
  unfold rng1V at h
  split at h
  · split at h
    · exact ⟨_, rfl, by assumption, (Option.some.inj h).symm⟩
    · cases h
  · cases h
theorem rng2V_some {d e : Val} {vs : List Val} (h : rng2V d e = some vs) : ∃ i j, d = .int i ∧ e = .int j ∧ rngOk i = true ∧ rngOk j = true ∧ vs = rngL i (j - i).toNat := by
  unfold rng2V at h
  split at h
  · split at h
    · rename_i hc
      rw [Bool.and_eq_true] at hc
      exact ⟨_, _, rfl, rfl, hc.1, hc.2, (Option.some.inj h).symm⟩
    · cases h
  · cases h
theorem rng3V_some {d e f : Val} {vs : List Val} (h : rng3V d e f = some vs) : ∃ i j, d = .int i ∧ e = .int j ∧ f = .int (-1) ∧ rngOk i = true ∧ rngOk j = true ∧ vs = (List.range (i - j).toNat).map fun k => Val.int (i - (k : Nat)) := by
  unfold rng3V at h
  split at h
  · split at h
    · rename_i hc
      rw [Bool.and_eq_true, Bool.and_eq_true] at hc
      have hk := of_decide_eq_true hc.2.2
      subst hk
      exact ⟨_, _, rfl, rfl, rfl, hc.1, hc.2.1, (Option.some.inj h).symm⟩
    · cases h
  · cases h
theorem te_lq1 {G : Glob} {mt : Bool} {a : Ex} {a' g g2 : Expr} {p2 : Pos} (hc : X.calm = true) (hfree : ∀ x, G.free.contains x = true → X.mg x = none) (h1 : ckBlt G X.env.scope "list" g = true) (h2 : ckBlt G X.env.scope "range" g2 = true) (hn : notStar a' = true) (ha : PE X a' (TE C X.K a)) :
    PE X (.Call g [.Call g2 [a'] [] p2] [] pos) (TE C X.K (.lq mt (.rng1 a))) := by
  obtain ⟨x, p, rfl⟩ := ck_name h1
  obtain ⟨y, q, rfl⟩ := ck_name h2
  obtain ⟨e1, e2, e3, e4⟩ := blt_name h1
  obtain ⟨f1, f2, f3, f4⟩ := blt_name h2
  subst e1 f1
  refine PE.imp (pe_listRg hc e2 (hfree _ e4) (prg_1 f2 (hfree _ f4) ha (star_one hn)) rfl) fun σ H Q ⟨F, ρ, m, env, r, re, h⟩ => ?_
  rw [evE, evQ, Out_bind, Out_bind] at h
  refine TE.run r re (h.mono (fun d m1 h1 x H1 ρ1 x1 r1 re1 d1 => ?_) fun _ _ _ z => z)
  have h1 : ((ofO (rng1V d) m1).Out (fun vs m2 => (newL mt vs m2).Out (Ans X.K F ρ H Q) WF) WF) := h1
  obtain ⟨vs, e5, h3⟩ := Out_ofO h1
  obtain ⟨j, rfl, hj, rfl⟩ := rng1V_some e5
  · obtain ⟨j1, j2⟩ := rng_ok hj
    cases d1
    refine ⟨j, rfl, ⟨by omega, by omega, by omega, by omega, by omega⟩, ?_⟩
    have al := rng_den (K := X.K) (F := F) (ρ := ρ1) (H := H1) 0 j.toNat
    have e6 : rgV 0 j = (List.range j.toNat).map fun k : Nat => V.int (0 + (k : Int)) := by unfold rgV; rw [Int.sub_zero]
    rw [e6]
    exact Ans.newL (mt := mt) (W := WF) (h3.mono (fun _ _ q => Ans.on x1 q) fun _ _ _ z => z) r1 al
theorem te_lq2 {G : Glob} {mt : Bool} {a b : Ex} {a' b' g g2 : Expr} {p2 : Pos} (hc : X.calm = true) (hfree : ∀ x, G.free.contains x = true → X.mg x = none) (h1 : ckBlt G X.env.scope "list" g = true) (h2 : ckBlt G X.env.scope "range" g2 = true) (hn : notStar a' = true) (hn2 : notStar b' = true) (ha : PE X a' (TE C X.K a)) (hb : PE X b' (TE C X.K b)) :
    PE X (.Call g [.Call g2 [a', b'] [] p2] [] pos) (TE C X.K (.lq mt (.rng2 a b))) := by
  obtain ⟨x, p, rfl⟩ := ck_name h1
  obtain ⟨y, q, rfl⟩ := ck_name h2
  obtain ⟨e1, e2, e3, e4⟩ := blt_name h1
  obtain ⟨f1, f2, f3, f4⟩ := blt_name h2
  subst e1 f1
  refine PE.imp (pe_listRg hc e2 (hfree _ e4) (prg_2 f2 (hfree _ f4) ha hb (star_one hn) (star_one hn2) (star_any (by rw [List.all_cons, hn2]; rfl))) rfl) fun σ H Q ⟨F, ρ, m, env, r, re, h⟩ => ?_
  rw [evE, evQ, Out_bind, Out_bind] at h
  refine TE.run r re (h.mono (fun d m1 h1 x H1 ρ1 x1 r1 re1 d1 => ?_) fun _ _ _ z => z)
  rw [Out_bind] at h1
  refine TE.run r1 re1 (h1.mono (fun d2 m2 h2 y H2 ρ2 x2 r2 re2 dd2 => ?_) fun _ _ _ z => z)
  have h2 : ((ofO (rng2V d d2) m2).Out (fun vs m2 => (newL mt vs m2).Out (Ans X.K F ρ H Q) WF) WF) := h2
  obtain ⟨vs, e5, h3⟩ := Out_ofO h2
  obtain ⟨i, j, rfl, rfl, hi, hj, rfl⟩ := rng2V_some e5
  · obtain ⟨i1, i2⟩ := rng_ok hi
    obtain ⟨j1, j2⟩ := rng_ok hj
    cases d1
    cases dd2
    refine ⟨i, j, rfl, rfl, ⟨by omega, by omega, by omega, by omega, by omega⟩, ?_⟩
    exact Ans.newL (mt := mt) (W := WF) (h3.mono (fun _ _ q => Ans.on (x1.trans x2) q) fun _ _ _ z => z) r2 (rng_den i (j - i).toNat)
end

/-! ### what is walked -/
section
variable {C : Calls} {X : Cx} {a : Ex} {a' tg : Expr} {es : Exs} {es' : List Expr} {pos : Pos}
theorem PI.imp {tg i : Expr} {t t' : L2.TI} (h : PI X tg i t) (ht : ∀ σ H R, t' σ H R → t σ H R) : PI X tg i t' := ⟨fun pins s σ H R I q => h.run pins s σ H R I (ht _ _ _ q)⟩
theorem LLs {n : Nat} (h : n ≤ 2000000) : n ≤ sizeLine := by rw [sizeLine_eq]; omega
/-- the lists of the heap are no longer than the line -/
theorem seq_len {pins : List (Addr × Obj)} {σ : L2.St} {H : Hp} {s : Shared} {k : Bool} {p : Addr} {xs : List V} (I : Inv X pins σ H s) (h : SqK k X.K H p xs) : xs.length ≤ sizeLine := by
  obtain ⟨_, _, _, z⟩ := seq_of I h
  exact z
theorem tq_of (ha : PE X a' (TE C X.K a)) : PI X tg a' (TQ C X.K (.of a)) := by
  refine PI.imp (pi_seq ha) fun σ H R ⟨F, ρ, m, env, r, re, h⟩ => ?_
  rw [evQ, Out_bind] at h
  refine TE.run r re (h.mono (fun d m1 h1 x H1 ρ1 x1 r1 re1 d1 => ?_) fun _ _ _ z => z)
  obtain ⟨ds, e1, h2⟩ := Out_ofO h1
  obtain ⟨k, p, xs, rfl, hf, al⟩ := frz_of e1 d1
  exact ⟨k, p, xs, rfl, hf.sq, fun hz => h2 _ H1 ρ1 x1 r1 (wk_seq hf al) (by rw [al.length]; exact hz)⟩
theorem two_list {b : Ex} {b' : Expr} (ha : PE X a' (TE C X.K a)) (hb : PE X b' (TE C X.K b)) (h1 : notStar a' = true) (h2 : notStar b' = true) : PA X [a', b'] (tCons (TE C X.K a) (tCons (TE C X.K b) tNil)) := pa_cons ha (one_list hb h2) (star_one h1)
theorem tq_rng1 {G : Glob} {g : Expr} (hfree : ∀ x, G.free.contains x = true → X.mg x = none) (h1 : ckBlt G X.env.scope "range" g = true) (ha : PE X a' (TE C X.K a)) (hn : notStar a' = true) : PI X tg (.Call g [a'] [] pos) (TQ C X.K (.rng1 a)) := by
  obtain ⟨x, p, rfl⟩ := ck_name h1
  obtain ⟨e1, e2, e3, e4⟩ := blt_name h1
  subst e1
  refine PI.imp (pi_range1 e2 (hfree _ e4) (one_list ha hn) (star_one hn)) fun σ H R ⟨F, ρ, m, env, r, re, h⟩ => ?_
  rw [evQ, Out_bind] at h
  refine TE.run r re (h.mono (fun d m1 h1 x H1 ρ1 x1 r1 re1 d1 => ?_) fun _ _ _ z => z)
  obtain ⟨vs, e5, h3⟩ := Out_ofO h1
  obtain ⟨j, rfl, hj, rfl⟩ := rng1V_some e5
  · obtain ⟨j1, j2⟩ := rng_ok hj
    cases d1
    exact ⟨j, rfl, by omega, by omega, h3 _ H1 ρ1 x1 r1 wk_rng (LLs (by simp [rngL]; omega))⟩
theorem tq_rng2 {G : Glob} {g : Expr} {b : Ex} {b' : Expr} (hfree : ∀ x, G.free.contains x = true → X.mg x = none) (h1 : ckBlt G X.env.scope "range" g = true) (ha : PE X a' (TE C X.K a)) (hb : PE X b' (TE C X.K b)) (hn : notStar a' = true) (hn2 : notStar b' = true) :
    PI X tg (.Call g [a', b'] [] pos) (TQ C X.K (.rng2 a b)) := by
  obtain ⟨x, p, rfl⟩ := ck_name h1
  obtain ⟨e1, e2, e3, e4⟩ := blt_name h1
  subst e1
  refine PI.imp (pi_range2 e2 (hfree _ e4) (two_list ha hb hn hn2) (by rw [star_one hn, star_one hn2]; rfl) (by rw [star_one hn2]; rfl)) fun σ H R ⟨F, ρ, m, env, r, re, h⟩ => ?_
  rw [evQ, Out_bind] at h
  refine TE.run r re (h.mono (fun d m1 h1 x H1 ρ1 x1 r1 re1 d1 => ?_) fun _ _ _ z => z)
  rw [Out_bind] at h1
  refine TE.run r1 re1 (h1.mono (fun d2 m2 h2 y H2 ρ2 x2 r2 re2 dd2 => ?_) fun _ _ _ z => z)
  obtain ⟨vs, e5, h3⟩ := Out_ofO h2
  obtain ⟨i, j, rfl, rfl, hi, hj, rfl⟩ := rng2V_some e5
  · obtain ⟨i1, i2⟩ := rng_ok hi
    obtain ⟨j1, j2⟩ := rng_ok hj
    cases d1
    cases dd2
    exact ⟨i, j, rfl, ⟨by omega, by omega, by omega, by omega⟩, h3 _ H2 ρ2 (x1.trans x2) r2 wk_rng (LLs (by simp [rngL]; omega))⟩
theorem tq_rng3 {G : Glob} {g : Expr} {b c : Ex} {b' c' : Expr} (hfree : ∀ x, G.free.contains x = true → X.mg x = none) (h1 : ckBlt G X.env.scope "range" g = true) (ha : PE X a' (TE C X.K a)) (hb : PE X b' (TE C X.K b)) (hc : PE X c' (TE C X.K c)) (hn : notStar a' = true) (hn2 : notStar b' = true) (hn3 : notStar c' = true) :
    PI X tg (.Call g [a', b', c'] [] pos) (TQ C X.K (.rng3 a b c)) := by
  obtain ⟨x, p, rfl⟩ := ck_name h1
  obtain ⟨e1, e2, e3, e4⟩ := blt_name h1
  subst e1
  refine PI.imp (pi_range3 e2 (hfree _ e4) (pa_cons ha (two_list hb hc hn2 hn3) (star_one hn)) (star_one hn) (star_any (by rw [List.all_cons, List.all_cons, hn2, hn3]; rfl))) fun σ H R ⟨F, ρ, m, env, r, re, h⟩ => ?_
  rw [evQ, Out_bind] at h
  refine TE.run r re (h.mono (fun d m1 h1 x H1 ρ1 x1 r1 re1 d1 => ?_) fun _ _ _ z => z)
  rw [Out_bind] at h1
  refine TE.run r1 re1 (h1.mono (fun d2 m2 h2 y H2 ρ2 x2 r2 re2 dd2 => ?_) fun _ _ _ z => z)
  rw [Out_bind] at h2
  refine TE.run r2 re2 (h2.mono (fun d3 m3 h3 z H3 ρ3 x3 r3 re3 dd3 => ?_) fun _ _ _ z => z)
  obtain ⟨vs, e5, h4⟩ := Out_ofO h3
  obtain ⟨i, j, rfl, rfl, rfl, hi, hj, rfl⟩ := rng3V_some e5
  · obtain ⟨i1, i2⟩ := rng_ok hi
    obtain ⟨j1, j2⟩ := rng_ok hj
    cases d1
    cases dd2
    cases dd3
    exact ⟨i, j, -1, (i - j).toNat, rfl, RgC.neg (by omega) (by omega) (by omega) (by omega), h4 _ H3 ρ3 ((x1.trans x2).trans x3) r3 wk_down (LLs (by simp; omega))⟩
/-- zip and enumerate: the lines of lengths again by the state -/
theorem tq_zip2 {G : Glob} {g : Expr} {b : Ex} {b' : Expr} {elts : List Expr} {kk : Nat} {tpos : Pos} (hfree : ∀ x, G.free.contains x = true → X.mg x = none) (h1 : ckBlt G X.env.scope "zip" g = true) (ha : PE X a' (TE C X.K a)) (hb : PE X b' (TE C X.K b)) (hn : notStar a' = true) (hn2 : notStar b' = true) :
    PI X (.Tuple elts kk tpos) (.Call g [a', b'] [] pos) (TQ C X.K (.zip2 a b)) := by
  obtain ⟨x, p, rfl⟩ := ck_name h1
  obtain ⟨e1, e2, e3, e4⟩ := blt_name h1
  subst e1
  refine PI.imp (pi_zip2 e2 (hfree _ e4) (two_list ha hb hn hn2) (by rw [star_one hn]) (star_any (by rw [List.all_cons, hn2]; rfl))) fun σ H R ⟨F, ρ, m, env, r, re, h⟩ => ?_
  rw [evQ, Out_bind] at h
  refine TE.run r re (h.mono (fun d m1 h1 x H1 ρ1 x1 r1 re1 d1 => ?_) fun _ _ _ z => z)
  rw [Out_bind] at h1
  refine TE.run r1 re1 (h1.mono (fun d2 m2 h2 y H2 ρ2 x2 r2 re2 dd2 => ?_) fun _ _ _ z => z)
  split at h2
  · rename_i xs ys e5 e6
    obtain ⟨k1, p1, vs1, rfl, hf1, al1⟩ := frz_of e5 (d1.on x2)
    obtain ⟨k2, p2, vs2, rfl, hf2, al2⟩ := frz_of e6 dd2
    exact ⟨k1, k2, p1, p2, vs1, vs2, rfl, hf1.sq, hf2.sq, fun hz => h2 _ H2 ρ2 (x1.trans x2) r2 (wk_zip2 hf1 al1 hf2 al2) (by rw [zip2_len, al1.length]; omega)⟩
  · exact h2.elim
theorem tq_zip3 {G : Glob} {g : Expr} {b c : Ex} {b' c' : Expr} {elts : List Expr} {kk : Nat} {tpos : Pos} (hfree : ∀ x, G.free.contains x = true → X.mg x = none) (h1 : ckBlt G X.env.scope "zip" g = true) (ha : PE X a' (TE C X.K a)) (hb : PE X b' (TE C X.K b)) (hc : PE X c' (TE C X.K c)) (hn : notStar a' = true) (hn2 : notStar b' = true) (hn3 : notStar c' = true) :
    PI X (.Tuple elts kk tpos) (.Call g [a', b', c'] [] pos) (TQ C X.K (.zip3 a b c)) := by
  obtain ⟨x, p, rfl⟩ := ck_name h1
  obtain ⟨e1, e2, e3, e4⟩ := blt_name h1
  subst e1
  refine PI.imp (pi_zip3 e2 (hfree _ e4) (pa_cons ha (two_list hb hc hn2 hn3) (star_one hn)) (star_one hn) (star_any (by rw [List.all_cons, List.all_cons, hn2, hn3]; rfl))) fun σ H R ⟨F, ρ, m, env, r, re, h⟩ => ?_
  rw [evQ, Out_bind] at h
  refine TE.run r re (h.mono (fun d m1 h1 x H1 ρ1 x1 r1 re1 d1 => ?_) fun _ _ _ z => z)
  rw [Out_bind] at h1
  refine TE.run r1 re1 (h1.mono (fun d2 m2 h2 y H2 ρ2 x2 r2 re2 dd2 => ?_) fun _ _ _ z => z)
  rw [Out_bind] at h2
  refine TE.run r2 re2 (h2.mono (fun d3 m3 h3 z H3 ρ3 x3 r3 re3 dd3 => ?_) fun _ _ _ z => z)
  split at h3
  · rename_i xs ys zs e5 e6 e7
    obtain ⟨k1, p1, vs1, rfl, hf1, al1⟩ := frz_of e5 ((d1.on x2).on x3)
    obtain ⟨k2, p2, vs2, rfl, hf2, al2⟩ := frz_of e6 (dd2.on x3)
    obtain ⟨k3, p3, vs3, rfl, hf3, al3⟩ := frz_of e7 dd3
    exact ⟨k1, k2, k3, p1, p2, p3, vs1, vs2, vs3, rfl, hf1.sq, hf2.sq, hf3.sq, fun hz => h3 _ H3 ρ3 ((x1.trans x2).trans x3) r3 (wk_zip3 hf1 al1 hf2 al2 hf3 al3) (by rw [zip3_len, al1.length]; omega)⟩
  · exact h3.elim
theorem tq_enum {G : Glob} {g : Expr} {elts : List Expr} {kk : Nat} {tpos : Pos} (hfree : ∀ x, G.free.contains x = true → X.mg x = none) (h1 : ckBlt G X.env.scope "enumerate" g = true) (ha : PE X a' (TE C X.K a)) (hn : notStar a' = true) :
    PI X (.Tuple elts kk tpos) (.Call g [a'] [] pos) (TQ C X.K (.enum a)) := by
  obtain ⟨x, p, rfl⟩ := ck_name h1
  obtain ⟨e1, e2, e3, e4⟩ := blt_name h1
  subst e1
  refine PI.imp (pi_enumK e2 (hfree _ e4) (one_list ha hn) (star_one hn)) fun σ H R ⟨F, ρ, m, env, r, re, h⟩ => ?_
  rw [evQ, Out_bind] at h
  refine TE.run r re (h.mono (fun d m1 h1 x H1 ρ1 x1 r1 re1 d1 => ?_) fun _ _ _ z => z)
  split at h1
  · rename_i xs e5
    obtain ⟨k1, p1, vs1, rfl, hf1, al1⟩ := frz_of e5 d1
    exact ⟨k1, p1, vs1, rfl, hf1.sq, fun hz => h1 _ H1 ρ1 x1 r1 (wk_enum hf1 al1) (by rw [enum_len, al1.length]; exact hz)⟩
  · exact h1.elim
end
end MP
/-! MP: targets, list comprehensions. -/
namespace MP
open PySem PySem.Spec PyProof.Rows L2

/-! ### targets -/
def gL : List Nat → L2.TGs
  | [] => gNil
  | i :: is => gCons (gName i) (gL is)
def tgG (K : PySem.W.Frag) : Tg → L2.TG
  | .nm i => gName i
  | .tp is => gTup K is.length (gL is)
section
variable {X : Cx}
theorem loc_of {blk : Option Scope} {x : Str} (hb : X.fn = match blk with | none => fun _ => true | some b => fun x => b.names.lookup x == some .cell) (h : locB blk X.env.scope x = true) : Loc X.env.scope x ∧ (X.fn x = true ∨ X.env.scope.names.lookup x = some .local) := by
  unfold locB at h
  split at h
  · rename_i e
    exact ⟨.inl e, .inr e⟩
  · rename_i e
    refine ⟨.inr e, .inl ?_⟩
    rw [hb]
    cases blk with
    | none => rfl
    | some b => exact h
  · cases h
theorem pg_L {blk : Option Scope} (hb : X.fn = match blk with | none => fun _ => true | some b => fun x => b.names.lookup x == some .cell) (nd : X.N.Nodup) : ∀ {is : List Nat} {es : List Expr}, ckNms blk X.N X.env.scope is es = true → PGs X es (gL is) ∧ (assignEach es X.env).length = is.length ∧ (assignEach es X.env).findIdx? (·.1) = none
  | [], [], _ => ⟨pgs_nil, rfl, rfl⟩
  | [], _ :: _, h => by cases h
  | _ :: _, [], h => by cases h
  | i :: is, e :: es, h => by
    cases e with
    | Name x p =>
      have h : (decide (X.N[i]? = some x) && (locB blk X.env.scope x && ckNms blk X.N X.env.scope is es)) = true := h
      rw [Bool.and_eq_true, Bool.and_eq_true] at h
      obtain ⟨h1, h2, h3⟩ := h
      obtain ⟨l1, l2⟩ := loc_of hb h2
      obtain ⟨g1, g2, g3⟩ := pg_L hb nd h3
      refine ⟨pgs_cons (pg_name nd (of_decide_eq_true h1) l1 l2) g1 rfl, congrArg (· + 1) g2, ?_⟩
      show ((false, _) :: assignEach es X.env).findIdx? (·.1) = none
      rw [List.findIdx?_cons]
      simp only [Bool.false_eq_true, if_false]
      rw [g3]
      rfl
    | _ => cases h
theorem pg_tg {blk : Option Scope} (hc : X.calm = true) (hb : X.fn = match blk with | none => fun _ => true | some b => fun x => b.names.lookup x == some .cell) (nd : X.N.Nodup) {tg : Tg} {e : Expr} (h : ckTg blk X.N X.env.scope tg e = true) : PG X e (tgG X.K tg) := by
  unfold ckTg at h
  split at h
  · rw [Bool.and_eq_true] at h
    obtain ⟨l1, l2⟩ := loc_of hb h.2
    exact pg_name nd (of_decide_eq_true h.1) l1 l2
  · obtain ⟨g1, g2, g3⟩ := pg_L hb nd h
    exact pg_tup hc g1 g2 g3
  · cases h
end
section
variable {K : PySem.W.Frag} {F F' D : Addr → Prop} {ρ ρ' : Rho} {H H' : Hp} {m m' : Mem} {e e2 : Env} {σ : L2.St}
theorem wipe_set {v : Option V} : ∀ {vs : List Nat} {i : Nat}, i ∈ vs → L2.wipe (σ.set i v) vs = L2.wipe σ vs := by
  intro vs
  induction vs generalizing σ with
  | nil => intro i h; cases h
  | cons a vs ih =>
    intro i h
    show (L2.wipe (σ.set i v) vs).set a none = (L2.wipe σ vs).set a none
    by_cases hi : i ∈ vs
    · rw [ih hi]
    · have e : i = a := by rcases List.mem_cons.mp h with z | z; exact z; exact absurd z hi
      subst e
      have key : ∀ {vs : List Nat} {σ : L2.St}, i ∉ vs → L2.wipe (σ.set i v) vs = (L2.wipe σ vs).set i v := by
        intro vs
        induction vs with
        | nil => intro σ _; rfl
        | cons b vs ih2 =>
          intro σ hb
          show (L2.wipe (σ.set i v) vs).set b none = ((L2.wipe σ vs).set b none).set i v
          rw [ih2 (fun z => hb (List.mem_cons_of_mem _ z))]
          rw [List.set_comm]
          intro z
          exact hb (by rw [z]; exact List.mem_cons_self)
      rw [key hi, List.set_set]
theorem bindL_run {own : List Nat} : ∀ {is : List Nat} {ds : List Val} {xs : List V} {e : Env} {σ : L2.St} {e2 : Env} {Q : L2.St → Hp → Prop}, bindTp is ds e = some e2 → RelE K F ρ H e σ → DenAll K F ρ H ds xs → (∀ σ2, RelE K F ρ H e2 σ2 → ((∀ i ∈ is, i ∈ own) → L2.wipe σ2 own = L2.wipe σ own) → Q σ2 H) → gL is xs σ H Q
  | [], [], _, e, σ, e2, Q, h, re, .nil, q => by
    injection h with h
    subst h
    exact ⟨rfl, q σ re fun _ => rfl⟩
  | i :: is, d :: ds, _, e, σ, e2, Q, h, re, .cons a b, q => by
    refine ⟨_, _, rfl, ?_⟩
    refine bindL_run (own := own) (is := is) h (re.set a) b fun σ2 r2 w2 => q σ2 r2 fun hi => ?_
    rw [w2 fun j hj => hi j (List.mem_cons_of_mem _ hj)]
    exact wipe_set (hi i List.mem_cons_self)
  | [], _ :: _, _, _, _, _, _, h, _, _, _ => by cases h
  | _ :: _, [], _, _, _, _, _, h, _, _, _ => by cases h
theorem bindTp_len : ∀ {is : List Nat} {ds : List Val} {e e2 : Env}, bindTp is ds e = some e2 → is.length = ds.length
  | [], [], _, _, _ => rfl
  | i :: is, d :: ds, e, e2, h => congrArg (· + 1) (bindTp_len (is := is) (ds := ds) h)
  | [], _ :: _, _, _, h => by cases h
  | _ :: _, [], _, _, h => by cases h
theorem bind_run {own : List Nat} {tg : Tg} {d : Val} {x : V} {Q : L2.St → Hp → Prop} (h : bindTg tg d e = some e2) (re : RelE K F ρ H e σ) (dn : Den K F ρ H d x) (q : ∀ σ2, RelE K F ρ H e2 σ2 → (tgIn tg own = true → L2.wipe σ2 own = L2.wipe σ own) → Q σ2 H) : tgG K tg x σ H Q := by
  unfold bindTg at h
  split at h
  · rename_i i v
    injection h with h
    subst h
    exact q _ (re.set dn) fun hi => wipe_set (List.contains_iff_mem.mp hi)
  · rename_i is vs
    cases dn with
    | tup h1 h2 =>
      refine ⟨_, _, rfl, h1, by rw [← h2.length]; exact (bindTp_len h).symm, ?_⟩
      refine bindL_run (own := own) h re h2 fun σ2 r2 w2 => q σ2 r2 fun hi => w2 fun i hm => ?_
      have hi : is.all own.contains = true := hi
      exact List.contains_iff_mem.mp (List.all_eq_true.mp hi i hm)
  · cases h

/-! ### the new list stands beside -/
theorem Rel.re (r : Rel K F ρ H m) (x : Ext D ρ H ρ H') (kp : ∀ a, Al ρ a → H' a = H a) (hD : ∀ a, D a → ¬ F a → H a = none) (hs : ∀ a, ¬ F a → F' a → H a = none) (fa : ∀ a, F' a → H' a ≠ none) (fal : ∀ a, F' a → ¬ Al ρ a) : Rel K F' ρ H' m where
  len := r.len
  inj := r.inj
  obj := fun i a e => by
    obtain ⟨ds, xs, h1, h2, h3⟩ := r.obj i a e
    exact ⟨ds, xs, h1, by rw [kp a (Al.of e)]; exact h2, h3.ext x hD hs⟩
  liv := r.liv
  fa := fa
  fal := fal
def FD (F : Addr → Prop) (p : Addr) : Addr → Prop := fun a => F a ∨ a = p
theorem Rel.beside (r : Rel K F ρ H m) {p : Addr} {o : HO} (hp : H p = none) : Rel K (FD F p) ρ (upd H p o) m :=
  r.re (D := D0) (Ext.laid hp) (fun a ha => upd_ne (fun z => r.not_al hp (z ▸ ha))) (fun _ z => z.elim) (fun a f z => z.elim (fun y => (f y).elim) fun y => by rw [y]; exact hp) (fun a z => by
    rcases z with z | z
    · intro q
      exact r.fa a z ((Ext.laid (ρ := ρ) hp).dom a q)
    · rw [z, upd_same]; exact fun q => nomatch q) fun a z => by
    rcases z with z | z
    · exact r.fal a z
    · rw [z]; exact r.not_al hp
theorem Rel.unbeside {p : Addr} (r : Rel K (FD F p) ρ H m) : Rel K F ρ H m :=
  r.re (D := D0) Ext.refl (fun _ _ => rfl) (fun _ z => z.elim) (fun a f z => (f (.inl z)).elim) (fun a z => r.fa a (.inl z)) fun a z => r.fal a (.inl z)
theorem Den.unbeside {p : Addr} {d : Val} {v : V} (h : Den K (FD F p) ρ H d v) : Den K F ρ H d v := h.ext (D := D0) Ext.refl (fun _ z => z.elim) fun a f z => (f (.inl z)).elim
theorem DenAll.unbeside {p : Addr} {d : List Val} {v : List V} (h : DenAll K (FD F p) ρ H d v) : DenAll K F ρ H d v := h.ext (D := D0) Ext.refl (fun _ z => z.elim) fun a f z => (f (.inl z)).elim
/-- the list beside is changed -/
theorem Ext.atD {p : Addr} {o : HO} {xs : List V} (hp : H p = some (.lst xs)) : Ext (fun a => a = p) ρ H ρ (upd H p o) where
  len := Nat.le_refl _
  stay := fun _ _ _ h => h
  new := fun a h n => (n h).elim
  keep := fun a ob e _ d => by rw [upd_ne d]; exact e
  imm_ := fun a ob e i => by
    rw [upd_ne (fun z => by rw [z, hp] at e; cases e; exact i)]
    exact e
  dom := fun a e => by
    by_cases ha : a = p
    · rw [ha, upd_same] at e; cases e
    · rw [upd_ne ha] at e; exact e
theorem Rel.atD {p : Addr} {xs ys : List V} (r : Rel K (FD F p) ρ H m) (hp : H p = some (.lst xs)) : Rel K (FD F p) ρ (upd H p (.lst ys)) m :=
  r.re (Ext.atD hp) (fun a ha => upd_ne (fun z => r.fal p (.inr rfl) (z ▸ ha))) (fun a z f => (f (.inr z)).elim) (fun a f z => (f z).elim) (fun a z q => r.fa a z ((Ext.atD (ρ := ρ) hp).dom a q)) r.fal
theorem DenAll.atD {p : Addr} {o : HO} {xs : List V} {ds : List Val} {vs : List V} (hp : H p = some (.lst xs)) (h : DenAll K (FD F p) ρ H ds vs) : DenAll K (FD F p) ρ (upd H p o) ds vs := h.ext (Ext.atD hp) (fun a z f => (f (.inr z)).elim) fun a f z => (f z).elim
theorem Den.atD {p : Addr} {o : HO} {xs : List V} {ds : Val} {vs : V} (hp : H p = some (.lst xs)) (h : Den K (FD F p) ρ H ds vs) : Den K (FD F p) ρ (upd H p o) ds vs := h.ext (Ext.atD hp) (fun a z f => (f (.inr z)).elim) fun a f z => (f z).elim
theorem Ext.newAt {ρ1 : Rho} {H1 : Hp} {p : Addr} {o : HO} (x : Ext D0 ρ1 H1 ρ H) (h1 : H1 p = none) : Ext D0 ρ1 H1 ρ (upd H p o) where
  len := x.len
  stay := x.stay
  new := x.new
  keep := fun a ob e n d => by rw [upd_ne (ne_of_none e h1)]; exact x.keep a ob e n d
  imm_ := fun a ob e i => by rw [upd_ne (ne_of_none e h1)]; exact x.imm_ a ob e i
  dom := fun a e => by
    by_cases ha : a = p
    · rw [ha]; exact h1
    · rw [upd_ne ha] at e; exact x.dom a e
mutual
theorem Den.adopt {p : Addr} : ∀ {d : Val} {v : V}, Den K (FD F p) ρ H d v → Den K F (ρ ++ [some p]) H d v
  | _, _, .non => .non
  | _, _, .bl b => .bl b
  | _, _, .int i => .int i
  | _, _, .str x => .str x
  | _, _, .tup h t => .tup h (DenAll.adopt t)
  | _, _, .lst h n f t => .lst h (fun z => by
      rcases List.mem_append.mp z with y | y
      · exact n y
      · have e := List.mem_singleton.mp y
        injection e with e
        exact f (.inr e)) (fun z => f (.inl z)) (DenAll.adopt t)
  | _, _, .scr h => .scr h
  | _, _, .ref hl h => .ref (by rw [List.length_append]; omega) fun b e => h b (by rw [List.getElem?_append_left hl] at e; exact e)
theorem DenAll.adopt {p : Addr} : ∀ {d : List Val} {v : List V}, DenAll K (FD F p) ρ H d v → DenAll K F (ρ ++ [some p]) H d v
  | _, _, .nil => .nil
  | _, _, .cons h t => .cons (Den.adopt h) (DenAll.adopt t)
end
theorem Rel.adopt {p : Addr} {ds : List Val} {xs : List V} (r : Rel K (FD F p) ρ H m) (hq : H p = some (.lst xs)) (h : DenAll K (FD F p) ρ H ds xs) (hf : ¬ F p) : Rel K F (ρ ++ [some p]) H (m ++ [.lst ds]) where
  len := by simp [r.len]
  inj := fun i j a h1 h2 => by
    have np : ¬ Al ρ p := r.fal p (.inr rfl)
    by_cases hi : i < ρ.length
    · rw [List.getElem?_append_left hi] at h1
      by_cases hj : j < ρ.length
      · rw [List.getElem?_append_left hj] at h2; exact r.inj i j a h1 h2
      · rw [List.getElem?_append_right (by omega)] at h2
        have e := List.mem_of_getElem? h2
        have e : a = p := by simpa using e
        exact (np (e ▸ Al.of h1)).elim
    · rw [List.getElem?_append_right (by omega)] at h1
      have e := List.mem_of_getElem? h1
      have e : a = p := by simpa using e
      by_cases hj : j < ρ.length
      · rw [List.getElem?_append_left hj] at h2; exact (np (e ▸ Al.of h2)).elim
      · rw [List.getElem?_append_right (by omega)] at h2
        obtain ⟨k1, _⟩ := List.getElem?_eq_some_iff.mp h1
        obtain ⟨k2, _⟩ := List.getElem?_eq_some_iff.mp h2
        simp at k1 k2
        omega
  obj := fun i a e => by
    by_cases hi : i < ρ.length
    · rw [List.getElem?_append_left hi] at e
      obtain ⟨ds', xs', h1, h2, h3⟩ := r.obj i a e
      have hm : i < m.length := by rw [← r.len]; exact hi
      exact ⟨ds', xs', by rw [List.getElem?_append_left hm]; exact h1, h2, h3.adopt⟩
    · have e' := e
      rw [List.getElem?_append_right (by omega)] at e
      have ea := List.mem_of_getElem? e
      have ea : a = p := by simpa using ea
      obtain ⟨k1, _⟩ := List.getElem?_eq_some_iff.mp e'
      have hk : i = m.length := by rw [← r.len]; simp at k1; omega
      subst hk
      exact ⟨ds, xs, by simp, by rw [ea]; exact hq, h.adopt⟩
  liv := fun i ds' e => by
    by_cases hi : i < m.length
    · rw [List.getElem?_append_left hi] at e
      obtain ⟨a, ha⟩ := r.liv i ds' e
      exact ⟨a, by rw [List.getElem?_append_left (by rw [r.len]; exact hi)]; exact ha⟩
    · obtain ⟨k1, _⟩ := List.getElem?_eq_some_iff.mp e
      have hk : i = ρ.length := by rw [r.len]; simp at k1; omega
      exact ⟨p, by rw [hk]; simp⟩
  fa := fun a f => r.fa a (.inl f)
  fal := fun a f z => by
    rcases List.mem_append.mp z with y | y
    · exact r.fal a (.inl f) y
    · have e : a = p := by simpa using y
      exact hf (e ▸ f)
theorem Ext.adopt {ρ1 : Rho} {H1 : Hp} {p : Addr} (x : Ext D0 ρ1 H1 ρ H) (h1 : H1 p = none) : Ext D0 ρ1 H1 (ρ ++ [some p]) H where
  len := by rw [List.length_append]; exact Nat.le_trans x.len (Nat.le_add_right _ _)
  stay := fun i a hi e => x.stay i a hi (by rw [List.getElem?_append_left (Nat.lt_of_lt_of_le hi x.len)] at e; exact e)
  new := fun a z n => by
    rcases List.mem_append.mp z with y | y
    · exact x.new a y n
    · have e : a = p := by simpa using y
      rw [e]; exact h1
  keep := x.keep
  imm_ := x.imm_
  dom := x.dom
/-- the list that a comprehension has made is handed on -/
theorem made_ok {C : Calls} {mt : Bool} {ρ0 ρ1 : Rho} {H0 H1 : Hp} {p : Addr} {Q : VK} {ds : List Val} {xs : List V} (x0 : Ext D0 ρ0 H0 ρ1 H1) (h1 : H1 p = none) (r1 : ∀ a, F a → H1 a ≠ none) (x : Ext D0 ρ1 H1 ρ H) (r : Rel K (FD F p) ρ H m) (hp : H p = some (.lst xs)) (al : DenAll K (FD F p) ρ H ds xs)
    (h : (newL mt ds m).Out (Ans K F ρ0 H0 Q) WF) : Q (.ref p) H := by
  have hf : ¬ F p := fun z => r1 p z h1
  cases mt with
  | false =>
    refine (show Ans K F ρ0 H0 Q (.lst ds) m from h) _ H ρ (x0.trans x) r.unbeside (.lst hp (r.fal p (.inr rfl)) hf al.unbeside)
  | true =>
    refine (show Ans K F ρ0 H0 Q (.ref m.length) (m ++ [.lst ds]) from h) _ H (ρ ++ [some p]) (x0.trans (x.adopt h1)) (r.adopt hp al hf) ?_
    rw [← r.len]
    exact .ref (by simp) fun b e => by
      have e : some p = some b := by simpa using e
      exact Option.some.inj e
end
end MP
/-! MP: list(zip(a, b)), list(zip(a, b, c)) as expressions. -/
namespace MP
open PySem PySem.Spec PyProof.Rows L2

section
variable {K : PySem.W.Frag} {F : Addr → Prop} {ρ : Rho} {H0 H : Hp} {m : Mem} {S : Addr}
theorem gr_ok (r : Rel K F ρ H0 m) (hS : H0 S = none) {tl : List (List V)} {vs : List V} (g : Gr S H0 tl vs H) : ∀ dl : List (List Val), dl.length = tl.length → (∀ (i : Nat) (d : List Val) (xs : List V), dl[i]? = some d → tl[i]? = some xs → DenAll K F ρ H0 d xs) →
    Ext D0 ρ H0 ρ H ∧ Rel K (FD F S) ρ H m ∧ DenAll K (FD F S) ρ H (dl.map Val.tup) vs := by
  induction g with
  | nil =>
    intro dl hl _
    have e : dl = [] := List.eq_nil_of_length_eq_zero hl
    subst e
    exact ⟨Ext.laid hS, r.beside hS, .nil⟩
  | @snoc tl vs H1 T xs g hT ih =>
    intro dl hl hd
    obtain ⟨dl', d, rfl⟩ : ∃ dl' d, dl = dl' ++ [d] := by
      rcases List.eq_nil_or_concat dl with e | ⟨l, b, e⟩
      · rw [e] at hl; simp at hl
      · exact ⟨l, b, by rw [e]; simp⟩
    have hl' : dl'.length = tl.length := by simpa using hl
    obtain ⟨x1, r1, al1⟩ := ih dl' hl' fun i d xs e1 e2 => hd i d xs (by rw [List.getElem?_append_left (List.getElem?_eq_some_iff.mp e1).1]; exact e1) (by rw [List.getElem?_append_left (List.getElem?_eq_some_iff.mp e2).1]; exact e2)
    have dx : DenAll K F ρ H0 d xs := hd dl'.length d xs (by simp) (by rw [hl']; simp)
    have dx1 : DenAll K (FD F S) ρ H1 d xs := dx.ext x1 (fun _ z => z.elim) fun a nf z => by
      rcases z with z | z
      · exact (nf z).elim
      · rw [z]; exact hS
    obtain ⟨hSl, _⟩ := g.at_
    have hTS : T ≠ S := fun e => by rw [e, hSl] at hT; cases hT
    have x2 := Ext.laid (ρ := ρ) (o := .tup xs) hT
    have r2 := r1.laid (o := .tup xs) hT
    have hS2 : (upd H1 T (.tup xs)) S = some (.lst vs) := by rw [upd_ne (Ne.symm hTS)]; exact hSl
    refine ⟨(x1.trans x2).newAt hS, r2.atD hS2, ?_⟩
    rw [List.map_append]
    exact DenAll.atD hS2 ((al1.on x2).append (.cons (Den.newTup r1 hT dx1) .nil))
end
theorem zip2_map : ∀ as bs : List Val, zip2V as bs = (List.zipWith (fun a b => [a, b]) as bs).map Val.tup
  | [], bs => by simp [zip2V]
  | a :: as, [] => by simp [zip2V]
  | a :: as, b :: bs => by
    show Val.tup [a, b] :: zip2V as bs = _
    rw [zip2_map as bs]
    rfl
def zw3 {α : Type} : List α → List α → List α → List (List α)
  | a :: as, b :: bs, c :: cs => [a, b, c] :: zw3 as bs cs
  | _, _, _ => []
theorem zip3_map : ∀ as bs cs : List Val, zip3V as bs cs = (zw3 as bs cs).map Val.tup
  | [], bs, cs => by simp [zip3V, zw3]
  | a :: as, [], cs => by simp [zip3V, zw3]
  | a :: as, b :: bs, [] => by simp [zip3V, zw3]
  | a :: as, b :: bs, c :: cs => by
    show Val.tup [a, b, c] :: zip3V as bs cs = _
    rw [zip3_map as bs cs]
    rfl
theorem zw3_len {α : Type} : ∀ as bs cs : List α, (zw3 as bs cs).length = min (min as.length bs.length) cs.length
  | [], bs, cs => by simp [zw3]
  | a :: as, [], cs => by simp [zw3]
  | a :: as, b :: bs, [] => by simp [zw3]
  | a :: as, b :: bs, c :: cs => by
    show (zw3 as bs cs).length + 1 = _
    rw [zw3_len as bs cs]
    simp only [List.length_cons]
    omega
theorem zw3_get {α : Type} : ∀ {as bs cs : List α} {i : Nat} {r : List α}, (zw3 as bs cs)[i]? = some r → ∃ a b c, as[i]? = some a ∧ bs[i]? = some b ∧ cs[i]? = some c ∧ r = [a, b, c]
  | [], bs, cs, i, r, h => by simp [zw3] at h
  | a :: as, [], cs, i, r, h => by simp [zw3] at h
  | a :: as, b :: bs, [], i, r, h => by simp [zw3] at h
  | a :: as, b :: bs, c :: cs, 0, r, h => by
    have h : some [a, b, c] = some r := h
    exact ⟨a, b, c, rfl, rfl, rfl, (Option.some.inj h).symm⟩
  | a :: as, b :: bs, c :: cs, i + 1, r, h => by
    have h : (zw3 as bs cs)[i]? = some r := h
    obtain ⟨a', b', c', h1, h2, h3, h4⟩ := zw3_get h
    exact ⟨a', b', c', by simpa using h1, by simpa using h2, by simpa using h3, h4⟩
theorem zw2_get {α : Type} {as bs : List α} {i : Nat} {r : List α} (h : (List.zipWith (fun a b => [a, b]) as bs)[i]? = some r) : ∃ a b, as[i]? = some a ∧ bs[i]? = some b ∧ r = [a, b] := by
  rw [List.getElem?_zipWith] at h
  cases e1 : as[i]? with
  | none => rw [e1] at h; cases h
  | some a =>
    cases e2 : bs[i]? with
    | none => rw [e1, e2] at h; cases h
    | some b =>
      rw [e1, e2] at h
      exact ⟨a, b, rfl, rfl, (Option.some.inj h).symm⟩
section
variable {X : Cx} {C : Calls}
def tLz2 (K : PySem.W.Frag) (ta : L2.TA) : L2.TE := fun σ H Q => ta σ H fun vs H1 => ∃ k1 k2 a b xs ys, vs = [.ref a, .ref b] ∧ SqK k1 K H1 a xs ∧ SqK k2 K H1 b ys ∧ ∀ S H' vs', H1 S = none → Gr S H1 (List.zipWith (fun a b => [a, b]) xs ys) vs' H' → Q (.ref S) H'
def tLz3 (K : PySem.W.Frag) (ta : L2.TA) : L2.TE := fun σ H Q => ta σ H fun vs H1 => ∃ k1 k2 k3 a b c xs ys zs, vs = [.ref a, .ref b, .ref c] ∧ SqK k1 K H1 a xs ∧ SqK k2 K H1 b ys ∧ SqK k3 K H1 c zs ∧ ∀ S H' vs', H1 S = none → Gr S H1 (zw3 xs ys zs) vs' H' → Q (.ref S) H'
theorem has_kept {k : Bool} {h h' : Heap} {a : Addr} {items : Array Value} (x : HasK k h a items) (hk : ∀ c o, h.get? c = some o → h'.get? c = some o) : HasK k h' a items := by
  cases k with
  | true => exact x.at fun o e => hk _ _ e
  | false => exact x.at fun o e => hk _ _ e
theorem vals_get {xs : List V} {us : List Value} {i : Nat} {u : Value} {x : V} (h : Vals xs us) (hu : us[i]? = some u) (hx : xs[i]? = some x) : RelV x u := by
  obtain ⟨u', hu', r⟩ := h.get hx
  rw [hu] at hu'
  cases hu'
  exact r
theorem pe_lz2 {e e2 : Expr} {ta : L2.TA} {p p2 pos2 pos : Pos} (hc : X.calm = true) (hgl : Gl X "list") (hml : X.mg "list" = none) (hg : Gl X "zip") (hm : X.mg "zip" = none) (ha : PA X [e, e2] ta)
    (hs : starEach [e, e2] X.env = (false, eval e X.env) :: starEach [e2] X.env) (hpl : (backTo pos2 (starEach [e2] X.env)).any (·.1) = false) :
    PE X (.Call (.Name "list" p) [.Call (.Name "zip" p2) [e, e2] [] pos2] [] pos) (tLz2 X.K ta) := by
  have na : starEach [.Call (.Name "zip" p2) [e, e2] [] pos2] X.env = (false, eval (.Call (.Name "zip" p2) [e, e2] [] pos2) X.env) :: starEach [] X.env := rfl
  refine ⟨fun pins s σ H Q I h => ?_⟩
  refine Call_ (ld_blt I hgl hml boot_list (PyProof.Rows.callWith_type1 (args_cons (Call_ (ld_blt I hg hm PyProof.Rows.boot_zip (PyProof.Rows.callWith_type1 (thn (ha.run pos2 pins s σ H _ I h) fun us s1 ⟨vs, H1, I1, r1, q1⟩ => ?_) hs hpl))) na) na))
  obtain ⟨k1, k2, a, b, xs, ys, ex, hqx, hqy, q⟩ := q1
  subst ex
  cases r1 with
  | cons r rr =>
    cases rr with
    | cons r' rr =>
      cases rr
      cases r
      cases r'
      obtain ⟨its, rv, p1, hz0⟩ := seq_of I1 hqx
      obtain ⟨its2, rv2, p2, _⟩ := seq_of I1 hqy
      have la := seq_lt I1 hqx
      have lb := seq_lt I1 hqy
      have hl1 := rv.length
      have hl2 := rv2.length
      refine zip_begins2 (begins_k k1 a its.toArray) (begins_k k2 b its2.toArray) p1 p2 fun h' hz hTI hTO h1 h2 hsz hk => args_nil ?_
      have I2 : Inv X pins σ H1 { s1 with heap := h' } := I1.kept (t' := s1.toks) hk
      have hh : X.A.in1.in1.in1.handled = none := I.ok.hd hc
      have S2 := zip_sep2 (N := s1.heap.objs.size) (fp1 := [a]) (fp2 := [b]) (by simpa using la) (by simpa using lb)
      have W := hand2 (prog := X.prog) (w := X.w) (A := X.A.in1.in1) hh S2 (draws_k k1 hh _ a (Nat.ne_of_lt la) its.toArray) (draws_k k2 hh _ b (Nat.ne_of_lt (Nat.lt_succ_of_lt lb)) its2.toArray)
      have pa : HasK k1 h' a its.toArray := has_kept p1 hk
      have pb : HasK k2 h' b its2.toArray := has_kept p2 hk
      refine call_list_zip (A := X.A) W (List.zipWith (fun a b => [a, b]) xs ys) (by rw [List.length_zipWith, hl1, hl2, List.size_toArray, List.size_toArray]) (by rw [List.size_toArray, List.size_toArray]; omega) (fun i vals row hp hr => ?_) (fun row hr => ?_) I2 (fun c hcm => ?_) ⟨hz, hTI, ⟨_, _, hTO⟩, ⟨it_new h1, pa⟩, ⟨it_new h2, pb⟩⟩ (fun c hcm => ?_) (by simp) (fun c hcm => ?_) fun S s' H' vs' hS I' g' => ⟨.ref S, H', I', rfl, q S H' vs' hS g'⟩
      · obtain ⟨x1, x2, e1, e2, rfl⟩ := hp
        obtain ⟨x, y, e3, e4, rfl⟩ := zw2_get hr
        rw [List.getElem?_toArray] at e1 e2
        exact .cons (vals_get rv e1 e3) (.cons (vals_get rv2 e2 e4) .nil)
      · obtain ⟨i, hi⟩ := List.getElem?_of_mem hr
        obtain ⟨x, y, e3, e4, rfl⟩ := zw2_get hi
        show 2 ≤ sizeLine
        decide
      · exact lt_mem2 (N := s1.heap.objs.size) (by simp) I1 rfl hcm
      · have e' : c = s1.heap.objs.size + 4 ∨ c = s1.heap.objs.size + 2 ∨ c = s1.heap.objs.size + 3 ∨ c = s1.heap.objs.size ∨ c = a ∨ c = s1.heap.objs.size + 1 ∨ c = b := by simpa using hcm
        show c < h'.objs.size
        rw [hsz]
        rcases e' with q | q | q | q | q | q | q
        · rw [q]; exact Nat.add_lt_add_left (by decide) _
        · rw [q]; exact Nat.add_lt_add_left (by decide) _
        · rw [q]; exact Nat.add_lt_add_left (by decide) _
        · rw [q]; exact Nat.lt_add_of_pos_right (by decide)
        · rw [q]; exact Nat.lt_of_lt_of_le la (Nat.le_add_right _ _)
        · rw [q]; exact Nat.add_lt_add_left (by decide) _
        · rw [q]; exact Nat.lt_of_lt_of_le lb (Nat.le_add_right _ _)
      · have e' : c = s1.heap.objs.size + 4 ∨ c = s1.heap.objs.size + 2 ∨ c = s1.heap.objs.size + 3 ∨ c = s1.heap.objs.size ∨ c = s1.heap.objs.size + 1 := by simpa using hcm
        rcases e' with q | q | q | q | q <;> simp [q]
theorem pe_lz3 {e e2 e3 : Expr} {ta : L2.TA} {p p2 pos2 pos : Pos} (hc : X.calm = true) (hgl : Gl X "list") (hml : X.mg "list" = none) (hg : Gl X "zip") (hm : X.mg "zip" = none) (ha : PA X [e, e2, e3] ta)
    (hs : starEach [e, e2, e3] X.env = (false, eval e X.env) :: starEach [e2, e3] X.env) (hpl : (backTo pos2 (starEach [e2, e3] X.env)).any (·.1) = false) :
    PE X (.Call (.Name "list" p) [.Call (.Name "zip" p2) [e, e2, e3] [] pos2] [] pos) (tLz3 X.K ta) := by
  have na : starEach [.Call (.Name "zip" p2) [e, e2, e3] [] pos2] X.env = (false, eval (.Call (.Name "zip" p2) [e, e2, e3] [] pos2) X.env) :: starEach [] X.env := rfl
  refine ⟨fun pins s σ H Q I h => ?_⟩
  refine Call_ (ld_blt I hgl hml boot_list (PyProof.Rows.callWith_type1 (args_cons (Call_ (ld_blt I hg hm PyProof.Rows.boot_zip (PyProof.Rows.callWith_type1 (thn (ha.run pos2 pins s σ H _ I h) fun us s1 ⟨vs, H1, I1, r1, q1⟩ => ?_) hs hpl))) na) na))
  obtain ⟨k1, k2, k3, a, b, c, xs, ys, zs, ex, hqx, hqy, hqz, q⟩ := q1
  subst ex
  cases r1 with
  | cons r rr =>
    cases rr with
    | cons r' rr =>
     cases rr with
     | cons r'' rr =>
      cases rr
      cases r
      cases r'
      cases r''
      obtain ⟨its, rv, p1, hz0⟩ := seq_of I1 hqx
      obtain ⟨its2, rv2, p2, _⟩ := seq_of I1 hqy
      obtain ⟨its3, rv3, p3, _⟩ := seq_of I1 hqz
      have lc := seq_lt I1 hqz
      have hl3 := rv3.length
      have la := seq_lt I1 hqx
      have lb := seq_lt I1 hqy
      have hl1 := rv.length
      have hl2 := rv2.length
      refine zip_begins3 (begins_k k1 a its.toArray) (begins_k k2 b its2.toArray) (begins_k k3 c its3.toArray) p1 p2 p3 fun h' hz hTI hTO h1 h2 h3 hsz hk => args_nil ?_
      have I2 : Inv X pins σ H1 { s1 with heap := h' } := I1.kept (t' := s1.toks) hk
      have hh : X.A.in1.in1.in1.handled = none := I.ok.hd hc
      have S2 := zip_sep3 (N := s1.heap.objs.size) (fp1 := [a]) (fp2 := [b]) (fp3 := [c]) (by simpa using la) (by simpa using lb) (by simpa using lc)
      have W := hand3 (prog := X.prog) (w := X.w) (A := X.A.in1.in1) hh S2 (draws_k k1 hh _ a (Nat.ne_of_lt la) its.toArray) (draws_k k2 hh _ b (Nat.ne_of_lt (Nat.lt_succ_of_lt lb)) its2.toArray) (draws_k k3 hh _ c (Nat.ne_of_lt (Nat.lt_succ_of_lt (Nat.lt_succ_of_lt lc))) its3.toArray)
      have pa : HasK k1 h' a its.toArray := has_kept p1 hk
      have pb : HasK k2 h' b its2.toArray := has_kept p2 hk
      have pc : HasK k3 h' c its3.toArray := has_kept p3 hk
      refine call_list_zip (A := X.A) W (zw3 xs ys zs) (by rw [zw3_len, hl1, hl2, hl3, List.size_toArray, List.size_toArray, List.size_toArray]) (by rw [List.size_toArray, List.size_toArray, List.size_toArray]; omega) (fun i vals row hp hr => ?_) (fun row hr => ?_) I2 (fun d hcm => ?_) ⟨hz, hTI, ⟨_, _, _, hTO⟩, ⟨it_new h1, pa⟩, ⟨it_new h2, pb⟩, ⟨it_new h3, pc⟩⟩ (fun d hcm => ?_) (by simp) (fun d hcm => ?_) fun S s' H' vs' hS I' g' => ⟨.ref S, H', I', rfl, q S H' vs' hS g'⟩
      · obtain ⟨x1, x2, x3, e1, e2, e3, rfl⟩ := hp
        obtain ⟨x, y, z, f1, f2, f3, rfl⟩ := zw3_get hr
        rw [List.getElem?_toArray] at e1 e2 e3
        exact .cons (vals_get rv e1 f1) (.cons (vals_get rv2 e2 f2) (.cons (vals_get rv3 e3 f3) .nil))
      · obtain ⟨i, hi⟩ := List.getElem?_of_mem hr
        obtain ⟨x, y, z, f1, f2, f3, rfl⟩ := zw3_get hi
        show 3 ≤ sizeLine
        decide
      · exact lt_mem2 (N := s1.heap.objs.size) (by simp) I1 rfl hcm
      · have e' : d = s1.heap.objs.size + 5 ∨ d = s1.heap.objs.size + 3 ∨ d = s1.heap.objs.size + 4 ∨ d = s1.heap.objs.size ∨ d = a ∨ d = s1.heap.objs.size + 1 ∨ d = b ∨ d = s1.heap.objs.size + 2 ∨ d = c := by simpa using hcm
        show d < h'.objs.size
        rw [hsz]
        rcases e' with q | q | q | q | q | q | q | q | q
        · rw [q]; exact Nat.add_lt_add_left (by decide) _
        · rw [q]; exact Nat.add_lt_add_left (by decide) _
        · rw [q]; exact Nat.add_lt_add_left (by decide) _
        · rw [q]; exact Nat.lt_add_of_pos_right (by decide)
        · rw [q]; exact Nat.lt_of_lt_of_le la (Nat.le_add_right _ _)
        · rw [q]; exact Nat.add_lt_add_left (by decide) _
        · rw [q]; exact Nat.lt_of_lt_of_le lb (Nat.le_add_right _ _)
        · rw [q]; exact Nat.add_lt_add_left (by decide) _
        · rw [q]; exact Nat.lt_of_lt_of_le lc (Nat.le_add_right _ _)
      · have e' : d = s1.heap.objs.size + 5 ∨ d = s1.heap.objs.size + 3 ∨ d = s1.heap.objs.size + 4 ∨ d = s1.heap.objs.size ∨ d = s1.heap.objs.size + 1 ∨ d = s1.heap.objs.size + 2 := by simpa using hcm
        rcases e' with q | q | q | q | q | q <;> simp [q]
theorem all_get {K : PySem.W.Frag} {F : Addr → Prop} {ρ : Rho} {H : Hp} {ds : List Val} {vs : List V} {i : Nat} {d : Val} {v : V} (h : DenAll K F ρ H ds vs) (h1 : ds[i]? = some d) (h2 : vs[i]? = some v) : Den K F ρ H d v := by
  obtain ⟨v', e, q⟩ := h.get i d h1
  rw [h2] at e
  cases e
  exact q
theorem te_lqz2 {G : Glob} {mt : Bool} {a b : Ex} {a' b' g g2 : Expr} {p2 pos : Pos} (hc : X.calm = true) (hfree : ∀ x, G.free.contains x = true → X.mg x = none) (h1 : ckBlt G X.env.scope "list" g = true) (h2 : ckBlt G X.env.scope "zip" g2 = true) (hn : notStar a' = true) (hn2 : notStar b' = true) (ha : PE X a' (TE C X.K a)) (hb : PE X b' (TE C X.K b)) :
    PE X (.Call g [.Call g2 [a', b'] [] p2] [] pos) (TE C X.K (.lq mt (.zip2 a b))) := by
  obtain ⟨x, p, rfl⟩ := ck_name h1
  obtain ⟨y, q, rfl⟩ := ck_name h2
  obtain ⟨e1, e2, e3, e4⟩ := blt_name h1
  obtain ⟨f1, f2, f3, f4⟩ := blt_name h2
  subst e1 f1
  refine PE.imp (pe_lz2 hc e2 (hfree _ e4) f2 (hfree _ f4) (two_list ha hb hn hn2) (star_one hn) (star_any (by rw [List.all_cons, hn2]; rfl))) fun σ H Q ⟨F, ρ, m, env, r, re, h⟩ => ?_
  rw [evE, evQ, Out_bind, Out_bind] at h
  refine TE.run r re (h.mono (fun d m1 h1 x H1 ρ1 x1 r1 re1 d1 => ?_) fun _ _ _ z => z)
  rw [Out_bind] at h1
  refine TE.run r1 re1 (h1.mono (fun d2 m2 h2 y H2 ρ2 x2 r2 re2 dd2 => ?_) fun _ _ _ z => z)
  split at h2
  · rename_i xs ys e5 e6
    obtain ⟨k1, p1, vs1, rfl, hf1, al1⟩ := frz_of e5 (d1.on x2)
    obtain ⟨k2, p2, vs2, rfl, hf2, al2⟩ := frz_of e6 dd2
    refine ⟨k1, k2, p1, p2, vs1, vs2, rfl, hf1.sq, hf2.sq, fun S H' vs' hS g => ?_⟩
    obtain ⟨x3, r3, al3⟩ := gr_ok r2 hS g (List.zipWith (fun a b => [a, b]) xs ys) (by rw [List.length_zipWith, List.length_zipWith, al1.length, al2.length]) fun i d xs' e1 e2 => by
      obtain ⟨u1, u2, q1, q2, rfl⟩ := zw2_get e1
      obtain ⟨w1, w2, q3, q4, rfl⟩ := zw2_get e2
      exact .cons (all_get al1 q1 q3) (.cons (all_get al2 q2 q4) .nil)
    rw [← zip2_map] at al3
    exact made_ok (C := C) (x1.trans x2) hS r2.fa x3 r3 (g.at_).1 al3 h2
  · exact h2.elim
theorem te_lqz3 {G : Glob} {mt : Bool} {a b c : Ex} {a' b' c' g g2 : Expr} {p2 pos : Pos} (hc : X.calm = true) (hfree : ∀ x, G.free.contains x = true → X.mg x = none) (h1 : ckBlt G X.env.scope "list" g = true) (h2 : ckBlt G X.env.scope "zip" g2 = true) (hn : notStar a' = true) (hn2 : notStar b' = true) (hn3 : notStar c' = true) (ha : PE X a' (TE C X.K a)) (hb : PE X b' (TE C X.K b)) (hcc : PE X c' (TE C X.K c)) :
    PE X (.Call g [.Call g2 [a', b', c'] [] p2] [] pos) (TE C X.K (.lq mt (.zip3 a b c))) := by
  obtain ⟨x, p, rfl⟩ := ck_name h1
  obtain ⟨y, q, rfl⟩ := ck_name h2
  obtain ⟨e1, e2, e3, e4⟩ := blt_name h1
  obtain ⟨f1, f2, f3, f4⟩ := blt_name h2
  subst e1 f1
  refine PE.imp (pe_lz3 hc e2 (hfree _ e4) f2 (hfree _ f4) (pa_cons ha (two_list hb hcc hn2 hn3) (star_one hn)) (star_one hn) (star_any (by rw [List.all_cons, List.all_cons, hn2, hn3]; rfl))) fun σ H Q ⟨F, ρ, m, env, r, re, h⟩ => ?_
  rw [evE, evQ, Out_bind, Out_bind] at h
  refine TE.run r re (h.mono (fun d m1 h1 x H1 ρ1 x1 r1 re1 d1 => ?_) fun _ _ _ z => z)
  rw [Out_bind] at h1
  refine TE.run r1 re1 (h1.mono (fun d2 m2 h2 y H2 ρ2 x2 r2 re2 dd2 => ?_) fun _ _ _ z => z)
  rw [Out_bind] at h2
  refine TE.run r2 re2 (h2.mono (fun d3 m3 h3 z H3 ρ3 x3 r3 re3 dd3 => ?_) fun _ _ _ z => z)
  split at h3
  · rename_i xs ys zs e5 e6 e7
    obtain ⟨k1, p1, vs1, rfl, hf1, al1⟩ := frz_of e5 ((d1.on x2).on x3)
    obtain ⟨k2, p2, vs2, rfl, hf2, al2⟩ := frz_of e6 (dd2.on x3)
    obtain ⟨k3, p3, vs3, rfl, hf3, al3⟩ := frz_of e7 dd3
    refine ⟨k1, k2, k3, p1, p2, p3, vs1, vs2, vs3, rfl, hf1.sq, hf2.sq, hf3.sq, fun S H' vs' hS g => ?_⟩
    obtain ⟨x4, r4, al4⟩ := gr_ok r3 hS g (zw3 xs ys zs) (by rw [zw3_len, zw3_len, al1.length, al2.length, al3.length]) fun i d xs' e1 e2 => by
      obtain ⟨u1, u2, u3, q1, q2, q3, rfl⟩ := zw3_get e1
      obtain ⟨w1, w2, w3, q4, q5, q6, rfl⟩ := zw3_get e2
      exact .cons (all_get al1 q1 q4) (.cons (all_get al2 q2 q5) (.cons (all_get al3 q3 q6) .nil))
    rw [← zip3_map] at al4
    exact made_ok (C := C) ((x1.trans x2).trans x3) hS r3.fa x4 r4 (g.at_).1 al4 h3
  · exact h3.elim
theorem te_lqof {G : Glob} {mt : Bool} {a : Ex} {a' g : Expr} {pos : Pos} (hfree : ∀ x, G.free.contains x = true → X.mg x = none) (h1 : ckBlt G X.env.scope "list" g = true) (hn : notStar a' = true) (ha : PE X a' (TE C X.K a)) :
    PE X (.Call g [a'] [] pos) (TE C X.K (.lq mt (.of a))) := by
  obtain ⟨x, p, rfl⟩ := ck_name h1
  obtain ⟨e1, e2, e3, e4⟩ := blt_name h1
  refine PE.imp (callB_any (id := .list) call_list_of e2 (hfree x e4) e1 e3 (one_list ha hn) hn rfl) fun σ H Q ⟨F, ρ, m, env, r, re, h⟩ => ?_
  rw [evE, evQ, Out_bind, Out_bind] at h
  refine TE.run r re (h.mono (fun d m1 h1 x H1 ρ1 x1 r1 re1 d1 => ?_) fun _ _ _ z => z)
  obtain ⟨vs, e5, h3⟩ := Out_ofO h1
  obtain ⟨k, p1, vs1, rfl, hf, al⟩ := frz_of e5 d1
  have q := Ans.newL (mt := mt) (W := WF) (h3.mono (fun _ _ q => Ans.on x1 q) fun _ _ _ z => z) r1 al
  cases k with
  | true => exact ⟨p1, vs1, rfl, .inl hf.sq, q⟩
  | false => exact ⟨p1, vs1, rfl, .inr hf.sq, q⟩
end
end MP
/-! MP: list comprehensions. -/
namespace MP
open PySem PySem.Spec PyProof.Rows L2

def lcF (C : Calls) (elt : Ex) (tg : Tg) (c : Oe) (e : Env) (v : Val) (m : Mem) : R (Option Val) := match bindTg tg v e with
  | some e2 => (match c with
    | .non => (evE C elt e2 m).bind fun w m3 => .ok (some w) m3
    | .som c => (evE C c e2 m).bind fun b m3 => (match b with
      | .bl true => (evE C elt e2 m3).bind fun w m4 => .ok (some w) m4
      | .bl false => .ok none m3
      | _ => .bad))
  | none => .bad
theorem ev_lc {C : Calls} {mt : Bool} {elt : Ex} {tg : Tg} {q : Sq} {c : Oe} {own : List Nat} {e : Env} {m : Mem} :
    evE C (.lc mt elt tg q c own) e m = (evQ C q e m).bind fun vs m1 => (mapR (lcF C elt tg c (wipeE e own)) vs m1).bind fun ws m3 => newL mt ws m3 := by
  rw [evE]
  rfl
theorem wipe_sub {σ : L2.St} {ws : List Nat} : ∀ {vs : List Nat}, (∀ i ∈ vs, i ∈ ws) → L2.wipe (L2.wipe σ vs) ws = L2.wipe σ ws
  | [], _ => rfl
  | v :: vs, h => by
    show L2.wipe ((L2.wipe σ vs).set v none) ws = _
    rw [wipe_set (h v List.mem_cons_self)]
    exact wipe_sub fun i hi => h i (List.mem_cons_of_mem _ hi)
def TC (C : Calls) (K : PySem.W.Frag) : Oe → L2.TT
  | .non => tYes
  | .som c => TT C K c
section
variable {C : Calls} {X : Cx}
theorem lc_turn {K : PySem.W.Frag} {F' : Addr → Prop} {elt : Ex} {tg : Tg} {c : Oe} {own : List Nat} {e0 : Env} {σ : L2.St} {ρ2 : Rho} {m2 : Mem} {H' : Hp} {d : Val} {x : V} {Nx : Hp → Prop} {D : Addr} {P : Option Val → Mem → Prop}
    (h2 : (lcF C elt tg c e0 d m2).Out P WF) (r3 : Rel K F' ρ2 H' m2) (re3 : RelE K F' ρ2 H' e0 (L2.wipe σ own)) (dn : Den K F' ρ2 H' d x) (hin : tgIn tg own = true)
    (hno : ∀ m3 ρ3 H3, P none m3 → Ext D0 ρ2 H' ρ3 H3 → Rel K F' ρ3 H3 m3 → Nx H3)
    (hye : ∀ w m3 ρ3 H3 y, P (some w) m3 → Ext D0 ρ2 H' ρ3 H3 → Rel K F' ρ3 H3 m3 → Den K F' ρ3 H3 w y → ∃ acc, H3 D = some (.lst acc) ∧ acc.length < sizeLine ∧ Nx (upd H3 D (.lst (acc ++ [y])))) :
    tgG K tg x (L2.wipe σ own) H' fun σ2 H2 => L2.wipe σ2 own = L2.wipe σ own ∧ TC C K c σ2 H2 fun b H3 =>
      if b = true then TE C K elt σ2 H3 fun y H4 => ∃ acc, H4 D = some (.lst acc) ∧ acc.length < sizeLine ∧ Nx (upd H4 D (.lst (acc ++ [y]))) else Nx H3 := by
  unfold lcF at h2
  split at h2
  · rename_i e2 eb
    refine bind_run (own := own) eb re3 dn fun σ2 re2 w2 => ⟨(w2 hin).trans (wipe_sub fun i hi => hi), ?_⟩
    cases c with
    | non =>
      show (fun b H3 => if b = true then TE C K elt σ2 H3 fun y H4 => ∃ acc, H4 D = some (.lst acc) ∧ acc.length < sizeLine ∧ Nx (upd H4 D (.lst (acc ++ [y]))) else Nx H3) true H'
      refine iteT ?_
      have h2 : ((evE C elt e2 m2).bind fun w m3 => .ok (some w) m3).Out P WF := h2
      rw [Out_bind] at h2
      refine TE.run r3 re2 (h2.mono (fun w m4 h4 y H4 ρ4 x4 r4 re4 d4 => ?_) fun _ _ _ z => z)
      exact hye w m4 ρ4 H4 y h4 x4 r4 d4
    | som c =>
      have h2 : ((evE C c e2 m2).bind fun b m3 => (match b with
        | .bl true => (evE C elt e2 m3).bind fun w m4 => .ok (some w) m4
        | .bl false => .ok none m3
        | _ => .bad)).Out P WF := h2
      rw [Out_bind] at h2
      refine TE.run r3 re2 (h2.mono (fun w m4 h4 y H4 ρ4 x4 r4 re4 d4 => ?_) fun _ _ _ z => z)
      split at h4
      · cases d4
        refine ⟨true, rfl, ?_⟩
        refine iteT ?_
        rw [Out_bind] at h4
        refine TE.run r4 re4 (h4.mono (fun w m5 h5 y H5 ρ5 x5 r5 re5 d5 => ?_) fun _ _ _ z => z)
        exact hye w m5 ρ5 H5 y h5 (x4.trans x5) r5 d5
      · cases d4
        refine ⟨false, rfl, ?_⟩
        refine iteF ?_
        exact hno m4 ρ4 H4 h4 x4 r4
      · exact h4.elim
  · exact h2.elim
theorem te_lc {mt : Bool} {elt : Ex} {tg : Tg} {q : Sq} {c : Oe} {own : List Nat} {own' : List (Str × Nat)} {elt' tg' it' : Expr} {ifs' : List Expr} {scope : Scope} {pos : Pos} (hc : X.calm = true) (hN : X.N.Nodup) (hi : PI X tg' it' (TQ C X.K q)) (ok : BlkOk X.N X.env.scope scope own') (ho : own'.map (·.2) = own) (hin : tgIn tg own = true)
    (hg : ∀ (s : Shared) (H : Hp) (c : Addr) (cl : List (Str × Addr)) (fp : List Addr), PG (X.blk s H scope (compEnvC scope cl c X.env) fp) tg' (tgG X.K tg))
    (ht : ∀ (s : Shared) (H : Hp) (a : Addr) (cl : List (Str × Addr)) (fp : List Addr), PTs (X.blk s H scope (compEnvC scope cl a X.env) fp) ifs' (TC C X.K c))
    (he : ∀ (s : Shared) (H : Hp) (a : Addr) (cl : List (Str × Addr)) (fp : List Addr), PE (X.blk s H scope (compEnvC scope cl a X.env) fp) elt' (TE C X.K elt))
    (hs : ∀ x, foldedSetIterable it' X.env x = pure x) :
    (∀ (s : Prop), s → s) ∧ PE X (.ListComp elt' [⟨tg', it', ifs', 0⟩] scope pos) (TE C X.K (.lc mt elt tg q c own)) ∧
    ∀ {i : Nat} {y : Str} {py spos : Pos}, X.N[i]? = some y → X.env.scope.names.lookup y = some .local → swapsWith (.ListComp elt' [⟨tg', it', ifs', 0⟩] scope pos) (some (.Name y py)) spos.line X.env = pure true →
      PS X (.Assign [.Name y py] (.ListComp elt' [⟨tg', it', ifs', 0⟩] scope pos) spos) (tAsg (TE C X.K (.lc mt elt tg q c own)) (gName i)) := by
  have key : ∀ σ H Q, TE C X.K (.lc mt elt tg q c own) σ H Q → tLc (TQ C X.K q) (tgG X.K tg) (TC C X.K c) (TE C X.K elt) (own'.map (·.2)) σ H Q := by
    intro σ H Q ⟨F, ρ, m, env, r, re, h⟩
    rw [ho, ev_lc, Out_bind] at *
    refine TQ.run r re (h.mono (fun vs m1 h1 J H1 ρ1 x1 r1 re1 wk hz => ?_) fun _ _ _ z => z)
    rw [Out_bind] at h1
    intro D hD
    refine ⟨fun i n H5 => ∃ ρ2 m2 acc ds, n = vs.length - i ∧ i ≤ vs.length ∧ Ext D0 ρ1 H1 ρ2 H5 ∧ Rel X.K (FD F D) ρ2 H5 m2 ∧ H5 D = some (.lst acc) ∧ DenAll X.K (FD F D) ρ2 H5 ds acc ∧ ds.length ≤ i ∧
      (mapR (lcF C elt tg c (wipeE env own)) (vs.drop i) m2).Out (fun ws m3 => (newL mt (ds ++ ws) m3).Out (Ans X.K F ρ H Q) WF) WF,
      ⟨vs.length, ρ1, m1, [], [], rfl, Nat.zero_le _, Ext.laid hD, r1.beside hD, upd_same, .nil, Nat.le_refl _, h1⟩, ?_⟩
    rintro i n H5 ⟨ρ2, m2, acc, ds, rfl, hi, x2, r2, hD2, al, hl, h2⟩
    by_cases hlt : i < vs.length
    · refine .inr ⟨wk.go D0 (FD F D) ρ2 H5 m2 i x2 (fun _ z => z.elim) r2 hlt, fun H6 => ∃ ρ2 m2 acc ds, i + 1 ≤ vs.length ∧ Ext D0 ρ1 H1 ρ2 H6 ∧ Rel X.K (FD F D) ρ2 H6 m2 ∧ H6 D = some (.lst acc) ∧ DenAll X.K (FD F D) ρ2 H6 ds acc ∧ ds.length ≤ i + 1 ∧
        (mapR (lcF C elt tg c (wipeE env own)) (vs.drop (i + 1)) m2).Out (fun ws m3 => (newL mt (ds ++ ws) m3).Out (Ans X.K F ρ H Q) WF) WF,
        fun H6 ⟨ρ2, m2, acc, ds, a, b, c, d, e, f, g⟩ => ⟨vs.length - (i + 1), by omega, ρ2, m2, acc, ds, rfl, a, b, c, d, e, f, g⟩, fun x H6 y => ?_⟩
      obtain ⟨d, hd, x3, r3, dn⟩ := wk.yld D0 (FD F D) ρ2 H5 m2 i x H6 x2 (fun _ z => z.elim) (fun a nf z => by
        rcases z with z | z
        · exact (nf z).elim
        · rw [z]; exact hD) r2 y hlt
      have hdr : vs.drop i = d :: vs.drop (i + 1) := by
        rw [List.drop_eq_getElem_cons hlt]
        rw [List.getElem?_eq_getElem hlt] at hd
        injection hd with hd
        rw [hd]
      rw [hdr, mapR, Out_bind] at h2
      have re3 : RelE X.K (FD F D) ρ2 H6 (wipeE env own) (L2.wipe σ own) := ((re1.ext (F' := FD F D) (x2.trans x3) (fun _ z => z.elim) fun a nf z => by
        rcases z with z | z
        · exact (nf z).elim
        · rw [z]; exact hD).wipe own)
      have nal : ∀ {ρ3 : Rho} {H3 : Hp} {m3 : Mem}, Rel X.K (FD F D) ρ3 H3 m3 → ¬ Al ρ3 D := fun r => r.fal D (.inr rfl)
      have hD3 : ∀ {ρ3 : Rho} {H3 : Hp}, Ext D0 ρ2 H6 ρ3 H3 → H3 D = some (.lst acc) := fun x4 => x4.keep D _ (x3.keep D _ hD2 (nal r2) id) (nal r3) id
      refine lc_turn (D := D) h2 r3 re3 dn hin (fun m3 ρ3 H3 p x4 r4 => ?_) fun w m3 ρ3 H3 yv p x4 r4 d4 => ?_
      · rw [Out_bind] at p
        exact ⟨ρ3, m3, acc, ds, hlt, x2.trans (x3.trans x4), r4, hD3 x4, (al.on x3).on x4, Nat.le_succ_of_le hl, p⟩
      · rw [Out_bind] at p
        have e4 := hD3 x4
        have lz : acc.length < sizeLine := by rw [← al.length]; omega
        refine ⟨acc, e4, lz, ρ3, m3, acc ++ [yv], ds ++ [w], hlt, (x2.trans (x3.trans x4)).newAt hD, r4.atD e4, upd_same, DenAll.atD e4 (((al.on x3).on x4).append (.cons d4 .nil)), by simp; exact hl, p.mono (fun ws m5 p => ?_) fun _ _ _ z => z⟩
        have e : (ds ++ [w]) ++ ws = ds ++ (w :: ws) := by simp
        rw [e]
        exact p
    · have e : i = vs.length := by omega
      refine .inl ⟨wk.stop D0 (FD F D) ρ2 H5 m2 i x2 (fun _ z => z.elim) r2 e, ?_⟩
      rw [e, List.drop_length] at h2
      have h2 : (newL mt (ds ++ []) m2).Out (Ans X.K F ρ H Q) WF := h2
      rw [List.append_nil] at h2
      exact made_ok (C := C) x1 hD r1.fa x2 r2 hD2 al h2
  refine ⟨fun _ h => h, PE.imp (pe_lc hc hN hi ok hg ht he hs) key, fun hy hyl hsw => ?_⟩
  exact PS.imp (ps_setLc hc hN hy hyl hsw hi ok hg ht he hs) fun σ H D h => key _ _ _ h
end
end MP
/-! MP: statements. -/
namespace MP
open PySem PySem.Spec PyProof.Rows L2

/-- what is wanted of a flow -/
def AnsF (K : PySem.W.Frag) (F : Addr → Prop) (ρ : Rho) (H : Hp) (D : L2.Ends) (fl : Fl) (m : Mem) : Prop := match fl with
  | .nx e => ∀ σ' H' ρ', Ext D0 ρ H ρ' H' → Rel K F ρ' H' m → RelE K F ρ' H' e σ' → D.nx σ' H'
  | .bk e => ∀ σ' H' ρ', Ext D0 ρ H ρ' H' → Rel K F ρ' H' m → RelE K F ρ' H' e σ' → D.bk σ' H'
  | .ct e => ∀ σ' H' ρ', Ext D0 ρ H ρ' H' → Rel K F ρ' H' m → RelE K F ρ' H' e σ' → D.ct σ' H'
  | .rt d => ∀ v H' ρ', Ext D0 ρ H ρ' H' → Rel K F ρ' H' m → Den K F ρ' H' d v → D.rt v H'
theorem AnsF.on {K : PySem.W.Frag} {F : Addr → Prop} {ρ ρ' : Rho} {H H' : Hp} {D : L2.Ends} {fl : Fl} {m : Mem} (x : Ext D0 ρ H ρ' H') (h : AnsF K F ρ H D fl m) : AnsF K F ρ' H' D fl m := by
  cases fl with
  | nx e => exact fun σ2 H2 ρ2 y => h σ2 H2 ρ2 (x.trans y)
  | bk e => exact fun σ2 H2 ρ2 y => h σ2 H2 ρ2 (x.trans y)
  | ct e => exact fun σ2 H2 ρ2 y => h σ2 H2 ρ2 (x.trans y)
  | rt d => exact fun σ2 H2 ρ2 y => h σ2 H2 ρ2 (x.trans y)
def SS (C : Calls) (K : PySem.W.Frag) (s : Sm) : L2.TS := fun D σ H => ∃ F ρ m env, Rel K F ρ H m ∧ RelE K F ρ H env σ ∧ (exS C s env m).Out (AnsF K F ρ H D) WF
def SB (C : Calls) (K : PySem.W.Frag) (s : Sms) : L2.TS := fun D σ H => ∃ F ρ m env, Rel K F ρ H m ∧ RelE K F ρ H env σ ∧ (exSs C s env m).Out (AnsF K F ρ H D) WF
section
variable {C : Calls} {X : Cx} {a b c e : Ex} {a' b' c' e' : Expr} {pos : Pos} {es : Exs} {es' : List Expr}
theorem out_on {K : PySem.W.Frag} {F : Addr → Prop} {ρ ρ' : Rho} {H H' : Hp} {D : L2.Ends} {r : R Fl} (x : Ext D0 ρ H ρ' H') (h : r.Out (AnsF K F ρ H D) WF) : r.Out (AnsF K F ρ' H' D) WF := h.mono (fun _ _ q => AnsF.on x q) fun _ _ _ z => z
theorem sb_nil : PSs X [] (SB C X.K .nil) := PSs.imp pss_nil fun D σ H ⟨F, ρ, m, env, r, re, h⟩ => by
  rw [exSs] at h
  exact (show AnsF X.K F ρ H D (.nx env) m from h) σ H ρ Ext.refl r re
theorem sb_cons {s : Sm} {ss : Sms} {s' : Stmt} {ss' : List Stmt} (h1 : PS X s' (SS C X.K s)) (h2 : PSs X ss' (SB C X.K ss)) : PSs X (s' :: ss') (SB C X.K (.cons s ss)) := PSs.imp (pss_cons h1 h2) fun D σ H ⟨F, ρ, m, env, r, re, h⟩ => by
  rw [exSs, Out_bind] at h
  refine ⟨F, ρ, m, env, r, re, h.mono (fun fl m1 h1 => ?_) fun _ _ _ z => z⟩
  cases fl with
  | nx e => exact fun σ2 H2 ρ2 x r2 re2 => ⟨F, ρ2, m1, e, r2, re2, out_on x h1⟩
  | bk e => exact h1
  | ct e => exact h1
  | rt d => exact h1
theorem set_same {α : Type} : ∀ {l : List α} {i : Nat} {a : α}, l[i]? = some a → l.set i a = l
  | [], _, _, h => by simp at h
  | b :: l, 0, a, h => by
    have h : some b = some a := h
    cases h
    rfl
  | b :: l, i + 1, a, h => by
    rw [List.set_cons_succ, set_same (l := l) (by simpa using h)]
/-- a list of the memory is frozen here -/
theorem sb_gfz {i : Nat} {ss : Sms} {ss' : List Stmt} (h2 : PSs X ss' (SB C X.K ss)) : PSs X ss' (SB C X.K (.gfz i ss)) := PSs.imp h2 fun D σ H ⟨F, ρ, m, env, r, re, h⟩ => by
  rw [exSs] at h
  split at h
  · rename_i l he
    split at h
    · rename_i xs hm
      obtain ⟨v, hv, dv⟩ := re.at_ i _ he
      have re2 := (re.on Ext.freeze).set (i := i) (Den.frozen r hm dv)
      rw [set_same hv] at re2
      exact ⟨F, ρ.set l none, m.set l .dead, _, r.freeze, re2, out_on Ext.freeze h⟩
    · exact h.elim
  · exact h.elim
theorem ss_asg {tg : Tg} {tg' : Expr} {C' : Prop} (h : PS X (.Assign [tg'] e' pos) (tAsg (TE C X.K e) (tgG X.K tg))) : PS X (.Assign [tg'] e' pos) (SS C X.K (.asg tg e)) := PS.imp h fun D σ H ⟨F, ρ, m, env, r, re, h⟩ => by
  rw [exS, Out_bind] at h
  refine TE.run r re (h.mono (fun d m1 h1 x H1 ρ1 x1 r1 re1 d1 => ?_) fun _ _ _ z => z)
  split at h1
  · rename_i e2 eb
    exact bind_run (own := []) eb re1 d1 fun σ2 re2 _ => (show AnsF X.K F ρ H D (.nx e2) m1 from h1) σ2 H1 ρ1 x1 r1 re2
  · exact h1.elim
theorem ss_exp (he : PE X e' (TE C X.K e)) (hs : swapsWith e' none pos.line X.env = pure false) : PS X (.Expr e' pos) (SS C X.K (.exp e)) := PS.imp (ps_expr he hs) fun D σ H ⟨F, ρ, m, env, r, re, h⟩ => by
  rw [exS, Out_bind] at h
  exact TE.run r re (h.mono (fun d m1 h1 x H1 ρ1 x1 r1 re1 d1 => (show AnsF X.K F ρ H D (.nx env) m1 from h1) σ H1 ρ1 x1 r1 re1) fun _ _ _ z => z)
theorem ss_ret (he : PE X e' (TE C X.K e)) : PS X (.Return (some e') pos) (SS C X.K (.ret e)) := PS.imp (ps_ret he) fun D σ H ⟨F, ρ, m, env, r, re, h⟩ => by
  rw [exS, Out_bind] at h
  exact TE.run r re (h.mono (fun d m1 h1 x H1 ρ1 x1 r1 re1 d1 => (show AnsF X.K F ρ H D (.rt d) m1 from h1) x H1 ρ1 x1 r1 d1) fun _ _ _ z => z)
theorem ss_retN : PS X (.Return none pos) (SS C X.K (.ret (.cst .non))) := PS.imp ps_retN fun D σ H ⟨F, ρ, m, env, r, re, h⟩ => by
  rw [exS, evE] at h
  exact (show AnsF X.K F ρ H D (.rt .non) m from h) .non H ρ Ext.refl r .non
theorem ss_ite {s t : Sms} {s' t' : List Stmt} (hc : PT X c' (TT C X.K c)) (ha : PSs X s' (SB C X.K s)) (hb : PSs X t' (SB C X.K t)) : PS X (.If c' s' t' pos) (SS C X.K (.ite c s t)) := PS.imp (ps_if hc ha hb) fun D σ H ⟨F, ρ, m, env, r, re, h⟩ => by
  rw [exS, Out_bind] at h
  refine TE.run r re (h.mono (fun d m1 h1 x H1 ρ1 x1 r1 re1 d1 => ?_) fun _ _ _ z => z)
  split at h1
  · cases d1
    refine ⟨true, rfl, ?_⟩
    refine iteT ?_
    exact ⟨F, ρ1, m1, env, r1, re1, out_on x1 h1⟩
  · cases d1
    refine ⟨false, rfl, ?_⟩
    refine iteF ?_
    exact ⟨F, ρ1, m1, env, r1, re1, out_on x1 h1⟩
  · exact h1.elim
theorem ss_pass : PS X (.Pass pos) (SS C X.K .pss) := PS.imp ps_pass fun D σ H ⟨F, ρ, m, env, r, re, h⟩ => by
  rw [exS] at h
  exact (show AnsF X.K F ρ H D (.nx env) m from h) σ H ρ Ext.refl r re
theorem ss_brk : PS X (.Break pos) (SS C X.K .brk) := PS.imp ps_break fun D σ H ⟨F, ρ, m, env, r, re, h⟩ => by
  rw [exS] at h
  exact (show AnsF X.K F ρ H D (.bk env) m from h) σ H ρ Ext.refl r re
theorem ss_cnt : PS X (.Continue pos) (SS C X.K .cnt) := PS.imp ps_continue fun D σ H ⟨F, ρ, m, env, r, re, h⟩ => by
  rw [exS] at h
  exact (show AnsF X.K F ρ H D (.ct env) m from h) σ H ρ Ext.refl r re
theorem ss_rse {st : Stmt} {k : Nat} : PS X st (SS C X.K (.rse k e)) := PS.imp ps_never fun D σ H ⟨F, ρ, m, env, r, re, h⟩ => by
  rw [exS] at h
  exact h
theorem ss_whl {s : Sms} {s' : List Stmt} (hp : PassesOwn (model X.prog X.w) X.A X.env X.xe) (hc : PT X c' (TT C X.K c)) (hb : PSs X s' (SB C X.K s)) : PS X (.While c' s' [] pos) (SS C X.K (.whl c s)) := PS.imp (ps_while hp hc hb) fun D σ H ⟨F, ρ, m, env, r, re, h⟩ => by
  rw [exS] at h
  generalize FUEL = N at h
  refine ⟨fun n σ2 H2 => ∃ ρ2 m2 env2, Ext D0 ρ H ρ2 H2 ∧ Rel X.K F ρ2 H2 m2 ∧ RelE X.K F ρ2 H2 env2 σ2 ∧ (whlGo (evE C c) (exSs C s) n env2 m2).Out (AnsF X.K F ρ H D) WF, ⟨N, ρ, m, env, Ext.refl, r, re, h⟩, ?_⟩
  rintro n σ2 H2 ⟨ρ2, m2, env2, x2, r2, re2, h2⟩
  cases n with
  | zero => exact h2.elim
  | succ n =>
    rw [whlGo, Out_bind] at h2
    refine TE.run r2 re2 (h2.mono (fun d m3 h3 v H3 ρ3 x3 r3 re3 d3 => ?_) fun _ _ _ z => z)
    split at h3
    · cases d3
      refine ⟨true, rfl, ?_⟩
      refine iteT ?_
      rw [Out_bind] at h3
      refine ⟨fun σ4 H4 => ∃ ρ4 m4 env4, Ext D0 ρ H ρ4 H4 ∧ Rel X.K F ρ4 H4 m4 ∧ RelE X.K F ρ4 H4 env4 σ4 ∧ (whlGo (evE C c) (exSs C s) n env4 m4).Out (AnsF X.K F ρ H D) WF, fun σ4 H4 q => ⟨n, Nat.lt_succ_self n, q⟩, F, ρ3, m3, env2, r3, re3, h3.mono (fun fl m4 h4 => ?_) fun _ _ _ z => z⟩
      cases fl with
      | nx e4 => exact fun σ5 H5 ρ5 x5 r5 re5 => ⟨ρ5, m4, e4, (x2.trans x3).trans x5, r5, re5, h4⟩
      | ct e4 => exact fun σ5 H5 ρ5 x5 r5 re5 => ⟨ρ5, m4, e4, (x2.trans x3).trans x5, r5, re5, h4⟩
      | bk e4 => exact fun σ5 H5 ρ5 x5 r5 re5 => (show AnsF X.K F ρ H D (.nx e4) m4 from h4) σ5 H5 ρ5 ((x2.trans x3).trans x5) r5 re5
      | rt d4 => exact fun σ5 H5 ρ5 x5 r5 re5 => (show AnsF X.K F ρ H D (.rt d4) m4 from h4) σ5 H5 ρ5 ((x2.trans x3).trans x5) r5 re5
    · cases d3
      refine ⟨false, rfl, ?_⟩
      refine iteF ?_
      exact (show AnsF X.K F ρ H D (.nx env2) m3 from h3) σ2 H3 ρ3 (x2.trans x3) r3 re3
    · exact h3.elim
theorem ss_for {tg : Tg} {q : Sq} {s : Sms} {tg' it' : Expr} {s' : List Stmt} (hp : PassesOwn (model X.prog X.w) X.A X.env X.xe) (hcm : X.calm = true) (hi : PI X tg' it' (TQ C X.K q)) (hg : PG X tg' (tgG X.K tg)) (hb : PSs X s' (SB C X.K s)) (hs : ∀ x, foldedSetIterable it' X.env x = pure x) :
    PS X (.For tg' it' s' [] pos) (SS C X.K (.fr tg q s)) := PS.imp (ps_for hp hcm hi hg hb hs) fun D σ H ⟨F, ρ, m, env, r, re, h⟩ => by
  rw [exS, Out_bind] at h
  refine TQ.run r re (h.mono (fun vs m1 h1 J H1 ρ1 x1 r1 re1 wk hz => ?_) fun _ _ _ z => z)
  refine ⟨fun i n σ2 H2 => ∃ ρ2 m2 env2, n = vs.length - i ∧ i ≤ vs.length ∧ Ext D0 ρ1 H1 ρ2 H2 ∧ Rel X.K F ρ2 H2 m2 ∧ RelE X.K F ρ2 H2 env2 σ2 ∧ (frGo tg (exSs C s) (vs.drop i) env2 m2).Out (AnsF X.K F ρ H D) WF,
    ⟨vs.length, ρ1, m1, env, rfl, Nat.zero_le _, Ext.refl, r1, re1, h1⟩, ?_⟩
  rintro i n σ2 H2 ⟨ρ2, m2, env2, rfl, hle, x2, r2, re2, h2⟩
  by_cases hlt : i < vs.length
  · refine .inr ⟨wk.go D0 F ρ2 H2 m2 i x2 (fun _ z => z.elim) r2 hlt, fun σ4 H4 => ∃ ρ4 m4 env4, i + 1 ≤ vs.length ∧ Ext D0 ρ1 H1 ρ4 H4 ∧ Rel X.K F ρ4 H4 m4 ∧ RelE X.K F ρ4 H4 env4 σ4 ∧ (frGo tg (exSs C s) (vs.drop (i + 1)) env4 m4).Out (AnsF X.K F ρ H D) WF,
      fun σ4 H4 ⟨ρ4, m4, env4, a, b, c, d, e⟩ => ⟨vs.length - (i + 1), by omega, ρ4, m4, env4, rfl, a, b, c, d, e⟩, fun x H3 y => ?_⟩
    obtain ⟨d, hd, x3, r3, dn⟩ := wk.yld D0 F ρ2 H2 m2 i x H3 x2 (fun _ z => z.elim) (fun a nf z => (nf z).elim) r2 y hlt
    have hdr : vs.drop i = d :: vs.drop (i + 1) := by
      rw [List.drop_eq_getElem_cons hlt]
      rw [List.getElem?_eq_getElem hlt] at hd
      injection hd with hd
      rw [hd]
    rw [hdr, frGo] at h2
    split at h2
    · exact h2.elim
    · rename_i e3 eb
      rw [Out_bind] at h2
      have x13 := x2.trans x3
      refine bind_run (own := []) eb (re2.on x3) dn fun σ3 re3 _ => ⟨F, ρ2, m2, e3, r3, re3, h2.mono (fun fl m4 h4 => ?_) fun _ _ _ z => z⟩
      cases fl with
      | nx e4 => exact fun σ5 H5 ρ5 x5 r5 re5 => ⟨ρ5, m4, e4, hlt, x13.trans x5, r5, re5, h4⟩
      | ct e4 => exact fun σ5 H5 ρ5 x5 r5 re5 => ⟨ρ5, m4, e4, hlt, x13.trans x5, r5, re5, h4⟩
      | bk e4 => exact fun σ5 H5 ρ5 x5 r5 re5 => (show AnsF X.K F ρ H D (.nx e4) m4 from h4) σ5 H5 ρ5 ((x1.trans x13).trans x5) r5 re5
      | rt d4 => exact fun σ5 H5 ρ5 x5 r5 re5 => (show AnsF X.K F ρ H D (.rt d4) m4 from h4) σ5 H5 ρ5 ((x1.trans x13).trans x5) r5 re5
  · have e : i = vs.length := by omega
    rw [e, List.drop_length] at h2
    exact .inl ⟨wk.stop D0 F ρ2 H2 m2 i x2 (fun _ z => z.elim) r2 e, (show AnsF X.K F ρ H D (.nx env2) m2 from h2) σ2 H2 ρ2 (x1.trans x2) r2 re2⟩
theorem ss_seti {o i : Ex} {o' i' : Expr} {p2 : Pos} (ho : PE X o' (TE C X.K o)) (hi : PE X i' (TE C X.K i)) (he : PE X e' (TE C X.K e)) (hpi : plainIx i' = true) (hs : swapsWithSole [.Subscript o' i' p2] e' pos.line X.env = pure false) : PS X (.Assign [.Subscript o' i' p2] e' pos) (SS C X.K (.seti o i e)) := by
  have hg : PG X (.Subscript o' i' p2) (gSub (TE C X.K o) (TE C X.K i) rSetL) := pg_sub ho hi set_list (by cases i' <;> first | (intro _; rfl) | cases hpi)
  refine PS.imp (ps_asg he hg hs) fun D σ H ⟨F, ρ, m, env, r, re, h⟩ => ?_
  rw [exS, Out_bind] at h
  refine TE.run r re (h.mono (fun d m1 h1 x H1 ρ1 x1 r1 re1 d1 => ?_) fun _ _ _ z => z)
  rw [Out_bind] at h1
  refine TE.run r1 re1 (h1.mono (fun d2 m2 h2 x H2 ρ2 x2 r2 re2 dd2 => ?_) fun _ _ _ z => z)
  rw [Out_bind] at h2
  refine TE.run r2 re2 (h2.mono (fun d3 m3 h3 x H3 ρ3 x3 r3 re3 dd3 => ?_) fun _ _ _ z => z)
  split at h3
  · split at h3
    · rename_i n j _ xs e3
      split at h3
      · rename_i hj
        rw [Bool.and_eq_true] at hj
        have h0 := of_decide_eq_true hj.1
        have h1 := of_decide_eq_true hj.2
        obtain ⟨p, ys, e4, e5, e6, al⟩ := r3.lst e3 (dd2.on x3)
        cases dd3
        subst e4
        refine ⟨p, ys, j, j.toNat, rfl, rfl, e6, ?_, ?_⟩
        · rw [← al.length]
          unfold ixN
          rw [if_pos h0, if_pos (by omega)]
        · exact (show AnsF X.K F ρ H D (.nx env) (m3.set n (.lst (xs.set j.toNat d))) from h3) σ _ ρ3 (((x1.trans x2).trans x3).trans (Ext.change e5 e6)) (r3.change e5 e6 (al.set _ ((d1.on x2).on x3))) (re3.on (Ext.change e5 e6))
      · exact h3.elim
    · exact h3.elim
  · exact h3.elim
end
end MP
/-! MP: assignments of several; which way a list display of a comprehension is stored. -/
namespace MP
open PySem PySem.Spec PyProof.Rows L2

def noComp : Expr → Bool
  | .ListComp .. => false
  | .SetComp .. => false
  | .DictComp .. => false
  | _ => true
theorem sw_no {e' : Expr} {t : Option Expr} {l : Nat} {env : PySem.Env} (h : noComp e' = true) : swapsWith e' t l env = pure false := by
  cases e' <;> first | rfl | cases h
/-- is a comprehension's value handed on by the exchange -/
def swB (sc : Scope) (x : Str) (p : Pos) (s : Scope) (pos : Pos) : Bool :=
  (sc.names.lookup x == some .local) && (p.line == pos.line) && !(s.names.any fun (n, k) => n == x && (k == .local || k == .cell))
def isFn (sc : Scope) : Bool := match sc.kind with
  | .function => true
  | _ => false
theorem isFn_of {sc : Scope} (h : isFn sc = true) : sc.kind = .function := by
  unfold isFn at h
  split at h
  · assumption
  · cases h
theorem bk_fn {env : PySem.Env} (h : isFn env.scope = true) : env.blockKind = .function := by
  unfold Env.blockKind
  rw [isFn_of h]
  rfl
theorem sw_lc {elt : Expr} {gs : List Comprehension} {scope : Scope} {pos py : Pos} {y : Str} {l : Nat} {env : PySem.Env} (h : isFn env.scope = true) :
    swapsWith (.ListComp elt gs scope pos) (some (.Name y py)) l env = pure (swB env.scope y py scope pos) := by
  have hb := bk_fn h
  unfold swapsWith
  simp only [hb, Expr.pos]
  rfl
def isStar : Expr → Bool
  | .Starred .. => true
  | _ => false
/-- swappedStores, as a value: none: the model says no more -/
def swSt (kind : Str → Option NameKind) (ts vs : List Expr) : Option (Option (List Str)) :=
  if !(ts.length == 2 || ts.length == 3) || vs.length != ts.length then some none
  else if vs.any isStar then some none
  else
    let line := (ts.head?.map (·.pos.line)).getD 0
    let names := ts.filterMap fun
      | .Name id pos => if kind id == some .local && pos.line == line then some id else none
      | _ => none
    if names.length != ts.length || names.eraseDups.length != names.length then some none
    else if vs.all (foldedForSure 8) then some none
    else if vs.all (constantsAlone 8) then none
    else some (some names)
/-- the same, as the model says it -/
def swSem (kind : Str → Option NameKind) (ts vs : List Expr) : Sem (Option (List Str)) :=
  if (!(ts.length == 2 || ts.length == 3) || vs.length != ts.length) = true then pure none
  else if vs.any isStar = true then pure none
  else
    let line := (ts.head?.map (·.pos.line)).getD 0
    let names := ts.filterMap fun
      | .Name id pos => if kind id == some .local && pos.line == line then some id else none
      | _ => none
    if (names.length != ts.length || names.eraseDups.length != names.length) = true then pure none
    else if vs.all (foldedForSure 8) = true then pure none
    else if vs.all (constantsAlone 8) = true then (do
      let _ ← (unsupported "assign.tuple-of-constant-expressions:order-of-the-stores" : Sem PUnit)
      pure (some names))
    else pure (some names)
theorem sem_of {kind : Str → Option NameKind} {ts vs : List Expr} {r : Option (List Str)} (h : swSt kind ts vs = some r) : swSem kind ts vs = pure r := by
  unfold swSt at h
  unfold swSem
  dsimp only at h ⊢
  split at h
  · rename_i h1; cases h; rw [if_pos h1]
  · rename_i h1
    rw [if_neg h1]
    split at h
    · rename_i h2; cases h; rw [if_pos h2]
    · rename_i h2
      rw [if_neg h2]
      split at h
      · rename_i h3; cases h; exact if_pos h3
      · rename_i h3
        refine (if_neg h3).trans ?_
        split at h
        · rename_i h4; cases h; rw [if_pos h4]
        · rename_i h4
          rw [if_neg h4]
          split at h
          · cases h
          · rename_i h5; cases h; rw [if_neg h5]
theorem sw_st {env : PySem.Env} {ts vs : List Expr} {k k2 : Nat} {p p2 : Pos} {r : Option (List Str)} (hf : isFn env.scope = true) (h : swSt env.kindOf ts vs = some r) : swappedStores [.Tuple ts k p] (.Tuple vs k2 p2) env = pure r := by
  have hb := bk_fn hf
  have hbb : (env.blockKind != ScopeKind.function) = false := by rw [hb]; rfl
  have e : swappedStores [.Tuple ts k p] (.Tuple vs k2 p2) env = swSem env.kindOf ts vs := by
    unfold swappedStores
    simp only [hbb, Bool.or_false]
    rfl
  rw [e]
  exact sem_of h
end MP
/-! MP: what a check that ends well says of the program's term. -/
namespace MP
open PySem PySem.Spec PyProof.Rows L2
section
variable {G : Glob} {N : List Str} {sc : Scope} {e' : Expr}
theorem ck_op {o : Bop} {a b : Ex} (h : ckE G N (.op o a b) sc e' = true) : ∃ a' b' p, e' = .BinOp a' (trB o) b' p ∧ ckE G N a sc a' = true ∧ ckE G N b sc b' = true := by
  cases e' with
  | BinOp a' o' b' p =>
    have h : (decide (o' = trB o) && (ckE G N a sc a' && ckE G N b sc b')) = true := h
    simp only [Bool.and_eq_true] at h
    exact ⟨a', b', p, by rw [of_decide_eq_true h.1], h.2⟩
  | _ => cases h
theorem ck_neg {a : Ex} (h : ckE G N (.neg a) sc e' = true) : ∃ a' p, e' = .UnaryOp .USub a' p ∧ ckE G N a sc a' = true := by
  cases e' with
  | UnaryOp o a' p =>
    cases o with
    | USub => exact ⟨a', p, rfl, h⟩
    | _ => cases h
  | _ => cases h
theorem ck_not {a : Ex} (h : ckE G N (.not a) sc e' = true) : ∃ a' p, e' = .UnaryOp .Not a' p ∧ ckE G N a sc a' = true := by
  cases e' with
  | UnaryOp o a' p =>
    cases o with
    | Not => exact ⟨a', p, rfl, h⟩
    | _ => cases h
  | _ => cases h
theorem ck_cmp {o : Cop} {a b : Ex} (h : ckE G N (.cmp o a b) sc e' = true) : ∃ a' b' p, e' = .Compare a' [trC o] [b'] p ∧ notSet b' = true ∧ ckE G N a sc a' = true ∧ ckE G N b sc b' = true := by
  cases e' with
  | Compare a' os bs p =>
    cases os with
    | nil => cases h
    | cons o' os =>
      cases os with
      | cons _ _ => cases bs with
        | nil => cases h
        | cons b' bs => cases bs <;> cases h
      | nil =>
        cases bs with
        | nil => cases h
        | cons b' bs =>
          cases bs with
          | cons _ _ => cases h
          | nil =>
            have h : (decide (o' = trC o) && (notSet b' && (ckE G N a sc a' && ckE G N b sc b'))) = true := h
            simp only [Bool.and_eq_true] at h
            exact ⟨a', b', p, by rw [of_decide_eq_true h.1], h.2⟩
  | _ => cases h
theorem ck_chain {o q : Cop} {a b c : Ex} (h : ckE G N (.chain o q a b c) sc e' = true) : ∃ a' b' c' p, e' = .Compare a' [trC o, trC q] [b', c'] p ∧ notSet c' = true ∧ ckE G N a sc a' = true ∧ ckE G N b sc b' = true ∧ ckE G N c sc c' = true := by
  cases e' with
  | Compare a' os bs p =>
    match os, bs, h with
    | [o', q'], [b', c'], h =>
      have h : (decide (o' = trC o) && (decide (q' = trC q) && (notSet c' && (ckE G N a sc a' && (ckE G N b sc b' && ckE G N c sc c'))))) = true := h
      simp only [Bool.and_eq_true] at h
      exact ⟨a', b', c', p, by rw [of_decide_eq_true h.1, of_decide_eq_true h.2.1], h.2.2⟩
  | _ => cases h
theorem ck_and {a b : Ex} (h : ckE G N (.and a b) sc e' = true) : ∃ a' b' r p, e' = .BoolOp .And (a' :: b' :: r) p ∧ ckE G N a sc a' = true ∧ ((r = [] ∧ ckE G N b sc b' = true) ∨ (r ≠ [] ∧ ckE G N b sc (.BoolOp .And (b' :: r) p) = true)) := by
  cases e' with
  | BoolOp o vs p =>
    cases o with
    | Or => cases h
    | And =>
      match vs, h with
      | [a', b'], h =>
        have h : (ckE G N a sc a' && ckE G N b sc b') = true := h
        rw [Bool.and_eq_true] at h
        exact ⟨a', b', [], p, rfl, h.1, .inl ⟨rfl, h.2⟩⟩
      | a' :: b' :: c' :: r, h =>
        have h : (ckE G N a sc a' && ckE G N b sc (.BoolOp .And (b' :: c' :: r) p)) = true := h
        rw [Bool.and_eq_true] at h
        exact ⟨a', b', c' :: r, p, rfl, h.1, .inr ⟨nofun, h.2⟩⟩
  | _ => cases h
theorem ck_or {a b : Ex} (h : ckE G N (.or a b) sc e' = true) : ∃ a' b' r p, e' = .BoolOp .Or (a' :: b' :: r) p ∧ ckE G N a sc a' = true ∧ ((r = [] ∧ ckE G N b sc b' = true) ∨ (r ≠ [] ∧ ckE G N b sc (.BoolOp .Or (b' :: r) p) = true)) := by
  cases e' with
  | BoolOp o vs p =>
    cases o with
    | And => cases h
    | Or =>
      match vs, h with
      | [a', b'], h =>
        have h : (ckE G N a sc a' && ckE G N b sc b') = true := h
        rw [Bool.and_eq_true] at h
        exact ⟨a', b', [], p, rfl, h.1, .inl ⟨rfl, h.2⟩⟩
      | a' :: b' :: c' :: r, h =>
        have h : (ckE G N a sc a' && ckE G N b sc (.BoolOp .Or (b' :: c' :: r) p)) = true := h
        rw [Bool.and_eq_true] at h
        exact ⟨a', b', c' :: r, p, rfl, h.1, .inr ⟨nofun, h.2⟩⟩
  | _ => cases h
theorem ck_ife {c a b : Ex} (h : ckE G N (.ife c a b) sc e' = true) : ∃ c' a' b' p, e' = .IfExp c' a' b' p ∧ ckE G N c sc c' = true ∧ tstE c c' = true ∧ ckE G N a sc a' = true ∧ ckE G N b sc b' = true := by
  cases e' with
  | IfExp c' a' b' p =>
    have h : (ckE G N c sc c' && (tstE c c' && (ckE G N a sc a' && ckE G N b sc b'))) = true := h
    simp only [Bool.and_eq_true] at h
    exact ⟨c', a', b', p, rfl, h⟩
  | _ => cases h
theorem ck_tup {es : Exs} (h : ckE G N (.tup es) sc e' = true) : ∃ es' k p, e' = .Tuple es' k p ∧ ckEs G N es sc es' = true := by
  cases e' with
  | Tuple es' k p => exact ⟨es', k, p, rfl, h⟩
  | _ => cases h
theorem ck_lst {mt : Bool} {es : Exs} (h : ckE G N (.lst mt es) sc e' = true) : ∃ es' p, e' = .List es' p ∧ ckEs G N es sc es' = true := by
  cases e' with
  | List es' p => exact ⟨es', p, rfl, h⟩
  | _ => cases h
theorem ck_idx {a b : Ex} (h : ckE G N (.idx a b) sc e' = true) : ∃ a' b' p, e' = .Subscript a' b' p ∧ plainIx b' = true ∧ ckE G N a sc a' = true ∧ ckE G N b sc b' = true := by
  cases e' with
  | Subscript a' b' p =>
    have h : (plainIx b' && (ckE G N a sc a' && ckE G N b sc b')) = true := h
    simp only [Bool.and_eq_true] at h
    exact ⟨a', b', p, rfl, h⟩
  | _ => cases h
theorem ck_sl {a : Ex} {lo hi st : Oe} (h : ckE G N (.sl a lo hi st) sc e' = true) : ∃ a' lo' hi' st' p2 p, e' = .Subscript a' (.Slice lo' hi' st' p2) p ∧ ckE G N a sc a' = true ∧ ckO G N lo sc lo' = true ∧ ckO G N hi sc hi' = true ∧ ckO G N st sc st' = true := by
  cases e' with
  | Subscript a' b' p =>
    cases b' with
    | Slice lo' hi' st' p2 =>
      have h : (ckE G N a sc a' && (ckO G N lo sc lo' && (ckO G N hi sc hi' && ckO G N st sc st'))) = true := h
      simp only [Bool.and_eq_true] at h
      exact ⟨a', lo', hi', st', p2, p, rfl, h⟩
    | _ => cases h
  | _ => cases h
theorem ck_pcall {th : Bool} {f : Nat} {es : Exs} (h : ckE G N (.pcall th f es) sc e' = true) : ∃ g as p, e' = .Call g as [] p ∧ ckFn G sc f g = true ∧ ckEs G N es sc as = true ∧ as.all notStar = true := by
  cases e' with
  | Call g as ks p =>
    cases ks with
    | cons _ _ => cases h
    | nil =>
      have h : (ckFn G sc f g && ckEs G N es sc as && as.all notStar) = true := h
      simp only [Bool.and_eq_true] at h
      exact ⟨g, as, p, rfl, h.1.1, h.1.2, h.2⟩
  | _ => cases h
theorem ck_mcall {f : Nat} {es : Exs} (h : ckE G N (.mcall f es) sc e' = true) : ∃ g as p, e' = .Call g as [] p ∧ ckFn G sc f g = true ∧ ckEs G N es sc as = true ∧ as.all notStar = true := by
  cases e' with
  | Call g as ks p =>
    cases ks with
    | cons _ _ => cases h
    | nil =>
      have h : (ckFn G sc f g && ckEs G N es sc as && as.all notStar) = true := h
      simp only [Bool.and_eq_true] at h
      exact ⟨g, as, p, rfl, h.1.1, h.1.2, h.2⟩
  | _ => cases h
theorem ck_blt {b : Blt} {e : Ex} (h : ckE G N (.blt b e) sc e' = true) : ∃ g a p, e' = .Call g [a] [] p ∧ ckBlt G sc (bName b) g = true ∧ notStar a = true ∧ ckE G N e sc a = true := by
  cases e' with
  | Call g as ks p =>
    match as, ks, h with
    | [a], [], h =>
      have h : (ckBlt G sc (bName b) g && (notStar a && ckE G N e sc a)) = true := h
      simp only [Bool.and_eq_true] at h
      exact ⟨g, a, p, rfl, h⟩
  | _ => cases h
theorem ck_blt2 {b : Blt} {e e2 : Ex} (h : ckE G N (.blt2 b e e2) sc e' = true) : ∃ g a a2 p, e' = .Call g [a, a2] [] p ∧ ckBlt G sc (bName b) g = true ∧ notStar a = true ∧ notStar a2 = true ∧ ckE G N e sc a = true ∧ ckE G N e2 sc a2 = true := by
  cases e' with
  | Call g as ks p =>
    match as, ks, h with
    | [a, a2], [], h =>
      have h : (ckBlt G sc (bName b) g && (notStar a && (notStar a2 && (ckE G N e sc a && ckE G N e2 sc a2)))) = true := h
      simp only [Bool.and_eq_true] at h
      exact ⟨g, a, a2, p, rfl, h⟩
  | _ => cases h
theorem ck_isi {t : Ty} {e : Ex} (h : ckE G N (.isi e t) sc e' = true) : ∃ g a t' p, e' = .Call g [a, t'] [] p ∧ ckBlt G sc "isinstance" g = true ∧ notStar a = true ∧ notStar t' = true ∧ ckBlt G sc (Str.ofString (tyName t)) t' = true ∧ ckE G N e sc a = true := by
  cases e' with
  | Call g as ks p =>
    match as, ks, h with
    | [a, t'], [], h =>
      have h : (ckBlt G sc "isinstance" g && (notStar a && (notStar t' && (ckBlt G sc (Str.ofString (tyName t)) t' && ckE G N e sc a)))) = true := h
      simp only [Bool.and_eq_true] at h
      exact ⟨g, a, t', p, rfl, h⟩
  | _ => cases h
theorem ck_app {l e : Ex} (h : ckE G N (.app l e) sc e' = true) : ∃ l' apos a p, e' = .Call (.Attribute l' "append" apos) [a] [] p ∧ (apos.endLine == p.line) = true ∧ isName l' = true ∧ notStar a = true ∧ ckE G N l sc l' = true ∧ ckE G N e sc a = true := by
  cases e' with
  | Call g as ks p =>
    cases g with
    | Attribute l' m apos =>
      match as, ks, h with
      | [a], [], h =>
        have h : (decide (m = ("append" : Str)) && ((apos.endLine == p.line) && (isName l' && (notStar a && (ckE G N l sc l' && ckE G N e sc a))))) = true := h
        simp only [Bool.and_eq_true] at h
        exact ⟨l', apos, a, p, by rw [of_decide_eq_true h.1], h.2⟩
    | _ => cases h
  | _ => cases h
theorem ck_ext {l e : Ex} (h : ckE G N (.ext l e) sc e' = true) : ∃ l' apos a p, e' = .Call (.Attribute l' "extend" apos) [a] [] p ∧ (apos.endLine == p.line) = true ∧ isName l' = true ∧ notStar a = true ∧ ckE G N l sc l' = true ∧ ckE G N e sc a = true := by
  cases e' with
  | Call g as ks p =>
    cases g with
    | Attribute l' m apos =>
      match as, ks, h with
      | [a], [], h =>
        have h : (decide (m = ("extend" : Str)) && ((apos.endLine == p.line) && (isName l' && (notStar a && (ckE G N l sc l' && ckE G N e sc a))))) = true := h
        simp only [Bool.and_eq_true] at h
        exact ⟨l', apos, a, p, by rw [of_decide_eq_true h.1], h.2⟩
    | _ => cases h
  | _ => cases h
theorem ck_rem {l e : Ex} (h : ckE G N (.rem l e) sc e' = true) : ∃ l' apos a p, e' = .Call (.Attribute l' "remove" apos) [a] [] p ∧ (apos.endLine == p.line) = true ∧ isName l' = true ∧ notStar a = true ∧ ckE G N l sc l' = true ∧ ckE G N e sc a = true := by
  cases e' with
  | Call g as ks p =>
    cases g with
    | Attribute l' m apos =>
      match as, ks, h with
      | [a], [], h =>
        have h : (decide (m = ("remove" : Str)) && ((apos.endLine == p.line) && (isName l' && (notStar a && (ckE G N l sc l' && ckE G N e sc a))))) = true := h
        simp only [Bool.and_eq_true] at h
        exact ⟨l', apos, a, p, by rw [of_decide_eq_true h.1], h.2⟩
    | _ => cases h
  | _ => cases h
theorem ck_lq1 {mt : Bool} {a : Ex} (h : ckE G N (.lq mt (.rng1 a)) sc e' = true) : ∃ g g2 a' p2 p, e' = .Call g [.Call g2 [a'] [] p2] [] p ∧ ckBlt G sc "list" g = true ∧ ckBlt G sc "range" g2 = true ∧ notStar a' = true ∧ ckE G N a sc a' = true := by
  cases e' with
  | Call g as ks p =>
    match as, ks, h with
    | [.Call g2 [a'] [] p2], [], h =>
      have h : (ckBlt G sc "list" g && (ckBlt G sc "range" g2 && (notStar a' && ckE G N a sc a'))) = true := h
      simp only [Bool.and_eq_true] at h
      exact ⟨g, g2, a', p2, p, rfl, h⟩
  | _ => cases h
theorem ck_lq2 {mt : Bool} {a b : Ex} (h : ckE G N (.lq mt (.rng2 a b)) sc e' = true) : ∃ g g2 a' b' p2 p, e' = .Call g [.Call g2 [a', b'] [] p2] [] p ∧ ckBlt G sc "list" g = true ∧ ckBlt G sc "range" g2 = true ∧ notStar a' = true ∧ notStar b' = true ∧ ckE G N a sc a' = true ∧ ckE G N b sc b' = true := by
  cases e' with
  | Call g as ks p =>
    match as, ks, h with
    | [.Call g2 [a', b'] [] p2], [], h =>
      have h : (ckBlt G sc "list" g && (ckBlt G sc "range" g2 && (notStar a' && (notStar b' && (ckE G N a sc a' && ckE G N b sc b'))))) = true := h
      simp only [Bool.and_eq_true] at h
      exact ⟨g, g2, a', b', p2, p, rfl, h⟩
  | _ => cases h
theorem ck_lqof {mt : Bool} {a : Ex} (h : ckE G N (.lq mt (.of a)) sc e' = true) : ∃ g a' p, e' = .Call g [a'] [] p ∧ ckBlt G sc "list" g = true ∧ notStar a' = true ∧ ckE G N a sc a' = true := by
  cases e' with
  | Call g as ks p =>
    match as, ks, h with
    | [a'], [], h =>
      have h : (ckBlt G sc "list" g && (notStar a' && ckE G N a sc a')) = true := h
      simp only [Bool.and_eq_true] at h
      exact ⟨g, a', p, rfl, h⟩
  | _ => cases h
theorem ck_lqz2 {mt : Bool} {a b : Ex} (h : ckE G N (.lq mt (.zip2 a b)) sc e' = true) : ∃ g g2 a' b' p2 p, e' = .Call g [.Call g2 [a', b'] [] p2] [] p ∧ ckBlt G sc "list" g = true ∧ ckBlt G sc "zip" g2 = true ∧ notStar a' = true ∧ notStar b' = true ∧ ckE G N a sc a' = true ∧ ckE G N b sc b' = true := by
  cases e' with
  | Call g as ks p =>
    match as, ks, h with
    | [.Call g2 [a', b'] [] p2], [], h =>
      have h : (ckBlt G sc "list" g && (ckBlt G sc "zip" g2 && (notStar a' && (notStar b' && (ckE G N a sc a' && ckE G N b sc b'))))) = true := h
      simp only [Bool.and_eq_true] at h
      exact ⟨g, g2, a', b', p2, p, rfl, h⟩
  | _ => cases h
theorem ck_lqz3 {mt : Bool} {a b c : Ex} (h : ckE G N (.lq mt (.zip3 a b c)) sc e' = true) : ∃ g g2 a' b' c' p2 p, e' = .Call g [.Call g2 [a', b', c'] [] p2] [] p ∧ ckBlt G sc "list" g = true ∧ ckBlt G sc "zip" g2 = true ∧ notStar a' = true ∧ notStar b' = true ∧ notStar c' = true ∧ ckE G N a sc a' = true ∧ ckE G N b sc b' = true ∧ ckE G N c sc c' = true := by
  cases e' with
  | Call g as ks p =>
    match as, ks, h with
    | [.Call g2 [a', b', c'] [] p2], [], h =>
      have h : (ckBlt G sc "list" g && (ckBlt G sc "zip" g2 && (notStar a' && (notStar b' && (notStar c' && (ckE G N a sc a' && (ckE G N b sc b' && ckE G N c sc c'))))))) = true := h
      simp only [Bool.and_eq_true] at h
      exact ⟨g, g2, a', b', c', p2, p, rfl, h⟩
  | _ => cases h
theorem ck_lc {mt : Bool} {elt : Ex} {tg : Tg} {q : Sq} {c : Oe} {own : List Nat} (h : ckE G N (.lc mt elt tg q c own) sc e' = true) : ∃ elt' tg' it' ifs' scope p, e' = .ListComp elt' [⟨tg', it', ifs', 0⟩] scope p ∧ ckQ G N q sc (oneTg tg) it' = true ∧ tupTg tg tg' = true ∧ (ownOf N own).map (·.2) = own ∧ blkC N sc scope (ownOf N own) = true ∧ ckTg (some scope) N (relS scope sc) tg tg' = true ∧ tgIn tg own = true ∧ notSet it' = true ∧
    ((c = .non ∧ ifs' = []) ∨ ∃ c1 c', c = .som c1 ∧ ifs' = [c'] ∧ ckE G N c1 (relS scope sc) c' = true ∧ tstE c1 c' = true) ∧ ckE G N elt (relS scope sc) elt' = true := by
  cases e' with
  | ListComp elt' gs scope p =>
    match gs, h with
    | [⟨tg', it', ifs', a⟩], h =>
      cases c with
      | non =>
        cases ifs' with
        | cons _ _ =>
          have h : (decide (a = 0) && (ckQ G N q sc (oneTg tg) it' && (tupTg tg tg' && (decide ((ownOf N own).map (·.2) = own) && (blkC N sc scope (ownOf N own) && (ckTg (some scope) N (relS scope sc) tg tg' && (tgIn tg own && (notSet it' && (false && ckE G N elt (relS scope sc) elt'))))))))) = true := h
          simp at h
        | nil =>
          have h : (decide (a = 0) && (ckQ G N q sc (oneTg tg) it' && (tupTg tg tg' && (decide ((ownOf N own).map (·.2) = own) && (blkC N sc scope (ownOf N own) && (ckTg (some scope) N (relS scope sc) tg tg' && (tgIn tg own && (notSet it' && (true && ckE G N elt (relS scope sc) elt'))))))))) = true := h
          simp only [Bool.and_eq_true] at h
          obtain ⟨h1, h2, h3, h4, h5, h6, h7, h8, h9, h10⟩ := h
          exact ⟨elt', tg', it', [], scope, p, by rw [of_decide_eq_true h1], h2, h3, of_decide_eq_true h4, h5, h6, h7, h8, .inl ⟨rfl, rfl⟩, h10⟩
      | som c1 =>
        match ifs', h with
        | [], h =>
          have h : (decide (a = 0) && (ckQ G N q sc (oneTg tg) it' && (tupTg tg tg' && (decide ((ownOf N own).map (·.2) = own) && (blkC N sc scope (ownOf N own) && (ckTg (some scope) N (relS scope sc) tg tg' && (tgIn tg own && (notSet it' && (false && ckE G N elt (relS scope sc) elt'))))))))) = true := h
          simp at h
        | _ :: _ :: _, h =>
          have h : (decide (a = 0) && (ckQ G N q sc (oneTg tg) it' && (tupTg tg tg' && (decide ((ownOf N own).map (·.2) = own) && (blkC N sc scope (ownOf N own) && (ckTg (some scope) N (relS scope sc) tg tg' && (tgIn tg own && (notSet it' && (false && ckE G N elt (relS scope sc) elt'))))))))) = true := h
          simp at h
        | [c'], h =>
          have h : (decide (a = 0) && (ckQ G N q sc (oneTg tg) it' && (tupTg tg tg' && (decide ((ownOf N own).map (·.2) = own) && (blkC N sc scope (ownOf N own) && (ckTg (some scope) N (relS scope sc) tg tg' && (tgIn tg own && (notSet it' && ((ckE G N c1 (relS scope sc) c' && tstE c1 c') && ckE G N elt (relS scope sc) elt'))))))))) = true := h
          simp only [Bool.and_eq_true] at h
          obtain ⟨h1, h2, h3, h4, h5, h6, h7, h8, h9, h10⟩ := h
          exact ⟨elt', tg', it', [c'], scope, p, by rw [of_decide_eq_true h1], h2, h3, of_decide_eq_true h4, h5, h6, h7, h8, .inr ⟨c1, c', rfl, rfl, h9⟩, h10⟩
  | _ => cases h
/-! ### rows, bounds, what is walked -/
theorem ck_es {es : Exs} {e : Ex} {es' : List Expr} (h : ckEs G N (.cons e es) sc es' = true) : ∃ a r, es' = a :: r ∧ notStar a = true ∧ ckE G N e sc a = true ∧ ckEs G N es sc r = true := by
  cases es' with
  | nil => cases h
  | cons a r =>
    have h : (notStar a && (ckE G N e sc a && ckEs G N es sc r)) = true := by
      cases a <;> exact h
    simp only [Bool.and_eq_true] at h
    exact ⟨a, r, rfl, h⟩
theorem ck_star {es : Exs} {e : Ex} {es' : List Expr} (h : ckEs G N (.star e es) sc es' = true) : ∃ a p r, es' = .Starred a p :: r ∧ ckE G N e sc a = true ∧ ckEs G N es sc r = true := by
  cases es' with
  | nil => cases h
  | cons a r =>
    cases a with
    | Starred a p =>
      have h : (ckE G N e sc a && ckEs G N es sc r) = true := h
      simp only [Bool.and_eq_true] at h
      exact ⟨a, p, r, rfl, h⟩
    | _ => cases h
theorem ck_rng1 {a : Ex} {one : Bool} (h : ckQ G N (.rng1 a) sc one e' = true) : ∃ g a' p, e' = .Call g [a'] [] p ∧ ckBlt G sc "range" g = true ∧ notStar a' = true ∧ ckE G N a sc a' = true := by
  cases e' with
  | Call g as ks p =>
    match as, ks, h with
    | [a'], [], h =>
      have h : (ckBlt G sc "range" g && (notStar a' && ckE G N a sc a')) = true := h
      simp only [Bool.and_eq_true] at h
      exact ⟨g, a', p, rfl, h⟩
  | _ => cases h
theorem ck_rng2 {a b : Ex} {one : Bool} (h : ckQ G N (.rng2 a b) sc one e' = true) : ∃ g a' b' p, e' = .Call g [a', b'] [] p ∧ ckBlt G sc "range" g = true ∧ notStar a' = true ∧ notStar b' = true ∧ ckE G N a sc a' = true ∧ ckE G N b sc b' = true := by
  cases e' with
  | Call g as ks p =>
    match as, ks, h with
    | [a', b'], [], h =>
      have h : (ckBlt G sc "range" g && (notStar a' && (notStar b' && (ckE G N a sc a' && ckE G N b sc b')))) = true := h
      simp only [Bool.and_eq_true] at h
      exact ⟨g, a', b', p, rfl, h⟩
  | _ => cases h
theorem ck_rng3 {a b c : Ex} {one : Bool} (h : ckQ G N (.rng3 a b c) sc one e' = true) : ∃ g a' b' c' p, e' = .Call g [a', b', c'] [] p ∧ ckBlt G sc "range" g = true ∧ notStar a' = true ∧ notStar b' = true ∧ notStar c' = true ∧ ckE G N a sc a' = true ∧ ckE G N b sc b' = true ∧ ckE G N c sc c' = true := by
  cases e' with
  | Call g as ks p =>
    match as, ks, h with
    | [a', b', c'], [], h =>
      have h : (ckBlt G sc "range" g && (notStar a' && (notStar b' && (notStar c' && (ckE G N a sc a' && (ckE G N b sc b' && ckE G N c sc c')))))) = true := h
      simp only [Bool.and_eq_true] at h
      exact ⟨g, a', b', c', p, rfl, h⟩
  | _ => cases h
theorem ck_zip2 {a b : Ex} {one : Bool} (h : ckQ G N (.zip2 a b) sc one e' = true) : ∃ g a' b' p, e' = .Call g [a', b'] [] p ∧ one = false ∧ ckBlt G sc "zip" g = true ∧ notStar a' = true ∧ notStar b' = true ∧ ckE G N a sc a' = true ∧ ckE G N b sc b' = true := by
  cases e' with
  | Call g as ks p =>
    match as, ks, h with
    | [a', b'], [], h =>
      have h : (!one && (ckBlt G sc "zip" g && (notStar a' && (notStar b' && (ckE G N a sc a' && ckE G N b sc b'))))) = true := h
      simp only [Bool.and_eq_true] at h
      exact ⟨g, a', b', p, rfl, by simpa using h.1, h.2⟩
  | _ => cases h
theorem ck_zip3 {a b c : Ex} {one : Bool} (h : ckQ G N (.zip3 a b c) sc one e' = true) : ∃ g a' b' c' p, e' = .Call g [a', b', c'] [] p ∧ one = false ∧ ckBlt G sc "zip" g = true ∧ notStar a' = true ∧ notStar b' = true ∧ notStar c' = true ∧ ckE G N a sc a' = true ∧ ckE G N b sc b' = true ∧ ckE G N c sc c' = true := by
  cases e' with
  | Call g as ks p =>
    match as, ks, h with
    | [a', b', c'], [], h =>
      have h : (!one && (ckBlt G sc "zip" g && (notStar a' && (notStar b' && (notStar c' && (ckE G N a sc a' && (ckE G N b sc b' && ckE G N c sc c'))))))) = true := h
      simp only [Bool.and_eq_true] at h
      exact ⟨g, a', b', c', p, rfl, by simpa using h.1, h.2⟩
  | _ => cases h
theorem ck_enum {a : Ex} {one : Bool} (h : ckQ G N (.enum a) sc one e' = true) : ∃ g a' p, e' = .Call g [a'] [] p ∧ one = false ∧ ckBlt G sc "enumerate" g = true ∧ notStar a' = true ∧ ckE G N a sc a' = true := by
  cases e' with
  | Call g as ks p =>
    match as, ks, h with
    | [a'], [], h =>
      have h : (!one && (ckBlt G sc "enumerate" g && (notStar a' && ckE G N a sc a'))) = true := h
      simp only [Bool.and_eq_true] at h
      exact ⟨g, a', p, rfl, by simpa using h.1, h.2⟩
  | _ => cases h
end
end MP
/-! MP: a text that passes the check does what the small interpreter says. -/
namespace MP
open PySem PySem.Spec PyProof.Rows L2

structure CxOk (G : Glob) (C : Calls) (k : Nat) (X : Cx) : Prop where
  calm : X.calm = true
  nd : X.N.Nodup
  rm : Room k X.A
  free : ∀ x, G.free.contains x = true → X.mg x = none
  fns : ∀ x f, G.fns.lookup x = some f → FnK X C k x f
  cst : ∀ x v, G.cst.lookup x = some v → ∃ u w, X.mg x = some u ∧ RelV w u ∧ ∀ F ρ H, Den X.K F ρ H v w
theorem CxOk.un {G : Glob} {C : Calls} {k : Nat} {X : Cx} (h : CxOk G C k X) : X.A.units + 100 < cLine := by have := h.rm.un; omega
theorem CxOk.blk {G : Glob} {C : Calls} {k : Nat} {X : Cx} (h : CxOk G C k X) {s : Shared} {H : Hp} {scope : Scope} {env : PySem.Env} {fp : List Addr} : CxOk G C k (X.blk s H scope env fp) :=
  ⟨h.calm, h.nd, h.rm, h.free, fun x f e => ⟨(h.fns x f e).ex⟩, h.cst⟩
mutual
theorem valEq_of : ∀ {v w : Val}, valEq v w = true → v = w
  | .non, .non, _ => rfl
  | .bl a, .bl b, h => by
    have h : (a == b) = true := h
    rw [eq_of_beq h]
  | .int a, .int b, h => by
    have h : (a == b) = true := h
    rw [eq_of_beq h]
  | .str a, .str b, h => by
    have h : decide (a = b) = true := h
    rw [of_decide_eq_true h]
  | .tup xs, .tup ys, h => by rw [valEqs_of (show valEqs xs ys = true from h)]
theorem valEqs_of : ∀ {v w : List Val}, valEqs v w = true → v = w
  | [], [], _ => rfl
  | x :: xs, y :: ys, h => by
    have h : (valEq x y && valEqs xs ys) = true := h
    rw [Bool.and_eq_true] at h
    rw [valEq_of h.1, valEqs_of h.2]
end
theorem te_glb {G : Glob} {C : Calls} {k : Nat} {X : Cx} (ok : CxOk G C k X) {v : Val} {e : Expr} (h : ckGlb G X.env.scope v e = true) : PE X e (TE C X.K (.cst v)) := by
  cases e with
  | Name x p =>
    have h : (glB X.env.scope x && (match G.cst.lookup x with
      | some w => valEq w v
      | none => false)) = true := h
    rw [Bool.and_eq_true] at h
    obtain ⟨h1, h2⟩ := h
    split at h2
    · rename_i w e1
      have e := valEq_of h2
      subst e
      obtain ⟨u, d, e2, e3, e4⟩ := ok.cst x _ e1
      unfold glB at h1
      rw [Bool.and_eq_true] at h1
      refine PE.imp (pe_glob (of_decide_eq_true (p := X.env.scope.names.lookup x = some .globalImplicit) h1.1) e2 e3 (by simpa using h1.2)) fun σ H Q ⟨F, ρ, m, env, r, re, h⟩ => ?_
      rw [evE] at h
      exact (show Ans X.K F ρ H Q _ m from h) d H ρ Ext.refl r (e4 F ρ H)
    · cases h2
  | _ => cases h
theorem fs_set {it : Expr} {env : PySem.Env} (h : notSet it = true) : ∀ x, foldedSetIterable it env x = pure x := by
  intro x
  cases it <;> first | rfl | cases h
theorem tup_of {tg : Tg} {e : Expr} (h : tupTg tg e = true) (h1 : oneTg tg = false) : ∃ es k p, e = .Tuple es k p := by
  cases tg with
  | nm _ => cases h1
  | tp _ =>
    cases e with
    | Tuple es k p => exact ⟨es, k, p, rfl⟩
    | _ => cases h
section
variable {G : Glob} {C : Calls} {k : Nat}
theorem pw_bool_and {X : Cx} {a b : Ex} {a' b' : Expr} {r : List Expr} {p : Pos} (ha : PT X a' (TT C X.K a)) (hb : PW X (.BoolOp .And (b' :: r) p) (TT C X.K b)) : PW X (.BoolOp .And (a' :: b' :: r) p) (TT C X.K (.and a b)) :=
  PW.imp (pw_and ha hb) fun σ H Q h => and_stepT (X := X) h
theorem pw_bool_or {X : Cx} {a b : Ex} {a' b' : Expr} {r : List Expr} {p : Pos} (ha : PT X a' (TT C X.K a)) (hb : PW X (.BoolOp .Or (b' :: r) p) (TT C X.K b)) : PW X (.BoolOp .Or (a' :: b' :: r) p) (TT C X.K (.or a b)) :=
  PW.imp (pw_or ha hb) fun σ H Q h => or_stepT (X := X) h
/-- what a checked expression is good for -/
structure Snd (C : Calls) (X : Cx) (e : Ex) (e' : Expr) : Prop where
  ex : PE X e' (TE C X.K e)
  tst : tstE e e' = true → PT X e' (TT C X.K e)
  bl : tstE e e' = true → ∀ op x y r p, e' = .BoolOp op (x :: y :: r) p → PW X e' (TT C X.K e)
theorem snd_plain {X : Cx} {e : Ex} {e' : Expr} (h : PE X e' (TE C X.K e)) (hp : tstE e e' = true → plainT e' = true) : Snd C X e e' :=
  ⟨h, fun t => tt_val h (hp t), fun t op x y r p q => by
    have z := hp t
    rw [q] at z
    cases z⟩
theorem snd_err {X : Cx} {e' : Expr} : Snd C X .err e' := by
  have no : ∀ σ H Q, ¬ TE C X.K .err σ H Q := fun σ H Q ⟨F, ρ, m, env, r, re, h⟩ => by
    rw [evE] at h
    exact h
  exact ⟨⟨fun pins s σ H Q I h => (no _ _ _ h).elim⟩, fun _ => ⟨fun pins s σ H Q I h => (no _ _ _ h).elim⟩, fun _ _ _ _ _ _ _ => ⟨fun wh pins s σ H Q I h => (no _ _ _ h).elim⟩⟩
theorem pts_of {X : Cx} {c : Oe} {ifs' : List Expr} (h : (c = .non ∧ ifs' = []) ∨ ∃ c1 c', c = .som c1 ∧ ifs' = [c'] ∧ PT X c' (TT C X.K c1)) : PTs X ifs' (TC C X.K c) := by
  rcases h with ⟨rfl, rfl⟩ | ⟨c1, c', rfl, rfl, h⟩
  · exact pts_nil
  · exact pts_one h
mutual
theorem sE : ∀ (e : Ex) (X : Cx) (e' : Expr), CxOk G C k X → ckE G X.N e X.env.scope e' = true → Snd C X e e'
  | .var i, X, e', ok, h => by
    cases e' with
    | Name x p => exact snd_plain (te_var h) fun _ => rfl
    | _ => cases h
  | .cst v, X, e', ok, h => by
    have h : (ckCst G X.env.scope v e' || ckGlb G X.env.scope v e') = true := h
    have p : PE X e' (TE C X.K (.cst v)) := by
      rw [Bool.or_eq_true] at h
      rcases h with h | h
      · exact te_cst h
      · exact te_glb ok h
    exact snd_plain p fun t => by cases e' <;> exact t
  | .op o a b, X, e', ok, h => by
    obtain ⟨a', b', p, rfl, h1, h2⟩ := ck_op h
    exact snd_plain (te_op (sE a X a' ok h1).ex (sE b X b' ok h2).ex) fun _ => rfl
  | .neg a, X, e', ok, h => by
    obtain ⟨a', p, rfl, h1⟩ := ck_neg h
    exact snd_plain (te_neg (sE a X a' ok h1).ex) fun t => t
  | .cmp o a b, X, e', ok, h => by
    obtain ⟨a', b', p, rfl, h1, h2, h3⟩ := ck_cmp h
    have hu : X.A.units + 64 < cLine := by have := ok.un; omega
    exact ⟨te_cmp hu (sE a X a' ok h2).ex (sE b X b' ok h3).ex h1, fun _ => tt_cmp hu (sE a X a' ok h2).ex (sE b X b' ok h3).ex h1, fun _ _ _ _ _ _ q => by cases q⟩
  | .chain o q a b c, X, e', ok, h => by
    obtain ⟨a', b', c', p, rfl, h1, h2, h3, h4⟩ := ck_chain h
    have hu : X.A.units + 64 < cLine := by have := ok.un; omega
    exact ⟨te_chain hu (sE a X a' ok h2).ex (sE b X b' ok h3).ex (sE c X c' ok h4).ex h1, fun _ => tt_chain hu (sE a X a' ok h2).ex (sE b X b' ok h3).ex (sE c X c' ok h4).ex h1, fun _ _ _ _ _ _ q => by cases q⟩
  | .and a b, X, e', ok, h => by
    obtain ⟨a', b', r, p, rfl, h1, h2⟩ := ck_and h
    have sa := sE a X a' ok h1
    rcases h2 with ⟨rfl, h2⟩ | ⟨hr, h2⟩
    · have sb := sE b X b' ok h2
      have w : tstE (.and a b) (.BoolOp .And [a', b'] p) = true → PW X (.BoolOp .And [a', b'] p) (TT C X.K (.and a b)) := fun t => by
        have t : (tstE a a' && tstE b b') = true := t
        rw [Bool.and_eq_true] at t
        exact pw_bool_and (sa.tst t.1) (pw_and1 (sb.tst t.2))
      exact ⟨PE.imp (pe_and sa.ex (pe_one sb.ex)) fun σ H Q z => and_step (X := X) z, fun t => (w t).pt, fun t _ _ _ _ _ _ => w t⟩
    · have sb := sE b X (.BoolOp .And (b' :: r) p) ok h2
      obtain ⟨c', r', rfl⟩ : ∃ c' r', r = c' :: r' := by
        cases r with
        | nil => exact absurd rfl hr
        | cons c' r' => exact ⟨c', r', rfl⟩
      have w : tstE (.and a b) (.BoolOp .And (a' :: b' :: c' :: r') p) = true → PW X (.BoolOp .And (a' :: b' :: c' :: r') p) (TT C X.K (.and a b)) := fun t => by
        have t : (tstE a a' && tstE b (.BoolOp .And (b' :: c' :: r') p)) = true := t
        rw [Bool.and_eq_true] at t
        exact pw_bool_and (sa.tst t.1) (sb.bl t.2 _ _ _ _ _ rfl)
      exact ⟨PE.imp (pe_and sa.ex sb.ex) fun σ H Q z => and_step (X := X) z, fun t => (w t).pt, fun t _ _ _ _ _ _ => w t⟩
  | .or a b, X, e', ok, h => by
    obtain ⟨a', b', r, p, rfl, h1, h2⟩ := ck_or h
    have sa := sE a X a' ok h1
    rcases h2 with ⟨rfl, h2⟩ | ⟨hr, h2⟩
    · have sb := sE b X b' ok h2
      have w : tstE (.or a b) (.BoolOp .Or [a', b'] p) = true → PW X (.BoolOp .Or [a', b'] p) (TT C X.K (.or a b)) := fun t => by
        have t : (tstE a a' && tstE b b') = true := t
        rw [Bool.and_eq_true] at t
        exact pw_bool_or (sa.tst t.1) (pw_or1 (sb.tst t.2))
      exact ⟨PE.imp (pe_or sa.ex (pe_one sb.ex)) fun σ H Q z => or_step (X := X) z, fun t => (w t).pt, fun t _ _ _ _ _ _ => w t⟩
    · have sb := sE b X (.BoolOp .Or (b' :: r) p) ok h2
      obtain ⟨c', r', rfl⟩ : ∃ c' r', r = c' :: r' := by
        cases r with
        | nil => exact absurd rfl hr
        | cons c' r' => exact ⟨c', r', rfl⟩
      have w : tstE (.or a b) (.BoolOp .Or (a' :: b' :: c' :: r') p) = true → PW X (.BoolOp .Or (a' :: b' :: c' :: r') p) (TT C X.K (.or a b)) := fun t => by
        have t : (tstE a a' && tstE b (.BoolOp .Or (b' :: c' :: r') p)) = true := t
        rw [Bool.and_eq_true] at t
        exact pw_bool_or (sa.tst t.1) (sb.bl t.2 _ _ _ _ _ rfl)
      exact ⟨PE.imp (pe_or sa.ex sb.ex) fun σ H Q z => or_step (X := X) z, fun t => (w t).pt, fun t _ _ _ _ _ _ => w t⟩
  | .not a, X, e', ok, h => by
    obtain ⟨a', p, rfl, h1⟩ := ck_not h
    have s := sE a X a' ok h1
    exact ⟨te_not s.ex, fun t => tt_not (s.tst t), fun _ _ _ _ _ _ q => by cases q⟩
  | .ife c a b, X, e', ok, h => by
    obtain ⟨c', a', b', p, rfl, h1, h2, h3, h4⟩ := ck_ife h
    exact snd_plain (te_ife ((sE c X c' ok h1).tst h2) (sE a X a' ok h3).ex (sE b X b' ok h4).ex) fun t => t
  | .tup es, X, e', ok, h => by
    obtain ⟨es', kk, p, rfl, h1⟩ := ck_tup h
    exact snd_plain (te_tup (sA es X es' ok h1)) fun t => t
  | .lst mt es, X, e', ok, h => by
    obtain ⟨es', p, rfl, h1⟩ := ck_lst h
    exact snd_plain (te_lst (sA es X es' ok h1)) fun t => t
  | .idx a b, X, e', ok, h => by
    obtain ⟨a', b', p, rfl, h1, h2, h3⟩ := ck_idx h
    exact snd_plain (te_idx (sE a X a' ok h2).ex (sE b X b' ok h3).ex (plain_ix h1)) fun _ => rfl
  | .sl a lo hi st, X, e', ok, h => by
    obtain ⟨a', lo', hi', st', p2, p, rfl, h1, h2, h3, h4⟩ := ck_sl h
    cases st with
    | non =>
      cases st' with
      | some _ => cases h4
      | none => exact snd_plain (te_sl2 (sE a X a' ok h1).ex (sO lo X lo' ok h2) (sO hi X hi' ok h3)) fun _ => rfl
    | som st =>
      cases st' with
      | none => cases h4
      | some st' => exact snd_plain (te_sl3 (sE a X a' ok h1).ex (sO lo X lo' ok h2) (sO hi X hi' ok h3) (sE st X st' ok h4).ex) fun _ => rfl
  | .pcall th f es, X, e', ok, h => by
    obtain ⟨g, as, p, rfl, h1, h2, h3⟩ := ck_pcall h
    exact snd_plain (te_pcall ok.rm ok.fns h1 (sA es X as ok h2) h3 h2) fun _ => rfl
  | .mcall f es, X, e', ok, h => by
    obtain ⟨g, as, p, rfl, h1, h2, h3⟩ := ck_mcall h
    exact snd_plain (te_mcall ok.rm ok.fns h1 (sA es X as ok h2) h3 h2) fun _ => rfl
  | .blt b e, X, e', ok, h => by
    obtain ⟨g, a, p, rfl, h1, h2, h3⟩ := ck_blt h
    exact snd_plain (te_blt ok.calm ok.free h1 (sE e X a ok h3).ex h2) fun _ => rfl
  | .blt2 b e e2, X, e', ok, h => by
    obtain ⟨g, a, a2, p, rfl, h1, h2, h3, h4, h5⟩ := ck_blt2 h
    exact snd_plain (te_blt2 ok.calm ok.free h1 (sE e X a ok h4).ex (sE e2 X a2 ok h5).ex h2 h3) fun _ => rfl
  | .isi e t, X, e', ok, h => by
    obtain ⟨g, a, t', p, rfl, h1, h2, h3, h4, h5⟩ := ck_isi h
    exact snd_plain (te_isi ok.free h1 h4 (sE e X a ok h5).ex h2 h3) fun _ => rfl
  | .lc mt elt tg q c own, X, e', ok, h => by
    obtain ⟨elt', tg', it', ifs', scope, p, rfl, h1, h2, h3, h4, h5, h6, h7, h8, h9⟩ := ck_lc h
    refine snd_plain (te_lc ok.calm ok.nd (sQ q X tg' it' (oneTg tg) ok h1 (tup_of h2)) (blkOk_by h4) h3 h6 (fun s H a cl fp => pg_tg (X := X.blk s H scope (compEnvC scope cl a X.env) fp) (blk := some scope) ok.calm rfl ok.nd h5) (fun s H a cl fp => ?_) (fun s H a cl fp => (sE elt (X.blk s H scope (compEnvC scope cl a X.env) fp) elt' ok.blk h9).ex) (fs_set h7)).2.1 fun t => t
    refine pts_of ?_
    cases c with
    | non =>
      rcases h8 with ⟨_, e2⟩ | ⟨c1, c', e1, _⟩
      · exact .inl ⟨rfl, e2⟩
      · cases e1
    | som c1 =>
      rcases h8 with ⟨e1, _⟩ | ⟨c2, c', e1, e2, h10, h11⟩
      · cases e1
      · cases e1
        exact .inr ⟨c1, c', rfl, e2, (sE c1 (X.blk s H scope (compEnvC scope cl a X.env) fp) c' ok.blk h10).tst h11⟩
  | .lq mt (.rng1 a), X, e', ok, h => by
    obtain ⟨g, g2, a', p2, p, rfl, h1, h2, h3, h4⟩ := ck_lq1 h
    exact snd_plain (te_lq1 ok.calm ok.free h1 h2 h3 (sE a X a' ok h4).ex) fun _ => rfl
  | .lq mt (.rng2 a b), X, e', ok, h => by
    obtain ⟨g, g2, a', b', p2, p, rfl, h1, h2, h3, h4, h5, h6⟩ := ck_lq2 h
    exact snd_plain (te_lq2 ok.calm ok.free h1 h2 h3 h4 (sE a X a' ok h5).ex (sE b X b' ok h6).ex) fun _ => rfl
  | .lq mt (.of a), X, e', ok, h => by
    obtain ⟨g, a', p, rfl, h1, h2, h3⟩ := ck_lqof h
    exact snd_plain (te_lqof ok.free h1 h2 (sE a X a' ok h3).ex) fun _ => rfl
  | .lq mt (.rng3 a b c), X, e', ok, h => by cases e' <;> cases h
  | .lq mt (.zip2 a b), X, e', ok, h => by
    obtain ⟨g, g2, a', b', p2, p, rfl, h1, h2, h3, h4, h5, h6⟩ := ck_lqz2 h
    exact snd_plain (te_lqz2 ok.calm ok.free h1 h2 h3 h4 (sE a X a' ok h5).ex (sE b X b' ok h6).ex) fun _ => rfl
  | .lq mt (.zip3 a b c), X, e', ok, h => by
    obtain ⟨g, g2, a', b', c', p2, p, rfl, h1, h2, h3, h4, h5, h6, h7, h8⟩ := ck_lqz3 h
    exact snd_plain (te_lqz3 ok.calm ok.free h1 h2 h3 h4 h5 (sE a X a' ok h6).ex (sE b X b' ok h7).ex (sE c X c' ok h8).ex) fun _ => rfl
  | .lq mt (.enum a), X, e', ok, h => by cases e' <;> cases h
  | .lq mt (.lz q), X, e', ok, h => by cases e' <;> cases h
  | .app l e, X, e', ok, h => by
    obtain ⟨l', apos, a, p, rfl, h1, h2, h3, h4, h5⟩ := ck_app h
    exact snd_plain (te_app (sE l X l' ok h4).ex (sE e X a ok h5).ex h2 h3 h1) fun _ => rfl
  | .ext l e, X, e', ok, h => by
    obtain ⟨l', apos, a, p, rfl, h1, h2, h3, h4, h5⟩ := ck_ext h
    exact snd_plain (te_ext (sE l X l' ok h4).ex (sE e X a ok h5).ex h2 h3 h1) fun _ => rfl
  | .rem l e, X, e', ok, h => by
    obtain ⟨l', apos, a, p, rfl, h1, h2, h3, h4, h5⟩ := ck_rem h
    exact snd_plain (te_rem ok.un (sE l X l' ok h4).ex (sE e X a ok h5).ex h2 h3 h1) fun _ => rfl
  | .frz e, X, e', ok, h => by
    exact snd_plain (te_frz (sE e X e' ok h).ex) fun t => by cases e' <;> exact t
  | .err, X, e', ok, h => snd_err
theorem sA : ∀ (es : Exs) (X : Cx) (es' : List Expr), CxOk G C k X → ckEs G X.N es X.env.scope es' = true → PA X es' (TA C X.K es)
  | .nil, X, es', ok, h => by
    cases es' with
    | nil => exact ta_nil
    | cons a r => cases a <;> cases h
  | .cons e es, X, es', ok, h => by
    obtain ⟨a, r, rfl, h1, h2, h3⟩ := ck_es h
    exact ta_cons (sE e X a ok h2).ex (sA es X r ok h3) h1
  | .star e es, X, es', ok, h => by
    obtain ⟨a, p, r, rfl, h1, h2⟩ := ck_star h
    exact ta_star (sE e X a ok h1).ex (sA es X r ok h2)
theorem sO : ∀ (o : Oe) (X : Cx) (o' : Option Expr), CxOk G C k X → ckO G X.N o X.env.scope o' = true → PO X o' (TO C X.K o)
  | .non, X, o', ok, h => by
    cases o' with
    | none => exact to_non
    | some _ => cases h
  | .som e, X, o', ok, h => by
    cases o' with
    | none => cases h
    | some e' => exact to_som (sE e X e' ok h).ex
theorem sQ : ∀ (q : Sq) (X : Cx) (tg' it' : Expr) (one : Bool), CxOk G C k X → ckQ G X.N q X.env.scope one it' = true → (one = false → ∃ es k p, tg' = .Tuple es k p) → PI X tg' it' (TQ C X.K q)
  | .of e, X, tg', it', one, ok, h, ht => by
    have h : (notSet it' && ckE G X.N e X.env.scope it') = true := h
    rw [Bool.and_eq_true] at h
    exact tq_of (sE e X it' ok h.2).ex
  | .rng1 a, X, tg', it', one, ok, h, ht => by
    obtain ⟨g, a', p, rfl, h1, h2, h3⟩ := ck_rng1 h
    exact tq_rng1 ok.free h1 (sE a X a' ok h3).ex h2
  | .rng2 a b, X, tg', it', one, ok, h, ht => by
    obtain ⟨g, a', b', p, rfl, h1, h2, h3, h4, h5⟩ := ck_rng2 h
    exact tq_rng2 ok.free h1 (sE a X a' ok h4).ex (sE b X b' ok h5).ex h2 h3
  | .rng3 a b c, X, tg', it', one, ok, h, ht => by
    obtain ⟨g, a', b', c', p, rfl, h1, h2, h3, h4, h5, h6, h7⟩ := ck_rng3 h
    exact tq_rng3 ok.free h1 (sE a X a' ok h5).ex (sE b X b' ok h6).ex (sE c X c' ok h7).ex h2 h3 h4
  | .zip2 a b, X, tg', it', one, ok, h, ht => by
    obtain ⟨g, a', b', p, rfl, h0, h1, h2, h3, h4, h5⟩ := ck_zip2 h
    obtain ⟨es, kk, tp, rfl⟩ := ht h0
    exact tq_zip2 ok.free h1 (sE a X a' ok h4).ex (sE b X b' ok h5).ex h2 h3
  | .zip3 a b c, X, tg', it', one, ok, h, ht => by
    obtain ⟨g, a', b', c', p, rfl, h0, h1, h2, h3, h4, h5, h6, h7⟩ := ck_zip3 h
    obtain ⟨es, kk, tp, rfl⟩ := ht h0
    exact tq_zip3 ok.free h1 (sE a X a' ok h5).ex (sE b X b' ok h6).ex (sE c X c' ok h7).ex h2 h3 h4
  | .enum a, X, tg', it', one, ok, h, ht => by
    obtain ⟨g, a', p, rfl, h0, h1, h2, h3⟩ := ck_enum h
    obtain ⟨es, kk, tp, rfl⟩ := ht h0
    exact tq_enum ok.free h1 (sE a X a' ok h3).ex h2
  | .lz q, X, tg', it', one, ok, h, ht => by cases it' <;> cases h
end
end
end MP
/-! MP: statements and tables of functions. -/
namespace MP
open PySem PySem.Spec PyProof.Rows L2

/-! ### the check of statements -/
def isLc : Ex → Bool
  | .lc .. => true
  | _ => false
/-- how name = e is stored -/
def ckAsg (sc : Scope) (e : Ex) (tg' e' : Expr) : Bool := match tg', e' with
  | .Name x p, .ListComp _ _ s pos => !(swB sc x p s pos) || (isLc e && (match sc.names.lookup x with | some .local => true | _ => false))
  | .Name _ _, e' => noComp e'
  | .Tuple _ _ _, .Tuple _ _ _ => false
  | .Tuple _ _ _, e' => noComp e'
  | _, _ => false
def lcl (sc : Scope) (x : Str) : Bool := decide (sc.names.lookup x = some .local)
def ckSwap (N : List Str) (sc : Scope) (is : List Nat) (ts : List Expr) (ns : List Str) : Bool := match is, ts with
  | [i, j], [.Name x _, .Name y _] => decide (N[i]? = some x) && (decide (N[j]? = some y) && (lcl sc x && (lcl sc y && (decide (i ≠ j) && decide (ns = [x, y])))))
  | [i, j, l], [.Name x _, .Name y _, .Name z _] => decide (N[i]? = some x) && (decide (N[j]? = some y) && (decide (N[l]? = some z) && (lcl sc x && (lcl sc y && (lcl sc z && (decide (i ≠ j) && (decide (i ≠ l) && (decide (j ≠ l) && decide (ns = [x, y, z])))))))))
  | _, _ => false
mutual
def ckS (G : Glob) (N : List Str) (sc : Scope) : Sm → Stmt → Bool
  | .asg tg e, .Assign [tg'] e' _ => ckTg none N sc tg tg' && (ckE G N e sc e' && ckAsg sc e tg' e')
  | .asgs is es, .Assign [.Tuple ts _ _] (.Tuple vs _ _) _ => ckEs G N es sc vs && (decide (is.length ≤ 1000) && (match swSt (fun x => sc.names.lookup x) ts vs with
    | some none => ckNms none N sc is ts
    | some (some ns) => ckSwap N sc is ts ns
    | none => false))
  | .seti o i e, .Assign [.Subscript o' i' _] e' _ => ckE G N o sc o' && (ckE G N i sc i' && (ckE G N e sc e' && (plainIx i' && noComp e')))
  | .exp e, .Expr e' _ => ckE G N e sc e' && noComp e'
  | .ret e, .Return (some e') _ => ckE G N e sc e'
  | .ret (.cst .non), .Return none _ => true
  | .ite c a b, .If c' a' b' _ => ckE G N c sc c' && (tstE c c' && (ckSs G N sc a a' && ckSs G N sc b b'))
  | .whl c b, .While c' b' [] _ => ckE G N c sc c' && (tstE c c' && ckSs G N sc b b')
  | .fr tg q b, .For tg' it' b' [] _ => ckTg none N sc tg tg' && (tupTg tg tg' && (ckQ G N q sc (oneTg tg) it' && (notSet it' && ckSs G N sc b b')))
  | .rse _ _, _ => true
  | .pss, .Pass _ => true
  | .brk, .Break _ => true
  | .cnt, .Continue _ => true
  | _, _ => false
def ckSs (G : Glob) (N : List Str) (sc : Scope) : Sms → List Stmt → Bool
  | .nil, [] => true
  | .cons s ss, s' :: ss' => ckS G N sc s s' && ckSs G N sc ss ss'
  | .gfz _ ss, ss' => ckSs G N sc ss ss'
  | _, _ => false
end
structure CxS (G : Glob) (C : Calls) (k : Nat) (X : Cx) : Prop where
  ok : CxOk G C k X
  pass : PassesOwn (model X.prog X.w) X.A X.env X.xe
  fn : X.fn = fun _ => true
  kind : isFn X.env.scope = true
section
variable {G : Glob} {C : Calls} {k : Nat} {X : Cx}
theorem ss_asgName {i : Nat} {e : Ex} {x : Str} {p : Pos} {e' : Expr} {pos : Pos} (ok : CxS G C k X) (h1 : ckTg none X.N X.env.scope (.nm i) (.Name x p) = true) (h2 : ckE G X.N e X.env.scope e' = true) (h3 : ckAsg X.env.scope e (.Name x p) e' = true) : PS X (.Assign [.Name x p] e' pos) (SS C X.K (.asg (.nm i) e)) := by
  have h1 : (decide (X.N[i]? = some x) && locB none X.env.scope x) = true := h1
  rw [Bool.and_eq_true] at h1
  have hi := of_decide_eq_true h1.1
  obtain ⟨l1, l2⟩ := loc_of (X := X) (blk := none) ok.fn h1.2
  have he := (sE e X e' ok.ok h2).ex
  have plain : swapsWith e' (some (.Name x p)) pos.line X.env = pure false → PS X (.Assign [.Name x p] e' pos) (SS C X.K (.asg (.nm i) e)) := fun hs => ss_asg (C' := True) (ps_set ok.ok.nd hi l1 he hs l2)
  by_cases hn : noComp e' = true
  · exact plain (sw_no hn)
  · cases e' with
    | ListComp elt gs s pos' =>
      have h3 : (!(swB X.env.scope x p s pos') || (isLc e && (match X.env.scope.names.lookup x with | some .local => true | _ => false))) = true := h3
      cases hb : swB X.env.scope x p s pos' with
      | false => exact plain (by rw [sw_lc ok.kind, hb])
      | true =>
        rw [hb] at h3
        have h3 : (isLc e && (match X.env.scope.names.lookup x with | some .local => true | _ => false)) = true := h3
        rw [Bool.and_eq_true] at h3
        obtain ⟨hl, hlo⟩ := h3
        have hlo : X.env.scope.names.lookup x = some .local := by
          split at hlo
          · assumption
          · cases hlo
        cases e with
        | lc mt elt1 tg q c own =>
          obtain ⟨elt', tg', it', ifs', scope, p3, e1, g1, g2, g3, g4, g5, g6, g7, g8, g9⟩ := ck_lc h2
          cases e1
          refine ss_asg (C' := True) ((te_lc ok.ok.calm ok.ok.nd (sQ q X tg' it' (oneTg tg) ok.ok g1 (tup_of g2)) (blkOk_by g4) g3 g6 (fun s H a cl fp => pg_tg (X := X.blk s H _ (compEnvC _ cl a X.env) fp) (blk := some _) ok.ok.calm rfl ok.ok.nd g5) (fun s H a cl fp => ?_) (fun s H a cl fp => (sE elt1 (X.blk s H _ (compEnvC _ cl a X.env) fp) elt ok.ok.blk g9).ex) (fs_set g7)).2.2 hi hlo ?_)
          · refine pts_of ?_
            rcases g8 with ⟨e1, e2⟩ | ⟨c1, c', e1, e2, h10, h11⟩
            · exact .inl ⟨e1, e2⟩
            · exact .inr ⟨c1, c', e1, e2, (sE c1 (X.blk s H _ (compEnvC _ cl a X.env) fp) c' ok.ok.blk h10).tst h11⟩
          · rw [sw_lc ok.kind, hb]
        | _ => cases hl
    | SetComp _ _ _ _ => exact absurd h3 (by intro z; cases z)
    | DictComp _ _ _ _ _ => exact absurd h3 (by intro z; cases z)
    | _ => exact absurd rfl hn
theorem ss_asgTup {tg : Tg} {e : Ex} {ts : List Expr} {kk : Nat} {p : Pos} {e' : Expr} {pos : Pos} (ok : CxS G C k X) (h1 : ckTg none X.N X.env.scope tg (.Tuple ts kk p) = true) (h2 : ckE G X.N e X.env.scope e' = true) (h3 : ckAsg X.env.scope e (.Tuple ts kk p) e' = true) : PS X (.Assign [.Tuple ts kk p] e' pos) (SS C X.K (.asg tg e)) := by
  have he := (sE e X e' ok.ok h2).ex
  have hg := pg_tg (X := X) (blk := none) ok.ok.calm ok.fn ok.ok.nd h1
  refine ss_asg (C' := True) (ps_asg he hg ?_ ?_ rfl)
  · cases e' <;> first | rfl | cases h3
  · cases e' <;> first | rfl | cases h3
theorem asgs_tup {is : List Nat} {es : Exs} {ts vs : List Expr} {kk k2 : Nat} {p p2 pos : Pos} (ok : CxS G C k X) (h1 : ckEs G X.N es X.env.scope vs = true) (hz : is.length ≤ 1000) (h2 : ckNms none X.N X.env.scope is ts = true) (hs : swappedStores [.Tuple ts kk p] (.Tuple vs k2 p2) X.env = pure none) :
    PS X (.Assign [.Tuple ts kk p] (.Tuple vs k2 p2) pos) (SS C X.K (.asgs is es)) := by
  have he : PE X (.Tuple vs k2 p2) (TE C X.K (.tup es)) := te_tup (sA es X vs ok.ok h1)
  have hg : PG X (.Tuple ts kk p) (tgG X.K (.tp is)) := pg_tg (X := X) (blk := none) (tg := .tp is) ok.ok.calm ok.fn ok.ok.nd h2
  refine PS.imp (ps_asg he hg rfl hs rfl) fun D σ H ⟨F, ρ, m, env, r, re, h⟩ => ?_
  rw [exS, Out_bind] at h
  refine ⟨F, ρ, m, env, r, re, ?_⟩
  rw [evE, Out_bind]
  refine h.mono (fun ds m1 h1 => ?_) fun _ _ _ z => z
  split at h1
  · rename_i e2 eb
    have hl := bindTp_len eb
    have hz2 : ds.length ≤ LL := by rw [← hl]; exact Nat.le_trans hz (by decide)
    rw [if_pos hz2]
    intro v H1 ρ1 x1 r1 d1
    refine bind_run (own := []) (tg := .tp is) (d := .tup ds) (e := env) (e2 := e2) eb (re.on x1) d1 fun σ2 re2 _ => ?_
    exact (show AnsF X.K F ρ H D (.nx e2) m1 from h1) σ2 H1 ρ1 x1 r1 re2
  · exact h1.elim
theorem asgs_2 {i j : Nat} {x y : Str} {es : Exs} {a b : Expr} {kk k2 : Nat} {px py p p2 pos : Pos} (ok : CxS G C k X) (h1 : ckEs G X.N es X.env.scope [a, b] = true) (hi : X.N[i]? = some x) (hj : X.N[j]? = some y) (hx : X.env.scope.names.lookup x = some .local) (hy : X.env.scope.names.lookup y = some .local) (hij : i ≠ j)
    (hs : swappedStores [.Tuple [.Name x px, .Name y py] kk p] (.Tuple [a, b] k2 p2) X.env = pure (some [x, y])) :
    PS X (.Assign [.Tuple [.Name x px, .Name y py] kk p] (.Tuple [a, b] k2 p2) pos) (SS C X.K (.asgs [i, j] es)) := by
  refine PS.imp (ps_par ok.ok.calm ok.ok.nd hi hj hij hx hy (sA es X [a, b] ok.ok h1) hs rfl) fun D σ H ⟨F, ρ, m, env, r, re, h⟩ => ?_
  rw [exS, Out_bind] at h
  refine TA.run r re (h.mono (fun ds m1 h1 vs H1 ρ1 x1 r1 re1 d1 => ?_) fun _ _ _ z => z)
  split at h1
  · rename_i e2 eb
    match ds, d1, eb with
    | [d, d'], .cons q (.cons q' .nil), eb =>
      injection eb with eb
      subst eb
      exact ⟨_, _, rfl, (show AnsF X.K F ρ H D (.nx _) m1 from h1) _ H1 ρ1 x1 r1 ((re1.set q).set q')⟩
    | [], _, eb => cases eb
    | [_], _, eb => cases eb
    | _ :: _ :: _ :: _, _, eb => cases eb
  · exact h1.elim
theorem asgs_3 {i j l : Nat} {x y z : Str} {es : Exs} {a b c : Expr} {kk k2 : Nat} {px py pz p p2 pos : Pos} (ok : CxS G C k X) (h1 : ckEs G X.N es X.env.scope [a, b, c] = true) (hi : X.N[i]? = some x) (hj : X.N[j]? = some y) (hl : X.N[l]? = some z) (hx : X.env.scope.names.lookup x = some .local) (hy : X.env.scope.names.lookup y = some .local) (hz : X.env.scope.names.lookup z = some .local) (hij : i ≠ j) (hil : i ≠ l) (hjl : j ≠ l)
    (hs : swappedStores [.Tuple [.Name x px, .Name y py, .Name z pz] kk p] (.Tuple [a, b, c] k2 p2) X.env = pure (some [x, y, z])) :
    PS X (.Assign [.Tuple [.Name x px, .Name y py, .Name z pz] kk p] (.Tuple [a, b, c] k2 p2) pos) (SS C X.K (.asgs [i, j, l] es)) := by
  refine PS.imp (ps_par3 ok.ok.calm ok.ok.nd hi hj hl hij hil hjl hx hy hz (sA es X [a, b, c] ok.ok h1) hs rfl) fun D σ H ⟨F, ρ, m, env, r, re, h⟩ => ?_
  rw [exS, Out_bind] at h
  refine TA.run r re (h.mono (fun ds m1 h1 vs H1 ρ1 x1 r1 re1 d1 => ?_) fun _ _ _ z => z)
  split at h1
  · rename_i e2 eb
    match ds, d1, eb with
    | [d, d', d''], .cons q (.cons q' (.cons q'' .nil)), eb =>
      injection eb with eb
      subst eb
      exact ⟨_, _, _, rfl, (show AnsF X.K F ρ H D (.nx _) m1 from h1) _ H1 ρ1 x1 r1 (((re1.set q).set q').set q'')⟩
    | [], _, eb => cases eb
    | [_], _, eb => cases eb
    | [_, _], _, eb => cases eb
    | _ :: _ :: _ :: _ :: _, _, eb => cases eb
  · exact h1.elim
theorem ss_asgs {is : List Nat} {es : Exs} {ts vs : List Expr} {kk k2 : Nat} {p p2 pos : Pos} (ok : CxS G C k X) (h : ckS G X.N X.env.scope (.asgs is es) (.Assign [.Tuple ts kk p] (.Tuple vs k2 p2) pos) = true) : PS X (.Assign [.Tuple ts kk p] (.Tuple vs k2 p2) pos) (SS C X.K (.asgs is es)) := by
  have h : (ckEs G X.N es X.env.scope vs && (decide (is.length ≤ 1000) && (match swSt (fun x => X.env.scope.names.lookup x) ts vs with
    | some none => ckNms none X.N X.env.scope is ts
    | some (some ns) => ckSwap X.N X.env.scope is ts ns
    | none => false))) = true := h
  rw [Bool.and_eq_true, Bool.and_eq_true] at h
  obtain ⟨h1, h2, h3⟩ := h
  split at h3
  · rename_i e
    exact asgs_tup ok h1 (of_decide_eq_true h2) h3 (sw_st ok.kind e)
  · rename_i ns e
    have hs : swappedStores [.Tuple ts kk p] (.Tuple vs k2 p2) X.env = pure (some ns) := sw_st ok.kind e
    have hlen : vs.length = ts.length := by
      unfold swSt at e
      split at e
      · cases e
      · rename_i q
        have q : ¬ ((!(ts.length == 2 || ts.length == 3) || vs.length != ts.length) = true) := q
        rw [Bool.or_eq_true, not_or] at q
        simpa using q.2
    unfold ckSwap at h3
    split at h3
    · rename_i i j x px y py
      simp only [Bool.and_eq_true] at h3
      obtain ⟨g1, g2, g3, g4, g5, g6⟩ := h3
      match vs, hlen, h1, hs with
      | [a, b], _, h1, hs =>
        have e2 := of_decide_eq_true g6
        subst e2
        exact asgs_2 ok h1 (of_decide_eq_true g1) (of_decide_eq_true g2) (of_decide_eq_true g3) (of_decide_eq_true g4) (of_decide_eq_true g5) hs
    · rename_i i j l x px y py z pz
      simp only [Bool.and_eq_true] at h3
      obtain ⟨g1, g2, g3, g4, g5, g6, g7, g8, g9, g10⟩ := h3
      match vs, hlen, h1, hs with
      | [a, b, c], _, h1, hs =>
        have e2 := of_decide_eq_true g10
        subst e2
        exact asgs_3 ok h1 (of_decide_eq_true g1) (of_decide_eq_true g2) (of_decide_eq_true g3) (of_decide_eq_true g4) (of_decide_eq_true g5) (of_decide_eq_true g6) (of_decide_eq_true g7) (of_decide_eq_true g8) (of_decide_eq_true g9) hs
    · cases h3
  · cases h3
mutual
theorem sS : ∀ (s : Sm) (s' : Stmt), CxS G C k X → ckS G X.N X.env.scope s s' = true → PS X s' (SS C X.K s)
  | .asg tg e, s', ok, h => by
    cases s' with
    | Assign tgs e' pos =>
      match tgs, h with
      | [tg'], h =>
        have h : (ckTg none X.N X.env.scope tg tg' && (ckE G X.N e X.env.scope e' && ckAsg X.env.scope e tg' e')) = true := h
        rw [Bool.and_eq_true, Bool.and_eq_true] at h
        obtain ⟨h1, h2, h3⟩ := h
        cases tg' with
        | Name x p =>
          cases tg with
          | nm i => exact ss_asgName ok h1 h2 h3
          | tp _ => cases h1
        | Tuple ts kk p => exact ss_asgTup ok h1 h2 h3
        | _ => cases tg <;> cases h1
    | _ => cases h
  | .asgs is es, s', ok, h => by
    cases s' with
    | Assign tgs e' pos =>
      cases tgs with
      | nil => cases h
      | cons tg' r =>
        cases r with
        | cons _ _ => cases tg' <;> cases h
        | nil =>
          cases tg' with
          | Tuple ts kk p =>
            cases e' with
            | Tuple vs k2 p2 => exact ss_asgs ok h
            | _ => cases h
          | _ => cases h
    | _ => cases h
  | .seti o i e, s', ok, h => by
    cases s' with
    | Assign tgs e' pos =>
      cases tgs with
      | nil => cases h
      | cons tg' r =>
        cases r with
        | cons _ _ => cases tg' <;> cases h
        | nil =>
          cases tg' with
          | Subscript o' i' p =>
            have h : (ckE G X.N o X.env.scope o' && (ckE G X.N i X.env.scope i' && (ckE G X.N e X.env.scope e' && (plainIx i' && noComp e')))) = true := h
            simp only [Bool.and_eq_true] at h
            obtain ⟨h1, h2, h3, h4, h5⟩ := h
            exact ss_seti (sE o X o' ok.ok h1).ex (sE i X i' ok.ok h2).ex (sE e X e' ok.ok h3).ex h4 (by
              show swapsWith e' (some (.Subscript o' i' p)) pos.line X.env = pure false
              exact sw_no h5)
          | _ => cases h
    | _ => cases h
  | .exp e, s', ok, h => by
    cases s' with
    | Expr e' p =>
      have h : (ckE G X.N e X.env.scope e' && noComp e') = true := h
      rw [Bool.and_eq_true] at h
      exact ss_exp (sE e X e' ok.ok h.1).ex (sw_no h.2)
    | _ => cases h
  | .ret e, s', ok, h => by
    cases s' with
    | Return o p =>
      cases o with
      | some e' =>
        have h : ckE G X.N e X.env.scope e' = true := h
        exact ss_ret (sE e X e' ok.ok h).ex
      | none =>
        cases e with
        | cst v =>
          cases v with
          | non => exact ss_retN
          | _ => cases h
        | _ => cases h
    | _ => cases e <;> first | cases h | (rename_i v; cases v <;> cases h)
  | .ite c a b, s', ok, h => by
    cases s' with
    | If c' a' b' p =>
      have h : (ckE G X.N c X.env.scope c' && (tstE c c' && (ckSs G X.N X.env.scope a a' && ckSs G X.N X.env.scope b b'))) = true := h
      simp only [Bool.and_eq_true] at h
      obtain ⟨h1, h2, h3, h4⟩ := h
      exact ss_ite ((sE c X c' ok.ok h1).tst h2) (sSs a a' ok h3) (sSs b b' ok h4)
    | _ => cases h
  | .whl c b, s', ok, h => by
    cases s' with
    | While c' b' o p =>
      cases o with
      | cons _ _ => cases h
      | nil =>
        have h : (ckE G X.N c X.env.scope c' && (tstE c c' && ckSs G X.N X.env.scope b b')) = true := h
        simp only [Bool.and_eq_true] at h
        obtain ⟨h1, h2, h3⟩ := h
        exact ss_whl ok.pass ((sE c X c' ok.ok h1).tst h2) (sSs b b' ok h3)
    | _ => cases h
  | .fr tg q b, s', ok, h => by
    cases s' with
    | For tg' it' b' o p =>
      cases o with
      | cons _ _ => cases h
      | nil =>
        have h : (ckTg none X.N X.env.scope tg tg' && (tupTg tg tg' && (ckQ G X.N q X.env.scope (oneTg tg) it' && (notSet it' && ckSs G X.N X.env.scope b b')))) = true := h
        simp only [Bool.and_eq_true] at h
        obtain ⟨h1, h2, h3, h4, h5⟩ := h
        exact ss_for ok.pass ok.ok.calm (sQ q X tg' it' (oneTg tg) ok.ok h3 (tup_of h2)) (pg_tg (X := X) (blk := none) ok.ok.calm ok.fn ok.ok.nd h1) (sSs b b' ok h5) (fs_set h4)
    | _ => cases h
  | .rse _ _, s', ok, h => ss_rse
  | .pss, s', ok, h => by
    cases s' with
    | Pass p => exact ss_pass
    | _ => cases h
  | .brk, s', ok, h => by
    cases s' with
    | Break p => exact ss_brk
    | _ => cases h
  | .cnt, s', ok, h => by
    cases s' with
    | Continue p => exact ss_cnt
    | _ => cases h
theorem sSs : ∀ (s : Sms) (s' : List Stmt), CxS G C k X → ckSs G X.N X.env.scope s s' = true → PSs X s' (SB C X.K s)
  | .nil, s', ok, h => by
    cases s' with
    | nil => exact sb_nil
    | cons _ _ => cases h
  | .cons s ss, s', ok, h => by
    cases s' with
    | nil => cases h
    | cons a r =>
      have h : (ckS G X.N X.env.scope s a && ckSs G X.N X.env.scope ss r) = true := h
      rw [Bool.and_eq_true] at h
      exact sb_cons (sS s a ok h.1) (sSs ss r ok h.2)
  | .gfz i ss, s', ok, h => by
    have h : ckSs G X.N X.env.scope ss s' = true := by cases s' <;> exact h
    exact sb_gfz (sSs ss s' ok h)
end
end
end MP
/-! MP: a table of functions; every one does what its run says. -/
namespace MP
open PySem PySem.Spec PyProof.Rows L2

/-- a def of the program: its name, its text, the names of its slots, its parameters -/
structure PF where
  name : Str
  fn : Fn
  N : List Str
  ps : List Str
  params : Arguments
  body : List Stmt
  scope : Scope
abbrev Tb := List PF
def Tb.Γ (T : Tb) (i : Nat) : Option Fn := (T[i]?).map PF.fn
def nmsFrom : Nat → List PF → List (Str × Nat)
  | _, [] => []
  | i, d :: T => (d.name, i) :: nmsFrom (i + 1) T
def Tb.glob (T : Tb) (cst : List (Str × Val)) (free : List Str) : Glob := ⟨cst, nmsFrom 0 T, free⟩
theorem nms_of : ∀ {T : List PF} {j : Nat} {x : Str} {i : Nat}, (nmsFrom j T).lookup x = some i → ∃ n d, i = j + n ∧ T[n]? = some d ∧ d.name = x
  | [], _, _, _, h => by cases h
  | d :: T, j, x, i, h => by
    have h : (match x == d.name with | true => some j | false => (nmsFrom (j + 1) T).lookup x) = some i := h
    cases hb : x == d.name with
    | true =>
      rw [hb] at h
      injection h with h
      exact ⟨0, d, by omega, rfl, (eq_of_beq hb).symm⟩
    | false =>
      rw [hb] at h
      obtain ⟨n, d', e1, e2, e3⟩ := nms_of h
      exact ⟨n + 1, d', by omega, by simpa using e2, e3⟩
theorem Tb.of {T : Tb} {cst : List (Str × Val)} {free : List Str} {x : Str} {i : Nat} (h : (T.glob cst free).fns.lookup x = some i) : ∃ d, T[i]? = some d ∧ d.name = x := by
  obtain ⟨n, d, e1, e2, e3⟩ := nms_of h
  have e : i = n := by omega
  subst e
  exact ⟨d, e2, e3⟩
/-- the check of a def -/
def ckPF (G : Glob) (d : PF) : Bool :=
  isFn d.scope && (!d.scope.isCoroutine && (!d.scope.isGenerator && (decide d.N.Nodup && (decide (d.N.take d.ps.length = d.ps) && ((d.ps.all fun x => lcl d.scope x || decide (d.scope.names.lookup x = some .cell)) && ((d.scope.names.all fun y => decide (y.2 ≠ .free)) &&
    (decide (d.fn.np = d.ps.length) && (decide (d.fn.ns = d.N.length) && ckSs G d.N d.scope d.fn.body d.body))))))))
def BindOk (d : PF) : Prop := ∀ (kV doc pm : Value) (an : Option Addr) (cdv ct : Value) (us : List Value), us.length = d.ps.length → bindArgs (PySem.W.fnOf d.name d.name d.params d.body d.scope .none kV doc pm an cdv ct) ⟨us, []⟩ = pure (d.ps.zip us)
structure PFok (G : Glob) (d : PF) : Prop where
  ck : ckPF G d = true
  bd : BindOk d
theorem PFok.sc {G : Glob} {d : PF} (h : PFok G d) : FnScope d.N d.ps d.scope ∧ d.fn.np = d.ps.length ∧ d.fn.ns = d.N.length ∧ isFn d.scope = true ∧ ckSs G d.N d.scope d.fn.body d.body = true := by
  have c := h.ck
  unfold ckPF at c
  simp only [Bool.and_eq_true] at c
  obtain ⟨c1, c2, c3, c4, c5, c6, c7, c8, c9, c10⟩ := c
  refine ⟨⟨isFn_of c1, by simpa using c2, by simpa using c3, of_decide_eq_true c4, of_decide_eq_true c5, fun x hx => ?_, fun y hy => of_decide_eq_true (List.all_eq_true.mp c7 y hy)⟩, of_decide_eq_true c8, of_decide_eq_true c9, c1, c10⟩
  have q := List.all_eq_true.mp c6 x hx
  rw [Bool.or_eq_true] at q
  rcases q with q | q
  · exact .inl (of_decide_eq_true q)
  · exact .inr (of_decide_eq_true q)
/-- what the head says of the table -/
structure Stands (T : Tb) (cst : List (Str × Val)) (free : List Str) (K : PySem.W.Frag) (mg : Str → Option Value) : Prop where
  fns : ∀ (i : Nat) (d : PF), T[i]? = some d → ∃ fa fd, mg d.name = some (.ref fa) ∧ FunD K d.name d.name d.params d.body d.scope [] [] fa fd
  cst : ∀ x v, cst.lookup x = some v → ∃ u w, mg x = some u ∧ RelV w u ∧ ∀ F ρ H, Den K F ρ H v w
  free : ∀ x, free.contains x = true → mg x = none
section
variable {T : Tb} {cst : List (Str × Val)} {free : List Str} {K : PySem.W.Frag} {mg : Str → Option Value} {P : Program} {w : World} {base : Heap}
theorem run_bad {k i : Nat} {as : List Val} {m : Mem} {d : PF} (h : T[i]? = some d) (hl : as.length ≠ d.fn.np) : runF T.Γ k i as m = .bad := by
  cases k with
  | zero => rfl
  | succ k =>
    rw [runF]
    unfold Tb.Γ
    rw [h]
    show (if as.length = d.fn.np then _ else R.bad) = R.bad
    rw [if_neg hl]
theorem start_at {as : List Val} {vs : List V} {F : Addr → Prop} {ρ : Rho} {H : Hp} {N : List Str} (h : DenAll K F ρ H as vs) : RelE K F ρ H (startE N.length as) (L2.start N vs) where
  len := by unfold startE L2.start; rw [List.length_append, List.length_append, List.length_map, List.length_map, h.length, List.length_replicate, List.length_replicate]
  at_ := fun i d e => by
    unfold startE at e
    unfold L2.start
    by_cases hi : i < as.length
    · rw [List.getElem?_append_left (by simpa using hi), List.getElem?_map] at e
      rw [List.getElem?_append_left (by rw [List.length_map, ← h.length]; exact hi), List.getElem?_map]
      cases q : as[i]? with
      | none => rw [q] at e; cases e
      | some d' =>
        rw [q] at e
        have e : d' = d := Option.some.inj (Option.some.inj e)
        subst e
        obtain ⟨v, e1, e2⟩ := h.get i d' q
        exact ⟨v, by rw [e1]; rfl, e2⟩
    · rw [List.getElem?_append_right (by simpa using hi)] at e
      have := List.mem_of_getElem? e
      have := (List.mem_replicate.mp this).2
      cases this
theorem fn_zero {i : Nat} {d : PF} {fa : Addr} {fd : FuncData} : FnOk P w K mg base CX0 0 fa fd d.ps (spF K (calls T.Γ 0) i d.ps.length) where
  len := fun vs H Q E h => h.1
  run := fun A outer s H args us vs Q E hr e0 hb hv h => by
    obtain ⟨_, F, ρ, m, as, r, dn, h⟩ := h
    exact h.elim
theorem fn_all (ok : ∀ d ∈ T, PFok (T.glob cst free) d) (st : Stands T cst free K mg) : ∀ (k i : Nat) (d : PF) (fa : Addr) (fd : FuncData), T[i]? = some d → FunD K d.name d.name d.params d.body d.scope [] [] fa fd → FnOk P w K mg base CX0 k fa fd d.ps (spF K (calls T.Γ k) i d.ps.length)
  | 0, i, d, fa, fd, _, _ => fn_zero
  | k + 1, i, d, fa, fd, hd, PF => by
    have fo := ok d (List.mem_of_getElem? hd)
    obtain ⟨sc, hnp, hns, hkind, hck⟩ := fo.sc
    refine PF.ok sc (fun vs H Q E h => h.1) fun cdv A outer s H vs Q E hr h => ⟨SB (calls T.Γ k) K d.fn.body, PSs.nox ?_, ?_⟩
    · have cx : CxS (T.glob cst free) (calls T.Γ k) k (cxOf CX0 P w K mg base d.N d.name d.scope fa cdv A outer s H E).nox := by
        refine ⟨⟨rfl, sc.nd, hr, fun x hx => st.free x hx, fun x f hx => ?_, fun x v hx => st.cst x v hx⟩, PassesOwn.never, rfl, hkind⟩
        obtain ⟨d', hd', hn⟩ := Tb.of hx
        obtain ⟨fa', fd', e1, PF'⟩ := st.fns f d' hd'
        refine ⟨fa', fd', d'.ps, ?_, PF'.kp, PF'.bindsN (ok d' (List.mem_of_getElem? hd')).bd, fn_all ok st k f d' fa' fd' hd' PF', fun as m hl => ?_⟩
        · rw [← hn]; exact e1
        · refine run_bad hd' ?_
          rw [(ok d' (List.mem_of_getElem? hd')).sc.2.1]
          exact hl
      exact sSs d.fn.body d.body cx hck
    · obtain ⟨hl, F, ρ, m, as, r, dn, h⟩ := h
      have h : (runF T.Γ (k + 1) i as m).Out (Ans K F ρ H Q) WF := h
      rw [runF] at h
      unfold Tb.Γ at h
      rw [hd] at h
      have h : (if as.length = d.fn.np then (exSs ⟨runF T.Γ k⟩ d.fn.body (startE d.fn.ns as) m).bind fun fl m' => (match fl with
        | .rt v => .ok v m'
        | .nx _ => .ok .non m'
        | _ => .bad) else .bad : R Val).Out (Ans K F ρ H Q) WF := h
      rw [if_pos (by rw [dn.length, hl, hnp]), Out_bind, hns] at h
      refine ⟨F, ρ, m, startE d.N.length as, r, start_at dn, h.mono (fun fl m' h => ?_) fun _ _ _ z => z⟩
      cases fl with
      | nx e => exact fun σ' H' ρ' x r' re' => (show Ans K F ρ H Q .non m' from h) .non H' ρ' x r' .non
      | rt v => exact fun u H' ρ' x r' dn' => (show Ans K F ρ H Q v m' from h) u H' ρ' x r' dn'
      | bk e => exact h.elim
      | ct e => exact h.elim
/-- the law's def at the script -/
theorem law_sp {k i : Nat} {H : Hp} {a : Addr} {ns : List Int} (hO : Only H) (hS : SqL K H a (ns.map V.int)) (h : ∃ m, runF T.Γ k i [.scr ns] [] = .ok (.bl true) m) : spF K (calls T.Γ k) i 1 [.ref a] H (fun v _ => v = .bl true) fun _ _ _ => False := by
  have hs : SqS K H a (ns.map V.int) := by
    rcases hS with (h | ⟨o, h⟩) | h
    · rcases hO a with z | ⟨o, xs, z⟩
      · rw [z] at h; cases h
      · rw [z] at h; cases h
    · exact .inl ⟨o, h⟩
    · exact .inr h
  obtain ⟨m, h⟩ := h
  refine ⟨rfl, fun _ => False, [], [], [.scr ns], ⟨rfl, fun i j a e => by simp at e, fun i a e => by simp at e, fun i ds e => by simp at e, fun a z => z.elim, fun a z => z.elim⟩, .cons (.scr hs) .nil, ?_⟩
  show (runF T.Γ k i [.scr ns] []).Out _ WF
  rw [h]
  intro v H' ρ' _ _ dn
  cases dn
  rfl
end
/-! ### the head's Hook, with tuples of the module -/
abbrev TupD := List (Str × List He.Dv)
def obsX (tb : TupD) (fa : List He.Fa) (fn : List He.DefD) (K : PySem.W.Frag) : He.AlD := ((tb.all fun t => He.tupB K t.1 t.2) && (He.obsD fa fn K).1, (He.obsD fa fn K).2)
def SaysX (tb : TupD) (fa : List He.Fa) (fn : List He.DefD) (K : PySem.W.Frag) : Prop := obsX tb fa fn K = He.valD fn
def obsXG (n : Nat) (tb : TupD) (fa : List He.Fa) (fn : List He.DefD) (g : Addr → Option Obj) : He.AlD := obsX tb fa fn (He.frG g (He.asD g n))
def hookX (n : Nat) (tb : TupD) (fa : List He.Fa) (fn : List He.DefD) : PySem.W.Hook where
  α := He.AlD
  obs := fun s => obsXG n tb fa fn s.heap.get?
  val := fun _ => He.valD fn
  says := fun _ h => ∃ K : PySem.W.Frag, K.In h ∧ SaysX tb fa fn K
  of := fun _ _ e => ⟨_, He.frG_in, e⟩
  keeps := fun _ _ _ ⟨K, hK, c⟩ k => ⟨K, PySem.W.Frag.In.keeps hK k, c⟩
theorem obsXG_eq {n : Nat} {tb : TupD} {fa : List He.Fa} {fn : List He.DefD} {g : Addr → Option Obj} {s : Shared} (h : ∀ a, g a = s.heap.get? a) : obsXG n tb fa fn g = (hookX n tb fa fn).obs s := by
  have e : g = s.heap.get? := funext h
  rw [e] <;> rfl
theorem SaysX.d {tb : TupD} {fa : List He.Fa} {fn : List He.DefD} {K : PySem.W.Frag} (c : SaysX tb fa fn K) : He.SaysD fa fn K ∧ ∀ t ∈ tb, He.tupB K t.1 t.2 = true := by
  have c1 : ((tb.all fun t => He.tupB K t.1 t.2) && (He.obsD fa fn K).1) = true := congrArg (fun z : He.AlD => z.1) c
  have cc : obsX tb fa fn K = He.valD fn := c
  have c2 : (obsX tb fa fn K).2 = (He.valD fn).2 := by rw [cc]
  rw [Bool.and_eq_true] at c1
  refine ⟨?_, fun t ht => List.all_eq_true.mp c1.1 t ht⟩
  show He.obsD fa fn K = He.valD fn
  exact Prod.ext c1.2 (show (He.obsD fa fn K).2 = _ from c2)
def mkD (d : PF) : He.DefD := ⟨(d.name, none), d.name, d.name, d.params, d.body, d.scope, [], []⟩
/-- a module's constants -/
inductive Cn where
  | int (i : Int) | str (x : Str) | tup (xs : List Int)
def Cn.v : Cn → Val
  | .int i => .int i
  | .str x => .str x
  | .tup xs => .tup (xs.map .int)
def cnV (cs : List (Str × Cn)) : List (Str × Val) := cs.map fun c => (c.1, c.2.v)
def faC : List (Str × Cn) → List He.Fa
  | [] => []
  | (x, .int i) :: r => .int x i :: faC r
  | (x, .str z) :: r => .str x z :: faC r
  | (x, .tup _) :: r => .glo x :: faC r
def tbC : List (Str × Cn) → TupD
  | [] => []
  | (x, .tup xs) :: r => (x, xs.map .int) :: tbC r
  | _ :: r => tbC r
def faOf (T : Tb) (cs : List (Str × Cn)) (free : List Str) : List He.Fa := (T.map fun d => .glo d.name) ++ ((free.map .free) ++ faC cs)
theorem faC_mem : ∀ {cs : List (Str × Cn)} {x : Str} {c : Cn}, (x, c) ∈ cs → (match c with
    | .int i => He.Fa.int x i ∈ faC cs
    | .str z => He.Fa.str x z ∈ faC cs
    | .tup xs => He.Fa.glo x ∈ faC cs ∧ (x, xs.map He.Dv.int) ∈ tbC cs)
  | (y, d) :: r, x, c, h => by
    rcases List.mem_cons.mp h with e | h
    · cases e
      cases d with
      | int i => exact List.mem_cons_self
      | str i => exact List.mem_cons_self
      | tup xs => exact ⟨List.mem_cons_self, List.mem_cons_self⟩
    · have q := faC_mem h
      cases c with
      | int i => cases d <;> exact List.mem_cons_of_mem _ q
      | str i => cases d <;> exact List.mem_cons_of_mem _ q
      | tup xs => cases d with
        | int j => exact ⟨List.mem_cons_of_mem _ q.1, q.2⟩
        | str j => exact ⟨List.mem_cons_of_mem _ q.1, q.2⟩
        | tup j => exact ⟨List.mem_cons_of_mem _ q.1, List.mem_cons_of_mem _ q.2⟩
theorem dv_int {K : PySem.W.Frag} (xs : List Int) : (xs.map He.Dv.int).map (He.Dv.v K) = xs.map V.int := by
  rw [List.map_map]
  rfl
theorem stands {T : Tb} {cs : List (Str × Cn)} {free : List Str} {K : PySem.W.Frag} {h : Heap} {mg : Str → Option Value} (X : K.In h) (G : h.Ns mainGlobals mg) (c : SaysX (tbC cs) (faOf T cs free) (T.map mkD) K) : Stands T (cnV cs) free K mg := by
  obtain ⟨c, ct⟩ := c.d
  have fact : ∀ f ∈ faOf T cs free, f.ok K = true := fun f hf => by
    obtain ⟨i, hi⟩ := List.getElem?_of_mem hf
    exact c.fact i hi
  refine ⟨fun i d hd => ?_, fun x v hx => ?_, fun x hx => ?_⟩
  · have hm : (T.map mkD)[i]? = some (mkD d) := by rw [List.getElem?_map, hd]; rfl
    obtain ⟨fd, F⟩ := c.def_ i hm
    refine ⟨He.ga K d.name, fd, He.glo_ok X G (fact _ (List.mem_append_left _ (List.mem_map.mpr ⟨d, List.mem_of_getElem? hd, rfl⟩))), F⟩
  · obtain ⟨cn, hm, rfl⟩ : ∃ cn, (x, cn) ∈ cs ∧ cn.v = v := by
      have hmem := PySem.mem_of_lookup hx
      obtain ⟨p, hp, e⟩ := List.mem_map.mp hmem
      obtain ⟨y, cn⟩ := p
      cases e
      exact ⟨cn, hp, rfl⟩
    have q := faC_mem hm
    have inl : ∀ {f : He.Fa}, f ∈ faC cs → f ∈ faOf T cs free := fun hf => List.mem_append_right _ (List.mem_append_right _ hf)
    cases cn with
    | int i =>
      obtain ⟨t, e⟩ := He.int_ok X G (fact _ (inl q))
      exact ⟨_, .int i, e, ⟨t, rfl⟩, fun F ρ H => .int i⟩
    | str z =>
      obtain ⟨t, e⟩ := He.str_ok X G (fact _ (inl q))
      exact ⟨_, .str z, e, ⟨t, rfl⟩, fun F ρ H => .str z⟩
    | tup xs =>
      refine ⟨_, .ref (He.ga K x), He.glo_ok X G (fact _ (inl q.1)), rfl, fun F ρ H => ?_⟩
      have sq := He.tupB_ok (ct _ q.2) H
      rw [dv_int] at sq
      exact .tup sq (DenAll.ints xs)
  · have hf : x ∈ free := List.contains_iff_mem.mp hx
    exact He.free_ok X G (fact _ (List.mem_append_right _ (List.mem_append_left _ (List.mem_map.mpr ⟨x, hf, rfl⟩))))
/-- all together: what the head's end asks -/
theorem law_facts {T : Tb} {cs : List (Str × Cn)} {free : List Str} {P : Program} {w : World} {K : PySem.W.Frag} {h : Heap} {mg : Str → Option Value} {k i : Nat} {d : PF} {fa : Addr} {x : Str} (X : K.In h) (G : h.Ns mainGlobals mg) (c : SaysX (tbC cs) (faOf T cs free) (T.map mkD) K)
    (ok : ∀ d ∈ T, PFok (T.glob (cnV cs) free) d) (hd : T[i]? = some d) (hp : d.ps = [x]) (hfa : mg d.name = some (.ref fa)) :
    ∃ fd : FuncData, (∀ (s : Shared) (u : Value), BindsTo s fd ⟨[u], []⟩ [(x, u)]) ∧ ∀ base : Heap, K.In base → base.Ns mainGlobals mg → FnOk P w K mg base CX0 k fa fd [x] (spF K (calls T.Γ k) i 1) := by
  have st := stands X G c
  obtain ⟨fa', fd, e, F⟩ := st.fns i d hd
  rw [hfa] at e
  cases e
  have bd := (ok d (List.mem_of_getElem? hd)).bd
  refine ⟨fd, fun s u => ?_, fun base _ _ => ?_⟩
  · have := FunD.bindsA (ps := d.ps) F bd s [u] (by rw [hp]; rfl)
    rw [hp] at this
    exact this
  · have := fn_all (P := P) (w := w) (base := base) ok st k i d fa fd hd F
    rw [hp] at this
    exact this
end MP
/-! MP: tools to evaluate the small interpreter. -/
namespace MQ
open PySem MP
abbrev Env := MP.Env

theorem bind_ok {α β : Type} {a : α} {m : Mem} {f : α → Mem → R β} : (R.ok a m).bind f = f a m := id rfl
theorem ofO_some {α : Type} {a : α} {m : Mem} : ofO (some a) m = .ok a m := id rfl
/-- what a run gives, from the flow -/
def fin (fl : Fl) (m : Mem) : R Val := match fl with
  | .rt v => .ok v m
  | .nx _ => .ok .non m
  | _ => .bad
theorem run_def {Γ : Nat → Option Fn} {K f : Nat} {fn : Fn} {as : List Val} {m : Mem} (h : Γ f = some fn) (hl : as.length = fn.np) : runF Γ (K + 1) f as m = (exSs ⟨runF Γ K⟩ fn.body (startE fn.ns as) m).bind fin := by
  rw [runF, h]
  show (if as.length = fn.np then _ else _) = _
  rw [if_pos hl]
  rfl
/-- an answer, as a caller that stands apart takes it -/
def Ret (Γ : Nat → Option Fn) (K f : Nat) (as : List Val) (v : Val) : Prop := ∃ r m1, runF Γ K f as [] = .ok r m1 ∧ snap m1 r = some v
theorem pcall_of {Γ : Nat → Option Fn} {K f : Nat} {as bs : List Val} {m : Mem} {v : Val} (h : Ret Γ K f bs v) (hs : snaps m as = some bs) (hc : (noRefs as || noLst v) = true) : pcallR ⟨runF Γ K⟩ false f as m = .ok v m := by
  obtain ⟨r, m1, e1, e2⟩ := h
  unfold pcallR
  rw [hs]
  show (match runF Γ K f bs [] with
    | .bad => R.bad
    | .ex c v m1 => if noRef v && (noRefs as || noLst v) then R.ex c v m else R.bad
    | .ok r m1 => (match snap m1 r with
        | some v => if noRefs as || noLst v then R.ok v m else R.bad
        | none => R.bad)) = _
  rw [e1]
  show (match snap m1 r with
        | some v => if noRefs as || noLst v then R.ok v m else R.bad
        | none => R.bad) = _
  rw [e2]
  show (if (noRefs as || noLst v) = true then R.ok v m else .bad) = _
  rw [if_pos hc]
theorem rs_of {m : Mem} {v : Val} (h : noRef v = true) : rs m v = v := by
  cases v <;> first | rfl | cases h
theorem snap_of {m : Mem} {v : Val} (h : noRef v = true) : snap m v = some v := by
  unfold snap
  rw [rs_of h, if_pos h]
theorem snaps_of : ∀ {as : List Val} {m : Mem}, noRefs as = true → snaps m as = some as
  | [], _, _ => rfl
  | v :: vs, m, h => by
    have h : (noRef v && noRefs vs) = true := h
    rw [Bool.and_eq_true] at h
    unfold snaps
    rw [snap_of h.1, snaps_of h.2]
theorem pcall_id {Γ : Nat → Option Fn} {K f : Nat} {as : List Val} {m : Mem} {v : Val} (h : Ret Γ K f as v) (hs : noRefs as = true) : pcallR ⟨runF Γ K⟩ false f as m = .ok v m := pcall_of h (snaps_of hs) (by rw [hs]; rfl)
theorem Ret.of {Γ : Nat → Option Fn} {K f : Nat} {as : List Val} {v : Val} {m : Mem} (h : runF Γ K f as [] = .ok v m) (hv : noRef v = true) : Ret Γ K f as v := ⟨v, m, h, snap_of hv⟩
/-! ### operations -/
theorem op_add {i j : Int} : opV .add (.int i) (.int j) = some (.int (i + j)) := id rfl
theorem op_sub {i j : Int} : opV .sub (.int i) (.int j) = some (.int (i - j)) := id rfl
theorem op_mul {i j : Int} (h : mulOk i j = true) : opV .mul (.int i) (.int j) = some (.int (i * j)) := by
  show (if mulOk i j = true then some (Val.int (i * j)) else none) = _
  rw [if_pos h]
theorem op_fdiv {i j : Int} (h : divOk j = true) : opV .fdiv (.int i) (.int j) = some (.int (i / j)) := by
  show (if divOk j = true then some (Val.int (i / j)) else _) = _
  rw [if_pos h]
theorem op_mod {i j : Int} (h : j ≠ 0) : opV .mod (.int i) (.int j) = some (.int (i.fmod j)) := by
  show (if j = 0 then none else some (Val.int (i.fmod j))) = _
  rw [if_neg h]
theorem op_catL {xs ys : List Val} (h : xs.length + ys.length ≤ LL) : opV .add (.lst xs) (.lst ys) = some (.lst (xs ++ ys)) := by
  show (if xs.length + ys.length ≤ LL then some (Val.lst (xs ++ ys)) else none) = _
  rw [if_pos h]
theorem op_catT {xs ys : List Val} (h : xs.length + ys.length ≤ LL) : opV .add (.tup xs) (.tup ys) = some (.tup (xs ++ ys)) := by
  show (if xs.length + ys.length ≤ LL then some (Val.tup (xs ++ ys)) else none) = _
  rw [if_pos h]
theorem cmp_eq {i j : Int} : cmpV .eq (.int i) (.int j) = some (decide (i = j)) := id rfl
theorem cmp_ne {i j : Int} : cmpV .ne (.int i) (.int j) = some (!decide (i = j)) := id rfl
theorem cmp_lt {i j : Int} : cmpV .lt (.int i) (.int j) = some (decide (i < j)) := id rfl
theorem cmp_le {i j : Int} : cmpV .le (.int i) (.int j) = some (decide (i ≤ j)) := id rfl
theorem cmp_gt {i j : Int} : cmpV .gt (.int i) (.int j) = some (decide (j < i)) := id rfl
theorem cmp_ge {i j : Int} : cmpV .ge (.int i) (.int j) = some (decide (j ≤ i)) := id rfl
/-! ### loops -/
theorem mapR_all {f : Val → Mem → R (Option Val)} {g : Val → Val} {m : Mem} : ∀ {vs : List Val}, (∀ v ∈ vs, f v m = .ok (some (g v)) m) → mapR f vs m = .ok (vs.map g) m
  | [], _ => rfl
  | v :: vs, h => by
    rw [mapR, h v List.mem_cons_self, bind_ok, mapR_all fun w hw => h w (List.mem_cons_of_mem _ hw), bind_ok]
    rfl
/-- with a test -/
theorem mapR_some {f : Val → Mem → R (Option Val)} {g : Val → Option Val} {m : Mem} : ∀ {vs : List Val}, (∀ v ∈ vs, f v m = .ok (g v) m) → mapR f vs m = .ok (vs.filterMap g) m
  | [], _ => rfl
  | v :: vs, h => by
    rw [mapR, h v List.mem_cons_self, bind_ok, mapR_some fun w hw => h w (List.mem_cons_of_mem _ hw), bind_ok, List.filterMap_cons]
    cases g v <;> rfl
theorem FUEL_eq : ∃ n, FUEL = n + 1000000 := ⟨2 ^ 100000 - 1000000, by unfold FUEL; exact (Nat.sub_add_cancel (Nat.le_trans (show 1000000 ≤ 2 ^ 20 by decide) (Nat.pow_le_pow_right (by decide) (by decide)))).symm⟩
/-! ### the small interpreter's steps, for simp -/
def getE (o : Option (Option Val)) (m : Mem) : R Val := match o with
  | some (some v) => .ok v m
  | _ => .bad
def brB {β : Type} (x : Val) (t f : R β) : R β := match x with
  | .bl true => t
  | .bl false => f
  | _ => .bad
def brO {β : Type} (x : Option Bool) (t f : R β) : R β := match x with
  | some true => t
  | some false => f
  | none => .bad
def asB (x : Val) (m : Mem) : R Val := match x with
  | .bl c => .ok (.bl c) m
  | _ => .bad
def asN (x : Val) (m : Mem) : R Val := match x with
  | .bl c => .ok (.bl (!c)) m
  | _ => .bad
def asNeg (x : Val) (m : Mem) : R Val := match x with
  | .int c => .ok (.int (-c)) m
  | _ => .bad
def asI (x : Val) (m : Mem) : R (Option Int) := match x with
  | .int c => .ok (some c) m
  | _ => .bad
def nxF (fl : Fl) (m : Mem) (k : MQ.Env → Mem → R Fl) : R Fl := match fl with
  | .nx e => k e m
  | .rt v => .ok (.rt v) m
  | .bk e => .ok (.bk e) m
  | .ct e => .ok (.ct e) m
theorem getE_some {v : Val} {m : Mem} : getE (some (some v)) m = .ok v m := id rfl
theorem brB_bl {β : Type} {c : Bool} {t f : R β} : brB (.bl c) t f = if c = true then t else f := by cases c <;> rfl
theorem brO_some {β : Type} {c : Bool} {t f : R β} : brO (some c) t f = if c = true then t else f := by cases c <;> rfl
theorem asB_bl {c : Bool} {m : Mem} : asB (.bl c) m = .ok (.bl c) m := id rfl
theorem asN_bl {c : Bool} {m : Mem} : asN (.bl c) m = .ok (.bl (!c)) m := id rfl
theorem asNeg_int {c : Int} {m : Mem} : asNeg (.int c) m = .ok (.int (-c)) m := id rfl
theorem asI_int {c : Int} {m : Mem} : asI (.int c) m = .ok (some c) m := id rfl
theorem nxF_nx {e : MQ.Env} {m : Mem} {k : MQ.Env → Mem → R Fl} : nxF (.nx e) m k = k e m := id rfl
theorem nxF_rt {e : Val} {m : Mem} {k : MQ.Env → Mem → R Fl} : nxF (.rt e) m k = .ok (.rt e) m := id rfl
theorem fin_rt {v : Val} {m : Mem} : fin (.rt v) m = .ok v m := id rfl
theorem fin_nx {e : MQ.Env} {m : Mem} : fin (.nx e) m = .ok .non m := id rfl
theorem ite_bind {α β : Type} {c : Prop} [Decidable c] {a b : R α} {f : α → Mem → R β} : (if c then a else b).bind f = if c then a.bind f else b.bind f := by split <;> rfl
theorem ite_and {c d : Bool} {m : Mem} : (if c = true then R.ok (Val.bl d) m else R.ok (Val.bl false) m) = R.ok (Val.bl (c && d)) m := by cases c <;> rfl
theorem ite_or {c d : Bool} {m : Mem} : (if c = true then R.ok (Val.bl true) m else R.ok (Val.bl d) m) = R.ok (Val.bl (c || d)) m := by cases c <;> rfl
theorem rs_int {m : Mem} {i : Int} : rs m (.int i) = .int i := id rfl
theorem rs_bl {m : Mem} {i : Bool} : rs m (.bl i) = .bl i := id rfl
theorem rs_tup {m : Mem} {i : List Val} : rs m (.tup i) = .tup i := id rfl
theorem rs_lst {m : Mem} {i : List Val} : rs m (.lst i) = .lst i := id rfl
theorem rs_scr {m : Mem} {i : List Int} : rs m (.scr i) = .scr i := id rfl
theorem rs_non {m : Mem} : rs m .non = .non := id rfl
section
variable {C : Calls} {e : MQ.Env} {m : Mem} {a b c : Ex} {es : Exs} {s : Sm} {ss ss2 : Sms} {i : Nat}
theorem ev_var : evE C (.var i) e m = getE e[i]? m := by rw [evE]; rfl
theorem ev_cst {v : Val} : evE C (.cst v) e m = .ok v m := by rw [evE]
theorem ev_op {o : Bop} : evE C (.op o a b) e m = (evE C a e m).bind fun x m1 => (evE C b e m1).bind fun y m2 => ofO (opV o (rs m2 x) (rs m2 y)) m2 := by rw [evE]
theorem ev_neg : evE C (.neg a) e m = (evE C a e m).bind asNeg := by rw [evE]; rfl
theorem ev_cmp {o : Cop} : evE C (.cmp o a b) e m = (evE C a e m).bind fun x m1 => (evE C b e m1).bind fun y m2 => ofO ((cmpV o (rs m2 x) (rs m2 y)).map .bl) m2 := by rw [evE]
theorem ev_chain {o o' : Cop} : evE C (.chain o o' a b c) e m = (evE C a e m).bind fun x m1 => (evE C b e m1).bind fun y m2 => brO (cmpV o (rs m2 x) (rs m2 y)) ((evE C c e m2).bind fun z m3 => ofO ((cmpV o' (rs m3 y) (rs m3 z)).map .bl) m3) (.ok (.bl false) m2) := by rw [evE]; rfl
theorem ev_and : evE C (.and a b) e m = (evE C a e m).bind fun x m1 => brB x ((evE C b e m1).bind asB) (.ok (.bl false) m1) := by rw [evE]; rfl
theorem ev_or : evE C (.or a b) e m = (evE C a e m).bind fun x m1 => brB x (.ok (.bl true) m1) ((evE C b e m1).bind asB) := by rw [evE]; congr 1; funext x m1; cases x <;> first | rfl | (rename_i b; cases b <;> rfl)
theorem ev_not : evE C (.not a) e m = (evE C a e m).bind asN := by rw [evE]; rfl
theorem ev_ife : evE C (.ife c a b) e m = (evE C c e m).bind fun x m1 => brB x (evE C a e m1) (evE C b e m1) := by rw [evE]; rfl
theorem ev_tup : evE C (.tup es) e m = (evs C es e m).bind fun vs m1 => if vs.length ≤ LL then .ok (.tup vs) m1 else .bad := by rw [evE]
theorem ev_lst : evE C (.lst false es) e m = (evs C es e m).bind fun vs m1 => if vs.length ≤ LL then .ok (.lst vs) m1 else .bad := by rw [evE]; rfl
theorem ev_lstM : evE C (.lst true es) e m = (evs C es e m).bind fun vs m1 => if vs.length ≤ LL then .ok (.ref m1.length) (m1 ++ [.lst vs]) else .bad := by rw [evE]; rfl
theorem ev_idx : evE C (.idx a b) e m = (evE C a e m).bind fun x m1 => (evE C b e m1).bind fun y m2 => ofO (idxV (rs m2 x) y) m2 := by rw [evE]
theorem ev_sl2 {lo hi : Oe} : evE C (.sl a lo hi .non) e m = (evE C a e m).bind fun x m1 => (evO C lo e m1).bind fun l m2 => (evO C hi e m2).bind fun h m3 => ofO (cutO l h (rs m3 x)) m3 := by rw [evE]; rfl
theorem ev_sl3 {lo hi : Oe} {st : Ex} : evE C (.sl a lo hi (.som st)) e m = (evE C a e m).bind fun x m1 => (evO C lo e m1).bind fun l m2 => (evO C hi e m2).bind fun h m3 => (evE C st e m3).bind fun s m4 => (match s with
      | .int k => ofO (stepO k l h (rs m4 x)) m4
      | _ => .bad) := by rw [evE]; rfl
theorem ev_pcall {th : Bool} {f : Nat} : evE C (.pcall th f es) e m = (evs C es e m).bind fun vs m1 => pcallR C th f vs m1 := by rw [evE]
theorem ev_mcall {f : Nat} : evE C (.mcall f es) e m = (evs C es e m).bind fun vs m1 => C.run f vs m1 := by rw [evE]
theorem ev_blt {o : Blt} : evE C (.blt o a) e m = (evE C a e m).bind fun x m1 => ofO (bltV o (rs m1 x)) m1 := by rw [evE]
theorem ev_blt2 {o : Blt} : evE C (.blt2 o a b) e m = (evE C a e m).bind fun x m1 => (evE C b e m1).bind fun y m2 => ofO (blt2V o x y) m2 := by rw [evE]
theorem ev_isi {t : Ty} : evE C (.isi a t) e m = (evE C a e m).bind fun x m1 => ofO ((isiV (rs m1 x) t).map .bl) m1 := by rw [evE]
def lcB (C : Calls) (elt : Ex) (tg : Tg) (c : Oe) (e : MQ.Env) (v : Val) (m : Mem) : R (Option Val) := match bindTg tg v e with
  | some e2 => (match c with
    | .non => (evE C elt e2 m).bind fun w m3 => .ok (some w) m3
    | .som c => (evE C c e2 m).bind fun b m3 => brB b ((evE C elt e2 m3).bind fun w m4 => .ok (some w) m4) (.ok none m3))
  | none => .bad
theorem ev_lcF {elt : Ex} {tg : Tg} {q : Sq} {co : Oe} {own : List Nat} : evE C (.lc false elt tg q co own) e m = (evQ C q e m).bind fun vs m1 => (mapR (lcB C elt tg co (wipeE e own)) vs m1).bind fun ws m3 => .ok (.lst ws) m3 := by
  rw [evE]
  rfl
theorem ev_lcT {elt : Ex} {tg : Tg} {q : Sq} {co : Oe} {own : List Nat} : evE C (.lc true elt tg q co own) e m = (evQ C q e m).bind fun vs m1 => (mapR (lcB C elt tg co (wipeE e own)) vs m1).bind fun ws m3 => .ok (.ref m3.length) (m3 ++ [.lst ws]) := by
  rw [evE]
  rfl
theorem ev_lqF {q : Sq} : evE C (.lq false q) e m = (evQ C q e m).bind fun vs m1 => .ok (.lst vs) m1 := by rw [evE]; rfl
theorem ev_lqT {q : Sq} : evE C (.lq true q) e m = (evQ C q e m).bind fun vs m1 => .ok (.ref m1.length) (m1 ++ [.lst vs]) := by rw [evE]; rfl
theorem evs_nil : evs C .nil e m = .ok [] m := by rw [evs]
theorem evs_cons : evs C (.cons a es) e m = (evE C a e m).bind fun x m1 => (evs C es e m1).bind fun xs m2 => .ok (x :: xs) m2 := by rw [evs]
def spl (x : Val) (f : List Val → R (List Val)) : R (List Val) := match x with
  | .lst xs => f xs
  | .tup xs => f xs
  | _ => .bad
theorem spl_lst {xs : List Val} {f : List Val → R (List Val)} : spl (.lst xs) f = f xs := id rfl
theorem spl_tup {xs : List Val} {f : List Val → R (List Val)} : spl (.tup xs) f = f xs := id rfl
theorem evs_star : evs C (.star a es) e m = (evE C a e m).bind fun x m1 => spl (rs m1 x) fun xs => (evs C es e m1).bind fun ys m2 => .ok (xs ++ ys) m2 := by
  rw [evs]
  congr 1
theorem evO_non : evO C .non e m = .ok none m := by rw [evO]
theorem evO_som : evO C (.som a) e m = (evE C a e m).bind asI := by rw [evO]; rfl
theorem evQ_of : evQ C (.of a) e m = (evE C a e m).bind fun x m1 => ofO (seqOf x) m1 := by rw [evQ]
theorem evQ_rng1 : evQ C (.rng1 a) e m = (evE C a e m).bind fun x m1 => ofO (rng1V x) m1 := by rw [evQ]
theorem evQ_rng2 : evQ C (.rng2 a b) e m = (evE C a e m).bind fun x m1 => (evE C b e m1).bind fun y m2 => ofO (rng2V x y) m2 := by rw [evQ]
theorem evQ_rng3 : evQ C (.rng3 a b c) e m = (evE C a e m).bind fun x m1 => (evE C b e m1).bind fun y m2 => (evE C c e m2).bind fun z m3 => ofO (rng3V x y z) m3 := by rw [evQ]
def bothS (x y : Val) (f : List Val → List Val → R (List Val)) : R (List Val) := match seqOf x, seqOf y with
    | some xs, some ys => f xs ys
    | _, _ => .bad
theorem evQ_zip2 : evQ C (.zip2 a b) e m = (evE C a e m).bind fun x m1 => (evE C b e m1).bind fun y m2 => (match seqOf x, seqOf y with
    | some xs, some ys => .ok (zip2V xs ys) m2
    | _, _ => .bad) := by rw [evQ] <;> rfl
theorem evQ_zip3 : evQ C (.zip3 a b c) e m = (evE C a e m).bind fun x m1 => (evE C b e m1).bind fun y m2 => (evE C c e m2).bind fun z m3 => (match seqOf x, seqOf y, seqOf z with
    | some xs, some ys, some zs => .ok (zip3V xs ys zs) m3
    | _, _, _ => .bad) := by rw [evQ] <;> rfl
theorem evQ_enum : evQ C (.enum a) e m = (evE C a e m).bind fun x m1 => (match seqOf x with
    | some xs => .ok (enumV 0 xs) m1
    | none => .bad) := by rw [evQ] <;> rfl
def bnd (o : Option MQ.Env) (m : Mem) : R Fl := match o with
  | some e => .ok (.nx e) m
  | none => .bad
theorem bnd_some {e : MQ.Env} {m : Mem} : bnd (some e) m = .ok (.nx e) m := id rfl
theorem ex_asg {tg : Tg} : exS C (.asg tg a) e m = (evE C a e m).bind fun x m1 => bnd (bindTg tg x e) m1 := by rw [exS] <;> rfl
theorem ex_asgs {is : List Nat} : exS C (.asgs is es) e m = (evs C es e m).bind fun vs m1 => bnd (bindTp is vs e) m1 := by rw [exS] <;> rfl
theorem ex_exp : exS C (.exp a) e m = (evE C a e m).bind fun _ m1 => .ok (.nx e) m1 := by rw [exS]
theorem ex_ret : exS C (.ret a) e m = (evE C a e m).bind fun v m1 => .ok (.rt v) m1 := by rw [exS]
theorem ex_ite : exS C (.ite c ss ss2) e m = (evE C c e m).bind fun x m1 => brB x (exSs C ss e m1) (exSs C ss2 e m1) := by rw [exS] <;> rfl
theorem ex_fr {tg : Tg} {q : Sq} : exS C (.fr tg q ss) e m = (evQ C q e m).bind fun vs m1 => frGo tg (exSs C ss) vs e m1 := by rw [exS]
theorem exs_nil : exSs C .nil e m = .ok (.nx e) m := by rw [exSs]
theorem exs_cons : exSs C (.cons s ss) e m = (exS C s e m).bind fun fl m1 => nxF fl m1 (exSs C ss) := by rw [exSs]; rfl
def gzR (o : Option (Option Val)) (k : Nat → R Fl) : R Fl := match o with
  | some (some (.ref l)) => k l
  | _ => .bad
theorem gzR_ref {l : Nat} {k : Nat → R Fl} : gzR (some (some (.ref l))) k = k l := id rfl
def gzL (o : Option MO) (k : List Val → R Fl) : R Fl := match o with
  | some (.lst xs) => k xs
  | _ => .bad
theorem gzL_lst {xs : List Val} {k : List Val → R Fl} : gzL (some (.lst xs)) k = k xs := id rfl
theorem exs_gfz : exSs C (.gfz i ss) e m = gzR e[i]? fun l => gzL m[l]? fun xs => exSs C ss (e.set i (some (.lst xs))) (m.set l .dead) := by
  rw [exSs] <;> rfl
theorem seq_tup {xs : List Val} : seqOf (.tup xs) = some xs := id rfl
theorem seq_lst {xs : List Val} : seqOf (.lst xs) = some xs := id rfl
theorem seq_scr {xs : List Int} : seqOf (.scr xs) = some (xs.map .int) := id rfl
theorem map_some_ {α β : Type} {f : α → β} {a : α} : Option.map f (some a) = some (f a) := id rfl
theorem bt_nm {v : Val} : bindTg (.nm i) v e = some (e.set i (some v)) := id rfl
theorem bt_tp {is : List Nat} {vs : List Val} : bindTg (.tp is) (.tup vs) e = bindTp is vs e := id rfl
theorem btp_nil : bindTp [] [] e = some e := id rfl
theorem btp_cons {is : List Nat} {vs : List Val} {v : Val} : bindTp (i :: is) (v :: vs) e = bindTp is vs (e.set i (some v)) := id rfl
end
/-! ### loops, step by step -/
def lpF (fl : Fl) (m : Mem) (k : MQ.Env → Mem → R Fl) : R Fl := match fl with
  | .nx e => k e m
  | .ct e => k e m
  | .bk e => .ok (.nx e) m
  | .rt v => .ok (.rt v) m
theorem lpF_nx {e : MQ.Env} {m : Mem} {k : MQ.Env → Mem → R Fl} : lpF (.nx e) m k = k e m := id rfl
theorem lpF_rt {v : Val} {m : Mem} {k : MQ.Env → Mem → R Fl} : lpF (.rt v) m k = .ok (.rt v) m := id rfl
theorem ex_whl {C : Calls} {c : Ex} {b : Sms} {e : MQ.Env} {m : Mem} : exS C (.whl c b) e m = whlGo (evE C c) (exSs C b) FUEL e m := by rw [exS]
theorem whl_step {c : MQ.Env → Mem → R Val} {b : MQ.Env → Mem → R Fl} {n : Nat} {e : MQ.Env} {m : Mem} : whlGo c b (n + 1) e m = (c e m).bind fun v m1 => brB v ((b e m1).bind fun fl m2 => lpF fl m2 (whlGo c b n)) (.ok (.nx e) m1) := by
  rw [whlGo]
  rfl
def frB (o : Option MQ.Env) (k : MQ.Env → R Fl) : R Fl := match o with
  | some e => k e
  | none => .bad
theorem frB_some {e : MQ.Env} {k : MQ.Env → R Fl} : frB (some e) k = k e := id rfl
theorem fr_nil {tg : Tg} {b : MQ.Env → Mem → R Fl} {e : MQ.Env} {m : Mem} : frGo tg b [] e m = .ok (.nx e) m := by rw [frGo]
theorem fr_cons {tg : Tg} {b : MQ.Env → Mem → R Fl} {v : Val} {vs : List Val} {e : MQ.Env} {m : Mem} : frGo tg b (v :: vs) e m = frB (bindTg tg v e) fun e1 => (b e1 m).bind fun fl m2 => lpF fl m2 (frGo tg b vs) := by
  rw [frGo]
  cases bindTg tg v e <;> rfl
theorem ex_seti {C : Calls} {o i a : Ex} {e : MQ.Env} {m : Mem} : exS C (.seti o i a) e m = (evE C a e m).bind fun v m1 => (evE C o e m1).bind fun x m2 => (evE C i e m2).bind fun j m3 => (match x, j with
    | .ref n, .int j => (match m3[n]? with
      | some (.lst xs) => if decide (0 ≤ j) && decide (j.toNat < xs.length) then .ok (.nx e) (m3.set n (.lst (xs.set j.toNat v))) else .bad
      | _ => .bad)
    | _, _ => .bad) := by rw [exS] <;> rfl
/-! ### sizes -/
theorem log2_le {n s : Nat} (h : n < 2 ^ s) : n.log2 ≤ s := by
  by_cases h0 : n = 0
  · rw [h0]; exact Nat.le_trans (by decide) (Nat.zero_le s)
  · exact Nat.le_of_lt ((Nat.log2_lt h0).mpr h)
theorem mulOk_of {i j : Int} {s t : Nat} (h1 : i.natAbs < 2 ^ s) (h2 : j.natAbs < 2 ^ t) (h : s + t < 1000000) : mulOk i j = true := by
  unfold mulOk
  have := log2_le h1
  have := log2_le h2
  exact decide_eq_true (by omega)
theorem divOk_of {j : Int} {s : Nat} (h0 : 0 < j) (h1 : j.natAbs < 2 ^ s) (h : s < 9000) : divOk j = true := by
  unfold divOk
  have := log2_le h1
  rw [Bool.and_eq_true]
  exact ⟨decide_eq_true h0, decide_eq_true (by omega)⟩
/-! ### comprehensions, rows of bools and ints -/
theorem wipe_nil {e : MQ.Env} : wipeE e [] = e := id rfl
theorem wipe_cons {e : MQ.Env} {v : Nat} {vs : List Nat} : wipeE e (v :: vs) = (wipeE e vs).set v none := id rfl
def lcK (o : Option MQ.Env) (k : MQ.Env → R (Option Val)) : R (Option Val) := match o with
  | some e => k e
  | none => .bad
theorem lcK_some {e : MQ.Env} {k : MQ.Env → R (Option Val)} : lcK (some e) k = k e := id rfl
theorem lcB_non {C : Calls} {elt : Ex} {tg : Tg} {e : MQ.Env} {v : Val} {m : Mem} : lcB C elt tg .non e v m = lcK (bindTg tg v e) fun e2 => (evE C elt e2 m).bind fun w m3 => .ok (some w) m3 := by
  unfold lcB
  cases bindTg tg v e <;> rfl
theorem lcB_som {C : Calls} {elt c : Ex} {tg : Tg} {e : MQ.Env} {v : Val} {m : Mem} : lcB C elt tg (.som c) e v m = lcK (bindTg tg v e) fun e2 => (evE C c e2 m).bind fun b m3 => brB b ((evE C elt e2 m3).bind fun w m4 => .ok (some w) m4) (.ok none m3) := by
  unfold lcB
  cases bindTg tg v e <;> rfl
def addO (o : Option Val) (ws : List Val) : List Val := match o with
  | some w => w :: ws
  | none => ws
theorem addO_some {w : Val} {ws : List Val} : addO (some w) ws = w :: ws := id rfl
theorem addO_none {ws : List Val} : addO none ws = ws := id rfl
theorem mapR_nil {f : Val → Mem → R (Option Val)} {m : Mem} : mapR f [] m = .ok [] m := id rfl
theorem mapR_cons {f : Val → Mem → R (Option Val)} {v : Val} {vs : List Val} {m : Mem} : mapR f (v :: vs) m = (f v m).bind fun o m1 => (mapR f vs m1).bind fun ws m2 => .ok (addO o ws) m2 := id rfl
theorem mapR_of {α : Type} {f : Val → Mem → R (Option Val)} {w h : α → Val} {m : Mem} : ∀ {l : List α}, (∀ a ∈ l, f (w a) m = .ok (some (h a)) m) → mapR f (l.map w) m = .ok (l.map h) m
  | [], _ => rfl
  | a :: l, hh => by
    rw [List.map_cons, mapR_cons, hh a List.mem_cons_self, bind_ok, mapR_of fun b hb => hh b (List.mem_cons_of_mem _ hb), bind_ok]
    rfl
theorem mapR_if {α : Type} {f : Val → Mem → R (Option Val)} {w h : α → Val} {p : α → Bool} {m : Mem} : ∀ {l : List α}, (∀ a ∈ l, f (w a) m = .ok (if p a = true then some (h a) else none) m) → mapR f (l.map w) m = .ok ((l.filter p).map h) m
  | [], _ => rfl
  | a :: l, hh => by
    rw [List.map_cons, mapR_cons, hh a List.mem_cons_self, bind_ok, mapR_if fun b hb => hh b (List.mem_cons_of_mem _ hb), bind_ok, List.filter_cons]
    cases p a <;> rfl
theorem allB_map {α : Type} {p : α → Bool} : ∀ l : List α, allB (l.map fun a => Val.bl (p a)) = some (l.all p)
  | [] => rfl
  | a :: l => by
    rw [List.map_cons, allB, allB_map l, List.all_cons]
    rfl
theorem anyB_map {α : Type} {p : α → Bool} : ∀ l : List α, anyB (l.map fun a => Val.bl (p a)) = some (l.any p)
  | [] => rfl
  | a :: l => by
    rw [List.map_cons, anyB, anyB_map l, List.any_cons]
    rfl
theorem all_lst {l : List Val} {b : Bool} (h : allB l = some b) : bltV .all (.lst l) = some (.bl b) := by
  show (allB l).map Val.bl = _
  rw [h]
  rfl
theorem len_lst {l : List Val} : bltV .len (.lst l) = some (.int l.length) := id rfl
theorem len_tup {l : List Val} : bltV .len (.tup l) = some (.int l.length) := id rfl
theorem len_scr {l : List Int} : bltV .len (.scr l) = some (.int l.length) := id rfl
theorem tup_lst {l : List Val} : bltV .tuple (.lst l) = some (.tup l) := id rfl
theorem lis_tup {l : List Val} : bltV .list (.tup l) = some (.lst l) := id rfl
theorem lis_lst {l : List Val} : bltV .list (.lst l) = some (.lst l) := id rfl
theorem sumI_map {α : Type} {p : α → Int} : ∀ l : List α, sumI (l.map fun a => Val.int (p a)) = some ((l.map p).sum)
  | [] => rfl
  | a :: l => by
    rw [List.map_cons, sumI, sumI_map l, List.map_cons, List.sum_cons]
    rfl
theorem sum_lst {l : List Val} {b : Int} (h : sumI l = some b) : bltV .sum (.lst l) = some (.int b) := by
  show (sumI l).map Val.int = _
  rw [h]
  rfl
theorem idx_lst {l : List Val} {i : Nat} {v : Val} (h : l[i]? = some v) : idxV (.lst l) (.int i) = some v := by
  show L2.atI l (i : Int) = some v
  have hl := (List.getElem?_eq_some_iff.mp h).1
  unfold L2.atI L2.ixN
  rw [if_pos (by omega), if_pos (by omega), Int.toNat_natCast]
  exact h
theorem idx_tup {l : List Val} {i : Nat} {v : Val} (h : l[i]? = some v) : idxV (.tup l) (.int i) = some v := idx_lst h
theorem cutO_lst {lo hi : Option Int} {xs : List Val} : cutO lo hi (.lst xs) = some (.lst (cutL xs lo hi)) := id rfl
theorem cutO_tup {lo hi : Option Int} {xs : List Val} : cutO lo hi (.tup xs) = some (.tup (cutL xs lo hi)) := id rfl
theorem cutO_scr {lo hi : Option Int} {xs : List Int} : cutO lo hi (.scr xs) = some (.lst ((cutL xs lo hi).map .int)) := id rfl
theorem stepO_2 {lo hi : Option Int} {xs : List Val} : stepO 2 lo hi (.lst xs) = some (.lst (pickL xs lo hi (some 2))) := id rfl
theorem stepO_rev {xs : List Val} : stepO (-1) none none (.tup xs) = some (.tup xs.reverse) := id rfl
theorem len_LL {n : Nat} (h : n ≤ 1000) : n ≤ LL := Nat.le_trans h (by decide)
/-! ### lists that are changed -/
def apT {β : Type} (o : Option Nat) (k : Nat → R β) : R β := match o with
  | some n => k n
  | none => .bad
theorem apT_some {β : Type} {n : Nat} {k : Nat → R β} : apT (some n) k = k n := id rfl
def apL {β : Type} (o : Option MO) (k : List Val → R β) : R β := match o with
  | some (.lst xs) => k xs
  | _ => .bad
theorem apL_some {β : Type} {xs : List Val} {k : List Val → R β} : apL (some (.lst xs)) k = k xs := id rfl
def apV (v : Val) (k : List Val → R Val) : R Val := match v with
  | .lst xs => k xs
  | _ => .bad
theorem apV_lst {xs : List Val} {k : List Val → R Val} : apV (.lst xs) k = k xs := id rfl
def apR (v : Val) (k : Nat → R Val) : R Val := match v with
  | .ref n => k n
  | _ => .bad
theorem apR_ref {n : Nat} {k : Nat → R Val} : apR (.ref n) k = k n := id rfl
def apO (o : Option (List Val)) (k : List Val → R Val) : R Val := match o with
  | some ys => k ys
  | none => .bad
theorem apO_some {ys : List Val} {k : List Val → R Val} : apO (some ys) k = k ys := id rfl
theorem memAt_hd {xs : List Val} {m : Mem} : memAt (.lst xs :: m) (.ref 0) = some 0 := id rfl
theorem memAt_of {xs : List Val} {m : Mem} {l : Nat} (h : m[l]? = some (.lst xs)) : memAt m (.ref l) = some l := by
  show (match m[l]? with
    | some (.lst _) => some l
    | _ => none) = some l
  rw [h]
theorem rs_hd {xs : List Val} {m : Mem} : rs (.lst xs :: m) (.ref 0) = .lst xs := id rfl
theorem rs_at {xs : List Val} {m : Mem} {l : Nat} (h : m[l]? = some (.lst xs)) : rs m (.ref l) = .lst xs := by
  show (match m[l]? with
    | some (.lst xs) => Val.lst xs
    | _ => .ref l) = .lst xs
  rw [h]
theorem ev_app {C : Calls} {l a : Ex} {e : MQ.Env} {m : Mem} : evE C (.app l a) e m = (evE C l e m).bind fun x m1 => apT (memAt m1 x) fun n => (evE C a e m1).bind fun y m2 => apL m2[n]? fun xs => if xs.length < LL then .ok .non (m2.set n (.lst (xs ++ [y]))) else .bad := by
  rw [evE]
  congr 1
  funext x m1
  cases memAt m1 x <;> rfl
theorem ev_ext {C : Calls} {l a : Ex} {e : MQ.Env} {m : Mem} : evE C (.ext l a) e m = (evE C l e m).bind fun x m1 => apT (memAt m1 x) fun n => (evE C a e m1).bind fun y m2 => apV y fun ys => apL m2[n]? fun xs => if xs.length + ys.length ≤ LL then .ok .non (m2.set n (.lst (xs ++ ys))) else .bad := by
  rw [evE]
  congr 1
  funext x m1
  cases memAt m1 x <;> rfl
theorem ev_rem {C : Calls} {l a : Ex} {e : MQ.Env} {m : Mem} : evE C (.rem l a) e m = (evE C l e m).bind fun x m1 => apT (memAt m1 x) fun n => (evE C a e m1).bind fun y m2 => apL m2[n]? fun xs => apO (rem1 y xs) fun ys => .ok .non (m2.set n (.lst ys)) := by
  rw [evE]
  congr 1
  funext x m1
  cases memAt m1 x <;> rfl
theorem ev_frz {C : Calls} {a : Ex} {e : MQ.Env} {m : Mem} : evE C (.frz a) e m = (evE C a e m).bind fun x m1 => apR x fun n => apL m1[n]? fun xs => .ok (.lst xs) (m1.set n .dead) := by
  rw [evE]
  congr 1
theorem snap_hd {xs : List Val} {m : Mem} (h : noRefs xs = true) : snap (.lst xs :: m) (.ref 0) = some (.lst xs) := by
  unfold snap
  rw [rs_hd]
  show (if noRefs xs = true then _ else _) = _
  rw [if_pos h]
/-- the loops' measure, as a number of which only its size is known -/
theorem FUEL_ex : ∃ F : Nat, (∀ (C : Calls) (c : Ex) (b : Sms) (e : MQ.Env) (m : Mem), exS C (.whl c b) e m = whlGo (evE C c) (exSs C b) F e m) ∧ 1000000 ≤ F ∧ 2 ^ 99999 < F :=
  ⟨FUEL, fun _ _ _ _ _ => ex_whl, by
    obtain ⟨n, h⟩ := FUEL_eq
    omega, by unfold FUEL; exact Nat.pow_lt_pow_right (by decide) (by decide)⟩
theorem memAt_end {xs : List Val} {m : Mem} : memAt (m ++ [.lst xs]) (.ref m.length) = some m.length := memAt_of (by rw [List.getElem?_append_right (Nat.le_refl _), Nat.sub_self]; rfl)
theorem get_end {x : MO} {m : Mem} : (m ++ [x])[m.length]? = some x := by rw [List.getElem?_append_right (Nat.le_refl _), Nat.sub_self]; rfl
theorem set_end {x y : MO} {m : Mem} : (m ++ [x]).set m.length y = m ++ [y] := by
  rw [List.set_append_right _ _ (Nat.le_refl _), Nat.sub_self]
  rfl
end MQ
/-! MP: fractions. -/
namespace MQ
open PySem MP

def fq (q : Rat) : Val := .tup [.int q.num, .int q.den]
theorem gcd_fmod (a b : Int) : Int.gcd b (a.fmod b) = Int.gcd a b := by
  have h : a.fmod b = a - b * a.fdiv b := by
    have := Int.fmod_add_mul_fdiv a b
    omega
  rw [h, Int.gcd_comm a b]
  have e : a - b * a.fdiv b = a + (-(a.fdiv b)) * b := by rw [Int.neg_mul, Int.mul_comm]; omega
  rw [e, Int.gcd_add_mul_right_right]
theorem fmod_abs {a b : Int} (h : b ≠ 0) : (a.fmod b).natAbs < b.natAbs := by
  rcases Int.lt_or_gt_of_ne h with hb | hb
  · have h1 := Int.fmod_add_mul_fdiv a b
    rw [Int.fmod_eq_emod]
    have h2 := Int.emod_nonneg a h
    have h3 := Int.emod_lt_of_neg a hb
    split
    · rename_i hc
      rcases hc with hc | hc
      · omega
      · rw [Int.emod_eq_zero_of_dvd hc]; omega
    · omega
  · have h2 : a.fmod b < b := Int.fmod_lt_of_pos a hb
    have h3 : 0 ≤ a.fmod b := Int.fmod_nonneg_of_pos a hb
    omega
theorem div_num {a b : Int} (h : 0 < b) : a / (Int.gcd a b : Int) = (Rat.divInt a b).num := by
  rw [Rat.num_divInt, Int.sign_eq_one_of_pos h, Int.one_mul, Int.gcd_comm]
theorem div_den {a b : Int} (h : 0 < b) : b / (Int.gcd a b : Int) = ((Rat.divInt a b).den : Int) := by
  rw [Rat.den_divInt, if_neg (by omega), Int.gcd_comm, Int.natCast_ediv, Int.natAbs_of_nonneg (by omega)]
theorem gcd_pos' {a b : Int} (h : 0 < b) : 0 < (Int.gcd a b : Int) := by
  have := Int.gcd_pos_of_ne_zero_right a (show b ≠ 0 by omega)
  omega
theorem gcd_le' {a b : Int} (h : 0 < b) : (Int.gcd a b) ≤ b.natAbs := by
  have h1 : (Int.gcd a b : Int) ∣ b := Int.gcd_dvd_right ..
  have := Int.le_of_dvd h h1
  omega
/-! ### sizes -/
def Sz (s : Nat) (q : Rat) : Prop := q.num.natAbs < 2 ^ s ∧ q.den < 2 ^ s
theorem Sz.mono {s t : Nat} {q : Rat} (h : Sz s q) (hs : s ≤ t) : Sz t q :=
  ⟨Nat.lt_of_lt_of_le h.1 (Nat.pow_le_pow_right (by decide) hs), Nat.lt_of_lt_of_le h.2 (Nat.pow_le_pow_right (by decide) hs)⟩
theorem mul_lt_pow {a b s t : Nat} (h1 : a < 2 ^ s) (h2 : b < 2 ^ t) : a * b < 2 ^ (s + t) := by
  rw [Nat.pow_add]
  by_cases hb : b = 0
  · rw [hb, Nat.mul_zero]; exact Nat.mul_pos (Nat.pow_pos (by decide)) (Nat.pow_pos (by decide))
  · exact Nat.lt_of_lt_of_le (Nat.mul_lt_mul_of_pos_right h1 (Nat.pos_of_ne_zero hb)) (Nat.mul_le_mul_left _ (Nat.le_of_lt h2))
theorem sz_div {a b : Int} {s : Nat} (hb : 0 < b) (h1 : a.natAbs < 2 ^ s) (h2 : b.natAbs < 2 ^ s) : Sz s (Rat.divInt a b) := by
  constructor
  · rw [← div_num hb]
    rw [Int.natAbs_ediv_of_dvd (Int.gcd_dvd_left ..)]
    exact Nat.lt_of_le_of_lt (Nat.div_le_self _ _) h1
  · have := div_den (a := a) hb
    have h3 : ((Rat.divInt a b).den : Int) ≤ b := by
      rw [← this]
      exact Int.ediv_le_self _ (by omega)
    omega
theorem add_div (a b : Rat) : a + b = Rat.divInt (a.num * b.den + b.num * a.den) (a.den * b.den) := by
  rw [← Rat.divInt_add_divInt a.num b.num (by have := a.den_nz; omega) (by have := b.den_nz; omega), Rat.num_divInt_den, Rat.num_divInt_den]
theorem mul_div (a b : Rat) : a * b = Rat.divInt (a.num * b.num) (a.den * b.den) := by
  rw [← Rat.divInt_mul_divInt, Rat.num_divInt_den, Rat.num_divInt_den]
theorem den_pos (a : Rat) : 0 < (a.den : Int) := by have := a.den_pos; omega
theorem add_nat {a b : Int} {s t : Nat} {c d : Nat} (h1 : a.natAbs < 2 ^ s) (h2 : d < 2 ^ t) (h3 : b.natAbs < 2 ^ t) (h4 : c < 2 ^ s) : (a * (d : Int) + b * (c : Int)).natAbs < 2 ^ (s + t + 1) := by
  have e1 : (a * (d : Int)).natAbs < 2 ^ (s + t) := by rw [Int.natAbs_mul]; exact mul_lt_pow h1 h2
  have e2 : (b * (c : Int)).natAbs < 2 ^ (s + t) := by rw [Int.natAbs_mul, Nat.mul_comm]; exact mul_lt_pow h4 h3
  have := Int.natAbs_add_le (a * (d : Int)) (b * (c : Int))
  rw [Nat.pow_succ]
  omega
theorem den_nat {c d s t : Nat} (h1 : c < 2 ^ s) (h2 : d < 2 ^ t) : ((c : Int) * (d : Int)).natAbs < 2 ^ (s + t) := by
  rw [Int.natAbs_mul]
  exact mul_lt_pow h1 h2
theorem Sz.add {a b : Rat} {s t : Nat} (h1 : Sz s a) (h2 : Sz t b) : Sz (s + t + 1) (a + b) := by
  rw [add_div]
  exact sz_div (Int.mul_pos (den_pos a) (den_pos b)) (add_nat h1.1 h2.2 h2.1 h1.2) (Nat.lt_of_lt_of_le (den_nat h1.2 h2.2) (Nat.pow_le_pow_right (by decide) (Nat.le_succ _)))
theorem Sz.mul {a b : Rat} {s t : Nat} (h1 : Sz s a) (h2 : Sz t b) : Sz (s + t) (a * b) := by
  rw [mul_div]
  exact sz_div (Int.mul_pos (den_pos a) (den_pos b)) (by rw [Int.natAbs_mul]; exact mul_lt_pow h1.1 h2.1) (den_nat h1.2 h2.2)
/-! ### values -/
theorem noRef_fq (q : Rat) : noRef (fq q) = true := rfl
theorem noLst_fq (q : Rat) : noLst (fq q) = true := rfl
theorem noRefs_map {α : Type} {f : α → Val} (h : ∀ a, noRef (f a) = true) : ∀ l : List α, noRefs (l.map f) = true
  | [] => rfl
  | a :: l => by
    show (noRef (f a) && noRefs (l.map f)) = true
    rw [h a, noRefs_map h l]
    rfl
theorem fq_inj {a b : Rat} (h : fq a = fq b) : a = b := by
  unfold fq at h
  injection h with h
  injection h with h1 h2
  injection h2 with h2 _
  injection h1 with h1
  injection h2 with h2
  exact Rat.ext h1 (by omega)
end MQ
namespace MQ
open PySem MP
theorem pow_le {x : Int} {s : Nat} (h : x.natAbs ≤ 2 ^ s) (k : Nat) : (x ^ k).natAbs ≤ 2 ^ (s * k) := by
  rw [Int.natAbs_pow, Nat.pow_mul]
  exact Nat.pow_le_pow_left h k
theorem lt_succ_pow {n s : Nat} (h : n ≤ 2 ^ s) : n < 2 ^ (s + 1) := by
  rw [Nat.pow_succ]
  have : 0 < 2 ^ s := Nat.pow_pos (by decide)
  omega
theorem rngL_zero (n : Nat) : rngL 0 n = (List.range n).map fun k => Val.int (k : Nat) := by
  unfold rngL
  congr 1
  funext k
  rw [Int.zero_add]
theorem rng1_ok {n : Nat} (h : n ≤ 1000000) : rng1V (.int n) = some (rngL 0 n) := by
  have e : rngOk (n : Int) = true := by
    unfold rngOk
    rw [Bool.and_eq_true]
    exact ⟨decide_eq_true (by omega), decide_eq_true (by omega)⟩
  show (if rngOk (n : Int) = true then some (rngL 0 (n : Int).toNat) else none) = _
  rw [if_pos e, Int.toNat_natCast]
theorem rng2_ok {i j : Int} (h1 : -1000000 ≤ i) (h2 : i ≤ 1000000) (h3 : -1000000 ≤ j) (h4 : j ≤ 1000000) : rng2V (.int i) (.int j) = some (rngL i (j - i).toNat) := by
  have e : (rngOk i && rngOk j) = true := by
    unfold rngOk
    rw [Bool.and_eq_true, Bool.and_eq_true, Bool.and_eq_true]
    exact ⟨⟨decide_eq_true h1, decide_eq_true h2⟩, decide_eq_true h3, decide_eq_true h4⟩
  show (if (rngOk i && rngOk j) = true then some (rngL i (j - i).toNat) else none) = _
  rw [if_pos e]
theorem rngL_length (i : Int) (n : Nat) : (rngL i n).length = n := by unfold rngL; rw [List.length_map, List.length_range]
/-- the least, as the loops find it -/
def minF (f q : Rat) : Rat := if q < f then q else f
def minL (f : Rat) (qs : List Rat) : Rat := qs.foldl minF f
theorem minL_le {f : Rat} : ∀ {qs : List Rat}, minL f qs ≤ f ∧ (∀ q ∈ qs, minL f qs ≤ q) ∧ (minL f qs = f ∨ minL f qs ∈ qs) := by
  intro qs
  induction qs generalizing f with
  | nil => exact ⟨Rat.le_refl, ⟨fun q (h : q ∈ ([] : List Rat)) => absurd h List.not_mem_nil, Or.inl rfl⟩⟩
  | cons a qs ih =>
    obtain ⟨h1, h2, h3⟩ := ih (f := minF f a)
    have e : minL f (a :: qs) = minL (minF f a) qs := rfl
    have ha : minF f a ≤ f ∧ minF f a ≤ a ∧ (minF f a = f ∨ minF f a = a) := by
      unfold minF
      by_cases h : a < f
      · rw [if_pos h]; exact ⟨by grind, Rat.le_refl, .inr rfl⟩
      · rw [if_neg h]; exact ⟨Rat.le_refl, by grind, .inl rfl⟩
    rw [e]
    refine ⟨by grind, fun q hq => ?_, ?_⟩
    · rcases List.mem_cons.mp hq with z | z
      · rw [z]; grind
      · exact h2 q z
    · rcases h3 with z | z
      · rw [z]
        rcases ha.2.2 with y | y
        · exact .inl y
        · exact .inr (by rw [y]; exact List.mem_cons_self)
      · exact .inr (List.mem_cons_of_mem _ z)
theorem fq_tup (q : Rat) : fq q = .tup [.int q.num, .int q.den] := id rfl
theorem seq_map {α : Type} {f : α → Val} {l : List α} : seqOf (.lst (l.map f)) = some (l.map f) := id rfl
end MQ
namespace MQ
open PySem MP
/-! ### every second one; neighbours added -/
def ev {α : Type} : List α → List α
  | [] => []
  | [a] => [a]
  | a :: _ :: r => a :: ev r
def od {α : Type} : List α → List α
  | [] => []
  | [_] => []
  | _ :: b :: r => b :: od r
def pr : List Rat → List Rat
  | [] => []
  | [a] => [a]
  | a :: b :: r => (a + b) :: pr r
theorem ev_range {α : Type} : ∀ xs : List α, ((List.range ((xs.length + 1) / 2)).map fun k => 2 * k).filterMap (xs[·]?) = ev xs
  | [] => by simp [ev]
  | [a] => by simp [ev, List.range_succ_eq_map]
  | a :: b :: r => by
    have e : ((a :: b :: r).length + 1) / 2 = (r.length + 1) / 2 + 1 := by simp only [List.length_cons]; omega
    rw [e, List.range_succ_eq_map, List.map_cons, List.filterMap_cons, List.map_map]
    show a :: _ = a :: ev r
    rw [← ev_range r, List.filterMap_map, List.filterMap_map]
    rfl
theorem od_range {α : Type} : ∀ xs : List α, ((List.range (xs.length / 2)).map fun k => 2 * k + 1).filterMap (xs[·]?) = od xs
  | [] => by simp [od]
  | [a] => by simp [od]
  | a :: b :: r => by
    have e : (a :: b :: r).length / 2 = r.length / 2 + 1 := by simp only [List.length_cons]; omega
    rw [e, List.range_succ_eq_map, List.map_cons, List.filterMap_cons, List.map_map]
    show b :: _ = b :: od r
    rw [← od_range r, List.filterMap_map, List.filterMap_map]
    rfl
theorem pick_ev {α : Type} (xs : List α) : pickL xs none none (some 2) = ev xs := by
  rw [← ev_range xs]
  unfold pickL sliceRange sliceBounds
  simp only [Option.getD_some]
  have e : (if (2 : Int) > 0 then (if (if (2 : Int) > 0 then (0 : Int) else (xs.length : Int) - 1) < (if (2 : Int) > 0 then (xs.length : Int) else -1) then ((if (2 : Int) > 0 then (xs.length : Int) else -1) - (if (2 : Int) > 0 then (0 : Int) else (xs.length : Int) - 1) + 2 - 1) / 2 else 0) else (if (if (2 : Int) > 0 then (0 : Int) else (xs.length : Int) - 1) > (if (2 : Int) > 0 then (xs.length : Int) else -1) then ((if (2 : Int) > 0 then (0 : Int) else (xs.length : Int) - 1) - (if (2 : Int) > 0 then (xs.length : Int) else -1) - 2 - 1) / (-2) else 0)).toNat = (xs.length + 1) / 2 := by
    simp only [show ((2 : Int) > 0) = True from by simp, if_true]
    split <;> omega
  rw [e]
  congr 1
  refine List.map_congr_left fun k _ => ?_
  simp only [show ((2 : Int) > 0) = True from by simp, if_true]
  omega
theorem pick_od {α : Type} (xs : List α) : pickL xs (some 1) none (some 2) = od xs := by
  rw [← od_range xs]
  unfold pickL sliceRange sliceBounds
  simp only [Option.getD_some, show ((2 : Int) > 0) = True from by simp, if_true, show ((1 : Int) < 0) = False from by simp, if_false]
  cases hx : xs.length with
  | zero => rfl
  | succ n =>
    have e0 : max (0 : Int) (min 1 ((n + 1 : Nat) : Int)) = 1 := by omega
    rw [e0]
    have e : (if (1 : Int) < ((n + 1 : Nat) : Int) then (((n + 1 : Nat) : Int) - 1 + 2 - 1) / 2 else 0).toNat = (n + 1) / 2 := by split <;> omega
    rw [e]
    congr 1
    refine List.map_congr_left fun k _ => ?_
    omega
theorem pr_zip : ∀ l : List Rat, pr l = List.zipWith (· + ·) (ev l) (od l) ++ (if l.length % 2 = 1 then l.drop (l.length - 1) else [])
  | [] => rfl
  | [a] => rfl
  | a :: b :: r => by
    show (a + b) :: pr r = (a + b) :: (List.zipWith (· + ·) (ev r) (od r) ++ _)
    rw [pr_zip r]
    congr 2
    simp only [List.length_cons]
    have e : (r.length + 1 + 1) % 2 = r.length % 2 := by omega
    rw [e]
    split
    · rename_i h
      have e2 : r.length + 1 + 1 - 1 = (r.length - 1) + 1 + 1 := by omega
      rw [e2]
      rfl
    · rfl
theorem pr_sum : ∀ l : List Rat, (pr l).sum = l.sum
  | [] => rfl
  | [a] => rfl
  | a :: b :: r => by
    show ((a + b) :: pr r).sum = _
    rw [List.sum_cons, pr_sum r, List.sum_cons, List.sum_cons, Rat.add_assoc]
theorem pr_len : ∀ l : List Rat, (pr l).length = (l.length + 1) / 2
  | [] => by simp [pr]
  | [a] => by simp [pr]
  | a :: b :: r => by
    show (pr r).length + 1 = _
    rw [pr_len r]
    simp only [List.length_cons]
    omega
theorem pr_sz {s : Nat} : ∀ {l : List Rat}, (∀ q ∈ l, Sz s q) → ∀ q ∈ pr l, Sz (s + s + 1) q
  | [], h, q, hq => nomatch hq
  | [a], h, q, hq => (h q hq).mono (by omega)
  | a :: b :: r, h, q, hq => by
    rcases List.mem_cons.mp hq with z | z
    · rw [z]
      exact (h a List.mem_cons_self).add (h b (List.mem_cons_of_mem _ List.mem_cons_self))
    · exact pr_sz (fun x hx => h x (List.mem_cons_of_mem _ (List.mem_cons_of_mem _ hx))) q z
theorem ev_mem {α : Type} : ∀ {l : List α} {a : α}, a ∈ ev l → a ∈ l
  | [], a, h => nomatch h
  | [b], a, h => h
  | b :: c :: r, a, h => by
    rcases List.mem_cons.mp h with z | z
    · rw [z]; exact List.mem_cons_self
    · exact List.mem_cons_of_mem _ (List.mem_cons_of_mem _ (ev_mem z))
theorem od_mem {α : Type} : ∀ {l : List α} {a : α}, a ∈ od l → a ∈ l
  | [], a, h => nomatch h
  | [b], a, h => nomatch h
  | b :: c :: r, a, h => by
    rcases List.mem_cons.mp h with z | z
    · rw [z]; exact List.mem_cons_of_mem _ List.mem_cons_self
    · exact List.mem_cons_of_mem _ (List.mem_cons_of_mem _ (od_mem z))
theorem ev_map {α β : Type} (f : α → β) : ∀ l : List α, ev (l.map f) = (ev l).map f
  | [] => rfl
  | [a] => rfl
  | a :: b :: r => by
    show f a :: ev (r.map f) = f a :: (ev r).map f
    rw [ev_map f r]
theorem od_map {α β : Type} (f : α → β) : ∀ l : List α, od (l.map f) = (od l).map f
  | [] => rfl
  | [a] => rfl
  | a :: b :: r => by
    show f b :: od (r.map f) = f b :: (od r).map f
    rw [od_map f r]
def pairV {α β : Type} (f : α → Val) (g : β → Val) (p : α × β) : Val := .tup [f p.1, g p.2]
theorem zip2_mapP {α β : Type} (f : α → Val) (g : β → Val) : ∀ (as : List α) (bs : List β), zip2V (as.map f) (bs.map g) = (as.zip bs).map (pairV f g)
  | [], bs => by simp [zip2V]
  | a :: as, [] => by simp [zip2V]
  | a :: as, b :: bs => by
    show Val.tup [f a, g b] :: zip2V (as.map f) (bs.map g) = _
    rw [zip2_mapP f g as bs]
    rfl
theorem zip_zipWith {α β γ : Type} (f : α → β → γ) : ∀ (as : List α) (bs : List β), (as.zip bs).map (fun p => f p.1 p.2) = List.zipWith f as bs
  | [], bs => by simp
  | a :: as, [] => by simp
  | a :: as, b :: bs => by simp [zip_zipWith f as bs]
theorem pr_ne : ∀ {l : List Rat}, l ≠ [] → pr l ≠ []
  | [], h => absurd rfl h
  | [a], h => nofun
  | a :: b :: r, h => nofun
theorem cut_last {α : Type} (xs : List α) (h : 1 ≤ xs.length) : cutL xs (some (-1)) none = xs.drop (xs.length - 1) := by
  unfold cutL
  have e : HT.sIx xs.length 0 (some (-1)) = xs.length - 1 := by
    show (if (-1 : Int) < 0 then ((-1 : Int) + (xs.length : Int)).toNat else min (-1 : Int).toNat xs.length) = _
    rw [if_pos (by decide)]
    omega
  have e2 : HT.sIx xs.length xs.length none = xs.length := rfl
  rw [e, e2]
  refine List.take_of_length_le ?_
  rw [List.length_drop]
  omega
end MQ
namespace MQ
open PySem MP
/-! ### in sequence -/
def srt (l : List Rat) : List Rat := l.mergeSort (fun a b => decide (a ≤ b))
theorem srt_perm (l : List Rat) : (srt l).Perm l := List.mergeSort_perm l _
theorem srt_sorted (l : List Rat) : (srt l).Pairwise (· ≤ ·) := by
  have h := List.pairwise_mergeSort (le := fun a b : Rat => decide (a ≤ b)) (fun a b c h1 h2 => by
    simp only [decide_eq_true_eq] at h1 h2 ⊢
    exact Rat.le_trans h1 h2) (fun a b => by
    simp only [Bool.or_eq_true, decide_eq_true_eq]
    exact Rat.le_total) l
  exact h.imp fun h => by simpa using h
theorem sorted_uniq {a b : List Rat} (h : a.Perm b) (ha : a.Pairwise (· ≤ ·)) (hb : b.Pairwise (· ≤ ·)) : a = b :=
  List.Perm.eq_of_pairwise (fun x y _ _ h1 h2 => Rat.le_antisymm h1 h2) ha hb h
theorem srt_of {a b : List Rat} (h : a.Perm b) (ha : a.Pairwise (· ≤ ·)) : a = srt b :=
  sorted_uniq (h.trans (srt_perm b).symm) ha (srt_sorted b)
theorem srt_len (l : List Rat) : (srt l).length = l.length := (srt_perm l).length_eq
theorem srt_mem {l : List Rat} {a : Rat} : a ∈ srt l ↔ a ∈ l := (srt_perm l).mem_iff
/-- two sorted rows put together, as the loop does -/
def mrg : List Rat → List Rat → List Rat
  | [], bs => bs
  | a :: as, [] => a :: as
  | a :: as, b :: bs => if b < a then b :: mrg (a :: as) bs else a :: mrg as (b :: bs)
termination_by as bs => as.length + bs.length
theorem mrg_nil (bs : List Rat) : mrg [] bs = bs := by rw [mrg]
theorem mrg_nilR (as : List Rat) : mrg as [] = as := by cases as <;> rw [mrg]
theorem mrg_perm : ∀ (as bs : List Rat), (mrg as bs).Perm (as ++ bs)
  | [], bs => by rw [mrg_nil]; exact List.Perm.refl _
  | a :: as, [] => by rw [mrg_nilR, List.append_nil]
  | a :: as, b :: bs => by
    rw [mrg]
    split
    · exact ((mrg_perm (a :: as) bs).cons b).trans List.perm_middle.symm
    · exact (mrg_perm as (b :: bs)).cons a
termination_by as bs => as.length + bs.length
theorem mrg_sorted : ∀ (as bs : List Rat), as.Pairwise (· ≤ ·) → bs.Pairwise (· ≤ ·) → (mrg as bs).Pairwise (· ≤ ·)
  | [], bs, _, h => by rw [mrg_nil]; exact h
  | a :: as, [], h, _ => by rw [mrg_nilR]; exact h
  | a :: as, b :: bs, h1, h2 => by
    rw [mrg]
    have h1' := List.pairwise_cons.mp h1
    have h2' := List.pairwise_cons.mp h2
    split
    · rename_i hlt
      refine List.pairwise_cons.mpr ⟨fun x hx => ?_, mrg_sorted (a :: as) bs h1 h2'.2⟩
      rcases List.mem_append.mp ((mrg_perm _ _).mem_iff.mp hx) with z | z
      · rcases List.mem_cons.mp z with y | y
        · rw [y]; grind
        · have := h1'.1 x y; grind
      · exact h2'.1 x z
    · rename_i hlt
      refine List.pairwise_cons.mpr ⟨fun x hx => ?_, mrg_sorted as (b :: bs) h1'.2 h2⟩
      rcases List.mem_append.mp ((mrg_perm _ _).mem_iff.mp hx) with z | z
      · exact h1'.1 x z
      · rcases List.mem_cons.mp z with y | y
        · rw [y]; grind
        · have := h2'.1 x y; grind
termination_by as bs => as.length + bs.length
theorem mrg_srt (l : List Rat) (k : Nat) : mrg (srt (l.take k)) (srt (l.drop k)) = srt l := by
  refine srt_of ?_ (mrg_sorted _ _ (srt_sorted _) (srt_sorted _))
  refine (mrg_perm _ _).trans (((srt_perm _).append (srt_perm _)).trans ?_)
  rw [List.take_append_drop]
theorem cut_to {α : Type} (xs : List α) (k : Nat) (h : k ≤ xs.length) : cutL xs none (some (k : Int)) = xs.take k := by
  unfold cutL
  rw [HT.sIx_none, HT.sIx_nat, Nat.min_eq_left h]
  rfl
theorem cut_from {α : Type} (xs : List α) (k : Nat) : cutL xs (some (k : Int)) none = xs.drop k := by
  unfold cutL
  rw [HT.sIx_none, HT.sIx_nat]
  by_cases h : k ≤ xs.length
  · rw [Nat.min_eq_left h]
    exact List.take_of_length_le (by rw [List.length_drop]; omega)
  · rw [Nat.min_eq_right (by omega), List.drop_length, List.drop_eq_nil_of_le (by omega), List.take_nil]
end MQ
namespace MQ
open PySem MP
/-- no more than 1 -/
def cap (x : Rat) : Rat := if x < 1 then x else 1
theorem minL_cap (x : Rat) : minL 1 [1, x] = cap x := by
  show minF (minF 1 1) x = cap x
  have e : minF 1 1 = (1 : Rat) := by unfold minF; split <;> rfl
  rw [e]
  rfl
theorem mul_int (p : Rat) (c : Int) : Rat.divInt (p.num * c) p.den = p * (c : Rat) := by
  rw [mul_div, Rat.num_intCast, Rat.den_intCast]
  simp
theorem Sz.one {s : Nat} (h : 1 ≤ s) : Sz s 1 := ⟨Nat.lt_of_lt_of_le (by decide) (Nat.pow_le_pow_right (by decide) h), Nat.lt_of_lt_of_le (by decide) (Nat.pow_le_pow_right (by decide) h)⟩
theorem Sz.zero {s : Nat} (h : 1 ≤ s) : Sz s 0 := ⟨Nat.pow_pos (by decide), Nat.lt_of_lt_of_le (by decide) (Nat.pow_le_pow_right (by decide) h)⟩
theorem Sz.int {s : Nat} {c : Int} (h : c.natAbs < 2 ^ s) (hs : 1 ≤ s) : Sz s (c : Rat) := ⟨by rw [Rat.num_intCast]; exact h, by rw [Rat.den_intCast]; exact Nat.lt_of_lt_of_le (by decide) (Nat.pow_le_pow_right (by decide) hs)⟩
theorem Sz.cap {s : Nat} {x : Rat} (h : Sz s x) (hs : 1 ≤ s) : Sz s (MQ.cap x) := by
  unfold MQ.cap
  split
  · exact h
  · exact Sz.one hs
/-- how many lead: the first places at which it is so -/
def ld (p : Nat → Bool) (n : Nat) : Nat := ((List.range n).takeWhile p).length
theorem ld_le (p : Nat → Bool) (n : Nat) : ld p n ≤ n := by
  unfold ld
  have := (List.takeWhile_sublist p (l := List.range n)).length_le
  rw [List.length_range] at this
  exact this
theorem take_len {α : Type} (p : α → Bool) : ∀ (l : List α) (i : Nat), (∀ k, k < i → ∃ a, l[k]? = some a ∧ p a = true) → (∀ a, l[i]? = some a → p a = false) → (l.takeWhile p).length = i
  | [], i, h, _ => by
    cases i with
    | zero => rfl
    | succ i =>
      obtain ⟨a, e, _⟩ := h 0 (Nat.succ_pos i)
      simp at e
  | a :: l, 0, _, h => by
    have := h a rfl
    rw [List.takeWhile_cons, this]
    rfl
  | a :: l, i + 1, h1, h2 => by
    obtain ⟨b, e, hb⟩ := h1 0 (Nat.succ_pos i)
    have e : some a = some b := e
    cases e
    rw [List.takeWhile_cons, hb]
    show ((l.takeWhile p).length + 1) = i + 1
    rw [take_len p l i (fun k hk => by
      obtain ⟨b, e, hb⟩ := h1 (k + 1) (by omega)
      exact ⟨b, by simpa using e, hb⟩) fun b e => h2 b (by simpa using e)]
theorem ld_eq {p : Nat → Bool} {n i : Nat} (hi : i ≤ n) (h1 : ∀ k, k < i → p k = true) (h2 : i < n → p i = false) : ld p n = i := by
  refine take_len p _ i (fun k hk => ⟨k, ?_, h1 k hk⟩) fun a e => ?_
  · rw [List.getElem?_range (by omega)]
  · have hl := (List.getElem?_eq_some_iff.mp e).1
    rw [List.length_range] at hl
    rw [List.getElem?_range hl] at e
    cases e
    exact h2 hl
theorem ld_spec (p : Nat → Bool) (n : Nat) : (∀ k, k < ld p n → p k = true) ∧ (ld p n < n → p (ld p n) = false) := by
  induction n with
  | zero => exact ⟨fun k h => by simp [ld] at h, fun h => by simp at h⟩
  | succ n ih =>
    have hl := ld_le p n
    by_cases h : ld p n < n
    · have e : ld p (n + 1) = ld p n := ld_eq (by omega) ih.1 fun _ => ih.2 h
      rw [e]
      exact ⟨ih.1, fun _ => ih.2 h⟩
    · have en : ld p n = n := by omega
      rw [en] at ih
      cases hp : p n with
      | true =>
        have e : ld p (n + 1) = n + 1 := ld_eq (Nat.le_refl _) (fun k hk => by
          by_cases hk' : k < n
          · exact ih.1 k hk'
          · have : k = n := by omega
            rw [this]; exact hp) fun h => by omega
        rw [e]
        exact ⟨fun k hk => by
          by_cases hk' : k < n
          · exact ih.1 k hk'
          · have : k = n := by omega
            rw [this]; exact hp, fun h => by omega⟩
      | false =>
        have e : ld p (n + 1) = n := ld_eq (by omega) ih.1 fun _ => hp
        rw [e]
        exact ⟨ih.1, fun _ => hp⟩
theorem in_rng {p : Nat → Bool} {n i : Nat} : cmpV .in_ (.int ((i : Nat) + 1)) (.lst (((List.range n).filter p).map fun k => Val.int (1 + (k : Nat)))) = some (decide (i < n) && p i) := by
  have ha : ∀ l : List Nat, allInts (l.map fun k => Val.int (1 + (k : Nat))) = true := fun l => by
    unfold allInts
    rw [List.all_map]
    exact List.all_eq_true.mpr fun x _ => rfl
  show (if allInts (((List.range n).filter p).map fun k => Val.int (1 + (k : Nat))) = true then some ((((List.range n).filter p).map fun k => Val.int (1 + (k : Nat))).any fun v => match v with | .int j => decide (j = (i : Int) + 1) | _ => false) else none) = _
  rw [if_pos (ha _), List.any_map]
  congr 1
  cases hd : (decide (i < n) && p i) with
  | true =>
    rw [Bool.and_eq_true, decide_eq_true_eq] at hd
    refine List.any_eq_true.mpr ⟨i, List.mem_filter.mpr ⟨List.mem_range.mpr hd.1, hd.2⟩, ?_⟩
    show decide ((1 : Int) + (i : Int) = (i : Int) + 1) = true
    exact decide_eq_true (by omega)
  | false =>
    refine Bool.eq_false_iff.mpr fun h => ?_
    obtain ⟨k, hk, e⟩ := List.any_eq_true.mp h
    obtain ⟨h1, h2⟩ := List.mem_filter.mp hk
    have e : decide ((1 : Int) + (k : Int) = (i : Int) + 1) = true := e
    have e := of_decide_eq_true e
    have : k = i := by omega
    subst this
    rw [decide_eq_true (List.mem_range.mp h1), h2] at hd
    cases hd
end MQ
namespace MQ
open PySem MP
/-! ### powers, ways, chances -/
theorem rpow_add (a : Rat) (m n : Nat) : a ^ (m + n) = a ^ m * a ^ n := by
  induction n with
  | zero => rw [Nat.add_zero, Rat.pow_zero, Rat.mul_one]
  | succ n ih => rw [← Nat.add_assoc, Rat.pow_succ, Rat.pow_succ, ih, Rat.mul_assoc]
theorem rpow_ne {a : Rat} (h : a ≠ 0) (n : Nat) : a ^ n ≠ 0 := by
  induction n with
  | zero => rw [Rat.pow_zero]; decide
  | succ n ih =>
    rw [Rat.pow_succ]
    intro e
    rcases Rat.mul_eq_zero.mp e with z | z
    · exact ih z
    · exact h z
theorem rpow_div (a b : Rat) (h : b ≠ 0) (n : Nat) : (a / b) ^ n = a ^ n / b ^ n := by
  induction n with
  | zero => rw [Rat.pow_zero, Rat.pow_zero, Rat.pow_zero]; decide +kernel
  | succ n ih =>
    rw [Rat.pow_succ, Rat.pow_succ, Rat.pow_succ, ih]
    have := rpow_ne h n
    grind
theorem num_over (q : Rat) : ((q.num : Int) : Rat) / ((q.den : Int) : Rat) = q := by
  rw [← Rat.divInt_eq_div, Rat.num_divInt_den]
theorem den_ne (q : Rat) : ((q.den : Int) : Rat) ≠ 0 := by
  intro h
  have := Rat.intCast_inj.mp (h.trans (Rat.intCast_zero).symm)
  have := den_pos q
  omega
def pas : Nat → List Nat
  | 0 => [1]
  | n + 1 => 1 :: (List.zipWith (· + ·) (pas n) (pas n).tail ++ [1])
theorem pas_len : ∀ n, (pas n).length = n + 1
  | 0 => rfl
  | n + 1 => by
    show (List.zipWith (· + ·) (pas n) (pas n).tail ++ [1]).length + 1 = _
    rw [List.length_append, List.length_zipWith, List.length_tail, pas_len n]
    simp only [List.length_cons, List.length_nil]
    omega
/-- the ways of k of n -/
def ch (n k : Nat) : Nat := (pas n).getD k 0
theorem ch_zero (n : Nat) : ch n 0 = 1 := by
  cases n <;> rfl
theorem ch_big {n k : Nat} (h : n < k) : ch n k = 0 := by
  unfold ch
  rw [List.getD_eq_getElem?_getD, List.getElem?_eq_none (by rw [pas_len]; omega)]
  rfl
theorem ch_zero' (k : Nat) : ch 0 (k + 1) = 0 := ch_big (by omega)
theorem ch_succ (n k : Nat) : ch (n + 1) (k + 1) = ch n k + ch n (k + 1) := by
  unfold ch
  show ((1 :: (List.zipWith (· + ·) (pas n) (pas n).tail ++ [1])).getD (k + 1) 0) = _
  rw [List.getD_cons_succ]
  have hl := pas_len n
  have hz : (List.zipWith (· + ·) (pas n) (pas n).tail).length = n := by rw [List.length_zipWith, List.length_tail, hl]; omega
  rw [List.getD_eq_getElem?_getD, List.getD_eq_getElem?_getD, List.getD_eq_getElem?_getD]
  by_cases h1 : k < n
  · rw [List.getElem?_append_left (by omega), List.getElem?_zipWith, List.getElem?_tail, List.getElem?_eq_getElem (by omega), List.getElem?_eq_getElem (by omega)]
    rfl
  · rw [List.getElem?_append_right (by omega), hz, List.getElem?_eq_none (l := pas n) (i := k + 1) (by omega)]
    by_cases h2 : k = n
    · subst h2
      have e : (pas k)[k]? = some 1 := by
        cases k with
        | zero => rfl
        | succ j =>
          show (1 :: (List.zipWith (· + ·) (pas j) (pas j).tail ++ [1]))[j + 1]? = some 1
          have hj : (List.zipWith (· + ·) (pas j) (pas j).tail).length = j := by rw [List.length_zipWith, List.length_tail, pas_len j]; omega
          rw [List.getElem?_cons_succ, List.getElem?_append_right (by omega), hj, Nat.sub_self]
          rfl
      rw [e, Nat.sub_self]
      rfl
    · rw [List.getElem?_eq_none (l := pas n) (i := k) (by omega), List.getElem?_eq_none (by simp; omega)]
      rfl
/-- the chance of k yes of n, each with chance q -/
def pmf (n : Nat) (q : Rat) (k : Nat) : Rat := (ch n k : Rat) * q ^ k * (1 - q) ^ (n - k)
theorem chance_eq {n k : Nat} (q : Rat) (hk : k ≤ n) (w : Nat) : Rat.divInt ((w : Int) * q.num ^ k * ((q.den : Int) - q.num) ^ (n - k)) ((q.den : Int) ^ n) = (w : Rat) * q ^ k * (1 - q) ^ (n - k) := by
  have hd := den_ne q
  have h1 : (1 - q) = (((q.den : Int) : Rat) - ((q.num : Int) : Rat)) / ((q.den : Int) : Rat) := by
    have := num_over q
    grind
  rw [Rat.divInt_eq_div, Rat.intCast_mul, Rat.intCast_mul, Rat.intCast_pow, Rat.intCast_pow, Rat.intCast_pow, Rat.intCast_sub, h1, rpow_div _ _ hd]
  have hq : q ^ k = ((q.num : Int) : Rat) ^ k / ((q.den : Int) : Rat) ^ k := by rw [← rpow_div _ _ hd, num_over]
  rw [hq]
  have hn : ((q.den : Int) : Rat) ^ n = ((q.den : Int) : Rat) ^ k * ((q.den : Int) : Rat) ^ (n - k) := by rw [← rpow_add]; congr 1; omega
  rw [hn]
  have a1 := rpow_ne hd k
  have a2 := rpow_ne hd (n - k)
  have hw : (((w : Nat) : Int) : Rat) = (w : Rat) := rfl
  rw [hw]
  generalize ((q.den : Int) : Rat) ^ k = A at a1 ⊢
  generalize ((q.den : Int) : Rat) ^ (n - k) = B at a2 ⊢
  generalize ((q.num : Int) : Rat) ^ k = Y
  generalize (((q.den : Int) : Rat) - ((q.num : Int) : Rat)) ^ (n - k) = O
  generalize (w : Rat) = W
  grind
end MQ
namespace MQ
open PySem MP
/-! ### likeness of fractions and rows of them -/
def dq (q : Rat) : PyData := .tuple [.int q.num, .int q.den]
theorem toDs_map (qs : List Rat) : toDs (qs.map fq) = qs.map dq := by
  induction qs with
  | nil => rfl
  | cons q qs ih =>
    show toD (fq q) :: toDs (qs.map fq) = dq q :: qs.map dq
    rw [ih]
    rfl
theorem isDs_map (qs : List Rat) : isDs (qs.map fq) = true := by
  induction qs with
  | nil => rfl
  | cons q qs ih =>
    show (isD (fq q) && isDs (qs.map fq)) = true
    rw [ih]
    rfl
theorem lay_all (qs : List Rat) : PyData.canLayAll0 (qs.map dq) = true := by
  induction qs with
  | nil => simp only [List.map_nil, PyData.canLayAll0]
  | cons q qs ih => simp only [List.map_cons, PyData.canLayAll0, ih, dq, PyData.canLay0, Bool.and_self]
theorem depth_all (qs : List Rat) : PyData.depthAll (qs.map dq) ≤ 1 := by
  induction qs with
  | nil => simp only [List.map_nil, PyData.depthAll]; decide
  | cons q qs ih =>
    simp only [List.map_cons, PyData.depthAll, dq, PyData.depth]
    omega
theorem shaped_lst (qs : List Rat) : SeqAt.shaped (toD (.lst (qs.map fq))) = true := by
  show SeqAt.shaped (.list (toDs (qs.map fq))) = true
  rw [toDs_map]
  unfold SeqAt.shaped
  have h := depth_all qs
  rw [Bool.and_eq_true]
  refine ⟨by simp only [PyData.canLay0, lay_all], decide_eq_true ?_⟩
  rw [PyData.depth]
  omega
theorem shaped_fq (q : Rat) : SeqAt.shaped (toD (fq q)) = true := by
  show SeqAt.shaped (dq q) = true
  unfold SeqAt.shaped
  simp only [dq, PyData.canLay0, PyData.canLayAll0, PyData.depth, PyData.depthAll, Bool.and_self, Bool.true_and, decide_eq_true_eq]
  omega
theorem eqv_dq (a b : Rat) : PyData.eqv (dq a) (dq b) = decide (a = b) := by
  simp only [dq, PyData.eqv, PyData.eqvAll, Bool.and_true]
  by_cases h : a = b
  · subst h
    simp
  · rw [decide_eq_false h, Bool.and_eq_false_iff]
    by_cases h1 : a.num = b.num
    · refine .inr (beq_eq_false_iff_ne.mpr fun e => h (Rat.ext h1 (by omega)))
    · exact .inl (beq_eq_false_iff_ne.mpr h1)
theorem eqvAll_dq : ∀ as bs : List Rat, PyData.eqvAll (as.map dq) (bs.map dq) = decide (as = bs)
  | [], [] => by simp only [List.map_nil, PyData.eqvAll, decide_true]
  | [], b :: bs => by simp [PyData.eqvAll]
  | a :: as, [] => by simp [PyData.eqvAll]
  | a :: as, b :: bs => by
    rw [List.map_cons, List.map_cons]
    simp only [PyData.eqvAll, eqv_dq, eqvAll_dq as bs]
    by_cases h : a = b
    · subst h
      by_cases h2 : as = bs
      · subst h2; simp
      · simp [h2]
    · simp [h]
theorem eqV_fq (a b : Rat) : eqV (fq a) (fq b) = some (decide (a = b)) := by
  unfold eqV
  have h1 : isD (fq a) = true := rfl
  have h2 : isD (fq b) = true := rfl
  rw [h1, h2, shaped_fq, shaped_fq]
  show some (PyData.eqv (dq a) (dq b)) = _
  rw [eqv_dq]
theorem eqV_lst (as bs : List Rat) : eqV (.lst (as.map fq)) (.lst (bs.map fq)) = some (decide (as = bs)) := by
  unfold eqV
  have h1 : isD (.lst (as.map fq)) = true := isDs_map as
  have h2 : isD (.lst (bs.map fq)) = true := isDs_map bs
  rw [h1, h2, shaped_lst, shaped_lst]
  show some (PyData.eqv (.list (toDs (as.map fq))) (.list (toDs (bs.map fq)))) = _
  rw [toDs_map, toDs_map]
  simp only [PyData.eqv, eqvAll_dq]
theorem cmp_eqF (a b : Rat) : cmpV .eq (fq a) (fq b) = some (decide (a = b)) := eqV_fq a b
theorem cmp_neL (as bs : List Rat) : cmpV .ne (.lst (as.map fq)) (.lst (bs.map fq)) = some (!decide (as = bs)) := by
  show (eqV _ _).map (!·) = _
  rw [eqV_lst]
  rfl
theorem rem1_fq {q : Rat} {qs : List Rat} (h : q ∈ qs) : rem1 (fq q) (qs.map fq) = some ((qs.erase q).map fq) := by
  unfold rem1
  have h1 : isD (fq q) = true := rfl
  rw [h1, isDs_map, shaped_fq]
  show (SeqAt.dataPlace (toDs (qs.map fq)) (dq q)).map (fun j => (qs.map fq).eraseIdx j) = _
  rw [toDs_map]
  unfold SeqAt.dataPlace
  have e : ∀ l : List Rat, q ∈ l → ((l.map dq).findIdx? fun y => PyData.eqv y (dq q)).map (fun j => (l.map fq).eraseIdx j) = some ((l.erase q).map fq) := by
    intro l
    induction l with
    | nil => intro h; cases h
    | cons a l ih =>
      intro h
      rw [List.map_cons, List.map_cons, List.findIdx?_cons, eqv_dq]
      by_cases ha : a = q
      · subst ha
        simp
      · have hq : q ∈ l := by
          rcases List.mem_cons.mp h with z | z
          · exact absurd z.symm ha
          · exact z
        have := ih hq
        rw [decide_eq_false ha]
        simp only [Bool.false_eq_true, if_false]
        rw [List.erase_cons_tail (by simpa using ha)]
        cases e : (l.map dq).findIdx? fun y => PyData.eqv y (dq q) with
        | none => rw [e] at this; cases this
        | some j =>
          rw [e] at this
          have this : (l.map fq).eraseIdx j = (l.erase q).map fq := Option.some.inj this
          show some (fq a :: (l.map fq).eraseIdx j) = some (fq a :: (l.erase q).map fq)
          rw [this]
  exact e qs h
/-- the greatest, as the loops find it -/
def maxF (f q : Rat) : Rat := if f < q then q else f
def maxL (f : Rat) (qs : List Rat) : Rat := qs.foldl maxF f
theorem minL_mem (q : Rat) (qs : List Rat) : minL q qs ∈ q :: qs := by
  rcases (minL_le (f := q) (qs := qs)).2.2 with z | z
  · rw [z]; exact List.mem_cons_self
  · exact List.mem_cons_of_mem _ z
theorem minL_least (q : Rat) (qs : List Rat) : ∀ x ∈ q :: qs, minL q qs ≤ x := fun x hx => by
  obtain ⟨h1, h2, _⟩ := minL_le (f := q) (qs := qs)
  rcases List.mem_cons.mp hx with z | z
  · rw [z]; exact h1
  · exact h2 x z
end MQ
namespace MQ
open PySem MP
/-! ### ways step by step -/
theorem ch_step (n : Nat) : ∀ k, k ≤ n → ch n (k + 1) * (k + 1) = ch n k * (n - k) := by
  induction n with
  | zero =>
    intro k hk
    have : k = 0 := by omega
    subst this
    rw [ch_zero']
    simp
  | succ n ih =>
    intro k hk
    rw [ch_succ]
    cases k with
    | zero =>
      have := ih 0 (Nat.zero_le n)
      rw [ch_zero] at this ⊢
      rw [ch_zero]
      omega
    | succ j =>
      rw [ch_succ]
      by_cases h : j + 1 ≤ n
      · have h1 := ih (j + 1) h
        have h2 := ih j (by omega)
        have e1 : n - (j + 1) = n - j - 1 := by omega
        have e2 : n + 1 - (j + 1) = n - j := by omega
        rw [e2, Nat.add_mul, Nat.add_mul, ← h2]
        have h1 : ch n (j + 1 + 1) * (j + 1 + 1) = ch n (j + 1) * (n - (j + 1)) := h1
        rw [h1, ← Nat.mul_add, ← Nat.mul_add]
        congr 1
        omega
      · have e : j = n := by omega
        subst e
        rw [ch_big (show j < j + 1 by omega), ch_big (show j < j + 1 + 1 by omega)]
        have : j + 1 - (j + 1) = 0 := by omega
        rw [this]
        simp
theorem divInt_sum {D : Int} (hD : D ≠ 0) : ∀ l : List Int, Rat.divInt l.sum D = (l.map fun a => Rat.divInt a D).sum
  | [] => by
    rw [List.sum_nil, List.map_nil, List.sum_nil, Rat.divInt_eq_div, Rat.intCast_zero]
    have : ((D : Int) : Rat) ≠ 0 := fun h => hD (Rat.intCast_inj.mp (h.trans Rat.intCast_zero.symm))
    grind
  | a :: l => by
    rw [List.sum_cons, List.map_cons, List.sum_cons, ← divInt_sum hD l, Rat.divInt_eq_div, Rat.divInt_eq_div, Rat.divInt_eq_div, Rat.intCast_add]
    have : ((D : Int) : Rat) ≠ 0 := fun h => hD (Rat.intCast_inj.mp (h.trans Rat.intCast_zero.symm))
    grind
theorem in_nats {k : Nat} {reg : List Nat} : cmpV .in_ (.int (k : Nat)) (.lst (reg.map fun i => Val.int (i : Nat))) = some (decide (k ∈ reg)) := by
  have ha : allInts (reg.map fun i => Val.int (i : Nat)) = true := by
    unfold allInts
    rw [List.all_map]
    exact List.all_eq_true.mpr fun x _ => rfl
  show (if allInts (reg.map fun i => Val.int (i : Nat)) = true then some ((reg.map fun i => Val.int (i : Nat)).any fun v => match v with | .int j => decide (j = (k : Int)) | _ => false) else none) = _
  rw [if_pos ha, List.any_map]
  congr 1
  by_cases h : k ∈ reg
  · rw [decide_eq_true h]
    exact List.any_eq_true.mpr ⟨k, h, decide_eq_true rfl⟩
  · rw [decide_eq_false h]
    refine Bool.eq_false_iff.mpr fun e => h ?_
    obtain ⟨x, hx, e⟩ := List.any_eq_true.mp e
    have e : decide ((x : Int) = (k : Int)) = true := e
    have := of_decide_eq_true e
    have : x = k := by omega
    rw [← this]; exact hx
end MQ
/-! MP: chances of so many and more. -/
namespace MQ
open PySem MP
def tl (n : Nat) (q : Rat) (k : Nat) : Rat := (((List.range (n + 1)).map (pmf n q)).drop k).sum
theorem tl_big {n k : Nat} {q : Rat} (h : n < k) : tl n q k = 0 := by
  unfold tl
  rw [List.drop_eq_nil_of_le (by rw [List.length_map, List.length_range]; omega)]
  rfl
theorem pmf_big {n k : Nat} {q : Rat} (h : n < k) : pmf n q k = 0 := by
  unfold pmf
  rw [ch_big h]
  have : ((0 : Nat) : Rat) = 0 := rfl
  rw [this, Rat.zero_mul, Rat.zero_mul]
theorem tl_step (n k : Nat) (q : Rat) : tl n q k = pmf n q k + tl n q (k + 1) := by
  by_cases h : k ≤ n
  · unfold tl
    have hl : k < ((List.range (n + 1)).map (pmf n q)).length := by rw [List.length_map, List.length_range]; omega
    rw [List.drop_eq_getElem_cons hl, List.sum_cons]
    congr 1
    rw [List.getElem_map, List.getElem_range]
  · rw [tl_big (by omega), tl_big (by omega), pmf_big (by omega), Rat.add_zero]
theorem pmf_zero (n : Nat) (q : Rat) : pmf (n + 1) q 0 = (1 - q) * pmf n q 0 := by
  unfold pmf
  rw [ch_zero, ch_zero, Nat.sub_zero, Nat.sub_zero, Rat.pow_succ, Rat.pow_zero]
  grind
theorem pmf_succ (n k : Nat) (q : Rat) : pmf (n + 1) q (k + 1) = q * pmf n q k + (1 - q) * pmf n q (k + 1) := by
  unfold pmf
  rw [ch_succ, Nat.add_sub_add_right]
  have hc : ((ch n k + ch n (k + 1) : Nat) : Rat) = (ch n k : Rat) + (ch n (k + 1) : Rat) := by exact Rat.natCast_add _ _
  rw [hc, Rat.pow_succ]
  by_cases h : k + 1 ≤ n
  · have e : n - k = (n - (k + 1)) + 1 := by omega
    rw [e, Rat.pow_succ]
    generalize (1 - q) ^ (n - (k + 1)) = B
    generalize q ^ k = A
    grind
  · rw [ch_big (show n < k + 1 by omega)]
    have : ((0 : Nat) : Rat) = 0 := rfl
    rw [this]
    generalize (1 - q) ^ (n - k) = B
    generalize (1 - q) ^ (n - (k + 1)) = C
    generalize q ^ k = A
    grind
theorem tl_succ (n : Nat) (q : Rat) : ∀ (d k : Nat), n + 1 ≤ k + d → tl (n + 1) q (k + 1) = q * tl n q k + (1 - q) * tl n q (k + 1)
  | 0, k, h => by
    rw [tl_big (by omega), tl_big (by omega), tl_big (by omega)]
    grind
  | d + 1, k, h => by
    rw [tl_step (n + 1) (k + 1), tl_succ n q d (k + 1) (by omega), pmf_succ, tl_step n k, tl_step n (k + 1)]
    grind
theorem tl_zero (n : Nat) (q : Rat) : tl n q 0 = 1 := by
  induction n with
  | zero =>
    rw [tl_step, tl_big (by decide)]
    unfold pmf
    rw [ch_zero, Rat.pow_zero, Nat.sub_zero, Rat.pow_zero]
    decide +kernel
  | succ n ih =>
    rw [tl_step, pmf_zero, tl_succ n q (n + 1) 0 (by omega), ih]
    have := tl_step n 0 q
    rw [ih] at this
    grind
theorem pmf_nn {n k : Nat} {q : Rat} (h0 : 0 ≤ q) (h1 : q ≤ 1) : 0 ≤ pmf n q k := by
  unfold pmf
  refine Rat.mul_nonneg (Rat.mul_nonneg ?_ (Rat.pow_nonneg h0)) (Rat.pow_nonneg (by grind))
  exact Rat.natCast_nonneg
theorem tl_anti {n k : Nat} {q : Rat} (h0 : 0 ≤ q) (h1 : q ≤ 1) : tl n q (k + 1) ≤ tl n q k := by
  rw [tl_step n k]
  have := pmf_nn (n := n) (k := k) h0 h1
  grind
theorem tl_nn {n : Nat} {q : Rat} (h0 : 0 ≤ q) (h1 : q ≤ 1) : ∀ (d k : Nat), n + 1 ≤ k + d → 0 ≤ tl n q k
  | 0, k, h => by rw [tl_big (by omega)]; exact Rat.le_refl
  | d + 1, k, h => by
    rw [tl_step n k]
    have := pmf_nn (n := n) (k := k) h0 h1
    have := tl_nn (n := n) h0 h1 d (k + 1) (by omega)
    grind
/-- the greater the hidden share, the likelier so many and more -/
theorem tl_mono {q d : Rat} (h0 : 0 ≤ q) (hd : q ≤ d) (h1 : d ≤ 1) : ∀ (n k : Nat), tl n q k ≤ tl n d k
  | n, 0 => by rw [tl_zero, tl_zero]; exact Rat.le_refl
  | 0, k + 1 => by rw [tl_big (by omega), tl_big (by omega)]; exact Rat.le_refl
  | n + 1, k + 1 => by
    rw [tl_succ n q (n + 1) k (by omega), tl_succ n d (n + 1) k (by omega)]
    have a := tl_mono h0 hd h1 n k
    have b := tl_mono h0 hd h1 n (k + 1)
    have c := tl_anti (n := n) (k := k) (q := q) h0 (by grind)
    have e1 : d * tl n q k ≤ d * tl n d k := Rat.mul_le_mul_of_nonneg_left a (by grind)
    have e2 : (1 - d) * tl n q (k + 1) ≤ (1 - d) * tl n d (k + 1) := Rat.mul_le_mul_of_nonneg_left b (by grind)
    have e3 : 0 ≤ (d - q) * (tl n q k - tl n q (k + 1)) := Rat.mul_nonneg (by grind) (by grind)
    grind
/-- sums from k on -/
def dsum (n : Nat) (g : Nat → Rat) (k : Nat) : Rat := (((List.range (n + 1)).map g).drop k).sum
theorem dsum_big {n k : Nat} {g : Nat → Rat} (h : n < k) : dsum n g k = 0 := by
  unfold dsum
  rw [List.drop_eq_nil_of_le (by rw [List.length_map, List.length_range]; omega)]
  rfl
theorem dsum_step {n k : Nat} {g : Nat → Rat} (h : k ≤ n) : dsum n g k = g k + dsum n g (k + 1) := by
  unfold dsum
  have hl : k < ((List.range (n + 1)).map g).length := by rw [List.length_map, List.length_range]; omega
  rw [List.drop_eq_getElem_cons hl, List.sum_cons]
  congr 1
  rw [List.getElem_map, List.getElem_range]
theorem dsum_le {n : Nat} {g f : Nat → Rat} (h : ∀ k, k ≤ n → g k ≤ f k) : ∀ (d k : Nat), n + 1 ≤ k + d → dsum n g k ≤ dsum n f k
  | 0, k, hd => by rw [dsum_big (by omega), dsum_big (by omega)]; exact Rat.le_refl
  | d + 1, k, hd => by
    by_cases hk : k ≤ n
    · rw [dsum_step hk, dsum_step hk]
      have := h k hk
      have := dsum_le h d (k + 1) (by omega)
      grind
    · rw [dsum_big (by omega), dsum_big (by omega)]; exact Rat.le_refl
/-- a p-value comes no oftener than told, by any hidden share no more than the doubt -/
theorem miss_le {n : Nat} {q d t : Rat} (h0 : 0 ≤ q) (hd : q ≤ d) (h1 : d ≤ 1) (ht : 0 ≤ t) : ∀ (e k : Nat), n + 1 ≤ k + e → dsum n (fun y => if tl n d y ≤ t then pmf n q y else 0) k ≤ t
  | 0, k, h => by rw [dsum_big (by omega)]; exact ht
  | e + 1, k, h => by
    by_cases hk : k ≤ n
    · by_cases hp : tl n d k ≤ t
      · have a : dsum n (fun y => if tl n d y ≤ t then pmf n q y else 0) k ≤ tl n q k := dsum_le (g := fun y => if tl n d y ≤ t then pmf n q y else 0) (f := pmf n q) (fun y _ => by
          show (if tl n d y ≤ t then pmf n q y else 0) ≤ pmf n q y
          split
          · exact Rat.le_refl
          · exact pmf_nn h0 (by grind)) (n + 1) k (by omega)
        have b := tl_mono h0 hd h1 n k
        grind
      · rw [dsum_step hk, if_neg hp, Rat.zero_add]
        exact miss_le h0 hd h1 ht e (k + 1) (by omega)
    · rw [dsum_big (by omega)]; exact ht
end MQ
namespace MQ
open PySem MP
/-! ### sums of fractions -/
theorem sum_append' (a b : List Rat) : (a ++ b).sum = a.sum + b.sum := by
  induction a with
  | nil => rw [List.nil_append, List.sum_nil, Rat.zero_add]
  | cons x a ih => rw [List.cons_append, List.sum_cons, List.sum_cons, ih, Rat.add_assoc]
theorem sum_flatMap {α : Type} (f : α → List Rat) : ∀ l : List α, (l.flatMap f).sum = (l.map fun a => (f a).sum).sum
  | [] => rfl
  | a :: l => by rw [List.flatMap_cons, sum_append', sum_flatMap f l, List.map_cons, List.sum_cons]
theorem sum_le {α : Type} {f g : α → Rat} : ∀ {l : List α}, (∀ a ∈ l, f a ≤ g a) → (l.map f).sum ≤ (l.map g).sum
  | [], _ => Rat.le_refl
  | a :: l, h => by
    rw [List.map_cons, List.map_cons, List.sum_cons, List.sum_cons]
    have := h a List.mem_cons_self
    have := sum_le (f := f) (g := g) (l := l) fun b hb => h b (List.mem_cons_of_mem _ hb)
    grind
theorem sum_mul {α : Type} (c : Rat) (f : α → Rat) : ∀ l : List α, (l.map fun a => c * f a).sum = c * (l.map f).sum
  | [] => by rw [List.map_nil, List.map_nil, List.sum_nil, Rat.mul_zero]
  | a :: l => by rw [List.map_cons, List.map_cons, List.sum_cons, List.sum_cons, sum_mul c f l]; grind
theorem sum_add {α : Type} (f g : α → Rat) : ∀ l : List α, (l.map fun a => f a + g a).sum = (l.map f).sum + (l.map g).sum
  | [] => by rw [List.map_nil, List.map_nil, List.map_nil, List.sum_nil, Rat.add_zero]
  | a :: l => by rw [List.map_cons, List.map_cons, List.map_cons, List.sum_cons, List.sum_cons, List.sum_cons, sum_add f g l]; grind
/-- the middle of φ over all outcomes of coins with hidden shares -/
def EX : List Nat → List Rat → (List Nat → Rat) → Rat
  | n :: ns, q :: qs, φ => ((List.range (n + 1)).map fun y => pmf n q y * EX ns qs fun ys => φ (y :: ys)).sum
  | _, _, φ => φ []
theorem EX_mono : ∀ {ns : List Nat} {qs : List Rat} {φ ψ : List Nat → Rat}, (∀ q ∈ qs, 0 ≤ q ∧ q ≤ 1) → (∀ ys, φ ys ≤ ψ ys) → EX ns qs φ ≤ EX ns qs ψ
  | n :: ns, q :: qs, φ, ψ, hq, h => by
    obtain ⟨h0, h1⟩ := hq q List.mem_cons_self
    simp only [EX]
    refine sum_le fun y _ => Rat.mul_le_mul_of_nonneg_left ?_ (pmf_nn h0 h1)
    exact EX_mono (fun x hx => hq x (List.mem_cons_of_mem _ hx)) fun ys => h (y :: ys)
  | [], _, φ, ψ, _, h => by simp only [EX]; exact h []
  | _ :: _, [], φ, ψ, _, h => by simp only [EX]; exact h []
theorem EX_add : ∀ {ns : List Nat} {qs : List Rat} {φ ψ : List Nat → Rat}, (EX ns qs fun ys => φ ys + ψ ys) = EX ns qs φ + EX ns qs ψ
  | n :: ns, q :: qs, φ, ψ => by
    simp only [EX]
    rw [← sum_add]
    congr 1
    refine List.map_congr_left fun y _ => ?_
    rw [EX_add]
    grind
  | [], _, φ, ψ => by simp only [EX]
  | _ :: _, [], φ, ψ => by simp only [EX]
theorem pmf_all (n : Nat) (q : Rat) : ((List.range (n + 1)).map (pmf n q)).sum = 1 := by
  have := tl_zero n q
  unfold tl at this
  rw [List.drop_zero] at this
  exact this
theorem EX_const : ∀ {ns : List Nat} {qs : List Rat} {c : Rat}, (EX ns qs fun _ => c) = c
  | n :: ns, q :: qs, c => by
    simp only [EX]
    have : (fun y => pmf n q y * EX ns qs fun _ => c) = fun y => c * pmf n q y := by
      funext y
      rw [EX_const, Rat.mul_comm]
    rw [this, sum_mul, pmf_all, Rat.mul_one]
  | [], _, c => by simp only [EX]
  | _ :: _, [], c => by simp only [EX]
end MQ
namespace MQ
open PySem MP
theorem EX_at : ∀ {ns : List Nat} {qs : List Rat} {i n : Nat} {q : Rat} {g : Nat → Rat}, ns[i]? = some n → qs[i]? = some q → (EX ns qs fun ys => g (ys.getD i 0)) = ((List.range (n + 1)).map fun y => pmf n q y * g y).sum
  | n :: ns, q :: qs, 0, n', q', g, h1, h2 => by
    have h1 : some n = some n' := h1
    have h2 : some q = some q' := h2
    cases h1
    cases h2
    simp only [EX]
    congr 1
    refine List.map_congr_left fun y _ => ?_
    show pmf n q y * (EX ns qs fun ys => g y) = _
    rw [EX_const]
  | n :: ns, q :: qs, i + 1, n', q', g, h1, h2 => by
    simp only [EX]
    have e : (fun y => pmf n q y * EX ns qs fun ys => g ((y :: ys).getD (i + 1) 0)) = fun y => ((List.range (n' + 1)).map fun y => pmf n' q' y * g y).sum * pmf n q y := by
      funext y
      have : (EX ns qs fun ys => g ((y :: ys).getD (i + 1) 0)) = EX ns qs fun ys => g (ys.getD i 0) := rfl
      rw [this, EX_at (by simpa using h1) (by simpa using h2), Rat.mul_comm]
    rw [e, sum_mul, pmf_all, Rat.mul_one]
  | [], _, _, _, _, _, h1, _ => by simp at h1
  | _ :: _, [], _, _, _, _, _, h2 => by simp at h2
/-- one study's p-value is t at most no oftener than t -/
theorem EX_miss {ns : List Nat} {qs : List Rat} {i n : Nat} {q d t : Rat} (h1 : ns[i]? = some n) (h2 : qs[i]? = some q) (h0 : 0 ≤ q) (hd : q ≤ d) (hd1 : d ≤ 1) (ht : 0 ≤ t) : (EX ns qs fun ys => if tl n d (ys.getD i 0) ≤ t then 1 else 0) ≤ t := by
  rw [EX_at (g := fun y => if tl n d y ≤ t then 1 else 0) h1 h2]
  have h := miss_le (n := n) h0 hd hd1 ht (n + 1) 0 (by omega)
  unfold dsum at h
  rw [List.drop_zero] at h
  have e : (fun y => pmf n q y * if tl n d y ≤ t then 1 else 0) = fun y => if tl n d y ≤ t then pmf n q y else 0 := by
    funext y
    split
    · rw [Rat.mul_one]
    · rw [Rat.mul_zero]
  rw [e]
  exact h
/-- several -/
theorem EX_sum {ns : List Nat} {qs : List Rat} : ∀ (is : List Nat) (f : Nat → List Nat → Rat), (EX ns qs fun ys => (is.map fun i => f i ys).sum) = (is.map fun i => EX ns qs (f i)).sum
  | [], f => by
    have : (EX ns qs fun ys => (([] : List Nat).map fun i => f i ys).sum) = EX ns qs fun _ => 0 := rfl
    rw [this, EX_const]
    rfl
  | i :: is, f => by
    have : (EX ns qs fun ys => ((i :: is).map fun i => f i ys).sum) = EX ns qs fun ys => f i ys + (is.map fun i => f i ys).sum := by
      congr 1
    rw [this, EX_add, EX_sum is f, List.map_cons, List.sum_cons]
end MQ
namespace MQ
open PySem MP
/-! ### all outcomes, one behind another -/
def moreO (f : List (List Nat)) (n : Nat) : List (List Nat) := f.flatMap fun r => (List.range (n + 1)).map fun y => r ++ [y]
def outs (coins : List Nat) : List (List Nat) := coins.foldl moreO [[]]
theorem outs_from : ∀ (ns : List Nat) (f : List (List Nat)), ns.foldl moreO f = f.flatMap fun r => (outs ns).map fun s => r ++ s
  | [], f => by
    show f = f.flatMap fun r => [r ++ []]
    simp
  | n :: ns, f => by
    show ns.foldl moreO (moreO f n) = f.flatMap fun r => (ns.foldl moreO (moreO [[]] n)).map fun s => r ++ s
    rw [outs_from ns (moreO f n), outs_from ns (moreO [[]] n)]
    unfold moreO
    simp [List.flatMap_assoc, List.flatMap_map, List.map_flatMap, List.append_assoc, Function.comp_def]
theorem outs_cons (n : Nat) (ns : List Nat) : outs (n :: ns) = (List.range (n + 1)).flatMap fun y => (outs ns).map fun s => y :: s := by
  show ns.foldl moreO (moreO [[]] n) = _
  rw [outs_from]
  unfold moreO
  simp [List.flatMap_map]
def likF : Rat → List Nat → List Nat → List Rat → Rat
  | f, n :: ns, y :: ys, q :: qs => likF (f * pmf n q y) ns ys qs
  | f, _, _, _ => f
theorem lik_sum : ∀ (ns : List Nat) (qs : List Rat) (f : Rat) (φ : List Nat → Rat), ns.length = qs.length → ((outs ns).map fun ys => likF f ns ys qs * φ ys).sum = f * EX ns qs φ
  | [], [], f, φ, _ => by
    show ([[]].map fun ys => likF f [] ys [] * φ ys).sum = f * φ []
    simp only [List.map_cons, List.map_nil, List.sum_cons, List.sum_nil, Rat.add_zero]
    rfl
  | n :: ns, q :: qs, f, φ, h => by
    rw [outs_cons, List.map_flatMap, sum_flatMap]
    simp only [EX]
    rw [← sum_mul]
    congr 1
    refine List.map_congr_left fun y _ => ?_
    rw [List.map_map]
    have := lik_sum ns qs (f * pmf n q y) (fun ys => φ (y :: ys)) (by simpa using h)
    rw [← Rat.mul_assoc, ← this]
    rfl
  | [], _ :: _, _, _, h => by simp at h
  | _ :: _, [], _, _, h => by simp at h
end MQ
namespace MQ
open PySem MP
/-! ### among the least there is one of those that are so -/
theorem count_srt {ps : List Rat} {f : Nat} {x : Rat} (h : (srt ps)[f]? = some x) : f + 1 ≤ ps.countP fun p => decide (p ≤ x) := by
  have hl := (List.getElem?_eq_some_iff.mp h).1
  rw [← (srt_perm ps).countP_eq]
  have h1 : ((srt ps).take (f + 1)).countP (fun p => decide (p ≤ x)) = f + 1 := by
    rw [List.countP_eq_length.mpr]
    · rw [List.length_take]; omega
    · intro a ha
      refine decide_eq_true ?_
      obtain ⟨i, hi⟩ := List.getElem?_of_mem ha
      have hi2 : i < f + 1 := by
        have := (List.getElem?_eq_some_iff.mp hi).1
        rw [List.length_take] at this
        omega
      rw [List.getElem?_take_of_lt hi2] at hi
      by_cases e : i = f
      · subst e
        rw [h] at hi
        cases hi
        exact Rat.le_refl
      · have hs := List.pairwise_iff_getElem.mp (srt_sorted ps) i f (by omega) hl (by omega)
        rw [List.getElem?_eq_getElem (by omega)] at hi
        rw [List.getElem?_eq_getElem hl] at h
        cases hi
        cases h
        exact hs
  rw [← h1]
  exact (List.take_sublist _ _).countP_le
end MQ
namespace MQ
open PySem MP
/-- fewer than f + 1 that are not so: one that is so has a p-value no more than the f-th -/
theorem one_true {ps : List Rat} {so : Nat → Bool} {f : Nat} {x : Rat} (h : (srt ps)[f]? = some x) (hf : ((List.range ps.length).countP fun i => !so i) ≤ f) : ∃ i p, ps[i]? = some p ∧ so i = true ∧ p ≤ x := by
  have h1 := count_srt h
  by_cases hn : ∃ i p, ps[i]? = some p ∧ so i = true ∧ p ≤ x
  · exact hn
  · exfalso
    have e : ps = (List.range ps.length).map fun i => ps.getD i 0 := by
      apply List.ext_getElem?
      intro i
      rw [List.getElem?_map]
      by_cases hi : i < ps.length
      · rw [List.getElem?_range hi, List.getElem?_eq_getElem hi]
        show some ps[i] = some (ps.getD i 0)
        rw [List.getD_eq_getElem?_getD, List.getElem?_eq_getElem hi]
        rfl
      · rw [List.getElem?_eq_none (by omega), List.getElem?_eq_none (by rw [List.length_range]; omega)]
        rfl
    have h2 : (ps.countP fun p => decide (p ≤ x)) ≤ (List.range ps.length).countP fun i => !so i := by
      conv => lhs; rw [e]
      rw [List.countP_map]
      refine List.countP_mono_left fun i hi hp => ?_
      have hi := List.mem_range.mp hi
      have hp : decide (ps.getD i 0 ≤ x) = true := hp
      have hg : ps[i]? = some (ps.getD i 0) := by
        rw [List.getD_eq_getElem?_getD, List.getElem?_eq_getElem hi]
        rfl
      cases hs : so i with
      | false => rfl
      | true => exact absurd ⟨i, _, hg, hs, of_decide_eq_true hp⟩ hn
    omega
end MQ
namespace MQ
open PySem MP
theorem sum_ge_one {α : Type} {g : α → Rat} : ∀ {l : List α}, (∀ a ∈ l, 0 ≤ g a) → (∃ a ∈ l, g a = 1) → 1 ≤ (l.map g).sum
  | [], _, ⟨a, h, _⟩ => by cases h
  | b :: l, h, ⟨a, ha, e⟩ => by
    rw [List.map_cons, List.sum_cons]
    have hb := h b List.mem_cons_self
    rcases List.mem_cons.mp ha with z | z
    · have : 0 ≤ (l.map g).sum := by
        have := sum_le (f := fun _ : α => (0 : Rat)) (g := g) (l := l) fun a ha => h a (List.mem_cons_of_mem _ ha)
        have e0 : (l.map fun _ : α => (0 : Rat)).sum = 0 := by
          have := sum_mul (0 : Rat) (fun _ : α => (0 : Rat)) l
          simpa [Rat.zero_mul] using this
        rw [e0] at this
        exact this
      rw [← z, e]
      grind
    · have := sum_ge_one (g := g) (l := l) (fun a ha => h a (List.mem_cons_of_mem _ ha)) ⟨a, z, e⟩
      grind
/-- some of them is missed no oftener than the sum -/
theorem union_le {ns : List Nat} {qs : List Rat} {is : List Nat} {n ix : Nat → Nat} {q d : Nat → Rat} {t : Rat} {bad : List Nat → Bool} (hqs : ∀ q ∈ qs, 0 ≤ q ∧ q ≤ 1) (ht : 0 ≤ t) (hi : ∀ i ∈ is, ns[ix i]? = some (n i) ∧ qs[ix i]? = some (q i) ∧ 0 ≤ q i ∧ q i ≤ d i ∧ d i ≤ 1)
    (hb : ∀ ys, bad ys = true → ∃ i ∈ is, tl (n i) (d i) (ys.getD (ix i) 0) ≤ t) : (EX ns qs fun ys => if bad ys = true then 1 else 0) ≤ (is.length : Rat) * t := by
  have h1 : (EX ns qs fun ys => if bad ys = true then 1 else 0) ≤ EX ns qs fun ys => (is.map fun i => if tl (n i) (d i) (ys.getD (ix i) 0) ≤ t then (1 : Rat) else 0).sum := EX_mono hqs fun ys => by
    have nn : ∀ i ∈ is, (0 : Rat) ≤ if tl (n i) (d i) (ys.getD (ix i) 0) ≤ t then 1 else 0 := fun i _ => by split <;> decide
    by_cases h : bad ys = true
    · rw [if_pos h]
      obtain ⟨i, hi, e⟩ := hb ys h
      exact sum_ge_one nn ⟨i, hi, if_pos e⟩
    · rw [if_neg h]
      have := sum_le (f := fun _ : Nat => (0 : Rat) * 0) (g := fun i => if tl (n i) (d i) (ys.getD (ix i) 0) ≤ t then (1 : Rat) else 0) (l := is) fun i hi => by
        rw [Rat.zero_mul]; exact nn i hi
      rw [sum_mul, Rat.zero_mul] at this
      exact this
  rw [EX_sum] at h1
  have h2 : (is.map fun i => EX ns qs fun ys => if tl (n i) (d i) (ys.getD (ix i) 0) ≤ t then (1 : Rat) else 0).sum ≤ (is.map fun _ => t).sum := sum_le fun i h => by
    obtain ⟨a, b, c, e, f⟩ := hi i h
    exact EX_miss a b c e f ht
  have h3 : ∀ l : List Nat, (l.map fun _ => t).sum = (l.length : Rat) * t := fun l => by
    induction l with
    | nil => simp [Rat.zero_mul]
    | cons a l ih =>
      rw [List.map_cons, List.sum_cons, ih, List.length_cons]
      have : ((l.length + 1 : Nat) : Rat) = (l.length : Rat) + 1 := by exact Rat.natCast_add _ _
      rw [this]
      grind
  rw [h3] at h2
  exact Rat.le_trans h1 h2
end MQ
namespace MQ
theorem srt_rev (l : List Rat) : srt l.reverse = srt l := srt_of ((srt_perm _).trans (List.reverse_perm l)) (srt_sorted _)
theorem maxL_le {s : Rat} : ∀ {qs : List Rat} {f : Rat}, f ≤ s → (∀ q ∈ qs, q ≤ s) → maxL f qs ≤ s
  | [], f, h, _ => h
  | q :: qs, f, h, hq => by
    show maxL (maxF f q) qs ≤ s
    refine maxL_le ?_ fun x hx => hq x (List.mem_cons_of_mem _ hx)
    unfold maxF
    split
    · exact hq q List.mem_cons_self
    · exact h
end MQ
namespace MQ
open PySem MP
/-! ### fractions with a told number below -/
def Fd (D k : Nat) (q : Rat) : Prop := (∃ j : Int, q = Rat.divInt j (D : Nat)) ∧ 0 ≤ q ∧ q ≤ (k : Rat)
theorem fd_sz {D k s : Nat} {q : Rat} (hD : 0 < D) (hk : 1 ≤ k) (h : Fd D k q) (hs : D * k < 2 ^ s) : Sz s q := by
  obtain ⟨⟨j, e⟩, h0, h1⟩ := h
  have hd := div_den (a := j) (b := (D : Int)) (by omega)
  rw [← e] at hd
  have hle : q.den ≤ D := by
    have : ((q.den : Nat) : Int) ≤ (D : Int) := by
      rw [← hd]
      exact Int.ediv_le_self _ (by omega)
    omega
  have hden : q.den < 2 ^ s := Nat.lt_of_le_of_lt hle (Nat.lt_of_le_of_lt (Nat.le_mul_of_pos_right D hk) hs)
  refine ⟨?_, hden⟩
  have hn : 0 ≤ q.num := Rat.num_nonneg.mpr h0
  have h2 := (Rat.le_iff q (k : Rat)).mp h1
  rw [Rat.num_natCast, Rat.den_natCast] at h2
  have h3 : q.num ≤ (k : Int) * (q.den : Int) := by omega
  have h4 : (k : Int) * (q.den : Int) ≤ ((D * k : Nat) : Int) := by
    rw [Int.natCast_mul, Int.mul_comm (D : Int)]
    exact Int.mul_le_mul_of_nonneg_left (by omega) (by omega)
  omega
theorem Fd.add {D a b : Nat} {x y : Rat} (hD : 0 < D) (h1 : Fd D a x) (h2 : Fd D b y) : Fd D (a + b) (x + y) := by
  obtain ⟨⟨i, e1⟩, p1, q1⟩ := h1
  obtain ⟨⟨j, e2⟩, p2, q2⟩ := h2
  refine ⟨⟨i + j, ?_⟩, Rat.add_nonneg p1 p2, ?_⟩
  · rw [e1, e2]
    have : (((D : Nat) : Int) : Rat) ≠ 0 := fun h => by
      have := Rat.intCast_inj.mp (h.trans Rat.intCast_zero.symm)
      omega
    rw [Rat.divInt_eq_div, Rat.divInt_eq_div, Rat.divInt_eq_div, Rat.intCast_add]
    grind
  · have : ((a + b : Nat) : Rat) = (a : Rat) + (b : Rat) := Rat.natCast_add _ _
    rw [this]
    grind
theorem Fd.mul1 {D E : Nat} {x y : Rat} (h1 : Fd D 1 x) (h2 : Fd E 1 y) : Fd (D * E) 1 (x * y) := by
  obtain ⟨⟨i, e1⟩, p1, q1⟩ := h1
  obtain ⟨⟨j, e2⟩, p2, q2⟩ := h2
  refine ⟨⟨i * j, ?_⟩, Rat.mul_nonneg p1 p2, ?_⟩
  · rw [e1, e2, Rat.divInt_mul_divInt, Int.natCast_mul]
  · have a := Rat.mul_le_mul_of_nonneg_left q2 p1
    have : ((1 : Nat) : Rat) = 1 := rfl
    rw [this] at *
    grind
theorem pmf_le_one {n k : Nat} {q : Rat} (h0 : 0 ≤ q) (h1 : q ≤ 1) : pmf n q k ≤ 1 := by
  have a := tl_step n k q
  have b := tl_nn (n := n) h0 h1 (n + 1) (k + 1) (by omega)
  have c : tl n q k ≤ 1 := by
    have key : ∀ k, tl n q k ≤ 1 := fun k => by
      induction k with
      | zero => rw [tl_zero]; exact Rat.le_refl
      | succ k ih => exact Rat.le_trans (tl_anti h0 h1) ih
    exact key k
  grind
theorem pmf_fd {n k : Nat} {q : Rat} (h0 : 0 ≤ q) (h1 : q ≤ 1) (hk : k ≤ n) : Fd (q.den ^ n) 1 (pmf n q k) := by
  refine ⟨⟨(ch n k : Int) * q.num ^ k * ((q.den : Int) - q.num) ^ (n - k), ?_⟩, pmf_nn h0 h1, pmf_le_one h0 h1⟩
  have := chance_eq q hk (ch n k)
  rw [Int.natCast_pow, this]
  rfl
/-- what stands below -/
def DD : List Nat → List Rat → Nat
  | n :: ns, q :: qs => q.den ^ n * DD ns qs
  | _, _ => 1
theorem DD_pos : ∀ (ns : List Nat) (qs : List Rat), 0 < DD ns qs
  | n :: ns, q :: qs => Nat.mul_pos (Nat.pow_pos q.den_pos) (DD_pos ns qs)
  | [], _ => by simp [DD]
  | _ :: _, [] => by simp [DD]
theorem DD_le {s b : Nat} : ∀ {ns : List Nat} {qs : List Rat}, (∀ n ∈ ns, n ≤ b) → (∀ q ∈ qs, q.den ≤ 2 ^ s) → DD ns qs ≤ 2 ^ (s * b * ns.length)
  | n :: ns, q :: qs, h1, h2 => by
    have ih := DD_le (ns := ns) (qs := qs) (fun x hx => h1 x (List.mem_cons_of_mem _ hx)) (fun x hx => h2 x (List.mem_cons_of_mem _ hx))
    have a : q.den ^ n ≤ 2 ^ (s * b) := by
      refine Nat.le_trans (Nat.pow_le_pow_left (h2 q List.mem_cons_self) n) ?_
      rw [← Nat.pow_mul]
      exact Nat.pow_le_pow_right (by decide) (Nat.mul_le_mul_left _ (h1 n List.mem_cons_self))
    show q.den ^ n * DD ns qs ≤ _
    rw [List.length_cons, Nat.mul_succ, Nat.add_comm, Nat.pow_add]
    exact Nat.mul_le_mul a ih
  | [], _, _, _ => by simp [DD]
  | _ :: _, [], _, _ => by simp only [DD]; exact Nat.one_le_two_pow
theorem lik_fd : ∀ (ns ys : List Nat) (qs : List Rat) (D : Nat) (f : Rat), (∀ q ∈ qs, 0 ≤ q ∧ q ≤ 1) → (∀ p ∈ ns.zip ys, p.2 ≤ p.1) → ns.length = ys.length → ns.length = qs.length → Fd D 1 f → Fd (D * DD ns qs) 1 (likF f ns ys qs)
  | n :: ns, y :: ys, q :: qs, D, f, hq, hy, l1, l2, h => by
    obtain ⟨a, b⟩ := hq q List.mem_cons_self
    have := lik_fd ns ys qs (D * q.den ^ n) (f * pmf n q y) (fun x hx => hq x (List.mem_cons_of_mem _ hx)) (fun x hx => hy x (List.mem_cons_of_mem _ hx)) (by simpa using l1) (by simpa using l2) (h.mul1 (pmf_fd a b (hy (n, y) List.mem_cons_self)))
    rw [Nat.mul_assoc] at this
    exact this
  | [], [], [], D, f, _, _, _, _, h => by
    show Fd (D * 1) 1 f
    rw [Nat.mul_one]
    exact h
  | [], _ :: _, _, _, _, _, _, h, _, _ => by simp at h
  | _ :: _, [], _, _, _, _, _, h, _, _ => by simp at h
  | [], _, _ :: _, _, _, _, _, _, h, _ => by simp at h
  | _ :: _, _, [], _, _, _, _, _, h, _ => by simp at h
theorem outs_mem : ∀ {ns ys : List Nat}, ys ∈ outs ns → ys.length = ns.length ∧ ∀ p ∈ ns.zip ys, p.2 ≤ p.1
  | [], ys, h => by
    have h : ys ∈ [[]] := h
    rw [List.mem_singleton.mp h]
    exact ⟨rfl, fun p hp => by simp at hp⟩
  | n :: ns, ys, h => by
    rw [outs_cons] at h
    obtain ⟨y, hy, h⟩ := List.mem_flatMap.mp h
    obtain ⟨r, hr, rfl⟩ := List.mem_map.mp h
    obtain ⟨a, b⟩ := outs_mem hr
    refine ⟨by rw [List.length_cons, a, List.length_cons], fun p hp => ?_⟩
    rw [List.zip_cons_cons] at hp
    rcases List.mem_cons.mp hp with z | z
    · rw [z]
      have := List.mem_range.mp hy
      show y ≤ n
      omega
    · exact b p z
theorem as_range {α : Type} (l : List α) (d : α) : l = (List.range l.length).map fun i => l.getD i d := by
  apply List.ext_getElem?
  intro i
  rw [List.getElem?_map]
  by_cases hi : i < l.length
  · rw [List.getElem?_range hi, List.getElem?_eq_getElem hi]
    show some l[i] = some (l.getD i d)
    rw [List.getD_eq_getElem?_getD, List.getElem?_eq_getElem hi]
    rfl
  · rw [List.getElem?_eq_none (by omega), List.getElem?_eq_none (by rw [List.length_range]; omega)]
    rfl
theorem zip_maps {γ α β : Type} (f : γ → α) (g : γ → β) : ∀ l : List γ, (l.map f).zip (l.map g) = l.map fun i => (f i, g i)
  | [] => rfl
  | a :: l => by rw [List.map_cons, List.map_cons, List.zip_cons_cons, zip_maps f g l, List.map_cons]
theorem zip_range {α β : Type} {as : List α} {bs : List β} {n : Nat} (h1 : as.length = n) (h2 : bs.length = n) (a : α) (b : β) : as.zip bs = (List.range n).map fun i => (as.getD i a, bs.getD i b) := by
  conv => lhs; rw [as_range as a, as_range bs b, h1, h2]
  exact zip_maps _ _ _
theorem zipIdx_range {α : Type} (l : List α) (d : α) : l.zipIdx 0 = (List.range l.length).map fun i => (l.getD i d, i) := by
  apply List.ext_getElem?
  intro i
  rw [List.getElem?_zipIdx, List.getElem?_map, Nat.zero_add]
  by_cases hi : i < l.length
  · rw [List.getElem?_range hi, List.getElem?_eq_getElem hi]
    show some (l[i], i) = some (l.getD i d, i)
    rw [List.getD_eq_getElem?_getD, List.getElem?_eq_getElem hi]
    rfl
  · rw [List.getElem?_eq_none (by omega), List.getElem?_eq_none (by rw [List.length_range]; omega)]
    rfl
end MQ
namespace MQ
theorem le_div {s k x : Rat} (hk : 0 < k) (h : x * k ≤ s) : x ≤ s / k := by
  by_cases c : x ≤ s / k
  · exact c
  · exfalso
    have c : s / k < x := by grind
    have := (Rat.div_lt_iff hk).mp c
    grind
theorem div_nn {s k : Rat} (h : 0 ≤ s) (hk : 0 ≤ k) : 0 ≤ s / k := by
  by_cases e : k = 0
  · rw [e, Rat.div_def, Rat.inv_zero, Rat.mul_zero]; exact Rat.le_refl
  · exact le_div (by grind) (by rw [Rat.zero_mul]; exact h)
end MQ
/-! MP: stepping up through p-values. -/
namespace MQ
open PySem MP
def cnt (ps : List Rat) (t : Rat) : Nat := ps.countP fun p => decide (p ≤ t)
def lv (α : Rat) (m k : Nat) : Rat := α * (k : Rat) / (m : Rat)
def rnGo (α : Rat) (m : Nat) : List Rat → Nat → Nat → Nat
  | [], _, b => b
  | p :: l, k, b => rnGo α m l (k + 1) (if lv α m (k + 1) < p then b else k + 1)
/-- how many have noes -/
def RN (α : Rat) (ps : List Rat) : Nat := rnGo α ps.length (srt ps) 0 0
structure IsR (α : Rat) (ps : List Rat) (R : Nat) : Prop where
  le : R ≤ ps.length
  at_ : R ≤ cnt ps (lv α ps.length R)
  up : ∀ k, R < k → k ≤ ps.length → cnt ps (lv α ps.length k) < k
theorem cnt_mono {ps : List Rat} {s t : Rat} (h : s ≤ t) : cnt ps s ≤ cnt ps t :=
  List.countP_mono_left fun x _ hx => decide_eq_true (Rat.le_trans (of_decide_eq_true hx) h)
theorem cnt_le {ps : List Rat} {t : Rat} : cnt ps t ≤ ps.length := List.countP_le_length
theorem srt_cnt {ps : List Rat} {k : Nat} {p t : Rat} (h : (srt ps)[k]? = some p) : p ≤ t ↔ k + 1 ≤ cnt ps t := by
  constructor
  · intro hp
    exact Nat.le_trans (count_srt h) (cnt_mono hp)
  · intro hc
    by_cases hp : p ≤ t
    · exact hp
    · exfalso
      have hl := (List.getElem?_eq_some_iff.mp h).1
      have e : cnt ps t = (srt ps).countP fun p => decide (p ≤ t) := by
        unfold cnt
        exact ((srt_perm ps).countP_eq _).symm
      have e2 := List.take_append_drop k (srt ps)
      rw [e, ← e2, List.countP_append] at hc
      have h0 : ((srt ps).drop k).countP (fun p => decide (p ≤ t)) = 0 := by
        rw [List.countP_eq_zero]
        intro a ha hd
        have hd := of_decide_eq_true hd
        obtain ⟨i, hi⟩ := List.getElem?_of_mem ha
        rw [List.getElem?_drop] at hi
        have hil := (List.getElem?_eq_some_iff.mp hi).1
        have : p ≤ a := by
          by_cases e : i = 0
          · subst e
            rw [Nat.add_zero, h] at hi
            cases hi
            exact Rat.le_refl
          · have hs := List.pairwise_iff_getElem.mp (srt_sorted ps) k (k + i) hl hil (by omega)
            rw [List.getElem?_eq_getElem hl] at h
            rw [List.getElem?_eq_getElem hil] at hi
            cases h
            cases hi
            exact hs
        exact hp (Rat.le_trans this hd)
      have h1 : ((srt ps).take k).countP (fun p => decide (p ≤ t)) ≤ k := by
        refine Nat.le_trans List.countP_le_length ?_
        rw [List.length_take]
        omega
      omega
theorem rn_go {α : Rat} {ps : List Rat} : ∀ (l : List Rat) (k b : Nat), (srt ps).drop k = l → k + l.length = ps.length → b ≤ k → b ≤ cnt ps (lv α ps.length b) → (∀ j, b < j → j ≤ k → cnt ps (lv α ps.length j) < j) → IsR α ps (rnGo α ps.length l k b)
  | [], k, b, hd, hl, hb, h1, h2 => by
    simp only [List.length_nil, Nat.add_zero] at hl
    exact ⟨by rw [rnGo]; omega, h1, fun j hj hj2 => h2 j hj (by omega)⟩
  | p :: l, k, b, hd, hl, hb, h1, h2 => by
    simp only [List.length_cons] at hl
    have hp : (srt ps)[k]? = some p := by
      have := congrArg (fun l => l[0]?) hd
      simp only [List.getElem?_drop, Nat.add_zero, List.getElem?_cons_zero] at this
      exact this
    have hd2 : (srt ps).drop (k + 1) = l := by
      have := congrArg (fun l => l.drop 1) hd
      simp only [List.drop_drop, List.drop_succ_cons, List.drop_zero] at this
      exact this
    have hs := srt_cnt (t := lv α ps.length (k + 1)) hp
    rw [rnGo]
    by_cases h : lv α ps.length (k + 1) < p
    · rw [if_pos h]
      refine rn_go l (k + 1) b hd2 (by omega) (by omega) h1 fun j hj hj2 => ?_
      by_cases hjk : j ≤ k
      · exact h2 j hj hjk
      · have e : j = k + 1 := by omega
        subst e
        have : ¬ (k + 1 ≤ cnt ps (lv α ps.length (k + 1))) := fun z => by
          have := hs.mpr z
          grind
        omega
    · rw [if_neg h]
      exact rn_go l (k + 1) (k + 1) hd2 (by omega) (Nat.le_refl _) (hs.mp (by grind)) fun j hj hj2 => by omega
theorem rn_spec (α : Rat) (ps : List Rat) : IsR α ps (RN α ps) :=
  rn_go (srt ps) 0 0 rfl (by rw [srt_len]; omega) (Nat.le_refl 0) (Nat.zero_le _) fun j h1 h2 => by omega
theorem IsR.uniq {α : Rat} {ps : List Rat} {R S : Nat} (a : IsR α ps R) (b : IsR α ps S) : R = S := by
  rcases Nat.lt_trichotomy R S with h | h | h
  · have := a.up S h b.le
    have := b.at_
    omega
  · exact h
  · have := b.up R h a.le
    have := a.at_
    omega
theorem inv_nn {m : Nat} : (0 : Rat) ≤ 1 / (m : Rat) := div_nn (by decide +kernel) Rat.natCast_nonneg
theorem lv_eq (α : Rat) (m k : Nat) : lv α m k = α * (k : Rat) * (1 / (m : Rat)) := by
  unfold lv
  rw [Rat.div_def, Rat.div_def, Rat.one_mul]
theorem lv_mono {α : Rat} {m j k : Nat} (h0 : 0 ≤ α) (h : j ≤ k) : lv α m j ≤ lv α m k := by
  rw [lv_eq, lv_eq]
  have hj : (j : Rat) ≤ (k : Rat) := Rat.natCast_le_natCast.mpr h
  exact Rat.mul_le_mul_of_nonneg_right (Rat.mul_le_mul_of_nonneg_left hj h0) inv_nn
theorem lv_nn {α : Rat} {m k : Nat} (h0 : 0 ≤ α) : 0 ≤ lv α m k := by
  rw [lv_eq]
  exact Rat.mul_nonneg (Rat.mul_nonneg h0 Rat.natCast_nonneg) inv_nn
theorem IsR.cnt_eq {α : Rat} {ps : List Rat} {R : Nat} (a : IsR α ps R) (h0 : 0 ≤ α) : cnt ps (lv α ps.length R) = R := by
  have h := a.at_
  by_cases e : cnt ps (lv α ps.length R) = R
  · exact e
  · exfalso
    have h1 : R < cnt ps (lv α ps.length R) := by omega
    have h2 := a.up _ h1 cnt_le
    have h3 := cnt_mono (ps := ps) (lv_mono (m := ps.length) h0 (Nat.le_of_lt h1))
    omega
theorem cnt_set : ∀ {ps : List Rat} {i : Nat} {p x t : Rat}, ps[i]? = some p → cnt (ps.set i x) t + (if p ≤ t then 1 else 0) = cnt ps t + (if x ≤ t then 1 else 0)
  | [], _, _, _, _, h => by simp at h
  | q :: ps, 0, p, x, t, h => by
    have h : some q = some p := h
    cases h
    unfold cnt
    rw [List.set_cons_zero, List.countP_cons, List.countP_cons]
    simp only [decide_eq_true_eq]
    omega
  | q :: ps, i + 1, p, x, t, h => by
    have ih := cnt_set (ps := ps) (i := i) (p := p) (x := x) (t := t) (by simpa using h)
    unfold cnt at ih ⊢
    rw [List.set_cons_succ, List.countP_cons, List.countP_cons]
    omega
/-- one p-value as nought: it has a no just where it lies below that border, and then as many have noes -/
theorem leave_one {α : Rat} {ps : List Rat} {i : Nat} {p : Rat} {R S : Nat} (h0 : 0 ≤ α) (hp : ps[i]? = some p) (a : IsR α ps R) (b : IsR α (ps.set i 0) S) : (p ≤ lv α ps.length R → R = S) ∧ (p ≤ lv α ps.length S → R = S) := by
  have hl : (ps.set i 0).length = ps.length := List.length_set
  have hc : ∀ k, cnt (ps.set i 0) (lv α ps.length k) + (if p ≤ lv α ps.length k then 1 else 0) = cnt ps (lv α ps.length k) + 1 := fun k => by
    have := cnt_set (x := 0) (t := lv α ps.length k) hp
    rw [if_pos (show (0 : Rat) ≤ lv α ps.length k from lv_nn h0)] at this
    exact this
  have hb := b.at_
  have hu := b.up
  have hbl := b.le
  rw [hl] at hb hu hbl
  constructor
  · intro h
    have hk : ∀ k, R ≤ k → cnt (ps.set i 0) (lv α ps.length k) = cnt ps (lv α ps.length k) := fun k hk => by
      have := hc k
      rw [if_pos (Rat.le_trans h (lv_mono h0 hk))] at this
      omega
    rcases Nat.lt_trichotomy R S with z | z | z
    · have := a.up S z hbl
      rw [hk S (by omega)] at hb
      omega
    · exact z
    · have := hu R z a.le
      rw [hk R (Nat.le_refl R)] at this
      have := a.at_
      omega
  · intro h
    have e : cnt (ps.set i 0) (lv α ps.length S) = cnt ps (lv α ps.length S) := by
      have := hc S
      rw [if_pos h] at this
      omega
    rcases Nat.lt_trichotomy R S with z | z | z
    · have := a.up S z hbl
      rw [e] at hb
      omega
    · exact z
    · have h1 := hu R z a.le
      have h2 := hc R
      have h3 := a.at_
      split at h2 <;> omega
/-- the part of a claim's no -/
def wI (α : Rat) (ps : List Rat) (i : Nat) : Rat := if ps.getD i 0 ≤ lv α ps.length (RN α ps) then 1 / ((RN α ps : Nat) : Rat) else 0
theorem rn_pos {α : Rat} {ps : List Rat} {i : Nat} (h0 : 0 ≤ α) (hi : i < ps.length) : 1 ≤ RN α (ps.set i 0) := by
  have b := rn_spec α (ps.set i 0)
  have hl : (ps.set i 0).length = ps.length := List.length_set
  by_cases h : 1 ≤ RN α (ps.set i 0)
  · exact h
  · exfalso
    have h1 := b.up 1 (by omega) (by rw [hl]; omega)
    have h2 := cnt_set (x := 0) (t := lv α (ps.set i 0).length 1) (List.getElem?_eq_getElem hi)
    rw [if_pos (show (0 : Rat) ≤ lv α (ps.set i 0).length 1 from lv_nn h0)] at h2
    have h3 : (if ps[i] ≤ lv α (ps.set i 0).length 1 then 1 else 0) ≤ cnt ps (lv α (ps.set i 0).length 1) := by
      split
      · rename_i hle
        unfold cnt
        exact List.countP_pos_iff.mpr ⟨ps[i], List.getElem_mem hi, decide_eq_true hle⟩
      · exact Nat.zero_le _
    omega
theorem wI_one {α : Rat} {ps : List Rat} {i : Nat} (h0 : 0 ≤ α) (hi : i < ps.length) : wI α ps i = if ps.getD i 0 ≤ lv α ps.length (RN α (ps.set i 0)) then 1 / ((RN α (ps.set i 0) : Nat) : Rat) else 0 := by
  have hp : ps[i]? = some (ps.getD i 0) := by
    rw [List.getD_eq_getElem?_getD, List.getElem?_eq_getElem hi]
    rfl
  obtain ⟨a, b⟩ := leave_one h0 hp (rn_spec α ps) (rn_spec α (ps.set i 0))
  unfold wI
  by_cases h : ps.getD i 0 ≤ lv α ps.length (RN α ps)
  · have e := a h
    rw [if_pos h, ← e, if_pos h]
  · rw [if_neg h, if_neg fun z => h (by rw [b z]; exact z)]
/-! ### middles -/
theorem EX_monoL : ∀ {ns : List Nat} {qs : List Rat} {φ ψ : List Nat → Rat}, ns.length = qs.length → (∀ q ∈ qs, 0 ≤ q ∧ q ≤ 1) → (∀ ys, ys.length = ns.length → φ ys ≤ ψ ys) → EX ns qs φ ≤ EX ns qs ψ
  | n :: ns, q :: qs, φ, ψ, hl, hq, h => by
    obtain ⟨h0, h1⟩ := hq q List.mem_cons_self
    simp only [EX]
    refine sum_le fun y _ => Rat.mul_le_mul_of_nonneg_left ?_ (pmf_nn h0 h1)
    exact EX_monoL (by simpa using hl) (fun x hx => hq x (List.mem_cons_of_mem _ hx)) fun ys hy => h (y :: ys) (by rw [List.length_cons, hy, List.length_cons])
  | [], [], φ, ψ, _, _, h => by simp only [EX]; exact h [] rfl
  | [], _ :: _, _, _, h, _, _ => by simp at h
  | _ :: _, [], _, _, h, _, _ => by simp at h
theorem EX_smul {ns : List Nat} {qs : List Rat} {c : Rat} {φ : List Nat → Rat} : (EX ns qs fun ys => c * φ ys) = c * EX ns qs φ := by
  induction ns generalizing qs φ with
  | nil => cases qs <;> simp only [EX]
  | cons n ns ih =>
    cases qs with
    | nil => simp only [EX]
    | cons q qs =>
      simp only [EX]
      rw [← sum_mul]
      congr 1
      refine List.map_congr_left fun y _ => ?_
      rw [ih (φ := fun ys => φ (y :: ys))]
      grind
theorem EX_sumL {α : Type} {ns : List Nat} {qs : List Rat} : ∀ (is : List α) (f : α → List Nat → Rat), (EX ns qs fun ys => (is.map fun i => f i ys).sum) = (is.map fun i => EX ns qs (f i)).sum
  | [], f => by
    have : (EX ns qs fun ys => (([] : List α).map fun i => f i ys).sum) = EX ns qs fun _ => 0 := rfl
    rw [this, EX_const]
    rfl
  | i :: is, f => by
    have : (EX ns qs fun ys => ((i :: is).map fun i => f i ys).sum) = EX ns qs fun ys => f i ys + (is.map fun i => f i ys).sum := by
      congr 1
    rw [this, EX_add, EX_sumL is f, List.map_cons, List.sum_cons]
/-- one coin behind another: if it is so however the others fall -/
theorem EX_cond : ∀ {ns : List Nat} {qs : List Rat} {i n : Nat} {q c : Rat} {φ : List Nat → Rat}, ns.length = qs.length → (∀ q ∈ qs, 0 ≤ q ∧ q ≤ 1) → ns[i]? = some n → qs[i]? = some q →
    (∀ ys : List Nat, ys.length = ns.length → ((List.range (n + 1)).map fun y => pmf n q y * φ (ys.set i y)).sum ≤ c) → EX ns qs φ ≤ c
  | n :: ns, q :: qs, 0, n', q', c, φ, hl, hq, h1, h2, h => by
    have h1 : some n = some n' := h1
    have h2 : some q = some q' := h2
    cases h1
    cases h2
    simp only [EX]
    have e : (fun y => pmf n q y * EX ns qs fun ys => φ (y :: ys)) = fun y => EX ns qs fun ys => pmf n q y * φ (y :: ys) := by
      funext y
      rw [EX_smul]
    rw [e, ← EX_sumL]
    refine Rat.le_trans (EX_monoL (ψ := fun _ => c) (by simpa using hl) (fun x hx => hq x (List.mem_cons_of_mem _ hx)) fun ys hy => ?_) (by rw [EX_const]; exact Rat.le_refl)
    exact h (0 :: ys) (by rw [List.length_cons, hy, List.length_cons])
  | n :: ns, q :: qs, i + 1, n', q', c, φ, hl, hq, h1, h2, h => by
    obtain ⟨a, b⟩ := hq q List.mem_cons_self
    simp only [EX]
    have key : ∀ y, EX ns qs (fun ys => φ (y :: ys)) ≤ c := fun y => EX_cond (i := i) (by simpa using hl) (fun x hx => hq x (List.mem_cons_of_mem _ hx)) (by simpa using h1) (by simpa using h2) fun ys hy => by
      have := h (y :: ys) (by rw [List.length_cons, hy, List.length_cons])
      simp only [List.set_cons_succ] at this
      exact this
    refine Rat.le_trans (sum_le (g := fun y => c * pmf n q y) fun y _ => ?_) ?_
    · have := Rat.mul_le_mul_of_nonneg_left (key y) (pmf_nn (n := n) (k := y) a b)
      rw [Rat.mul_comm c]
      exact this
    · rw [sum_mul, pmf_all, Rat.mul_one]
      exact Rat.le_refl
  | [], _, _, _, _, _, _, _, _, h1, _, _ => by simp at h1
  | _ :: _, [], _, _, _, _, _, h, _, _, _, _ => by simp at h
theorem add_le2 {a b c d : Rat} (h : a ≤ b) (h2 : c ≤ d) : a + c ≤ b + d := by grind
theorem cancel_r {a b c d : Rat} (h : a * c = 1) : c * (b * a * d) = b * d := by
  have e : c * (b * a * d) = (a * c) * (b * d) := by grind
  rw [e, h, Rat.one_mul]
/-- of coins that don't hang together -/
theorem fdr_one {ns : List Nat} {qs : List Rat} {i n m : Nat} {q d α : Rat} {ps : List Nat → List Rat} (hl : ns.length = qs.length) (hq : ∀ q ∈ qs, 0 ≤ q ∧ q ≤ 1) (h1 : ns[i]? = some n) (h2 : qs[i]? = some q) (h0 : 0 ≤ q) (hd : q ≤ d) (hd1 : d ≤ 1) (hα : 0 ≤ α) (hm : i < m)
    (hp : ∀ ys, (ps ys).length = m) (hpi : ∀ ys : List Nat, ys.length = ns.length → (ps ys).getD i 0 = tl n d (ys.getD i 0)) (hset : ∀ (ys : List Nat) (y : Nat), ys.length = ns.length → (ps (ys.set i y)).set i 0 = (ps ys).set i 0) : (EX ns qs fun ys => wI α (ps ys) i) ≤ α / (m : Rat) := by
  have hi : i < ns.length := (List.getElem?_eq_some_iff.mp h1).1
  refine EX_cond hl hq h1 h2 fun ys hy => ?_
  have hR := rn_pos (ps := ps ys) hα (by rw [hp]; exact hm)
  generalize hRe : RN α ((ps ys).set i 0) = R at hR
  have e : ∀ y, wI α (ps (ys.set i y)) i = if tl n d y ≤ lv α m R then 1 / (R : Rat) else 0 := fun y => by
    have hy2 : (ys.set i y).length = ns.length := by rw [List.length_set, hy]
    rw [wI_one hα (by rw [hp]; exact hm), hset ys y hy, hRe, hp, hpi _ hy2]
    have : (ys.set i y).getD i 0 = y := by
      rw [List.getD_eq_getElem?_getD, List.getElem?_set_self (by omega)]
      rfl
    rw [this]
  have e2 : (fun y => pmf n q y * wI α (ps (ys.set i y)) i) = fun y => (1 / (R : Rat)) * (if tl n d y ≤ lv α m R then pmf n q y else 0) := by
    funext y
    rw [e]
    split
    · rw [Rat.mul_comm]
    · rw [Rat.mul_zero, Rat.mul_zero]
  rw [e2, sum_mul]
  have hm2 := miss_le (n := n) (t := lv α m R) h0 hd hd1 (lv_nn hα) (n + 1) 0 (by omega)
  unfold dsum at hm2
  rw [List.drop_zero] at hm2
  have h3 := Rat.mul_le_mul_of_nonneg_left hm2 (inv_nn (m := R))
  refine Rat.le_trans h3 ?_
  have hR0 : (R : Rat) ≠ 0 := by
    intro z
    have : R = 0 := by exact_mod_cast z
    omega
  unfold lv
  rw [Rat.div_def, Rat.div_def, Rat.div_def, Rat.one_mul]
  rw [cancel_r (Rat.mul_inv_cancel _ hR0)]
  exact Rat.le_refl
end MQ
namespace MQ
open PySem MP
/-- 1 and 1/2 and so on -/
def hs : Nat → Rat
  | 0 => 0
  | n + 1 => hs n + 1 / ((n + 1 : Nat) : Rat)
def iv (p t : Rat) : Rat := if p ≤ t then 1 else 0
theorem iv_nn {p t : Rat} : 0 ≤ iv p t := by unfold iv; split <;> decide
theorem iv_one {p s t : Rat} (h : p ≤ s) (hs : s ≤ t) : iv p t = 1 := if_pos (Rat.le_trans h hs)
theorem q12 : (1 : Rat) / ((2 : Nat) : Rat) = mkRat 1 2 := by decide +kernel
theorem wI_up2 {α : Rat} {ps : List Rat} {i : Nat} (h0 : 0 ≤ α) (hm : ps.length = 2) (hi : i < 2) : wI α ps i ≤ mkRat 1 2 * iv (ps.getD i 0) (lv α 2 1) + mkRat 1 2 * iv (ps.getD i 0) (lv α 2 2) := by
  have a := rn_spec α ps
  have hle := a.le
  have hc := a.cnt_eq h0
  have hp : ps[i]? = some (ps.getD i 0) := by
    rw [List.getD_eq_getElem?_getD, List.getElem?_eq_getElem (by omega)]
    rfl
  have n1 := iv_nn (p := ps.getD i 0) (t := lv α 2 1)
  have n2 := iv_nn (p := ps.getD i 0) (t := lv α 2 2)
  rw [hm] at hle hc
  unfold wI
  rw [hm]
  generalize RN α ps = R at hle hc ⊢
  by_cases h : ps.getD i 0 ≤ lv α 2 R
  · rw [if_pos h]
    have h1 : 1 ≤ cnt ps (lv α 2 R) := by
      unfold cnt
      exact List.countP_pos_iff.mpr ⟨_, List.mem_of_getElem? hp, decide_eq_true h⟩
    have hR : R = 1 ∨ R = 2 := by omega
    rcases hR with z | z
    · subst z
      rw [iv_one h Rat.le_refl, iv_one h (lv_mono h0 (by decide))]
      decide +kernel
    · subst z
      rw [iv_one h Rat.le_refl]
      have e : (1 : Rat) / ((2 : Nat) : Rat) = mkRat 1 2 := by decide +kernel
      rw [e]
      have : (0 : Rat) ≤ mkRat 1 2 := by decide +kernel
      have := Rat.mul_nonneg this n1
      grind
  · rw [if_neg h]
    have : (0 : Rat) ≤ mkRat 1 2 := by decide +kernel
    have h1 := Rat.mul_nonneg this n1
    have h2 := Rat.mul_nonneg this n2
    exact Rat.add_nonneg h1 h2
theorem wI_up3 {α : Rat} {ps : List Rat} {i : Nat} (h0 : 0 ≤ α) (hm : ps.length = 3) (hi : i < 3) : wI α ps i ≤ mkRat 1 2 * iv (ps.getD i 0) (lv α 3 1) + (mkRat 1 6 * iv (ps.getD i 0) (lv α 3 2) + mkRat 1 3 * iv (ps.getD i 0) (lv α 3 3)) := by
  have a := rn_spec α ps
  have hle := a.le
  have hc := a.cnt_eq h0
  have hp : ps[i]? = some (ps.getD i 0) := by
    rw [List.getD_eq_getElem?_getD, List.getElem?_eq_getElem (by omega)]
    rfl
  have n1 := iv_nn (p := ps.getD i 0) (t := lv α 3 1)
  have n2 := iv_nn (p := ps.getD i 0) (t := lv α 3 2)
  have n3 := iv_nn (p := ps.getD i 0) (t := lv α 3 3)
  have k1 : (0 : Rat) ≤ mkRat 1 2 := by decide +kernel
  have k2 : (0 : Rat) ≤ mkRat 1 6 := by decide +kernel
  have k3 : (0 : Rat) ≤ mkRat 1 3 := by decide +kernel
  have m1 := Rat.mul_nonneg k1 n1
  have m2 := Rat.mul_nonneg k2 n2
  have m3 := Rat.mul_nonneg k3 n3
  rw [hm] at hle hc
  unfold wI
  rw [hm]
  generalize RN α ps = R at hle hc ⊢
  by_cases h : ps.getD i 0 ≤ lv α 3 R
  · rw [if_pos h]
    have h1 : 1 ≤ cnt ps (lv α 3 R) := by
      unfold cnt
      exact List.countP_pos_iff.mpr ⟨_, List.mem_of_getElem? hp, decide_eq_true h⟩
    have hR : R = 1 ∨ R = 2 ∨ R = 3 := by omega
    rcases hR with z | z | z
    · subst z
      rw [iv_one h Rat.le_refl, iv_one h (lv_mono (k := 2) h0 (by decide)), iv_one h (lv_mono (k := 3) h0 (by decide))]
      decide +kernel
    · subst z
      rw [iv_one h Rat.le_refl, iv_one h (lv_mono (k := 3) h0 (by decide))]
      have e : (1 : Rat) / ((2 : Nat) : Rat) = mkRat 1 6 * 1 + mkRat 1 3 * 1 := by decide +kernel
      rw [e]
      grind
    · subst z
      rw [iv_one h Rat.le_refl]
      have e : (1 : Rat) / ((3 : Nat) : Rat) = mkRat 1 3 * 1 := by decide +kernel
      rw [e]
      grind
  · rw [if_neg h]
    exact Rat.add_nonneg m1 (Rat.add_nonneg m2 m3)
theorem iv_miss {ns : List Nat} {qs : List Rat} {j n : Nat} {q d t : Rat} (h1 : ns[j]? = some n) (h2 : qs[j]? = some q) (h0 : 0 ≤ q) (hd : q ≤ d) (hd1 : d ≤ 1) (ht : 0 ≤ t) : (EX ns qs fun ys => iv (tl n d (ys.getD j 0)) t) ≤ t := EX_miss h1 h2 h0 hd hd1 ht
/-- of coins that hang together, by the slower share -/
theorem by_one {ns : List Nat} {qs : List Rat} {i j n m : Nat} {q d α : Rat} {ps : List Nat → List Rat} (hq : ∀ q ∈ qs, 0 ≤ q ∧ q ≤ 1) (h1 : ns[j]? = some n) (h2 : qs[j]? = some q) (h0 : 0 ≤ q) (hd : q ≤ d) (hd1 : d ≤ 1) (hα : 0 ≤ α) (hm : i < m) (hm23 : m = 2 ∨ m = 3)
    (hp : ∀ ys, (ps ys).length = m) (hpi : ∀ ys, (ps ys).getD i 0 = tl n d (ys.getD j 0)) : (EX ns qs fun ys => wI (α * (hs m)⁻¹) (ps ys) i) ≤ α / (m : Rat) := by
  rcases hm23 with z | z
  · subst z
    have hh : (0 : Rat) ≤ (hs 2)⁻¹ := by decide +kernel
    have hα2 := Rat.mul_nonneg hα hh
    generalize hβ : α * (hs 2)⁻¹ = β at hα2
    refine Rat.le_trans (EX_mono (ψ := fun ys => mkRat 1 2 * iv (tl n d (ys.getD j 0)) (lv β 2 1) + mkRat 1 2 * iv (tl n d (ys.getD j 0)) (lv β 2 2)) hq fun ys => ?_) ?_
    · have := wI_up2 hα2 (hp ys) hm
      rw [hpi] at this
      exact this
    · rw [EX_add, EX_smul, EX_smul]
      have k1 : (0 : Rat) ≤ mkRat 1 2 := by decide +kernel
      have a1 := Rat.mul_le_mul_of_nonneg_left (iv_miss (t := lv β 2 1) h1 h2 h0 hd hd1 (lv_nn hα2)) k1
      have a2 := Rat.mul_le_mul_of_nonneg_left (iv_miss (t := lv β 2 2) h1 h2 h0 hd hd1 (lv_nn hα2)) k1
      have e : mkRat 1 2 * lv β 2 1 + mkRat 1 2 * lv β 2 2 = α / ((2 : Nat) : Rat) := by
        rw [← hβ, lv_eq, lv_eq]
        have u1 : (hs 2)⁻¹ = mkRat 2 3 := by decide +kernel
        have u2 : (1 : Rat) / ((2 : Nat) : Rat) = mkRat 1 2 := by decide +kernel
        have u3 : α / ((2 : Nat) : Rat) = α * mkRat 1 2 := by rw [← u2, Rat.div_def, Rat.div_def, Rat.one_mul]
        have u4 : ((1 : Nat) : Rat) = 1 := rfl
        have u5 : ((2 : Nat) : Rat) = 2 := rfl
        rw [u3, u2, u1, u4, u5]
        have w1 : mkRat 2 3 * 1 * mkRat 1 2 * mkRat 1 2 + mkRat 2 3 * 2 * mkRat 1 2 * mkRat 1 2 = mkRat 1 2 := by decide +kernel
        have : mkRat 1 2 * (α * mkRat 2 3 * 1 * mkRat 1 2) + mkRat 1 2 * (α * mkRat 2 3 * 2 * mkRat 1 2) = α * (mkRat 2 3 * 1 * mkRat 1 2 * mkRat 1 2 + mkRat 2 3 * 2 * mkRat 1 2 * mkRat 1 2) := by
          generalize mkRat 1 2 = A
          generalize mkRat 2 3 = B
          grind
        rw [this, w1]
      rw [← e]
      exact add_le2 a1 a2
  · subst z
    have hh : (0 : Rat) ≤ (hs 3)⁻¹ := by decide +kernel
    have hα2 := Rat.mul_nonneg hα hh
    generalize hβ : α * (hs 3)⁻¹ = β at hα2
    refine Rat.le_trans (EX_mono (ψ := fun ys => mkRat 1 2 * iv (tl n d (ys.getD j 0)) (lv β 3 1) + (mkRat 1 6 * iv (tl n d (ys.getD j 0)) (lv β 3 2) + mkRat 1 3 * iv (tl n d (ys.getD j 0)) (lv β 3 3))) hq fun ys => ?_) ?_
    · have := wI_up3 hα2 (hp ys) hm
      rw [hpi] at this
      exact this
    · rw [EX_add, EX_add, EX_smul, EX_smul, EX_smul]
      have k1 : (0 : Rat) ≤ mkRat 1 2 := by decide +kernel
      have k2 : (0 : Rat) ≤ mkRat 1 6 := by decide +kernel
      have k3 : (0 : Rat) ≤ mkRat 1 3 := by decide +kernel
      have a1 := Rat.mul_le_mul_of_nonneg_left (iv_miss (t := lv β 3 1) h1 h2 h0 hd hd1 (lv_nn hα2)) k1
      have a2 := Rat.mul_le_mul_of_nonneg_left (iv_miss (t := lv β 3 2) h1 h2 h0 hd hd1 (lv_nn hα2)) k2
      have a3 := Rat.mul_le_mul_of_nonneg_left (iv_miss (t := lv β 3 3) h1 h2 h0 hd hd1 (lv_nn hα2)) k3
      have e : mkRat 1 2 * lv β 3 1 + (mkRat 1 6 * lv β 3 2 + mkRat 1 3 * lv β 3 3) = α / ((3 : Nat) : Rat) := by
        rw [← hβ, lv_eq, lv_eq, lv_eq]
        have u1 : (hs 3)⁻¹ = mkRat 6 11 := by decide +kernel
        have u2 : (1 : Rat) / ((3 : Nat) : Rat) = mkRat 1 3 := by decide +kernel
        have u3 : α / ((3 : Nat) : Rat) = α * mkRat 1 3 := by rw [← u2, Rat.div_def, Rat.div_def, Rat.one_mul]
        have u4 : ((1 : Nat) : Rat) = 1 := rfl
        have u5 : ((2 : Nat) : Rat) = 2 := rfl
        have u6 : ((3 : Nat) : Rat) = 3 := rfl
        rw [u3, u2, u1, u4, u5, u6]
        have w1 : mkRat 1 2 * (mkRat 6 11 * 1 * mkRat 1 3) + (mkRat 1 6 * (mkRat 6 11 * 2 * mkRat 1 3) + mkRat 1 3 * (mkRat 6 11 * 3 * mkRat 1 3)) = mkRat 1 3 := by decide +kernel
        have : mkRat 1 2 * (α * mkRat 6 11 * 1 * mkRat 1 3) + (mkRat 1 6 * (α * mkRat 6 11 * 2 * mkRat 1 3) + mkRat 1 3 * (α * mkRat 6 11 * 3 * mkRat 1 3)) = α * (mkRat 1 2 * (mkRat 6 11 * 1 * mkRat 1 3) + (mkRat 1 6 * (mkRat 6 11 * 2 * mkRat 1 3) + mkRat 1 3 * (mkRat 6 11 * 3 * mkRat 1 3))) := by
          generalize mkRat 1 2 = A
          generalize mkRat 6 11 = B
          generalize mkRat 1 3 = C
          generalize mkRat 1 6 = D
          grind
        rw [this, w1]
      rw [← e]
      exact add_le2 a1 (add_le2 a2 a3)
end MQ
namespace MQ
open PySem MP
theorem lv_div (α : Rat) (m k : Nat) : Rat.divInt (α.num * (k : Int)) ((α.den : Int) * (m : Int)) = lv α m k := by
  rw [Rat.divInt_eq_div, Rat.intCast_mul, Rat.intCast_mul]
  have e : (((k : Nat) : Int) : Rat) = (k : Rat) := rfl
  have e2 : (((m : Nat) : Int) : Rat) = (m : Rat) := rfl
  rw [e, e2]
  unfold lv
  have h := num_over α
  have hd := den_ne α
  generalize ((α.num : Int) : Rat) = N at h ⊢
  generalize ((α.den : Int) : Rat) = D at h hd ⊢
  rw [← h]
  by_cases hm : (m : Rat) = 0
  · rw [hm, Rat.mul_zero, Rat.div_def, Rat.div_def, Rat.inv_zero, Rat.mul_zero, Rat.mul_zero]
  · generalize (m : Rat) = M at hm ⊢
    generalize (k : Rat) = K'
    rw [Rat.div_def, Rat.div_def, Rat.div_def]
    have h1 := Rat.mul_inv_cancel _ hd
    have h2 := Rat.mul_inv_cancel _ hm
    have h3 : (D * M)⁻¹ = D⁻¹ * M⁻¹ := by
      have hdm : D * M ≠ 0 := fun z => (Rat.mul_eq_zero.mp z).elim hd hm
      have h4 := Rat.mul_inv_cancel _ hdm
      have h5 : (D * M) * (D⁻¹ * M⁻¹) = 1 := by
        have : (D * M) * (D⁻¹ * M⁻¹) = (D * D⁻¹) * (M * M⁻¹) := by grind
        rw [this, h1, h2, Rat.one_mul]
      have h6 : (D * M)⁻¹ * ((D * M) * (D⁻¹ * M⁻¹)) = (D * M)⁻¹ * 1 := by rw [h5]
      have h7 : (D * M)⁻¹ * ((D * M) * (D⁻¹ * M⁻¹)) = ((D * M) * (D * M)⁻¹) * (D⁻¹ * M⁻¹) := by grind
      rw [h7, h4, Rat.one_mul, Rat.mul_one] at h6
      exact h6.symm
    rw [h3]
    grind
theorem lv_sz {s m k : Nat} {α : Rat} (hα : Sz s α) (hm : 1 ≤ m) (hm8 : m ≤ 16) (hk : k ≤ 16) : Sz (s + 5) (lv α m k) := by
  rw [← lv_div]
  refine sz_div (Int.mul_pos (den_pos α) (by omega)) ?_ (den_nat hα.2 (show m < 2 ^ 5 by omega))
  rw [Int.natAbs_mul]
  exact mul_lt_pow hα.1 (by rw [Int.natAbs_natCast]; omega)
/-- the claims with noes -/
def noesL (α : Rat) (ps : List Rat) : List Nat := ((ps.zipIdx 0).filter fun p => !decide (lv α ps.length (RN α ps) < p.1)).map fun p => p.2
theorem noes_len {α : Rat} {ps : List Rat} (h0 : 0 ≤ α) : (noesL α ps).length = RN α ps := by
  have h := (rn_spec α ps).cnt_eq h0
  unfold noesL
  rw [List.length_map, ← List.countP_eq_length_filter]
  have e : (ps.zipIdx 0).countP (fun p => !decide (lv α ps.length (RN α ps) < p.1)) = ((ps.zipIdx 0).map fun p => p.1).countP (fun p => decide (p ≤ lv α ps.length (RN α ps))) := by
    rw [List.countP_map]
    refine List.countP_congr fun p _ => ?_
    simp only [Function.comp_def, Bool.not_eq_true', decide_eq_false_iff_not, decide_eq_true_eq, Rat.not_lt]
  rw [e]
  have e2 : (ps.zipIdx 0).map (fun p => p.1) = ps := List.zipIdx_map_fst 0 ps
  rw [e2]
  exact h
def mine (ps : List Rat) (k : Nat) : Rat := cap (lv ((srt ps).getD k 0) (k + 1) ps.length)
def LS (ps : List Rat) (a : Nat) : Rat := minL 1 (((List.range' a (ps.length - a)).reverse).map (mine ps))
theorem LS_step {ps : List Rat} {a : Nat} (h : a < ps.length) : LS ps a = minF (LS ps (a + 1)) (mine ps a) := by
  unfold LS
  have e : ps.length - a = (ps.length - (a + 1)) + 1 := by omega
  rw [e, List.range'_succ, List.reverse_cons, List.map_append]
  unfold minL
  rw [List.foldl_append]
  rfl
theorem LS_end {ps : List Rat} : LS ps ps.length = 1 := by
  unfold LS
  rw [Nat.sub_self]
  rfl
theorem lv_le {p α : Rat} {m k : Nat} (hm : 1 ≤ m) (hk : 1 ≤ k) : lv p k m ≤ α ↔ p ≤ lv α m k := by
  have hm0 : (0 : Rat) < (m : Rat) := Rat.natCast_pos.mpr hm
  have hk0 : (0 : Rat) < (k : Rat) := Rat.natCast_pos.mpr hk
  constructor
  · intro h
    unfold lv at h ⊢
    refine le_div hm0 ?_
    by_cases c : p * (m : Rat) ≤ α * (k : Rat)
    · exact c
    · exfalso
      have c : α * (k : Rat) < p * (m : Rat) := by grind
      have := (Rat.lt_div_iff hk0).mpr c
      grind
  · intro h
    unfold lv at h ⊢
    by_cases c : p * (m : Rat) / (k : Rat) ≤ α
    · exact c
    · exfalso
      have c : α < p * (m : Rat) / (k : Rat) := by grind
      have c2 := (Rat.lt_div_iff hk0).mp c
      have := (Rat.lt_div_iff (a := p) (b := α * (k : Rat)) hm0)
      have h3 : ¬ (α * (k : Rat) / (m : Rat) < p) := by grind
      exact h3 ((Rat.div_lt_iff hm0).mpr c2)
theorem cap_le {x α : Rat} : cap x ≤ α ↔ x ≤ α ∨ 1 ≤ α := by
  unfold cap
  by_cases h : x < 1
  · rw [if_pos h]; grind
  · rw [if_neg h]; grind
theorem step_iff {α p : Rat} {ps : List Rat} {a : Nat} (h0 : 0 ≤ α) (h1 : α ≤ 1) (hps : ∀ q ∈ ps, q ≤ 1) (ha : (srt ps)[a]? = some p) : LS ps a ≤ α ↔ p ≤ lv α ps.length (RN α ps) := by
  have R := rn_spec α ps
  have hc := R.cnt_eq h0
  have hal : a < ps.length := by
    have := (List.getElem?_eq_some_iff.mp ha).1
    rw [srt_len] at this
    exact this
  have hget : ∀ k, k < ps.length → (srt ps)[k]? = some ((srt ps).getD k 0) := fun k hk => by
    rw [List.getD_eq_getElem?_getD, List.getElem?_eq_getElem (by rw [srt_len]; exact hk)]
    rfl
  obtain ⟨g1, g2, g3⟩ := minL_le (f := 1) (qs := ((List.range' a (ps.length - a)).reverse).map (mine ps))
  constructor
  · intro h
    by_cases hα : 1 ≤ α
    · have e : α = 1 := by grind
      have hm : RN α ps = ps.length := by
        by_cases hlt : RN α ps < ps.length
        · exfalso
          have h2 := R.up ps.length hlt (Nat.le_refl _)
          have hl : lv α ps.length ps.length = 1 := by
            rw [e]
            unfold lv
            rw [Rat.one_mul]
            have : ((ps.length : Nat) : Rat) ≠ 0 := by
              intro z
              have : ps.length = 0 := by exact_mod_cast z
              omega
            rw [Rat.div_def, Rat.mul_inv_cancel _ this]
          rw [hl] at h2
          have h3 : cnt ps 1 = ps.length := by
            unfold cnt
            exact List.countP_eq_length.mpr fun q hq => decide_eq_true (hps q hq)
          omega
        · have := R.le
          omega
      exact (srt_cnt ha).mpr (by rw [hc, hm]; exact hal)
    · have hx : ∃ k, a ≤ k ∧ k < ps.length ∧ mine ps k ≤ α := by
        rcases g3 with z | z
        · exfalso
          have : LS ps a = 1 := z
          grind
        · obtain ⟨k, hk, e⟩ := List.mem_map.mp z
          have hk := List.mem_reverse.mp hk
          obtain ⟨hk1, hk2⟩ := List.mem_range'_1.mp hk
          refine ⟨k, hk1, by omega, ?_⟩
          rw [e]
          exact h
      obtain ⟨k, hk1, hk2, hk3⟩ := hx
      unfold mine at hk3
      rcases cap_le.mp hk3 with z | z
      · have z := (lv_le (by omega) (by omega)).mp z
        have h2 := (srt_cnt (hget k hk2)).mp z
        have h3 : k + 1 ≤ RN α ps := by
          by_cases hlt : RN α ps < k + 1
          · have := R.up (k + 1) hlt (by omega)
            omega
          · omega
        exact (srt_cnt ha).mpr (by rw [hc]; omega)
      · exact absurd z hα
  · intro h
    have h2 := (srt_cnt ha).mp h
    rw [hc] at h2
    have hk : RN α ps - 1 < ps.length := by have := R.le; omega
    have hmin : mine ps (RN α ps - 1) ≤ α := by
      unfold mine
      refine cap_le.mpr (.inl ?_)
      have e : RN α ps - 1 + 1 = RN α ps := by omega
      rw [e]
      refine (lv_le (by omega) (by omega)).mpr ?_
      exact (srt_cnt (hget _ hk)).mpr (by rw [hc]; omega)
    refine Rat.le_trans (g2 _ ?_) hmin
    refine List.mem_map.mpr ⟨RN α ps - 1, List.mem_reverse.mpr (List.mem_range'_1.mpr ⟨by omega, by omega⟩), rfl⟩
end MQ
namespace LW
open PySem PySem.Spec PyProof.Rows L2 MP
abbrev f_is_tuple : Nat := 0
abbrev f_is_whole : Nat := 1
abbrev f_is_integer : Nat := 2
abbrev f_common_of : Nat := 3
abbrev f_whole_power : Nat := 4
abbrev f_is_size : Nat := 5
abbrev f_is_fraction : Nat := 6
abbrev f_is_share : Nat := 7
abbrev f_check_share : Nat := 8
abbrev f_ratio_of : Nat := 9
abbrev f_plus_of : Nat := 10
abbrev f_is_below : Nat := 11
abbrev f_least_of : Nat := 12
abbrev f_total_of : Nat := 13
abbrev f_is_family : Nat := 14
abbrev f_check_family : Nat := 15
abbrev f_capped : Nat := 16
abbrev f_in_turn : Nat := 17
abbrev f_stepped_up : Nat := 18
abbrev f_fine_steps : Nat := 19
abbrev f_step_ps : Nat := 20
abbrev f_slower : Nat := 21
abbrev f_wrong_part : Nat := 22
abbrev f_ways_of : Nat := 23
abbrev f_check_many : Nat := 24
abbrev f_chances_of : Nat := 25
abbrev f_check_point : Nat := 26
abbrev f_table_up : Nat := 27
abbrev f__law_pot : Nat := 28
abbrev f__law_take : Nat := 29
abbrev f__law_of : Nat := 30
abbrev f__law_places : Nat := 31
abbrev f__law_gcd : Nat := 32
abbrev f__law_ratio : Nat := 33
abbrev f__law_plus : Nat := 34
abbrev f__law_times : Nat := 35
abbrev f__law_below : Nat := 36
abbrev f__law_total : Nat := 37
abbrev f__law_power : Nat := 38
abbrev f__law_choose : Nat := 39
abbrev f__law_share : Nat := 40
abbrev f__law_row_at : Nat := 41
abbrev f__law_row_of : Nat := 42
abbrev f__law_chance : Nat := 43
abbrev f__law_least : Nat := 44
abbrev f__law_rising : Nat := 45
abbrev f__law_no_more : Nat := 46
abbrev f__law_outcomes : Nat := 47
abbrev f__law_likely : Nat := 48
abbrev f__law_own_up : Nat := 49
abbrev f__law_parts : Nat := 50
abbrev f__law_right : Nat := 51
abbrev f__law_over_steps : Nat := 52
abbrev f_law : Nat := 53
abbrev c_PAIR : Val := (.int 2)
abbrev c_MOST_SIZE : Val := (.int (Int.ofNat (10 ^ 3000)))
abbrev c_NOUGHT : Val := (.tup [(.int 0), (.int 1)])
abbrev c_MOST_CLAIMS : Val := (.int 8)
abbrev c_ONE_many : Val := (.tup [(.int 1), (.int 1)])
abbrev c_ZERO : Val := (.tup [(.int 0), (.int 1)])
abbrev c_ONE_wrongshares : Val := (.tup [(.int 1), (.int 1)])
abbrev c_MOST_COIN : Val := (.int 60)
def b_is_tuple : Sms := (.cons (.ret (.and (.isi (.var 0) .tuple) (.chain .le .le (.var 1) (.blt .len (.var 0)) (.var 2))))
    .nil)
abbrev n_is_tuple : Fn := ⟨3, 3, b_is_tuple⟩
def b_is_whole : Sms := (.cons (.ret (.and (.isi (.var 0) .int) (.not (.isi (.var 0) .bool))))
    .nil)
abbrev n_is_whole : Fn := ⟨1, 1, b_is_whole⟩
def b_is_integer : Sms := (.cons (.ret (.and (.pcall false f_is_whole (.cons (.var 0) .nil)) (.chain .le .le (.var 1) (.var 0) (.var 2))))
    .nil)
abbrev n_is_integer : Fn := ⟨3, 3, b_is_integer⟩
def b_common_of : Sms := (.cons (.whl (.cmp .ne (.var 1) (.cst (.int 0)))
      (.cons (.asgs [0, 1] (.cons (.var 1) (.cons (.op .mod (.var 0) (.var 1)) .nil)))
    .nil))
    (.cons (.ret (.blt .abs (.var 0)))
    .nil))
abbrev n_common_of : Fn := ⟨2, 2, b_common_of⟩
def b_whole_power : Sms := (.cons (.asg (.nm 2) (.cst (.int 1)))
    (.cons (.fr (.nm 3) (.rng1 (.var 1))
      (.cons (.asg (.nm 2) (.op .mul (.var 2) (.var 0)))
    .nil))
    (.cons (.ret (.var 2))
    .nil)))
abbrev n_whole_power : Fn := ⟨2, 4, b_whole_power⟩
def b_is_size : Sms := (.cons (.ret (.and (.pcall false f_is_whole (.cons (.var 0) .nil)) (.chain .lt .lt (.neg (.cst c_MOST_SIZE)) (.var 0) (.cst c_MOST_SIZE))))
    .nil)
abbrev n_is_size : Fn := ⟨1, 1, b_is_size⟩
def b_is_fraction : Sms := (.cons (.ite (.or (.not (.pcall false f_is_tuple (.cons (.var 0) (.cons (.cst c_PAIR) (.cons (.cst c_PAIR) .nil))))) (.not (.blt .all (.lc false (.pcall false f_is_size (.cons (.var 1) .nil)) (.nm 1) (.of (.var 0)) .non [1]))))
      (.cons (.ret (.cst (.bl false)))
    .nil)
      .nil)
    (.cons (.ret (.and (.cmp .gt (.idx (.var 0) (.cst (.int 1))) (.cst (.int 0))) (.cmp .eq (.pcall false f_common_of (.cons (.idx (.var 0) (.cst (.int 0))) (.cons (.idx (.var 0) (.cst (.int 1))) .nil))) (.cst (.int 1)))))
    .nil))
abbrev n_is_fraction : Fn := ⟨1, 2, b_is_fraction⟩
def b_is_share : Sms := (.cons (.ret (.and (.pcall false f_is_fraction (.cons (.var 0) .nil)) (.chain .le .le (.cst (.int 0)) (.idx (.var 0) (.cst (.int 0))) (.idx (.var 0) (.cst (.int 1))))))
    .nil)
abbrev n_is_share : Fn := ⟨1, 1, b_is_share⟩
def b_check_share : Sms := (.cons (.ite (.not (.pcall false f_is_share (.cons (.var 0) .nil)))
      (.cons (.rse 0 .err)
    .nil)
      .nil)
    .nil)
abbrev n_check_share : Fn := ⟨1, 1, b_check_share⟩
def b_ratio_of : Sms := (.cons (.asg (.nm 2) (.pcall false f_common_of (.cons (.var 0) (.cons (.var 1) .nil))))
    (.cons (.ite (.cmp .lt (.var 1) (.cst (.int 0)))
      (.cons (.asg (.nm 2) (.neg (.var 2)))
    .nil)
      .nil)
    (.cons (.ret (.tup (.cons (.op .fdiv (.var 0) (.var 2)) (.cons (.op .fdiv (.var 1) (.var 2)) .nil))))
    .nil)))
abbrev n_ratio_of : Fn := ⟨2, 3, b_ratio_of⟩
def b_plus_of : Sms := (.cons (.ret (.pcall false f_ratio_of (.cons (.op .add (.op .mul (.idx (.var 0) (.cst (.int 0))) (.idx (.var 1) (.cst (.int 1)))) (.op .mul (.idx (.var 1) (.cst (.int 0))) (.idx (.var 0) (.cst (.int 1))))) (.cons (.op .mul (.idx (.var 0) (.cst (.int 1))) (.idx (.var 1) (.cst (.int 1)))) .nil))))
    .nil)
abbrev n_plus_of : Fn := ⟨2, 2, b_plus_of⟩
def b_is_below : Sms := (.cons (.ret (.cmp .lt (.op .mul (.idx (.var 0) (.cst (.int 0))) (.idx (.var 1) (.cst (.int 1)))) (.op .mul (.idx (.var 1) (.cst (.int 0))) (.idx (.var 0) (.cst (.int 1))))))
    .nil)
abbrev n_is_below : Fn := ⟨2, 2, b_is_below⟩
def b_least_of : Sms := (.cons (.asg (.nm 1) (.idx (.var 0) (.cst (.int 0))))
    (.cons (.fr (.nm 2) (.of (.var 0))
      (.cons (.asg (.nm 1) (.ife (.pcall false f_is_below (.cons (.var 2) (.cons (.var 1) .nil))) (.var 2) (.var 1)))
    .nil))
    (.cons (.ret (.var 1))
    .nil)))
abbrev n_least_of : Fn := ⟨1, 3, b_least_of⟩
def b_total_of : Sms := (.cons (.asg (.nm 1) (.lst false (.star (.var 0) (.cons (.cst c_NOUGHT) .nil))))
    (.cons (.whl (.cmp .gt (.blt .len (.var 1)) (.cst (.int 1)))
      (.cons (.asg (.nm 2) (.ife (.cmp .eq (.op .mod (.blt .len (.var 1)) (.cst c_PAIR)) (.cst (.int 1))) (.sl (.var 1) (.som (.neg (.cst (.int 1)))) .non .non) (.lst false .nil)))
    (.cons (.asg (.nm 1) (.op .add (.lc false (.pcall false f_plus_of (.cons (.var 3) (.cons (.var 4) .nil))) (.tp [3, 4]) (.zip2 (.sl (.var 1) .non .non (.som (.cst c_PAIR))) (.sl (.var 1) (.som (.cst (.int 1))) .non (.som (.cst c_PAIR)))) .non [3, 4]) (.var 2)))
    .nil)))
    (.cons (.ret (.idx (.var 1) (.cst (.int 0))))
    .nil)))
abbrev n_total_of : Fn := ⟨1, 5, b_total_of⟩
def b_is_family : Sms := (.cons (.ret (.and (.pcall false f_is_tuple (.cons (.var 0) (.cons (.cst (.int 1)) (.cons (.cst c_MOST_CLAIMS) .nil)))) (.blt .all (.lc false (.pcall false f_is_share (.cons (.var 1) .nil)) (.nm 1) (.of (.var 0)) .non [1]))))
    .nil)
abbrev n_is_family : Fn := ⟨1, 2, b_is_family⟩
def b_check_family : Sms := (.cons (.ite (.not (.pcall false f_is_family (.cons (.var 0) .nil)))
      (.cons (.rse 0 .err)
    .nil)
      .nil)
    .nil)
abbrev n_check_family : Fn := ⟨1, 1, b_check_family⟩
def b_capped : Sms := (.cons (.ret (.ife (.pcall false f_is_below (.cons (.cst c_ONE_many) (.cons (.var 0) .nil))) (.cst c_ONE_many) (.var 0)))
    .nil)
abbrev n_capped : Fn := ⟨1, 1, b_capped⟩
def b_in_turn : Sms := (.cons (.asgs [1, 2] (.cons (.lq true (.of (.var 0))) (.cons (.lst true .nil) .nil)))
    (.cons (.whl (.cmp .ne (.var 1) (.lst false .nil))
      (.cons (.asg (.nm 3) (.pcall false f_least_of (.cons (.var 1) .nil)))
    (.cons (.exp (.app (.var 2) (.var 3)))
    (.cons (.exp (.rem (.var 1) (.var 3)))
    .nil))))
    (.cons (.ret (.var 2))
    .nil)))
abbrev n_in_turn : Fn := ⟨1, 4, b_in_turn⟩
def b_stepped_up : Sms := (.cons (.exp (.pcall false f_check_family (.cons (.var 0) .nil)))
    (.cons (.exp (.pcall false f_check_share (.cons (.var 1) .nil)))
    (.cons (.asg (.nm 2) (.pcall false f_fine_steps (.cons (.pcall false f_in_turn (.cons (.var 0) .nil)) (.cons (.var 1) (.cons (.blt .len (.var 0)) .nil)))))
    (.cons (.ite (.cmp .eq (.var 2) (.cst (.int 0)))
      (.cons (.ret (.tup .nil))
    .nil)
      .nil)
    (.cons (.asg (.nm 3) (.pcall false f_ratio_of (.cons (.op .mul (.idx (.var 1) (.cst (.int 0))) (.var 2)) (.cons (.op .mul (.idx (.var 1) (.cst (.int 1))) (.blt .len (.var 0))) .nil))))
    (.cons (.ret (.blt .tuple (.lc false (.var 4) (.tp [4, 5]) (.enum (.var 0)) (.som (.not (.pcall false f_is_below (.cons (.var 3) (.cons (.var 5) .nil))))) [4, 5])))
    .nil))))))
abbrev n_stepped_up : Fn := ⟨2, 6, b_stepped_up⟩
def b_fine_steps : Sms := (.cons (.asg (.nm 3) (.cst (.int 0)))
    (.cons (.fr (.tp [4, 5]) (.enum (.var 0))
      (.cons (.ite (.not (.pcall false f_is_below (.cons (.pcall false f_ratio_of (.cons (.op .mul (.idx (.var 1) (.cst (.int 0))) (.op .add (.var 4) (.cst (.int 1)))) (.cons (.op .mul (.idx (.var 1) (.cst (.int 1))) (.var 2)) .nil))) (.cons (.var 5) .nil))))
      (.cons (.asg (.nm 3) (.op .add (.var 4) (.cst (.int 1))))
    .nil)
      .nil)
    .nil))
    (.cons (.ret (.var 3))
    .nil)))
abbrev n_fine_steps : Fn := ⟨3, 6, b_fine_steps⟩
def b_step_ps : Sms := (.cons (.exp (.pcall false f_check_family (.cons (.var 0) .nil)))
    (.cons (.asgs [1, 2] (.cons (.pcall false f_in_turn (.cons (.var 0) .nil)) (.cons (.blt .len (.var 0)) .nil)))
    (.cons (.asgs [3, 4] (.cons (.lst true .nil) (.cons (.cst c_ONE_wrongshares) .nil)))
    (.cons (.fr (.nm 5) (.rng3 (.op .sub (.var 2) (.cst (.int 1))) (.neg (.cst (.int 1))) (.neg (.cst (.int 1))))
      (.cons (.asg (.tp [6, 7]) (.idx (.var 1) (.var 5)))
    (.cons (.asg (.nm 8) (.pcall false f_capped (.cons (.pcall false f_ratio_of (.cons (.op .mul (.var 6) (.var 2)) (.cons (.op .mul (.var 7) (.op .add (.var 5) (.cst (.int 1)))) .nil))) .nil)))
    (.cons (.asg (.nm 4) (.ife (.pcall false f_is_below (.cons (.var 8) (.cons (.var 4) .nil))) (.var 8) (.var 4)))
    (.cons (.exp (.app (.var 3) (.tup (.cons (.idx (.var 1) (.var 5)) (.cons (.var 4) .nil)))))
    .nil)))))
    (.gfz 3 (.cons (.ret (.blt .tuple (.lc false (.idx (.lc false (.var 11) (.tp [10, 11]) (.of (.var 3)) (.som (.cmp .eq (.var 10) (.var 9))) [10, 11]) (.neg (.cst (.int 1)))) (.nm 9) (.of (.var 0)) .non [9])))
    .nil))))))
abbrev n_step_ps : Fn := ⟨1, 12, b_step_ps⟩
def b_slower : Sms := (.cons (.exp (.pcall false f_check_share (.cons (.var 0) .nil)))
    (.cons (.ite (.not (.pcall false f_is_integer (.cons (.var 1) (.cons (.cst (.int 1)) (.cons (.cst (.int 8)) .nil)))))
      (.cons (.rse 0 .err)
    .nil)
      .nil)
    (.cons (.asgs [2, 3] (.cons (.cst (.int 0)) (.cons (.cst (.int 1)) .nil)))
    (.cons (.fr (.nm 4) (.rng2 (.cst (.int 1)) (.op .add (.var 1) (.cst (.int 1))))
      (.cons (.asg (.tp [2, 3]) (.pcall false f_ratio_of (.cons (.op .add (.op .mul (.var 2) (.var 4)) (.var 3)) (.cons (.op .mul (.var 3) (.var 4)) .nil))))
    .nil))
    (.cons (.ret (.pcall false f_ratio_of (.cons (.op .mul (.idx (.var 0) (.cst (.int 0))) (.var 3)) (.cons (.op .mul (.idx (.var 0) (.cst (.int 1))) (.var 2)) .nil))))
    .nil)))))
abbrev n_slower : Fn := ⟨2, 5, b_slower⟩
def b_wrong_part : Sms := (.cons (.asg (.nm 3) (.pcall false f_stepped_up (.cons (.var 0) (.cons (.var 2) .nil))))
    (.cons (.ite (.not (.pcall false f_is_integer (.cons (.var 1) (.cons (.cst (.int 0)) (.cons (.blt .len (.var 0)) .nil)))))
      (.cons (.rse 0 .err)
    .nil)
      .nil)
    (.cons (.ret (.ife (.cmp .ne (.var 3) (.tup .nil)) (.pcall false f_ratio_of (.cons (.blt .len (.lc false (.var 4) (.nm 4) (.of (.var 3)) (.som (.cmp .lt (.var 4) (.var 1))) [4])) (.cons (.blt .len (.var 3)) .nil))) (.cst c_ZERO)))
    .nil)))
abbrev n_wrong_part : Fn := ⟨3, 5, b_wrong_part⟩
def b_ways_of : Sms := (.cons (.asg (.nm 1) (.lst false (.cons (.cst (.int 1)) .nil)))
    (.cons (.fr (.nm 2) (.rng1 (.var 0))
      (.cons (.asg (.nm 1) (.lst false (.cons (.cst (.int 1)) (.star (.lc false (.op .add (.var 3) (.var 4)) (.tp [3, 4]) (.zip2 (.var 1) (.sl (.var 1) (.som (.cst (.int 1))) .non .non)) .non [3, 4]) (.cons (.cst (.int 1)) .nil)))))
    .nil))
    (.cons (.ret (.blt .tuple (.var 1)))
    .nil)))
abbrev n_ways_of : Fn := ⟨1, 5, b_ways_of⟩
def b_check_many : Sms := (.cons (.ite (.not (.pcall false f_is_integer (.cons (.var 0) (.cons (.cst (.int 1)) (.cons (.cst c_MOST_COIN) .nil)))))
      (.cons (.rse 0 .err)
    .nil)
      .nil)
    .nil)
abbrev n_check_many : Fn := ⟨1, 1, b_check_many⟩
def b_chances_of : Sms := (.cons (.asgs [2, 3, 4] (.cons (.idx (.var 1) (.cst (.int 0))) (.cons (.op .sub (.idx (.var 1) (.cst (.int 1))) (.idx (.var 1) (.cst (.int 0)))) (.cons (.pcall false f_whole_power (.cons (.idx (.var 1) (.cst (.int 1))) (.cons (.var 0) .nil))) .nil))))
    (.cons (.asg (.nm 5) (.lst true .nil))
    (.cons (.fr (.tp [6, 7]) (.enum (.pcall false f_ways_of (.cons (.var 0) .nil)))
      (.cons (.exp (.app (.var 5) (.pcall false f_ratio_of (.cons (.op .mul (.op .mul (.var 7) (.pcall false f_whole_power (.cons (.var 2) (.cons (.var 6) .nil)))) (.pcall false f_whole_power (.cons (.var 3) (.cons (.op .sub (.var 0) (.var 6)) .nil)))) (.cons (.var 4) .nil)))))
    .nil))
    (.cons (.ret (.blt .tuple (.var 5)))
    .nil))))
abbrev n_chances_of : Fn := ⟨2, 8, b_chances_of⟩
def b_check_point : Sms := (.cons (.exp (.pcall false f_check_many (.cons (.var 0) .nil)))
    (.cons (.exp (.pcall false f_check_share (.cons (.var 1) .nil)))
    .nil))
abbrev n_check_point : Fn := ⟨2, 2, b_check_point⟩
def b_table_up : Sms := (.cons (.exp (.pcall false f_check_point (.cons (.var 0) (.cons (.var 1) .nil))))
    (.cons (.asg (.nm 2) (.pcall false f_chances_of (.cons (.var 0) (.cons (.var 1) .nil))))
    (.cons (.ret (.blt .tuple (.lc false (.pcall false f_total_of (.cons (.sl (.var 2) (.som (.var 3)) .non .non) .nil)) (.nm 3) (.rng1 (.op .add (.var 0) (.cst (.int 1)))) .non [3])))
    .nil)))
abbrev n_table_up : Fn := ⟨2, 4, b_table_up⟩
def b__law_pot : Sms := (.cons (.asg (.nm 2) (.ife (.cmp .lt (.var 1) (.blt .len (.var 0))) (.idx (.var 0) (.var 1)) (.op .add (.op .add (.op .mod (.blt .sum (.sl (.var 0) .non (.som (.cst (.int 1))) .non)) (.cst (.int 1000003))) (.op .mul (.cst (.int 6131)) (.var 1))) (.cst (.int 431)))))
    (.cons (.asg (.nm 3) (.op .mul (.op .mod (.blt .int (.blt .abs (.var 2))) (.op .pow (.op .pow (.cst (.int 10)) (.cst (.int 60))) (.cst (.int 5)))) (.blt .int (.cmp .ge (.blt .abs (.var 2)) (.op .pow (.cst (.int 10)) (.cst (.int 18)))))))
    (.cons (.asg (.nm 4) (.op .mod (.blt .int (.var 2)) (.cst (.int 2305843009213693951))))
    (.cons (.ret (.lst true (.cons (.var 3) (.cons (.op .mod (.blt .int (.op .add (.op .add (.op .mul (.var 4) (.cst (.int 32029))) (.op .mul (.op .mul (.cst (.int 4441)) (.var 1)) (.var 1))) (.cst (.int 838)))) (.cst (.int 2305843009213693921))) (.cons (.cst (.int 0)) .nil)))))
    .nil))))
abbrev n__law_pot : Fn := ⟨2, 5, b__law_pot⟩
def b__law_take : Sms := (.cons (.ite (.cmp .gt (.idx (.var 0) (.cst (.int 0))) (.cst (.int 0)))
      (.cons (.asg (.nm 2) (.op .mod (.blt .int (.idx (.var 0) (.cst (.int 0)))) (.var 1)))
    (.cons (.seti (.var 0) (.cst (.int 0)) (.op .fdiv (.idx (.var 0) (.cst (.int 0))) (.var 1)))
    (.cons (.ret (.var 2))
    .nil)))
      .nil)
    (.cons (.seti (.var 0) (.cst (.int 2)) (.op .add (.idx (.var 0) (.cst (.int 2))) (.cst (.int 1))))
    (.cons (.asg (.nm 3) (.idx (.lst false (.cons (.cst (.int 2147483647)) (.cons (.cst (.int 2147483629)) (.cons (.cst (.int 2147483587)) (.cons (.cst (.int 2147483579)) (.cons (.cst (.int 2147483563)) .nil)))))) (.op .mod (.blt .int (.idx (.var 0) (.cst (.int 2)))) (.cst (.int 5)))))
    (.cons (.asg (.nm 4) (.op .mod (.blt .int (.op .pow (.blt .int (.op .add (.op .add (.idx (.var 0) (.cst (.int 1))) (.op .mul (.op .mul (.cst (.int 21467)) (.idx (.var 0) (.cst (.int 2)))) (.idx (.var 0) (.cst (.int 2))))) (.cst (.int 638)))) (.cst (.int 3)))) (.var 3)))
    (.cons (.asg (.nm 4) (.op .mod (.blt .int (.op .mul (.var 4) (.op .add (.op .mod (.blt .int (.var 4)) (.cst (.int 11027))) (.op .mul (.cst (.int 211)) (.idx (.var 0) (.cst (.int 2))))))) (.cst (.int 2305843009213693907))))
    (.cons (.ret (.op .mod (.blt .int (.op .fdiv (.var 4) (.cst (.int 157)))) (.var 1)))
    .nil))))))
abbrev n__law_take : Fn := ⟨2, 5, b__law_take⟩
def b__law_of : Sms := (.cons (.ret (.idx (.var 1) (.mcall f__law_take (.cons (.var 0) (.cons (.blt .len (.var 1)) .nil)))))
    .nil)
abbrev n__law_of : Fn := ⟨2, 2, b__law_of⟩
def b__law_places : Sms := (.cons (.ret (.lq false (.rng1 (.blt2 .max2 (.cst (.int 1)) (.blt2 .min2 (.var 1) (.blt .len (.var 0)))))))
    .nil)
abbrev n__law_places : Fn := ⟨2, 2, b__law_places⟩
def b__law_gcd : Sms := (.cons (.whl (.cmp .ne (.var 1) (.cst (.int 0)))
      (.cons (.asgs [0, 1] (.cons (.var 1) (.cons (.op .mod (.var 0) (.var 1)) .nil)))
    .nil))
    (.cons (.ret (.blt .abs (.var 0)))
    .nil))
abbrev n__law_gcd : Fn := ⟨2, 2, b__law_gcd⟩
def b__law_ratio : Sms := (.cons (.asg (.nm 2) (.op .mul (.pcall false f__law_gcd (.cons (.var 0) (.cons (.var 1) .nil))) (.ife (.cmp .gt (.var 1) (.cst (.int 0))) (.cst (.int 1)) (.neg (.cst (.int 1))))))
    (.cons (.ret (.tup (.cons (.op .fdiv (.var 0) (.var 2)) (.cons (.op .fdiv (.var 1) (.var 2)) .nil))))
    .nil))
abbrev n__law_ratio : Fn := ⟨2, 3, b__law_ratio⟩
def b__law_plus : Sms := (.cons (.ret (.pcall false f__law_ratio (.cons (.op .add (.op .mul (.idx (.var 0) (.cst (.int 0))) (.idx (.var 1) (.cst (.int 1)))) (.op .mul (.idx (.var 1) (.cst (.int 0))) (.idx (.var 0) (.cst (.int 1))))) (.cons (.op .mul (.idx (.var 0) (.cst (.int 1))) (.idx (.var 1) (.cst (.int 1)))) .nil))))
    .nil)
abbrev n__law_plus : Fn := ⟨2, 2, b__law_plus⟩
def b__law_times : Sms := (.cons (.ret (.pcall false f__law_ratio (.cons (.op .mul (.idx (.var 0) (.cst (.int 0))) (.idx (.var 1) (.cst (.int 0)))) (.cons (.op .mul (.idx (.var 0) (.cst (.int 1))) (.idx (.var 1) (.cst (.int 1)))) .nil))))
    .nil)
abbrev n__law_times : Fn := ⟨2, 2, b__law_times⟩
def b__law_below : Sms := (.cons (.ret (.cmp .lt (.op .mul (.idx (.var 0) (.cst (.int 0))) (.idx (.var 1) (.cst (.int 1)))) (.op .mul (.idx (.var 1) (.cst (.int 0))) (.idx (.var 0) (.cst (.int 1))))))
    .nil)
abbrev n__law_below : Fn := ⟨2, 2, b__law_below⟩
def b__law_total : Sms := (.cons (.asg (.nm 1) (.tup (.cons (.cst (.int 0)) (.cons (.cst (.int 1)) .nil))))
    (.cons (.fr (.nm 2) (.of (.var 0))
      (.cons (.asg (.nm 1) (.pcall false f__law_plus (.cons (.var 1) (.cons (.var 2) .nil))))
    .nil))
    (.cons (.ret (.var 1))
    .nil)))
abbrev n__law_total : Fn := ⟨1, 3, b__law_total⟩
def b__law_power : Sms := (.cons (.asg (.nm 2) (.cst (.int 1)))
    (.cons (.fr (.nm 3) (.rng1 (.var 1))
      (.cons (.asg (.nm 2) (.op .mul (.var 2) (.var 0)))
    .nil))
    (.cons (.ret (.var 2))
    .nil)))
abbrev n__law_power : Fn := ⟨2, 4, b__law_power⟩
def b__law_choose : Sms := (.cons (.asg (.nm 2) (.blt .int (.chain .le .le (.cst (.int 0)) (.var 1) (.var 0))))
    (.cons (.fr (.nm 3) (.rng1 (.var 1))
      (.cons (.asg (.nm 2) (.op .fdiv (.op .mul (.var 2) (.op .sub (.var 0) (.var 3))) (.op .add (.var 3) (.cst (.int 1)))))
    .nil))
    (.cons (.ret (.var 2))
    .nil)))
abbrev n__law_choose : Fn := ⟨2, 4, b__law_choose⟩
def b__law_share : Sms := (.cons (.asg (.nm 1) (.mcall f__law_of (.cons (.var 0) (.cons (.lst false (.cons (.cst (.int 1)) (.cons (.cst (.int 2)) (.cons (.cst (.int 2)) (.cons (.cst (.int 3)) (.cons (.cst (.int 4)) (.cons (.cst (.int 5)) (.cons (.cst (.int 6)) (.cons (.cst (.int 8)) (.cons (.cst (.int 10)) (.cons (.cst (.int 20)) (.cons (.cst (.int 100)) .nil)))))))))))) .nil))))
    (.cons (.ret (.pcall false f__law_ratio (.cons (.blt .int (.mcall f__law_take (.cons (.var 0) (.cons (.op .add (.var 1) (.cst (.int 1))) .nil)))) (.cons (.var 1) .nil))))
    .nil))
abbrev n__law_share : Fn := ⟨1, 2, b__law_share⟩
def b__law_row_at : Sms := (.cons (.asgs [2, 3, 4] (.cons (.idx (.var 0) (.cst (.int 0))) (.cons (.idx (.var 1) (.cst (.int 0))) (.cons (.op .sub (.idx (.var 1) (.cst (.int 1))) (.idx (.var 1) (.cst (.int 0)))) .nil))))
    (.cons (.asg (.nm 5) (.blt .sum (.lc false (.op .mul (.op .mul (.var 7) (.pcall false f__law_power (.cons (.var 3) (.cons (.var 6) .nil)))) (.pcall false f__law_power (.cons (.var 4) (.cons (.op .sub (.var 2) (.var 6)) .nil)))) (.tp [6, 7]) (.enum (.idx (.var 0) (.cst (.int 1)))) .non [6, 7])))
    (.cons (.ret (.pcall false f__law_ratio (.cons (.var 5) (.cons (.pcall false f__law_power (.cons (.idx (.var 1) (.cst (.int 1))) (.cons (.var 2) .nil))) .nil))))
    .nil)))
abbrev n__law_row_at : Fn := ⟨2, 8, b__law_row_at⟩
def b__law_row_of : Sms := (.cons (.ret (.tup (.cons (.var 0) (.cons (.blt .tuple (.lc false (.ife (.cmp .in_ (.var 2) (.var 1)) (.pcall false f__law_choose (.cons (.var 0) (.cons (.var 2) .nil))) (.cst (.int 0))) (.nm 2) (.rng1 (.op .add (.var 0) (.cst (.int 1)))) .non [2])) .nil))))
    .nil)
abbrev n__law_row_of : Fn := ⟨2, 3, b__law_row_of⟩
def b__law_chance : Sms := (.cons (.ret (.pcall false f__law_row_at (.cons (.pcall false f__law_row_of (.cons (.var 0) (.cons (.var 1) .nil))) (.cons (.var 2) .nil))))
    .nil)
abbrev n__law_chance : Fn := ⟨3, 3, b__law_chance⟩
def b__law_least : Sms := (.cons (.asg (.nm 1) (.idx (.var 0) (.cst (.int 0))))
    (.cons (.fr (.nm 2) (.of (.sl (.var 0) (.som (.cst (.int 1))) .non .non))
      (.cons (.asg (.nm 1) (.ife (.pcall false f__law_below (.cons (.var 2) (.cons (.var 1) .nil))) (.var 2) (.var 1)))
    .nil))
    (.cons (.ret (.var 1))
    .nil)))
abbrev n__law_least : Fn := ⟨1, 3, b__law_least⟩
def b__law_rising : Sms := (.cons (.asgs [1, 2] (.cons (.lq true (.of (.var 0))) (.cons (.lst true .nil) .nil)))
    (.cons (.whl (.cmp .ne (.var 1) (.lst false .nil))
      (.cons (.asg (.nm 3) (.pcall false f__law_least (.cons (.var 1) .nil)))
    (.cons (.exp (.app (.var 2) (.var 3)))
    (.cons (.exp (.rem (.var 1) (.var 3)))
    .nil))))
    (.cons (.ret (.var 2))
    .nil)))
abbrev n__law_rising : Fn := ⟨1, 4, b__law_rising⟩
def b__law_no_more : Sms := (.cons (.ret (.not (.pcall false f__law_below (.cons (.var 1) (.cons (.var 0) .nil)))))
    .nil)
abbrev n__law_no_more : Fn := ⟨2, 2, b__law_no_more⟩
def b__law_outcomes : Sms := (.cons (.asg (.nm 1) (.lst false (.cons (.tup .nil) .nil)))
    (.cons (.fr (.nm 2) (.of (.var 0))
      (.cons (.asg (.nm 3) (.lst true .nil))
    (.cons (.fr (.nm 4) (.of (.var 1))
      (.cons (.exp (.ext (.var 3) (.lc false (.op .add (.var 4) (.tup (.cons (.var 5) .nil))) (.nm 5) (.rng1 (.op .add (.var 2) (.cst (.int 1)))) .non [5])))
    .nil))
    (.cons (.asg (.nm 1) (.frz (.var 3)))
    .nil))))
    (.cons (.ret (.var 1))
    .nil)))
abbrev n__law_outcomes : Fn := ⟨1, 6, b__law_outcomes⟩
def b__law_likely : Sms := (.cons (.asg (.nm 3) (.tup (.cons (.cst (.int 1)) (.cons (.cst (.int 1)) .nil))))
    (.cons (.fr (.tp [4, 5, 6]) (.of (.lq false (.zip3 (.var 0) (.var 1) (.var 2))))
      (.cons (.asg (.nm 3) (.pcall false f__law_times (.cons (.var 3) (.cons (.pcall false f__law_chance (.cons (.var 4) (.cons (.lst false (.cons (.var 5) .nil)) (.cons (.var 6) .nil)))) .nil))))
    .nil))
    (.cons (.ret (.var 3))
    .nil)))
abbrev n__law_likely : Fn := ⟨3, 7, b__law_likely⟩
def b__law_own_up : Sms := (.cons (.asgs [2, 3] (.cons (.pcall false f__law_rising (.cons (.var 0) .nil)) (.cons (.tup (.cons (.neg (.cst (.int 1))) (.cons (.cst (.int 1)) .nil))) .nil)))
    (.cons (.fr (.tp [4, 5]) (.enum (.var 2))
      (.cons (.asg (.nm 6) (.pcall false f__law_ratio (.cons (.op .mul (.idx (.var 1) (.cst (.int 0))) (.op .add (.var 4) (.cst (.int 1)))) (.cons (.op .mul (.idx (.var 1) (.cst (.int 1))) (.blt .len (.var 0))) .nil))))
    (.cons (.asg (.nm 3) (.ife (.pcall false f__law_no_more (.cons (.var 5) (.cons (.var 6) .nil))) (.var 6) (.var 3)))
    .nil)))
    (.cons (.ret (.blt .tuple (.lc false (.var 4) (.tp [4, 5]) (.enum (.var 0)) (.som (.pcall false f__law_no_more (.cons (.var 5) (.cons (.var 3) .nil)))) [4, 5])))
    .nil)))
abbrev n__law_own_up : Fn := ⟨2, 7, b__law_own_up⟩
def b__law_parts : Sms := (.cons (.asg (.nm 6) (.tup (.cons (.cst (.int 0)) (.cons (.cst (.int 1)) .nil))))
    (.cons (.fr (.nm 7) (.of (.pcall false f__law_outcomes (.cons (.var 1) .nil)))
      (.cons (.asg (.nm 8) (.ife (.var 5) (.op .mul (.blt .list (.var 7)) (.blt .len (.var 0))) (.blt .list (.var 7))))
    (.cons (.asg (.nm 9) (.blt .tuple (.lc false (.idx (.var 14) (.var 15)) (.tp [14, 15]) (.of (.lq false (.zip2 (.var 0) (.var 8)))) .non [14, 15])))
    (.cons (.asgs [10, 11] (.cons (.pcall false f_stepped_up (.cons (.var 9) (.cons (.var 4) .nil))) (.cons (.pcall false f_step_ps (.cons (.var 9) .nil)) .nil)))
    (.cons (.ite (.cmp .ne (.var 10) (.pcall false f__law_own_up (.cons (.var 9) (.cons (.var 4) .nil))))
      (.cons (.ret (.cst .non))
    .nil)
      .nil)
    (.cons (.ite (.cmp .ne (.var 10) (.blt .tuple (.lc false (.var 16) (.tp [16, 17]) (.enum (.var 11)) (.som (.pcall false f__law_no_more (.cons (.var 17) (.cons (.var 4) .nil)))) [16, 17])))
      (.cons (.ret (.cst .non))
    .nil)
      .nil)
    (.cons (.asg (.nm 12) (.blt .len (.lc false (.var 17) (.nm 17) (.of (.var 10)) (.som (.cmp .lt (.var 17) (.var 3))) [17])))
    (.cons (.asg (.nm 13) (.ife (.cmp .ne (.var 10) (.tup .nil)) (.pcall false f__law_ratio (.cons (.var 12) (.cons (.blt .len (.var 10)) .nil))) (.tup (.cons (.cst (.int 0)) (.cons (.cst (.int 1)) .nil)))))
    (.cons (.ite (.cmp .ne (.pcall false f_wrong_part (.cons (.var 9) (.cons (.var 3) (.cons (.var 4) .nil)))) (.var 13))
      (.cons (.ret (.cst .non))
    .nil)
      .nil)
    (.cons (.asg (.nm 6) (.pcall false f__law_plus (.cons (.var 6) (.cons (.pcall false f__law_times (.cons (.var 13) (.cons (.pcall false f__law_likely (.cons (.var 1) (.cons (.var 7) (.cons (.var 2) .nil)))) .nil))) .nil))))
    .nil))))))))))
    (.cons (.ret (.var 6))
    .nil)))
abbrev n__law_parts : Fn := ⟨6, 18, b__law_parts⟩
def b__law_right : Sms := (.cons (.asgs [1, 2] (.cons (.cmp .eq (.mcall f__law_take (.cons (.var 0) (.cons (.cst (.int 3)) .nil))) (.cst (.int 0))) (.cons (.op .add (.cst (.int 2)) (.blt .int (.mcall f__law_take (.cons (.var 0) (.cons (.cst (.int 2)) .nil))))) .nil)))
    (.cons (.asg (.nm 3) (.blt .int (.mcall f__law_take (.cons (.var 0) (.cons (.op .add (.var 2) (.cst (.int 1))) .nil)))))
    (.cons (.asg (.nm 4) (.ife (.var 1) (.lst false (.cons (.op .add (.cst (.int 1)) (.blt .int (.mcall f__law_take (.cons (.var 0) (.cons (.cst (.int 4)) .nil))))) .nil)) (.lc false (.op .add (.cst (.int 1)) (.blt .int (.mcall f__law_take (.cons (.var 0) (.cons (.cst (.int 3)) .nil))))) (.nm 14) (.rng1 (.var 2)) .non [14])))
    (.cons (.asg (.nm 5) (.lc false (.mcall f__law_share (.cons (.var 0) .nil)) (.nm 15) (.of (.var 4)) .non [15]))
    (.cons (.asgs [6, 7] (.cons (.ife (.var 1) (.op .mul (.var 5) (.var 2)) (.var 5)) (.cons (.lst true .nil) .nil)))
    (.cons (.fr (.nm 8) (.rng1 (.var 2))
      (.cons (.asg (.nm 9) (.lc false (.var 15) (.nm 15) (.of (.op .add (.lc false (.mcall f__law_share (.cons (.var 0) .nil)) (.nm 14) (.rng1 (.cst (.int 4))) .non [14]) (.lst false (.cons (.idx (.var 6) (.var 8)) .nil)))) (.som (.cmp .eq (.pcall false f__law_no_more (.cons (.idx (.var 6) (.var 8)) (.cons (.var 15) .nil))) (.cmp .lt (.var 8) (.var 3)))) [15]))
    (.cons (.exp (.app (.var 7) (.ife (.cmp .ne (.var 9) (.lst false .nil)) (.idx (.var 9) (.cst (.int 0))) (.idx (.var 6) (.var 8)))))
    .nil)))
    (.gfz 7 (.cons (.asg (.nm 3) (.blt .len (.lc false (.var 8) (.nm 8) (.rng1 (.var 3)) (.som (.pcall false f__law_no_more (.cons (.idx (.var 6) (.var 8)) (.cons (.idx (.var 7) (.var 8)) .nil)))) [8])))
    (.cons (.asg (.nm 10) (.lc false (.pcall false f_table_up (.cons (.ife (.var 1) (.idx (.var 4) (.cst (.int 0))) (.idx (.var 4) (.var 8))) (.cons (.var 16) .nil))) (.tp [8, 16]) (.enum (.var 7)) .non [8, 16]))
    (.cons (.asg (.nm 11) (.mcall f__law_of (.cons (.var 0) (.cons (.lst false (.cons (.tup (.cons (.cst (.int 1)) (.cons (.cst (.int 20)) .nil))) (.cons (.tup (.cons (.cst (.int 1)) (.cons (.cst (.int 5)) .nil))) (.cons (.tup (.cons (.cst (.int 1)) (.cons (.cst (.int 2)) .nil))) (.cons (.tup (.cons (.cst (.int 1)) (.cons (.cst (.int 1)) .nil))) .nil))))) .nil))))
    (.cons (.asg (.nm 12) (.ife (.var 1) (.pcall false f_slower (.cons (.var 11) (.cons (.var 2) .nil))) (.var 11)))
    (.cons (.asg (.nm 13) (.pcall false f__law_parts (.cons (.var 10) (.cons (.var 4) (.cons (.var 5) (.cons (.var 3) (.cons (.var 12) (.cons (.var 1) .nil))))))))
    (.cons (.ite (.or (.cmp .isN (.var 13) (.cst .non)) (.pcall false f__law_below (.cons (.pcall false f__law_ratio (.cons (.op .mul (.idx (.var 11) (.cst (.int 0))) (.var 3)) (.cons (.op .mul (.idx (.var 11) (.cst (.int 1))) (.var 2)) .nil))) (.cons (.var 13) .nil))))
      (.cons (.ret (.cst (.bl false)))
    .nil)
      .nil)
    (.cons (.ret (.cmp .eq (.pcall false f_slower (.cons (.var 11) (.cons (.var 2) .nil))) (.pcall false f__law_times (.cons (.var 11) (.cons (.pcall false f__law_over_steps (.cons (.var 2) .nil)) .nil)))))
    .nil))))))))))))))
abbrev n__law_right : Fn := ⟨1, 17, b__law_right⟩
def b__law_over_steps : Sms := (.cons (.asg (.nm 1) (.pcall false f__law_total (.cons (.lc false (.tup (.cons (.cst (.int 1)) (.cons (.var 2) .nil))) (.nm 2) (.rng2 (.cst (.int 1)) (.op .add (.var 0) (.cst (.int 1)))) .non [2]) .nil)))
    (.cons (.ret (.tup (.cons (.idx (.var 1) (.cst (.int 1))) (.cons (.idx (.var 1) (.cst (.int 0))) .nil))))
    .nil))
abbrev n__law_over_steps : Fn := ⟨1, 3, b__law_over_steps⟩
def b_law : Sms := (.cons (.fr (.nm 1) (.of (.pcall false f__law_places (.cons (.var 0) (.cons (.cst (.int 3)) .nil))))
      (.cons (.asg (.nm 2) (.pcall true f__law_pot (.cons (.var 0) (.cons (.var 1) .nil))))
    (.cons (.ite (.not (.blt .all (.lc false (.mcall f__law_right (.cons (.var 2) .nil)) (.nm 3) (.rng1 (.cst (.int 3))) .non [3])))
      (.cons (.ret (.cst (.bl false)))
    .nil)
      .nil)
    .nil)))
    (.cons (.ret (.cst (.bl true)))
    .nil))
abbrev n_law : Fn := ⟨1, 4, b_law⟩
def top (i : Nat) : Stmt := PySem.Challenge.pw_neveroftener_k03_whole_wrong_parts_in_th.main.body.getD i (.Pass ⟨0, 0, 0, 0⟩)
abbrev d_is_tuple : PF := ⟨"is_tuple", n_is_tuple, ["value", "least", "most"], ["value", "least", "most"], defArgs (top 1), defBody (top 1), defScope (top 1)⟩
abbrev d_is_whole : PF := ⟨"is_whole", n_is_whole, ["value"], ["value"], defArgs (top 2), defBody (top 2), defScope (top 2)⟩
abbrev d_is_integer : PF := ⟨"is_integer", n_is_integer, ["value", "low", "high"], ["value", "low", "high"], defArgs (top 3), defBody (top 3), defScope (top 3)⟩
abbrev d_common_of : PF := ⟨"common_of", n_common_of, ["one", "other"], ["one", "other"], defArgs (top 13), defBody (top 13), defScope (top 13)⟩
abbrev d_whole_power : PF := ⟨"whole_power", n_whole_power, ["one", "many", "found", "lap"], ["one", "many"], defArgs (top 14), defBody (top 14), defScope (top 14)⟩
abbrev d_is_size : PF := ⟨"is_size", n_is_size, ["value"], ["value"], defArgs (top 15), defBody (top 15), defScope (top 15)⟩
abbrev d_is_fraction : PF := ⟨"is_fraction", n_is_fraction, ["value", "one"], ["value"], defArgs (top 16), defBody (top 16), defScope (top 16)⟩
abbrev d_is_share : PF := ⟨"is_share", n_is_share, ["value"], ["value"], defArgs (top 17), defBody (top 17), defScope (top 17)⟩
abbrev d_check_share : PF := ⟨"check_share", n_check_share, ["value"], ["value"], defArgs (top 18), defBody (top 18), defScope (top 18)⟩
abbrev d_ratio_of : PF := ⟨"ratio_of", n_ratio_of, ["top", "low", "share"], ["top", "low"], defArgs (top 19), defBody (top 19), defScope (top 19)⟩
abbrev d_plus_of : PF := ⟨"plus_of", n_plus_of, ["one", "other"], ["one", "other"], defArgs (top 20), defBody (top 20), defScope (top 20)⟩
abbrev d_is_below : PF := ⟨"is_below", n_is_below, ["one", "other"], ["one", "other"], defArgs (top 21), defBody (top 21), defScope (top 21)⟩
abbrev d_least_of : PF := ⟨"least_of", n_least_of, ["rows", "found", "one"], ["rows"], defArgs (top 22), defBody (top 22), defScope (top 22)⟩
abbrev d_total_of : PF := ⟨"total_of", n_total_of, ["rows", "level", "odd", "one", "other"], ["rows"], defArgs (top 23), defBody (top 23), defScope (top 23)⟩
abbrev d_is_family : PF := ⟨"is_family", n_is_family, ["value", "one"], ["value"], defArgs (top 27), defBody (top 27), defScope (top 27)⟩
abbrev d_check_family : PF := ⟨"check_family", n_check_family, ["family"], ["family"], defArgs (top 28), defBody (top 28), defScope (top 28)⟩
abbrev d_capped : PF := ⟨"capped", n_capped, ["one"], ["one"], defArgs (top 29), defBody (top 29), defScope (top 29)⟩
abbrev d_in_turn : PF := ⟨"in_turn", n_in_turn, ["rows", "left", "found", "best"], ["rows"], defArgs (top 30), defBody (top 30), defScope (top 30)⟩
abbrev d_stepped_up : PF := ⟨"stepped_up", n_stepped_up, ["family", "share", "many", "border", "one", "p"], ["family", "share"], defArgs (top 34), defBody (top 34), defScope (top 34)⟩
abbrev d_fine_steps : PF := ⟨"fine_steps", n_fine_steps, ["rows", "share", "whole", "best", "at", "p"], ["rows", "share", "whole"], defArgs (top 35), defBody (top 35), defScope (top 35)⟩
abbrev d_step_ps : PF := ⟨"step_ps", n_step_ps, ["family", "rows", "many", "found", "least", "at", "top", "low", "mine", "one", "row", "p"], ["family"], defArgs (top 36), defBody (top 36), defScope (top 36)⟩
abbrev d_slower : PF := ⟨"slower", n_slower, ["share", "many", "top", "low", "one"], ["share", "many"], defArgs (top 37), defBody (top 37), defScope (top 37)⟩
abbrev d_wrong_part : PF := ⟨"wrong_part", n_wrong_part, ["family", "so", "share", "noes", "one"], ["family", "so", "share"], defArgs (top 38), defBody (top 38), defScope (top 38)⟩
abbrev d_ways_of : PF := ⟨"ways_of", n_ways_of, ["many", "found", "lap", "here", "there"], ["many"], defArgs (top 40), defBody (top 40), defScope (top 40)⟩
abbrev d_check_many : PF := ⟨"check_many", n_check_many, ["many"], ["many"], defArgs (top 43), defBody (top 43), defScope (top 43)⟩
abbrev d_chances_of : PF := ⟨"chances_of", n_chances_of, ["many", "share", "yes", "no", "low", "found", "at", "ways"], ["many", "share"], defArgs (top 45), defBody (top 45), defScope (top 45)⟩
abbrev d_check_point : PF := ⟨"check_point", n_check_point, ["many", "share"], ["many", "share"], defArgs (top 46), defBody (top 46), defScope (top 46)⟩
abbrev d_table_up : PF := ⟨"table_up", n_table_up, ["many", "share", "chances", "yes"], ["many", "share"], defArgs (top 47), defBody (top 47), defScope (top 47)⟩
abbrev d__law_pot : PF := ⟨"_law_pot", n__law_pot, ["script", "place", "cell", "own", "small"], ["script", "place"], defArgs (top 49), defBody (top 49), defScope (top 49)⟩
abbrev d__law_take : PF := ⟨"_law_take", n__law_take, ["pot", "upto", "digit", "prime", "blend"], ["pot", "upto"], defArgs (top 50), defBody (top 50), defScope (top 50)⟩
abbrev d__law_of : PF := ⟨"_law_of", n__law_of, ["pot", "some"], ["pot", "some"], defArgs (top 51), defBody (top 51), defScope (top 51)⟩
abbrev d__law_places : PF := ⟨"_law_places", n__law_places, ["script", "most"], ["script", "most"], defArgs (top 52), defBody (top 52), defScope (top 52)⟩
abbrev d__law_gcd : PF := ⟨"_law_gcd", n__law_gcd, ["one", "other"], ["one", "other"], defArgs (top 53), defBody (top 53), defScope (top 53)⟩
abbrev d__law_ratio : PF := ⟨"_law_ratio", n__law_ratio, ["top", "low", "share"], ["top", "low"], defArgs (top 54), defBody (top 54), defScope (top 54)⟩
abbrev d__law_plus : PF := ⟨"_law_plus", n__law_plus, ["one", "other"], ["one", "other"], defArgs (top 55), defBody (top 55), defScope (top 55)⟩
abbrev d__law_times : PF := ⟨"_law_times", n__law_times, ["one", "other"], ["one", "other"], defArgs (top 56), defBody (top 56), defScope (top 56)⟩
abbrev d__law_below : PF := ⟨"_law_below", n__law_below, ["one", "other"], ["one", "other"], defArgs (top 57), defBody (top 57), defScope (top 57)⟩
abbrev d__law_total : PF := ⟨"_law_total", n__law_total, ["rows", "found", "one"], ["rows"], defArgs (top 58), defBody (top 58), defScope (top 58)⟩
abbrev d__law_power : PF := ⟨"_law_power", n__law_power, ["one", "many", "found", "lap"], ["one", "many"], defArgs (top 59), defBody (top 59), defScope (top 59)⟩
abbrev d__law_choose : PF := ⟨"_law_choose", n__law_choose, ["many", "some", "found", "at"], ["many", "some"], defArgs (top 60), defBody (top 60), defScope (top 60)⟩
abbrev d__law_share : PF := ⟨"_law_share", n__law_share, ["pot", "low"], ["pot"], defArgs (top 61), defBody (top 61), defScope (top 61)⟩
abbrev d__law_row_at : PF := ⟨"_law_row_at", n__law_row_at, ["row", "share", "many", "yes", "no", "top", "at", "number"], ["row", "share"], defArgs (top 62), defBody (top 62), defScope (top 62)⟩
abbrev d__law_row_of : PF := ⟨"_law_row_of", n__law_row_of, ["many", "region", "yes"], ["many", "region"], defArgs (top 63), defBody (top 63), defScope (top 63)⟩
abbrev d__law_chance : PF := ⟨"_law_chance", n__law_chance, ["many", "region", "share"], ["many", "region", "share"], defArgs (top 64), defBody (top 64), defScope (top 64)⟩
abbrev d__law_least : PF := ⟨"_law_least", n__law_least, ["rows", "best", "one"], ["rows"], defArgs (top 65), defBody (top 65), defScope (top 65)⟩
abbrev d__law_rising : PF := ⟨"_law_rising", n__law_rising, ["rows", "left", "found", "best"], ["rows"], defArgs (top 66), defBody (top 66), defScope (top 66)⟩
abbrev d__law_no_more : PF := ⟨"_law_no_more", n__law_no_more, ["one", "other"], ["one", "other"], defArgs (top 67), defBody (top 67), defScope (top 67)⟩
abbrev d__law_outcomes : PF := ⟨"_law_outcomes", n__law_outcomes, ["coins", "found", "many", "longer", "row", "yes"], ["coins"], defArgs (top 68), defBody (top 68), defScope (top 68)⟩
abbrev d__law_likely : PF := ⟨"_law_likely", n__law_likely, ["coins", "outcome", "hidden", "found", "many", "yes", "share"], ["coins", "outcome", "hidden"], defArgs (top 69), defBody (top 69), defScope (top 69)⟩
abbrev d__law_own_up : PF := ⟨"_law_own_up", n__law_own_up, ["family", "share", "rows", "best", "at", "one", "border"], ["family", "share"], defArgs (top 70), defBody (top 70), defScope (top 70)⟩
abbrev d__law_parts : PF := ⟨"_law_parts", n__law_parts, ["tables", "coins", "hidden", "so", "share", "is_one", "found", "outcome", "seen", "family", "noes", "steps", "wrong", "due", "table", "yes", "at", "one"], ["tables", "coins", "hidden", "so", "share", "is_one"], defArgs (top 71), defBody (top 71), defScope (top 71)⟩
abbrev d__law_right : PF := ⟨"_law_right", n__law_right, ["pot", "is_one", "many", "so", "coins", "hidden", "own", "doubts", "at", "some", "tables", "share", "asked", "found", "lap", "one", "doubt"], ["pot"], defArgs (top 72), defBody (top 72), defScope (top 72)⟩
abbrev d__law_over_steps : PF := ⟨"_law_over_steps", n__law_over_steps, ["many", "whole", "one"], ["many"], defArgs (top 73), defBody (top 73), defScope (top 73)⟩
abbrev d_law : PF := ⟨"law", n_law, ["script", "place", "pot", "lap"], ["script"], defArgs (top 74), defBody (top 74), defScope (top 74)⟩
def T : Tb := [d_is_tuple, d_is_whole, d_is_integer, d_common_of, d_whole_power, d_is_size, d_is_fraction, d_is_share, d_check_share, d_ratio_of, d_plus_of, d_is_below, d_least_of, d_total_of, d_is_family, d_check_family, d_capped, d_in_turn, d_stepped_up, d_fine_steps, d_step_ps, d_slower, d_wrong_part, d_ways_of, d_check_many, d_chances_of, d_check_point, d_table_up, d__law_pot, d__law_take, d__law_of, d__law_places, d__law_gcd, d__law_ratio, d__law_plus, d__law_times, d__law_below, d__law_total, d__law_power, d__law_choose, d__law_share, d__law_row_at, d__law_row_of, d__law_chance, d__law_least, d__law_rising, d__law_no_more, d__law_outcomes, d__law_likely, d__law_own_up, d__law_parts, d__law_right, d__law_over_steps, d_law]
def cs : List (Str × Cn) := [("PAIR", .int 2), ("MOST_SIZE", .int (Int.ofNat (10 ^ 3000))), ("NOUGHT", .tup [0, 1]), ("MOST_CLAIMS", .int 8), ("ONE_many", .tup [1, 1]), ("ZERO", .tup [0, 1]), ("ONE_wrongshares", .tup [1, 1]), ("MOST_COIN", .int 60)]
def free : List Str := ["len", "isinstance", "tuple", "int", "bool", "all", "abs", "range", "zip", "list", "enumerate", "sum", "max", "min"]
abbrev G : Glob := T.glob (cnV cs) free
theorem ok_is_tuple : PFok G d_is_tuple := ⟨by decide +kernel, fun _ _ _ _ _ _ us hl => match us, hl with | [_, _, _], _ => rfl⟩
theorem ok_is_whole : PFok G d_is_whole := ⟨by decide +kernel, fun _ _ _ _ _ _ us hl => match us, hl with | [_], _ => rfl⟩
theorem ok_is_integer : PFok G d_is_integer := ⟨by decide +kernel, fun _ _ _ _ _ _ us hl => match us, hl with | [_, _, _], _ => rfl⟩
theorem ok_common_of : PFok G d_common_of := ⟨by decide +kernel, fun _ _ _ _ _ _ us hl => match us, hl with | [_, _], _ => rfl⟩
theorem ok_whole_power : PFok G d_whole_power := ⟨by decide +kernel, fun _ _ _ _ _ _ us hl => match us, hl with | [_, _], _ => rfl⟩
theorem ok_is_size : PFok G d_is_size := ⟨by decide +kernel, fun _ _ _ _ _ _ us hl => match us, hl with | [_], _ => rfl⟩
theorem ok_is_fraction : PFok G d_is_fraction := ⟨by decide +kernel, fun _ _ _ _ _ _ us hl => match us, hl with | [_], _ => rfl⟩
theorem ok_is_share : PFok G d_is_share := ⟨by decide +kernel, fun _ _ _ _ _ _ us hl => match us, hl with | [_], _ => rfl⟩
theorem ok_check_share : PFok G d_check_share := ⟨by decide +kernel, fun _ _ _ _ _ _ us hl => match us, hl with | [_], _ => rfl⟩
theorem ok_ratio_of : PFok G d_ratio_of := ⟨by decide +kernel, fun _ _ _ _ _ _ us hl => match us, hl with | [_, _], _ => rfl⟩
theorem ok_plus_of : PFok G d_plus_of := ⟨by decide +kernel, fun _ _ _ _ _ _ us hl => match us, hl with | [_, _], _ => rfl⟩
theorem ok_is_below : PFok G d_is_below := ⟨by decide +kernel, fun _ _ _ _ _ _ us hl => match us, hl with | [_, _], _ => rfl⟩
theorem ok_least_of : PFok G d_least_of := ⟨by decide +kernel, fun _ _ _ _ _ _ us hl => match us, hl with | [_], _ => rfl⟩
theorem ok_total_of : PFok G d_total_of := ⟨by decide +kernel, fun _ _ _ _ _ _ us hl => match us, hl with | [_], _ => rfl⟩
theorem ok_is_family : PFok G d_is_family := ⟨by decide +kernel, fun _ _ _ _ _ _ us hl => match us, hl with | [_], _ => rfl⟩
theorem ok_check_family : PFok G d_check_family := ⟨by decide +kernel, fun _ _ _ _ _ _ us hl => match us, hl with | [_], _ => rfl⟩
theorem ok_capped : PFok G d_capped := ⟨by decide +kernel, fun _ _ _ _ _ _ us hl => match us, hl with | [_], _ => rfl⟩
theorem ok_in_turn : PFok G d_in_turn := ⟨by decide +kernel, fun _ _ _ _ _ _ us hl => match us, hl with | [_], _ => rfl⟩
theorem ok_stepped_up : PFok G d_stepped_up := ⟨by decide +kernel, fun _ _ _ _ _ _ us hl => match us, hl with | [_, _], _ => rfl⟩
theorem ok_fine_steps : PFok G d_fine_steps := ⟨by decide +kernel, fun _ _ _ _ _ _ us hl => match us, hl with | [_, _, _], _ => rfl⟩
theorem ok_step_ps : PFok G d_step_ps := ⟨by decide +kernel, fun _ _ _ _ _ _ us hl => match us, hl with | [_], _ => rfl⟩
theorem ok_slower : PFok G d_slower := ⟨by decide +kernel, fun _ _ _ _ _ _ us hl => match us, hl with | [_, _], _ => rfl⟩
theorem ok_wrong_part : PFok G d_wrong_part := ⟨by decide +kernel, fun _ _ _ _ _ _ us hl => match us, hl with | [_, _, _], _ => rfl⟩
theorem ok_ways_of : PFok G d_ways_of := ⟨by decide +kernel, fun _ _ _ _ _ _ us hl => match us, hl with | [_], _ => rfl⟩
theorem ok_check_many : PFok G d_check_many := ⟨by decide +kernel, fun _ _ _ _ _ _ us hl => match us, hl with | [_], _ => rfl⟩
theorem ok_chances_of : PFok G d_chances_of := ⟨by decide +kernel, fun _ _ _ _ _ _ us hl => match us, hl with | [_, _], _ => rfl⟩
theorem ok_check_point : PFok G d_check_point := ⟨by decide +kernel, fun _ _ _ _ _ _ us hl => match us, hl with | [_, _], _ => rfl⟩
theorem ok_table_up : PFok G d_table_up := ⟨by decide +kernel, fun _ _ _ _ _ _ us hl => match us, hl with | [_, _], _ => rfl⟩
theorem ok__law_pot : PFok G d__law_pot := ⟨by decide +kernel, fun _ _ _ _ _ _ us hl => match us, hl with | [_, _], _ => rfl⟩
theorem ok__law_take : PFok G d__law_take := ⟨by decide +kernel, fun _ _ _ _ _ _ us hl => match us, hl with | [_, _], _ => rfl⟩
theorem ok__law_of : PFok G d__law_of := ⟨by decide +kernel, fun _ _ _ _ _ _ us hl => match us, hl with | [_, _], _ => rfl⟩
theorem ok__law_places : PFok G d__law_places := ⟨by decide +kernel, fun _ _ _ _ _ _ us hl => match us, hl with | [_, _], _ => rfl⟩
theorem ok__law_gcd : PFok G d__law_gcd := ⟨by decide +kernel, fun _ _ _ _ _ _ us hl => match us, hl with | [_, _], _ => rfl⟩
theorem ok__law_ratio : PFok G d__law_ratio := ⟨by decide +kernel, fun _ _ _ _ _ _ us hl => match us, hl with | [_, _], _ => rfl⟩
theorem ok__law_plus : PFok G d__law_plus := ⟨by decide +kernel, fun _ _ _ _ _ _ us hl => match us, hl with | [_, _], _ => rfl⟩
theorem ok__law_times : PFok G d__law_times := ⟨by decide +kernel, fun _ _ _ _ _ _ us hl => match us, hl with | [_, _], _ => rfl⟩
theorem ok__law_below : PFok G d__law_below := ⟨by decide +kernel, fun _ _ _ _ _ _ us hl => match us, hl with | [_, _], _ => rfl⟩
theorem ok__law_total : PFok G d__law_total := ⟨by decide +kernel, fun _ _ _ _ _ _ us hl => match us, hl with | [_], _ => rfl⟩
theorem ok__law_power : PFok G d__law_power := ⟨by decide +kernel, fun _ _ _ _ _ _ us hl => match us, hl with | [_, _], _ => rfl⟩
theorem ok__law_choose : PFok G d__law_choose := ⟨by decide +kernel, fun _ _ _ _ _ _ us hl => match us, hl with | [_, _], _ => rfl⟩
theorem ok__law_share : PFok G d__law_share := ⟨by decide +kernel, fun _ _ _ _ _ _ us hl => match us, hl with | [_], _ => rfl⟩
theorem ok__law_row_at : PFok G d__law_row_at := ⟨by decide +kernel, fun _ _ _ _ _ _ us hl => match us, hl with | [_, _], _ => rfl⟩
theorem ok__law_row_of : PFok G d__law_row_of := ⟨by decide +kernel, fun _ _ _ _ _ _ us hl => match us, hl with | [_, _], _ => rfl⟩
theorem ok__law_chance : PFok G d__law_chance := ⟨by decide +kernel, fun _ _ _ _ _ _ us hl => match us, hl with | [_, _, _], _ => rfl⟩
theorem ok__law_least : PFok G d__law_least := ⟨by decide +kernel, fun _ _ _ _ _ _ us hl => match us, hl with | [_], _ => rfl⟩
theorem ok__law_rising : PFok G d__law_rising := ⟨by decide +kernel, fun _ _ _ _ _ _ us hl => match us, hl with | [_], _ => rfl⟩
theorem ok__law_no_more : PFok G d__law_no_more := ⟨by decide +kernel, fun _ _ _ _ _ _ us hl => match us, hl with | [_, _], _ => rfl⟩
theorem ok__law_outcomes : PFok G d__law_outcomes := ⟨by decide +kernel, fun _ _ _ _ _ _ us hl => match us, hl with | [_], _ => rfl⟩
theorem ok__law_likely : PFok G d__law_likely := ⟨by decide +kernel, fun _ _ _ _ _ _ us hl => match us, hl with | [_, _, _], _ => rfl⟩
theorem ok__law_own_up : PFok G d__law_own_up := ⟨by decide +kernel, fun _ _ _ _ _ _ us hl => match us, hl with | [_, _], _ => rfl⟩
theorem ok__law_parts : PFok G d__law_parts := ⟨by decide +kernel, fun _ _ _ _ _ _ us hl => match us, hl with | [_, _, _, _, _, _], _ => rfl⟩
theorem ok__law_right : PFok G d__law_right := ⟨by decide +kernel, fun _ _ _ _ _ _ us hl => match us, hl with | [_], _ => rfl⟩
theorem ok__law_over_steps : PFok G d__law_over_steps := ⟨by decide +kernel, fun _ _ _ _ _ _ us hl => match us, hl with | [_], _ => rfl⟩
theorem ok_law : PFok G d_law := ⟨by decide +kernel, fun _ _ _ _ _ _ us hl => match us, hl with | [_], _ => rfl⟩
theorem okNil {G : Glob} : ∀ d ∈ ([] : List PF), PFok G d := fun d h => nomatch h
theorem okCons {G : Glob} {e : PF} {L : List PF} (h : PFok G e) (t : ∀ d ∈ L, PFok G d) : ∀ d ∈ e :: L, PFok G d := fun d hd => by
  rcases List.mem_cons.mp hd with q | q
  · exact q ▸ h
  · exact t d q
theorem ok_all : ∀ d ∈ T, PFok G d := (okCons ok_is_tuple (okCons ok_is_whole (okCons ok_is_integer (okCons ok_common_of (okCons ok_whole_power (okCons ok_is_size (okCons ok_is_fraction (okCons ok_is_share (okCons ok_check_share (okCons ok_ratio_of (okCons ok_plus_of (okCons ok_is_below (okCons ok_least_of (okCons ok_total_of (okCons ok_is_family (okCons ok_check_family (okCons ok_capped (okCons ok_in_turn (okCons ok_stepped_up (okCons ok_fine_steps (okCons ok_step_ps (okCons ok_slower (okCons ok_wrong_part (okCons ok_ways_of (okCons ok_check_many (okCons ok_chances_of (okCons ok_check_point (okCons ok_table_up (okCons ok__law_pot (okCons ok__law_take (okCons ok__law_of (okCons ok__law_places (okCons ok__law_gcd (okCons ok__law_ratio (okCons ok__law_plus (okCons ok__law_times (okCons ok__law_below (okCons ok__law_total (okCons ok__law_power (okCons ok__law_choose (okCons ok__law_share (okCons ok__law_row_at (okCons ok__law_row_of (okCons ok__law_chance (okCons ok__law_least (okCons ok__law_rising (okCons ok__law_no_more (okCons ok__law_outcomes (okCons ok__law_likely (okCons ok__law_own_up (okCons ok__law_parts (okCons ok__law_right (okCons ok__law_over_steps (okCons ok_law okNil))))))))))))))))))))))))))))))))))))))))))))))))))))))
theorem g_at (n : Nat) : T.Γ n = (T[n]?).map PF.fn := rfl
theorem g_is_tuple : T.Γ f_is_tuple = some n_is_tuple := rfl
theorem g_is_whole : T.Γ f_is_whole = some n_is_whole := rfl
theorem g_is_integer : T.Γ f_is_integer = some n_is_integer := rfl
theorem g_common_of : T.Γ f_common_of = some n_common_of := rfl
theorem g_whole_power : T.Γ f_whole_power = some n_whole_power := rfl
theorem g_is_size : T.Γ f_is_size = some n_is_size := rfl
theorem g_is_fraction : T.Γ f_is_fraction = some n_is_fraction := rfl
theorem g_is_share : T.Γ f_is_share = some n_is_share := rfl
theorem g_check_share : T.Γ f_check_share = some n_check_share := rfl
theorem g_ratio_of : T.Γ f_ratio_of = some n_ratio_of := rfl
theorem g_plus_of : T.Γ f_plus_of = some n_plus_of := rfl
theorem g_is_below : T.Γ f_is_below = some n_is_below := rfl
theorem g_least_of : T.Γ f_least_of = some n_least_of := rfl
theorem g_total_of : T.Γ f_total_of = some n_total_of := rfl
theorem g_is_family : T.Γ f_is_family = some n_is_family := rfl
theorem g_check_family : T.Γ f_check_family = some n_check_family := rfl
theorem g_capped : T.Γ f_capped = some n_capped := rfl
theorem g_in_turn : T.Γ f_in_turn = some n_in_turn := rfl
theorem g_stepped_up : T.Γ f_stepped_up = some n_stepped_up := rfl
theorem g_fine_steps : T.Γ f_fine_steps = some n_fine_steps := rfl
theorem g_step_ps : T.Γ f_step_ps = some n_step_ps := rfl
theorem g_slower : T.Γ f_slower = some n_slower := rfl
theorem g_wrong_part : T.Γ f_wrong_part = some n_wrong_part := rfl
theorem g_ways_of : T.Γ f_ways_of = some n_ways_of := rfl
theorem g_check_many : T.Γ f_check_many = some n_check_many := rfl
theorem g_chances_of : T.Γ f_chances_of = some n_chances_of := rfl
theorem g_check_point : T.Γ f_check_point = some n_check_point := rfl
theorem g_table_up : T.Γ f_table_up = some n_table_up := rfl
theorem g__law_pot : T.Γ f__law_pot = some n__law_pot := rfl
theorem g__law_take : T.Γ f__law_take = some n__law_take := rfl
theorem g__law_of : T.Γ f__law_of = some n__law_of := rfl
theorem g__law_places : T.Γ f__law_places = some n__law_places := rfl
theorem g__law_gcd : T.Γ f__law_gcd = some n__law_gcd := rfl
theorem g__law_ratio : T.Γ f__law_ratio = some n__law_ratio := rfl
theorem g__law_plus : T.Γ f__law_plus = some n__law_plus := rfl
theorem g__law_times : T.Γ f__law_times = some n__law_times := rfl
theorem g__law_below : T.Γ f__law_below = some n__law_below := rfl
theorem g__law_total : T.Γ f__law_total = some n__law_total := rfl
theorem g__law_power : T.Γ f__law_power = some n__law_power := rfl
theorem g__law_choose : T.Γ f__law_choose = some n__law_choose := rfl
theorem g__law_share : T.Γ f__law_share = some n__law_share := rfl
theorem g__law_row_at : T.Γ f__law_row_at = some n__law_row_at := rfl
theorem g__law_row_of : T.Γ f__law_row_of = some n__law_row_of := rfl
theorem g__law_chance : T.Γ f__law_chance = some n__law_chance := rfl
theorem g__law_least : T.Γ f__law_least = some n__law_least := rfl
theorem g__law_rising : T.Γ f__law_rising = some n__law_rising := rfl
theorem g__law_no_more : T.Γ f__law_no_more = some n__law_no_more := rfl
theorem g__law_outcomes : T.Γ f__law_outcomes = some n__law_outcomes := rfl
theorem g__law_likely : T.Γ f__law_likely = some n__law_likely := rfl
theorem g__law_own_up : T.Γ f__law_own_up = some n__law_own_up := rfl
theorem g__law_parts : T.Γ f__law_parts = some n__law_parts := rfl
theorem g__law_right : T.Γ f__law_right = some n__law_right := rfl
theorem g__law_over_steps : T.Γ f__law_over_steps = some n__law_over_steps := rfl
theorem g_law : T.Γ f_law = some n_law := rfl
abbrev Rw : PySem.W.OpenRow := PySem.W.OpenLaw.row PySem.Challenge.rw_neveroftener_k03_whole_wrong_parts_in_th
abbrev hk : PySem.W.Hook := hookX 4 (tbC cs) (faOf T cs free) (T.map mkD)
def ob (s : PySem.W.SharedT) : He.AlD := obsXG 4 (tbC cs) (faOf T cs free) (T.map mkD) (HandSHeadRun.getT s)
theorem ob_eq (s : PySem.W.SharedT) : ob s = hk.obs s.abs := obsXG_eq (HandSHeadRun.getT_eq s)
def loose : List PySem.Str := (["is_tuple", "is_whole", "is_integer", "StudyError", "BadNumber", "BadShare", "BadFamily", "PAIR", "MOST_SIZE", "NOUGHT", "common_of", "whole_power", "is_size", "is_fraction", "is_share", "check_share", "ratio_of", "plus_of", "is_below", "least_of"] : List PySem.Str) ++ (["total_of", "MOST_CLAIMS", "ONE_many", "is_family", "check_family", "capped", "in_turn", "ZERO", "ONE_wrongshares", "stepped_up", "fine_steps", "step_ps", "slower", "wrong_part", "ways_of", "MOST_COIN", "check_many", "chances_of", "check_point", "table_up"] : List PySem.Str) ++ (["_law_pot", "_law_take", "_law_of", "_law_places", "_law_gcd", "_law_ratio", "_law_plus", "_law_times", "_law_below", "_law_total", "_law_power", "_law_choose", "_law_share", "_law_row_at", "_law_row_of", "_law_chance", "_law_least", "_law_rising", "_law_no_more", "_law_outcomes"] : List PySem.Str) ++ (["_law_likely", "_law_own_up", "_law_parts", "_law_right", "_law_over_steps"] : List PySem.Str)
theorem run (w : World) : HandSHeadRun.RunEq Rw (PySem.W.view Rw.prog [74]) hk ob 4000 loose w := by
  intro os
  kernel_rfl
end LW
namespace LW
open PySem PySem.Spec MP MQ
/-! ### fractions: what the package's functions answer -/
theorem p_is_whole {K : Nat} {i : Int} {m : Mem} : pcallR ⟨runF T.Γ (K+1)⟩ false f_is_whole [.int i] m = .ok (.bl true) m := by
  rfl
theorem p_is_integer {K : Nat} {i a b : Int} {m : Mem} : pcallR ⟨runF T.Γ (K+2)⟩ false f_is_integer [.int i, .int a, .int b] m = .ok (.bl (decide (a ≤ i) && decide (i ≤ b))) m := by
  refine pcall_id (.of (m := []) ?_ rfl) rfl
  rw [run_def g_is_integer rfl]
  simp only [b_is_integer, getE_some, brB_bl, brO_some, asB_bl, asN_bl, asNeg_int, asI_int, nxF_nx, nxF_rt, fin_rt, fin_nx, ite_bind, ite_and, ite_or, rs_int, rs_bl, rs_tup, rs_lst, rs_scr, rs_non, ev_var, ev_cst, ev_op, ev_neg, ev_cmp, ev_chain, ev_and, ev_or, ev_not, ev_ife, ev_tup, ev_lst, ev_idx, ev_sl2, ev_sl3, ev_pcall, ev_mcall, ev_blt, ev_blt2, ev_isi, ev_lcF, ev_lqF, MQ.evs_nil, evs_cons, spl_lst, spl_tup, evs_star, evO_non, evO_som, evQ_of, evQ_rng1, evQ_rng2, evQ_rng3, evQ_zip2, evQ_zip3, evQ_enum, bnd_some, ex_asg, ex_asgs, ex_exp, ex_ret, ex_ite, ex_fr, exs_nil, exs_cons, seq_tup, seq_lst, seq_scr, map_some_, bt_nm, bt_tp, btp_nil, btp_cons, bind_ok, ofO_some, cmp_eq, cmp_ne, cmp_lt, cmp_le, cmp_gt, cmp_ge, op_add, op_sub, startE, List.map_cons, List.map_nil, List.length_cons, List.length_nil, List.replicate_succ, List.replicate_zero, Nat.reduceAdd, Nat.reduceSub, Nat.zero_add, List.cons_append, List.nil_append, List.getElem?_cons_zero, List.getElem?_cons_succ, List.set_cons_zero, List.set_cons_succ, cutO_lst, cutO_tup, cutO_scr, stepO_2, ev_lstM, ev_app, ev_ext, ev_rem, ev_frz, apT_some, apL_some, apV_lst, apR_ref, apO_some, memAt_hd, rs_hd, wipe_nil, wipe_cons, lcK_some, lcB_non, lcB_som, addO_some, addO_none, len_lst, len_tup, len_scr, tup_lst, lis_tup, lis_lst, if_true, if_false, Bool.false_eq_true, p_is_whole]
theorem p_is_tuple {K : Nat} {xs : List Val} {a b : Int} {m : Mem} (hx : noRefs xs = true) : pcallR ⟨runF T.Γ (K+1)⟩ false f_is_tuple [.tup xs, .int a, .int b] m = .ok (.bl (decide (a ≤ xs.length) && decide ((xs.length : Int) ≤ b))) m := by
  refine pcall_id (.of (m := []) ?_ rfl) (by show (noRefs xs && true) = true; rw [hx]; rfl)
  rw [run_def g_is_tuple rfl]
  simp only [b_is_tuple, getE_some, brB_bl, brO_some, asB_bl, asN_bl, asNeg_int, asI_int, nxF_nx, nxF_rt, fin_rt, fin_nx, ite_bind, ite_and, ite_or, rs_int, rs_bl, rs_tup, rs_lst, rs_scr, rs_non, ev_var, ev_cst, ev_op, ev_neg, ev_cmp, ev_chain, ev_and, ev_or, ev_not, ev_ife, ev_tup, ev_lst, ev_idx, ev_sl2, ev_sl3, ev_pcall, ev_mcall, ev_blt, ev_blt2, ev_isi, ev_lcF, ev_lqF, MQ.evs_nil, evs_cons, spl_lst, spl_tup, evs_star, evO_non, evO_som, evQ_of, evQ_rng1, evQ_rng2, evQ_rng3, evQ_zip2, evQ_zip3, evQ_enum, bnd_some, ex_asg, ex_asgs, ex_exp, ex_ret, ex_ite, ex_fr, exs_nil, exs_cons, seq_tup, seq_lst, seq_scr, map_some_, bt_nm, bt_tp, btp_nil, btp_cons, bind_ok, ofO_some, cmp_eq, cmp_ne, cmp_lt, cmp_le, cmp_gt, cmp_ge, op_add, op_sub, startE, List.map_cons, List.map_nil, List.length_cons, List.length_nil, List.replicate_succ, List.replicate_zero, Nat.reduceAdd, Nat.reduceSub, Nat.zero_add, List.cons_append, List.nil_append, List.getElem?_cons_zero, List.getElem?_cons_succ, List.set_cons_zero, List.set_cons_succ, cutO_lst, cutO_tup, cutO_scr, stepO_2, ev_lstM, ev_app, ev_ext, ev_rem, ev_frz, apT_some, apL_some, apV_lst, apR_ref, apO_some, memAt_hd, rs_hd, wipe_nil, wipe_cons, lcK_some, lcB_non, lcB_som, addO_some, addO_none, len_lst, len_tup, len_scr, tup_lst, lis_tup, lis_lst, if_true, if_false, Bool.false_eq_true, isiV, bltV, lenV, Bool.true_and, ite_true]
theorem ix0 {x : Val} {xs : List Val} : L2.atI (x :: xs) 0 = some x := by
  unfold L2.atI L2.ixN
  rw [if_pos (by decide), if_pos (by simp only [List.length_cons]; omega)]
  rfl
theorem ix1 {x y : Val} {xs : List Val} : L2.atI (x :: y :: xs) 1 = some y := by
  unfold L2.atI L2.ixN
  rw [if_pos (by decide), if_pos (by simp only [List.length_cons]; omega)]
  rfl
def BIG : Int := Int.ofNat (10^3000)
theorem p_is_size {K : Nat} {i : Int} {m : Mem} : pcallR ⟨runF T.Γ (K+2)⟩ false f_is_size [.int i] m = .ok (.bl (decide (-BIG < i) && decide (i < BIG))) m := by
  refine pcall_id (.of (m := []) ?_ rfl) rfl
  rw [run_def g_is_size rfl]
  simp only [b_is_size, getE_some, brB_bl, brO_some, asB_bl, asN_bl, asNeg_int, asI_int, nxF_nx, nxF_rt, fin_rt, fin_nx, ite_bind, ite_and, ite_or, rs_int, rs_bl, rs_tup, rs_lst, rs_scr, rs_non, ev_var, ev_cst, ev_op, ev_neg, ev_cmp, ev_chain, ev_and, ev_or, ev_not, ev_ife, ev_tup, ev_lst, ev_idx, ev_sl2, ev_sl3, ev_pcall, ev_mcall, ev_blt, ev_blt2, ev_isi, ev_lcF, ev_lqF, MQ.evs_nil, evs_cons, spl_lst, spl_tup, evs_star, evO_non, evO_som, evQ_of, evQ_rng1, evQ_rng2, evQ_rng3, evQ_zip2, evQ_zip3, evQ_enum, bnd_some, ex_asg, ex_asgs, ex_exp, ex_ret, ex_ite, ex_fr, exs_nil, exs_cons, seq_tup, seq_lst, seq_scr, map_some_, bt_nm, bt_tp, btp_nil, btp_cons, bind_ok, ofO_some, cmp_eq, cmp_ne, cmp_lt, cmp_le, cmp_gt, cmp_ge, op_add, op_sub, startE, List.map_cons, List.map_nil, List.length_cons, List.length_nil, List.replicate_succ, List.replicate_zero, Nat.reduceAdd, Nat.reduceSub, Nat.zero_add, List.cons_append, List.nil_append, List.getElem?_cons_zero, List.getElem?_cons_succ, List.set_cons_zero, List.set_cons_succ, cutO_lst, cutO_tup, cutO_scr, stepO_2, ev_lstM, ev_app, ev_ext, ev_rem, ev_frz, apT_some, apL_some, apV_lst, apR_ref, apO_some, memAt_hd, rs_hd, wipe_nil, wipe_cons, lcK_some, lcB_non, lcB_som, addO_some, addO_none, len_lst, len_tup, len_scr, tup_lst, lis_tup, lis_lst, if_true, if_false, Bool.false_eq_true, p_is_whole, ite_true]
  rfl
theorem w_common {C : Calls} : ∀ (n : Nat) (a b : Int) (m : Mem), b.natAbs < n → ∃ g : Int, g.natAbs = Int.gcd a b ∧
    whlGo (evE C (.cmp .ne (.var 1) (.cst (.int 0)))) (exSs C (.cons (.asgs [0, 1] (.cons (.var 1) (.cons (.op .mod (.var 0) (.var 1)) .nil))) .nil)) n [some (.int a), some (.int b)] m = .ok (.nx [some (.int g), some (.int 0)]) m
  | 0, a, b, m, h => by omega
  | n + 1, a, b, m, h => by
    by_cases hb : b = 0
    · subst hb
      refine ⟨a, by simp, ?_⟩
      rw [whl_step]
      simp only [getE_some, brB_bl, brO_some, asB_bl, asN_bl, asNeg_int, asI_int, nxF_nx, nxF_rt, fin_rt, fin_nx, ite_bind, ite_and, ite_or, rs_int, rs_bl, rs_tup, rs_lst, rs_scr, rs_non, ev_var, ev_cst, ev_op, ev_neg, ev_cmp, ev_chain, ev_and, ev_or, ev_not, ev_ife, ev_tup, ev_lst, ev_idx, ev_sl2, ev_sl3, ev_pcall, ev_mcall, ev_blt, ev_blt2, ev_isi, ev_lcF, ev_lqF, MQ.evs_nil, evs_cons, spl_lst, spl_tup, evs_star, evO_non, evO_som, evQ_of, evQ_rng1, evQ_rng2, evQ_rng3, evQ_zip2, evQ_zip3, evQ_enum, bnd_some, ex_asg, ex_asgs, ex_exp, ex_ret, ex_ite, ex_fr, exs_nil, exs_cons, seq_tup, seq_lst, seq_scr, map_some_, bt_nm, bt_tp, btp_nil, btp_cons, bind_ok, ofO_some, cmp_eq, cmp_ne, cmp_lt, cmp_le, cmp_gt, cmp_ge, op_add, op_sub, startE, List.map_cons, List.map_nil, List.length_cons, List.length_nil, List.replicate_succ, List.replicate_zero, Nat.reduceAdd, Nat.reduceSub, Nat.zero_add, List.cons_append, List.nil_append, List.getElem?_cons_zero, List.getElem?_cons_succ, List.set_cons_zero, List.set_cons_succ, cutO_lst, cutO_tup, cutO_scr, stepO_2, ev_lstM, ev_app, ev_ext, ev_rem, ev_frz, apT_some, apL_some, apV_lst, apR_ref, apO_some, memAt_hd, rs_hd, wipe_nil, wipe_cons, lcK_some, lcB_non, lcB_som, addO_some, addO_none, len_lst, len_tup, len_scr, tup_lst, lis_tup, lis_lst, if_true, if_false, Bool.false_eq_true, Bool.not_true, decide_true]
    · obtain ⟨g, e1, e2⟩ := w_common (C := C) n b (a.fmod b) m (by have := fmod_abs (a := a) hb; omega)
      refine ⟨g, by rw [e1, gcd_fmod], ?_⟩
      rw [whl_step]
      simp only [getE_some, brB_bl, brO_some, asB_bl, asN_bl, asNeg_int, asI_int, nxF_nx, nxF_rt, fin_rt, fin_nx, ite_bind, ite_and, ite_or, rs_int, rs_bl, rs_tup, rs_lst, rs_scr, rs_non, ev_var, ev_cst, ev_op, ev_neg, ev_cmp, ev_chain, ev_and, ev_or, ev_not, ev_ife, ev_tup, ev_lst, ev_idx, ev_sl2, ev_sl3, ev_pcall, ev_mcall, ev_blt, ev_blt2, ev_isi, ev_lcF, ev_lqF, MQ.evs_nil, evs_cons, spl_lst, spl_tup, evs_star, evO_non, evO_som, evQ_of, evQ_rng1, evQ_rng2, evQ_rng3, evQ_zip2, evQ_zip3, evQ_enum, bnd_some, ex_asg, ex_asgs, ex_exp, ex_ret, ex_ite, ex_fr, exs_nil, exs_cons, seq_tup, seq_lst, seq_scr, map_some_, bt_nm, bt_tp, btp_nil, btp_cons, bind_ok, ofO_some, cmp_eq, cmp_ne, cmp_lt, cmp_le, cmp_gt, cmp_ge, op_add, op_sub, startE, List.map_cons, List.map_nil, List.length_cons, List.length_nil, List.replicate_succ, List.replicate_zero, Nat.reduceAdd, Nat.reduceSub, Nat.zero_add, List.cons_append, List.nil_append, List.getElem?_cons_zero, List.getElem?_cons_succ, List.set_cons_zero, List.set_cons_succ, cutO_lst, cutO_tup, cutO_scr, stepO_2, ev_lstM, ev_app, ev_ext, ev_rem, ev_frz, apT_some, apL_some, apV_lst, apR_ref, apO_some, memAt_hd, rs_hd, wipe_nil, wipe_cons, lcK_some, lcB_non, lcB_som, addO_some, addO_none, len_lst, len_tup, len_scr, tup_lst, lis_tup, lis_lst, if_true, if_false, Bool.false_eq_true, op_mod hb, decide_eq_false hb, Bool.not_false, lpF_nx, ite_true]
      exact e2
theorem p_common_of {K : Nat} {a b : Int} {m : Mem} (hb : b.natAbs < 2 ^ 99999) : pcallR ⟨runF T.Γ (K+1)⟩ false f_common_of [.int a, .int b] m = .ok (.int (Int.gcd a b)) m := by
  refine pcall_id (.of (m := []) ?_ rfl) rfl
  rw [run_def g_common_of rfl]
  obtain ⟨g, e1, e2⟩ := w_common (C := ⟨runF T.Γ K⟩) FUEL a b [] (by unfold FUEL; exact Nat.lt_of_lt_of_le hb (Nat.pow_le_pow_right (by decide) (by decide)))
  have e3 : (if g < 0 then -g else g) = (Int.gcd a b : Int) := by rw [← e1]; split <;> omega
  simp only [b_common_of, getE_some, brB_bl, brO_some, asB_bl, asN_bl, asNeg_int, asI_int, nxF_nx, nxF_rt, fin_rt, fin_nx, ite_bind, ite_and, ite_or, rs_int, rs_bl, rs_tup, rs_lst, rs_scr, rs_non, ev_var, ev_cst, ev_op, ev_neg, ev_cmp, ev_chain, ev_and, ev_or, ev_not, ev_ife, ev_tup, ev_lst, ev_idx, ev_sl2, ev_sl3, ev_pcall, ev_mcall, ev_blt, ev_blt2, ev_isi, ev_lcF, ev_lqF, MQ.evs_nil, evs_cons, spl_lst, spl_tup, evs_star, evO_non, evO_som, evQ_of, evQ_rng1, evQ_rng2, evQ_rng3, evQ_zip2, evQ_zip3, evQ_enum, bnd_some, ex_asg, ex_asgs, ex_exp, ex_ret, ex_ite, ex_fr, exs_nil, exs_cons, seq_tup, seq_lst, seq_scr, map_some_, bt_nm, bt_tp, btp_nil, btp_cons, bind_ok, ofO_some, cmp_eq, cmp_ne, cmp_lt, cmp_le, cmp_gt, cmp_ge, op_add, op_sub, startE, List.map_cons, List.map_nil, List.length_cons, List.length_nil, List.replicate_succ, List.replicate_zero, Nat.reduceAdd, Nat.reduceSub, Nat.zero_add, List.cons_append, List.nil_append, List.getElem?_cons_zero, List.getElem?_cons_succ, List.set_cons_zero, List.set_cons_succ, cutO_lst, cutO_tup, cutO_scr, stepO_2, ev_lstM, ev_app, ev_ext, ev_rem, ev_frz, apT_some, apL_some, apV_lst, apR_ref, apO_some, memAt_hd, rs_hd, wipe_nil, wipe_cons, lcK_some, lcB_non, lcB_som, addO_some, addO_none, len_lst, len_tup, len_scr, tup_lst, lis_tup, lis_lst, if_true, if_false, Bool.false_eq_true, ex_whl, e2, bltV, absV, e3]
theorem p_ratio_of {K : Nat} {a b : Int} {s : Nat} {m : Mem} (hb : 0 < b) (hs : b.natAbs < 2 ^ s) (h9 : s < 9000) : pcallR ⟨runF T.Γ (K+2)⟩ false f_ratio_of [.int a, .int b] m = .ok (fq (Rat.divInt a b)) m := by
  refine pcall_id (.of (m := []) ?_ rfl) rfl
  rw [run_def g_ratio_of rfl]
  have h1 : b.natAbs < 2 ^ 99999 := Nat.lt_of_lt_of_le hs (Nat.pow_le_pow_right (by decide) (by omega))
  have hd : divOk (Int.gcd a b : Int) = true := divOk_of (s := s) (gcd_pos' hb) (Nat.lt_of_le_of_lt (by rw [Int.natAbs_natCast]; exact gcd_le' hb) hs) h9
  have hn : ¬ (b < 0) := by omega
  simp only [b_ratio_of, getE_some, brB_bl, brO_some, asB_bl, asN_bl, asNeg_int, asI_int, nxF_nx, nxF_rt, fin_rt, fin_nx, ite_bind, ite_and, ite_or, rs_int, rs_bl, rs_tup, rs_lst, rs_scr, rs_non, ev_var, ev_cst, ev_op, ev_neg, ev_cmp, ev_chain, ev_and, ev_or, ev_not, ev_ife, ev_tup, ev_lst, ev_idx, ev_sl2, ev_sl3, ev_pcall, ev_mcall, ev_blt, ev_blt2, ev_isi, ev_lcF, ev_lqF, MQ.evs_nil, evs_cons, spl_lst, spl_tup, evs_star, evO_non, evO_som, evQ_of, evQ_rng1, evQ_rng2, evQ_rng3, evQ_zip2, evQ_zip3, evQ_enum, bnd_some, ex_asg, ex_asgs, ex_exp, ex_ret, ex_ite, ex_fr, exs_nil, exs_cons, seq_tup, seq_lst, seq_scr, map_some_, bt_nm, bt_tp, btp_nil, btp_cons, bind_ok, ofO_some, cmp_eq, cmp_ne, cmp_lt, cmp_le, cmp_gt, cmp_ge, op_add, op_sub, startE, List.map_cons, List.map_nil, List.length_cons, List.length_nil, List.replicate_succ, List.replicate_zero, Nat.reduceAdd, Nat.reduceSub, Nat.zero_add, List.cons_append, List.nil_append, List.getElem?_cons_zero, List.getElem?_cons_succ, List.set_cons_zero, List.set_cons_succ, cutO_lst, cutO_tup, cutO_scr, stepO_2, ev_lstM, ev_app, ev_ext, ev_rem, ev_frz, apT_some, apL_some, apV_lst, apR_ref, apO_some, memAt_hd, rs_hd, wipe_nil, wipe_cons, lcK_some, lcB_non, lcB_som, addO_some, addO_none, len_lst, len_tup, len_scr, tup_lst, lis_tup, lis_lst, if_true, if_false, Bool.false_eq_true, p_common_of h1, decide_eq_false hn, op_fdiv hd, div_num hb, div_den hb, LL, Nat.reduceLeDiff, ite_true]
  rfl
theorem p_plus_of {K : Nat} {a b : Rat} {s t : Nat} {m : Mem} (ha : Sz s a) (hb : Sz t b) (h9 : s + t < 9000) : pcallR ⟨runF T.Γ (K+3)⟩ false f_plus_of [fq a, fq b] m = .ok (fq (a + b)) m := by
  refine pcall_id (.of (m := []) ?_ rfl) rfl
  rw [run_def g_plus_of rfl]
  have c1 : mulOk a.num b.den = true := mulOk_of ha.1 (by rw [Int.natAbs_natCast]; exact hb.2) (by omega)
  have c2 : mulOk b.num a.den = true := mulOk_of hb.1 (by rw [Int.natAbs_natCast]; exact ha.2) (by omega)
  have c3 : mulOk a.den b.den = true := mulOk_of (by rw [Int.natAbs_natCast]; exact ha.2) (by rw [Int.natAbs_natCast]; exact hb.2) (by omega)
  simp only [b_plus_of, fq, getE_some, brB_bl, brO_some, asB_bl, asN_bl, asNeg_int, asI_int, nxF_nx, nxF_rt, fin_rt, fin_nx, ite_bind, ite_and, ite_or, rs_int, rs_bl, rs_tup, rs_lst, rs_scr, rs_non, ev_var, ev_cst, ev_op, ev_neg, ev_cmp, ev_chain, ev_and, ev_or, ev_not, ev_ife, ev_tup, ev_lst, ev_idx, ev_sl2, ev_sl3, ev_pcall, ev_mcall, ev_blt, ev_blt2, ev_isi, ev_lcF, ev_lqF, MQ.evs_nil, evs_cons, spl_lst, spl_tup, evs_star, evO_non, evO_som, evQ_of, evQ_rng1, evQ_rng2, evQ_rng3, evQ_zip2, evQ_zip3, evQ_enum, bnd_some, ex_asg, ex_asgs, ex_exp, ex_ret, ex_ite, ex_fr, exs_nil, exs_cons, seq_tup, seq_lst, seq_scr, map_some_, bt_nm, bt_tp, btp_nil, btp_cons, bind_ok, ofO_some, cmp_eq, cmp_ne, cmp_lt, cmp_le, cmp_gt, cmp_ge, op_add, op_sub, startE, List.map_cons, List.map_nil, List.length_cons, List.length_nil, List.replicate_succ, List.replicate_zero, Nat.reduceAdd, Nat.reduceSub, Nat.zero_add, List.cons_append, List.nil_append, List.getElem?_cons_zero, List.getElem?_cons_succ, List.set_cons_zero, List.set_cons_succ, cutO_lst, cutO_tup, cutO_scr, stepO_2, ev_lstM, ev_app, ev_ext, ev_rem, ev_frz, apT_some, apL_some, apV_lst, apR_ref, apO_some, memAt_hd, rs_hd, wipe_nil, wipe_cons, lcK_some, lcB_non, lcB_som, addO_some, addO_none, len_lst, len_tup, len_scr, tup_lst, lis_tup, lis_lst, if_true, if_false, Bool.false_eq_true, idxV, ix0, ix1, op_mul c1, op_mul c2, op_mul c3]
  rw [p_ratio_of (Int.mul_pos (den_pos a) (den_pos b)) (den_nat ha.2 hb.2) h9, add_div]
  rfl
theorem p_is_below {K : Nat} {a b : Rat} {s t : Nat} {m : Mem} (ha : Sz s a) (hb : Sz t b) (h9 : s + t < 9000) : pcallR ⟨runF T.Γ (K+1)⟩ false f_is_below [fq a, fq b] m = .ok (.bl (decide (a < b))) m := by
  refine pcall_id (.of (m := []) ?_ rfl) rfl
  rw [run_def g_is_below rfl]
  have c1 : mulOk a.num b.den = true := mulOk_of ha.1 (by rw [Int.natAbs_natCast]; exact hb.2) (by omega)
  have c2 : mulOk b.num a.den = true := mulOk_of hb.1 (by rw [Int.natAbs_natCast]; exact ha.2) (by omega)
  simp only [b_is_below, fq, getE_some, brB_bl, brO_some, asB_bl, asN_bl, asNeg_int, asI_int, nxF_nx, nxF_rt, fin_rt, fin_nx, ite_bind, ite_and, ite_or, rs_int, rs_bl, rs_tup, rs_lst, rs_scr, rs_non, ev_var, ev_cst, ev_op, ev_neg, ev_cmp, ev_chain, ev_and, ev_or, ev_not, ev_ife, ev_tup, ev_lst, ev_idx, ev_sl2, ev_sl3, ev_pcall, ev_mcall, ev_blt, ev_blt2, ev_isi, ev_lcF, ev_lqF, MQ.evs_nil, evs_cons, spl_lst, spl_tup, evs_star, evO_non, evO_som, evQ_of, evQ_rng1, evQ_rng2, evQ_rng3, evQ_zip2, evQ_zip3, evQ_enum, bnd_some, ex_asg, ex_asgs, ex_exp, ex_ret, ex_ite, ex_fr, exs_nil, exs_cons, seq_tup, seq_lst, seq_scr, map_some_, bt_nm, bt_tp, btp_nil, btp_cons, bind_ok, ofO_some, cmp_eq, cmp_ne, cmp_lt, cmp_le, cmp_gt, cmp_ge, op_add, op_sub, startE, List.map_cons, List.map_nil, List.length_cons, List.length_nil, List.replicate_succ, List.replicate_zero, Nat.reduceAdd, Nat.reduceSub, Nat.zero_add, List.cons_append, List.nil_append, List.getElem?_cons_zero, List.getElem?_cons_succ, List.set_cons_zero, List.set_cons_succ, cutO_lst, cutO_tup, cutO_scr, stepO_2, ev_lstM, ev_app, ev_ext, ev_rem, ev_frz, apT_some, apL_some, apV_lst, apR_ref, apO_some, memAt_hd, rs_hd, wipe_nil, wipe_cons, lcK_some, lcB_non, lcB_som, addO_some, addO_none, len_lst, len_tup, len_scr, tup_lst, lis_tup, lis_lst, if_true, if_false, Bool.false_eq_true, idxV, ix0, ix1, op_mul c1, op_mul c2, Rat.lt_iff]

theorem w_power_whole_power {C : Calls} {x : Int} {s : Nat} (hx : x.natAbs ≤ 2 ^ s) (y : Val) (hs1 : s + 1 < 400000) : ∀ (vs : List Val) (j : Nat) (o : Option Val) (m : Mem), s * (j + vs.length) < 500000 →
    ∃ o', frGo (.nm 3) (exSs C (.cons (.asg (.nm 2) (.op .mul (.var 2) (.var 0))) .nil)) vs [some (.int x), some y, some (.int (x ^ j)), o] m = .ok (.nx [some (.int x), some y, some (.int (x ^ (j + vs.length))), o']) m
  | [], j, o, m, h => ⟨o, by rw [fr_nil]; rfl⟩
  | v :: vs, j, o, m, h => by
    obtain ⟨o', e⟩ := w_power_whole_power (C := C) hx y hs1 vs (j + 1) (some v) m (by
      simp only [List.length_cons] at h
      have : j + 1 + vs.length = j + (vs.length + 1) := by omega
      rw [this]; exact h)
    have hj : s * j < 500000 := Nat.lt_of_le_of_lt (Nat.mul_le_mul_left _ (by omega)) h
    have c : mulOk (x ^ j) x = true := mulOk_of (lt_succ_pow (pow_le hx j)) (lt_succ_pow hx) (by omega)
    refine ⟨o', ?_⟩
    rw [fr_cons]
    simp only [getE_some, brB_bl, brO_some, asB_bl, asN_bl, asNeg_int, asI_int, nxF_nx, nxF_rt, fin_rt, fin_nx, ite_bind, ite_and, ite_or, rs_int, rs_bl, rs_tup, rs_lst, rs_scr, rs_non, ev_var, ev_cst, ev_op, ev_neg, ev_cmp, ev_chain, ev_and, ev_or, ev_not, ev_ife, ev_tup, ev_lst, ev_idx, ev_sl2, ev_sl3, ev_pcall, ev_mcall, ev_blt, ev_blt2, ev_isi, ev_lcF, ev_lqF, MQ.evs_nil, evs_cons, spl_lst, spl_tup, evs_star, evO_non, evO_som, evQ_of, evQ_rng1, evQ_rng2, evQ_rng3, evQ_zip2, evQ_zip3, evQ_enum, bnd_some, ex_asg, ex_asgs, ex_exp, ex_ret, ex_ite, ex_fr, exs_nil, exs_cons, seq_tup, seq_lst, seq_scr, map_some_, bt_nm, bt_tp, btp_nil, btp_cons, bind_ok, ofO_some, cmp_eq, cmp_ne, cmp_lt, cmp_le, cmp_gt, cmp_ge, op_add, op_sub, startE, List.map_cons, List.map_nil, List.length_cons, List.length_nil, List.replicate_succ, List.replicate_zero, Nat.reduceAdd, Nat.reduceSub, Nat.zero_add, List.cons_append, List.nil_append, List.getElem?_cons_zero, List.getElem?_cons_succ, List.set_cons_zero, List.set_cons_succ, cutO_lst, cutO_tup, cutO_scr, stepO_2, ev_lstM, ev_app, ev_ext, ev_rem, ev_frz, apT_some, apL_some, apV_lst, apR_ref, apO_some, memAt_hd, rs_hd, wipe_nil, wipe_cons, lcK_some, lcB_non, lcB_som, addO_some, addO_none, len_lst, len_tup, len_scr, tup_lst, lis_tup, lis_lst, if_true, if_false, Bool.false_eq_true, frB_some, op_mul c, lpF_nx]
    rw [← Int.pow_succ, e]
    have : j + 1 + vs.length = j + (vs.length + 1) := by omega
    rw [this]
theorem p_whole_power {K : Nat} {x : Int} {n s : Nat} {m : Mem} (hx : x.natAbs ≤ 2 ^ s) (hn : n ≤ 1000000) (hs1 : s + 1 < 400000) (h : s * n < 500000) : pcallR ⟨runF T.Γ (K+1)⟩ false f_whole_power [.int x, .int n] m = .ok (.int (x ^ n)) m := by
  refine pcall_id (.of (m := []) ?_ rfl) rfl
  rw [run_def g_whole_power rfl]
  obtain ⟨o', e⟩ := w_power_whole_power (C := ⟨runF T.Γ K⟩) hx (.int n) hs1 (rngL 0 n) 0 none [] (by rw [rngL_length, Nat.zero_add]; exact h)
  have e0 : x ^ 0 = 1 := Int.pow_zero x
  rw [e0, rngL_length, Nat.zero_add] at e
  simp only [b_whole_power, getE_some, brB_bl, brO_some, asB_bl, asN_bl, asNeg_int, asI_int, nxF_nx, nxF_rt, fin_rt, fin_nx, ite_bind, ite_and, ite_or, rs_int, rs_bl, rs_tup, rs_lst, rs_scr, rs_non, ev_var, ev_cst, ev_op, ev_neg, ev_cmp, ev_chain, ev_and, ev_or, ev_not, ev_ife, ev_tup, ev_lst, ev_idx, ev_sl2, ev_sl3, ev_pcall, ev_mcall, ev_blt, ev_blt2, ev_isi, ev_lcF, ev_lqF, MQ.evs_nil, evs_cons, spl_lst, spl_tup, evs_star, evO_non, evO_som, evQ_of, evQ_rng1, evQ_rng2, evQ_rng3, evQ_zip2, evQ_zip3, evQ_enum, bnd_some, ex_asg, ex_asgs, ex_exp, ex_ret, ex_ite, ex_fr, exs_nil, exs_cons, seq_tup, seq_lst, seq_scr, map_some_, bt_nm, bt_tp, btp_nil, btp_cons, bind_ok, ofO_some, cmp_eq, cmp_ne, cmp_lt, cmp_le, cmp_gt, cmp_ge, op_add, op_sub, startE, List.map_cons, List.map_nil, List.length_cons, List.length_nil, List.replicate_succ, List.replicate_zero, Nat.reduceAdd, Nat.reduceSub, Nat.zero_add, List.cons_append, List.nil_append, List.getElem?_cons_zero, List.getElem?_cons_succ, List.set_cons_zero, List.set_cons_succ, cutO_lst, cutO_tup, cutO_scr, stepO_2, ev_lstM, ev_app, ev_ext, ev_rem, ev_frz, apT_some, apL_some, apV_lst, apR_ref, apO_some, memAt_hd, rs_hd, wipe_nil, wipe_cons, lcK_some, lcB_non, lcB_som, addO_some, addO_none, len_lst, len_tup, len_scr, tup_lst, lis_tup, lis_lst, if_true, if_false, Bool.false_eq_true, rng1_ok hn, e]

theorem big_of {n : Nat} {s : Nat} (h : n < 2 ^ s) (hs : s ≤ 9900) : n < 10 ^ 3000 :=
  Nat.lt_of_lt_of_le h (Nat.le_trans (Nat.pow_le_pow_right (by decide) hs) (by decide +kernel))
theorem size_ok {i : Int} {s : Nat} (h : i.natAbs < 2 ^ s) (hs : s ≤ 9900) : (decide (-BIG < i) && decide (i < BIG)) = true := by
  have h2 := big_of h hs
  rw [Bool.and_eq_true, decide_eq_true_eq, decide_eq_true_eq]
  show -((10 ^ 3000 : Nat) : Int) < i ∧ i < ((10 ^ 3000 : Nat) : Int)
  generalize (10 ^ 3000 : Nat) = B at h2
  omega
theorem p_is_fraction {K : Nat} {q : Rat} {s : Nat} {m : Mem} (hq : Sz s q) (hs : s ≤ 9900) : pcallR ⟨runF T.Γ (K+3)⟩ false f_is_fraction [fq q] m = .ok (.bl true) m := by
  refine pcall_id (.of (m := []) ?_ rfl) rfl
  rw [run_def g_is_fraction rfl]
  have c1 := size_ok hq.1 hs
  have c2 := size_ok (i := (q.den : Int)) (by rw [Int.natAbs_natCast]; exact hq.2) hs
  have c3 : decide ((0 : Int) < (q.den : Int)) = true := decide_eq_true (den_pos q)
  have c4 : decide ((Int.gcd q.num q.den : Int) = 1) = true := by
    refine decide_eq_true ?_
    have : Int.gcd q.num q.den = 1 := q.reduced
    rw [this]; rfl
  have c5 : (q.den : Int).natAbs < 2 ^ 99999 := Nat.lt_of_lt_of_le (by rw [Int.natAbs_natCast]; exact hq.2) (Nat.pow_le_pow_right (by decide) (by omega))
  have ca : allB [Val.bl true, Val.bl true] = some true := rfl
  simp only [b_is_fraction, fq, getE_some, brB_bl, brO_some, asB_bl, asN_bl, asNeg_int, asI_int, nxF_nx, nxF_rt, fin_rt, fin_nx, ite_bind, ite_and, ite_or, rs_int, rs_bl, rs_tup, rs_lst, rs_scr, rs_non, ev_var, ev_cst, ev_op, ev_neg, ev_cmp, ev_chain, ev_and, ev_or, ev_not, ev_ife, ev_tup, ev_lst, ev_idx, ev_sl2, ev_sl3, ev_pcall, ev_mcall, ev_blt, ev_blt2, ev_isi, ev_lcF, ev_lqF, MQ.evs_nil, evs_cons, spl_lst, spl_tup, evs_star, evO_non, evO_som, evQ_of, evQ_rng1, evQ_rng2, evQ_rng3, evQ_zip2, evQ_zip3, evQ_enum, bnd_some, ex_asg, ex_asgs, ex_exp, ex_ret, ex_ite, ex_fr, exs_nil, exs_cons, seq_tup, seq_lst, seq_scr, map_some_, bt_nm, bt_tp, btp_nil, btp_cons, bind_ok, ofO_some, cmp_eq, cmp_ne, cmp_lt, cmp_le, cmp_gt, cmp_ge, op_add, op_sub, startE, List.map_cons, List.map_nil, List.length_cons, List.length_nil, List.replicate_succ, List.replicate_zero, Nat.reduceAdd, Nat.reduceSub, Nat.zero_add, List.cons_append, List.nil_append, List.getElem?_cons_zero, List.getElem?_cons_succ, List.set_cons_zero, List.set_cons_succ, cutO_lst, cutO_tup, cutO_scr, stepO_2, ev_lstM, ev_app, ev_ext, ev_rem, ev_frz, apT_some, apL_some, apV_lst, apR_ref, apO_some, memAt_hd, rs_hd, wipe_nil, wipe_cons, lcK_some, lcB_non, lcB_som, addO_some, addO_none, len_lst, len_tup, len_scr, tup_lst, lis_tup, lis_lst, if_true, if_false, Bool.false_eq_true, c_PAIR, p_is_tuple (show noRefs [Val.int q.num, Val.int q.den] = true from rfl), mapR_nil, mapR_cons, p_is_size, c1, c2, all_lst ca, idxV, ix0, ix1, p_common_of c5, c3, c4, Bool.not_true, ite_true]
  rfl
theorem p_is_share {K : Nat} {q : Rat} {s : Nat} {m : Mem} (hq : Sz s q) (hs : s ≤ 9900) (h0 : 0 ≤ q) (h1 : q ≤ 1) : pcallR ⟨runF T.Γ (K+4)⟩ false f_is_share [fq q] m = .ok (.bl true) m := by
  refine pcall_id (.of (m := []) ?_ rfl) rfl
  rw [run_def g_is_share rfl]
  have c1 : decide ((0 : Int) ≤ q.num) = true := decide_eq_true (Rat.num_nonneg.mpr h0)
  have c2 : decide (q.num ≤ (q.den : Int)) = true := by
    refine decide_eq_true ?_
    have := (Rat.le_iff q 1).mp h1
    simpa using this
  simp only [b_is_share, getE_some, brB_bl, brO_some, asB_bl, asN_bl, asNeg_int, asI_int, nxF_nx, nxF_rt, fin_rt, fin_nx, ite_bind, ite_and, ite_or, rs_int, rs_bl, rs_tup, rs_lst, rs_scr, rs_non, ev_var, ev_cst, ev_op, ev_neg, ev_cmp, ev_chain, ev_and, ev_or, ev_not, ev_ife, ev_tup, ev_lst, ev_idx, ev_sl2, ev_sl3, ev_pcall, ev_mcall, ev_blt, ev_blt2, ev_isi, ev_lcF, ev_lqF, MQ.evs_nil, evs_cons, spl_lst, spl_tup, evs_star, evO_non, evO_som, evQ_of, evQ_rng1, evQ_rng2, evQ_rng3, evQ_zip2, evQ_zip3, evQ_enum, bnd_some, ex_asg, ex_asgs, ex_exp, ex_ret, ex_ite, ex_fr, exs_nil, exs_cons, seq_tup, seq_lst, seq_scr, map_some_, bt_nm, bt_tp, btp_nil, btp_cons, bind_ok, ofO_some, cmp_eq, cmp_ne, cmp_lt, cmp_le, cmp_gt, cmp_ge, op_add, op_sub, startE, List.map_cons, List.map_nil, List.length_cons, List.length_nil, List.replicate_succ, List.replicate_zero, Nat.reduceAdd, Nat.reduceSub, Nat.zero_add, List.cons_append, List.nil_append, List.getElem?_cons_zero, List.getElem?_cons_succ, List.set_cons_zero, List.set_cons_succ, cutO_lst, cutO_tup, cutO_scr, stepO_2, ev_lstM, ev_app, ev_ext, ev_rem, ev_frz, apT_some, apL_some, apV_lst, apR_ref, apO_some, memAt_hd, rs_hd, wipe_nil, wipe_cons, lcK_some, lcB_non, lcB_som, addO_some, addO_none, len_lst, len_tup, len_scr, tup_lst, lis_tup, lis_lst, if_true, if_false, Bool.false_eq_true, p_is_fraction hq hs, ite_true]
  simp only [fq, getE_some, brB_bl, brO_some, asB_bl, asN_bl, asNeg_int, asI_int, nxF_nx, nxF_rt, fin_rt, fin_nx, ite_bind, ite_and, ite_or, rs_int, rs_bl, rs_tup, rs_lst, rs_scr, rs_non, ev_var, ev_cst, ev_op, ev_neg, ev_cmp, ev_chain, ev_and, ev_or, ev_not, ev_ife, ev_tup, ev_lst, ev_idx, ev_sl2, ev_sl3, ev_pcall, ev_mcall, ev_blt, ev_blt2, ev_isi, ev_lcF, ev_lqF, MQ.evs_nil, evs_cons, spl_lst, spl_tup, evs_star, evO_non, evO_som, evQ_of, evQ_rng1, evQ_rng2, evQ_rng3, evQ_zip2, evQ_zip3, evQ_enum, bnd_some, ex_asg, ex_asgs, ex_exp, ex_ret, ex_ite, ex_fr, exs_nil, exs_cons, seq_tup, seq_lst, seq_scr, map_some_, bt_nm, bt_tp, btp_nil, btp_cons, bind_ok, ofO_some, cmp_eq, cmp_ne, cmp_lt, cmp_le, cmp_gt, cmp_ge, op_add, op_sub, startE, List.map_cons, List.map_nil, List.length_cons, List.length_nil, List.replicate_succ, List.replicate_zero, Nat.reduceAdd, Nat.reduceSub, Nat.zero_add, List.cons_append, List.nil_append, List.getElem?_cons_zero, List.getElem?_cons_succ, List.set_cons_zero, List.set_cons_succ, cutO_lst, cutO_tup, cutO_scr, stepO_2, ev_lstM, ev_app, ev_ext, ev_rem, ev_frz, apT_some, apL_some, apV_lst, apR_ref, apO_some, memAt_hd, rs_hd, wipe_nil, wipe_cons, lcK_some, lcB_non, lcB_som, addO_some, addO_none, len_lst, len_tup, len_scr, tup_lst, lis_tup, lis_lst, if_true, if_false, Bool.false_eq_true, idxV, ix0, ix1, c1, c2, ite_true]
theorem p_check_share {K : Nat} {q : Rat} {s : Nat} {m : Mem} (hq : Sz s q) (hs : s ≤ 9900) (h0 : 0 ≤ q) (h1 : q ≤ 1) : pcallR ⟨runF T.Γ (K+5)⟩ false f_check_share [fq q] m = .ok .non m := by
  refine pcall_id (.of (m := []) ?_ rfl) rfl
  rw [run_def g_check_share rfl]
  simp only [b_check_share, getE_some, brB_bl, brO_some, asB_bl, asN_bl, asNeg_int, asI_int, nxF_nx, nxF_rt, fin_rt, fin_nx, ite_bind, ite_and, ite_or, rs_int, rs_bl, rs_tup, rs_lst, rs_scr, rs_non, ev_var, ev_cst, ev_op, ev_neg, ev_cmp, ev_chain, ev_and, ev_or, ev_not, ev_ife, ev_tup, ev_lst, ev_idx, ev_sl2, ev_sl3, ev_pcall, ev_mcall, ev_blt, ev_blt2, ev_isi, ev_lcF, ev_lqF, MQ.evs_nil, evs_cons, spl_lst, spl_tup, evs_star, evO_non, evO_som, evQ_of, evQ_rng1, evQ_rng2, evQ_rng3, evQ_zip2, evQ_zip3, evQ_enum, bnd_some, ex_asg, ex_asgs, ex_exp, ex_ret, ex_ite, ex_fr, exs_nil, exs_cons, seq_tup, seq_lst, seq_scr, map_some_, bt_nm, bt_tp, btp_nil, btp_cons, bind_ok, ofO_some, cmp_eq, cmp_ne, cmp_lt, cmp_le, cmp_gt, cmp_ge, op_add, op_sub, startE, List.map_cons, List.map_nil, List.length_cons, List.length_nil, List.replicate_succ, List.replicate_zero, Nat.reduceAdd, Nat.reduceSub, Nat.zero_add, List.cons_append, List.nil_append, List.getElem?_cons_zero, List.getElem?_cons_succ, List.set_cons_zero, List.set_cons_succ, cutO_lst, cutO_tup, cutO_scr, stepO_2, ev_lstM, ev_app, ev_ext, ev_rem, ev_frz, apT_some, apL_some, apV_lst, apR_ref, apO_some, memAt_hd, rs_hd, wipe_nil, wipe_cons, lcK_some, lcB_non, lcB_som, addO_some, addO_none, len_lst, len_tup, len_scr, tup_lst, lis_tup, lis_lst, if_true, if_false, Bool.false_eq_true, p_is_share hq hs h0 h1, Bool.not_true]
theorem w_least {K : Nat} {s : Nat} (hs : s + s < 9000) (r : Val) : ∀ (qs : List Rat) (f : Rat) (o : Option Val) (m : Mem), Sz s f → (∀ q ∈ qs, Sz s q) →
    ∃ o', frGo (.nm 2) (exSs ⟨runF T.Γ (K+1)⟩ (.cons (.asg (.nm 1) (.ife (.pcall false f_is_below (.cons (.var 2) (.cons (.var 1) .nil))) (.var 2) (.var 1))) .nil)) (qs.map fq) [some r, some (fq f), o] m = .ok (.nx [some r, some (fq (minL f qs)), o']) m
  | [], f, o, m, _, _ => ⟨o, by rw [List.map_nil, fr_nil]; rfl⟩
  | q :: qs, f, o, m, hf, hq => by
    have hq0 := hq q List.mem_cons_self
    have hm : Sz s (minF f q) := by unfold minF; split <;> assumption
    obtain ⟨o', e⟩ := w_least hs r qs (minF f q) (some (fq q)) m hm fun x hx => hq x (List.mem_cons_of_mem _ hx)
    refine ⟨o', ?_⟩
    rw [List.map_cons, fr_cons]
    have e1 : (if decide (q < f) = true then R.ok (fq q) m else R.ok (fq f) m) = R.ok (fq (minF f q)) m := by
      unfold minF
      by_cases h : q < f
      · rw [if_pos (decide_eq_true h), if_pos h]
      · rw [if_neg (by simpa using h), if_neg h]
    simp only [getE_some, brB_bl, brO_some, asB_bl, asN_bl, asNeg_int, asI_int, nxF_nx, nxF_rt, fin_rt, fin_nx, ite_bind, ite_and, ite_or, rs_int, rs_bl, rs_tup, rs_lst, rs_scr, rs_non, ev_var, ev_cst, ev_op, ev_neg, ev_cmp, ev_chain, ev_and, ev_or, ev_not, ev_ife, ev_tup, ev_lst, ev_idx, ev_sl2, ev_sl3, ev_pcall, ev_mcall, ev_blt, ev_blt2, ev_isi, ev_lcF, ev_lqF, MQ.evs_nil, evs_cons, spl_lst, spl_tup, evs_star, evO_non, evO_som, evQ_of, evQ_rng1, evQ_rng2, evQ_rng3, evQ_zip2, evQ_zip3, evQ_enum, bnd_some, ex_asg, ex_asgs, ex_exp, ex_ret, ex_ite, ex_fr, exs_nil, exs_cons, seq_tup, seq_lst, seq_scr, map_some_, bt_nm, bt_tp, btp_nil, btp_cons, bind_ok, ofO_some, cmp_eq, cmp_ne, cmp_lt, cmp_le, cmp_gt, cmp_ge, op_add, op_sub, startE, List.map_cons, List.map_nil, List.length_cons, List.length_nil, List.replicate_succ, List.replicate_zero, Nat.reduceAdd, Nat.reduceSub, Nat.zero_add, List.cons_append, List.nil_append, List.getElem?_cons_zero, List.getElem?_cons_succ, List.set_cons_zero, List.set_cons_succ, cutO_lst, cutO_tup, cutO_scr, stepO_2, ev_lstM, ev_app, ev_ext, ev_rem, ev_frz, apT_some, apL_some, apV_lst, apR_ref, apO_some, memAt_hd, rs_hd, wipe_nil, wipe_cons, lcK_some, lcB_non, lcB_som, addO_some, addO_none, len_lst, len_tup, len_scr, tup_lst, lis_tup, lis_lst, if_true, if_false, Bool.false_eq_true, frB_some, p_is_below hq0 hf hs, e1, lpF_nx]
    exact e
theorem p_least_of {K : Nat} {s : Nat} {q : Rat} {qs : List Rat} {m : Mem} (hs : s + s < 9000) (hq : Sz s q) (hqs : ∀ x ∈ qs, Sz s x) : pcallR ⟨runF T.Γ (K+2)⟩ false f_least_of [.lst ((q :: qs).map fq)] m = .ok (fq (minL q (q :: qs))) m := by
  refine pcall_id (.of (m := []) ?_ rfl) (by show (noRefs ((q :: qs).map fq) && true) = true; rw [noRefs_map noRef_fq]; rfl)
  rw [run_def g_least_of rfl]
  obtain ⟨o', e⟩ := w_least (K := K) hs (.lst ((q :: qs).map fq)) (q :: qs) q none [] hq fun x hx => by
    rcases List.mem_cons.mp hx with z | z
    · rw [z]; exact hq
    · exact hqs x z
  have e0 : idxV (.lst ((q :: qs).map fq)) (.int 0) = some (fq q) := idx_lst (i := 0) rfl
  generalize (q :: qs).map fq = l at e e0
  simp only [b_least_of, getE_some, brB_bl, brO_some, asB_bl, asN_bl, asNeg_int, asI_int, nxF_nx, nxF_rt, fin_rt, fin_nx, ite_bind, ite_and, ite_or, rs_int, rs_bl, rs_tup, rs_lst, rs_scr, rs_non, ev_var, ev_cst, ev_op, ev_neg, ev_cmp, ev_chain, ev_and, ev_or, ev_not, ev_ife, ev_tup, ev_lst, ev_idx, ev_sl2, ev_sl3, ev_pcall, ev_mcall, ev_blt, ev_blt2, ev_isi, ev_lcF, ev_lqF, MQ.evs_nil, evs_cons, spl_lst, spl_tup, evs_star, evO_non, evO_som, evQ_of, evQ_rng1, evQ_rng2, evQ_rng3, evQ_zip2, evQ_zip3, evQ_enum, bnd_some, ex_asg, ex_asgs, ex_exp, ex_ret, ex_ite, ex_fr, exs_nil, exs_cons, seq_tup, seq_lst, seq_scr, map_some_, bt_nm, bt_tp, btp_nil, btp_cons, bind_ok, ofO_some, cmp_eq, cmp_ne, cmp_lt, cmp_le, cmp_gt, cmp_ge, op_add, op_sub, startE, List.map_cons, List.map_nil, List.length_cons, List.length_nil, List.replicate_succ, List.replicate_zero, Nat.reduceAdd, Nat.reduceSub, Nat.zero_add, List.cons_append, List.nil_append, List.getElem?_cons_zero, List.getElem?_cons_succ, List.set_cons_zero, List.set_cons_succ, cutO_lst, cutO_tup, cutO_scr, stepO_2, ev_lstM, ev_app, ev_ext, ev_rem, ev_frz, apT_some, apL_some, apV_lst, apR_ref, apO_some, memAt_hd, rs_hd, wipe_nil, wipe_cons, lcK_some, lcB_non, lcB_som, addO_some, addO_none, len_lst, len_tup, len_scr, tup_lst, lis_tup, lis_lst, if_true, if_false, Bool.false_eq_true, e0, e]


theorem fq_at {l : List Rat} {i : Nat} {q : Rat} (h : l[i]? = some q) : idxV (.lst (l.map fq)) (.int i) = some (fq q) := idx_lst (by rw [List.getElem?_map, h]; rfl)
theorem all_true {α : Type} (l : List α) : bltV .all (.lst (l.map fun _ => Val.bl true)) = some (.bl true) := all_lst (by
  rw [allB_map (p := fun _ => true)]
  congr 1
  exact List.all_eq_true.mpr fun _ _ => rfl)
structure Shr (s : Nat) (qs : List Rat) : Prop where
  sz : ∀ q ∈ qs, Sz s q
  nn : ∀ q ∈ qs, 0 ≤ q
  le : ∀ q ∈ qs, q ≤ 1

end LW
namespace LW
open PySem PySem.Spec MP MQ
theorem w_total {K : Nat} (r : Val) : ∀ (n : Nat) (l : List Rat) (s : Nat) (o : Option Val) (m : Mem), l ≠ [] → l.length < n → (∀ q ∈ l, Sz s q) → 2 * ((s + 1) * (l.length - 1)) < 9000 → l.length ≤ 1000 → ∃ o',
    whlGo (evE ⟨runF T.Γ (K+3)⟩ (.cmp .gt (.blt .len (.var 1)) (.cst (.int 1)))) (exSs ⟨runF T.Γ (K+3)⟩ (.cons (.asg (.nm 2) (.ife (.cmp .eq (.op .mod (.blt .len (.var 1)) (.cst c_PAIR)) (.cst (.int 1))) (.sl (.var 1) (.som (.neg (.cst (.int 1)))) .non .non) (.lst false .nil)))
    (.cons (.asg (.nm 1) (.op .add (.lc false (.pcall false f_plus_of (.cons (.var 3) (.cons (.var 4) .nil))) (.tp [3, 4]) (.zip2 (.sl (.var 1) .non .non (.som (.cst c_PAIR))) (.sl (.var 1) (.som (.cst (.int 1))) .non (.som (.cst c_PAIR)))) .non [3, 4]) (.var 2)))
    .nil))) n [some r, some (.lst (l.map fq)), o, none, none] m = .ok (.nx [some r, some (.lst [fq l.sum]), o', none, none]) m
  | 0, l, s, o, m, h0, hn, hq, hs, hl => by omega
  | n + 1, l, s, o, m, h0, hn, hq, hs, hl => by
    have hlen : 0 < l.length := List.length_pos_iff.mpr h0
    by_cases h1 : l.length = 1
    · obtain ⟨x, rfl⟩ := List.length_eq_one_iff.mp h1
      refine ⟨o, ?_⟩
      rw [whl_step]
      have e : [x].sum = x := by rw [List.sum_cons, List.sum_nil, Rat.add_zero]
      simp only [getE_some, brB_bl, brO_some, asB_bl, asN_bl, asNeg_int, asI_int, nxF_nx, nxF_rt, fin_rt, fin_nx, ite_bind, ite_and, ite_or, rs_int, rs_bl, rs_tup, rs_lst, rs_scr, rs_non, ev_var, ev_cst, ev_op, ev_neg, ev_cmp, ev_chain, ev_and, ev_or, ev_not, ev_ife, ev_tup, ev_lst, ev_idx, ev_sl2, ev_sl3, ev_pcall, ev_mcall, ev_blt, ev_blt2, ev_isi, ev_lcF, ev_lqF, MQ.evs_nil, evs_cons, spl_lst, spl_tup, evs_star, evO_non, evO_som, evQ_of, evQ_rng1, evQ_rng2, evQ_rng3, evQ_zip2, evQ_zip3, evQ_enum, bnd_some, ex_asg, ex_asgs, ex_exp, ex_ret, ex_ite, ex_fr, exs_nil, exs_cons, seq_tup, seq_lst, seq_scr, map_some_, bt_nm, bt_tp, btp_nil, btp_cons, bind_ok, ofO_some, cmp_eq, cmp_ne, cmp_lt, cmp_le, cmp_gt, cmp_ge, op_add, op_sub, startE, List.map_cons, List.map_nil, List.length_cons, List.length_nil, List.replicate_succ, List.replicate_zero, Nat.reduceAdd, Nat.reduceSub, Nat.zero_add, List.cons_append, List.nil_append, List.getElem?_cons_zero, List.getElem?_cons_succ, List.set_cons_zero, List.set_cons_succ, cutO_lst, cutO_tup, cutO_scr, stepO_2, ev_lstM, ev_app, ev_ext, ev_rem, ev_frz, apT_some, apL_some, apV_lst, apR_ref, apO_some, memAt_hd, rs_hd, wipe_nil, wipe_cons, lcK_some, lcB_non, lcB_som, addO_some, addO_none, len_lst, len_tup, len_scr, tup_lst, lis_tup, lis_lst, if_true, if_false, Bool.false_eq_true, List.length_map]
      rw [if_neg (by decide), e]
    · have hss : s + s < 9000 := by
        have : (s + 1) * 1 ≤ (s + 1) * (l.length - 1) := Nat.mul_le_mul_left _ (by omega)
        omega
      have hmap : ∀ o2, mapR (lcB ⟨runF T.Γ (K+3)⟩ (.pcall false f_plus_of (.cons (.var 3) (.cons (.var 4) .nil))) (.tp [3, 4]) .non [some r, some (.lst (l.map fq)), o2, none, none]) (((ev l).zip (od l)).map (pairV fq fq)) m = .ok (((ev l).zip (od l)).map fun p => fq (p.1 + p.2)) m := fun o2 => by
        refine mapR_of fun p hp => ?_
        obtain ⟨h1, h2⟩ := List.of_mem_zip (a := p.1) (b := p.2) hp
        simp only [getE_some, brB_bl, brO_some, asB_bl, asN_bl, asNeg_int, asI_int, nxF_nx, nxF_rt, fin_rt, fin_nx, ite_bind, ite_and, ite_or, rs_int, rs_bl, rs_tup, rs_lst, rs_scr, rs_non, ev_var, ev_cst, ev_op, ev_neg, ev_cmp, ev_chain, ev_and, ev_or, ev_not, ev_ife, ev_tup, ev_lst, ev_idx, ev_sl2, ev_sl3, ev_pcall, ev_mcall, ev_blt, ev_blt2, ev_isi, ev_lcF, ev_lqF, MQ.evs_nil, evs_cons, spl_lst, spl_tup, evs_star, evO_non, evO_som, evQ_of, evQ_rng1, evQ_rng2, evQ_rng3, evQ_zip2, evQ_zip3, evQ_enum, bnd_some, ex_asg, ex_asgs, ex_exp, ex_ret, ex_ite, ex_fr, exs_nil, exs_cons, seq_tup, seq_lst, seq_scr, map_some_, bt_nm, bt_tp, btp_nil, btp_cons, bind_ok, ofO_some, cmp_eq, cmp_ne, cmp_lt, cmp_le, cmp_gt, cmp_ge, op_add, op_sub, startE, List.map_cons, List.map_nil, List.length_cons, List.length_nil, List.replicate_succ, List.replicate_zero, Nat.reduceAdd, Nat.reduceSub, Nat.zero_add, List.cons_append, List.nil_append, List.getElem?_cons_zero, List.getElem?_cons_succ, List.set_cons_zero, List.set_cons_succ, cutO_lst, cutO_tup, cutO_scr, stepO_2, ev_lstM, ev_app, ev_ext, ev_rem, ev_frz, apT_some, apL_some, apV_lst, apR_ref, apO_some, memAt_hd, rs_hd, wipe_nil, wipe_cons, lcK_some, lcB_non, lcB_som, addO_some, addO_none, len_lst, len_tup, len_scr, tup_lst, lis_tup, lis_lst, if_true, if_false, Bool.false_eq_true, pairV, p_plus_of (hq _ (ev_mem h1)) (hq _ (od_mem h2)) hss]
      have hz : ((ev l).zip (od l)).length ≤ 1000 := by
        have e1 := pr_len l
        have e2 := congrArg List.length (pr_zip l)
        rw [List.length_append, ← zip_zipWith, List.length_map] at e2
        omega
      have hc : decide ((1 : Int) < (l.length : Int)) = true := decide_eq_true (by omega)
      have hprl : (pr l).length < n := by rw [pr_len]; omega
      obtain ⟨o', e⟩ := w_total r n (pr l) (s + s + 1) (some (.lst ((if l.length % 2 = 1 then l.drop (l.length - 1) else []).map fq))) m (pr_ne h0) hprl (pr_sz hq) (by
        rw [pr_len]
        have h2 : ((l.length + 1) / 2 - 1) * 2 ≤ l.length - 1 := by omega
        have e3 : 2 * ((s + s + 1 + 1) * ((l.length + 1) / 2 - 1)) = 2 * ((s + 1) * (((l.length + 1) / 2 - 1) * 2)) := by
          have : s + s + 1 + 1 = (s + 1) * 2 := by omega
          rw [this, Nat.mul_assoc (s + 1) 2, Nat.mul_comm 2 ((l.length + 1) / 2 - 1)]
        rw [e3]
        exact Nat.lt_of_le_of_lt (Nat.mul_le_mul_left _ (Nat.mul_le_mul_left _ h2)) hs) (by rw [pr_len]; omega)
      refine ⟨o', ?_⟩
      rw [pr_sum] at e
      rw [pr_zip, List.map_append, ← zip_zipWith, List.map_map] at e
      rw [whl_step]
      have hcat : ∀ b : List Rat, b.length ≤ 1 → opV .add (.lst (((ev l).zip (od l)).map fun p => fq (p.1 + p.2))) (.lst (b.map fq)) = some (.lst ((((ev l).zip (od l)).map fun p => fq (p.1 + p.2)) ++ b.map fq)) := fun b hb => op_catL (Nat.le_trans (by rw [List.length_map, List.length_map]; exact Nat.add_le_add hz hb) (by decide))
      by_cases hpar : l.length % 2 = 1
      · have hp : decide (((l.length : Int).fmod 2) = 1) = true := decide_eq_true (by rw [Int.fmod_eq_emod_of_nonneg _ (by decide)]; omega)
        rw [if_pos hpar] at e
        have hct := hcat (l.drop (l.length - 1)) (by rw [List.length_drop]; omega)
        have hcl : cutL (l.map fq) (some (-1)) none = (l.drop (l.length - 1)).map fq := by rw [cut_last _ (by rw [List.length_map]; exact hlen), List.length_map, List.map_drop]
        simp only [getE_some, brB_bl, brO_some, asB_bl, asN_bl, asNeg_int, asI_int, nxF_nx, nxF_rt, fin_rt, fin_nx, ite_bind, ite_and, ite_or, rs_int, rs_bl, rs_tup, rs_lst, rs_scr, rs_non, ev_var, ev_cst, ev_op, ev_neg, ev_cmp, ev_chain, ev_and, ev_or, ev_not, ev_ife, ev_tup, ev_lst, ev_idx, ev_sl2, ev_sl3, ev_pcall, ev_mcall, ev_blt, ev_blt2, ev_isi, ev_lcF, ev_lqF, MQ.evs_nil, evs_cons, spl_lst, spl_tup, evs_star, evO_non, evO_som, evQ_of, evQ_rng1, evQ_rng2, evQ_rng3, evQ_zip2, evQ_zip3, evQ_enum, bnd_some, ex_asg, ex_asgs, ex_exp, ex_ret, ex_ite, ex_fr, exs_nil, exs_cons, seq_tup, seq_lst, seq_scr, map_some_, bt_nm, bt_tp, btp_nil, btp_cons, bind_ok, ofO_some, cmp_eq, cmp_ne, cmp_lt, cmp_le, cmp_gt, cmp_ge, op_add, op_sub, startE, List.map_cons, List.map_nil, List.length_cons, List.length_nil, List.replicate_succ, List.replicate_zero, Nat.reduceAdd, Nat.reduceSub, Nat.zero_add, List.cons_append, List.nil_append, List.getElem?_cons_zero, List.getElem?_cons_succ, List.set_cons_zero, List.set_cons_succ, cutO_lst, cutO_tup, cutO_scr, stepO_2, ev_lstM, ev_app, ev_ext, ev_rem, ev_frz, apT_some, apL_some, apV_lst, apR_ref, apO_some, memAt_hd, rs_hd, wipe_nil, wipe_cons, lcK_some, lcB_non, lcB_som, addO_some, addO_none, len_lst, len_tup, len_scr, tup_lst, lis_tup, lis_lst, if_true, if_false, Bool.false_eq_true, List.length_map, hc, c_PAIR, op_mod (show (2 : Int) ≠ 0 by decide), hp, hcl, pick_ev, pick_od, ev_map, od_map, zip2_mapP, hmap, hct, lpF_nx, ite_true]
        exact e
      · have hp : decide (((l.length : Int).fmod 2) = 1) = false := decide_eq_false (by rw [Int.fmod_eq_emod_of_nonneg _ (by decide)]; omega)
        rw [if_neg hpar] at e
        have hct := hcat [] (by decide)
        simp only [getE_some, brB_bl, brO_some, asB_bl, asN_bl, asNeg_int, asI_int, nxF_nx, nxF_rt, fin_rt, fin_nx, ite_bind, ite_and, ite_or, rs_int, rs_bl, rs_tup, rs_lst, rs_scr, rs_non, ev_var, ev_cst, ev_op, ev_neg, ev_cmp, ev_chain, ev_and, ev_or, ev_not, ev_ife, ev_tup, ev_lst, ev_idx, ev_sl2, ev_sl3, ev_pcall, ev_mcall, ev_blt, ev_blt2, ev_isi, ev_lcF, ev_lqF, MQ.evs_nil, evs_cons, spl_lst, spl_tup, evs_star, evO_non, evO_som, evQ_of, evQ_rng1, evQ_rng2, evQ_rng3, evQ_zip2, evQ_zip3, evQ_enum, bnd_some, ex_asg, ex_asgs, ex_exp, ex_ret, ex_ite, ex_fr, exs_nil, exs_cons, seq_tup, seq_lst, seq_scr, map_some_, bt_nm, bt_tp, btp_nil, btp_cons, bind_ok, ofO_some, cmp_eq, cmp_ne, cmp_lt, cmp_le, cmp_gt, cmp_ge, op_add, op_sub, startE, List.map_cons, List.map_nil, List.length_cons, List.length_nil, List.replicate_succ, List.replicate_zero, Nat.reduceAdd, Nat.reduceSub, Nat.zero_add, List.cons_append, List.nil_append, List.getElem?_cons_zero, List.getElem?_cons_succ, List.set_cons_zero, List.set_cons_succ, cutO_lst, cutO_tup, cutO_scr, stepO_2, ev_lstM, ev_app, ev_ext, ev_rem, ev_frz, apT_some, apL_some, apV_lst, apR_ref, apO_some, memAt_hd, rs_hd, wipe_nil, wipe_cons, lcK_some, lcB_non, lcB_som, addO_some, addO_none, len_lst, len_tup, len_scr, tup_lst, lis_tup, lis_lst, if_true, if_false, Bool.false_eq_true, List.length_map, hc, c_PAIR, op_mod (show (2 : Int) ≠ 0 by decide), hp, LL, Nat.zero_le, pick_ev, pick_od, ev_map, od_map, zip2_mapP, hmap, lpF_nx, ite_true]
        simp only [List.map_nil] at hct e
        simp only [getE_some, brB_bl, brO_some, asB_bl, asN_bl, asNeg_int, asI_int, nxF_nx, nxF_rt, fin_rt, fin_nx, ite_bind, ite_and, ite_or, rs_int, rs_bl, rs_tup, rs_lst, rs_scr, rs_non, ev_var, ev_cst, ev_op, ev_neg, ev_cmp, ev_chain, ev_and, ev_or, ev_not, ev_ife, ev_tup, ev_lst, ev_idx, ev_sl2, ev_sl3, ev_pcall, ev_mcall, ev_blt, ev_blt2, ev_isi, ev_lcF, ev_lqF, MQ.evs_nil, evs_cons, spl_lst, spl_tup, evs_star, evO_non, evO_som, evQ_of, evQ_rng1, evQ_rng2, evQ_rng3, evQ_zip2, evQ_zip3, evQ_enum, bnd_some, ex_asg, ex_asgs, ex_exp, ex_ret, ex_ite, ex_fr, exs_nil, exs_cons, seq_tup, seq_lst, seq_scr, map_some_, bt_nm, bt_tp, btp_nil, btp_cons, bind_ok, ofO_some, cmp_eq, cmp_ne, cmp_lt, cmp_le, cmp_gt, cmp_ge, op_add, op_sub, startE, List.map_cons, List.map_nil, List.length_cons, List.length_nil, List.replicate_succ, List.replicate_zero, Nat.reduceAdd, Nat.reduceSub, Nat.zero_add, List.cons_append, List.nil_append, List.getElem?_cons_zero, List.getElem?_cons_succ, List.set_cons_zero, List.set_cons_succ, cutO_lst, cutO_tup, cutO_scr, stepO_2, ev_lstM, ev_app, ev_ext, ev_rem, ev_frz, apT_some, apL_some, apV_lst, apR_ref, apO_some, memAt_hd, rs_hd, wipe_nil, wipe_cons, lcK_some, lcB_non, lcB_som, addO_some, addO_none, len_lst, len_tup, len_scr, tup_lst, lis_tup, lis_lst, if_true, if_false, Bool.false_eq_true, hct, lpF_nx]
        exact e
theorem p_total_of {K : Nat} {s : Nat} {qs : List Rat} {m : Mem} (hq : ∀ q ∈ qs, Sz s q) (hs : 2 * ((s + 1) * qs.length) < 9000) (hl : qs.length ≤ 900) (hs1 : 1 ≤ s) : pcallR ⟨runF T.Γ (K+4)⟩ false f_total_of [.tup (qs.map fq)] m = .ok (fq qs.sum) m := by
  refine pcall_id (.of (m := []) ?_ rfl) (by show (noRefs (qs.map fq) && true) = true; rw [noRefs_map noRef_fq]; rfl)
  rw [run_def g_total_of rfl]
  have z0 : Sz s 0 := ⟨Nat.pow_pos (by decide), Nat.lt_of_lt_of_le (by decide) (Nat.pow_le_pow_right (by decide) hs1)⟩
  obtain ⟨n, hn⟩ := FUEL_eq
  obtain ⟨o', e⟩ := w_total (K := K) (.tup (qs.map fq)) FUEL (qs ++ [0]) s none [] (by simp) (by rw [hn, List.length_append]; simp; omega) (fun q h => by
    rcases List.mem_append.mp h with z | z
    · exact hq q z
    · rw [List.mem_singleton.mp z]; exact z0) (by rw [List.length_append]; simpa using hs) (by rw [List.length_append]; simp; omega)
  have es : (qs ++ [0]).sum = qs.sum := by rw [List.sum_append, List.sum_cons, List.sum_nil, Rat.add_zero, Rat.add_zero]
  have ez : c_NOUGHT = fq 0 := rfl
  rw [es, List.map_append] at e
  have hz : (qs.map fq ++ [fq 0]).length ≤ LL := by rw [List.length_append, List.length_map]; exact Nat.le_trans (Nat.add_le_add hl (Nat.le_refl 1)) (by decide)
  have e0 : idxV (.lst [fq qs.sum]) (.int 0) = some (fq qs.sum) := idx_lst (i := 0) rfl
  simp only [List.map_cons, List.map_nil] at e
  simp only [b_total_of, getE_some, brB_bl, brO_some, asB_bl, asN_bl, asNeg_int, asI_int, nxF_nx, nxF_rt, fin_rt, fin_nx, ite_bind, ite_and, ite_or, rs_int, rs_bl, rs_tup, rs_lst, rs_scr, rs_non, ev_var, ev_cst, ev_op, ev_neg, ev_cmp, ev_chain, ev_and, ev_or, ev_not, ev_ife, ev_tup, ev_lst, ev_idx, ev_sl2, ev_sl3, ev_pcall, ev_mcall, ev_blt, ev_blt2, ev_isi, ev_lcF, ev_lqF, MQ.evs_nil, evs_cons, spl_lst, spl_tup, evs_star, evO_non, evO_som, evQ_of, evQ_rng1, evQ_rng2, evQ_rng3, evQ_zip2, evQ_zip3, evQ_enum, bnd_some, ex_asg, ex_asgs, ex_exp, ex_ret, ex_ite, ex_fr, exs_nil, exs_cons, seq_tup, seq_lst, seq_scr, map_some_, bt_nm, bt_tp, btp_nil, btp_cons, bind_ok, ofO_some, cmp_eq, cmp_ne, cmp_lt, cmp_le, cmp_gt, cmp_ge, op_add, op_sub, startE, List.map_cons, List.map_nil, List.length_cons, List.length_nil, List.replicate_succ, List.replicate_zero, Nat.reduceAdd, Nat.reduceSub, Nat.zero_add, List.cons_append, List.nil_append, List.getElem?_cons_zero, List.getElem?_cons_succ, List.set_cons_zero, List.set_cons_succ, cutO_lst, cutO_tup, cutO_scr, stepO_2, ev_lstM, ev_app, ev_ext, ev_rem, ev_frz, apT_some, apL_some, apV_lst, apR_ref, apO_some, memAt_hd, rs_hd, wipe_nil, wipe_cons, lcK_some, lcB_non, lcB_som, addO_some, addO_none, len_lst, len_tup, len_scr, tup_lst, lis_tup, lis_lst, if_true, if_false, Bool.false_eq_true, ez, hz, ex_whl, ite_true]
  rw [e]
  simp only [getE_some, brB_bl, brO_some, asB_bl, asN_bl, asNeg_int, asI_int, nxF_nx, nxF_rt, fin_rt, fin_nx, ite_bind, ite_and, ite_or, rs_int, rs_bl, rs_tup, rs_lst, rs_scr, rs_non, ev_var, ev_cst, ev_op, ev_neg, ev_cmp, ev_chain, ev_and, ev_or, ev_not, ev_ife, ev_tup, ev_lst, ev_idx, ev_sl2, ev_sl3, ev_pcall, ev_mcall, ev_blt, ev_blt2, ev_isi, ev_lcF, ev_lqF, MQ.evs_nil, evs_cons, spl_lst, spl_tup, evs_star, evO_non, evO_som, evQ_of, evQ_rng1, evQ_rng2, evQ_rng3, evQ_zip2, evQ_zip3, evQ_enum, bnd_some, ex_asg, ex_asgs, ex_exp, ex_ret, ex_ite, ex_fr, exs_nil, exs_cons, seq_tup, seq_lst, seq_scr, map_some_, bt_nm, bt_tp, btp_nil, btp_cons, bind_ok, ofO_some, cmp_eq, cmp_ne, cmp_lt, cmp_le, cmp_gt, cmp_ge, op_add, op_sub, startE, List.map_cons, List.map_nil, List.length_cons, List.length_nil, List.replicate_succ, List.replicate_zero, Nat.reduceAdd, Nat.reduceSub, Nat.zero_add, List.cons_append, List.nil_append, List.getElem?_cons_zero, List.getElem?_cons_succ, List.set_cons_zero, List.set_cons_succ, cutO_lst, cutO_tup, cutO_scr, stepO_2, ev_lstM, ev_app, ev_ext, ev_rem, ev_frz, apT_some, apL_some, apV_lst, apR_ref, apO_some, memAt_hd, rs_hd, wipe_nil, wipe_cons, lcK_some, lcB_non, lcB_som, addO_some, addO_none, len_lst, len_tup, len_scr, tup_lst, lis_tup, lis_lst, if_true, if_false, Bool.false_eq_true, e0]

end LW
namespace LW
open PySem PySem.Spec MP MQ
def nI (k : Nat) : Val := .int (k : Nat)
theorem w_ways {C : Calls} (v0 : Option Val) : ∀ (vs : List Val) (j : Nat) (o : Option Val) (m : Mem), j + vs.length ≤ 900 → ∃ o',
    frGo (.nm 2) (exSs C (.cons (.asg (.nm 1) (.lst false (.cons (.cst (.int 1)) (.star (.lc false (.op .add (.var 3) (.var 4)) (.tp [3, 4]) (.zip2 (.var 1) (.sl (.var 1) (.som (.cst (.int 1))) .non .non)) .non [3, 4]) (.cons (.cst (.int 1)) .nil))))) .nil)) vs [v0, some (.lst ((pas j).map nI)), o, none, none] m = .ok (.nx [v0, some (.lst ((pas (j + vs.length)).map nI)), o', none, none]) m
  | [], j, o, m, h => ⟨o, by rw [fr_nil]; rfl⟩
  | v :: vs, j, o, m, h => by
    simp only [List.length_cons] at h
    have e1 : j + (vs.length + 1) = (j + 1) + vs.length := by omega
    obtain ⟨o', e⟩ := w_ways (C := C) v0 vs (j + 1) (some v) m (by omega)
    refine ⟨o', ?_⟩
    rw [fr_cons]
    have hc : cutL ((pas j).map nI) (some 1) none = ((pas j).tail).map nI := by
      have := cut_from ((pas j).map nI) 1
      rw [← List.map_drop, List.drop_one] at this
      exact this
    have hmap : mapR (lcB C (.op .add (.var 3) (.var 4)) (.tp [3, 4]) .non [v0, some (.lst ((pas j).map nI)), some v, none, none]) (((pas j).zip (pas j).tail).map (pairV nI nI)) m = .ok (((pas j).zip (pas j).tail).map fun p => nI (p.1 + p.2)) m := mapR_of fun p hp => by
      simp only [getE_some, brB_bl, brO_some, asB_bl, asN_bl, asNeg_int, asI_int, nxF_nx, nxF_rt, fin_rt, fin_nx, ite_bind, ite_and, ite_or, rs_int, rs_bl, rs_tup, rs_lst, rs_scr, rs_non, ev_var, ev_cst, ev_op, ev_neg, ev_cmp, ev_chain, ev_and, ev_or, ev_not, ev_ife, ev_tup, ev_lst, ev_idx, ev_sl2, ev_sl3, ev_pcall, ev_mcall, ev_blt, ev_blt2, ev_isi, ev_lcF, ev_lqF, MQ.evs_nil, evs_cons, spl_lst, spl_tup, evs_star, evO_non, evO_som, evQ_of, evQ_rng1, evQ_rng2, evQ_rng3, evQ_zip2, evQ_zip3, evQ_enum, bnd_some, ex_asg, ex_asgs, ex_exp, ex_ret, ex_ite, ex_fr, exs_nil, exs_cons, seq_tup, seq_lst, seq_scr, map_some_, bt_nm, bt_tp, btp_nil, btp_cons, bind_ok, ofO_some, cmp_eq, cmp_ne, cmp_lt, cmp_le, cmp_gt, cmp_ge, op_add, op_sub, startE, List.map_cons, List.map_nil, List.length_cons, List.length_nil, List.replicate_succ, List.replicate_zero, Nat.reduceAdd, Nat.reduceSub, Nat.zero_add, List.cons_append, List.nil_append, List.getElem?_cons_zero, List.getElem?_cons_succ, List.set_cons_zero, List.set_cons_succ, cutO_lst, cutO_tup, cutO_scr, stepO_2, ev_lstM, ev_app, ev_ext, ev_rem, ev_frz, apT_some, apL_some, apV_lst, apR_ref, apO_some, memAt_hd, rs_hd, wipe_nil, wipe_cons, lcK_some, lcB_non, lcB_som, addO_some, addO_none, len_lst, len_tup, len_scr, tup_lst, lis_tup, lis_lst, if_true, if_false, Bool.false_eq_true, pairV, nI]
      have : ((p.1 : Int) + (p.2 : Int)) = ((p.1 + p.2 : Nat) : Int) := by omega
      rw [this]
    have hs : Val.int 1 :: ((((pas j).zip (pas j).tail).map fun p => nI (p.1 + p.2)) ++ [Val.int 1]) = (pas (j + 1)).map nI := by
      show _ = (1 :: (List.zipWith (· + ·) (pas j) (pas j).tail ++ [1])).map nI
      rw [List.map_cons, List.map_append, ← zip_zipWith, List.map_map]
      rfl
    have hl : (((pas (j + 1)).map nI).length ≤ LL) = True := by
      rw [List.length_map, pas_len]
      exact eq_true (Nat.le_trans (show j + 1 + 1 ≤ 1000 by omega) (by decide))
    simp only [getE_some, brB_bl, brO_some, asB_bl, asN_bl, asNeg_int, asI_int, nxF_nx, nxF_rt, fin_rt, fin_nx, ite_bind, ite_and, ite_or, rs_int, rs_bl, rs_tup, rs_lst, rs_scr, rs_non, ev_var, ev_cst, ev_op, ev_neg, ev_cmp, ev_chain, ev_and, ev_or, ev_not, ev_ife, ev_tup, ev_lst, ev_idx, ev_sl2, ev_sl3, ev_pcall, ev_mcall, ev_blt, ev_blt2, ev_isi, ev_lcF, ev_lqF, MQ.evs_nil, evs_cons, spl_lst, spl_tup, evs_star, evO_non, evO_som, evQ_of, evQ_rng1, evQ_rng2, evQ_rng3, evQ_zip2, evQ_zip3, evQ_enum, bnd_some, ex_asg, ex_asgs, ex_exp, ex_ret, ex_ite, ex_fr, exs_nil, exs_cons, seq_tup, seq_lst, seq_scr, map_some_, bt_nm, bt_tp, btp_nil, btp_cons, bind_ok, ofO_some, cmp_eq, cmp_ne, cmp_lt, cmp_le, cmp_gt, cmp_ge, op_add, op_sub, startE, List.map_cons, List.map_nil, List.length_cons, List.length_nil, List.replicate_succ, List.replicate_zero, Nat.reduceAdd, Nat.reduceSub, Nat.zero_add, List.cons_append, List.nil_append, List.getElem?_cons_zero, List.getElem?_cons_succ, List.set_cons_zero, List.set_cons_succ, cutO_lst, cutO_tup, cutO_scr, stepO_2, ev_lstM, ev_app, ev_ext, ev_rem, ev_frz, apT_some, apL_some, apV_lst, apR_ref, apO_some, memAt_hd, rs_hd, wipe_nil, wipe_cons, lcK_some, lcB_non, lcB_som, addO_some, addO_none, len_lst, len_tup, len_scr, tup_lst, lis_tup, lis_lst, if_true, if_false, Bool.false_eq_true, frB_some, hc, zip2_mapP, hmap, hl, hs, lpF_nx, ite_true]
    have e2 : j + (v :: vs).length = j + 1 + vs.length := by simp only [List.length_cons]; omega
    first
      | (rw [e1]; exact e)
      | (rw [e2]; exact e)
      | exact e
theorem p_ways_of {K n : Nat} {m : Mem} (hn : n ≤ 900) : pcallR ⟨runF T.Γ (K+1)⟩ false f_ways_of [.int (n : Nat)] m = .ok (.tup ((pas n).map nI)) m := by
  refine pcall_id (.of (m := []) ?_ (by show noRefs ((pas n).map nI) = true; exact noRefs_map (fun _ => rfl) _)) rfl
  rw [run_def g_ways_of rfl]
  obtain ⟨o', e⟩ := w_ways (C := ⟨runF T.Γ K⟩) (some (.int (n : Nat))) (rngL 0 n) 0 none [] (by rw [rngL_length]; omega)
  have e0 : (pas 0).map nI = [Val.int 1] := rfl
  rw [e0, rngL_length, Nat.zero_add] at e
  simp only [b_ways_of, getE_some, brB_bl, brO_some, asB_bl, asN_bl, asNeg_int, asI_int, nxF_nx, nxF_rt, fin_rt, fin_nx, ite_bind, ite_and, ite_or, rs_int, rs_bl, rs_tup, rs_lst, rs_scr, rs_non, ev_var, ev_cst, ev_op, ev_neg, ev_cmp, ev_chain, ev_and, ev_or, ev_not, ev_ife, ev_tup, ev_lst, ev_idx, ev_sl2, ev_sl3, ev_pcall, ev_mcall, ev_blt, ev_blt2, ev_isi, ev_lcF, ev_lqF, MQ.evs_nil, evs_cons, spl_lst, spl_tup, evs_star, evO_non, evO_som, evQ_of, evQ_rng1, evQ_rng2, evQ_rng3, evQ_zip2, evQ_zip3, evQ_enum, bnd_some, ex_asg, ex_asgs, ex_exp, ex_ret, ex_ite, ex_fr, exs_nil, exs_cons, seq_tup, seq_lst, seq_scr, map_some_, bt_nm, bt_tp, btp_nil, btp_cons, bind_ok, ofO_some, cmp_eq, cmp_ne, cmp_lt, cmp_le, cmp_gt, cmp_ge, op_add, op_sub, startE, List.map_cons, List.map_nil, List.length_cons, List.length_nil, List.replicate_succ, List.replicate_zero, Nat.reduceAdd, Nat.reduceSub, Nat.zero_add, List.cons_append, List.nil_append, List.getElem?_cons_zero, List.getElem?_cons_succ, List.set_cons_zero, List.set_cons_succ, cutO_lst, cutO_tup, cutO_scr, stepO_2, ev_lstM, ev_app, ev_ext, ev_rem, ev_frz, apT_some, apL_some, apV_lst, apR_ref, apO_some, memAt_hd, rs_hd, wipe_nil, wipe_cons, lcK_some, lcB_non, lcB_som, addO_some, addO_none, len_lst, len_tup, len_scr, tup_lst, lis_tup, lis_lst, if_true, if_false, Bool.false_eq_true, rng1_ok (show n ≤ 1000000 by omega), LL, Nat.reduceLeDiff, e, ite_true]
theorem p_check_many {K n : Nat} {m : Mem} (h1 : 1 ≤ n) (h2 : n ≤ 60) : pcallR ⟨runF T.Γ (K+3)⟩ false f_check_many [.int (n : Nat)] m = .ok .non m := by
  refine pcall_id (.of (m := []) ?_ rfl) rfl
  rw [run_def g_check_many rfl]
  have c : (decide ((1 : Int) ≤ (n : Int)) && decide ((n : Int) ≤ 60)) = true := by
    rw [Bool.and_eq_true]
    exact ⟨decide_eq_true (by omega), decide_eq_true (by omega)⟩
  simp only [b_check_many, getE_some, brB_bl, brO_some, asB_bl, asN_bl, asNeg_int, asI_int, nxF_nx, nxF_rt, fin_rt, fin_nx, ite_bind, ite_and, ite_or, rs_int, rs_bl, rs_tup, rs_lst, rs_scr, rs_non, ev_var, ev_cst, ev_op, ev_neg, ev_cmp, ev_chain, ev_and, ev_or, ev_not, ev_ife, ev_tup, ev_lst, ev_idx, ev_sl2, ev_sl3, ev_pcall, ev_mcall, ev_blt, ev_blt2, ev_isi, ev_lcF, ev_lqF, MQ.evs_nil, evs_cons, spl_lst, spl_tup, evs_star, evO_non, evO_som, evQ_of, evQ_rng1, evQ_rng2, evQ_rng3, evQ_zip2, evQ_zip3, evQ_enum, bnd_some, ex_asg, ex_asgs, ex_exp, ex_ret, ex_ite, ex_fr, exs_nil, exs_cons, seq_tup, seq_lst, seq_scr, map_some_, bt_nm, bt_tp, btp_nil, btp_cons, bind_ok, ofO_some, cmp_eq, cmp_ne, cmp_lt, cmp_le, cmp_gt, cmp_ge, op_add, op_sub, startE, List.map_cons, List.map_nil, List.length_cons, List.length_nil, List.replicate_succ, List.replicate_zero, Nat.reduceAdd, Nat.reduceSub, Nat.zero_add, List.cons_append, List.nil_append, List.getElem?_cons_zero, List.getElem?_cons_succ, List.set_cons_zero, List.set_cons_succ, cutO_lst, cutO_tup, cutO_scr, stepO_2, ev_lstM, ev_app, ev_ext, ev_rem, ev_frz, apT_some, apL_some, apV_lst, apR_ref, apO_some, memAt_hd, rs_hd, wipe_nil, wipe_cons, lcK_some, lcB_non, lcB_som, addO_some, addO_none, len_lst, len_tup, len_scr, tup_lst, lis_tup, lis_lst, if_true, if_false, Bool.false_eq_true, p_is_integer, c_MOST_COIN, c, Bool.not_true]
theorem p_check_point {K n s : Nat} {q : Rat} {m : Mem} (h1 : 1 ≤ n) (h2 : n ≤ 60) (hq : Sz s q) (hs : s ≤ 9900) (h0 : 0 ≤ q) (hq1 : q ≤ 1) : pcallR ⟨runF T.Γ (K+6)⟩ false f_check_point [.int (n : Nat), fq q] m = .ok .non m := by
  refine pcall_id (.of (m := []) ?_ rfl) rfl
  rw [run_def g_check_point rfl]
  simp only [b_check_point, getE_some, brB_bl, brO_some, asB_bl, asN_bl, asNeg_int, asI_int, nxF_nx, nxF_rt, fin_rt, fin_nx, ite_bind, ite_and, ite_or, rs_int, rs_bl, rs_tup, rs_lst, rs_scr, rs_non, ev_var, ev_cst, ev_op, ev_neg, ev_cmp, ev_chain, ev_and, ev_or, ev_not, ev_ife, ev_tup, ev_lst, ev_idx, ev_sl2, ev_sl3, ev_pcall, ev_mcall, ev_blt, ev_blt2, ev_isi, ev_lcF, ev_lqF, MQ.evs_nil, evs_cons, spl_lst, spl_tup, evs_star, evO_non, evO_som, evQ_of, evQ_rng1, evQ_rng2, evQ_rng3, evQ_zip2, evQ_zip3, evQ_enum, bnd_some, ex_asg, ex_asgs, ex_exp, ex_ret, ex_ite, ex_fr, exs_nil, exs_cons, seq_tup, seq_lst, seq_scr, map_some_, bt_nm, bt_tp, btp_nil, btp_cons, bind_ok, ofO_some, cmp_eq, cmp_ne, cmp_lt, cmp_le, cmp_gt, cmp_ge, op_add, op_sub, startE, List.map_cons, List.map_nil, List.length_cons, List.length_nil, List.replicate_succ, List.replicate_zero, Nat.reduceAdd, Nat.reduceSub, Nat.zero_add, List.cons_append, List.nil_append, List.getElem?_cons_zero, List.getElem?_cons_succ, List.set_cons_zero, List.set_cons_succ, cutO_lst, cutO_tup, cutO_scr, stepO_2, ev_lstM, ev_app, ev_ext, ev_rem, ev_frz, apT_some, apL_some, apV_lst, apR_ref, apO_some, memAt_hd, rs_hd, wipe_nil, wipe_cons, lcK_some, lcB_non, lcB_som, addO_some, addO_none, len_lst, len_tup, len_scr, tup_lst, lis_tup, lis_lst, if_true, if_false, Bool.false_eq_true, p_check_many h1 h2, p_check_share hq hs h0 hq1]
theorem ch_pas {n k : Nat} (h : k < n + 1) : (pas n)[k]? = some (ch n k) := by
  unfold ch
  rw [List.getD_eq_getElem?_getD, List.getElem?_eq_getElem (by rw [pas_len]; exact h)]
  rfl
theorem ch_le (n k : Nat) : ch n k ≤ 2 ^ n := by
  induction n generalizing k with
  | zero =>
    cases k with
    | zero => decide
    | succ k => rw [ch_zero']; decide
  | succ n ih =>
    cases k with
    | zero => rw [ch_zero]; exact Nat.one_le_two_pow
    | succ k =>
      rw [ch_succ, Nat.pow_succ]
      have := ih k
      have := ih (k + 1)
      omega
theorem enum_drop : ∀ (l : List Nat) (k : Nat), enumV k (l.map nI) = (l.zipIdx k).map fun p => Val.tup [.int (p.2 : Nat), nI p.1]
  | [], k => rfl
  | a :: l, k => by
    show Val.tup [.int (k : Nat), nI a] :: enumV (k + 1) (l.map nI) = _
    rw [enum_drop l (k + 1)]
    rfl
theorem w_chances {K n s : Nat} {q : Rat} (hn : n ≤ 60) (hs1 : 1 ≤ s) (hs : s ≤ 100) (hq : Sz s q) (h1 : q ≤ 1) (h0 : 0 ≤ q) (v1 : Option Val) : ∀ (l : List Nat) (k : Nat) (acc : List Rat) (a b : Option Val), (∀ i, i < l.length → l[i]? = some (ch n (k + i))) → k + l.length ≤ n + 1 → acc.length = k → ∃ a' b',
    frGo (.tp [6, 7]) (exSs ⟨runF T.Γ (K+2)⟩ (.cons (.exp (.app (.var 5) (.pcall false f_ratio_of (.cons (.op .mul (.op .mul (.var 7) (.pcall false f_whole_power (.cons (.var 2) (.cons (.var 6) .nil)))) (.pcall false f_whole_power (.cons (.var 3) (.cons (.op .sub (.var 0) (.var 6)) .nil)))) (.cons (.var 4) .nil))))) .nil)) ((l.zipIdx k).map fun p => Val.tup [.int (p.2 : Nat), nI p.1])
      [some (.int (n : Nat)), v1, some (.int q.num), some (.int ((q.den : Int) - q.num)), some (.int ((q.den : Int) ^ n)), some (.ref 0), a, b] [.lst (acc.map fq)] =
    .ok (.nx [some (.int (n : Nat)), v1, some (.int q.num), some (.int ((q.den : Int) - q.num)), some (.int ((q.den : Int) ^ n)), some (.ref 0), a', b']) [.lst ((acc ++ (List.range l.length).map fun i => pmf n q (k + i)).map fq)]
  | [], k, acc, a, b, _, _, _ => ⟨a, b, by
    rw [List.zipIdx_nil, List.map_nil, fr_nil, List.length_nil, List.range_zero, List.map_nil, List.append_nil]⟩
  | w :: l, k, acc, a, b, hl, hk, ha => by
    have ew : w = ch n k := by
      have := hl 0 (by simp)
      simpa using this
    simp only [List.length_cons] at hk
    obtain ⟨a', b', e⟩ := w_chances (K := K) hn hs1 hs hq h1 h0 v1 l (k + 1) (acc ++ [pmf n q k]) (some (.int (k : Nat))) (some (nI w)) (fun i hi => by
      have := hl (i + 1) (by simp; omega)
      rw [show k + 1 + i = k + (i + 1) from by omega]
      simpa using this) (by omega) (by rw [List.length_append, ha]; rfl)
    refine ⟨a', b', ?_⟩
    have hnum : q.num ≤ (q.den : Int) := by
      have := (Rat.le_iff q 1).mp h1
      simpa using this
    have hnn : 0 ≤ q.num := Rat.num_nonneg.mpr h0
    have b1 : q.num.natAbs ≤ 2 ^ s := Nat.le_of_lt hq.1
    have b2 : ((q.den : Int) - q.num).natAbs ≤ 2 ^ s := by have := hq.2; omega
    have b3 : (q.den : Int).natAbs ≤ 2 ^ s := by rw [Int.natAbs_natCast]; exact Nat.le_of_lt hq.2
    have hsk : s * k ≤ 100 * 60 := Nat.mul_le_mul hs (by omega)
    have hsn : s * (n - k) ≤ 100 * 60 := Nat.mul_le_mul hs (by omega)
    have hsN : s * n ≤ 100 * 60 := Nat.mul_le_mul hs hn
    have p1 := fun m => p_whole_power (K := K + 1) (m := m) (n := k) b1 (by omega) (by omega) (by omega)
    have p2 := fun m => p_whole_power (K := K + 1) (m := m) (n := n - k) b2 (by omega) (by omega) (by omega)
    have en : ((n : Int) - (k : Int)) = ((n - k : Nat) : Int) := by omega
    have w1 : (ch n k : Int).natAbs < 2 ^ (n + 1) := by rw [Int.natAbs_natCast]; exact lt_succ_pow (ch_le n k)
    have q1 := lt_succ_pow (pow_le b1 k)
    have q2 := lt_succ_pow (pow_le b2 (n - k))
    have q3 := lt_succ_pow (pow_le b3 n)
    have c1 : mulOk (ch n k) (q.num ^ k) = true := mulOk_of w1 q1 (by omega)
    have c2 : mulOk ((ch n k : Int) * q.num ^ k) (((q.den : Int) - q.num) ^ (n - k)) = true := mulOk_of (s := n + 1 + (s * k + 1)) (by rw [Int.natAbs_mul]; exact mul_lt_pow w1 q1) q2 (by omega)
    have hdp : 0 < (q.den : Int) ^ n := Int.pow_pos (den_pos q)
    have pr := fun m => p_ratio_of (K := K) (m := m) (a := (ch n k : Int) * q.num ^ k * ((q.den : Int) - q.num) ^ (n - k)) hdp q3 (by omega)
    have hLL : ((acc.map fq).length < LL) = True := by
      rw [List.length_map, ha]
      exact eq_true (Nat.lt_of_lt_of_le (show k < 1001 by omega) (by decide))
    rw [List.zipIdx_cons, List.map_cons, fr_cons]
    simp only [getE_some, brB_bl, brO_some, asB_bl, asN_bl, asNeg_int, asI_int, nxF_nx, nxF_rt, fin_rt, fin_nx, ite_bind, ite_and, ite_or, rs_int, rs_bl, rs_tup, rs_lst, rs_scr, rs_non, ev_var, ev_cst, ev_op, ev_neg, ev_cmp, ev_chain, ev_and, ev_or, ev_not, ev_ife, ev_tup, ev_lst, ev_idx, ev_sl2, ev_sl3, ev_pcall, ev_mcall, ev_blt, ev_blt2, ev_isi, ev_lcF, ev_lqF, MQ.evs_nil, evs_cons, spl_lst, spl_tup, evs_star, evO_non, evO_som, evQ_of, evQ_rng1, evQ_rng2, evQ_rng3, evQ_zip2, evQ_zip3, evQ_enum, bnd_some, ex_asg, ex_asgs, ex_exp, ex_ret, ex_ite, ex_fr, exs_nil, exs_cons, seq_tup, seq_lst, seq_scr, map_some_, bt_nm, bt_tp, btp_nil, btp_cons, bind_ok, ofO_some, cmp_eq, cmp_ne, cmp_lt, cmp_le, cmp_gt, cmp_ge, op_add, op_sub, startE, List.map_cons, List.map_nil, List.length_cons, List.length_nil, List.replicate_succ, List.replicate_zero, Nat.reduceAdd, Nat.reduceSub, Nat.zero_add, List.cons_append, List.nil_append, List.getElem?_cons_zero, List.getElem?_cons_succ, List.set_cons_zero, List.set_cons_succ, cutO_lst, cutO_tup, cutO_scr, stepO_2, ev_lstM, ev_app, ev_ext, ev_rem, ev_frz, apT_some, apL_some, apV_lst, apR_ref, apO_some, memAt_hd, rs_hd, wipe_nil, wipe_cons, lcK_some, lcB_non, lcB_som, addO_some, addO_none, len_lst, len_tup, len_scr, tup_lst, lis_tup, lis_lst, if_true, if_false, Bool.false_eq_true, frB_some, nI, ew, p1, p2, en, op_mul c1, op_mul c2, pr, chance_eq q (show k ≤ n by omega) (ch n k), hLL, lpF_nx, ite_true]
    rw [List.map_append] at e
    have e2 : (acc ++ (List.range (l.length + 1)).map fun i => pmf n q (k + i)) = (acc ++ [pmf n q k]) ++ (List.range l.length).map fun i => pmf n q (k + 1 + i) := by
      rw [List.range_succ_eq_map, List.map_cons, List.map_map, List.append_assoc]
      congr 1
      show pmf n q k :: _ = pmf n q k :: _
      congr 1
      refine List.map_congr_left fun i _ => ?_
      show pmf n q (k + (i + 1)) = _
      congr 1
      omega
    rw [e2]
    rw [ew] at e
    exact e
def pmfs (n : Nat) (q : Rat) : List Rat := (List.range (n + 1)).map (pmf n q)
theorem p_chances_of {K n s : Nat} {q : Rat} {m : Mem} (hn : n ≤ 60) (hs1 : 1 ≤ s) (hs : s ≤ 100) (hq : Sz s q) (h0 : 0 ≤ q) (h1 : q ≤ 1) : pcallR ⟨runF T.Γ (K+3)⟩ false f_chances_of [.int (n : Nat), fq q] m = .ok (.tup ((pmfs n q).map fq)) m := by
  refine pcall_id ?_ rfl
  refine .of (v := .tup ((pmfs n q).map fq)) (m := [.lst ((pmfs n q).map fq)]) ?_ (by show noRefs ((pmfs n q).map fq) = true; exact noRefs_map noRef_fq _)
  rw [run_def g_chances_of rfl]
  obtain ⟨a', b', e⟩ := w_chances (K := K) hn hs1 hs hq h1 h0 (some (fq q)) (pas n) 0 [] none none (fun i hi => by
    rw [Nat.zero_add]
    exact ch_pas (by rw [pas_len] at hi; exact hi)) (by rw [pas_len]; omega) rfl
  have b3 : (q.den : Int).natAbs ≤ 2 ^ s := by rw [Int.natAbs_natCast]; exact Nat.le_of_lt hq.2
  have hsN : s * n ≤ 100 * 60 := Nat.mul_le_mul hs hn
  have p1 := fun m => p_whole_power (K := K + 1) (m := m) (n := n) b3 (by omega) (by omega) (by omega)
  have hpm : ((List.range (pas n).length).map fun i => pmf n q (0 + i)) = pmfs n q := by
    rw [pas_len]
    exact List.map_congr_left fun i _ => by rw [Nat.zero_add]
  rw [hpm, List.nil_append, ← enum_drop, List.map_nil] at e
  have efq : fq q = .tup [.int q.num, .int q.den] := rfl
  have i0 : idxV (fq q) (.int 0) = some (.int q.num) := by rw [efq]; exact idx_tup (i := 0) rfl
  have i1 : idxV (fq q) (.int 1) = some (.int q.den) := by rw [efq]; exact idx_tup (i := 1) rfl
  have r0 : ∀ m, rs m (fq q) = fq q := fun m => rs_of (noRef_fq q)
  simp only [b_chances_of, getE_some, brB_bl, brO_some, asB_bl, asN_bl, asNeg_int, asI_int, nxF_nx, nxF_rt, fin_rt, fin_nx, ite_bind, ite_and, ite_or, rs_int, rs_bl, rs_tup, rs_lst, rs_scr, rs_non, ev_var, ev_cst, ev_op, ev_neg, ev_cmp, ev_chain, ev_and, ev_or, ev_not, ev_ife, ev_tup, ev_lst, ev_idx, ev_sl2, ev_sl3, ev_pcall, ev_mcall, ev_blt, ev_blt2, ev_isi, ev_lcF, ev_lqF, MQ.evs_nil, evs_cons, spl_lst, spl_tup, evs_star, evO_non, evO_som, evQ_of, evQ_rng1, evQ_rng2, evQ_rng3, evQ_zip2, evQ_zip3, evQ_enum, bnd_some, ex_asg, ex_asgs, ex_exp, ex_ret, ex_ite, ex_fr, exs_nil, exs_cons, seq_tup, seq_lst, seq_scr, map_some_, bt_nm, bt_tp, btp_nil, btp_cons, bind_ok, ofO_some, cmp_eq, cmp_ne, cmp_lt, cmp_le, cmp_gt, cmp_ge, op_add, op_sub, startE, List.map_cons, List.map_nil, List.length_cons, List.length_nil, List.replicate_succ, List.replicate_zero, Nat.reduceAdd, Nat.reduceSub, Nat.zero_add, List.cons_append, List.nil_append, List.getElem?_cons_zero, List.getElem?_cons_succ, List.set_cons_zero, List.set_cons_succ, cutO_lst, cutO_tup, cutO_scr, stepO_2, ev_lstM, ev_app, ev_ext, ev_rem, ev_frz, apT_some, apL_some, apV_lst, apR_ref, apO_some, memAt_hd, rs_hd, wipe_nil, wipe_cons, lcK_some, lcB_non, lcB_som, addO_some, addO_none, len_lst, len_tup, len_scr, tup_lst, lis_tup, lis_lst, if_true, if_false, Bool.false_eq_true, r0, i0, i1, p1, p_ways_of (show n ≤ 900 by omega), LL, Nat.zero_le, e, ite_true]
/-- the chance of k and more -/
def tail (n : Nat) (q : Rat) (k : Nat) : Rat := ((pmfs n q).drop k).sum
theorem pmf_sz {n k s : Nat} {q : Rat} (hq : Sz s q) (h0 : 0 ≤ q) (h1 : q ≤ 1) (hk : k ≤ n) : Sz (n + 1 + (s * n + 1) + (s * n + 1)) (pmf n q k) := by
  have hnum : q.num ≤ (q.den : Int) := by
    have := (Rat.le_iff q 1).mp h1
    simpa using this
  have hnn : 0 ≤ q.num := Rat.num_nonneg.mpr h0
  have b1 : q.num.natAbs ≤ 2 ^ s := Nat.le_of_lt hq.1
  have b2 : ((q.den : Int) - q.num).natAbs ≤ 2 ^ s := by have := hq.2; omega
  have b3 : (q.den : Int).natAbs ≤ 2 ^ s := by rw [Int.natAbs_natCast]; exact Nat.le_of_lt hq.2
  have w1 : (ch n k : Int).natAbs < 2 ^ (n + 1) := by rw [Int.natAbs_natCast]; exact lt_succ_pow (ch_le n k)
  have q1 : (q.num ^ k).natAbs < 2 ^ (s * n + 1) := Nat.lt_of_lt_of_le (lt_succ_pow (pow_le b1 k)) (Nat.pow_le_pow_right (by decide) (Nat.succ_le_succ (Nat.mul_le_mul_left _ hk)))
  have q2 : (((q.den : Int) - q.num) ^ (n - k)).natAbs < 2 ^ (s * n + 1) := Nat.lt_of_lt_of_le (lt_succ_pow (pow_le b2 (n - k))) (Nat.pow_le_pow_right (by decide) (Nat.succ_le_succ (Nat.mul_le_mul_left _ (Nat.sub_le n k))))
  have q3 := lt_succ_pow (pow_le b3 n)
  have := chance_eq q hk (ch n k)
  unfold pmf
  rw [← this]
  refine sz_div (Int.pow_pos (den_pos q)) ?_ (Nat.lt_of_lt_of_le q3 (Nat.pow_le_pow_right (by decide) (by omega)))
  rw [Int.natAbs_mul]
  exact mul_lt_pow (by rw [Int.natAbs_mul]; exact mul_lt_pow w1 q1) q2
theorem p_table_up {K n s : Nat} {q : Rat} {m : Mem} (h1n : 1 ≤ n) (hn : n ≤ 6) (hs1 : 1 ≤ s) (hs : s ≤ 30) (hq : Sz s q) (h0 : 0 ≤ q) (h1 : q ≤ 1) : pcallR ⟨runF T.Γ (K+7)⟩ false f_table_up [.int (n : Nat), fq q] m = .ok (.tup (((List.range (n + 1)).map (tail n q)).map fq)) m := by
  refine pcall_id ?_ rfl
  refine .of (m := []) ?_ (by show noRefs (((List.range (n + 1)).map (tail n q)).map fq) = true; exact noRefs_map noRef_fq _)
  rw [run_def g_table_up rfl]
  have hr : rng1V (.int ((n : Int) + 1)) = some ((List.range (n + 1)).map fun k => Val.int (k : Nat)) := by
    have := rng1_ok (n := n + 1) (by omega)
    rw [rngL_zero] at this
    exact this
  have hsn : s * n ≤ 30 * 6 := Nat.mul_le_mul hs hn
  have hmap : ∀ a, mapR (lcB ⟨runF T.Γ (K+6)⟩ (.pcall false f_total_of (.cons (.sl (.var 2) (.som (.var 3)) .non .non) .nil)) (.nm 3) .non [some (.int (n : Nat)), a, some (.tup ((pmfs n q).map fq)), none]) ((List.range (n + 1)).map fun k => Val.int (k : Nat)) [] = .ok ((List.range (n + 1)).map fun k => fq (tail n q k)) [] := fun a =>
    mapR_of fun k hk => by
      have hk := List.mem_range.mp hk
      have hc : cutL ((pmfs n q).map fq) (some (k : Int)) none = ((pmfs n q).drop k).map fq := by rw [cut_from, List.map_drop]
      have pt := fun m => p_total_of (K := K + 2) (m := m) (s := n + 1 + (s * n + 1) + (s * n + 1)) (qs := (pmfs n q).drop k) (fun x hx => by
        have hx := List.mem_of_mem_drop hx
        obtain ⟨i, hi, rfl⟩ := List.mem_map.mp hx
        exact pmf_sz hq h0 h1 (by have := List.mem_range.mp hi; omega)) (by
        rw [List.length_drop]
        have : (pmfs n q).length ≤ 7 := by unfold pmfs; rw [List.length_map, List.length_range]; omega
        have h2 : (n + 1 + (s * n + 1) + (s * n + 1) + 1) * ((pmfs n q).length - k) ≤ 370 * 7 := Nat.mul_le_mul (by omega) (by omega)
        omega) (by rw [List.length_drop]; unfold pmfs; rw [List.length_map, List.length_range]; omega) (by omega)
      simp only [getE_some, brB_bl, brO_some, asB_bl, asN_bl, asNeg_int, asI_int, nxF_nx, nxF_rt, fin_rt, fin_nx, ite_bind, ite_and, ite_or, rs_int, rs_bl, rs_tup, rs_lst, rs_scr, rs_non, ev_var, ev_cst, ev_op, ev_neg, ev_cmp, ev_chain, ev_and, ev_or, ev_not, ev_ife, ev_tup, ev_lst, ev_idx, ev_sl2, ev_sl3, ev_pcall, ev_mcall, ev_blt, ev_blt2, ev_isi, ev_lcF, ev_lqF, MQ.evs_nil, evs_cons, spl_lst, spl_tup, evs_star, evO_non, evO_som, evQ_of, evQ_rng1, evQ_rng2, evQ_rng3, evQ_zip2, evQ_zip3, evQ_enum, bnd_some, ex_asg, ex_asgs, ex_exp, ex_ret, ex_ite, ex_fr, exs_nil, exs_cons, seq_tup, seq_lst, seq_scr, map_some_, bt_nm, bt_tp, btp_nil, btp_cons, bind_ok, ofO_some, cmp_eq, cmp_ne, cmp_lt, cmp_le, cmp_gt, cmp_ge, op_add, op_sub, startE, List.map_cons, List.map_nil, List.length_cons, List.length_nil, List.replicate_succ, List.replicate_zero, Nat.reduceAdd, Nat.reduceSub, Nat.zero_add, List.cons_append, List.nil_append, List.getElem?_cons_zero, List.getElem?_cons_succ, List.set_cons_zero, List.set_cons_succ, cutO_lst, cutO_tup, cutO_scr, stepO_2, ev_lstM, ev_app, ev_ext, ev_rem, ev_frz, apT_some, apL_some, apV_lst, apR_ref, apO_some, memAt_hd, rs_hd, wipe_nil, wipe_cons, lcK_some, lcB_non, lcB_som, addO_some, addO_none, len_lst, len_tup, len_scr, tup_lst, lis_tup, lis_lst, if_true, if_false, Bool.false_eq_true, hc, pt, tail]
  have en : ((n : Int) + 1) = ((n + 1 : Nat) : Int) := by omega
  simp only [b_table_up, getE_some, brB_bl, brO_some, asB_bl, asN_bl, asNeg_int, asI_int, nxF_nx, nxF_rt, fin_rt, fin_nx, ite_bind, ite_and, ite_or, rs_int, rs_bl, rs_tup, rs_lst, rs_scr, rs_non, ev_var, ev_cst, ev_op, ev_neg, ev_cmp, ev_chain, ev_and, ev_or, ev_not, ev_ife, ev_tup, ev_lst, ev_idx, ev_sl2, ev_sl3, ev_pcall, ev_mcall, ev_blt, ev_blt2, ev_isi, ev_lcF, ev_lqF, MQ.evs_nil, evs_cons, spl_lst, spl_tup, evs_star, evO_non, evO_som, evQ_of, evQ_rng1, evQ_rng2, evQ_rng3, evQ_zip2, evQ_zip3, evQ_enum, bnd_some, ex_asg, ex_asgs, ex_exp, ex_ret, ex_ite, ex_fr, exs_nil, exs_cons, seq_tup, seq_lst, seq_scr, map_some_, bt_nm, bt_tp, btp_nil, btp_cons, bind_ok, ofO_some, cmp_eq, cmp_ne, cmp_lt, cmp_le, cmp_gt, cmp_ge, op_add, op_sub, startE, List.map_cons, List.map_nil, List.length_cons, List.length_nil, List.replicate_succ, List.replicate_zero, Nat.reduceAdd, Nat.reduceSub, Nat.zero_add, List.cons_append, List.nil_append, List.getElem?_cons_zero, List.getElem?_cons_succ, List.set_cons_zero, List.set_cons_succ, cutO_lst, cutO_tup, cutO_scr, stepO_2, ev_lstM, ev_app, ev_ext, ev_rem, ev_frz, apT_some, apL_some, apV_lst, apR_ref, apO_some, memAt_hd, rs_hd, wipe_nil, wipe_cons, lcK_some, lcB_non, lcB_som, addO_some, addO_none, len_lst, len_tup, len_scr, tup_lst, lis_tup, lis_lst, if_true, if_false, Bool.false_eq_true, p_check_point h1n (show n ≤ 60 by omega) hq (show s ≤ 9900 by omega) h0 h1, p_chances_of (show n ≤ 60 by omega) hs1 (show s ≤ 100 by omega) hq h0 h1, hr, hmap, List.map_map]
  rfl

end LW
namespace LW
open PySem PySem.Spec MP MQ
/-! ### the law's own fractions -/
theorem p__law_gcd {K : Nat} {a b : Int} {m : Mem} (hb : b.natAbs < 2 ^ 99999) : pcallR ⟨runF T.Γ (K+1)⟩ false f__law_gcd [.int a, .int b] m = .ok (.int (Int.gcd a b)) m := by
  refine pcall_id (.of (m := []) ?_ rfl) rfl
  rw [run_def g__law_gcd rfl]
  obtain ⟨F, hF, _, hN⟩ := FUEL_ex
  obtain ⟨g, e1, e2⟩ := w_common (C := ⟨runF T.Γ K⟩) F a b [] (Nat.lt_trans hb hN)
  have e3 : (if g < 0 then -g else g) = (Int.gcd a b : Int) := by rw [← e1]; split <;> omega
  simp only [b__law_gcd, getE_some, brB_bl, brO_some, asB_bl, asN_bl, asNeg_int, asI_int, nxF_nx, nxF_rt, fin_rt, fin_nx, ite_bind, ite_and, ite_or, rs_int, rs_bl, rs_tup, rs_lst, rs_scr, rs_non, ev_var, ev_cst, ev_op, ev_neg, ev_cmp, ev_chain, ev_and, ev_or, ev_not, ev_ife, ev_tup, ev_lst, ev_idx, ev_sl2, ev_sl3, ev_pcall, ev_mcall, ev_blt, ev_blt2, ev_isi, ev_lcF, ev_lqF, MQ.evs_nil, evs_cons, spl_lst, spl_tup, evs_star, evO_non, evO_som, evQ_of, evQ_rng1, evQ_rng2, evQ_rng3, evQ_zip2, evQ_zip3, evQ_enum, bnd_some, ex_asg, ex_asgs, ex_exp, ex_ret, ex_ite, ex_fr, exs_nil, exs_cons, seq_tup, seq_lst, seq_scr, map_some_, bt_nm, bt_tp, btp_nil, btp_cons, bind_ok, ofO_some, cmp_eq, cmp_ne, cmp_lt, cmp_le, cmp_gt, cmp_ge, op_add, op_sub, startE, List.map_cons, List.map_nil, List.length_cons, List.length_nil, List.replicate_succ, List.replicate_zero, Nat.reduceAdd, Nat.reduceSub, Nat.zero_add, List.cons_append, List.nil_append, List.getElem?_cons_zero, List.getElem?_cons_succ, List.set_cons_zero, List.set_cons_succ, cutO_lst, cutO_tup, cutO_scr, stepO_2, ev_lstM, ev_app, ev_ext, ev_rem, ev_frz, apT_some, apL_some, apV_lst, apR_ref, apO_some, memAt_hd, rs_hd, wipe_nil, wipe_cons, lcK_some, lcB_non, lcB_som, addO_some, addO_none, len_lst, len_tup, len_scr, tup_lst, lis_tup, lis_lst, if_true, if_false, Bool.false_eq_true, hF, e2, bltV, absV, e3]
theorem p__law_ratio {K : Nat} {a b : Int} {s : Nat} {m : Mem} (hb : 0 < b) (hs : b.natAbs < 2 ^ s) (h9 : s < 9000) : pcallR ⟨runF T.Γ (K+2)⟩ false f__law_ratio [.int a, .int b] m = .ok (fq (Rat.divInt a b)) m := by
  refine pcall_id (.of (m := []) ?_ rfl) rfl
  rw [run_def g__law_ratio rfl]
  have h1 : b.natAbs < 2 ^ 99999 := Nat.lt_of_lt_of_le hs (Nat.pow_le_pow_right (by decide) (by omega))
  have hg : (Int.gcd a b : Int).natAbs < 2 ^ s := Nat.lt_of_le_of_lt (by rw [Int.natAbs_natCast]; exact gcd_le' hb) hs
  have hd : divOk (Int.gcd a b : Int) = true := divOk_of (s := s) (gcd_pos' hb) hg h9
  have hm : mulOk (Int.gcd a b : Int) 1 = true := mulOk_of (s := s) (t := 1) hg (by decide) (by omega)
  have hn : decide (0 < b) = true := decide_eq_true hb
  simp only [b__law_ratio, getE_some, brB_bl, brO_some, asB_bl, asN_bl, asNeg_int, asI_int, nxF_nx, nxF_rt, fin_rt, fin_nx, ite_bind, ite_and, ite_or, rs_int, rs_bl, rs_tup, rs_lst, rs_scr, rs_non, ev_var, ev_cst, ev_op, ev_neg, ev_cmp, ev_chain, ev_and, ev_or, ev_not, ev_ife, ev_tup, ev_lst, ev_idx, ev_sl2, ev_sl3, ev_pcall, ev_mcall, ev_blt, ev_blt2, ev_isi, ev_lcF, ev_lqF, MQ.evs_nil, evs_cons, spl_lst, spl_tup, evs_star, evO_non, evO_som, evQ_of, evQ_rng1, evQ_rng2, evQ_rng3, evQ_zip2, evQ_zip3, evQ_enum, bnd_some, ex_asg, ex_asgs, ex_exp, ex_ret, ex_ite, ex_fr, exs_nil, exs_cons, seq_tup, seq_lst, seq_scr, map_some_, bt_nm, bt_tp, btp_nil, btp_cons, bind_ok, ofO_some, cmp_eq, cmp_ne, cmp_lt, cmp_le, cmp_gt, cmp_ge, op_add, op_sub, startE, List.map_cons, List.map_nil, List.length_cons, List.length_nil, List.replicate_succ, List.replicate_zero, Nat.reduceAdd, Nat.reduceSub, Nat.zero_add, List.cons_append, List.nil_append, List.getElem?_cons_zero, List.getElem?_cons_succ, List.set_cons_zero, List.set_cons_succ, cutO_lst, cutO_tup, cutO_scr, stepO_2, ev_lstM, ev_app, ev_ext, ev_rem, ev_frz, apT_some, apL_some, apV_lst, apR_ref, apO_some, memAt_hd, rs_hd, wipe_nil, wipe_cons, lcK_some, lcB_non, lcB_som, addO_some, addO_none, len_lst, len_tup, len_scr, tup_lst, lis_tup, lis_lst, if_true, if_false, Bool.false_eq_true, p__law_gcd h1, hn, op_mul hm, Int.mul_one, op_fdiv hd, div_num hb, div_den hb, LL, Nat.reduceLeDiff, ite_true]
  rfl
theorem p__law_plus {K : Nat} {a b : Rat} {s t : Nat} {m : Mem} (ha : Sz s a) (hb : Sz t b) (h9 : s + t < 9000) : pcallR ⟨runF T.Γ (K+3)⟩ false f__law_plus [fq a, fq b] m = .ok (fq (a + b)) m := by
  refine pcall_id (.of (m := []) ?_ rfl) rfl
  rw [run_def g__law_plus rfl]
  have c1 : mulOk a.num b.den = true := mulOk_of ha.1 (by rw [Int.natAbs_natCast]; exact hb.2) (by omega)
  have c2 : mulOk b.num a.den = true := mulOk_of hb.1 (by rw [Int.natAbs_natCast]; exact ha.2) (by omega)
  have c3 : mulOk a.den b.den = true := mulOk_of (by rw [Int.natAbs_natCast]; exact ha.2) (by rw [Int.natAbs_natCast]; exact hb.2) (by omega)
  simp only [b__law_plus, fq, getE_some, brB_bl, brO_some, asB_bl, asN_bl, asNeg_int, asI_int, nxF_nx, nxF_rt, fin_rt, fin_nx, ite_bind, ite_and, ite_or, rs_int, rs_bl, rs_tup, rs_lst, rs_scr, rs_non, ev_var, ev_cst, ev_op, ev_neg, ev_cmp, ev_chain, ev_and, ev_or, ev_not, ev_ife, ev_tup, ev_lst, ev_idx, ev_sl2, ev_sl3, ev_pcall, ev_mcall, ev_blt, ev_blt2, ev_isi, ev_lcF, ev_lqF, MQ.evs_nil, evs_cons, spl_lst, spl_tup, evs_star, evO_non, evO_som, evQ_of, evQ_rng1, evQ_rng2, evQ_rng3, evQ_zip2, evQ_zip3, evQ_enum, bnd_some, ex_asg, ex_asgs, ex_exp, ex_ret, ex_ite, ex_fr, exs_nil, exs_cons, seq_tup, seq_lst, seq_scr, map_some_, bt_nm, bt_tp, btp_nil, btp_cons, bind_ok, ofO_some, cmp_eq, cmp_ne, cmp_lt, cmp_le, cmp_gt, cmp_ge, op_add, op_sub, startE, List.map_cons, List.map_nil, List.length_cons, List.length_nil, List.replicate_succ, List.replicate_zero, Nat.reduceAdd, Nat.reduceSub, Nat.zero_add, List.cons_append, List.nil_append, List.getElem?_cons_zero, List.getElem?_cons_succ, List.set_cons_zero, List.set_cons_succ, cutO_lst, cutO_tup, cutO_scr, stepO_2, ev_lstM, ev_app, ev_ext, ev_rem, ev_frz, apT_some, apL_some, apV_lst, apR_ref, apO_some, memAt_hd, rs_hd, wipe_nil, wipe_cons, lcK_some, lcB_non, lcB_som, addO_some, addO_none, len_lst, len_tup, len_scr, tup_lst, lis_tup, lis_lst, if_true, if_false, Bool.false_eq_true, idxV, ix0, ix1, op_mul c1, op_mul c2, op_mul c3]
  rw [p__law_ratio (Int.mul_pos (den_pos a) (den_pos b)) (den_nat ha.2 hb.2) h9, add_div]
  rfl
theorem p__law_times {K : Nat} {a b : Rat} {s t : Nat} {m : Mem} (ha : Sz s a) (hb : Sz t b) (h9 : s + t < 9000) : pcallR ⟨runF T.Γ (K+3)⟩ false f__law_times [fq a, fq b] m = .ok (fq (a * b)) m := by
  refine pcall_id (.of (m := []) ?_ rfl) rfl
  rw [run_def g__law_times rfl]
  have c1 : mulOk a.num b.num = true := mulOk_of ha.1 hb.1 (by omega)
  have c3 : mulOk a.den b.den = true := mulOk_of (by rw [Int.natAbs_natCast]; exact ha.2) (by rw [Int.natAbs_natCast]; exact hb.2) (by omega)
  simp only [b__law_times, fq, getE_some, brB_bl, brO_some, asB_bl, asN_bl, asNeg_int, asI_int, nxF_nx, nxF_rt, fin_rt, fin_nx, ite_bind, ite_and, ite_or, rs_int, rs_bl, rs_tup, rs_lst, rs_scr, rs_non, ev_var, ev_cst, ev_op, ev_neg, ev_cmp, ev_chain, ev_and, ev_or, ev_not, ev_ife, ev_tup, ev_lst, ev_idx, ev_sl2, ev_sl3, ev_pcall, ev_mcall, ev_blt, ev_blt2, ev_isi, ev_lcF, ev_lqF, MQ.evs_nil, evs_cons, spl_lst, spl_tup, evs_star, evO_non, evO_som, evQ_of, evQ_rng1, evQ_rng2, evQ_rng3, evQ_zip2, evQ_zip3, evQ_enum, bnd_some, ex_asg, ex_asgs, ex_exp, ex_ret, ex_ite, ex_fr, exs_nil, exs_cons, seq_tup, seq_lst, seq_scr, map_some_, bt_nm, bt_tp, btp_nil, btp_cons, bind_ok, ofO_some, cmp_eq, cmp_ne, cmp_lt, cmp_le, cmp_gt, cmp_ge, op_add, op_sub, startE, List.map_cons, List.map_nil, List.length_cons, List.length_nil, List.replicate_succ, List.replicate_zero, Nat.reduceAdd, Nat.reduceSub, Nat.zero_add, List.cons_append, List.nil_append, List.getElem?_cons_zero, List.getElem?_cons_succ, List.set_cons_zero, List.set_cons_succ, cutO_lst, cutO_tup, cutO_scr, stepO_2, ev_lstM, ev_app, ev_ext, ev_rem, ev_frz, apT_some, apL_some, apV_lst, apR_ref, apO_some, memAt_hd, rs_hd, wipe_nil, wipe_cons, lcK_some, lcB_non, lcB_som, addO_some, addO_none, len_lst, len_tup, len_scr, tup_lst, lis_tup, lis_lst, if_true, if_false, Bool.false_eq_true, idxV, ix0, ix1, op_mul c1, op_mul c3]
  rw [p__law_ratio (Int.mul_pos (den_pos a) (den_pos b)) (den_nat ha.2 hb.2) h9, mul_div]
  rfl
theorem p__law_below {K : Nat} {a b : Rat} {s t : Nat} {m : Mem} (ha : Sz s a) (hb : Sz t b) (h9 : s + t < 9000) : pcallR ⟨runF T.Γ (K+1)⟩ false f__law_below [fq a, fq b] m = .ok (.bl (decide (a < b))) m := by
  refine pcall_id (.of (m := []) ?_ rfl) rfl
  rw [run_def g__law_below rfl]
  have c1 : mulOk a.num b.den = true := mulOk_of ha.1 (by rw [Int.natAbs_natCast]; exact hb.2) (by omega)
  have c2 : mulOk b.num a.den = true := mulOk_of hb.1 (by rw [Int.natAbs_natCast]; exact ha.2) (by omega)
  simp only [b__law_below, fq, getE_some, brB_bl, brO_some, asB_bl, asN_bl, asNeg_int, asI_int, nxF_nx, nxF_rt, fin_rt, fin_nx, ite_bind, ite_and, ite_or, rs_int, rs_bl, rs_tup, rs_lst, rs_scr, rs_non, ev_var, ev_cst, ev_op, ev_neg, ev_cmp, ev_chain, ev_and, ev_or, ev_not, ev_ife, ev_tup, ev_lst, ev_idx, ev_sl2, ev_sl3, ev_pcall, ev_mcall, ev_blt, ev_blt2, ev_isi, ev_lcF, ev_lqF, MQ.evs_nil, evs_cons, spl_lst, spl_tup, evs_star, evO_non, evO_som, evQ_of, evQ_rng1, evQ_rng2, evQ_rng3, evQ_zip2, evQ_zip3, evQ_enum, bnd_some, ex_asg, ex_asgs, ex_exp, ex_ret, ex_ite, ex_fr, exs_nil, exs_cons, seq_tup, seq_lst, seq_scr, map_some_, bt_nm, bt_tp, btp_nil, btp_cons, bind_ok, ofO_some, cmp_eq, cmp_ne, cmp_lt, cmp_le, cmp_gt, cmp_ge, op_add, op_sub, startE, List.map_cons, List.map_nil, List.length_cons, List.length_nil, List.replicate_succ, List.replicate_zero, Nat.reduceAdd, Nat.reduceSub, Nat.zero_add, List.cons_append, List.nil_append, List.getElem?_cons_zero, List.getElem?_cons_succ, List.set_cons_zero, List.set_cons_succ, cutO_lst, cutO_tup, cutO_scr, stepO_2, ev_lstM, ev_app, ev_ext, ev_rem, ev_frz, apT_some, apL_some, apV_lst, apR_ref, apO_some, memAt_hd, rs_hd, wipe_nil, wipe_cons, lcK_some, lcB_non, lcB_som, addO_some, addO_none, len_lst, len_tup, len_scr, tup_lst, lis_tup, lis_lst, if_true, if_false, Bool.false_eq_true, idxV, ix0, ix1, op_mul c1, op_mul c2, Rat.lt_iff]
theorem p__law_no_more {K : Nat} {a b : Rat} {s t : Nat} {m : Mem} (ha : Sz s a) (hb : Sz t b) (h9 : s + t < 9000) : pcallR ⟨runF T.Γ (K+2)⟩ false f__law_no_more [fq a, fq b] m = .ok (.bl (decide (a ≤ b))) m := by
  refine pcall_id (.of (m := []) ?_ rfl) rfl
  rw [run_def g__law_no_more rfl]
  have e : (!decide (b < a)) = decide (a ≤ b) := by
    by_cases h : a ≤ b
    · rw [decide_eq_true h, decide_eq_false (by grind)]; rfl
    · rw [decide_eq_false h, decide_eq_true (by grind)]; rfl
  simp only [b__law_no_more, getE_some, brB_bl, brO_some, asB_bl, asN_bl, asNeg_int, asI_int, nxF_nx, nxF_rt, fin_rt, fin_nx, ite_bind, ite_and, ite_or, rs_int, rs_bl, rs_tup, rs_lst, rs_scr, rs_non, ev_var, ev_cst, ev_op, ev_neg, ev_cmp, ev_chain, ev_and, ev_or, ev_not, ev_ife, ev_tup, ev_lst, ev_idx, ev_sl2, ev_sl3, ev_pcall, ev_mcall, ev_blt, ev_blt2, ev_isi, ev_lcF, ev_lqF, MQ.evs_nil, evs_cons, spl_lst, spl_tup, evs_star, evO_non, evO_som, evQ_of, evQ_rng1, evQ_rng2, evQ_rng3, evQ_zip2, evQ_zip3, evQ_enum, bnd_some, ex_asg, ex_asgs, ex_exp, ex_ret, ex_ite, ex_fr, exs_nil, exs_cons, seq_tup, seq_lst, seq_scr, map_some_, bt_nm, bt_tp, btp_nil, btp_cons, bind_ok, ofO_some, cmp_eq, cmp_ne, cmp_lt, cmp_le, cmp_gt, cmp_ge, op_add, op_sub, startE, List.map_cons, List.map_nil, List.length_cons, List.length_nil, List.replicate_succ, List.replicate_zero, Nat.reduceAdd, Nat.reduceSub, Nat.zero_add, List.cons_append, List.nil_append, List.getElem?_cons_zero, List.getElem?_cons_succ, List.set_cons_zero, List.set_cons_succ, cutO_lst, cutO_tup, cutO_scr, stepO_2, ev_lstM, ev_app, ev_ext, ev_rem, ev_frz, apT_some, apL_some, apV_lst, apR_ref, apO_some, memAt_hd, rs_hd, wipe_nil, wipe_cons, lcK_some, lcB_non, lcB_som, addO_some, addO_none, len_lst, len_tup, len_scr, tup_lst, lis_tup, lis_lst, if_true, if_false, Bool.false_eq_true, p__law_below hb ha (by omega : t + s < 9000), e]
theorem w__law_least {K : Nat} {s : Nat} (hs : s + s < 9000) (r : Val) : ∀ (qs : List Rat) (f : Rat) (o : Option Val) (m : Mem), Sz s f → (∀ q ∈ qs, Sz s q) →
    ∃ o', frGo (.nm 2) (exSs ⟨runF T.Γ (K+1)⟩ (.cons (.asg (.nm 1) (.ife (.pcall false f__law_below (.cons (.var 2) (.cons (.var 1) .nil))) (.var 2) (.var 1))) .nil)) (qs.map fq) [some r, some (fq f), o] m = .ok (.nx [some r, some (fq (minL f qs)), o']) m
  | [], f, o, m, _, _ => ⟨o, by rw [List.map_nil, fr_nil]; rfl⟩
  | q :: qs, f, o, m, hf, hq => by
    have hq0 := hq q List.mem_cons_self
    have hm : Sz s (minF f q) := by unfold minF; split <;> assumption
    obtain ⟨o', e⟩ := w__law_least hs r qs (minF f q) (some (fq q)) m hm fun x hx => hq x (List.mem_cons_of_mem _ hx)
    refine ⟨o', ?_⟩
    rw [List.map_cons, fr_cons]
    have e1 : (if decide (q < f) = true then R.ok (fq q) m else R.ok (fq f) m) = R.ok (fq (minF f q)) m := by
      unfold minF
      by_cases h : q < f
      · rw [if_pos (decide_eq_true h), if_pos h]
      · rw [if_neg (by simpa using h), if_neg h]
    simp only [getE_some, brB_bl, brO_some, asB_bl, asN_bl, asNeg_int, asI_int, nxF_nx, nxF_rt, fin_rt, fin_nx, ite_bind, ite_and, ite_or, rs_int, rs_bl, rs_tup, rs_lst, rs_scr, rs_non, ev_var, ev_cst, ev_op, ev_neg, ev_cmp, ev_chain, ev_and, ev_or, ev_not, ev_ife, ev_tup, ev_lst, ev_idx, ev_sl2, ev_sl3, ev_pcall, ev_mcall, ev_blt, ev_blt2, ev_isi, ev_lcF, ev_lqF, MQ.evs_nil, evs_cons, spl_lst, spl_tup, evs_star, evO_non, evO_som, evQ_of, evQ_rng1, evQ_rng2, evQ_rng3, evQ_zip2, evQ_zip3, evQ_enum, bnd_some, ex_asg, ex_asgs, ex_exp, ex_ret, ex_ite, ex_fr, exs_nil, exs_cons, seq_tup, seq_lst, seq_scr, map_some_, bt_nm, bt_tp, btp_nil, btp_cons, bind_ok, ofO_some, cmp_eq, cmp_ne, cmp_lt, cmp_le, cmp_gt, cmp_ge, op_add, op_sub, startE, List.map_cons, List.map_nil, List.length_cons, List.length_nil, List.replicate_succ, List.replicate_zero, Nat.reduceAdd, Nat.reduceSub, Nat.zero_add, List.cons_append, List.nil_append, List.getElem?_cons_zero, List.getElem?_cons_succ, List.set_cons_zero, List.set_cons_succ, cutO_lst, cutO_tup, cutO_scr, stepO_2, ev_lstM, ev_app, ev_ext, ev_rem, ev_frz, apT_some, apL_some, apV_lst, apR_ref, apO_some, memAt_hd, rs_hd, wipe_nil, wipe_cons, lcK_some, lcB_non, lcB_som, addO_some, addO_none, len_lst, len_tup, len_scr, tup_lst, lis_tup, lis_lst, if_true, if_false, Bool.false_eq_true, frB_some, p__law_below hq0 hf hs, e1, lpF_nx]
    exact e
theorem cut_tail (q : Rat) (qs : List Rat) : cutL ((q :: qs).map fq) (some 1) none = qs.map fq := by
  have := cut_from ((q :: qs).map fq) 1
  rw [← List.map_drop] at this
  exact this
theorem r__law_least {K : Nat} {s : Nat} {q : Rat} {qs : List Rat} (hs : s + s < 9000) (hq : Sz s q) (hqs : ∀ x ∈ qs, Sz s x) : Ret T.Γ (K+2) f__law_least [.lst ((q :: qs).map fq)] (fq (minL q qs)) := by
  refine .of (m := []) ?_ rfl
  rw [run_def g__law_least rfl]
  obtain ⟨o', e⟩ := w__law_least (K := K) hs (.lst ((q :: qs).map fq)) qs q none [] hq hqs
  have e0 : idxV (.lst ((q :: qs).map fq)) (.int 0) = some (fq q) := idx_lst (i := 0) rfl
  have hc := cut_tail q qs
  generalize (q :: qs).map fq = l at e e0 hc
  simp only [b__law_least, getE_some, brB_bl, brO_some, asB_bl, asN_bl, asNeg_int, asI_int, nxF_nx, nxF_rt, fin_rt, fin_nx, ite_bind, ite_and, ite_or, rs_int, rs_bl, rs_tup, rs_lst, rs_scr, rs_non, ev_var, ev_cst, ev_op, ev_neg, ev_cmp, ev_chain, ev_and, ev_or, ev_not, ev_ife, ev_tup, ev_lst, ev_idx, ev_sl2, ev_sl3, ev_pcall, ev_mcall, ev_blt, ev_blt2, ev_isi, ev_lcF, ev_lqF, MQ.evs_nil, evs_cons, spl_lst, spl_tup, evs_star, evO_non, evO_som, evQ_of, evQ_rng1, evQ_rng2, evQ_rng3, evQ_zip2, evQ_zip3, evQ_enum, bnd_some, ex_asg, ex_asgs, ex_exp, ex_ret, ex_ite, ex_fr, exs_nil, exs_cons, seq_tup, seq_lst, seq_scr, map_some_, bt_nm, bt_tp, btp_nil, btp_cons, bind_ok, ofO_some, cmp_eq, cmp_ne, cmp_lt, cmp_le, cmp_gt, cmp_ge, op_add, op_sub, startE, List.map_cons, List.map_nil, List.length_cons, List.length_nil, List.replicate_succ, List.replicate_zero, Nat.reduceAdd, Nat.reduceSub, Nat.zero_add, List.cons_append, List.nil_append, List.getElem?_cons_zero, List.getElem?_cons_succ, List.set_cons_zero, List.set_cons_succ, cutO_lst, cutO_tup, cutO_scr, stepO_2, ev_lstM, ev_app, ev_ext, ev_rem, ev_frz, apT_some, apL_some, apV_lst, apR_ref, apO_some, memAt_hd, rs_hd, wipe_nil, wipe_cons, lcK_some, lcB_non, lcB_som, addO_some, addO_none, len_lst, len_tup, len_scr, tup_lst, lis_tup, lis_lst, if_true, if_false, Bool.false_eq_true, e0, hc, e]
theorem p__law_least {K : Nat} {s : Nat} {q : Rat} {qs : List Rat} {m : Mem} (hs : s + s < 9000) (hq : Sz s q) (hqs : ∀ x ∈ qs, Sz s x) : pcallR ⟨runF T.Γ (K+2)⟩ false f__law_least [.lst ((q :: qs).map fq)] m = .ok (fq (minL q qs)) m :=
  pcall_id (r__law_least hs hq hqs) (by show (noRefs ((q :: qs).map fq) && true) = true; rw [noRefs_map noRef_fq]; rfl)
/-- of a list that stands in the memory -/
theorem p__law_leastM {K : Nat} {s : Nat} {q : Rat} {qs : List Rat} {m : Mem} (hs : s + s < 9000) (hq : Sz s q) (hqs : ∀ x ∈ qs, Sz s x) : pcallR ⟨runF T.Γ (K+2)⟩ false f__law_least [.ref 0] (.lst ((q :: qs).map fq) :: m) = .ok (fq (minL q qs)) (.lst ((q :: qs).map fq) :: m) :=
  pcall_of (r__law_least hs hq hqs) (by
    show (match snap (.lst ((q :: qs).map fq) :: m) (.ref 0), snaps _ [] with | some w, some ws => some (w :: ws) | _, _ => none) = _
    rw [snap_hd (noRefs_map noRef_fq _)]
    rfl) (by rw [noLst_fq, Bool.or_true])
theorem w_power__law_power {C : Calls} {x : Int} {s : Nat} (hx : x.natAbs ≤ 2 ^ s) (y : Val) (hs1 : s + 1 < 400000) : ∀ (vs : List Val) (j : Nat) (o : Option Val) (m : Mem), s * (j + vs.length) < 500000 →
    ∃ o', frGo (.nm 3) (exSs C (.cons (.asg (.nm 2) (.op .mul (.var 2) (.var 0))) .nil)) vs [some (.int x), some y, some (.int (x ^ j)), o] m = .ok (.nx [some (.int x), some y, some (.int (x ^ (j + vs.length))), o']) m
  | [], j, o, m, h => ⟨o, by rw [fr_nil]; rfl⟩
  | v :: vs, j, o, m, h => by
    obtain ⟨o', e⟩ := w_power__law_power (C := C) hx y hs1 vs (j + 1) (some v) m (by
      simp only [List.length_cons] at h
      have : j + 1 + vs.length = j + (vs.length + 1) := by omega
      rw [this]; exact h)
    have hj : s * j < 500000 := Nat.lt_of_le_of_lt (Nat.mul_le_mul_left _ (by omega)) h
    have c : mulOk (x ^ j) x = true := mulOk_of (lt_succ_pow (pow_le hx j)) (lt_succ_pow hx) (by omega)
    refine ⟨o', ?_⟩
    rw [fr_cons]
    simp only [getE_some, brB_bl, brO_some, asB_bl, asN_bl, asNeg_int, asI_int, nxF_nx, nxF_rt, fin_rt, fin_nx, ite_bind, ite_and, ite_or, rs_int, rs_bl, rs_tup, rs_lst, rs_scr, rs_non, ev_var, ev_cst, ev_op, ev_neg, ev_cmp, ev_chain, ev_and, ev_or, ev_not, ev_ife, ev_tup, ev_lst, ev_idx, ev_sl2, ev_sl3, ev_pcall, ev_mcall, ev_blt, ev_blt2, ev_isi, ev_lcF, ev_lqF, MQ.evs_nil, evs_cons, spl_lst, spl_tup, evs_star, evO_non, evO_som, evQ_of, evQ_rng1, evQ_rng2, evQ_rng3, evQ_zip2, evQ_zip3, evQ_enum, bnd_some, ex_asg, ex_asgs, ex_exp, ex_ret, ex_ite, ex_fr, exs_nil, exs_cons, seq_tup, seq_lst, seq_scr, map_some_, bt_nm, bt_tp, btp_nil, btp_cons, bind_ok, ofO_some, cmp_eq, cmp_ne, cmp_lt, cmp_le, cmp_gt, cmp_ge, op_add, op_sub, startE, List.map_cons, List.map_nil, List.length_cons, List.length_nil, List.replicate_succ, List.replicate_zero, Nat.reduceAdd, Nat.reduceSub, Nat.zero_add, List.cons_append, List.nil_append, List.getElem?_cons_zero, List.getElem?_cons_succ, List.set_cons_zero, List.set_cons_succ, cutO_lst, cutO_tup, cutO_scr, stepO_2, ev_lstM, ev_app, ev_ext, ev_rem, ev_frz, apT_some, apL_some, apV_lst, apR_ref, apO_some, memAt_hd, rs_hd, wipe_nil, wipe_cons, lcK_some, lcB_non, lcB_som, addO_some, addO_none, len_lst, len_tup, len_scr, tup_lst, lis_tup, lis_lst, if_true, if_false, Bool.false_eq_true, frB_some, op_mul c, lpF_nx]
    rw [← Int.pow_succ, e]
    have : j + 1 + vs.length = j + (vs.length + 1) := by omega
    rw [this]
theorem p__law_power {K : Nat} {x : Int} {n s : Nat} {m : Mem} (hx : x.natAbs ≤ 2 ^ s) (hn : n ≤ 1000000) (hs1 : s + 1 < 400000) (h : s * n < 500000) : pcallR ⟨runF T.Γ (K+1)⟩ false f__law_power [.int x, .int n] m = .ok (.int (x ^ n)) m := by
  refine pcall_id (.of (m := []) ?_ rfl) rfl
  rw [run_def g__law_power rfl]
  obtain ⟨o', e⟩ := w_power__law_power (C := ⟨runF T.Γ K⟩) hx (.int n) hs1 (rngL 0 n) 0 none [] (by rw [rngL_length, Nat.zero_add]; exact h)
  have e0 : x ^ 0 = 1 := Int.pow_zero x
  rw [e0, rngL_length, Nat.zero_add] at e
  simp only [b__law_power, getE_some, brB_bl, brO_some, asB_bl, asN_bl, asNeg_int, asI_int, nxF_nx, nxF_rt, fin_rt, fin_nx, ite_bind, ite_and, ite_or, rs_int, rs_bl, rs_tup, rs_lst, rs_scr, rs_non, ev_var, ev_cst, ev_op, ev_neg, ev_cmp, ev_chain, ev_and, ev_or, ev_not, ev_ife, ev_tup, ev_lst, ev_idx, ev_sl2, ev_sl3, ev_pcall, ev_mcall, ev_blt, ev_blt2, ev_isi, ev_lcF, ev_lqF, MQ.evs_nil, evs_cons, spl_lst, spl_tup, evs_star, evO_non, evO_som, evQ_of, evQ_rng1, evQ_rng2, evQ_rng3, evQ_zip2, evQ_zip3, evQ_enum, bnd_some, ex_asg, ex_asgs, ex_exp, ex_ret, ex_ite, ex_fr, exs_nil, exs_cons, seq_tup, seq_lst, seq_scr, map_some_, bt_nm, bt_tp, btp_nil, btp_cons, bind_ok, ofO_some, cmp_eq, cmp_ne, cmp_lt, cmp_le, cmp_gt, cmp_ge, op_add, op_sub, startE, List.map_cons, List.map_nil, List.length_cons, List.length_nil, List.replicate_succ, List.replicate_zero, Nat.reduceAdd, Nat.reduceSub, Nat.zero_add, List.cons_append, List.nil_append, List.getElem?_cons_zero, List.getElem?_cons_succ, List.set_cons_zero, List.set_cons_succ, cutO_lst, cutO_tup, cutO_scr, stepO_2, ev_lstM, ev_app, ev_ext, ev_rem, ev_frz, apT_some, apL_some, apV_lst, apR_ref, apO_some, memAt_hd, rs_hd, wipe_nil, wipe_cons, lcK_some, lcB_non, lcB_som, addO_some, addO_none, len_lst, len_tup, len_scr, tup_lst, lis_tup, lis_lst, if_true, if_false, Bool.false_eq_true, rng1_ok hn, e]


end LW
namespace LW
open PySem PySem.Spec MP MQ
theorem w_choose {C : Calls} (n : Nat) (y : Option Val) (hn : n ≤ 900) : ∀ (vs : Nat) (j : Nat) (o : Option Val) (m : Mem), j + vs ≤ n → ∃ o',
    frGo (.nm 3) (exSs C (.cons (.asg (.nm 2) (.op .fdiv (.op .mul (.var 2) (.op .sub (.var 0) (.var 3))) (.op .add (.var 3) (.cst (.int 1))))) .nil)) ((List.range' j vs).map fun k => Val.int (k : Nat)) [some (.int (n : Nat)), y, some (.int (ch n j : Nat)), o] m = .ok (.nx [some (.int (n : Nat)), y, some (.int (ch n (j + vs) : Nat)), o']) m
  | 0, j, o, m, h => ⟨o, by rw [List.range'_zero, List.map_nil, fr_nil]; rfl⟩
  | vs + 1, j, o, m, h => by
    obtain ⟨o', e⟩ := w_choose (C := C) n y hn vs (j + 1) (some (.int (j : Nat))) m (by omega)
    refine ⟨o', ?_⟩
    rw [List.range'_succ, List.map_cons, fr_cons]
    have c1 : mulOk (ch n j : Int) ((n : Int) - (j : Int)) = true := mulOk_of (s := n + 1) (t := 10) (by rw [Int.natAbs_natCast]; exact lt_succ_pow (ch_le n j)) (by omega) (by omega)
    have c2 : divOk ((j : Int) + 1) = true := divOk_of (s := 10) (by omega) (by omega) (by decide)
    have e2 : (ch n j : Int) * ((n : Int) - (j : Int)) / ((j : Int) + 1) = (ch n (j + 1) : Int) := by
      have h1 := ch_step n j (by omega)
      have h2 : ((n : Int) - (j : Int)) = ((n - j : Nat) : Int) := by omega
      have h3 : ((j : Int) + 1) = ((j + 1 : Nat) : Int) := by omega
      rw [h2, h3, ← Int.natCast_mul, ← h1, Int.natCast_mul]
      exact Int.mul_ediv_cancel _ (by omega)
    simp only [getE_some, brB_bl, brO_some, asB_bl, asN_bl, asNeg_int, asI_int, nxF_nx, nxF_rt, fin_rt, fin_nx, ite_bind, ite_and, ite_or, rs_int, rs_bl, rs_tup, rs_lst, rs_scr, rs_non, ev_var, ev_cst, ev_op, ev_neg, ev_cmp, ev_chain, ev_and, ev_or, ev_not, ev_ife, ev_tup, ev_lst, ev_idx, ev_sl2, ev_sl3, ev_pcall, ev_mcall, ev_blt, ev_blt2, ev_isi, ev_lcF, ev_lqF, MQ.evs_nil, evs_cons, spl_lst, spl_tup, evs_star, evO_non, evO_som, evQ_of, evQ_rng1, evQ_rng2, evQ_rng3, evQ_zip2, evQ_zip3, evQ_enum, bnd_some, ex_asg, ex_asgs, ex_exp, ex_ret, ex_ite, ex_fr, exs_nil, exs_cons, seq_tup, seq_lst, seq_scr, map_some_, bt_nm, bt_tp, btp_nil, btp_cons, bind_ok, ofO_some, cmp_eq, cmp_ne, cmp_lt, cmp_le, cmp_gt, cmp_ge, op_add, op_sub, startE, List.map_cons, List.map_nil, List.length_cons, List.length_nil, List.replicate_succ, List.replicate_zero, Nat.reduceAdd, Nat.reduceSub, Nat.zero_add, List.cons_append, List.nil_append, List.getElem?_cons_zero, List.getElem?_cons_succ, List.set_cons_zero, List.set_cons_succ, cutO_lst, cutO_tup, cutO_scr, stepO_2, ev_lstM, ev_app, ev_ext, ev_rem, ev_frz, apT_some, apL_some, apV_lst, apR_ref, apO_some, memAt_hd, rs_hd, wipe_nil, wipe_cons, lcK_some, lcB_non, lcB_som, addO_some, addO_none, len_lst, len_tup, len_scr, tup_lst, lis_tup, lis_lst, if_true, if_false, Bool.false_eq_true, frB_some, op_mul c1, op_fdiv c2, e2, lpF_nx]
    rw [show j + (vs + 1) = j + 1 + vs from by omega]
    exact e
theorem p__law_choose {K n k : Nat} {m : Mem} (hn : n ≤ 900) (hk : k ≤ n) : pcallR ⟨runF T.Γ (K+1)⟩ false f__law_choose [.int (n : Nat), .int (k : Nat)] m = .ok (.int (ch n k : Nat)) m := by
  refine pcall_id (.of (m := []) ?_ rfl) rfl
  rw [run_def g__law_choose rfl]
  obtain ⟨o', e⟩ := w_choose (C := ⟨runF T.Γ K⟩) n (some (.int (k : Nat))) hn k 0 none [] (by omega)
  rw [ch_zero, Nat.zero_add] at e
  have hr : rng1V (.int (k : Nat)) = some ((List.range' 0 k).map fun k => Val.int (k : Nat)) := by
    rw [rng1_ok (by omega), rngL_zero, List.range_eq_range']
  have c0 : decide ((0 : Int) ≤ (k : Int)) = true := decide_eq_true (by omega)
  have c1 : decide ((k : Int) ≤ (n : Int)) = true := decide_eq_true (by omega)
  have hi : bltV .int (.bl true) = some (.int 1) := rfl
  have e : frGo (.nm 3) (exSs ⟨runF T.Γ K⟩ (.cons (.asg (.nm 2) (.op .fdiv (.op .mul (.var 2) (.op .sub (.var 0) (.var 3))) (.op .add (.var 3) (.cst (.int 1))))) .nil)) ((List.range' 0 k).map fun k => Val.int (k : Nat)) [some (.int (n : Nat)), some (.int (k : Nat)), some (.int 1), none] [] = .ok (.nx [some (.int (n : Nat)), some (.int (k : Nat)), some (.int (ch n k : Nat)), o']) [] := e
  simp only [b__law_choose, getE_some, brB_bl, brO_some, asB_bl, asN_bl, asNeg_int, asI_int, nxF_nx, nxF_rt, fin_rt, fin_nx, ite_bind, ite_and, ite_or, rs_int, rs_bl, rs_tup, rs_lst, rs_scr, rs_non, ev_var, ev_cst, ev_op, ev_neg, ev_cmp, ev_chain, ev_and, ev_or, ev_not, ev_ife, ev_tup, ev_lst, ev_idx, ev_sl2, ev_sl3, ev_pcall, ev_mcall, ev_blt, ev_blt2, ev_isi, ev_lcF, ev_lqF, MQ.evs_nil, evs_cons, spl_lst, spl_tup, evs_star, evO_non, evO_som, evQ_of, evQ_rng1, evQ_rng2, evQ_rng3, evQ_zip2, evQ_zip3, evQ_enum, bnd_some, ex_asg, ex_asgs, ex_exp, ex_ret, ex_ite, ex_fr, exs_nil, exs_cons, seq_tup, seq_lst, seq_scr, map_some_, bt_nm, bt_tp, btp_nil, btp_cons, bind_ok, ofO_some, cmp_eq, cmp_ne, cmp_lt, cmp_le, cmp_gt, cmp_ge, op_add, op_sub, startE, List.map_cons, List.map_nil, List.length_cons, List.length_nil, List.replicate_succ, List.replicate_zero, Nat.reduceAdd, Nat.reduceSub, Nat.zero_add, List.cons_append, List.nil_append, List.getElem?_cons_zero, List.getElem?_cons_succ, List.set_cons_zero, List.set_cons_succ, cutO_lst, cutO_tup, cutO_scr, stepO_2, ev_lstM, ev_app, ev_ext, ev_rem, ev_frz, apT_some, apL_some, apV_lst, apR_ref, apO_some, memAt_hd, rs_hd, wipe_nil, wipe_cons, lcK_some, lcB_non, lcB_som, addO_some, addO_none, len_lst, len_tup, len_scr, tup_lst, lis_tup, lis_lst, if_true, if_false, Bool.false_eq_true, c0, c1, hi, hr, e, ite_true]
/-- the ways in a region -/
def rw_ (n : Nat) (reg : List Nat) (k : Nat) : Nat := if k ∈ reg then ch n k else 0
theorem rw_le (n : Nat) (reg : List Nat) (k : Nat) : rw_ n reg k ≤ 2 ^ n := by
  unfold rw_
  split
  · exact ch_le n k
  · exact Nat.zero_le _
def rowV (n : Nat) (reg : List Nat) : Val := .tup [.int (n : Nat), .tup ((List.range (n + 1)).map fun k => Val.int (rw_ n reg k : Nat))]
theorem noRef_row (n : Nat) (reg : List Nat) : noRef (rowV n reg) = true := by
  show (true && (noRefs ((List.range (n + 1)).map fun k => Val.int (rw_ n reg k : Nat)) && true)) = true
  rw [noRefs_map fun _ => rfl]
  rfl
theorem p__law_row_of {K n : Nat} {reg : List Nat} {m : Mem} (hn : n ≤ 900) : pcallR ⟨runF T.Γ (K+2)⟩ false f__law_row_of [.int (n : Nat), .lst (reg.map fun i => Val.int (i : Nat))] m = .ok (rowV n reg) m := by
  refine pcall_id (.of (m := []) ?_ (noRef_row n reg)) (by show (true && (noRefs (reg.map fun i => Val.int (i : Nat)) && true)) = true; rw [noRefs_map fun _ => rfl]; rfl)
  rw [run_def g__law_row_of rfl]
  have hr : rng1V (.int ((n : Int) + 1)) = some ((List.range (n + 1)).map fun k => Val.int (k : Nat)) := by
    have := rng1_ok (n := n + 1) (by omega)
    rw [rngL_zero] at this
    exact this
  have hmap : mapR (lcB ⟨runF T.Γ (K+1)⟩ (.ife (.cmp .in_ (.var 2) (.var 1)) (.pcall false f__law_choose (.cons (.var 0) (.cons (.var 2) .nil))) (.cst (.int 0))) (.nm 2) .non [some (.int (n : Nat)), some (.lst (reg.map fun i => Val.int (i : Nat))), none]) ((List.range (n + 1)).map fun k => Val.int (k : Nat)) [] = .ok ((List.range (n + 1)).map fun k => Val.int (rw_ n reg k : Nat)) [] :=
    mapR_of fun k hk => by
      have hk := List.mem_range.mp hk
      by_cases h : k ∈ reg
      · simp only [getE_some, brB_bl, brO_some, asB_bl, asN_bl, asNeg_int, asI_int, nxF_nx, nxF_rt, fin_rt, fin_nx, ite_bind, ite_and, ite_or, rs_int, rs_bl, rs_tup, rs_lst, rs_scr, rs_non, ev_var, ev_cst, ev_op, ev_neg, ev_cmp, ev_chain, ev_and, ev_or, ev_not, ev_ife, ev_tup, ev_lst, ev_idx, ev_sl2, ev_sl3, ev_pcall, ev_mcall, ev_blt, ev_blt2, ev_isi, ev_lcF, ev_lqF, MQ.evs_nil, evs_cons, spl_lst, spl_tup, evs_star, evO_non, evO_som, evQ_of, evQ_rng1, evQ_rng2, evQ_rng3, evQ_zip2, evQ_zip3, evQ_enum, bnd_some, ex_asg, ex_asgs, ex_exp, ex_ret, ex_ite, ex_fr, exs_nil, exs_cons, seq_tup, seq_lst, seq_scr, map_some_, bt_nm, bt_tp, btp_nil, btp_cons, bind_ok, ofO_some, cmp_eq, cmp_ne, cmp_lt, cmp_le, cmp_gt, cmp_ge, op_add, op_sub, startE, List.map_cons, List.map_nil, List.length_cons, List.length_nil, List.replicate_succ, List.replicate_zero, Nat.reduceAdd, Nat.reduceSub, Nat.zero_add, List.cons_append, List.nil_append, List.getElem?_cons_zero, List.getElem?_cons_succ, List.set_cons_zero, List.set_cons_succ, cutO_lst, cutO_tup, cutO_scr, stepO_2, ev_lstM, ev_app, ev_ext, ev_rem, ev_frz, apT_some, apL_some, apV_lst, apR_ref, apO_some, memAt_hd, rs_hd, wipe_nil, wipe_cons, lcK_some, lcB_non, lcB_som, addO_some, addO_none, len_lst, len_tup, len_scr, tup_lst, lis_tup, lis_lst, if_true, if_false, Bool.false_eq_true, in_nats, decide_eq_true h, p__law_choose hn (show k ≤ n by omega), rw_, if_pos h, ite_true]
      · simp only [getE_some, brB_bl, brO_some, asB_bl, asN_bl, asNeg_int, asI_int, nxF_nx, nxF_rt, fin_rt, fin_nx, ite_bind, ite_and, ite_or, rs_int, rs_bl, rs_tup, rs_lst, rs_scr, rs_non, ev_var, ev_cst, ev_op, ev_neg, ev_cmp, ev_chain, ev_and, ev_or, ev_not, ev_ife, ev_tup, ev_lst, ev_idx, ev_sl2, ev_sl3, ev_pcall, ev_mcall, ev_blt, ev_blt2, ev_isi, ev_lcF, ev_lqF, MQ.evs_nil, evs_cons, spl_lst, spl_tup, evs_star, evO_non, evO_som, evQ_of, evQ_rng1, evQ_rng2, evQ_rng3, evQ_zip2, evQ_zip3, evQ_enum, bnd_some, ex_asg, ex_asgs, ex_exp, ex_ret, ex_ite, ex_fr, exs_nil, exs_cons, seq_tup, seq_lst, seq_scr, map_some_, bt_nm, bt_tp, btp_nil, btp_cons, bind_ok, ofO_some, cmp_eq, cmp_ne, cmp_lt, cmp_le, cmp_gt, cmp_ge, op_add, op_sub, startE, List.map_cons, List.map_nil, List.length_cons, List.length_nil, List.replicate_succ, List.replicate_zero, Nat.reduceAdd, Nat.reduceSub, Nat.zero_add, List.cons_append, List.nil_append, List.getElem?_cons_zero, List.getElem?_cons_succ, List.set_cons_zero, List.set_cons_succ, cutO_lst, cutO_tup, cutO_scr, stepO_2, ev_lstM, ev_app, ev_ext, ev_rem, ev_frz, apT_some, apL_some, apV_lst, apR_ref, apO_some, memAt_hd, rs_hd, wipe_nil, wipe_cons, lcK_some, lcB_non, lcB_som, addO_some, addO_none, len_lst, len_tup, len_scr, tup_lst, lis_tup, lis_lst, if_true, if_false, Bool.false_eq_true, in_nats, decide_eq_false h, rw_, if_neg h]
        rfl
  simp only [b__law_row_of, getE_some, brB_bl, brO_some, asB_bl, asN_bl, asNeg_int, asI_int, nxF_nx, nxF_rt, fin_rt, fin_nx, ite_bind, ite_and, ite_or, rs_int, rs_bl, rs_tup, rs_lst, rs_scr, rs_non, ev_var, ev_cst, ev_op, ev_neg, ev_cmp, ev_chain, ev_and, ev_or, ev_not, ev_ife, ev_tup, ev_lst, ev_idx, ev_sl2, ev_sl3, ev_pcall, ev_mcall, ev_blt, ev_blt2, ev_isi, ev_lcF, ev_lqF, MQ.evs_nil, evs_cons, spl_lst, spl_tup, evs_star, evO_non, evO_som, evQ_of, evQ_rng1, evQ_rng2, evQ_rng3, evQ_zip2, evQ_zip3, evQ_enum, bnd_some, ex_asg, ex_asgs, ex_exp, ex_ret, ex_ite, ex_fr, exs_nil, exs_cons, seq_tup, seq_lst, seq_scr, map_some_, bt_nm, bt_tp, btp_nil, btp_cons, bind_ok, ofO_some, cmp_eq, cmp_ne, cmp_lt, cmp_le, cmp_gt, cmp_ge, op_add, op_sub, startE, List.map_cons, List.map_nil, List.length_cons, List.length_nil, List.replicate_succ, List.replicate_zero, Nat.reduceAdd, Nat.reduceSub, Nat.zero_add, List.cons_append, List.nil_append, List.getElem?_cons_zero, List.getElem?_cons_succ, List.set_cons_zero, List.set_cons_succ, cutO_lst, cutO_tup, cutO_scr, stepO_2, ev_lstM, ev_app, ev_ext, ev_rem, ev_frz, apT_some, apL_some, apV_lst, apR_ref, apO_some, memAt_hd, rs_hd, wipe_nil, wipe_cons, lcK_some, lcB_non, lcB_som, addO_some, addO_none, len_lst, len_tup, len_scr, tup_lst, lis_tup, lis_lst, if_true, if_false, Bool.false_eq_true, hr, hmap, LL, Nat.reduceLeDiff, rowV, ite_true]
theorem enum_vals : ∀ (l : List Nat) (k : Nat), enumV k (l.map fun i => Val.int (i : Nat)) = (l.zipIdx k).map fun p => Val.tup [.int (p.2 : Nat), .int (p.1 : Nat)] := enum_drop
theorem zipIdx_range' {α : Type} (f : Nat → α) : ∀ (n j : Nat), ((List.range' j n).map f).zipIdx j = (List.range' j n).map fun k => (f k, k)
  | 0, j => rfl
  | n + 1, j => by
    rw [List.range'_succ, List.map_cons, List.zipIdx_cons, zipIdx_range' f n (j + 1)]
    rfl
/-- what is told of a region at q -/
def regP (n : Nat) (reg : List Nat) (q : Rat) : Rat := ((List.range (n + 1)).map fun k => (rw_ n reg k : Rat) * q ^ k * (1 - q) ^ (n - k)).sum
theorem p__law_row_at {K n s : Nat} {reg : List Nat} {q : Rat} {m : Mem} (hn : n ≤ 60) (hs : s ≤ 100) (hq : Sz s q) (h0 : 0 ≤ q) (h1 : q ≤ 1) : pcallR ⟨runF T.Γ (K+3)⟩ false f__law_row_at [rowV n reg, fq q] m = .ok (fq (regP n reg q)) m := by
  refine pcall_id (.of (m := []) ?_ rfl) (by show (noRef (rowV n reg) && (noRef (fq q) && true)) = true; rw [noRef_row]; rfl)
  rw [run_def g__law_row_at rfl]
  have hnum : q.num ≤ (q.den : Int) := by
    have := (Rat.le_iff q 1).mp h1
    simpa using this
  have hnn : 0 ≤ q.num := Rat.num_nonneg.mpr h0
  have b1 : q.num.natAbs ≤ 2 ^ s := Nat.le_of_lt hq.1
  have b2 : ((q.den : Int) - q.num).natAbs ≤ 2 ^ s := by have := hq.2; omega
  have b3 : (q.den : Int).natAbs ≤ 2 ^ s := by rw [Int.natAbs_natCast]; exact Nat.le_of_lt hq.2
  have hsN : s * n ≤ 100 * 60 := Nat.mul_le_mul hs hn
  have q3 := lt_succ_pow (pow_le b3 n)
  have hdp : 0 < (q.den : Int) ^ n := Int.pow_pos (den_pos q)
  have pN := fun m => p__law_power (K := K + 1) (m := m) (n := n) b3 (by omega) (by omega) (by omega)
  have efq : fq q = .tup [.int q.num, .int q.den] := rfl
  have i0 : idxV (fq q) (.int 0) = some (.int q.num) := by rw [efq]; exact idx_tup (i := 0) rfl
  have i1 : idxV (fq q) (.int 1) = some (.int q.den) := by rw [efq]; exact idx_tup (i := 1) rfl
  have r0 : ∀ m, rs m (fq q) = fq q := fun m => rs_of (noRef_fq q)
  have rr : ∀ m, rs m (rowV n reg) = rowV n reg := fun m => rs_of (noRef_row n reg)
  have j0 : idxV (rowV n reg) (.int 0) = some (.int (n : Nat)) := idx_tup (i := 0) rfl
  have j1 : idxV (rowV n reg) (.int 1) = some (.tup ((List.range (n + 1)).map fun k => Val.int (rw_ n reg k : Nat))) := idx_tup (i := 1) rfl
  have en : enumV 0 ((List.range (n + 1)).map fun k => Val.int (rw_ n reg k : Nat)) = (List.range (n + 1)).map fun k => Val.tup [.int (k : Nat), .int (rw_ n reg k : Nat)] := by
    have h := enum_vals ((List.range (n + 1)).map (rw_ n reg)) 0
    rw [List.map_map] at h
    refine h.trans ?_
    rw [List.range_eq_range', zipIdx_range' (rw_ n reg) (n + 1) 0, List.map_map]
    rfl
  have hmap : ∀ a, mapR (lcB ⟨runF T.Γ (K+2)⟩ (.op .mul (.op .mul (.var 7) (.pcall false f__law_power (.cons (.var 3) (.cons (.var 6) .nil)))) (.pcall false f__law_power (.cons (.var 4) (.cons (.op .sub (.var 2) (.var 6)) .nil)))) (.tp [6, 7]) .non [some (rowV n reg), some (fq q), some (.int (n : Nat)), some (.int q.num), some (.int ((q.den : Int) - q.num)), a, none, none]) ((List.range (n + 1)).map fun k => Val.tup [.int (k : Nat), .int (rw_ n reg k : Nat)]) [] =
      .ok ((List.range (n + 1)).map fun k => Val.int ((rw_ n reg k : Int) * q.num ^ k * ((q.den : Int) - q.num) ^ (n - k))) [] := fun a => mapR_of fun k hk => by
    have hk := List.mem_range.mp hk
    have hsk : s * k ≤ 100 * 60 := Nat.mul_le_mul hs (by omega)
    have hsn : s * (n - k) ≤ 100 * 60 := Nat.mul_le_mul hs (by omega)
    have p1 := fun m => p__law_power (K := K + 1) (m := m) (n := k) b1 (by omega) (by omega) (by omega)
    have p2 := fun m => p__law_power (K := K + 1) (m := m) (n := n - k) b2 (by omega) (by omega) (by omega)
    have en : ((n : Int) - (k : Int)) = ((n - k : Nat) : Int) := by omega
    have w1 : (rw_ n reg k : Int).natAbs < 2 ^ (n + 1) := by rw [Int.natAbs_natCast]; exact lt_succ_pow (rw_le n reg k)
    have q1 := lt_succ_pow (pow_le b1 k)
    have q2 := lt_succ_pow (pow_le b2 (n - k))
    have c1 : mulOk (rw_ n reg k) (q.num ^ k) = true := mulOk_of w1 q1 (by omega)
    have c2 : mulOk ((rw_ n reg k : Int) * q.num ^ k) (((q.den : Int) - q.num) ^ (n - k)) = true := mulOk_of (s := n + 1 + (s * k + 1)) (by rw [Int.natAbs_mul]; exact mul_lt_pow w1 q1) q2 (by omega)
    simp only [getE_some, brB_bl, brO_some, asB_bl, asN_bl, asNeg_int, asI_int, nxF_nx, nxF_rt, fin_rt, fin_nx, ite_bind, ite_and, ite_or, rs_int, rs_bl, rs_tup, rs_lst, rs_scr, rs_non, ev_var, ev_cst, ev_op, ev_neg, ev_cmp, ev_chain, ev_and, ev_or, ev_not, ev_ife, ev_tup, ev_lst, ev_idx, ev_sl2, ev_sl3, ev_pcall, ev_mcall, ev_blt, ev_blt2, ev_isi, ev_lcF, ev_lqF, MQ.evs_nil, evs_cons, spl_lst, spl_tup, evs_star, evO_non, evO_som, evQ_of, evQ_rng1, evQ_rng2, evQ_rng3, evQ_zip2, evQ_zip3, evQ_enum, bnd_some, ex_asg, ex_asgs, ex_exp, ex_ret, ex_ite, ex_fr, exs_nil, exs_cons, seq_tup, seq_lst, seq_scr, map_some_, bt_nm, bt_tp, btp_nil, btp_cons, bind_ok, ofO_some, cmp_eq, cmp_ne, cmp_lt, cmp_le, cmp_gt, cmp_ge, op_add, op_sub, startE, List.map_cons, List.map_nil, List.length_cons, List.length_nil, List.replicate_succ, List.replicate_zero, Nat.reduceAdd, Nat.reduceSub, Nat.zero_add, List.cons_append, List.nil_append, List.getElem?_cons_zero, List.getElem?_cons_succ, List.set_cons_zero, List.set_cons_succ, cutO_lst, cutO_tup, cutO_scr, stepO_2, ev_lstM, ev_app, ev_ext, ev_rem, ev_frz, apT_some, apL_some, apV_lst, apR_ref, apO_some, memAt_hd, rs_hd, wipe_nil, wipe_cons, lcK_some, lcB_non, lcB_som, addO_some, addO_none, len_lst, len_tup, len_scr, tup_lst, lis_tup, lis_lst, if_true, if_false, Bool.false_eq_true, p1, p2, en, op_mul c1, op_mul c2]
  have hsum := sum_lst (sumI_map (p := fun k => (rw_ n reg k : Int) * q.num ^ k * ((q.den : Int) - q.num) ^ (n - k)) (List.range (n + 1)))
  have pr := fun m => p__law_ratio (K := K) (m := m) (a := ((List.range (n + 1)).map fun k => (rw_ n reg k : Int) * q.num ^ k * ((q.den : Int) - q.num) ^ (n - k)).sum) hdp q3 (by omega)
  have ev : Rat.divInt ((List.range (n + 1)).map fun k => (rw_ n reg k : Int) * q.num ^ k * ((q.den : Int) - q.num) ^ (n - k)).sum ((q.den : Int) ^ n) = regP n reg q := by
    rw [divInt_sum (by omega), List.map_map]
    unfold regP
    congr 1
    refine List.map_congr_left fun k hk => ?_
    have hk := List.mem_range.mp hk
    exact chance_eq q (by omega) (rw_ n reg k)
  rw [ev] at pr
  simp only [b__law_row_at, getE_some, brB_bl, brO_some, asB_bl, asN_bl, asNeg_int, asI_int, nxF_nx, nxF_rt, fin_rt, fin_nx, ite_bind, ite_and, ite_or, rs_int, rs_bl, rs_tup, rs_lst, rs_scr, rs_non, ev_var, ev_cst, ev_op, ev_neg, ev_cmp, ev_chain, ev_and, ev_or, ev_not, ev_ife, ev_tup, ev_lst, ev_idx, ev_sl2, ev_sl3, ev_pcall, ev_mcall, ev_blt, ev_blt2, ev_isi, ev_lcF, ev_lqF, MQ.evs_nil, evs_cons, spl_lst, spl_tup, evs_star, evO_non, evO_som, evQ_of, evQ_rng1, evQ_rng2, evQ_rng3, evQ_zip2, evQ_zip3, evQ_enum, bnd_some, ex_asg, ex_asgs, ex_exp, ex_ret, ex_ite, ex_fr, exs_nil, exs_cons, seq_tup, seq_lst, seq_scr, map_some_, bt_nm, bt_tp, btp_nil, btp_cons, bind_ok, ofO_some, cmp_eq, cmp_ne, cmp_lt, cmp_le, cmp_gt, cmp_ge, op_add, op_sub, startE, List.map_cons, List.map_nil, List.length_cons, List.length_nil, List.replicate_succ, List.replicate_zero, Nat.reduceAdd, Nat.reduceSub, Nat.zero_add, List.cons_append, List.nil_append, List.getElem?_cons_zero, List.getElem?_cons_succ, List.set_cons_zero, List.set_cons_succ, cutO_lst, cutO_tup, cutO_scr, stepO_2, ev_lstM, ev_app, ev_ext, ev_rem, ev_frz, apT_some, apL_some, apV_lst, apR_ref, apO_some, memAt_hd, rs_hd, wipe_nil, wipe_cons, lcK_some, lcB_non, lcB_som, addO_some, addO_none, len_lst, len_tup, len_scr, tup_lst, lis_tup, lis_lst, if_true, if_false, Bool.false_eq_true, rr, r0, i0, i1, j0, j1, en, hmap, hsum, pN, pr]
theorem p__law_chance {K n s : Nat} {reg : List Nat} {q : Rat} {m : Mem} (hn : n ≤ 60) (hs : s ≤ 100) (hq : Sz s q) (h0 : 0 ≤ q) (h1 : q ≤ 1) : pcallR ⟨runF T.Γ (K+4)⟩ false f__law_chance [.int (n : Nat), .lst (reg.map fun i => Val.int (i : Nat)), fq q] m = .ok (fq (regP n reg q)) m := by
  refine pcall_id (.of (m := []) ?_ rfl) (by show (true && (noRefs (reg.map fun i => Val.int (i : Nat)) && (noRef (fq q) && true))) = true; rw [noRefs_map fun _ => rfl]; rfl)
  rw [run_def g__law_chance rfl]
  simp only [b__law_chance, getE_some, brB_bl, brO_some, asB_bl, asN_bl, asNeg_int, asI_int, nxF_nx, nxF_rt, fin_rt, fin_nx, ite_bind, ite_and, ite_or, rs_int, rs_bl, rs_tup, rs_lst, rs_scr, rs_non, ev_var, ev_cst, ev_op, ev_neg, ev_cmp, ev_chain, ev_and, ev_or, ev_not, ev_ife, ev_tup, ev_lst, ev_idx, ev_sl2, ev_sl3, ev_pcall, ev_mcall, ev_blt, ev_blt2, ev_isi, ev_lcF, ev_lqF, MQ.evs_nil, evs_cons, spl_lst, spl_tup, evs_star, evO_non, evO_som, evQ_of, evQ_rng1, evQ_rng2, evQ_rng3, evQ_zip2, evQ_zip3, evQ_enum, bnd_some, ex_asg, ex_asgs, ex_exp, ex_ret, ex_ite, ex_fr, exs_nil, exs_cons, seq_tup, seq_lst, seq_scr, map_some_, bt_nm, bt_tp, btp_nil, btp_cons, bind_ok, ofO_some, cmp_eq, cmp_ne, cmp_lt, cmp_le, cmp_gt, cmp_ge, op_add, op_sub, startE, List.map_cons, List.map_nil, List.length_cons, List.length_nil, List.replicate_succ, List.replicate_zero, Nat.reduceAdd, Nat.reduceSub, Nat.zero_add, List.cons_append, List.nil_append, List.getElem?_cons_zero, List.getElem?_cons_succ, List.set_cons_zero, List.set_cons_succ, cutO_lst, cutO_tup, cutO_scr, stepO_2, ev_lstM, ev_app, ev_ext, ev_rem, ev_frz, apT_some, apL_some, apV_lst, apR_ref, apO_some, memAt_hd, rs_hd, wipe_nil, wipe_cons, lcK_some, lcB_non, lcB_som, addO_some, addO_none, len_lst, len_tup, len_scr, tup_lst, lis_tup, lis_lst, if_true, if_false, Bool.false_eq_true, p__law_row_of (show n ≤ 900 by omega), p__law_row_at hn hs hq h0 h1]

theorem w_rising {K s : Nat} (hs : s + s < 9000) (v0 : Option Val) : ∀ (n : Nat) (left found : List Rat) (o : Option Val), left.length < n → found.length + left.length ≤ 1000 → (∀ q ∈ left, Sz s q) → ∃ o',
    whlGo (evE ⟨runF T.Γ (K+2)⟩ (.cmp .ne (.var 1) (.lst false .nil))) (exSs ⟨runF T.Γ (K+2)⟩ (.cons (.asg (.nm 3) (.pcall false f__law_least (.cons (.var 1) .nil)))
    (.cons (.exp (.app (.var 2) (.var 3)))
    (.cons (.exp (.rem (.var 1) (.var 3)))
    .nil)))) n [v0, some (.ref 0), some (.ref 1), o] [.lst (left.map fq), .lst (found.map fq)] =
      .ok (.nx [v0, some (.ref 0), some (.ref 1), o']) [.lst [], .lst ((found ++ srt left).map fq)]
  | 0, left, found, o, h, _, _ => by omega
  | n + 1, [], found, o, h, hl, hq => by
    refine ⟨o, ?_⟩
    have es : srt ([] : List Rat) = [] := List.eq_nil_of_length_eq_zero (by rw [srt_len]; rfl)
    rw [whl_step, es, List.append_nil]
    have hc : cmpV .ne (.lst (([] : List Rat).map fq)) (.lst (([] : List Rat).map fq)) = some false := cmp_neL [] []
    simp only [List.map_nil] at hc ⊢
    simp only [getE_some, brB_bl, brO_some, asB_bl, asN_bl, asNeg_int, asI_int, nxF_nx, nxF_rt, fin_rt, fin_nx, ite_bind, ite_and, ite_or, rs_int, rs_bl, rs_tup, rs_lst, rs_scr, rs_non, ev_var, ev_cst, ev_op, ev_neg, ev_cmp, ev_chain, ev_and, ev_or, ev_not, ev_ife, ev_tup, ev_lst, ev_idx, ev_sl2, ev_sl3, ev_pcall, ev_mcall, ev_blt, ev_blt2, ev_isi, ev_lcF, ev_lqF, MQ.evs_nil, evs_cons, spl_lst, spl_tup, evs_star, evO_non, evO_som, evQ_of, evQ_rng1, evQ_rng2, evQ_rng3, evQ_zip2, evQ_zip3, evQ_enum, bnd_some, ex_asg, ex_asgs, ex_exp, ex_ret, ex_ite, ex_fr, exs_nil, exs_cons, seq_tup, seq_lst, seq_scr, map_some_, bt_nm, bt_tp, btp_nil, btp_cons, bind_ok, ofO_some, cmp_eq, cmp_ne, cmp_lt, cmp_le, cmp_gt, cmp_ge, op_add, op_sub, startE, List.map_cons, List.map_nil, List.length_cons, List.length_nil, List.replicate_succ, List.replicate_zero, Nat.reduceAdd, Nat.reduceSub, Nat.zero_add, List.cons_append, List.nil_append, List.getElem?_cons_zero, List.getElem?_cons_succ, List.set_cons_zero, List.set_cons_succ, cutO_lst, cutO_tup, cutO_scr, stepO_2, ev_lstM, ev_app, ev_ext, ev_rem, ev_frz, apT_some, apL_some, apV_lst, apR_ref, apO_some, memAt_hd, rs_hd, wipe_nil, wipe_cons, lcK_some, lcB_non, lcB_som, addO_some, addO_none, len_lst, len_tup, len_scr, tup_lst, lis_tup, lis_lst, if_true, if_false, Bool.false_eq_true, LL, Nat.zero_le, hc, ite_true]
  | n + 1, q :: qs, found, o, h, hl, hq => by
    simp only [List.length_cons] at h hl
    have hb := minL_mem q qs
    obtain ⟨o', e⟩ := w_rising hs v0 n ((q :: qs).erase (minL q qs)) (found ++ [minL q qs]) (some (fq (minL q qs))) (by rw [List.length_erase_of_mem hb]; simp only [List.length_cons]; omega) (by rw [List.length_erase_of_mem hb, List.length_append]; simp only [List.length_cons, List.length_nil]; omega) (fun x hx => hq x (List.mem_of_mem_erase hx))
    refine ⟨o', ?_⟩
    have hsrt : srt (q :: qs) = minL q qs :: srt ((q :: qs).erase (minL q qs)) := by
      refine (srt_of ?_ ?_).symm
      · exact ((srt_perm _).cons _).trans (List.perm_cons_erase hb).symm
      · exact List.pairwise_cons.mpr ⟨fun x hx => minL_least q qs x (List.mem_of_mem_erase (srt_mem.mp hx)), srt_sorted _⟩
    have hc : cmpV .ne (.lst ((q :: qs).map fq)) (.lst []) = some true := by
      have := cmp_neL (q :: qs) []
      rw [decide_eq_false (by simp)] at this
      exact this
    have hr1 : rem1 (fq (minL q qs)) ((q :: qs).map fq) = some (((q :: qs).erase (minL q qs)).map fq) := rem1_fq hb
    have hp := p__law_leastM (K := K) (m := [.lst (found.map fq)]) hs (hq q List.mem_cons_self) (fun x hx => hq x (List.mem_cons_of_mem _ hx))
    have hLL : ((found.map fq).length < LL) = True := by
      rw [List.length_map]
      exact eq_true (Nat.lt_of_lt_of_le (show found.length < 1001 by omega) (by decide))
    have e : whlGo (evE ⟨runF T.Γ (K+2)⟩ (.cmp .ne (.var 1) (.lst false .nil))) (exSs ⟨runF T.Γ (K+2)⟩ (.cons (.asg (.nm 3) (.pcall false f__law_least (.cons (.var 1) .nil)))
    (.cons (.exp (.app (.var 2) (.var 3)))
    (.cons (.exp (.rem (.var 1) (.var 3)))
    .nil)))) n [v0, some (.ref 0), some (.ref 1), some (fq (minL q qs))] [.lst (((q :: qs).erase (minL q qs)).map fq), .lst (found.map fq ++ [fq (minL q qs)])] =
      .ok (.nx [v0, some (.ref 0), some (.ref 1), o']) [.lst [], .lst ((found ++ srt (q :: qs)).map fq)] := by
      rw [List.map_append, List.append_assoc] at e
      rw [hsrt]
      exact e
    have ma : ∀ l : List Val, memAt [.lst l, .lst (found.map fq)] (.ref 1) = some 1 := fun l => rfl
    rw [whl_step]
    generalize (q :: qs).map fq = L at hp hc hr1 ⊢
    simp only [getE_some, brB_bl, brO_some, asB_bl, asN_bl, asNeg_int, asI_int, nxF_nx, nxF_rt, fin_rt, fin_nx, ite_bind, ite_and, ite_or, rs_int, rs_bl, rs_tup, rs_lst, rs_scr, rs_non, ev_var, ev_cst, ev_op, ev_neg, ev_cmp, ev_chain, ev_and, ev_or, ev_not, ev_ife, ev_tup, ev_lst, ev_idx, ev_sl2, ev_sl3, ev_pcall, ev_mcall, ev_blt, ev_blt2, ev_isi, ev_lcF, ev_lqF, MQ.evs_nil, evs_cons, spl_lst, spl_tup, evs_star, evO_non, evO_som, evQ_of, evQ_rng1, evQ_rng2, evQ_rng3, evQ_zip2, evQ_zip3, evQ_enum, bnd_some, ex_asg, ex_asgs, ex_exp, ex_ret, ex_ite, ex_fr, exs_nil, exs_cons, seq_tup, seq_lst, seq_scr, map_some_, bt_nm, bt_tp, btp_nil, btp_cons, bind_ok, ofO_some, cmp_eq, cmp_ne, cmp_lt, cmp_le, cmp_gt, cmp_ge, op_add, op_sub, startE, List.map_cons, List.map_nil, List.length_cons, List.length_nil, List.replicate_succ, List.replicate_zero, Nat.reduceAdd, Nat.reduceSub, Nat.zero_add, List.cons_append, List.nil_append, List.getElem?_cons_zero, List.getElem?_cons_succ, List.set_cons_zero, List.set_cons_succ, cutO_lst, cutO_tup, cutO_scr, stepO_2, ev_lstM, ev_app, ev_ext, ev_rem, ev_frz, apT_some, apL_some, apV_lst, apR_ref, apO_some, memAt_hd, rs_hd, wipe_nil, wipe_cons, lcK_some, lcB_non, lcB_som, addO_some, addO_none, len_lst, len_tup, len_scr, tup_lst, lis_tup, lis_lst, if_true, if_false, Bool.false_eq_true, LL, Nat.zero_le, hc, hp, ma, ite_true]
    simp only [LL] at hLL
    simp only [getE_some, brB_bl, brO_some, asB_bl, asN_bl, asNeg_int, asI_int, nxF_nx, nxF_rt, fin_rt, fin_nx, ite_bind, ite_and, ite_or, rs_int, rs_bl, rs_tup, rs_lst, rs_scr, rs_non, ev_var, ev_cst, ev_op, ev_neg, ev_cmp, ev_chain, ev_and, ev_or, ev_not, ev_ife, ev_tup, ev_lst, ev_idx, ev_sl2, ev_sl3, ev_pcall, ev_mcall, ev_blt, ev_blt2, ev_isi, ev_lcF, ev_lqF, MQ.evs_nil, evs_cons, spl_lst, spl_tup, evs_star, evO_non, evO_som, evQ_of, evQ_rng1, evQ_rng2, evQ_rng3, evQ_zip2, evQ_zip3, evQ_enum, bnd_some, ex_asg, ex_asgs, ex_exp, ex_ret, ex_ite, ex_fr, exs_nil, exs_cons, seq_tup, seq_lst, seq_scr, map_some_, bt_nm, bt_tp, btp_nil, btp_cons, bind_ok, ofO_some, cmp_eq, cmp_ne, cmp_lt, cmp_le, cmp_gt, cmp_ge, op_add, op_sub, startE, List.map_cons, List.map_nil, List.length_cons, List.length_nil, List.replicate_succ, List.replicate_zero, Nat.reduceAdd, Nat.reduceSub, Nat.zero_add, List.cons_append, List.nil_append, List.getElem?_cons_zero, List.getElem?_cons_succ, List.set_cons_zero, List.set_cons_succ, cutO_lst, cutO_tup, cutO_scr, stepO_2, ev_lstM, ev_app, ev_ext, ev_rem, ev_frz, apT_some, apL_some, apV_lst, apR_ref, apO_some, memAt_hd, rs_hd, wipe_nil, wipe_cons, lcK_some, lcB_non, lcB_som, addO_some, addO_none, len_lst, len_tup, len_scr, tup_lst, lis_tup, lis_lst, if_true, if_false, Bool.false_eq_true, hLL, hr1, lpF_nx, ite_true]
    exact e
theorem p__law_rising {K s : Nat} {qs : List Rat} {v : Val} {m : Mem} (hv : seqOf v = some (qs.map fq)) (hn : noRef v = true) (hs : s + s < 9000) (hl : qs.length ≤ 900) (hq : ∀ q ∈ qs, Sz s q) : pcallR ⟨runF T.Γ (K+3)⟩ false f__law_rising [v] m = .ok (.lst ((srt qs).map fq)) m := by
  refine pcall_id ?_ (by show (noRef v && true) = true; rw [hn]; rfl)
  refine ⟨.ref 1, [.lst [], .lst ((srt qs).map fq)], ?_, ?_⟩
  · rw [run_def g__law_rising rfl]
    obtain ⟨F, hF, hN, _⟩ := FUEL_ex
    obtain ⟨o', e⟩ := w_rising (K := K) hs (some v) F qs [] none (by omega) (by simp only [List.length_nil]; omega) hq
    rw [List.nil_append] at e
    simp only [List.map_nil] at e
    simp only [b__law_rising, getE_some, brB_bl, brO_some, asB_bl, asN_bl, asNeg_int, asI_int, nxF_nx, nxF_rt, fin_rt, fin_nx, ite_bind, ite_and, ite_or, rs_int, rs_bl, rs_tup, rs_lst, rs_scr, rs_non, ev_var, ev_cst, ev_op, ev_neg, ev_cmp, ev_chain, ev_and, ev_or, ev_not, ev_ife, ev_tup, ev_lst, ev_idx, ev_sl2, ev_sl3, ev_pcall, ev_mcall, ev_blt, ev_blt2, ev_isi, ev_lcF, ev_lqF, MQ.evs_nil, evs_cons, spl_lst, spl_tup, evs_star, evO_non, evO_som, evQ_of, evQ_rng1, evQ_rng2, evQ_rng3, evQ_zip2, evQ_zip3, evQ_enum, bnd_some, ex_asg, ex_asgs, ex_exp, ex_ret, ex_ite, ex_fr, exs_nil, exs_cons, seq_tup, seq_lst, seq_scr, map_some_, bt_nm, bt_tp, btp_nil, btp_cons, bind_ok, ofO_some, cmp_eq, cmp_ne, cmp_lt, cmp_le, cmp_gt, cmp_ge, op_add, op_sub, startE, List.map_cons, List.map_nil, List.length_cons, List.length_nil, List.replicate_succ, List.replicate_zero, Nat.reduceAdd, Nat.reduceSub, Nat.zero_add, List.cons_append, List.nil_append, List.getElem?_cons_zero, List.getElem?_cons_succ, List.set_cons_zero, List.set_cons_succ, cutO_lst, cutO_tup, cutO_scr, stepO_2, ev_lstM, ev_app, ev_ext, ev_rem, ev_frz, apT_some, apL_some, apV_lst, apR_ref, apO_some, memAt_hd, rs_hd, wipe_nil, wipe_cons, lcK_some, lcB_non, lcB_som, addO_some, addO_none, len_lst, len_tup, len_scr, tup_lst, lis_tup, lis_lst, if_true, if_false, Bool.false_eq_true, ev_lqT, hv, LL, Nat.zero_le, hF, e, ite_true]
  · unfold snap
    show (if noRef (.lst ((srt qs).map fq)) = true then some (Val.lst ((srt qs).map fq)) else none) = _
    have h : noRef (.lst ((srt qs).map fq)) = true := noRefs_map noRef_fq (srt qs)
    rw [if_pos h]

end LW
namespace LW
open PySem PySem.Spec MP MQ
/-! ### all outcomes -/
def rowT (r : List Nat) : Val := .tup (r.map fun i => Val.int (i : Nat))
theorem noRef_rowT (r : List Nat) : noRef (rowT r) = true := by
  show noRefs (r.map fun i => Val.int (i : Nat)) = true
  exact noRefs_map (fun _ => rfl) r
theorem w_row {C : Calls} (n : Nat) (hn : n ≤ 60) (v0 v1 : Option Val) (mm : Mem) : ∀ (f : List (List Nat)) (acc : List (List Nat)) (o : Option Val), acc.length + f.length * (n + 1) ≤ 900 → (∀ r ∈ f, r.length ≤ 100) → ∃ o',
    frGo (.nm 4) (exSs C (.cons (.exp (.ext (.var 3) (.lc false (.op .add (.var 4) (.tup (.cons (.var 5) .nil))) (.nm 5) (.rng1 (.op .add (.var 2) (.cst (.int 1)))) .non [5]))) .nil)) (f.map rowT) [v0, v1, some (.int (n : Nat)), some (.ref mm.length), o, none] (mm ++ [.lst (acc.map rowT)]) =
      .ok (.nx [v0, v1, some (.int (n : Nat)), some (.ref mm.length), o', none]) (mm ++ [.lst ((acc ++ moreO f n).map rowT)])
  | [], acc, o, _, _ => ⟨o, by rw [List.map_nil, fr_nil]; show _ = R.ok _ (mm ++ [.lst ((acc ++ []).map rowT)]); rw [List.append_nil]⟩
  | r :: f, acc, o, h, hr => by
    simp only [List.length_cons] at h
    have hmul : (f.length + 1) * (n + 1) = f.length * (n + 1) + (n + 1) := Nat.succ_mul _ _
    obtain ⟨o', e⟩ := w_row (C := C) n hn v0 v1 mm f (acc ++ (List.range (n + 1)).map fun y => r ++ [y]) (some (rowT r)) (by rw [List.length_append, List.length_map, List.length_range]; omega) (fun x hx => hr x (List.mem_cons_of_mem _ hx))
    refine ⟨o', ?_⟩
    have hrl := hr r List.mem_cons_self
    have hr1 : rng1V (.int ((n : Int) + 1)) = some ((List.range (n + 1)).map fun k => Val.int (k : Nat)) := by
      have := rng1_ok (n := n + 1) (by omega)
      rw [rngL_zero] at this
      exact this
    have rt : ∀ m, rs m (rowT r) = .tup (r.map fun i => Val.int (i : Nat)) := fun m => rs_of (noRef_rowT r)
    have hmap : mapR (lcB C (.op .add (.var 4) (.tup (.cons (.var 5) .nil))) (.nm 5) .non [v0, v1, some (.int (n : Nat)), some (.ref mm.length), some (rowT r), none]) ((List.range (n + 1)).map fun k => Val.int (k : Nat)) (mm ++ [.lst (acc.map rowT)]) = .ok ((List.range (n + 1)).map fun y => rowT (r ++ [y])) (mm ++ [.lst (acc.map rowT)]) := mapR_of fun k hk => by
      have hcat : opV .add (.tup (r.map fun i => Val.int (i : Nat))) (.tup [.int (k : Nat)]) = some (.tup ((r.map fun i => Val.int (i : Nat)) ++ [.int (k : Nat)])) := op_catT (by rw [List.length_map]; exact Nat.le_trans (Nat.add_le_add hrl (Nat.le_refl 1)) (by decide))
      simp only [getE_some, brB_bl, brO_some, asB_bl, asN_bl, asNeg_int, asI_int, nxF_nx, nxF_rt, fin_rt, fin_nx, ite_bind, ite_and, ite_or, rs_int, rs_bl, rs_tup, rs_lst, rs_scr, rs_non, ev_var, ev_cst, ev_op, ev_neg, ev_cmp, ev_chain, ev_and, ev_or, ev_not, ev_ife, ev_tup, ev_lst, ev_idx, ev_sl2, ev_sl3, ev_pcall, ev_mcall, ev_blt, ev_blt2, ev_isi, ev_lcF, ev_lqF, MQ.evs_nil, evs_cons, spl_lst, spl_tup, evs_star, evO_non, evO_som, evQ_of, evQ_rng1, evQ_rng2, evQ_rng3, evQ_zip2, evQ_zip3, evQ_enum, bnd_some, ex_asg, ex_asgs, ex_exp, ex_ret, ex_ite, ex_fr, exs_nil, exs_cons, seq_tup, seq_lst, seq_scr, map_some_, bt_nm, bt_tp, btp_nil, btp_cons, bind_ok, ofO_some, cmp_eq, cmp_ne, cmp_lt, cmp_le, cmp_gt, cmp_ge, op_add, op_sub, startE, List.map_cons, List.map_nil, List.length_cons, List.length_nil, List.replicate_succ, List.replicate_zero, Nat.reduceAdd, Nat.reduceSub, Nat.zero_add, List.cons_append, List.nil_append, List.getElem?_cons_zero, List.getElem?_cons_succ, List.set_cons_zero, List.set_cons_succ, cutO_lst, cutO_tup, cutO_scr, stepO_2, ev_lstM, ev_app, ev_ext, ev_rem, ev_frz, apT_some, apL_some, apV_lst, apR_ref, apO_some, memAt_hd, rs_hd, wipe_nil, wipe_cons, lcK_some, lcB_non, lcB_som, addO_some, addO_none, len_lst, len_tup, len_scr, tup_lst, lis_tup, lis_lst, if_true, if_false, Bool.false_eq_true, rt, LL, Nat.reduceLeDiff, hcat, ite_true]
      show R.ok (some (Val.tup ((r.map fun i => Val.int (i : Nat)) ++ [.int (k : Nat)]))) _ = R.ok (some (Val.tup ((r ++ [k]).map fun i => Val.int (i : Nat)))) _
      rw [List.map_append]
      rfl
    have hLL : ((acc.map rowT).length + ((List.range (n + 1)).map fun y => rowT (r ++ [y])).length ≤ LL) = True := by
      rw [List.length_map, List.length_map, List.length_range]
      exact eq_true (Nat.le_trans (show acc.length + (n + 1) ≤ 1000 by omega) (by decide))
    rw [List.map_cons, fr_cons]
    simp only [getE_some, brB_bl, brO_some, asB_bl, asN_bl, asNeg_int, asI_int, nxF_nx, nxF_rt, fin_rt, fin_nx, ite_bind, ite_and, ite_or, rs_int, rs_bl, rs_tup, rs_lst, rs_scr, rs_non, ev_var, ev_cst, ev_op, ev_neg, ev_cmp, ev_chain, ev_and, ev_or, ev_not, ev_ife, ev_tup, ev_lst, ev_idx, ev_sl2, ev_sl3, ev_pcall, ev_mcall, ev_blt, ev_blt2, ev_isi, ev_lcF, ev_lqF, MQ.evs_nil, evs_cons, spl_lst, spl_tup, evs_star, evO_non, evO_som, evQ_of, evQ_rng1, evQ_rng2, evQ_rng3, evQ_zip2, evQ_zip3, evQ_enum, bnd_some, ex_asg, ex_asgs, ex_exp, ex_ret, ex_ite, ex_fr, exs_nil, exs_cons, seq_tup, seq_lst, seq_scr, map_some_, bt_nm, bt_tp, btp_nil, btp_cons, bind_ok, ofO_some, cmp_eq, cmp_ne, cmp_lt, cmp_le, cmp_gt, cmp_ge, op_add, op_sub, startE, List.map_cons, List.map_nil, List.length_cons, List.length_nil, List.replicate_succ, List.replicate_zero, Nat.reduceAdd, Nat.reduceSub, Nat.zero_add, List.cons_append, List.nil_append, List.getElem?_cons_zero, List.getElem?_cons_succ, List.set_cons_zero, List.set_cons_succ, cutO_lst, cutO_tup, cutO_scr, stepO_2, ev_lstM, ev_app, ev_ext, ev_rem, ev_frz, apT_some, apL_some, apV_lst, apR_ref, apO_some, memAt_hd, rs_hd, wipe_nil, wipe_cons, lcK_some, lcB_non, lcB_som, addO_some, addO_none, len_lst, len_tup, len_scr, tup_lst, lis_tup, lis_lst, if_true, if_false, Bool.false_eq_true, frB_some, memAt_end, hr1, hmap, get_end, hLL, set_end, lpF_nx, ite_true]
    rw [List.map_append, List.map_map] at e
    show _ = R.ok _ (mm ++ [.lst ((acc ++ (((List.range (n + 1)).map fun y => r ++ [y]) ++ moreO f n)).map rowT)])
    rw [← List.append_assoc]
    exact e
theorem moreO_len (f : List (List Nat)) (n : Nat) : (moreO f n).length = f.length * (n + 1) := by
  unfold moreO
  induction f with
  | nil => simp
  | cons r f ih =>
    rw [List.flatMap_cons, List.length_append, ih, List.length_map, List.length_range, List.length_cons, Nat.succ_mul]
    omega
theorem moreO_row {f : List (List Nat)} {n k : Nat} (h : ∀ r ∈ f, r.length = k) : ∀ r ∈ moreO f n, r.length = k + 1 := fun r hr => by
  obtain ⟨x, hx, hr⟩ := List.mem_flatMap.mp hr
  obtain ⟨y, _, rfl⟩ := List.mem_map.mp hr
  rw [List.length_append, h x hx]
  rfl
/-- so many outcomes -/
def outN (coins : List Nat) : Nat := (coins.map (· + 1)).foldl (· * ·) 1
theorem w_outs {C : Calls} (v0 : Option Val) : ∀ (coins : List Nat) (f : List (List Nat)) (j : Nat) (a b c : Option Val) (mm : Mem), (∀ n ∈ coins, n ≤ 60) → (∀ r ∈ f, r.length = j) → j + coins.length ≤ 100 → (∀ g, (∃ k, g = (coins.take k).foldl moreO f) → g.length ≤ 900) → ∃ a' b' c' m',
    frGo (.nm 2) (exSs C (.cons (.asg (.nm 3) (.lst true .nil))
    (.cons (.fr (.nm 4) (.of (.var 1))
      (.cons (.exp (.ext (.var 3) (.lc false (.op .add (.var 4) (.tup (.cons (.var 5) .nil))) (.nm 5) (.rng1 (.op .add (.var 2) (.cst (.int 1)))) .non [5])))
    .nil))
    (.cons (.asg (.nm 1) (.frz (.var 3)))
    .nil)))) (coins.map fun i => Val.int (i : Nat)) [v0, some (.lst (f.map rowT)), a, b, c, none] mm = .ok (.nx [v0, some (.lst ((coins.foldl moreO f).map rowT)), a', b', c', none]) m'
  | [], f, j, a, b, c, mm, _, _, _, _ => ⟨a, b, c, mm, by rw [List.map_nil, fr_nil]; rfl⟩
  | n :: coins, f, j, a, b, c, mm, hn, hf, hj, hl => by
    simp only [List.length_cons] at hj
    have h1 : (moreO f n).length ≤ 900 := hl _ ⟨1, rfl⟩
    obtain ⟨o', e1⟩ := w_row (C := C) n (hn n List.mem_cons_self) v0 (some (.lst (f.map rowT))) mm f [] c (by rw [List.length_nil, Nat.zero_add, ← moreO_len]; exact h1) (fun r hr => by rw [hf r hr]; omega)
    obtain ⟨a', b', c', m', e2⟩ := w_outs (C := C) v0 coins (moreO f n) (j + 1) (some (.int (n : Nat))) (some (.ref mm.length)) o' (mm ++ [.dead]) (fun x hx => hn x (List.mem_cons_of_mem _ hx)) (moreO_row hf) (by omega) (fun g ⟨k, hg⟩ => hl g ⟨k + 1, by rw [hg]; rfl⟩)
    refine ⟨a', b', c', m', ?_⟩
    rw [List.map_nil, List.nil_append] at e1
    rw [List.map_cons, fr_cons]
    simp only [getE_some, brB_bl, brO_some, asB_bl, asN_bl, asNeg_int, asI_int, nxF_nx, nxF_rt, fin_rt, fin_nx, ite_bind, ite_and, ite_or, rs_int, rs_bl, rs_tup, rs_lst, rs_scr, rs_non, ev_var, ev_cst, ev_op, ev_neg, ev_cmp, ev_chain, ev_and, ev_or, ev_not, ev_ife, ev_tup, ev_lst, ev_idx, ev_sl2, ev_sl3, ev_pcall, ev_mcall, ev_blt, ev_blt2, ev_isi, ev_lcF, ev_lqF, MQ.evs_nil, evs_cons, spl_lst, spl_tup, evs_star, evO_non, evO_som, evQ_of, evQ_rng1, evQ_rng2, evQ_rng3, evQ_zip2, evQ_zip3, evQ_enum, bnd_some, ex_asg, ex_asgs, ex_exp, ex_ret, ex_ite, ex_fr, exs_nil, exs_cons, seq_tup, seq_lst, seq_scr, map_some_, bt_nm, bt_tp, btp_nil, btp_cons, bind_ok, ofO_some, cmp_eq, cmp_ne, cmp_lt, cmp_le, cmp_gt, cmp_ge, op_add, op_sub, startE, List.map_cons, List.map_nil, List.length_cons, List.length_nil, List.replicate_succ, List.replicate_zero, Nat.reduceAdd, Nat.reduceSub, Nat.zero_add, List.cons_append, List.nil_append, List.getElem?_cons_zero, List.getElem?_cons_succ, List.set_cons_zero, List.set_cons_succ, cutO_lst, cutO_tup, cutO_scr, stepO_2, ev_lstM, ev_app, ev_ext, ev_rem, ev_frz, apT_some, apL_some, apV_lst, apR_ref, apO_some, memAt_hd, rs_hd, wipe_nil, wipe_cons, lcK_some, lcB_non, lcB_som, addO_some, addO_none, len_lst, len_tup, len_scr, tup_lst, lis_tup, lis_lst, if_true, if_false, Bool.false_eq_true, frB_some, LL, Nat.zero_le, e1, get_end, set_end, lpF_nx, ite_true]
    exact e2
theorem p__law_outcomes {K : Nat} {coins : List Nat} {m : Mem} (hn : ∀ n ∈ coins, n ≤ 60) (hj : coins.length ≤ 100) (hl : ∀ k, ((coins.take k).foldl moreO [[]]).length ≤ 900) : pcallR ⟨runF T.Γ (K+1)⟩ false f__law_outcomes [.lst (coins.map fun i => Val.int (i : Nat))] m = .ok (.lst ((outs coins).map rowT)) m := by
  refine pcall_id ?_ (by show (noRefs (coins.map fun i => Val.int (i : Nat)) && true) = true; rw [noRefs_map fun _ => rfl]; rfl)
  obtain ⟨a', b', c', m', e⟩ := w_outs (C := ⟨runF T.Γ K⟩) (some (.lst (coins.map fun i => Val.int (i : Nat)))) coins [[]] 0 none none none [] hn (fun r hr => by rw [List.mem_singleton.mp hr]; rfl) (by omega) (fun g ⟨k, hg⟩ => by rw [hg]; exact hl k)
  refine .of (m := m') ?_ (by show noRefs ((outs coins).map rowT) = true; exact noRefs_map noRef_rowT _)
  rw [run_def g__law_outcomes rfl]
  have e0 : [Val.tup []] = ([[]] : List (List Nat)).map rowT := rfl
  simp only [b__law_outcomes, getE_some, brB_bl, brO_some, asB_bl, asN_bl, asNeg_int, asI_int, nxF_nx, nxF_rt, fin_rt, fin_nx, ite_bind, ite_and, ite_or, rs_int, rs_bl, rs_tup, rs_lst, rs_scr, rs_non, ev_var, ev_cst, ev_op, ev_neg, ev_cmp, ev_chain, ev_and, ev_or, ev_not, ev_ife, ev_tup, ev_lst, ev_idx, ev_sl2, ev_sl3, ev_pcall, ev_mcall, ev_blt, ev_blt2, ev_isi, ev_lcF, ev_lqF, MQ.evs_nil, evs_cons, spl_lst, spl_tup, evs_star, evO_non, evO_som, evQ_of, evQ_rng1, evQ_rng2, evQ_rng3, evQ_zip2, evQ_zip3, evQ_enum, bnd_some, ex_asg, ex_asgs, ex_exp, ex_ret, ex_ite, ex_fr, exs_nil, exs_cons, seq_tup, seq_lst, seq_scr, map_some_, bt_nm, bt_tp, btp_nil, btp_cons, bind_ok, ofO_some, cmp_eq, cmp_ne, cmp_lt, cmp_le, cmp_gt, cmp_ge, op_add, op_sub, startE, List.map_cons, List.map_nil, List.length_cons, List.length_nil, List.replicate_succ, List.replicate_zero, Nat.reduceAdd, Nat.reduceSub, Nat.zero_add, List.cons_append, List.nil_append, List.getElem?_cons_zero, List.getElem?_cons_succ, List.set_cons_zero, List.set_cons_succ, cutO_lst, cutO_tup, cutO_scr, stepO_2, ev_lstM, ev_app, ev_ext, ev_rem, ev_frz, apT_some, apL_some, apV_lst, apR_ref, apO_some, memAt_hd, rs_hd, wipe_nil, wipe_cons, lcK_some, lcB_non, lcB_som, addO_some, addO_none, len_lst, len_tup, len_scr, tup_lst, lis_tup, lis_lst, if_true, if_false, Bool.false_eq_true, LL, Nat.reduceLeDiff, Nat.zero_le, ite_true]
  rw [e0, e]
  simp only [getE_some, brB_bl, brO_some, asB_bl, asN_bl, asNeg_int, asI_int, nxF_nx, nxF_rt, fin_rt, fin_nx, ite_bind, ite_and, ite_or, rs_int, rs_bl, rs_tup, rs_lst, rs_scr, rs_non, ev_var, ev_cst, ev_op, ev_neg, ev_cmp, ev_chain, ev_and, ev_or, ev_not, ev_ife, ev_tup, ev_lst, ev_idx, ev_sl2, ev_sl3, ev_pcall, ev_mcall, ev_blt, ev_blt2, ev_isi, ev_lcF, ev_lqF, MQ.evs_nil, evs_cons, spl_lst, spl_tup, evs_star, evO_non, evO_som, evQ_of, evQ_rng1, evQ_rng2, evQ_rng3, evQ_zip2, evQ_zip3, evQ_enum, bnd_some, ex_asg, ex_asgs, ex_exp, ex_ret, ex_ite, ex_fr, exs_nil, exs_cons, seq_tup, seq_lst, seq_scr, map_some_, bt_nm, bt_tp, btp_nil, btp_cons, bind_ok, ofO_some, cmp_eq, cmp_ne, cmp_lt, cmp_le, cmp_gt, cmp_ge, op_add, op_sub, startE, List.map_cons, List.map_nil, List.length_cons, List.length_nil, List.replicate_succ, List.replicate_zero, Nat.reduceAdd, Nat.reduceSub, Nat.zero_add, List.cons_append, List.nil_append, List.getElem?_cons_zero, List.getElem?_cons_succ, List.set_cons_zero, List.set_cons_succ, cutO_lst, cutO_tup, cutO_scr, stepO_2, ev_lstM, ev_app, ev_ext, ev_rem, ev_frz, apT_some, apL_some, apV_lst, apR_ref, apO_some, memAt_hd, rs_hd, wipe_nil, wipe_cons, lcK_some, lcB_non, lcB_som, addO_some, addO_none, len_lst, len_tup, len_scr, tup_lst, lis_tup, lis_lst, if_true, if_false, Bool.false_eq_true]
  rfl

theorem sum_one {n y : Nat} (hy : y ≤ n) (g : Nat → Rat) : ((List.range (n + 1)).map fun k => if k = y then g k else 0).sum = g y := by
  have key : ∀ (m j : Nat), ((List.range' j m).map fun k => if k = y then g k else 0).sum = if j ≤ y ∧ y < j + m then g y else 0 := by
    intro m
    induction m with
    | zero => intro j; rw [if_neg (by omega)]; rfl
    | succ m ih =>
      intro j
      rw [List.range'_succ, List.map_cons, List.sum_cons, ih (j + 1)]
      by_cases h1 : j = y
      · subst h1
        rw [if_pos rfl, if_neg (by omega), if_pos (by omega), Rat.add_zero]
      · rw [if_neg h1, Rat.zero_add]
        by_cases h2 : j + 1 ≤ y ∧ y < j + 1 + m
        · rw [if_pos h2, if_pos (by omega)]
        · rw [if_neg h2, if_neg (by omega)]
  rw [List.range_eq_range', key, if_pos (by omega)]
theorem regP_one {n y : Nat} {q : Rat} (hy : y ≤ n) : regP n [y] q = pmf n q y := by
  have h := sum_one hy (pmf n q)
  rw [← h]
  unfold regP
  congr 1
  refine List.map_congr_left fun k _ => ?_
  unfold rw_ pmf
  by_cases hk : k = y
  · subst hk
    rw [if_pos (List.mem_singleton.mpr rfl), if_pos rfl]
  · rw [if_neg (fun h => hk (List.mem_singleton.mp h)), if_neg hk]
    have : ((0 : Nat) : Rat) = 0 := rfl
    rw [this, Rat.zero_mul, Rat.zero_mul]
theorem w_likely {K s t : Nat} (hs : s ≤ 30) (ht : 6 + 1 + (s * 6 + 1) + (s * 6 + 1) = t) (v0 v1 v2 : Option Val) (mm : Mem) : ∀ (ns ys : List Nat) (qs : List Rat) (f : Rat) (u : Nat) (a b c : Option Val), Sz u f → u + ns.length * t < 4000 → (∀ n ∈ ns, n ≤ 6) → (∀ q ∈ qs, Sz s q ∧ 0 ≤ q ∧ q ≤ 1) → (∀ p ∈ ns.zip ys, p.2 ≤ p.1) → ∃ a' b' c',
    frGo (.tp [4, 5, 6]) (exSs ⟨runF T.Γ (K+4)⟩ (.cons (.asg (.nm 3) (.pcall false f__law_times (.cons (.var 3) (.cons (.pcall false f__law_chance (.cons (.var 4) (.cons (.lst false (.cons (.var 5) .nil)) (.cons (.var 6) .nil)))) .nil)))) .nil)) (zip3V (ns.map fun i => Val.int (i : Nat)) (ys.map fun i => Val.int (i : Nat)) (qs.map fq)) [v0, v1, v2, some (fq f), a, b, c] mm = .ok (.nx [v0, v1, v2, some (fq (likF f ns ys qs)), a', b', c']) mm
  | [], ys, qs, f, u, a, b, c, _, _, _, _, _ => ⟨a, b, c, by rw [List.map_nil, zip3V, fr_nil]; simp only [likF]; intro _ _ _ _ _ _ h; cases h⟩
  | n :: ns, [], qs, f, u, a, b, c, _, _, _, _, _ => ⟨a, b, c, by rw [List.map_nil, zip3V, fr_nil]; simp only [likF]; intro _ _ _ _ _ _ _ h; cases h⟩
  | n :: ns, y :: ys, [], f, u, a, b, c, _, _, _, _, _ => ⟨a, b, c, by rw [List.map_nil, zip3V, fr_nil]; simp only [likF]; intro _ _ _ _ _ _ _ _ h; cases h⟩
  | n :: ns, y :: ys, q :: qs, f, u, a, b, c, hf, hu, hn, hq, hy => by
    have hn0 := hn n List.mem_cons_self
    obtain ⟨hq1, hq2, hq3⟩ := hq q List.mem_cons_self
    have hy0 : y ≤ n := hy (n, y) List.mem_cons_self
    have hmul : (ns.length + 1) * t = ns.length * t + t := Nat.succ_mul _ _
    simp only [List.length_cons] at hu
    have hsn : s * n ≤ s * 6 := Nat.mul_le_mul_left s hn0
    have pz : Sz t (pmf n q y) := (pmf_sz hq1 hq2 hq3 hy0).mono (by omega)
    obtain ⟨a', b', c', e⟩ := w_likely (K := K) hs ht v0 v1 v2 mm ns ys qs (f * pmf n q y) (u + t) (some (.int (n : Nat))) (some (.int (y : Nat))) (some (fq q)) (hf.mul pz) (by omega) (fun x hx => hn x (List.mem_cons_of_mem _ hx)) (fun x hx => hq x (List.mem_cons_of_mem _ hx)) (fun p hp => hy p (List.mem_cons_of_mem _ hp))
    refine ⟨a', b', c', ?_⟩
    have pc := fun m => p__law_chance (K := K) (m := m) (reg := [y]) (show n ≤ 60 by omega) (show s ≤ 100 by omega) hq1 hq2 hq3
    rw [regP_one hy0] at pc
    simp only [List.map_cons, List.map_nil] at pc
    have pt := fun m => p__law_times (K := K + 1) (m := m) hf pz (by omega)
    rw [List.map_cons, List.map_cons, List.map_cons, zip3V, fr_cons]
    simp only [getE_some, brB_bl, brO_some, asB_bl, asN_bl, asNeg_int, asI_int, nxF_nx, nxF_rt, fin_rt, fin_nx, ite_bind, ite_and, ite_or, rs_int, rs_bl, rs_tup, rs_lst, rs_scr, rs_non, ev_var, ev_cst, ev_op, ev_neg, ev_cmp, ev_chain, ev_and, ev_or, ev_not, ev_ife, ev_tup, ev_lst, ev_idx, ev_sl2, ev_sl3, ev_pcall, ev_mcall, ev_blt, ev_blt2, ev_isi, ev_lcF, ev_lqF, MQ.evs_nil, evs_cons, spl_lst, spl_tup, evs_star, evO_non, evO_som, evQ_of, evQ_rng1, evQ_rng2, evQ_rng3, evQ_zip2, evQ_zip3, evQ_enum, bnd_some, ex_asg, ex_asgs, ex_exp, ex_ret, ex_ite, ex_fr, exs_nil, exs_cons, seq_tup, seq_lst, seq_scr, map_some_, bt_nm, bt_tp, btp_nil, btp_cons, bind_ok, ofO_some, cmp_eq, cmp_ne, cmp_lt, cmp_le, cmp_gt, cmp_ge, op_add, op_sub, startE, List.map_cons, List.map_nil, List.length_cons, List.length_nil, List.replicate_succ, List.replicate_zero, Nat.reduceAdd, Nat.reduceSub, Nat.zero_add, List.cons_append, List.nil_append, List.getElem?_cons_zero, List.getElem?_cons_succ, List.set_cons_zero, List.set_cons_succ, cutO_lst, cutO_tup, cutO_scr, stepO_2, ev_lstM, ev_app, ev_ext, ev_rem, ev_frz, apT_some, apL_some, apV_lst, apR_ref, apO_some, memAt_hd, rs_hd, wipe_nil, wipe_cons, lcK_some, lcB_non, lcB_som, addO_some, addO_none, len_lst, len_tup, len_scr, tup_lst, lis_tup, lis_lst, if_true, if_false, Bool.false_eq_true, frB_some, LL, Nat.reduceLeDiff, pc, pt, lpF_nx, ite_true]
    exact e
theorem p__law_likely {K s : Nat} {ns ys : List Nat} {qs : List Rat} {m : Mem} (hs : s ≤ 30) (h4 : ns.length ≤ 6) (hn : ∀ n ∈ ns, n ≤ 6) (hq : ∀ q ∈ qs, Sz s q ∧ 0 ≤ q ∧ q ≤ 1) (hy : ∀ p ∈ ns.zip ys, p.2 ≤ p.1) : pcallR ⟨runF T.Γ (K+5)⟩ false f__law_likely [.lst (ns.map fun i => Val.int (i : Nat)), rowT ys, .lst (qs.map fq)] m = .ok (fq (likF 1 ns ys qs)) m := by
  refine pcall_id (.of (m := []) ?_ rfl) (by show (noRefs (ns.map fun i => Val.int (i : Nat)) && (noRef (rowT ys) && (noRefs (qs.map fq) && true))) = true; rw [noRefs_map fun _ => rfl, noRef_rowT, noRefs_map noRef_fq]; rfl)
  rw [run_def g__law_likely rfl]
  have h6 : s * 6 ≤ 180 := Nat.mul_le_mul_right 6 hs
  have hm : ns.length * (6 + 1 + (s * 6 + 1) + (s * 6 + 1)) ≤ 6 * 369 := Nat.mul_le_mul h4 (by omega)
  obtain ⟨a', b', c', e⟩ := w_likely (K := K) hs rfl (some (.lst (ns.map fun i => Val.int (i : Nat)))) (some (rowT ys)) (some (.lst (qs.map fq))) [] ns ys qs 1 1 none none none (Sz.one (Nat.le_refl 1)) (by omega) hn hq hy
  have e1 : (Val.tup [.int 1, .int 1]) = fq 1 := rfl
  have sr : seqOf (rowT ys) = some (ys.map fun i => Val.int (i : Nat)) := rfl
  simp only [b__law_likely, getE_some, brB_bl, brO_some, asB_bl, asN_bl, asNeg_int, asI_int, nxF_nx, nxF_rt, fin_rt, fin_nx, ite_bind, ite_and, ite_or, rs_int, rs_bl, rs_tup, rs_lst, rs_scr, rs_non, ev_var, ev_cst, ev_op, ev_neg, ev_cmp, ev_chain, ev_and, ev_or, ev_not, ev_ife, ev_tup, ev_lst, ev_idx, ev_sl2, ev_sl3, ev_pcall, ev_mcall, ev_blt, ev_blt2, ev_isi, ev_lcF, ev_lqF, MQ.evs_nil, evs_cons, spl_lst, spl_tup, evs_star, evO_non, evO_som, evQ_of, evQ_rng1, evQ_rng2, evQ_rng3, evQ_zip2, evQ_zip3, evQ_enum, bnd_some, ex_asg, ex_asgs, ex_exp, ex_ret, ex_ite, ex_fr, exs_nil, exs_cons, seq_tup, seq_lst, seq_scr, map_some_, bt_nm, bt_tp, btp_nil, btp_cons, bind_ok, ofO_some, cmp_eq, cmp_ne, cmp_lt, cmp_le, cmp_gt, cmp_ge, op_add, op_sub, startE, List.map_cons, List.map_nil, List.length_cons, List.length_nil, List.replicate_succ, List.replicate_zero, Nat.reduceAdd, Nat.reduceSub, Nat.zero_add, List.cons_append, List.nil_append, List.getElem?_cons_zero, List.getElem?_cons_succ, List.set_cons_zero, List.set_cons_succ, cutO_lst, cutO_tup, cutO_scr, stepO_2, ev_lstM, ev_app, ev_ext, ev_rem, ev_frz, apT_some, apL_some, apV_lst, apR_ref, apO_some, memAt_hd, rs_hd, wipe_nil, wipe_cons, lcK_some, lcB_non, lcB_som, addO_some, addO_none, len_lst, len_tup, len_scr, tup_lst, lis_tup, lis_lst, if_true, if_false, Bool.false_eq_true, LL, Nat.reduceLeDiff, e1, sr, e, ite_true]

/-! ### the pot -/
theorem seti_of {C : Calls} {o i a : Ex} {e : MQ.Env} {m : Mem} {v : Val} {l j : Nat} {xs : List Val} (h1 : evE C a e m = .ok v m) (h2 : evE C o e m = .ok (.ref l) m) (h3 : evE C i e m = .ok (.int (j : Nat)) m) (h : m[l]? = some (.lst xs)) (hj : j < xs.length) :
    exS C (.seti o i a) e m = .ok (.nx e) (m.set l (.lst (xs.set j v))) := by
  rw [ex_seti, h1, bind_ok, h2, bind_ok, h3, bind_ok]
  show (match m[l]? with
      | some (.lst xs) => if (decide ((0 : Int) ≤ (j : Int)) && decide ((j : Int).toNat < xs.length)) = true then R.ok (Fl.nx e) (m.set l (.lst (xs.set (j : Int).toNat v))) else R.bad
      | _ => R.bad) = _
  rw [h]
  show (if (decide ((0 : Int) ≤ (j : Int)) && decide ((j : Int).toNat < xs.length)) = true then R.ok (Fl.nx e) (m.set l (.lst (xs.set (j : Int).toNat v))) else R.bad) = _
  rw [Int.toNat_natCast, if_pos (by rw [Bool.and_eq_true]; exact ⟨decide_eq_true (by omega), decide_eq_true hj⟩)]
structure Pot (N : Nat) (a b c : Int) : Prop where
  a0 : 0 ≤ a
  a1 : a.natAbs < 2 ^ 1000
  b0 : 0 ≤ b
  b1 : b < 2305843009213693952
  c0 : 0 ≤ c
  c1 : c ≤ N
def potV (a b c : Int) : MO := .lst [.int a, .int b, .int c]
theorem ix2 {x y z : Val} {xs : List Val} : L2.atI (x :: y :: z :: xs) 2 = some z := idx_lst (i := 2) rfl
theorem set_get {m : Mem} {l : Nat} {x y : MO} (h : m[l]? = some x) : (m.set l y)[l]? = some y := List.getElem?_set_self (List.getElem?_eq_some_iff.mp h).1
theorem take_ok {K N l : Nat} {m : Mem} {a b c : Int} {u : Nat} (h : m[l]? = some (potV a b c)) (P : Pot N a b c) (hN : N ≤ 10000) (hu : 1 ≤ u) (hu2 : u ≤ 200) :
    ∃ (d : Nat) (a' b' c' : Int), runF T.Γ (K+1) f__law_take [.ref l, .int (u : Nat)] m = .ok (.int (d : Nat)) (m.set l (potV a' b' c')) ∧ d < u ∧ Pot (N + 1) a' b' c' := by
  have hr : rs m (.ref l) = .lst [.int a, .int b, .int c] := rs_at h
  have hu0 : ((u : Nat) : Int) ≠ 0 := by omega
  have hup : (0 : Int) < ((u : Nat) : Int) := by omega
  rw [run_def g__law_take rfl]
  have hint : ∀ i : Int, bltV .int (.int i) = some (.int i) := fun _ => rfl
  by_cases ha : 0 < a
  · have dv : divOk ((u : Nat) : Int) = true := divOk_of (s := 8) hup (by omega) (by decide)
    refine ⟨(a.fmod (u : Nat)).toNat, a / (u : Nat), b, c, ?_, ?_, ⟨?_, ?_, P.b0, P.b1, P.c0, by have := P.c1; omega⟩⟩
    · have hd : (((a.fmod ((u : Nat) : Int)).toNat : Nat) : Int) = a.fmod (u : Nat) := Int.toNat_of_nonneg (Int.fmod_nonneg_of_pos a hup)
      have s1 : ∀ x y z, exS ⟨runF T.Γ K⟩ (.seti (.var 0) (.cst (.int 0)) (.op .fdiv (.idx (.var 0) (.cst (.int 0))) (.var 1))) [some (.ref l), some (.int (u : Nat)), x, y, z] m = .ok (.nx [some (.ref l), some (.int (u : Nat)), x, y, z]) (m.set l (potV (a / (u : Nat)) b c)) := fun x y z =>
        seti_of (j := 0) (xs := [.int a, .int b, .int c]) (v := .int (a / (u : Nat))) (by simp only [getE_some, brB_bl, brO_some, asB_bl, asN_bl, asNeg_int, asI_int, nxF_nx, nxF_rt, fin_rt, fin_nx, ite_bind, ite_and, ite_or, rs_int, rs_bl, rs_tup, rs_lst, rs_scr, rs_non, ev_var, ev_cst, ev_op, ev_neg, ev_cmp, ev_chain, ev_and, ev_or, ev_not, ev_ife, ev_tup, ev_lst, ev_idx, ev_sl2, ev_sl3, ev_pcall, ev_mcall, ev_blt, ev_blt2, ev_isi, ev_lcF, ev_lqF, MQ.evs_nil, evs_cons, spl_lst, spl_tup, evs_star, evO_non, evO_som, evQ_of, evQ_rng1, evQ_rng2, evQ_rng3, evQ_zip2, evQ_zip3, evQ_enum, bnd_some, ex_asg, ex_asgs, ex_exp, ex_ret, ex_ite, ex_fr, exs_nil, exs_cons, seq_tup, seq_lst, seq_scr, map_some_, bt_nm, bt_tp, btp_nil, btp_cons, bind_ok, ofO_some, cmp_eq, cmp_ne, cmp_lt, cmp_le, cmp_gt, cmp_ge, op_add, op_sub, startE, List.map_cons, List.map_nil, List.length_cons, List.length_nil, List.replicate_succ, List.replicate_zero, Nat.reduceAdd, Nat.reduceSub, Nat.zero_add, List.cons_append, List.nil_append, List.getElem?_cons_zero, List.getElem?_cons_succ, List.set_cons_zero, List.set_cons_succ, cutO_lst, cutO_tup, cutO_scr, stepO_2, ev_lstM, ev_app, ev_ext, ev_rem, ev_frz, apT_some, apL_some, apV_lst, apR_ref, apO_some, memAt_hd, rs_hd, wipe_nil, wipe_cons, lcK_some, lcB_non, lcB_som, addO_some, addO_none, len_lst, len_tup, len_scr, tup_lst, lis_tup, lis_lst, if_true, if_false, Bool.false_eq_true, hr, idxV, ix0, op_fdiv dv]) (by simp only [getE_some, brB_bl, brO_some, asB_bl, asN_bl, asNeg_int, asI_int, nxF_nx, nxF_rt, fin_rt, fin_nx, ite_bind, ite_and, ite_or, rs_int, rs_bl, rs_tup, rs_lst, rs_scr, rs_non, ev_var, ev_cst, ev_op, ev_neg, ev_cmp, ev_chain, ev_and, ev_or, ev_not, ev_ife, ev_tup, ev_lst, ev_idx, ev_sl2, ev_sl3, ev_pcall, ev_mcall, ev_blt, ev_blt2, ev_isi, ev_lcF, ev_lqF, MQ.evs_nil, evs_cons, spl_lst, spl_tup, evs_star, evO_non, evO_som, evQ_of, evQ_rng1, evQ_rng2, evQ_rng3, evQ_zip2, evQ_zip3, evQ_enum, bnd_some, ex_asg, ex_asgs, ex_exp, ex_ret, ex_ite, ex_fr, exs_nil, exs_cons, seq_tup, seq_lst, seq_scr, map_some_, bt_nm, bt_tp, btp_nil, btp_cons, bind_ok, ofO_some, cmp_eq, cmp_ne, cmp_lt, cmp_le, cmp_gt, cmp_ge, op_add, op_sub, startE, List.map_cons, List.map_nil, List.length_cons, List.length_nil, List.replicate_succ, List.replicate_zero, Nat.reduceAdd, Nat.reduceSub, Nat.zero_add, List.cons_append, List.nil_append, List.getElem?_cons_zero, List.getElem?_cons_succ, List.set_cons_zero, List.set_cons_succ, cutO_lst, cutO_tup, cutO_scr, stepO_2, ev_lstM, ev_app, ev_ext, ev_rem, ev_frz, apT_some, apL_some, apV_lst, apR_ref, apO_some, memAt_hd, rs_hd, wipe_nil, wipe_cons, lcK_some, lcB_non, lcB_som, addO_some, addO_none, len_lst, len_tup, len_scr, tup_lst, lis_tup, lis_lst, if_true, if_false, Bool.false_eq_true]) (by simp only [getE_some, brB_bl, brO_some, asB_bl, asN_bl, asNeg_int, asI_int, nxF_nx, nxF_rt, fin_rt, fin_nx, ite_bind, ite_and, ite_or, rs_int, rs_bl, rs_tup, rs_lst, rs_scr, rs_non, ev_var, ev_cst, ev_op, ev_neg, ev_cmp, ev_chain, ev_and, ev_or, ev_not, ev_ife, ev_tup, ev_lst, ev_idx, ev_sl2, ev_sl3, ev_pcall, ev_mcall, ev_blt, ev_blt2, ev_isi, ev_lcF, ev_lqF, MQ.evs_nil, evs_cons, spl_lst, spl_tup, evs_star, evO_non, evO_som, evQ_of, evQ_rng1, evQ_rng2, evQ_rng3, evQ_zip2, evQ_zip3, evQ_enum, bnd_some, ex_asg, ex_asgs, ex_exp, ex_ret, ex_ite, ex_fr, exs_nil, exs_cons, seq_tup, seq_lst, seq_scr, map_some_, bt_nm, bt_tp, btp_nil, btp_cons, bind_ok, ofO_some, cmp_eq, cmp_ne, cmp_lt, cmp_le, cmp_gt, cmp_ge, op_add, op_sub, startE, List.map_cons, List.map_nil, List.length_cons, List.length_nil, List.replicate_succ, List.replicate_zero, Nat.reduceAdd, Nat.reduceSub, Nat.zero_add, List.cons_append, List.nil_append, List.getElem?_cons_zero, List.getElem?_cons_succ, List.set_cons_zero, List.set_cons_succ, cutO_lst, cutO_tup, cutO_scr, stepO_2, ev_lstM, ev_app, ev_ext, ev_rem, ev_frz, apT_some, apL_some, apV_lst, apR_ref, apO_some, memAt_hd, rs_hd, wipe_nil, wipe_cons, lcK_some, lcB_non, lcB_som, addO_some, addO_none, len_lst, len_tup, len_scr, tup_lst, lis_tup, lis_lst, if_true, if_false, Bool.false_eq_true]; rfl) h (by simp only [List.length_cons]; omega)
      rw [hd]
      simp only [b__law_take, getE_some, brB_bl, brO_some, asB_bl, asN_bl, asNeg_int, asI_int, nxF_nx, nxF_rt, fin_rt, fin_nx, ite_bind, ite_and, ite_or, rs_int, rs_bl, rs_tup, rs_lst, rs_scr, rs_non, ev_var, ev_cst, ev_op, ev_neg, ev_cmp, ev_chain, ev_and, ev_or, ev_not, ev_ife, ev_tup, ev_lst, ev_idx, ev_sl2, ev_sl3, ev_pcall, ev_mcall, ev_blt, ev_blt2, ev_isi, ev_lcF, ev_lqF, MQ.evs_nil, evs_cons, spl_lst, spl_tup, evs_star, evO_non, evO_som, evQ_of, evQ_rng1, evQ_rng2, evQ_rng3, evQ_zip2, evQ_zip3, evQ_enum, bnd_some, ex_asg, ex_asgs, ex_exp, ex_ret, ex_ite, ex_fr, exs_nil, exs_cons, seq_tup, seq_lst, seq_scr, map_some_, bt_nm, bt_tp, btp_nil, btp_cons, bind_ok, ofO_some, cmp_eq, cmp_ne, cmp_lt, cmp_le, cmp_gt, cmp_ge, op_add, op_sub, startE, List.map_cons, List.map_nil, List.length_cons, List.length_nil, List.replicate_succ, List.replicate_zero, Nat.reduceAdd, Nat.reduceSub, Nat.zero_add, List.cons_append, List.nil_append, List.getElem?_cons_zero, List.getElem?_cons_succ, List.set_cons_zero, List.set_cons_succ, cutO_lst, cutO_tup, cutO_scr, stepO_2, ev_lstM, ev_app, ev_ext, ev_rem, ev_frz, apT_some, apL_some, apV_lst, apR_ref, apO_some, memAt_hd, rs_hd, wipe_nil, wipe_cons, lcK_some, lcB_non, lcB_som, addO_some, addO_none, len_lst, len_tup, len_scr, tup_lst, lis_tup, lis_lst, if_true, if_false, Bool.false_eq_true, hr, idxV, ix0, decide_eq_true ha, hint, op_mod hu0, s1, ite_true]
    · have := Int.fmod_lt_of_pos a hup
      have := Int.fmod_nonneg_of_pos a hup
      omega
    · exact Int.ediv_nonneg P.a0 (by omega)
    · have h1 : a / ((u : Nat) : Int) ≤ a := Int.ediv_le_self _ P.a0
      have h2 : 0 ≤ a / ((u : Nat) : Int) := Int.ediv_nonneg P.a0 (by omega)
      have := P.a1
      generalize (2 : Nat) ^ 1000 = B at this ⊢
      omega
  · have hc0 : (0 : Int) ≤ c + 1 := by have := P.c0; omega
    have hcN : c + 1 ≤ 10001 := by have := P.c1; omega
    have hda : decide ((0 : Int) < a) = false := decide_eq_false ha
    obtain ⟨p, hp, hp0, hp1⟩ : ∃ p : Int, idxV (.lst [.int 2147483647, .int 2147483629, .int 2147483587, .int 2147483579, .int 2147483563]) (.int ((c + 1).fmod 5)) = some (.int p) ∧ 0 < p ∧ p < 2147483648 := by
      have e := Int.fmod_eq_emod_of_nonneg (c + 1) (show (0 : Int) ≤ 5 by decide)
      have h5 : (c + 1) % 5 = 0 ∨ (c + 1) % 5 = 1 ∨ (c + 1) % 5 = 2 ∨ (c + 1) % 5 = 3 ∨ (c + 1) % 5 = 4 := by omega
      rw [e]
      rcases h5 with q | q | q | q | q <;> rw [q]
      · exact ⟨2147483647, idx_lst (i := 0) rfl, by decide, by decide⟩
      · exact ⟨2147483629, idx_lst (i := 1) rfl, by decide, by decide⟩
      · exact ⟨2147483587, idx_lst (i := 2) rfl, by decide, by decide⟩
      · exact ⟨2147483579, idx_lst (i := 3) rfl, by decide, by decide⟩
      · exact ⟨2147483563, idx_lst (i := 4) rfl, by decide, by decide⟩
    have hr1 : rs (m.set l (potV a b (c + 1))) (.ref l) = .lst [.int a, .int b, .int (c + 1)] := rs_at (set_get h)
    have hcc : (c + 1).natAbs < 2 ^ 14 := by omega
    have m1 : mulOk 21467 (c + 1) = true := mulOk_of (s := 15) (by decide) hcc (by decide)
    have m2 : mulOk (21467 * (c + 1)) (c + 1) = true := mulOk_of (s := 29) (by rw [Int.natAbs_mul]; exact mul_lt_pow (s := 15) (by decide) hcc) hcc (by decide)
    have sq0 : 0 ≤ 21467 * (c + 1) * (c + 1) := Int.mul_nonneg (Int.mul_nonneg (by decide) hc0) hc0
    have sq1 : (21467 * (c + 1) * (c + 1)).natAbs < 2 ^ 43 := by
      rw [Int.natAbs_mul]
      exact mul_lt_pow (s := 29) (by rw [Int.natAbs_mul]; exact mul_lt_pow (s := 15) (by decide) hcc) hcc
    have hb0 := P.b0
    have hb1 := P.b1
    have hx : (b + 21467 * (c + 1) * (c + 1) + 638).natAbs < 2 ^ 62 := by
      generalize 21467 * (c + 1) * (c + 1) = y at sq0 sq1 ⊢
      omega
    have hpow : opV .pow (.int (b + 21467 * (c + 1) * (c + 1) + 638)) (.int 3) = some (.int ((b + 21467 * (c + 1) * (c + 1) + 638) ^ 3)) := by
      generalize b + 21467 * (c + 1) * (c + 1) + 638 = x at hx ⊢
      have hbits : (Builtin.Int.intBits x : Int) * 3 ≤ 134217728 := by
        unfold Builtin.Int.intBits
        have := log2_le hx
        split <;> omega
      have hok : powOk x 3 = true := by
        unfold powOk
        rw [Bool.and_eq_true]
        exact ⟨by decide, decide_eq_true hbits⟩
      show (if powOk x 3 = true then some (Val.int (x ^ (3 : Int).toNat)) else none) = _
      rw [if_pos hok]
      rfl
    have hp2 : p ≠ 0 := by omega
    generalize hB : ((b + 21467 * (c + 1) * (c + 1) + 638) ^ 3).fmod p = B
    have B0 : 0 ≤ B := by rw [← hB]; exact Int.fmod_nonneg_of_pos _ hp0
    have B1 : B < 2147483648 := by rw [← hB]; exact Int.lt_trans (Int.fmod_lt_of_pos _ hp0) hp1
    have m3 : mulOk 211 (c + 1) = true := mulOk_of (s := 8) (by decide) hcc (by decide)
    have f0 := Int.fmod_nonneg_of_pos B (show (0 : Int) < 11027 by decide)
    have f1 := Int.fmod_lt_of_pos B (show (0 : Int) < 11027 by decide)
    have m4 : mulOk B (B.fmod 11027 + 211 * (c + 1)) = true := mulOk_of (s := 31) (t := 24) (by omega) (by omega) (by decide)
    generalize hD : (B * (B.fmod 11027 + 211 * (c + 1))).fmod 2305843009213693907 = D
    have d157 : divOk 157 = true := by decide
    refine ⟨((D / 157).fmod (u : Nat)).toNat, a, b, c + 1, ?_, ?_, ⟨P.a0, P.a1, P.b0, P.b1, hc0, by have := P.c1; omega⟩⟩
    · have hd : ((((D / 157).fmod ((u : Nat) : Int)).toNat : Nat) : Int) = (D / 157).fmod (u : Nat) := Int.toNat_of_nonneg (Int.fmod_nonneg_of_pos _ hup)
      have s1 : ∀ x y z, exS ⟨runF T.Γ K⟩ (.seti (.var 0) (.cst (.int 2)) (.op .add (.idx (.var 0) (.cst (.int 2))) (.cst (.int 1)))) [some (.ref l), some (.int (u : Nat)), x, y, z] m = .ok (.nx [some (.ref l), some (.int (u : Nat)), x, y, z]) (m.set l (potV a b (c + 1))) := fun x y z =>
        seti_of (j := 2) (xs := [.int a, .int b, .int c]) (v := .int (c + 1)) (by simp only [getE_some, brB_bl, brO_some, asB_bl, asN_bl, asNeg_int, asI_int, nxF_nx, nxF_rt, fin_rt, fin_nx, ite_bind, ite_and, ite_or, rs_int, rs_bl, rs_tup, rs_lst, rs_scr, rs_non, ev_var, ev_cst, ev_op, ev_neg, ev_cmp, ev_chain, ev_and, ev_or, ev_not, ev_ife, ev_tup, ev_lst, ev_idx, ev_sl2, ev_sl3, ev_pcall, ev_mcall, ev_blt, ev_blt2, ev_isi, ev_lcF, ev_lqF, MQ.evs_nil, evs_cons, spl_lst, spl_tup, evs_star, evO_non, evO_som, evQ_of, evQ_rng1, evQ_rng2, evQ_rng3, evQ_zip2, evQ_zip3, evQ_enum, bnd_some, ex_asg, ex_asgs, ex_exp, ex_ret, ex_ite, ex_fr, exs_nil, exs_cons, seq_tup, seq_lst, seq_scr, map_some_, bt_nm, bt_tp, btp_nil, btp_cons, bind_ok, ofO_some, cmp_eq, cmp_ne, cmp_lt, cmp_le, cmp_gt, cmp_ge, op_add, op_sub, startE, List.map_cons, List.map_nil, List.length_cons, List.length_nil, List.replicate_succ, List.replicate_zero, Nat.reduceAdd, Nat.reduceSub, Nat.zero_add, List.cons_append, List.nil_append, List.getElem?_cons_zero, List.getElem?_cons_succ, List.set_cons_zero, List.set_cons_succ, cutO_lst, cutO_tup, cutO_scr, stepO_2, ev_lstM, ev_app, ev_ext, ev_rem, ev_frz, apT_some, apL_some, apV_lst, apR_ref, apO_some, memAt_hd, rs_hd, wipe_nil, wipe_cons, lcK_some, lcB_non, lcB_som, addO_some, addO_none, len_lst, len_tup, len_scr, tup_lst, lis_tup, lis_lst, if_true, if_false, Bool.false_eq_true, hr, idxV, ix2]) (by simp only [getE_some, brB_bl, brO_some, asB_bl, asN_bl, asNeg_int, asI_int, nxF_nx, nxF_rt, fin_rt, fin_nx, ite_bind, ite_and, ite_or, rs_int, rs_bl, rs_tup, rs_lst, rs_scr, rs_non, ev_var, ev_cst, ev_op, ev_neg, ev_cmp, ev_chain, ev_and, ev_or, ev_not, ev_ife, ev_tup, ev_lst, ev_idx, ev_sl2, ev_sl3, ev_pcall, ev_mcall, ev_blt, ev_blt2, ev_isi, ev_lcF, ev_lqF, MQ.evs_nil, evs_cons, spl_lst, spl_tup, evs_star, evO_non, evO_som, evQ_of, evQ_rng1, evQ_rng2, evQ_rng3, evQ_zip2, evQ_zip3, evQ_enum, bnd_some, ex_asg, ex_asgs, ex_exp, ex_ret, ex_ite, ex_fr, exs_nil, exs_cons, seq_tup, seq_lst, seq_scr, map_some_, bt_nm, bt_tp, btp_nil, btp_cons, bind_ok, ofO_some, cmp_eq, cmp_ne, cmp_lt, cmp_le, cmp_gt, cmp_ge, op_add, op_sub, startE, List.map_cons, List.map_nil, List.length_cons, List.length_nil, List.replicate_succ, List.replicate_zero, Nat.reduceAdd, Nat.reduceSub, Nat.zero_add, List.cons_append, List.nil_append, List.getElem?_cons_zero, List.getElem?_cons_succ, List.set_cons_zero, List.set_cons_succ, cutO_lst, cutO_tup, cutO_scr, stepO_2, ev_lstM, ev_app, ev_ext, ev_rem, ev_frz, apT_some, apL_some, apV_lst, apR_ref, apO_some, memAt_hd, rs_hd, wipe_nil, wipe_cons, lcK_some, lcB_non, lcB_som, addO_some, addO_none, len_lst, len_tup, len_scr, tup_lst, lis_tup, lis_lst, if_true, if_false, Bool.false_eq_true]) (by simp only [getE_some, brB_bl, brO_some, asB_bl, asN_bl, asNeg_int, asI_int, nxF_nx, nxF_rt, fin_rt, fin_nx, ite_bind, ite_and, ite_or, rs_int, rs_bl, rs_tup, rs_lst, rs_scr, rs_non, ev_var, ev_cst, ev_op, ev_neg, ev_cmp, ev_chain, ev_and, ev_or, ev_not, ev_ife, ev_tup, ev_lst, ev_idx, ev_sl2, ev_sl3, ev_pcall, ev_mcall, ev_blt, ev_blt2, ev_isi, ev_lcF, ev_lqF, MQ.evs_nil, evs_cons, spl_lst, spl_tup, evs_star, evO_non, evO_som, evQ_of, evQ_rng1, evQ_rng2, evQ_rng3, evQ_zip2, evQ_zip3, evQ_enum, bnd_some, ex_asg, ex_asgs, ex_exp, ex_ret, ex_ite, ex_fr, exs_nil, exs_cons, seq_tup, seq_lst, seq_scr, map_some_, bt_nm, bt_tp, btp_nil, btp_cons, bind_ok, ofO_some, cmp_eq, cmp_ne, cmp_lt, cmp_le, cmp_gt, cmp_ge, op_add, op_sub, startE, List.map_cons, List.map_nil, List.length_cons, List.length_nil, List.replicate_succ, List.replicate_zero, Nat.reduceAdd, Nat.reduceSub, Nat.zero_add, List.cons_append, List.nil_append, List.getElem?_cons_zero, List.getElem?_cons_succ, List.set_cons_zero, List.set_cons_succ, cutO_lst, cutO_tup, cutO_scr, stepO_2, ev_lstM, ev_app, ev_ext, ev_rem, ev_frz, apT_some, apL_some, apV_lst, apR_ref, apO_some, memAt_hd, rs_hd, wipe_nil, wipe_cons, lcK_some, lcB_non, lcB_som, addO_some, addO_none, len_lst, len_tup, len_scr, tup_lst, lis_tup, lis_lst, if_true, if_false, Bool.false_eq_true]; rfl) h (by simp only [List.length_cons]; omega)
      rw [hd]
      have hix : ∀ x y z : Val, idxV (.lst [x, y, z]) (.int 0) = some x ∧ idxV (.lst [x, y, z]) (.int 1) = some y ∧ idxV (.lst [x, y, z]) (.int 2) = some z := fun x y z => ⟨ix0, ix1, ix2⟩
      simp only [b__law_take, getE_some, brB_bl, brO_some, asB_bl, asN_bl, asNeg_int, asI_int, nxF_nx, nxF_rt, fin_rt, fin_nx, ite_bind, ite_and, ite_or, rs_int, rs_bl, rs_tup, rs_lst, rs_scr, rs_non, ev_var, ev_cst, ev_op, ev_neg, ev_cmp, ev_chain, ev_and, ev_or, ev_not, ev_ife, ev_tup, ev_lst, ev_idx, ev_sl2, ev_sl3, ev_pcall, ev_mcall, ev_blt, ev_blt2, ev_isi, ev_lcF, ev_lqF, MQ.evs_nil, evs_cons, spl_lst, spl_tup, evs_star, evO_non, evO_som, evQ_of, evQ_rng1, evQ_rng2, evQ_rng3, evQ_zip2, evQ_zip3, evQ_enum, bnd_some, ex_asg, ex_asgs, ex_exp, ex_ret, ex_ite, ex_fr, exs_nil, exs_cons, seq_tup, seq_lst, seq_scr, map_some_, bt_nm, bt_tp, btp_nil, btp_cons, bind_ok, ofO_some, cmp_eq, cmp_ne, cmp_lt, cmp_le, cmp_gt, cmp_ge, op_add, op_sub, startE, List.map_cons, List.map_nil, List.length_cons, List.length_nil, List.replicate_succ, List.replicate_zero, Nat.reduceAdd, Nat.reduceSub, Nat.zero_add, List.cons_append, List.nil_append, List.getElem?_cons_zero, List.getElem?_cons_succ, List.set_cons_zero, List.set_cons_succ, cutO_lst, cutO_tup, cutO_scr, stepO_2, ev_lstM, ev_app, ev_ext, ev_rem, ev_frz, apT_some, apL_some, apV_lst, apR_ref, apO_some, memAt_hd, rs_hd, wipe_nil, wipe_cons, lcK_some, lcB_non, lcB_som, addO_some, addO_none, len_lst, len_tup, len_scr, tup_lst, lis_tup, lis_lst, if_true, if_false, Bool.false_eq_true, hr, (hix _ _ _).1, hda, s1, hr1, (hix _ _ _).2.1, (hix _ _ _).2.2, hint, op_mod (show (5 : Int) ≠ 0 by decide), LL, Nat.reduceLeDiff, hp, op_mul m1, op_mul m2, hpow, op_mod hp2, hB, op_mod (show (11027 : Int) ≠ 0 by decide), op_mul m3, op_mul m4, op_mod (show (2305843009213693907 : Int) ≠ 0 by decide), hD, op_fdiv d157, op_mod hu0, ite_true]
    · have := Int.fmod_lt_of_pos (D / 157) hup
      have := Int.fmod_nonneg_of_pos (D / 157) hup
      omega

theorem of_ok {K N l : Nat} {m : Mem} {a b c : Int} {vs : List Val} (h : m[l]? = some (potV a b c)) (P : Pot N a b c) (hN : N ≤ 10000) (hu : 1 ≤ vs.length) (hu2 : vs.length ≤ 200) :
    ∃ (v : Val) (a' b' c' : Int), runF T.Γ (K+2) f__law_of [.ref l, .lst vs] m = .ok v (m.set l (potV a' b' c')) ∧ v ∈ vs ∧ Pot (N + 1) a' b' c' := by
  obtain ⟨d, a', b', c', e, hd, P'⟩ := take_ok (K := K) h P hN hu hu2
  obtain ⟨v, hv⟩ : ∃ v, vs[d]? = some v := ⟨_, List.getElem?_eq_getElem hd⟩
  refine ⟨v, a', b', c', ?_, List.mem_of_getElem? hv, P'⟩
  rw [run_def g__law_of rfl]
  simp only [b__law_of, getE_some, brB_bl, brO_some, asB_bl, asN_bl, asNeg_int, asI_int, nxF_nx, nxF_rt, fin_rt, fin_nx, ite_bind, ite_and, ite_or, rs_int, rs_bl, rs_tup, rs_lst, rs_scr, rs_non, ev_var, ev_cst, ev_op, ev_neg, ev_cmp, ev_chain, ev_and, ev_or, ev_not, ev_ife, ev_tup, ev_lst, ev_idx, ev_sl2, ev_sl3, ev_pcall, ev_mcall, ev_blt, ev_blt2, ev_isi, ev_lcF, ev_lqF, MQ.evs_nil, evs_cons, spl_lst, spl_tup, evs_star, evO_non, evO_som, evQ_of, evQ_rng1, evQ_rng2, evQ_rng3, evQ_zip2, evQ_zip3, evQ_enum, bnd_some, ex_asg, ex_asgs, ex_exp, ex_ret, ex_ite, ex_fr, exs_nil, exs_cons, seq_tup, seq_lst, seq_scr, map_some_, bt_nm, bt_tp, btp_nil, btp_cons, bind_ok, ofO_some, cmp_eq, cmp_ne, cmp_lt, cmp_le, cmp_gt, cmp_ge, op_add, op_sub, startE, List.map_cons, List.map_nil, List.length_cons, List.length_nil, List.replicate_succ, List.replicate_zero, Nat.reduceAdd, Nat.reduceSub, Nat.zero_add, List.cons_append, List.nil_append, List.getElem?_cons_zero, List.getElem?_cons_succ, List.set_cons_zero, List.set_cons_succ, cutO_lst, cutO_tup, cutO_scr, stepO_2, ev_lstM, ev_app, ev_ext, ev_rem, ev_frz, apT_some, apL_some, apV_lst, apR_ref, apO_some, memAt_hd, rs_hd, wipe_nil, wipe_cons, lcK_some, lcB_non, lcB_som, addO_some, addO_none, len_lst, len_tup, len_scr, tup_lst, lis_tup, lis_lst, if_true, if_false, Bool.false_eq_true, e, idx_lst hv]
/-- a share -/
def Sh (q : Rat) : Prop := Sz 7 q ∧ 0 ≤ q ∧ q ≤ 1
theorem sh_div {d n : Nat} (h : d ≤ n) (h1 : 1 ≤ n) (h2 : n ≤ 100) : Sh (Rat.divInt (d : Nat) (n : Nat)) := by
  refine ⟨sz_div (by omega) (by omega) (by omega), ?_, ?_⟩
  · rw [Rat.divInt_nonneg_iff_of_pos_right (by omega)]
    omega
  · rw [Rat.le_iff]
    have e1 := div_num (a := (d : Int)) (b := (n : Int)) (by omega)
    have e2 := div_den (a := (d : Int)) (b := (n : Int)) (by omega)
    have hg := gcd_pos' (a := (d : Int)) (b := (n : Int)) (by omega)
    have : (d : Int) / (Int.gcd (d : Int) (n : Int) : Int) ≤ (n : Int) / (Int.gcd (d : Int) (n : Int) : Int) := Int.ediv_le_ediv hg (by omega)
    rw [e1, e2] at this
    simpa using this
theorem share_ok {K N l : Nat} {m : Mem} {a b c : Int} (h : m[l]? = some (potV a b c)) (P : Pot N a b c) (hN : N ≤ 9000) :
    ∃ (q : Rat) (a' b' c' : Int), runF T.Γ (K+3) f__law_share [.ref l] m = .ok (fq q) (m.set l (potV a' b' c')) ∧ Sh q ∧ Pot (N + 2) a' b' c' := by
  obtain ⟨v, a1, b1, c1, e1, hv, P1⟩ := of_ok (K := K) (vs := [.int 1, .int 2, .int 2, .int 3, .int 4, .int 5, .int 6, .int 8, .int 10, .int 20, .int 100]) h P (by omega) (by simp) (by simp)
  obtain ⟨n, rfl, hn1, hn2⟩ : ∃ n : Nat, v = .int (n : Nat) ∧ 1 ≤ n ∧ n ≤ 100 := by
    simp only [List.mem_cons, List.mem_nil_iff, or_false] at hv
    rcases hv with q | q | q | q | q | q | q | q | q | q | q <;> rw [q]
    · exact ⟨1, rfl, by decide, by decide⟩
    · exact ⟨2, rfl, by decide, by decide⟩
    · exact ⟨2, rfl, by decide, by decide⟩
    · exact ⟨3, rfl, by decide, by decide⟩
    · exact ⟨4, rfl, by decide, by decide⟩
    · exact ⟨5, rfl, by decide, by decide⟩
    · exact ⟨6, rfl, by decide, by decide⟩
    · exact ⟨8, rfl, by decide, by decide⟩
    · exact ⟨10, rfl, by decide, by decide⟩
    · exact ⟨20, rfl, by decide, by decide⟩
    · exact ⟨100, rfl, by decide, by decide⟩
  obtain ⟨d, a2, b2, c2, e2, hd, P2⟩ := take_ok (K := K + 1) (u := n + 1) (m := m.set l (potV a1 b1 c1)) (set_get h) P1 (by omega) (by omega) (by omega)
  refine ⟨Rat.divInt (d : Nat) (n : Nat), a2, b2, c2, ?_, sh_div (by omega) hn1 hn2, P2⟩
  rw [List.set_set] at e2
  have en : ((n : Int) + 1) = ((n + 1 : Nat) : Int) := by omega
  have hint : ∀ i : Int, bltV .int (.int i) = some (.int i) := fun _ => rfl
  have pr := fun m => p__law_ratio (K := K) (m := m) (a := (d : Int)) (b := (n : Int)) (s := 7) (by omega) (by omega) (by decide)
  rw [run_def g__law_share rfl]
  simp only [b__law_share, getE_some, brB_bl, brO_some, asB_bl, asN_bl, asNeg_int, asI_int, nxF_nx, nxF_rt, fin_rt, fin_nx, ite_bind, ite_and, ite_or, rs_int, rs_bl, rs_tup, rs_lst, rs_scr, rs_non, ev_var, ev_cst, ev_op, ev_neg, ev_cmp, ev_chain, ev_and, ev_or, ev_not, ev_ife, ev_tup, ev_lst, ev_idx, ev_sl2, ev_sl3, ev_pcall, ev_mcall, ev_blt, ev_blt2, ev_isi, ev_lcF, ev_lqF, MQ.evs_nil, evs_cons, spl_lst, spl_tup, evs_star, evO_non, evO_som, evQ_of, evQ_rng1, evQ_rng2, evQ_rng3, evQ_zip2, evQ_zip3, evQ_enum, bnd_some, ex_asg, ex_asgs, ex_exp, ex_ret, ex_ite, ex_fr, exs_nil, exs_cons, seq_tup, seq_lst, seq_scr, map_some_, bt_nm, bt_tp, btp_nil, btp_cons, bind_ok, ofO_some, cmp_eq, cmp_ne, cmp_lt, cmp_le, cmp_gt, cmp_ge, op_add, op_sub, startE, List.map_cons, List.map_nil, List.length_cons, List.length_nil, List.replicate_succ, List.replicate_zero, Nat.reduceAdd, Nat.reduceSub, Nat.zero_add, List.cons_append, List.nil_append, List.getElem?_cons_zero, List.getElem?_cons_succ, List.set_cons_zero, List.set_cons_succ, cutO_lst, cutO_tup, cutO_scr, stepO_2, ev_lstM, ev_app, ev_ext, ev_rem, ev_frz, apT_some, apL_some, apV_lst, apR_ref, apO_some, memAt_hd, rs_hd, wipe_nil, wipe_cons, lcK_some, lcB_non, lcB_som, addO_some, addO_none, len_lst, len_tup, len_scr, tup_lst, lis_tup, lis_lst, if_true, if_false, Bool.false_eq_true, LL, Nat.reduceLeDiff, e1, en, e2, hint, pr, ite_true]
theorem op_pow {i j : Int} (h : powOk i j = true) : opV .pow (.int i) (.int j) = some (.int (i ^ j.toNat)) := by
  show (if powOk i j = true then some (Val.int (i ^ j.toNat)) else none) = _
  rw [if_pos h]
theorem pcall_th {Γ : Nat → Option Fn} {K f l : Nat} {as xs : List Val} {m m1 : Mem} (h : runF Γ K f as [] = .ok (.ref l) m1) (h1 : m1[l]? = some (.lst xs)) (h2 : noLsts xs = true) (hs : noRefs as = true) : pcallR ⟨runF Γ K⟩ true f as m = .ok (.ref m.length) (m ++ [.lst xs]) := by
  unfold pcallR
  rw [snaps_of hs]
  show (match runF Γ K f as [] with
    | .bad => R.bad
    | .ex c v m1 => if noRef v && (noRefs as || noLst v) then R.ex c v m else R.bad
    | .ok r m1 => (match r with
        | Val.ref l => (match m1[l]? with
          | some (MO.lst xs) => if noLsts xs then R.ok (Val.ref m.length) (m ++ [MO.lst xs]) else R.bad
          | _ => R.bad)
        | _ => R.bad)) = _
  rw [h]
  show (match m1[l]? with
          | some (MO.lst xs) => if noLsts xs then R.ok (Val.ref m.length) (m ++ [MO.lst xs]) else R.bad
          | _ => R.bad) = _
  rw [h1]
  show (if noLsts xs = true then R.ok (Val.ref m.length) (m ++ [MO.lst xs]) else R.bad) = _
  rw [if_pos h2]
theorem pot_ok {K : Nat} {ns : List Int} {k : Nat} {m : Mem} (hk : k ≤ 100) : ∃ a b c : Int, pcallR ⟨runF T.Γ (K+1)⟩ true f__law_pot [.scr ns, .int (k : Nat)] m = .ok (.ref m.length) (m ++ [potV a b c]) ∧ Pot 0 a b c := by
  have hint : ∀ i : Int, bltV .int (.int i) = some (.int i) := fun _ => rfl
  have hintB : ∀ i : Bool, bltV .int (.bl i) = some (.int (if i then 1 else 0)) := fun _ => rfl
  have habs : ∀ i : Int, bltV .abs (.int i) = some (.int (if i < 0 then -i else i)) := fun _ => rfl
  obtain ⟨cell, hcell⟩ : ∃ cell : Int, evE ⟨runF T.Γ K⟩ (.ife (.cmp .lt (.var 1) (.blt .len (.var 0))) (.idx (.var 0) (.var 1)) (.op .add (.op .add (.op .mod (.blt .sum (.sl (.var 0) .non (.som (.cst (.int 1))) .non)) (.cst (.int 1000003))) (.op .mul (.cst (.int 6131)) (.var 1))) (.cst (.int 431)))) [some (.scr ns), some (.int (k : Nat)), none, none, none] [] = .ok (.int cell) [] := by
    by_cases h : k < ns.length
    · have hi : idxV (.scr ns) (.int (k : Nat)) = some (.int (ns[k])) := by
        show (L2.atI ns (k : Int)).map Val.int = _
        have : L2.atI ns (k : Int) = some ns[k] := by
          unfold L2.atI L2.ixN
          rw [if_pos (by omega), if_pos (by omega), Int.toNat_natCast]
          exact List.getElem?_eq_getElem h
        rw [this]
        rfl
      refine ⟨ns[k], ?_⟩
      have d : decide ((k : Int) < (ns.length : Int)) = true := decide_eq_true (by omega)
      simp only [getE_some, brB_bl, brO_some, asB_bl, asN_bl, asNeg_int, asI_int, nxF_nx, nxF_rt, fin_rt, fin_nx, ite_bind, ite_and, ite_or, rs_int, rs_bl, rs_tup, rs_lst, rs_scr, rs_non, ev_var, ev_cst, ev_op, ev_neg, ev_cmp, ev_chain, ev_and, ev_or, ev_not, ev_ife, ev_tup, ev_lst, ev_idx, ev_sl2, ev_sl3, ev_pcall, ev_mcall, ev_blt, ev_blt2, ev_isi, ev_lcF, ev_lqF, MQ.evs_nil, evs_cons, spl_lst, spl_tup, evs_star, evO_non, evO_som, evQ_of, evQ_rng1, evQ_rng2, evQ_rng3, evQ_zip2, evQ_zip3, evQ_enum, bnd_some, ex_asg, ex_asgs, ex_exp, ex_ret, ex_ite, ex_fr, exs_nil, exs_cons, seq_tup, seq_lst, seq_scr, map_some_, bt_nm, bt_tp, btp_nil, btp_cons, bind_ok, ofO_some, cmp_eq, cmp_ne, cmp_lt, cmp_le, cmp_gt, cmp_ge, op_add, op_sub, startE, List.map_cons, List.map_nil, List.length_cons, List.length_nil, List.replicate_succ, List.replicate_zero, Nat.reduceAdd, Nat.reduceSub, Nat.zero_add, List.cons_append, List.nil_append, List.getElem?_cons_zero, List.getElem?_cons_succ, List.set_cons_zero, List.set_cons_succ, cutO_lst, cutO_tup, cutO_scr, stepO_2, ev_lstM, ev_app, ev_ext, ev_rem, ev_frz, apT_some, apL_some, apV_lst, apR_ref, apO_some, memAt_hd, rs_hd, wipe_nil, wipe_cons, lcK_some, lcB_non, lcB_som, addO_some, addO_none, len_lst, len_tup, len_scr, tup_lst, lis_tup, lis_lst, if_true, if_false, Bool.false_eq_true, d, hi, ite_true]
    · have d : decide ((k : Int) < (ns.length : Int)) = false := decide_eq_false (by omega)
      have hsum := sum_lst (sumI_map (p := fun i : Int => i) (cutL ns none (some 1)))
      have mm : mulOk 6131 (k : Nat) = true := mulOk_of (s := 13) (t := 7) (by decide) (by omega) (by decide)
      refine ⟨((cutL ns none (some 1)).map fun i => i).sum.fmod 1000003 + 6131 * (k : Int) + 431, ?_⟩
      simp only [getE_some, brB_bl, brO_some, asB_bl, asN_bl, asNeg_int, asI_int, nxF_nx, nxF_rt, fin_rt, fin_nx, ite_bind, ite_and, ite_or, rs_int, rs_bl, rs_tup, rs_lst, rs_scr, rs_non, ev_var, ev_cst, ev_op, ev_neg, ev_cmp, ev_chain, ev_and, ev_or, ev_not, ev_ife, ev_tup, ev_lst, ev_idx, ev_sl2, ev_sl3, ev_pcall, ev_mcall, ev_blt, ev_blt2, ev_isi, ev_lcF, ev_lqF, MQ.evs_nil, evs_cons, spl_lst, spl_tup, evs_star, evO_non, evO_som, evQ_of, evQ_rng1, evQ_rng2, evQ_rng3, evQ_zip2, evQ_zip3, evQ_enum, bnd_some, ex_asg, ex_asgs, ex_exp, ex_ret, ex_ite, ex_fr, exs_nil, exs_cons, seq_tup, seq_lst, seq_scr, map_some_, bt_nm, bt_tp, btp_nil, btp_cons, bind_ok, ofO_some, cmp_eq, cmp_ne, cmp_lt, cmp_le, cmp_gt, cmp_ge, op_add, op_sub, startE, List.map_cons, List.map_nil, List.length_cons, List.length_nil, List.replicate_succ, List.replicate_zero, Nat.reduceAdd, Nat.reduceSub, Nat.zero_add, List.cons_append, List.nil_append, List.getElem?_cons_zero, List.getElem?_cons_succ, List.set_cons_zero, List.set_cons_succ, cutO_lst, cutO_tup, cutO_scr, stepO_2, ev_lstM, ev_app, ev_ext, ev_rem, ev_frz, apT_some, apL_some, apV_lst, apR_ref, apO_some, memAt_hd, rs_hd, wipe_nil, wipe_cons, lcK_some, lcB_non, lcB_som, addO_some, addO_none, len_lst, len_tup, len_scr, tup_lst, lis_tup, lis_lst, if_true, if_false, Bool.false_eq_true, d, hsum, op_mod (show (1000003 : Int) ≠ 0 by decide), op_mul mm]
  generalize hA : (if cell < 0 then -cell else cell) = A
  have A0 : 0 ≤ A := by rw [← hA]; split <;> omega
  have p1 : opV .pow (.int 10) (.int 60) = some (.int (10 ^ 60)) := op_pow (by decide +kernel)
  have p2 : opV .pow (.int (10 ^ 60)) (.int 5) = some (.int ((10 ^ 60) ^ 5)) := op_pow (by decide +kernel)
  have p3 : opV .pow (.int 10) (.int 18) = some (.int (10 ^ 18)) := op_pow (by decide +kernel)
  have hM0 : (0 : Int) < (10 ^ 60) ^ 5 := by decide +kernel
  have hM1 : (((10 : Int) ^ 60) ^ 5).natAbs < 2 ^ 1000 := by decide +kernel
  generalize (((10 : Int) ^ 60) ^ 5) = M at p2 hM0 hM1
  generalize ((10 : Int) ^ 18) = E at p3
  have hMne : M ≠ 0 := by omega
  have o0 := Int.fmod_nonneg_of_pos A hM0
  have o1 := Int.fmod_lt_of_pos A hM0
  have c0 := Int.fmod_nonneg_of_pos cell (show (0 : Int) < 2305843009213693951 by decide)
  have c1 := Int.fmod_lt_of_pos cell (show (0 : Int) < 2305843009213693951 by decide)
  generalize hO : A.fmod M = O at o0 o1
  generalize hS : cell.fmod 2305843009213693951 = S at c0 c1
  have hO2 : O.natAbs < 2 ^ 1000 := by
    generalize (2 : Nat) ^ 1000 = B at hM1 ⊢
    omega
  have w0 : ∀ z : Bool, mulOk O (if z = true then 1 else 0) = true := fun z => mulOk_of (t := 1) hO2 (by cases z <;> decide) (by decide)
  have w1 : mulOk S 32029 = true := mulOk_of (s := 61) (t := 15) (by omega) (by decide) (by decide)
  have w2 : mulOk 4441 (k : Nat) = true := mulOk_of (s := 13) (t := 7) (by decide) (by omega) (by decide)
  have w3 : mulOk (4441 * (k : Int)) (k : Nat) = true := mulOk_of (s := 20) (t := 7) (by omega) (by omega) (by decide)
  generalize hT : (S * 32029 + 4441 * (k : Int) * (k : Int) + 838).fmod 2305843009213693921 = T2
  have t0 : 0 ≤ T2 := by rw [← hT]; exact Int.fmod_nonneg_of_pos _ (by decide)
  have t1 : T2 < 2305843009213693921 := by rw [← hT]; exact Int.fmod_lt_of_pos _ (by decide)
  refine ⟨O * (if decide (E ≤ A) = true then 1 else 0), T2, 0, pcall_th (l := 0) (m1 := [potV (O * (if decide (E ≤ A) = true then 1 else 0)) T2 0]) ?_ rfl rfl rfl, ⟨?_, ?_, t0, by omega, by decide, by decide⟩⟩
  · rw [run_def g__law_pot rfl]
    have hlen : (0 : Nat) = ([] : Mem).length := rfl
    simp only [b__law_pot, exs_cons, ex_asg, startE, List.map_cons, List.map_nil, List.length_cons, List.length_nil, List.replicate_succ, List.replicate_zero, Nat.reduceAdd, Nat.reduceSub, Nat.zero_add, List.cons_append, List.nil_append, hcell, bind_ok, bnd_some, bt_nm, nxF_nx]
    simp only [getE_some, brB_bl, brO_some, asB_bl, asN_bl, asNeg_int, asI_int, nxF_nx, nxF_rt, fin_rt, fin_nx, ite_bind, ite_and, ite_or, rs_int, rs_bl, rs_tup, rs_lst, rs_scr, rs_non, ev_var, ev_cst, ev_op, ev_neg, ev_cmp, ev_chain, ev_and, ev_or, ev_not, ev_ife, ev_tup, ev_lst, ev_idx, ev_sl2, ev_sl3, ev_pcall, ev_mcall, ev_blt, ev_blt2, ev_isi, ev_lcF, ev_lqF, MQ.evs_nil, evs_cons, spl_lst, spl_tup, evs_star, evO_non, evO_som, evQ_of, evQ_rng1, evQ_rng2, evQ_rng3, evQ_zip2, evQ_zip3, evQ_enum, bnd_some, ex_asg, ex_asgs, ex_exp, ex_ret, ex_ite, ex_fr, exs_nil, exs_cons, seq_tup, seq_lst, seq_scr, map_some_, bt_nm, bt_tp, btp_nil, btp_cons, bind_ok, ofO_some, cmp_eq, cmp_ne, cmp_lt, cmp_le, cmp_gt, cmp_ge, op_add, op_sub, startE, List.map_cons, List.map_nil, List.length_cons, List.length_nil, List.replicate_succ, List.replicate_zero, Nat.reduceAdd, Nat.reduceSub, Nat.zero_add, List.cons_append, List.nil_append, List.getElem?_cons_zero, List.getElem?_cons_succ, List.set_cons_zero, List.set_cons_succ, cutO_lst, cutO_tup, cutO_scr, stepO_2, ev_lstM, ev_app, ev_ext, ev_rem, ev_frz, apT_some, apL_some, apV_lst, apR_ref, apO_some, memAt_hd, rs_hd, wipe_nil, wipe_cons, lcK_some, lcB_non, lcB_som, addO_some, addO_none, len_lst, len_tup, len_scr, tup_lst, lis_tup, lis_lst, if_true, if_false, Bool.false_eq_true, habs, hA, hint, hintB, p1, p2, p3, op_mod hMne, hO, op_mul (w0 _), op_mod (show (2305843009213693951 : Int) ≠ 0 by decide), hS, op_mul w1, op_mul w2, op_mul w3, op_mod (show (2305843009213693921 : Int) ≠ 0 by decide), hT, LL, Nat.reduceLeDiff, ite_true]
    rfl
  · split <;> omega
  · split
    · rw [Int.mul_one]; exact hO2
    · rw [Int.mul_zero]; exact Nat.pow_pos (by decide)
theorem places_ok {K : Nat} {ns : List Int} {m : Mem} : ∃ n : Nat, pcallR ⟨runF T.Γ (K+1)⟩ false f__law_places [.scr ns, .int 3] m = .ok (.lst ((List.range n).map fun k => Val.int (k : Nat))) m ∧ n ≤ 3 := by
  obtain ⟨n, hn, hn3⟩ : ∃ n : Nat, (if (if (ns.length : Int) < 3 then (ns.length : Int) else 3) > 1 then (if (ns.length : Int) < 3 then (ns.length : Int) else 3) else 1) = (n : Int) ∧ n ≤ 3 := by
    by_cases h : (ns.length : Int) < 3
    · rw [if_pos h]
      by_cases h2 : (ns.length : Int) > 1
      · rw [if_pos h2]; exact ⟨ns.length, rfl, by omega⟩
      · rw [if_neg h2]; exact ⟨1, rfl, by decide⟩
    · rw [if_neg h]
      exact ⟨3, rfl, by decide⟩
  refine ⟨n, ?_, hn3⟩
  refine pcall_id (.of (m := []) ?_ (by show noRefs ((List.range n).map fun k => Val.int (k : Nat)) = true; exact noRefs_map (fun _ => rfl) _)) rfl
  rw [run_def g__law_places rfl]
  have hmin : ∀ i j : Int, blt2V .min2 (.int i) (.int j) = some (.int (if j < i then j else i)) := fun _ _ => rfl
  have hmax : ∀ i j : Int, blt2V .max2 (.int i) (.int j) = some (.int (if j > i then j else i)) := fun _ _ => rfl
  have hr : rng1V (.int (n : Nat)) = some ((List.range n).map fun k => Val.int (k : Nat)) := by rw [rng1_ok (by omega), rngL_zero]
  simp only [b__law_places, getE_some, brB_bl, brO_some, asB_bl, asN_bl, asNeg_int, asI_int, nxF_nx, nxF_rt, fin_rt, fin_nx, ite_bind, ite_and, ite_or, rs_int, rs_bl, rs_tup, rs_lst, rs_scr, rs_non, ev_var, ev_cst, ev_op, ev_neg, ev_cmp, ev_chain, ev_and, ev_or, ev_not, ev_ife, ev_tup, ev_lst, ev_idx, ev_sl2, ev_sl3, ev_pcall, ev_mcall, ev_blt, ev_blt2, ev_isi, ev_lcF, ev_lqF, MQ.evs_nil, evs_cons, spl_lst, spl_tup, evs_star, evO_non, evO_som, evQ_of, evQ_rng1, evQ_rng2, evQ_rng3, evQ_zip2, evQ_zip3, evQ_enum, bnd_some, ex_asg, ex_asgs, ex_exp, ex_ret, ex_ite, ex_fr, exs_nil, exs_cons, seq_tup, seq_lst, seq_scr, map_some_, bt_nm, bt_tp, btp_nil, btp_cons, bind_ok, ofO_some, cmp_eq, cmp_ne, cmp_lt, cmp_le, cmp_gt, cmp_ge, op_add, op_sub, startE, List.map_cons, List.map_nil, List.length_cons, List.length_nil, List.replicate_succ, List.replicate_zero, Nat.reduceAdd, Nat.reduceSub, Nat.zero_add, List.cons_append, List.nil_append, List.getElem?_cons_zero, List.getElem?_cons_succ, List.set_cons_zero, List.set_cons_succ, cutO_lst, cutO_tup, cutO_scr, stepO_2, ev_lstM, ev_app, ev_ext, ev_rem, ev_frz, apT_some, apL_some, apV_lst, apR_ref, apO_some, memAt_hd, rs_hd, wipe_nil, wipe_cons, lcK_some, lcB_non, lcB_som, addO_some, addO_none, len_lst, len_tup, len_scr, tup_lst, lis_tup, lis_lst, if_true, if_false, Bool.false_eq_true, hmin, hmax, hn, hr]

/-- a comprehension that draws from the pot -/
theorem mapR_pot {f : Val → Mem → R (Option Val)} {Good : Val → Prop} {l s B : Nat} {m : Mem} (step : ∀ v N a b c, Pot N a b c → N ≤ B → ∃ w a' b' c', f v (m.set l (potV a b c)) = .ok (some w) (m.set l (potV a' b' c')) ∧ Good w ∧ Pot (N + s) a' b' c') :
    ∀ (vs : List Val) (N : Nat) (a b c : Int), Pot N a b c → N + vs.length * s ≤ B → ∃ ws a' b' c', mapR f vs (m.set l (potV a b c)) = .ok ws (m.set l (potV a' b' c')) ∧ ws.length = vs.length ∧ (∀ w ∈ ws, Good w) ∧ Pot (N + vs.length * s) a' b' c'
  | [], N, a, b, c, P, _ => ⟨[], a, b, c, rfl, rfl, (fun w (h : w ∈ ([] : List Val)) => absurd h List.not_mem_nil), by simpa using P⟩
  | v :: vs, N, a, b, c, P, h => by
    have hm : (v :: vs).length * s = vs.length * s + s := by rw [List.length_cons, Nat.succ_mul]
    rw [hm] at h
    obtain ⟨w, a1, b1, c1, e1, g1, P1⟩ := step v N a b c P (by omega)
    obtain ⟨ws, a2, b2, c2, e2, l2, g2, P2⟩ := mapR_pot step vs (N + s) a1 b1 c1 P1 (by omega)
    refine ⟨w :: ws, a2, b2, c2, ?_, by rw [List.length_cons, l2, List.length_cons], fun x hx => ?_, ?_⟩
    · rw [mapR_cons, e1, bind_ok, e2, bind_ok]
      rfl
    · rcases List.mem_cons.mp hx with z | z
      · rw [z]; exact g1
      · exact g2 x z
    · rw [hm, show N + (vs.length * s + s) = N + s + vs.length * s from by omega]
      exact P2

/-! ### the tables, what is seen -/
def tabV (n : Nat) (d : Rat) : Val := .tup (((List.range (n + 1)).map (tail n d)).map fq)
theorem enum_fq : ∀ (l : List Rat) (k : Nat), enumV k (l.map fq) = (l.zipIdx k).map fun p => Val.tup [.int (p.2 : Nat), fq p.1]
  | [], k => rfl
  | a :: l, k => by
    show Val.tup [.int (k : Nat), fq a] :: enumV (k + 1) (l.map fq) = _
    rw [enum_fq l (k + 1)]
    rfl
theorem tail_tl (n : Nat) (q : Rat) (k : Nat) : tail n q k = tl n q k := rfl
theorem tab_at {n y : Nat} {d : Rat} (hy : y ≤ n) : idxV (tabV n d) (.int (y : Nat)) = some (fq (tl n d y)) := by
  refine idx_tup ?_
  rw [List.getElem?_map, List.getElem?_map, List.getElem?_range (by omega)]
  rfl
theorem tl_le_one {n : Nat} {q : Rat} (h0 : 0 ≤ q) (h1 : q ≤ 1) : ∀ k, tl n q k ≤ 1
  | 0 => by rw [tl_zero]; exact Rat.le_refl
  | k + 1 => Rat.le_trans (tl_anti h0 h1) (tl_le_one h0 h1 k)
theorem tl_sz {n s : Nat} {q : Rat} (hq : Sz s q) (h0 : 0 ≤ q) (h1 : q ≤ 1) : ∀ (d k : Nat), n + 1 ≤ k + d → Sz (d * (n + 1 + (s * n + 1) + (s * n + 1) + 1) + 1) (tl n q k)
  | 0, k, h => by rw [tl_big (by omega)]; exact Sz.zero (by omega)
  | d + 1, k, h => by
    by_cases hk : k ≤ n
    · rw [tl_step n k]
      have a := pmf_sz hq h0 h1 hk
      have b := tl_sz (n := n) hq h0 h1 d (k + 1) (by omega)
      refine (a.add b).mono ?_
      rw [Nat.succ_mul]
      omega
    · rw [tl_big (by omega)]; exact Sz.zero (by omega)

end LW
namespace LW
open PySem PySem.Spec MP MQ
/-! ### families, steps -/
theorem tup_all {α : Type} (l : List α) : allB (l.map fun _ => Val.bl true) = some true := by
  rw [allB_map (p := fun _ => true)]
  congr 1
  exact List.all_eq_true.mpr fun _ _ => rfl
theorem p_is_family {K s : Nat} {qs : List Rat} {m : Mem} (h : Shr s qs) (hs : s ≤ 1000) (h1 : 1 ≤ qs.length) (h8 : qs.length ≤ 8) : pcallR ⟨runF T.Γ (K+5)⟩ false f_is_family [.tup (qs.map fq)] m = .ok (.bl true) m := by
  have hno : noRefs (qs.map fq) = true := noRefs_map noRef_fq _
  refine pcall_id (.of (m := []) ?_ rfl) (by show (noRefs (qs.map fq) && true) = true; rw [hno]; rfl)
  rw [run_def g_is_family rfl]
  have c0 : (decide ((1 : Int) ≤ (qs.length : Int)) && decide ((qs.length : Int) ≤ 8)) = true := by
    rw [Bool.and_eq_true]
    exact ⟨decide_eq_true (by omega), decide_eq_true (by omega)⟩
  have hmap : mapR (lcB ⟨runF T.Γ (K+4)⟩ (.pcall false f_is_share (.cons (.var 1) .nil)) (.nm 1) .non [some (.tup (qs.map fq)), none]) (qs.map fq) [] = .ok (qs.map fun _ => Val.bl true) [] :=
    mapR_of fun q hq => by simp only [getE_some, brB_bl, brO_some, asB_bl, asN_bl, asNeg_int, asI_int, nxF_nx, nxF_rt, fin_rt, fin_nx, ite_bind, ite_and, ite_or, rs_int, rs_bl, rs_tup, rs_lst, rs_scr, rs_non, ev_var, ev_cst, ev_op, ev_neg, ev_cmp, ev_chain, ev_and, ev_or, ev_not, ev_ife, ev_tup, ev_lst, ev_idx, ev_sl2, ev_sl3, ev_pcall, ev_mcall, ev_blt, ev_blt2, ev_isi, ev_lcF, ev_lqF, MQ.evs_nil, evs_cons, spl_lst, spl_tup, evs_star, evO_non, evO_som, evQ_of, evQ_rng1, evQ_rng2, evQ_rng3, evQ_zip2, evQ_zip3, evQ_enum, bnd_some, ex_asg, ex_asgs, ex_exp, ex_ret, ex_ite, ex_fr, exs_nil, exs_cons, seq_tup, seq_lst, seq_scr, map_some_, bt_nm, bt_tp, btp_nil, btp_cons, bind_ok, ofO_some, cmp_eq, cmp_ne, cmp_lt, cmp_le, cmp_gt, cmp_ge, op_add, op_sub, startE, List.map_cons, List.map_nil, List.length_cons, List.length_nil, List.replicate_succ, List.replicate_zero, Nat.reduceAdd, Nat.reduceSub, Nat.zero_add, List.cons_append, List.nil_append, List.getElem?_cons_zero, List.getElem?_cons_succ, List.set_cons_zero, List.set_cons_succ, cutO_lst, cutO_tup, cutO_scr, stepO_2, ev_lstM, ev_app, ev_ext, ev_rem, ev_frz, apT_some, apL_some, apV_lst, apR_ref, apO_some, memAt_hd, rs_hd, wipe_nil, wipe_cons, lcK_some, lcB_non, lcB_som, addO_some, addO_none, len_lst, len_tup, len_scr, tup_lst, lis_tup, lis_lst, if_true, if_false, Bool.false_eq_true, p_is_share (h.sz q hq) (show s ≤ 9900 by omega) (h.nn q hq) (h.le q hq)]
  simp only [b_is_family, getE_some, brB_bl, brO_some, asB_bl, asN_bl, asNeg_int, asI_int, nxF_nx, nxF_rt, fin_rt, fin_nx, ite_bind, ite_and, ite_or, rs_int, rs_bl, rs_tup, rs_lst, rs_scr, rs_non, ev_var, ev_cst, ev_op, ev_neg, ev_cmp, ev_chain, ev_and, ev_or, ev_not, ev_ife, ev_tup, ev_lst, ev_idx, ev_sl2, ev_sl3, ev_pcall, ev_mcall, ev_blt, ev_blt2, ev_isi, ev_lcF, ev_lqF, MQ.evs_nil, evs_cons, spl_lst, spl_tup, evs_star, evO_non, evO_som, evQ_of, evQ_rng1, evQ_rng2, evQ_rng3, evQ_zip2, evQ_zip3, evQ_enum, bnd_some, ex_asg, ex_asgs, ex_exp, ex_ret, ex_ite, ex_fr, exs_nil, exs_cons, seq_tup, seq_lst, seq_scr, map_some_, bt_nm, bt_tp, btp_nil, btp_cons, bind_ok, ofO_some, cmp_eq, cmp_ne, cmp_lt, cmp_le, cmp_gt, cmp_ge, op_add, op_sub, startE, List.map_cons, List.map_nil, List.length_cons, List.length_nil, List.replicate_succ, List.replicate_zero, Nat.reduceAdd, Nat.reduceSub, Nat.zero_add, List.cons_append, List.nil_append, List.getElem?_cons_zero, List.getElem?_cons_succ, List.set_cons_zero, List.set_cons_succ, cutO_lst, cutO_tup, cutO_scr, stepO_2, ev_lstM, ev_app, ev_ext, ev_rem, ev_frz, apT_some, apL_some, apV_lst, apR_ref, apO_some, memAt_hd, rs_hd, wipe_nil, wipe_cons, lcK_some, lcB_non, lcB_som, addO_some, addO_none, len_lst, len_tup, len_scr, tup_lst, lis_tup, lis_lst, if_true, if_false, Bool.false_eq_true, List.length_map, p_is_tuple hno, c_MOST_CLAIMS, c0, hmap, all_true, ite_true]
theorem p_check_family {K s : Nat} {qs : List Rat} {m : Mem} (h : Shr s qs) (hs : s ≤ 1000) (h1 : 1 ≤ qs.length) (h8 : qs.length ≤ 8) : pcallR ⟨runF T.Γ (K+6)⟩ false f_check_family [.tup (qs.map fq)] m = .ok .non m := by
  have hno : noRefs (qs.map fq) = true := noRefs_map noRef_fq _
  refine pcall_id (.of (m := []) ?_ rfl) (by show (noRefs (qs.map fq) && true) = true; rw [hno]; rfl)
  rw [run_def g_check_family rfl]
  simp only [b_check_family, getE_some, brB_bl, brO_some, asB_bl, asN_bl, asNeg_int, asI_int, nxF_nx, nxF_rt, fin_rt, fin_nx, ite_bind, ite_and, ite_or, rs_int, rs_bl, rs_tup, rs_lst, rs_scr, rs_non, ev_var, ev_cst, ev_op, ev_neg, ev_cmp, ev_chain, ev_and, ev_or, ev_not, ev_ife, ev_tup, ev_lst, ev_idx, ev_sl2, ev_sl3, ev_pcall, ev_mcall, ev_blt, ev_blt2, ev_isi, ev_lcF, ev_lqF, MQ.evs_nil, evs_cons, spl_lst, spl_tup, evs_star, evO_non, evO_som, evQ_of, evQ_rng1, evQ_rng2, evQ_rng3, evQ_zip2, evQ_zip3, evQ_enum, bnd_some, ex_asg, ex_asgs, ex_exp, ex_ret, ex_ite, ex_fr, exs_nil, exs_cons, seq_tup, seq_lst, seq_scr, map_some_, bt_nm, bt_tp, btp_nil, btp_cons, bind_ok, ofO_some, cmp_eq, cmp_ne, cmp_lt, cmp_le, cmp_gt, cmp_ge, op_add, op_sub, startE, List.map_cons, List.map_nil, List.length_cons, List.length_nil, List.replicate_succ, List.replicate_zero, Nat.reduceAdd, Nat.reduceSub, Nat.zero_add, List.cons_append, List.nil_append, List.getElem?_cons_zero, List.getElem?_cons_succ, List.set_cons_zero, List.set_cons_succ, cutO_lst, cutO_tup, cutO_scr, stepO_2, ev_lstM, ev_app, ev_ext, ev_rem, ev_frz, apT_some, apL_some, apV_lst, apR_ref, apO_some, memAt_hd, rs_hd, wipe_nil, wipe_cons, lcK_some, lcB_non, lcB_som, addO_some, addO_none, len_lst, len_tup, len_scr, tup_lst, lis_tup, lis_lst, if_true, if_false, Bool.false_eq_true, p_is_family h hs h1 h8, Bool.not_true]
theorem cap_eq (x : Rat) : (if (1 : Rat) < x then (1 : Rat) else x) = cap x := by
  unfold cap
  by_cases h : x < 1
  · rw [if_pos h, if_neg (by grind)]
  · rw [if_neg h]
    by_cases h2 : 1 < x
    · rw [if_pos h2]
    · rw [if_neg h2]; grind
theorem p_capped {K s : Nat} {x : Rat} {m : Mem} (hx : Sz s x) (hs : s < 8000) : pcallR ⟨runF T.Γ (K+2)⟩ false f_capped [fq x] m = .ok (fq (cap x)) m := by
  refine pcall_id (.of (m := []) ?_ rfl) rfl
  rw [run_def g_capped rfl]
  have e1 : c_ONE_many = fq 1 := rfl
  have pb := fun m => p_is_below (K := K) (m := m) (Sz.one (Nat.le_refl 1)) hx (by omega : 1 + s < 9000)
  rw [← cap_eq]
  by_cases h : 1 < x
  · have hd : decide (1 < x) = true := decide_eq_true h
    rw [if_pos h]
    simp only [b_capped, getE_some, brB_bl, brO_some, asB_bl, asN_bl, asNeg_int, asI_int, nxF_nx, nxF_rt, fin_rt, fin_nx, ite_bind, ite_and, ite_or, rs_int, rs_bl, rs_tup, rs_lst, rs_scr, rs_non, ev_var, ev_cst, ev_op, ev_neg, ev_cmp, ev_chain, ev_and, ev_or, ev_not, ev_ife, ev_tup, ev_lst, ev_idx, ev_sl2, ev_sl3, ev_pcall, ev_mcall, ev_blt, ev_blt2, ev_isi, ev_lcF, ev_lqF, MQ.evs_nil, evs_cons, spl_lst, spl_tup, evs_star, evO_non, evO_som, evQ_of, evQ_rng1, evQ_rng2, evQ_rng3, evQ_zip2, evQ_zip3, evQ_enum, bnd_some, ex_asg, ex_asgs, ex_exp, ex_ret, ex_ite, ex_fr, exs_nil, exs_cons, seq_tup, seq_lst, seq_scr, map_some_, bt_nm, bt_tp, btp_nil, btp_cons, bind_ok, ofO_some, cmp_eq, cmp_ne, cmp_lt, cmp_le, cmp_gt, cmp_ge, op_add, op_sub, startE, List.map_cons, List.map_nil, List.length_cons, List.length_nil, List.replicate_succ, List.replicate_zero, Nat.reduceAdd, Nat.reduceSub, Nat.zero_add, List.cons_append, List.nil_append, List.getElem?_cons_zero, List.getElem?_cons_succ, List.set_cons_zero, List.set_cons_succ, cutO_lst, cutO_tup, cutO_scr, stepO_2, ev_lstM, ev_app, ev_ext, ev_rem, ev_frz, apT_some, apL_some, apV_lst, apR_ref, apO_some, memAt_hd, rs_hd, wipe_nil, wipe_cons, lcK_some, lcB_non, lcB_som, addO_some, addO_none, len_lst, len_tup, len_scr, tup_lst, lis_tup, lis_lst, if_true, if_false, Bool.false_eq_true, e1, pb, hd, ite_true]
  · have hd : decide (1 < x) = false := decide_eq_false h
    rw [if_neg h]
    simp only [b_capped, getE_some, brB_bl, brO_some, asB_bl, asN_bl, asNeg_int, asI_int, nxF_nx, nxF_rt, fin_rt, fin_nx, ite_bind, ite_and, ite_or, rs_int, rs_bl, rs_tup, rs_lst, rs_scr, rs_non, ev_var, ev_cst, ev_op, ev_neg, ev_cmp, ev_chain, ev_and, ev_or, ev_not, ev_ife, ev_tup, ev_lst, ev_idx, ev_sl2, ev_sl3, ev_pcall, ev_mcall, ev_blt, ev_blt2, ev_isi, ev_lcF, ev_lqF, MQ.evs_nil, evs_cons, spl_lst, spl_tup, evs_star, evO_non, evO_som, evQ_of, evQ_rng1, evQ_rng2, evQ_rng3, evQ_zip2, evQ_zip3, evQ_enum, bnd_some, ex_asg, ex_asgs, ex_exp, ex_ret, ex_ite, ex_fr, exs_nil, exs_cons, seq_tup, seq_lst, seq_scr, map_some_, bt_nm, bt_tp, btp_nil, btp_cons, bind_ok, ofO_some, cmp_eq, cmp_ne, cmp_lt, cmp_le, cmp_gt, cmp_ge, op_add, op_sub, startE, List.map_cons, List.map_nil, List.length_cons, List.length_nil, List.replicate_succ, List.replicate_zero, Nat.reduceAdd, Nat.reduceSub, Nat.zero_add, List.cons_append, List.nil_append, List.getElem?_cons_zero, List.getElem?_cons_succ, List.set_cons_zero, List.set_cons_succ, cutO_lst, cutO_tup, cutO_scr, stepO_2, ev_lstM, ev_app, ev_ext, ev_rem, ev_frz, apT_some, apL_some, apV_lst, apR_ref, apO_some, memAt_hd, rs_hd, wipe_nil, wipe_cons, lcK_some, lcB_non, lcB_som, addO_some, addO_none, len_lst, len_tup, len_scr, tup_lst, lis_tup, lis_lst, if_true, if_false, Bool.false_eq_true, e1, pb, hd]
theorem r_least_of {K : Nat} {s : Nat} {q : Rat} {qs : List Rat} (hs : s + s < 9000) (hq : Sz s q) (hqs : ∀ x ∈ qs, Sz s x) : Ret T.Γ (K+2) f_least_of [.lst ((q :: qs).map fq)] (fq (minL q qs)) := by
  refine .of (m := []) ?_ rfl
  rw [run_def g_least_of rfl]
  obtain ⟨o', e⟩ := w_least (K := K) hs (.lst ((q :: qs).map fq)) (q :: qs) q none [] hq fun x hx => by
    rcases List.mem_cons.mp hx with z | z
    · rw [z]; exact hq
    · exact hqs x z
  have e0 : idxV (.lst ((q :: qs).map fq)) (.int 0) = some (fq q) := idx_lst (i := 0) rfl
  have em : minL q (q :: qs) = minL q qs := by
    show minL (minF q q) qs = minL q qs
    have : minF q q = q := by unfold minF; split <;> rfl
    rw [this]
  rw [em] at e
  generalize (q :: qs).map fq = l at e e0
  simp only [b_least_of, getE_some, brB_bl, brO_some, asB_bl, asN_bl, asNeg_int, asI_int, nxF_nx, nxF_rt, fin_rt, fin_nx, ite_bind, ite_and, ite_or, rs_int, rs_bl, rs_tup, rs_lst, rs_scr, rs_non, ev_var, ev_cst, ev_op, ev_neg, ev_cmp, ev_chain, ev_and, ev_or, ev_not, ev_ife, ev_tup, ev_lst, ev_idx, ev_sl2, ev_sl3, ev_pcall, ev_mcall, ev_blt, ev_blt2, ev_isi, ev_lcF, ev_lqF, MQ.evs_nil, evs_cons, spl_lst, spl_tup, evs_star, evO_non, evO_som, evQ_of, evQ_rng1, evQ_rng2, evQ_rng3, evQ_zip2, evQ_zip3, evQ_enum, bnd_some, ex_asg, ex_asgs, ex_exp, ex_ret, ex_ite, ex_fr, exs_nil, exs_cons, seq_tup, seq_lst, seq_scr, map_some_, bt_nm, bt_tp, btp_nil, btp_cons, bind_ok, ofO_some, cmp_eq, cmp_ne, cmp_lt, cmp_le, cmp_gt, cmp_ge, op_add, op_sub, startE, List.map_cons, List.map_nil, List.length_cons, List.length_nil, List.replicate_succ, List.replicate_zero, Nat.reduceAdd, Nat.reduceSub, Nat.zero_add, List.cons_append, List.nil_append, List.getElem?_cons_zero, List.getElem?_cons_succ, List.set_cons_zero, List.set_cons_succ, cutO_lst, cutO_tup, cutO_scr, stepO_2, ev_lstM, ev_app, ev_ext, ev_rem, ev_frz, apT_some, apL_some, apV_lst, apR_ref, apO_some, memAt_hd, rs_hd, wipe_nil, wipe_cons, lcK_some, lcB_non, lcB_som, addO_some, addO_none, len_lst, len_tup, len_scr, tup_lst, lis_tup, lis_lst, if_true, if_false, Bool.false_eq_true, e0, e]
theorem p_least_ofM {K : Nat} {s : Nat} {q : Rat} {qs : List Rat} {m : Mem} (hs : s + s < 9000) (hq : Sz s q) (hqs : ∀ x ∈ qs, Sz s x) : pcallR ⟨runF T.Γ (K+2)⟩ false f_least_of [.ref 0] (.lst ((q :: qs).map fq) :: m) = .ok (fq (minL q qs)) (.lst ((q :: qs).map fq) :: m) :=
  pcall_of (r_least_of hs hq hqs) (by
    show (match snap (.lst ((q :: qs).map fq) :: m) (.ref 0), snaps _ [] with | some w, some ws => some (w :: ws) | _, _ => none) = _
    rw [snap_hd (noRefs_map noRef_fq _)]
    rfl) (by rw [noLst_fq, Bool.or_true])
theorem w_in_turn {K s : Nat} (hs : s + s < 9000) (v0 : Option Val) : ∀ (n : Nat) (left found : List Rat) (o : Option Val), left.length < n → found.length + left.length ≤ 1000 → (∀ q ∈ left, Sz s q) → ∃ o',
    whlGo (evE ⟨runF T.Γ (K+2)⟩ (.cmp .ne (.var 1) (.lst false .nil))) (exSs ⟨runF T.Γ (K+2)⟩ (.cons (.asg (.nm 3) (.pcall false f_least_of (.cons (.var 1) .nil)))
    (.cons (.exp (.app (.var 2) (.var 3)))
    (.cons (.exp (.rem (.var 1) (.var 3)))
    .nil)))) n [v0, some (.ref 0), some (.ref 1), o] [.lst (left.map fq), .lst (found.map fq)] =
      .ok (.nx [v0, some (.ref 0), some (.ref 1), o']) [.lst [], .lst ((found ++ srt left).map fq)]
  | 0, left, found, o, h, _, _ => by omega
  | n + 1, [], found, o, h, hl, hq => by
    refine ⟨o, ?_⟩
    have es : srt ([] : List Rat) = [] := List.eq_nil_of_length_eq_zero (by rw [srt_len]; rfl)
    rw [whl_step, es, List.append_nil]
    have hc : cmpV .ne (.lst (([] : List Rat).map fq)) (.lst (([] : List Rat).map fq)) = some false := cmp_neL [] []
    simp only [List.map_nil] at hc ⊢
    simp only [getE_some, brB_bl, brO_some, asB_bl, asN_bl, asNeg_int, asI_int, nxF_nx, nxF_rt, fin_rt, fin_nx, ite_bind, ite_and, ite_or, rs_int, rs_bl, rs_tup, rs_lst, rs_scr, rs_non, ev_var, ev_cst, ev_op, ev_neg, ev_cmp, ev_chain, ev_and, ev_or, ev_not, ev_ife, ev_tup, ev_lst, ev_idx, ev_sl2, ev_sl3, ev_pcall, ev_mcall, ev_blt, ev_blt2, ev_isi, ev_lcF, ev_lqF, MQ.evs_nil, evs_cons, spl_lst, spl_tup, evs_star, evO_non, evO_som, evQ_of, evQ_rng1, evQ_rng2, evQ_rng3, evQ_zip2, evQ_zip3, evQ_enum, bnd_some, ex_asg, ex_asgs, ex_exp, ex_ret, ex_ite, ex_fr, exs_nil, exs_cons, seq_tup, seq_lst, seq_scr, map_some_, bt_nm, bt_tp, btp_nil, btp_cons, bind_ok, ofO_some, cmp_eq, cmp_ne, cmp_lt, cmp_le, cmp_gt, cmp_ge, op_add, op_sub, startE, List.map_cons, List.map_nil, List.length_cons, List.length_nil, List.replicate_succ, List.replicate_zero, Nat.reduceAdd, Nat.reduceSub, Nat.zero_add, List.cons_append, List.nil_append, List.getElem?_cons_zero, List.getElem?_cons_succ, List.set_cons_zero, List.set_cons_succ, cutO_lst, cutO_tup, cutO_scr, stepO_2, ev_lstM, ev_app, ev_ext, ev_rem, ev_frz, apT_some, apL_some, apV_lst, apR_ref, apO_some, memAt_hd, rs_hd, wipe_nil, wipe_cons, lcK_some, lcB_non, lcB_som, addO_some, addO_none, len_lst, len_tup, len_scr, tup_lst, lis_tup, lis_lst, if_true, if_false, Bool.false_eq_true, LL, Nat.zero_le, hc, ite_true]
  | n + 1, q :: qs, found, o, h, hl, hq => by
    simp only [List.length_cons] at h hl
    have hb := minL_mem q qs
    obtain ⟨o', e⟩ := w_in_turn hs v0 n ((q :: qs).erase (minL q qs)) (found ++ [minL q qs]) (some (fq (minL q qs))) (by rw [List.length_erase_of_mem hb]; simp only [List.length_cons]; omega) (by rw [List.length_erase_of_mem hb, List.length_append]; simp only [List.length_cons, List.length_nil]; omega) (fun x hx => hq x (List.mem_of_mem_erase hx))
    refine ⟨o', ?_⟩
    have hsrt : srt (q :: qs) = minL q qs :: srt ((q :: qs).erase (minL q qs)) := by
      refine (srt_of ?_ ?_).symm
      · exact ((srt_perm _).cons _).trans (List.perm_cons_erase hb).symm
      · exact List.pairwise_cons.mpr ⟨fun x hx => minL_least q qs x (List.mem_of_mem_erase (srt_mem.mp hx)), srt_sorted _⟩
    have hc : cmpV .ne (.lst ((q :: qs).map fq)) (.lst []) = some true := by
      have := cmp_neL (q :: qs) []
      rw [decide_eq_false (by simp)] at this
      exact this
    have hr1 : rem1 (fq (minL q qs)) ((q :: qs).map fq) = some (((q :: qs).erase (minL q qs)).map fq) := rem1_fq hb
    have hp := p_least_ofM (K := K) (m := [.lst (found.map fq)]) hs (hq q List.mem_cons_self) (fun x hx => hq x (List.mem_cons_of_mem _ hx))
    have hLL : ((found.map fq).length < LL) = True := by
      rw [List.length_map]
      exact eq_true (Nat.lt_of_lt_of_le (show found.length < 1001 by omega) (by decide))
    have e : whlGo (evE ⟨runF T.Γ (K+2)⟩ (.cmp .ne (.var 1) (.lst false .nil))) (exSs ⟨runF T.Γ (K+2)⟩ (.cons (.asg (.nm 3) (.pcall false f_least_of (.cons (.var 1) .nil)))
    (.cons (.exp (.app (.var 2) (.var 3)))
    (.cons (.exp (.rem (.var 1) (.var 3)))
    .nil)))) n [v0, some (.ref 0), some (.ref 1), some (fq (minL q qs))] [.lst (((q :: qs).erase (minL q qs)).map fq), .lst (found.map fq ++ [fq (minL q qs)])] =
      .ok (.nx [v0, some (.ref 0), some (.ref 1), o']) [.lst [], .lst ((found ++ srt (q :: qs)).map fq)] := by
      rw [List.map_append, List.append_assoc] at e
      rw [hsrt]
      exact e
    have ma : ∀ l : List Val, memAt [.lst l, .lst (found.map fq)] (.ref 1) = some 1 := fun l => rfl
    rw [whl_step]
    generalize (q :: qs).map fq = L at hp hc hr1 ⊢
    simp only [getE_some, brB_bl, brO_some, asB_bl, asN_bl, asNeg_int, asI_int, nxF_nx, nxF_rt, fin_rt, fin_nx, ite_bind, ite_and, ite_or, rs_int, rs_bl, rs_tup, rs_lst, rs_scr, rs_non, ev_var, ev_cst, ev_op, ev_neg, ev_cmp, ev_chain, ev_and, ev_or, ev_not, ev_ife, ev_tup, ev_lst, ev_idx, ev_sl2, ev_sl3, ev_pcall, ev_mcall, ev_blt, ev_blt2, ev_isi, ev_lcF, ev_lqF, MQ.evs_nil, evs_cons, spl_lst, spl_tup, evs_star, evO_non, evO_som, evQ_of, evQ_rng1, evQ_rng2, evQ_rng3, evQ_zip2, evQ_zip3, evQ_enum, bnd_some, ex_asg, ex_asgs, ex_exp, ex_ret, ex_ite, ex_fr, exs_nil, exs_cons, seq_tup, seq_lst, seq_scr, map_some_, bt_nm, bt_tp, btp_nil, btp_cons, bind_ok, ofO_some, cmp_eq, cmp_ne, cmp_lt, cmp_le, cmp_gt, cmp_ge, op_add, op_sub, startE, List.map_cons, List.map_nil, List.length_cons, List.length_nil, List.replicate_succ, List.replicate_zero, Nat.reduceAdd, Nat.reduceSub, Nat.zero_add, List.cons_append, List.nil_append, List.getElem?_cons_zero, List.getElem?_cons_succ, List.set_cons_zero, List.set_cons_succ, cutO_lst, cutO_tup, cutO_scr, stepO_2, ev_lstM, ev_app, ev_ext, ev_rem, ev_frz, apT_some, apL_some, apV_lst, apR_ref, apO_some, memAt_hd, rs_hd, wipe_nil, wipe_cons, lcK_some, lcB_non, lcB_som, addO_some, addO_none, len_lst, len_tup, len_scr, tup_lst, lis_tup, lis_lst, if_true, if_false, Bool.false_eq_true, LL, Nat.zero_le, hc, hp, ma, ite_true]
    simp only [LL] at hLL
    simp only [getE_some, brB_bl, brO_some, asB_bl, asN_bl, asNeg_int, asI_int, nxF_nx, nxF_rt, fin_rt, fin_nx, ite_bind, ite_and, ite_or, rs_int, rs_bl, rs_tup, rs_lst, rs_scr, rs_non, ev_var, ev_cst, ev_op, ev_neg, ev_cmp, ev_chain, ev_and, ev_or, ev_not, ev_ife, ev_tup, ev_lst, ev_idx, ev_sl2, ev_sl3, ev_pcall, ev_mcall, ev_blt, ev_blt2, ev_isi, ev_lcF, ev_lqF, MQ.evs_nil, evs_cons, spl_lst, spl_tup, evs_star, evO_non, evO_som, evQ_of, evQ_rng1, evQ_rng2, evQ_rng3, evQ_zip2, evQ_zip3, evQ_enum, bnd_some, ex_asg, ex_asgs, ex_exp, ex_ret, ex_ite, ex_fr, exs_nil, exs_cons, seq_tup, seq_lst, seq_scr, map_some_, bt_nm, bt_tp, btp_nil, btp_cons, bind_ok, ofO_some, cmp_eq, cmp_ne, cmp_lt, cmp_le, cmp_gt, cmp_ge, op_add, op_sub, startE, List.map_cons, List.map_nil, List.length_cons, List.length_nil, List.replicate_succ, List.replicate_zero, Nat.reduceAdd, Nat.reduceSub, Nat.zero_add, List.cons_append, List.nil_append, List.getElem?_cons_zero, List.getElem?_cons_succ, List.set_cons_zero, List.set_cons_succ, cutO_lst, cutO_tup, cutO_scr, stepO_2, ev_lstM, ev_app, ev_ext, ev_rem, ev_frz, apT_some, apL_some, apV_lst, apR_ref, apO_some, memAt_hd, rs_hd, wipe_nil, wipe_cons, lcK_some, lcB_non, lcB_som, addO_some, addO_none, len_lst, len_tup, len_scr, tup_lst, lis_tup, lis_lst, if_true, if_false, Bool.false_eq_true, hLL, hr1, lpF_nx, ite_true]
    exact e
theorem p_in_turn {K s : Nat} {qs : List Rat} {v : Val} {m : Mem} (hv : seqOf v = some (qs.map fq)) (hn : noRef v = true) (hs : s + s < 9000) (hl : qs.length ≤ 900) (hq : ∀ q ∈ qs, Sz s q) : pcallR ⟨runF T.Γ (K+3)⟩ false f_in_turn [v] m = .ok (.lst ((srt qs).map fq)) m := by
  refine pcall_id ?_ (by show (noRef v && true) = true; rw [hn]; rfl)
  refine ⟨.ref 1, [.lst [], .lst ((srt qs).map fq)], ?_, ?_⟩
  · rw [run_def g_in_turn rfl]
    obtain ⟨F, hF, hN, _⟩ := FUEL_ex
    obtain ⟨o', e⟩ := w_in_turn (K := K) hs (some v) F qs [] none (by omega) (by simp only [List.length_nil]; omega) hq
    rw [List.nil_append] at e
    simp only [List.map_nil] at e
    simp only [b_in_turn, getE_some, brB_bl, brO_some, asB_bl, asN_bl, asNeg_int, asI_int, nxF_nx, nxF_rt, fin_rt, fin_nx, ite_bind, ite_and, ite_or, rs_int, rs_bl, rs_tup, rs_lst, rs_scr, rs_non, ev_var, ev_cst, ev_op, ev_neg, ev_cmp, ev_chain, ev_and, ev_or, ev_not, ev_ife, ev_tup, ev_lst, ev_idx, ev_sl2, ev_sl3, ev_pcall, ev_mcall, ev_blt, ev_blt2, ev_isi, ev_lcF, ev_lqF, MQ.evs_nil, evs_cons, spl_lst, spl_tup, evs_star, evO_non, evO_som, evQ_of, evQ_rng1, evQ_rng2, evQ_rng3, evQ_zip2, evQ_zip3, evQ_enum, bnd_some, ex_asg, ex_asgs, ex_exp, ex_ret, ex_ite, ex_fr, exs_nil, exs_cons, seq_tup, seq_lst, seq_scr, map_some_, bt_nm, bt_tp, btp_nil, btp_cons, bind_ok, ofO_some, cmp_eq, cmp_ne, cmp_lt, cmp_le, cmp_gt, cmp_ge, op_add, op_sub, startE, List.map_cons, List.map_nil, List.length_cons, List.length_nil, List.replicate_succ, List.replicate_zero, Nat.reduceAdd, Nat.reduceSub, Nat.zero_add, List.cons_append, List.nil_append, List.getElem?_cons_zero, List.getElem?_cons_succ, List.set_cons_zero, List.set_cons_succ, cutO_lst, cutO_tup, cutO_scr, stepO_2, ev_lstM, ev_app, ev_ext, ev_rem, ev_frz, apT_some, apL_some, apV_lst, apR_ref, apO_some, memAt_hd, rs_hd, wipe_nil, wipe_cons, lcK_some, lcB_non, lcB_som, addO_some, addO_none, len_lst, len_tup, len_scr, tup_lst, lis_tup, lis_lst, if_true, if_false, Bool.false_eq_true, ev_lqT, hv, LL, Nat.zero_le, hF, e, ite_true]
  · unfold snap
    show (if noRef (.lst ((srt qs).map fq)) = true then some (Val.lst ((srt qs).map fq)) else none) = _
    have h : noRef (.lst ((srt qs).map fq)) = true := noRefs_map noRef_fq (srt qs)
    rw [if_pos h]
theorem w_fine {K s m : Nat} {α : Rat} (hs : s ≤ 1000) (hα : Sz s α) (hm1 : 1 ≤ m) (hm : m ≤ 8) (v0 : Option Val) (mm : Mem) : ∀ (l : List Rat) (k b : Nat) (x y : Option Val), k + l.length ≤ 8 → (∀ q ∈ l, Sz s q) → ∃ x' y',
    frGo (.tp [4, 5]) (exSs ⟨runF T.Γ (K+2)⟩ (.cons (.ite (.not (.pcall false f_is_below (.cons (.pcall false f_ratio_of (.cons (.op .mul (.idx (.var 1) (.cst (.int 0))) (.op .add (.var 4) (.cst (.int 1)))) (.cons (.op .mul (.idx (.var 1) (.cst (.int 1))) (.var 2)) .nil))) (.cons (.var 5) .nil))))
      (.cons (.asg (.nm 3) (.op .add (.var 4) (.cst (.int 1))))
    .nil)
      .nil)
    .nil)) (enumV k (l.map fq)) [v0, some (fq α), some (.int (m : Nat)), some (.int (b : Nat)), x, y] mm = .ok (.nx [v0, some (fq α), some (.int (m : Nat)), some (.int (rnGo α m l k b : Nat)), x', y']) mm
  | [], k, b, x, y, _, _ => ⟨x, y, by rw [List.map_nil, enumV, fr_nil, rnGo]⟩
  | p :: l, k, b, x, y, hk, hq => by
    simp only [List.length_cons] at hk
    have hp := hq p List.mem_cons_self
    have ek : ((k : Int) + 1) = ((k + 1 : Nat) : Int) := by omega
    obtain ⟨x', y', e⟩ := w_fine (K := K) hs hα hm1 hm v0 mm l (k + 1) (if lv α m (k + 1) < p then b else k + 1) (some (.int (k : Nat))) (some (fq p)) (by omega) (fun q hq' => hq q (List.mem_cons_of_mem _ hq'))
    refine ⟨x', y', ?_⟩
    have hd9 := den_nat hα.2 (show m < 2 ^ 5 by omega)
    have c1 : mulOk α.num ((k + 1 : Nat) : Int) = true := mulOk_of (t := 5) hα.1 (by omega) (by omega)
    have c2 : mulOk (α.den : Int) (m : Int) = true := mulOk_of (s := s) (t := 5) (by rw [Int.natAbs_natCast]; exact hα.2) (by omega) (by omega)
    have pr := fun mm => p_ratio_of (K := K) (m := mm) (a := α.num * ((k + 1 : Nat) : Int)) (Int.mul_pos (den_pos α) (show (0 : Int) < (m : Int) by omega)) hd9 (by omega)
    have el : Rat.divInt (α.num * ((k + 1 : Nat) : Int)) ((α.den : Int) * (m : Int)) = lv α m (k + 1) := lv_div α m (k + 1)
    rw [el] at pr
    have pb := fun mm => p_is_below (K := K + 1) (m := mm) (lv_sz (k := k + 1) hα hm1 (by omega) (by omega)) hp (by omega : s + 5 + s < 9000)
    have i0 : idxV (fq α) (.int 0) = some (.int α.num) := idx_tup (i := 0) rfl
    have i1 : idxV (fq α) (.int 1) = some (.int α.den) := idx_tup (i := 1) rfl
    have r0 : ∀ m, rs m (fq α) = fq α := fun m => rs_of (noRef_fq α)
    rw [List.map_cons, enumV, fr_cons, rnGo]
    by_cases h : lv α m (k + 1) < p
    · rw [if_pos h] at e ⊢
      have hd : decide (lv α m (k + 1) < p) = true := decide_eq_true h
      simp only [getE_some, brB_bl, brO_some, asB_bl, asN_bl, asNeg_int, asI_int, nxF_nx, nxF_rt, fin_rt, fin_nx, ite_bind, ite_and, ite_or, rs_int, rs_bl, rs_tup, rs_lst, rs_scr, rs_non, ev_var, ev_cst, ev_op, ev_neg, ev_cmp, ev_chain, ev_and, ev_or, ev_not, ev_ife, ev_tup, ev_lst, ev_idx, ev_sl2, ev_sl3, ev_pcall, ev_mcall, ev_blt, ev_blt2, ev_isi, ev_lcF, ev_lqF, MQ.evs_nil, evs_cons, spl_lst, spl_tup, evs_star, evO_non, evO_som, evQ_of, evQ_rng1, evQ_rng2, evQ_rng3, evQ_zip2, evQ_zip3, evQ_enum, bnd_some, ex_asg, ex_asgs, ex_exp, ex_ret, ex_ite, ex_fr, exs_nil, exs_cons, seq_tup, seq_lst, seq_scr, map_some_, bt_nm, bt_tp, btp_nil, btp_cons, bind_ok, ofO_some, cmp_eq, cmp_ne, cmp_lt, cmp_le, cmp_gt, cmp_ge, op_add, op_sub, startE, List.map_cons, List.map_nil, List.length_cons, List.length_nil, List.replicate_succ, List.replicate_zero, Nat.reduceAdd, Nat.reduceSub, Nat.zero_add, List.cons_append, List.nil_append, List.getElem?_cons_zero, List.getElem?_cons_succ, List.set_cons_zero, List.set_cons_succ, cutO_lst, cutO_tup, cutO_scr, stepO_2, ev_lstM, ev_app, ev_ext, ev_rem, ev_frz, apT_some, apL_some, apV_lst, apR_ref, apO_some, memAt_hd, rs_hd, wipe_nil, wipe_cons, lcK_some, lcB_non, lcB_som, addO_some, addO_none, len_lst, len_tup, len_scr, tup_lst, lis_tup, lis_lst, if_true, if_false, Bool.false_eq_true, frB_some, r0, i0, i1, ek, op_mul c1, op_mul c2, pr, pb, hd, Bool.not_true, lpF_nx]
      exact e
    · rw [if_neg h] at e ⊢
      have hd : decide (lv α m (k + 1) < p) = false := decide_eq_false h
      simp only [getE_some, brB_bl, brO_some, asB_bl, asN_bl, asNeg_int, asI_int, nxF_nx, nxF_rt, fin_rt, fin_nx, ite_bind, ite_and, ite_or, rs_int, rs_bl, rs_tup, rs_lst, rs_scr, rs_non, ev_var, ev_cst, ev_op, ev_neg, ev_cmp, ev_chain, ev_and, ev_or, ev_not, ev_ife, ev_tup, ev_lst, ev_idx, ev_sl2, ev_sl3, ev_pcall, ev_mcall, ev_blt, ev_blt2, ev_isi, ev_lcF, ev_lqF, MQ.evs_nil, evs_cons, spl_lst, spl_tup, evs_star, evO_non, evO_som, evQ_of, evQ_rng1, evQ_rng2, evQ_rng3, evQ_zip2, evQ_zip3, evQ_enum, bnd_some, ex_asg, ex_asgs, ex_exp, ex_ret, ex_ite, ex_fr, exs_nil, exs_cons, seq_tup, seq_lst, seq_scr, map_some_, bt_nm, bt_tp, btp_nil, btp_cons, bind_ok, ofO_some, cmp_eq, cmp_ne, cmp_lt, cmp_le, cmp_gt, cmp_ge, op_add, op_sub, startE, List.map_cons, List.map_nil, List.length_cons, List.length_nil, List.replicate_succ, List.replicate_zero, Nat.reduceAdd, Nat.reduceSub, Nat.zero_add, List.cons_append, List.nil_append, List.getElem?_cons_zero, List.getElem?_cons_succ, List.set_cons_zero, List.set_cons_succ, cutO_lst, cutO_tup, cutO_scr, stepO_2, ev_lstM, ev_app, ev_ext, ev_rem, ev_frz, apT_some, apL_some, apV_lst, apR_ref, apO_some, memAt_hd, rs_hd, wipe_nil, wipe_cons, lcK_some, lcB_non, lcB_som, addO_some, addO_none, len_lst, len_tup, len_scr, tup_lst, lis_tup, lis_lst, if_true, if_false, Bool.false_eq_true, frB_some, r0, i0, i1, ek, op_mul c1, op_mul c2, pr, pb, hd, Bool.not_false, lpF_nx, ite_true]
      exact e
theorem p_fine_steps {K s : Nat} {α : Rat} {ps : List Rat} {m : Mem} (hs : s ≤ 1000) (hα : Sz s α) (hm1 : 1 ≤ ps.length) (hm : ps.length ≤ 8) (hq : ∀ q ∈ ps, Sz s q) : pcallR ⟨runF T.Γ (K+3)⟩ false f_fine_steps [.lst ((srt ps).map fq), fq α, .int (ps.length : Nat)] m = .ok (.int (RN α ps : Nat)) m := by
  have hno : noRefs ((srt ps).map fq) = true := noRefs_map noRef_fq _
  refine pcall_id (.of (m := []) ?_ rfl) (by show (noRefs ((srt ps).map fq) && (noRef (fq α) && true)) = true; rw [hno]; rfl)
  rw [run_def g_fine_steps rfl]
  obtain ⟨x', y', e⟩ := w_fine (K := K) hs hα hm1 hm (some (.lst ((srt ps).map fq))) [] (srt ps) 0 0 none none (by rw [srt_len]; omega) (fun q h => hq q (srt_mem.mp h))
  have eR : rnGo α ps.length (srt ps) 0 0 = RN α ps := rfl
  rw [eR] at e
  simp only [Int.natCast_zero] at e
  simp only [b_fine_steps, getE_some, brB_bl, brO_some, asB_bl, asN_bl, asNeg_int, asI_int, nxF_nx, nxF_rt, fin_rt, fin_nx, ite_bind, ite_and, ite_or, rs_int, rs_bl, rs_tup, rs_lst, rs_scr, rs_non, ev_var, ev_cst, ev_op, ev_neg, ev_cmp, ev_chain, ev_and, ev_or, ev_not, ev_ife, ev_tup, ev_lst, ev_idx, ev_sl2, ev_sl3, ev_pcall, ev_mcall, ev_blt, ev_blt2, ev_isi, ev_lcF, ev_lqF, MQ.evs_nil, evs_cons, spl_lst, spl_tup, evs_star, evO_non, evO_som, evQ_of, evQ_rng1, evQ_rng2, evQ_rng3, evQ_zip2, evQ_zip3, evQ_enum, bnd_some, ex_asg, ex_asgs, ex_exp, ex_ret, ex_ite, ex_fr, exs_nil, exs_cons, seq_tup, seq_lst, seq_scr, map_some_, bt_nm, bt_tp, btp_nil, btp_cons, bind_ok, ofO_some, cmp_eq, cmp_ne, cmp_lt, cmp_le, cmp_gt, cmp_ge, op_add, op_sub, startE, List.map_cons, List.map_nil, List.length_cons, List.length_nil, List.replicate_succ, List.replicate_zero, Nat.reduceAdd, Nat.reduceSub, Nat.zero_add, List.cons_append, List.nil_append, List.getElem?_cons_zero, List.getElem?_cons_succ, List.set_cons_zero, List.set_cons_succ, cutO_lst, cutO_tup, cutO_scr, stepO_2, ev_lstM, ev_app, ev_ext, ev_rem, ev_frz, apT_some, apL_some, apV_lst, apR_ref, apO_some, memAt_hd, rs_hd, wipe_nil, wipe_cons, lcK_some, lcB_non, lcB_som, addO_some, addO_none, len_lst, len_tup, len_scr, tup_lst, lis_tup, lis_lst, if_true, if_false, Bool.false_eq_true, e]
def natT (l : List Nat) : Val := .tup (l.map nI)
theorem noes_zero {α : Rat} {ps : List Rat} (h0 : 0 ≤ α) (h : RN α ps = 0) : noesL α ps = [] := List.eq_nil_of_length_eq_zero (by rw [noes_len h0, h])
theorem p_stepped_up {K s : Nat} {α : Rat} {ps : List Rat} {m : Mem} (hs1 : 1 ≤ s) (hs : s ≤ 1000) (h : Shr s ps) (hα : Sz s α) (h0 : 0 ≤ α) (h1 : α ≤ 1) (hm1 : 1 ≤ ps.length) (hm : ps.length ≤ 8) : pcallR ⟨runF T.Γ (K+7)⟩ false f_stepped_up [.tup (ps.map fq), fq α] m = .ok (natT (noesL α ps)) m := by
  have hno : noRefs (ps.map fq) = true := noRefs_map noRef_fq _
  refine pcall_id (.of (m := []) ?_ (by show noRefs ((noesL α ps).map nI) = true; exact noRefs_map (fun _ => rfl) _)) (by show (noRefs (ps.map fq) && (noRef (fq α) && true)) = true; rw [hno]; rfl)
  rw [run_def g_stepped_up rfl]
  have p1 := fun m => p_check_family (K := K) (m := m) h hs hm1 hm
  have p2 := fun m => p_check_share (K := K + 1) (m := m) hα (show s ≤ 9900 by omega) h0 h1
  have p3 := fun m => p_in_turn (K := K + 3) (m := m) (v := .tup (ps.map fq)) rfl hno (by omega : s + s < 9000) (by omega) h.sz
  have p4 := fun m => p_fine_steps (K := K + 3) (m := m) hs hα hm1 hm h.sz
  have i0 : idxV (fq α) (.int 0) = some (.int α.num) := idx_tup (i := 0) rfl
  have i1 : idxV (fq α) (.int 1) = some (.int α.den) := idx_tup (i := 1) rfl
  have r0 : ∀ m, rs m (fq α) = fq α := fun m => rs_of (noRef_fq α)
  by_cases hR : RN α ps = 0
  · have hd : decide (((RN α ps : Nat) : Int) = 0) = true := decide_eq_true (by omega)
    rw [noes_zero h0 hR]
    simp only [b_stepped_up, getE_some, brB_bl, brO_some, asB_bl, asN_bl, asNeg_int, asI_int, nxF_nx, nxF_rt, fin_rt, fin_nx, ite_bind, ite_and, ite_or, rs_int, rs_bl, rs_tup, rs_lst, rs_scr, rs_non, ev_var, ev_cst, ev_op, ev_neg, ev_cmp, ev_chain, ev_and, ev_or, ev_not, ev_ife, ev_tup, ev_lst, ev_idx, ev_sl2, ev_sl3, ev_pcall, ev_mcall, ev_blt, ev_blt2, ev_isi, ev_lcF, ev_lqF, MQ.evs_nil, evs_cons, spl_lst, spl_tup, evs_star, evO_non, evO_som, evQ_of, evQ_rng1, evQ_rng2, evQ_rng3, evQ_zip2, evQ_zip3, evQ_enum, bnd_some, ex_asg, ex_asgs, ex_exp, ex_ret, ex_ite, ex_fr, exs_nil, exs_cons, seq_tup, seq_lst, seq_scr, map_some_, bt_nm, bt_tp, btp_nil, btp_cons, bind_ok, ofO_some, cmp_eq, cmp_ne, cmp_lt, cmp_le, cmp_gt, cmp_ge, op_add, op_sub, startE, List.map_cons, List.map_nil, List.length_cons, List.length_nil, List.replicate_succ, List.replicate_zero, Nat.reduceAdd, Nat.reduceSub, Nat.zero_add, List.cons_append, List.nil_append, List.getElem?_cons_zero, List.getElem?_cons_succ, List.set_cons_zero, List.set_cons_succ, cutO_lst, cutO_tup, cutO_scr, stepO_2, ev_lstM, ev_app, ev_ext, ev_rem, ev_frz, apT_some, apL_some, apV_lst, apR_ref, apO_some, memAt_hd, rs_hd, wipe_nil, wipe_cons, lcK_some, lcB_non, lcB_som, addO_some, addO_none, len_lst, len_tup, len_scr, tup_lst, lis_tup, lis_lst, if_true, if_false, Bool.false_eq_true, List.length_map, p1, p2, p3, p4, hd, LL, Nat.zero_le, ite_true]
    rfl
  · have hd : decide (((RN α ps : Nat) : Int) = 0) = false := decide_eq_false (by omega)
    have hRle := (rn_spec α ps).le
    have c1 : mulOk α.num ((RN α ps : Nat) : Int) = true := mulOk_of (t := 5) hα.1 (by omega) (by omega)
    have c2 : mulOk (α.den : Int) (ps.length : Int) = true := mulOk_of (s := s) (t := 5) (by rw [Int.natAbs_natCast]; exact hα.2) (by omega) (by omega)
    have pr := fun mm => p_ratio_of (K := K + 4) (m := mm) (a := α.num * ((RN α ps : Nat) : Int)) (Int.mul_pos (den_pos α) (show (0 : Int) < (ps.length : Int) by omega)) (den_nat hα.2 (show ps.length < 2 ^ 5 by omega)) (by omega)
    rw [lv_div] at pr
    have hlz := lv_sz (k := RN α ps) hα hm1 (by omega) (by omega)
    have hmap : ∀ a b, mapR (lcB ⟨runF T.Γ (K+6)⟩ (.var 4) (.tp [4, 5]) (.som (.not (.pcall false f_is_below (.cons (.var 3) (.cons (.var 5) .nil))))) [some (.tup (ps.map fq)), some (fq α), a, some (fq (lv α ps.length (RN α ps))), none, none]) ((ps.zipIdx 0).map fun p => Val.tup [.int (p.2 : Nat), fq p.1]) b = .ok (((ps.zipIdx 0).filter fun p => !decide (lv α ps.length (RN α ps) < p.1)).map fun p => nI p.2) b := fun a b => mapR_if fun p hp => by
      have hp1 : p.1 ∈ ps := List.mem_of_getElem? (List.mem_zipIdx_iff_getElem?.mp hp)
      have pb := fun m => p_is_below (K := K + 5) (m := m) hlz (h.sz _ hp1) (by omega : s + 5 + s < 9000)
      simp only [getE_some, brB_bl, brO_some, asB_bl, asN_bl, asNeg_int, asI_int, nxF_nx, nxF_rt, fin_rt, fin_nx, ite_bind, ite_and, ite_or, rs_int, rs_bl, rs_tup, rs_lst, rs_scr, rs_non, ev_var, ev_cst, ev_op, ev_neg, ev_cmp, ev_chain, ev_and, ev_or, ev_not, ev_ife, ev_tup, ev_lst, ev_idx, ev_sl2, ev_sl3, ev_pcall, ev_mcall, ev_blt, ev_blt2, ev_isi, ev_lcF, ev_lqF, MQ.evs_nil, evs_cons, spl_lst, spl_tup, evs_star, evO_non, evO_som, evQ_of, evQ_rng1, evQ_rng2, evQ_rng3, evQ_zip2, evQ_zip3, evQ_enum, bnd_some, ex_asg, ex_asgs, ex_exp, ex_ret, ex_ite, ex_fr, exs_nil, exs_cons, seq_tup, seq_lst, seq_scr, map_some_, bt_nm, bt_tp, btp_nil, btp_cons, bind_ok, ofO_some, cmp_eq, cmp_ne, cmp_lt, cmp_le, cmp_gt, cmp_ge, op_add, op_sub, startE, List.map_cons, List.map_nil, List.length_cons, List.length_nil, List.replicate_succ, List.replicate_zero, Nat.reduceAdd, Nat.reduceSub, Nat.zero_add, List.cons_append, List.nil_append, List.getElem?_cons_zero, List.getElem?_cons_succ, List.set_cons_zero, List.set_cons_succ, cutO_lst, cutO_tup, cutO_scr, stepO_2, ev_lstM, ev_app, ev_ext, ev_rem, ev_frz, apT_some, apL_some, apV_lst, apR_ref, apO_some, memAt_hd, rs_hd, wipe_nil, wipe_cons, lcK_some, lcB_non, lcB_som, addO_some, addO_none, len_lst, len_tup, len_scr, tup_lst, lis_tup, lis_lst, if_true, if_false, Bool.false_eq_true, pb]
      split <;> rfl
    have hm2 : (((ps.zipIdx 0).filter fun p => !decide (lv α ps.length (RN α ps) < p.1)).map fun p => nI p.2) = (noesL α ps).map nI := by
      unfold noesL
      rw [List.map_map]
      rfl
    rw [hm2] at hmap
    simp only [b_stepped_up, getE_some, brB_bl, brO_some, asB_bl, asN_bl, asNeg_int, asI_int, nxF_nx, nxF_rt, fin_rt, fin_nx, ite_bind, ite_and, ite_or, rs_int, rs_bl, rs_tup, rs_lst, rs_scr, rs_non, ev_var, ev_cst, ev_op, ev_neg, ev_cmp, ev_chain, ev_and, ev_or, ev_not, ev_ife, ev_tup, ev_lst, ev_idx, ev_sl2, ev_sl3, ev_pcall, ev_mcall, ev_blt, ev_blt2, ev_isi, ev_lcF, ev_lqF, MQ.evs_nil, evs_cons, spl_lst, spl_tup, evs_star, evO_non, evO_som, evQ_of, evQ_rng1, evQ_rng2, evQ_rng3, evQ_zip2, evQ_zip3, evQ_enum, bnd_some, ex_asg, ex_asgs, ex_exp, ex_ret, ex_ite, ex_fr, exs_nil, exs_cons, seq_tup, seq_lst, seq_scr, map_some_, bt_nm, bt_tp, btp_nil, btp_cons, bind_ok, ofO_some, cmp_eq, cmp_ne, cmp_lt, cmp_le, cmp_gt, cmp_ge, op_add, op_sub, startE, List.map_cons, List.map_nil, List.length_cons, List.length_nil, List.replicate_succ, List.replicate_zero, Nat.reduceAdd, Nat.reduceSub, Nat.zero_add, List.cons_append, List.nil_append, List.getElem?_cons_zero, List.getElem?_cons_succ, List.set_cons_zero, List.set_cons_succ, cutO_lst, cutO_tup, cutO_scr, stepO_2, ev_lstM, ev_app, ev_ext, ev_rem, ev_frz, apT_some, apL_some, apV_lst, apR_ref, apO_some, memAt_hd, rs_hd, wipe_nil, wipe_cons, lcK_some, lcB_non, lcB_som, addO_some, addO_none, len_lst, len_tup, len_scr, tup_lst, lis_tup, lis_lst, if_true, if_false, Bool.false_eq_true, List.length_map, p1, p2, p3, p4, hd, r0, i0, i1, op_mul c1, op_mul c2, pr, enum_fq, hmap]
    rfl

end LW
namespace LW
open PySem PySem.Spec MP MQ
/-! ### likeness of rows of counts -/
theorem toDs_nats (l : List Nat) : toDs (l.map nI) = l.map fun i => PyData.int (i : Nat) := by
  induction l with
  | nil => rfl
  | cons a l ih =>
    show toD (nI a) :: toDs (l.map nI) = _
    rw [ih]
    rfl
theorem isDs_nats (l : List Nat) : isDs (l.map nI) = true := by
  induction l with
  | nil => rfl
  | cons a l ih =>
    show (isD (nI a) && isDs (l.map nI)) = true
    rw [ih]
    rfl
theorem lay_nats (l : List Nat) : PyData.canLayAll0 (l.map fun i => PyData.int (i : Nat)) = true := by
  induction l with
  | nil => simp only [List.map_nil, PyData.canLayAll0]
  | cons q qs ih => simp only [List.map_cons, PyData.canLayAll0, ih, PyData.canLay0, Bool.and_self]
theorem depth_nats (l : List Nat) : PyData.depthAll (l.map fun i => PyData.int (i : Nat)) = 0 := by
  induction l with
  | nil => simp only [List.map_nil, PyData.depthAll]
  | cons q qs ih =>
    simp only [List.map_cons, PyData.depthAll, PyData.depth, ih]
    rfl
theorem shaped_nats (l : List Nat) : SeqAt.shaped (toD (natT l)) = true := by
  show SeqAt.shaped (.tuple (toDs (l.map nI))) = true
  rw [toDs_nats]
  unfold SeqAt.shaped
  rw [Bool.and_eq_true]
  refine ⟨by simp only [PyData.canLay0, lay_nats], decide_eq_true ?_⟩
  rw [PyData.depth, depth_nats]
  omega
theorem eqvAll_nats : ∀ as bs : List Nat, PyData.eqvAll (as.map fun i => PyData.int (i : Nat)) (bs.map fun i => PyData.int (i : Nat)) = decide (as = bs)
  | [], [] => by simp only [List.map_nil, PyData.eqvAll, decide_true]
  | [], b :: bs => by simp [PyData.eqvAll]
  | a :: as, [] => by simp [PyData.eqvAll]
  | a :: as, b :: bs => by
    rw [List.map_cons, List.map_cons]
    simp only [PyData.eqvAll, PyData.eqv, eqvAll_nats as bs]
    by_cases h : a = b
    · subst h
      by_cases h2 : as = bs
      · subst h2; simp
      · simp [h2]
    · have : ((a : Int) == (b : Int)) = false := by
        rw [beq_eq_false_iff_ne]
        omega
      simp [h, this]
theorem cmp_neN (as bs : List Nat) : cmpV .ne (natT as) (natT bs) = some (!decide (as = bs)) := by
  show (eqV (natT as) (natT bs)).map (!·) = _
  unfold eqV
  have h1 : isD (natT as) = true := isDs_nats as
  have h2 : isD (natT bs) = true := isDs_nats bs
  rw [h1, h2, shaped_nats, shaped_nats]
  show (some (PyData.eqv (.tuple (toDs (as.map nI))) (.tuple (toDs (bs.map nI))))).map (!·) = _
  rw [toDs_nats, toDs_nats]
  simp only [PyData.eqv, eqvAll_nats]
  rfl
theorem cmp_eqB (a b : Bool) : cmpV .eq (.bl a) (.bl b) = some (a == b) := by
  cases a <;> cases b <;> rfl
theorem rs_natT {m : Mem} {l : List Nat} : rs m (natT l) = natT l := id rfl
theorem len_natT {l : List Nat} : bltV .len (natT l) = some (.int (l.length : Nat)) := by
  show some (Val.int ((l.map nI).length : Nat)) = _
  rw [List.length_map]
/-! ### each claim's least share -/
theorem idx_end {xs : List Val} {v : Val} : idxV (.lst (xs ++ [v])) (.int (-1)) = some v := by
  show L2.atI (xs ++ [v]) (-1) = some v
  unfold L2.atI L2.ixN
  rw [if_neg (by decide), if_pos (by rw [List.length_append]; simp only [List.length_cons, List.length_nil]; omega)]
  have e : (-1 + ((xs ++ [v]).length : Int)).toNat = xs.length := by rw [List.length_append]; simp only [List.length_cons, List.length_nil]; omega
  rw [e]
  show (xs ++ [v])[xs.length]? = some v
  rw [List.getElem?_append_right (Nat.le_refl _), Nat.sub_self]
  rfl
def stepP (ps : List Rat) (a : Nat) : Val := .tup [fq ((srt ps).getD a 0), fq (LS ps a)]
theorem mine_sz {s : Nat} {ps : List Rat} {k : Nat} (h : Shr s ps) (hm : ps.length ≤ 8) (hk : k < ps.length) : Sz (s + 5) (mine ps k) := by
  unfold mine
  have hg : (srt ps).getD k 0 ∈ ps := by
    refine srt_mem.mp ?_
    rw [List.getD_eq_getElem?_getD, List.getElem?_eq_getElem (by rw [srt_len]; exact hk)]
    exact List.getElem_mem _
  refine Sz.cap (lv_sz (h.sz _ hg) (by omega) (by omega) (by omega)) (by omega)
theorem LS_sz {s : Nat} {ps : List Rat} (h : Shr s ps) (hm : ps.length ≤ 8) (a : Nat) : Sz (s + 5) (LS ps a) := by
  obtain ⟨_, _, g3⟩ := minL_le (f := 1) (qs := ((List.range' a (ps.length - a)).reverse).map (mine ps))
  rcases g3 with z | z
  · have z : LS ps a = 1 := z
    rw [z]
    exact Sz.one (by omega)
  · obtain ⟨k, hk, e⟩ := List.mem_map.mp z
    obtain ⟨hk1, hk2⟩ := List.mem_range'_1.mp (List.mem_reverse.mp hk)
    have e : mine ps k = LS ps a := e
    rw [← e]
    exact mine_sz h hm (by omega)
theorem w_stepps {K s : Nat} {ps : List Rat} (hs1 : 1 ≤ s) (hs : s ≤ 1000) (h : Shr s ps) (hm : ps.length ≤ 8) (v0 : Option Val) : ∀ (n : Nat) (x y z w : Option Val), n ≤ ps.length → ∃ x' y' z' w',
    frGo (.nm 5) (exSs ⟨runF T.Γ (K+4)⟩ (.cons (.asg (.tp [6, 7]) (.idx (.var 1) (.var 5)))
    (.cons (.asg (.nm 8) (.pcall false f_capped (.cons (.pcall false f_ratio_of (.cons (.op .mul (.var 6) (.var 2)) (.cons (.op .mul (.var 7) (.op .add (.var 5) (.cst (.int 1)))) .nil))) .nil)))
    (.cons (.asg (.nm 4) (.ife (.pcall false f_is_below (.cons (.var 8) (.cons (.var 4) .nil))) (.var 8) (.var 4)))
    (.cons (.exp (.app (.var 3) (.tup (.cons (.idx (.var 1) (.var 5)) (.cons (.var 4) .nil)))))
    .nil))))) ((List.range n).reverse.map fun k => Val.int (k : Nat)) [v0, some (.lst ((srt ps).map fq)), some (.int (ps.length : Nat)), some (.ref 0), some (fq (LS ps n)), x, y, z, w, none, none, none] [.lst (((List.range' n (ps.length - n)).reverse).map (stepP ps))] =
      .ok (.nx [v0, some (.lst ((srt ps).map fq)), some (.int (ps.length : Nat)), some (.ref 0), some (fq (LS ps 0)), x', y', z', w', none, none, none]) [.lst (((List.range ps.length).reverse).map (stepP ps))]
  | 0, x, y, z, w, _ => ⟨x, y, z, w, by rw [List.range_zero, List.reverse_nil, List.map_nil, fr_nil, Nat.sub_zero, List.range_eq_range']⟩
  | n + 1, x, y, z, w, hn => by
    have hk : n < ps.length := by omega
    have hget : (srt ps)[n]? = some ((srt ps).getD n 0) := by
      rw [List.getD_eq_getElem?_getD, List.getElem?_eq_getElem (by rw [srt_len]; exact hk)]
      rfl
    have hg : (srt ps).getD n 0 ∈ ps := srt_mem.mp (List.mem_of_getElem? hget)
    have hz := h.sz _ hg
    have hLS := LS_step hk
    have hmz := mine_sz h hm hk
    obtain ⟨x', y', z', w', e⟩ := w_stepps (K := K) hs1 hs h hm v0 n (some (.int (n : Nat))) (some (.int ((srt ps).getD n 0).num)) (some (.int ((srt ps).getD n 0).den)) (some (fq (mine ps n))) (by omega)
    refine ⟨x', y', z', w', ?_⟩
    rw [List.range_succ, List.reverse_append, List.reverse_cons, List.reverse_nil, List.nil_append, List.cons_append, List.nil_append, List.map_cons, fr_cons]
    have hi : idxV (.lst ((srt ps).map fq)) (.int (n : Nat)) = some (fq ((srt ps).getD n 0)) := fq_at hget
    have efq : fq ((srt ps).getD n 0) = .tup [.int ((srt ps).getD n 0).num, .int ((srt ps).getD n 0).den] := rfl
    have c1 : mulOk ((srt ps).getD n 0).num (ps.length : Int) = true := mulOk_of (t := 5) hz.1 (by omega) (by omega)
    have c2 : mulOk (((srt ps).getD n 0).den : Int) ((n + 1 : Nat) : Int) = true := mulOk_of (s := s) (t := 5) (by rw [Int.natAbs_natCast]; exact hz.2) (by omega) (by omega)
    have ek : ((n : Int) + 1) = ((n + 1 : Nat) : Int) := by omega
    have pr := fun mm => p_ratio_of (K := K + 2) (m := mm) (a := ((srt ps).getD n 0).num * (ps.length : Int)) (b := (((srt ps).getD n 0).den : Int) * ((n + 1 : Nat) : Int)) (Int.mul_pos (den_pos _) (by omega)) (den_nat hz.2 (show n + 1 < 2 ^ 5 by omega)) (by omega)
    rw [lv_div] at pr
    have pc := fun mm => p_capped (K := K + 2) (m := mm) (lv_sz (k := ps.length) hz (show 1 ≤ n + 1 by omega) (by omega) (by omega)) (by omega : s + 5 < 8000)
    have em : cap (lv ((srt ps).getD n 0) (n + 1) ps.length) = mine ps n := rfl
    rw [em] at pc
    have pb := fun mm => p_is_below (K := K + 3) (m := mm) hmz (LS_sz h hm (n + 1)) (by omega : s + 5 + (s + 5) < 9000)
    have eLS : LS ps n = if mine ps n < LS ps (n + 1) then mine ps n else LS ps (n + 1) := hLS
    have hLL : ((((List.range' (n + 1) (ps.length - (n + 1))).reverse).map (stepP ps)).length < LL) = True := by
      rw [List.length_map, List.length_reverse, List.length_range']
      exact eq_true (Nat.lt_of_lt_of_le (show ps.length - (n + 1) < 1001 by omega) (by decide))
    have hacc : ((List.range' (n + 1) (ps.length - (n + 1))).reverse).map (stepP ps) ++ [stepP ps n] = ((List.range' n (ps.length - n)).reverse).map (stepP ps) := by
      have : ps.length - n = (ps.length - (n + 1)) + 1 := by omega
      rw [this, List.range'_succ, List.reverse_cons, List.map_append]
      rfl
    rw [← hacc] at e
    unfold stepP at e hLL ⊢
    rw [eLS] at e
    have r0 : ∀ m q, rs m (fq q) = fq q := fun m q => rs_of (noRef_fq q)
    generalize hsl : (srt ps).map fq = SL at hi e ⊢
    by_cases hlt : mine ps n < LS ps (n + 1)
    · have hd : decide (mine ps n < LS ps (n + 1)) = true := decide_eq_true hlt
      rw [if_pos hlt] at e
      simp only [getE_some, brB_bl, brO_some, asB_bl, asN_bl, asNeg_int, asI_int, nxF_nx, nxF_rt, fin_rt, fin_nx, ite_bind, ite_and, ite_or, rs_int, rs_bl, rs_tup, rs_lst, rs_scr, rs_non, ev_var, ev_cst, ev_op, ev_neg, ev_cmp, ev_chain, ev_and, ev_or, ev_not, ev_ife, ev_tup, ev_lst, ev_idx, ev_sl2, ev_sl3, ev_pcall, ev_mcall, ev_blt, ev_blt2, ev_isi, ev_lcF, ev_lqF, MQ.evs_nil, evs_cons, spl_lst, spl_tup, evs_star, evO_non, evO_som, evQ_of, evQ_rng1, evQ_rng2, evQ_rng3, evQ_zip2, evQ_zip3, evQ_enum, bnd_some, ex_asg, ex_asgs, ex_exp, ex_ret, ex_ite, ex_fr, exs_nil, exs_cons, seq_tup, seq_lst, seq_scr, map_some_, bt_nm, bt_tp, btp_nil, btp_cons, bind_ok, ofO_some, cmp_eq, cmp_ne, cmp_lt, cmp_le, cmp_gt, cmp_ge, op_add, op_sub, startE, List.map_cons, List.map_nil, List.length_cons, List.length_nil, List.replicate_succ, List.replicate_zero, Nat.reduceAdd, Nat.reduceSub, Nat.zero_add, List.cons_append, List.nil_append, List.getElem?_cons_zero, List.getElem?_cons_succ, List.set_cons_zero, List.set_cons_succ, cutO_lst, cutO_tup, cutO_scr, stepO_2, ev_lstM, ev_app, ev_ext, ev_rem, ev_frz, apT_some, apL_some, apV_lst, apR_ref, apO_some, memAt_hd, rs_hd, wipe_nil, wipe_cons, lcK_some, lcB_non, lcB_som, addO_some, addO_none, len_lst, len_tup, len_scr, tup_lst, lis_tup, lis_lst, if_true, if_false, Bool.false_eq_true, frB_some, hi]
      rw [efq]
      simp only [getE_some, brB_bl, brO_some, asB_bl, asN_bl, asNeg_int, asI_int, nxF_nx, nxF_rt, fin_rt, fin_nx, ite_bind, ite_and, ite_or, rs_int, rs_bl, rs_tup, rs_lst, rs_scr, rs_non, ev_var, ev_cst, ev_op, ev_neg, ev_cmp, ev_chain, ev_and, ev_or, ev_not, ev_ife, ev_tup, ev_lst, ev_idx, ev_sl2, ev_sl3, ev_pcall, ev_mcall, ev_blt, ev_blt2, ev_isi, ev_lcF, ev_lqF, MQ.evs_nil, evs_cons, spl_lst, spl_tup, evs_star, evO_non, evO_som, evQ_of, evQ_rng1, evQ_rng2, evQ_rng3, evQ_zip2, evQ_zip3, evQ_enum, bnd_some, ex_asg, ex_asgs, ex_exp, ex_ret, ex_ite, ex_fr, exs_nil, exs_cons, seq_tup, seq_lst, seq_scr, map_some_, bt_nm, bt_tp, btp_nil, btp_cons, bind_ok, ofO_some, cmp_eq, cmp_ne, cmp_lt, cmp_le, cmp_gt, cmp_ge, op_add, op_sub, startE, List.map_cons, List.map_nil, List.length_cons, List.length_nil, List.replicate_succ, List.replicate_zero, Nat.reduceAdd, Nat.reduceSub, Nat.zero_add, List.cons_append, List.nil_append, List.getElem?_cons_zero, List.getElem?_cons_succ, List.set_cons_zero, List.set_cons_succ, cutO_lst, cutO_tup, cutO_scr, stepO_2, ev_lstM, ev_app, ev_ext, ev_rem, ev_frz, apT_some, apL_some, apV_lst, apR_ref, apO_some, memAt_hd, rs_hd, wipe_nil, wipe_cons, lcK_some, lcB_non, lcB_som, addO_some, addO_none, len_lst, len_tup, len_scr, tup_lst, lis_tup, lis_lst, if_true, if_false, Bool.false_eq_true, ek, op_mul c1, op_mul c2, pr, pc, pb, hd, LL, Nat.reduceLeDiff, ite_true]
      simp only [LL] at hLL
      simp only [getE_some, brB_bl, brO_some, asB_bl, asN_bl, asNeg_int, asI_int, nxF_nx, nxF_rt, fin_rt, fin_nx, ite_bind, ite_and, ite_or, rs_int, rs_bl, rs_tup, rs_lst, rs_scr, rs_non, ev_var, ev_cst, ev_op, ev_neg, ev_cmp, ev_chain, ev_and, ev_or, ev_not, ev_ife, ev_tup, ev_lst, ev_idx, ev_sl2, ev_sl3, ev_pcall, ev_mcall, ev_blt, ev_blt2, ev_isi, ev_lcF, ev_lqF, MQ.evs_nil, evs_cons, spl_lst, spl_tup, evs_star, evO_non, evO_som, evQ_of, evQ_rng1, evQ_rng2, evQ_rng3, evQ_zip2, evQ_zip3, evQ_enum, bnd_some, ex_asg, ex_asgs, ex_exp, ex_ret, ex_ite, ex_fr, exs_nil, exs_cons, seq_tup, seq_lst, seq_scr, map_some_, bt_nm, bt_tp, btp_nil, btp_cons, bind_ok, ofO_some, cmp_eq, cmp_ne, cmp_lt, cmp_le, cmp_gt, cmp_ge, op_add, op_sub, startE, List.map_cons, List.map_nil, List.length_cons, List.length_nil, List.replicate_succ, List.replicate_zero, Nat.reduceAdd, Nat.reduceSub, Nat.zero_add, List.cons_append, List.nil_append, List.getElem?_cons_zero, List.getElem?_cons_succ, List.set_cons_zero, List.set_cons_succ, cutO_lst, cutO_tup, cutO_scr, stepO_2, ev_lstM, ev_app, ev_ext, ev_rem, ev_frz, apT_some, apL_some, apV_lst, apR_ref, apO_some, memAt_hd, rs_hd, wipe_nil, wipe_cons, lcK_some, lcB_non, lcB_som, addO_some, addO_none, len_lst, len_tup, len_scr, tup_lst, lis_tup, lis_lst, if_true, if_false, Bool.false_eq_true, hi, hLL, lpF_nx, ite_true, Nat.reduceLeDiff]
      exact e
    · have hd : decide (mine ps n < LS ps (n + 1)) = false := decide_eq_false hlt
      rw [if_neg hlt] at e
      simp only [getE_some, brB_bl, brO_some, asB_bl, asN_bl, asNeg_int, asI_int, nxF_nx, nxF_rt, fin_rt, fin_nx, ite_bind, ite_and, ite_or, rs_int, rs_bl, rs_tup, rs_lst, rs_scr, rs_non, ev_var, ev_cst, ev_op, ev_neg, ev_cmp, ev_chain, ev_and, ev_or, ev_not, ev_ife, ev_tup, ev_lst, ev_idx, ev_sl2, ev_sl3, ev_pcall, ev_mcall, ev_blt, ev_blt2, ev_isi, ev_lcF, ev_lqF, MQ.evs_nil, evs_cons, spl_lst, spl_tup, evs_star, evO_non, evO_som, evQ_of, evQ_rng1, evQ_rng2, evQ_rng3, evQ_zip2, evQ_zip3, evQ_enum, bnd_some, ex_asg, ex_asgs, ex_exp, ex_ret, ex_ite, ex_fr, exs_nil, exs_cons, seq_tup, seq_lst, seq_scr, map_some_, bt_nm, bt_tp, btp_nil, btp_cons, bind_ok, ofO_some, cmp_eq, cmp_ne, cmp_lt, cmp_le, cmp_gt, cmp_ge, op_add, op_sub, startE, List.map_cons, List.map_nil, List.length_cons, List.length_nil, List.replicate_succ, List.replicate_zero, Nat.reduceAdd, Nat.reduceSub, Nat.zero_add, List.cons_append, List.nil_append, List.getElem?_cons_zero, List.getElem?_cons_succ, List.set_cons_zero, List.set_cons_succ, cutO_lst, cutO_tup, cutO_scr, stepO_2, ev_lstM, ev_app, ev_ext, ev_rem, ev_frz, apT_some, apL_some, apV_lst, apR_ref, apO_some, memAt_hd, rs_hd, wipe_nil, wipe_cons, lcK_some, lcB_non, lcB_som, addO_some, addO_none, len_lst, len_tup, len_scr, tup_lst, lis_tup, lis_lst, if_true, if_false, Bool.false_eq_true, frB_some, hi]
      rw [efq]
      simp only [getE_some, brB_bl, brO_some, asB_bl, asN_bl, asNeg_int, asI_int, nxF_nx, nxF_rt, fin_rt, fin_nx, ite_bind, ite_and, ite_or, rs_int, rs_bl, rs_tup, rs_lst, rs_scr, rs_non, ev_var, ev_cst, ev_op, ev_neg, ev_cmp, ev_chain, ev_and, ev_or, ev_not, ev_ife, ev_tup, ev_lst, ev_idx, ev_sl2, ev_sl3, ev_pcall, ev_mcall, ev_blt, ev_blt2, ev_isi, ev_lcF, ev_lqF, MQ.evs_nil, evs_cons, spl_lst, spl_tup, evs_star, evO_non, evO_som, evQ_of, evQ_rng1, evQ_rng2, evQ_rng3, evQ_zip2, evQ_zip3, evQ_enum, bnd_some, ex_asg, ex_asgs, ex_exp, ex_ret, ex_ite, ex_fr, exs_nil, exs_cons, seq_tup, seq_lst, seq_scr, map_some_, bt_nm, bt_tp, btp_nil, btp_cons, bind_ok, ofO_some, cmp_eq, cmp_ne, cmp_lt, cmp_le, cmp_gt, cmp_ge, op_add, op_sub, startE, List.map_cons, List.map_nil, List.length_cons, List.length_nil, List.replicate_succ, List.replicate_zero, Nat.reduceAdd, Nat.reduceSub, Nat.zero_add, List.cons_append, List.nil_append, List.getElem?_cons_zero, List.getElem?_cons_succ, List.set_cons_zero, List.set_cons_succ, cutO_lst, cutO_tup, cutO_scr, stepO_2, ev_lstM, ev_app, ev_ext, ev_rem, ev_frz, apT_some, apL_some, apV_lst, apR_ref, apO_some, memAt_hd, rs_hd, wipe_nil, wipe_cons, lcK_some, lcB_non, lcB_som, addO_some, addO_none, len_lst, len_tup, len_scr, tup_lst, lis_tup, lis_lst, if_true, if_false, Bool.false_eq_true, ek, op_mul c1, op_mul c2, pr, pc, pb, hd, LL, Nat.reduceLeDiff, ite_true]
      simp only [LL] at hLL
      simp only [getE_some, brB_bl, brO_some, asB_bl, asN_bl, asNeg_int, asI_int, nxF_nx, nxF_rt, fin_rt, fin_nx, ite_bind, ite_and, ite_or, rs_int, rs_bl, rs_tup, rs_lst, rs_scr, rs_non, ev_var, ev_cst, ev_op, ev_neg, ev_cmp, ev_chain, ev_and, ev_or, ev_not, ev_ife, ev_tup, ev_lst, ev_idx, ev_sl2, ev_sl3, ev_pcall, ev_mcall, ev_blt, ev_blt2, ev_isi, ev_lcF, ev_lqF, MQ.evs_nil, evs_cons, spl_lst, spl_tup, evs_star, evO_non, evO_som, evQ_of, evQ_rng1, evQ_rng2, evQ_rng3, evQ_zip2, evQ_zip3, evQ_enum, bnd_some, ex_asg, ex_asgs, ex_exp, ex_ret, ex_ite, ex_fr, exs_nil, exs_cons, seq_tup, seq_lst, seq_scr, map_some_, bt_nm, bt_tp, btp_nil, btp_cons, bind_ok, ofO_some, cmp_eq, cmp_ne, cmp_lt, cmp_le, cmp_gt, cmp_ge, op_add, op_sub, startE, List.map_cons, List.map_nil, List.length_cons, List.length_nil, List.replicate_succ, List.replicate_zero, Nat.reduceAdd, Nat.reduceSub, Nat.zero_add, List.cons_append, List.nil_append, List.getElem?_cons_zero, List.getElem?_cons_succ, List.set_cons_zero, List.set_cons_succ, cutO_lst, cutO_tup, cutO_scr, stepO_2, ev_lstM, ev_app, ev_ext, ev_rem, ev_frz, apT_some, apL_some, apV_lst, apR_ref, apO_some, memAt_hd, rs_hd, wipe_nil, wipe_cons, lcK_some, lcB_non, lcB_som, addO_some, addO_none, len_lst, len_tup, len_scr, tup_lst, lis_tup, lis_lst, if_true, if_false, Bool.false_eq_true, hi, hLL, lpF_nx, ite_true, Nat.reduceLeDiff]
      exact e
/-- where the first like it stands among the sorted -/
theorem first_at {ps : List Rat} {p : Rat} (hp : p ∈ ps) : ∃ (a : Nat) (rest : List Nat), ((List.range ps.length).filter fun a => decide ((srt ps).getD a 0 = p)) = a :: rest ∧ (srt ps)[a]? = some p := by
  obtain ⟨i, hi⟩ := List.getElem?_of_mem (srt_mem.mpr hp)
  have hil : i < ps.length := by
    have := (List.getElem?_eq_some_iff.mp hi).1
    rw [srt_len] at this
    exact this
  have hmem : i ∈ (List.range ps.length).filter fun a => decide ((srt ps).getD a 0 = p) := List.mem_filter.mpr ⟨List.mem_range.mpr hil, by
    rw [List.getD_eq_getElem?_getD, hi]
    exact decide_eq_true rfl⟩
  cases hf : (List.range ps.length).filter fun a => decide ((srt ps).getD a 0 = p) with
  | nil => rw [hf] at hmem; cases hmem
  | cons a rest =>
    have ha : a ∈ (List.range ps.length).filter fun a => decide ((srt ps).getD a 0 = p) := by rw [hf]; exact List.mem_cons_self
    obtain ⟨h1, h2⟩ := List.mem_filter.mp ha
    have h1 := List.mem_range.mp h1
    refine ⟨a, rest, rfl, ?_⟩
    have h2 := of_decide_eq_true h2
    rw [List.getD_eq_getElem?_getD, List.getElem?_eq_getElem (by rw [srt_len]; exact h1)] at h2
    rw [List.getElem?_eq_getElem (by rw [srt_len]; exact h1)]
    exact congrArg some h2
/-- each claim's least share -/
def stOf (ps : List Rat) (p : Rat) : Rat := LS ps (((List.range ps.length).filter fun a => decide ((srt ps).getD a 0 = p)).headD 0)
theorem p_step_ps {K s : Nat} {ps : List Rat} {m : Mem} (hs1 : 1 ≤ s) (hs : s ≤ 1000) (h : Shr s ps) (hm1 : 1 ≤ ps.length) (hm : ps.length ≤ 8) : pcallR ⟨runF T.Γ (K+7)⟩ false f_step_ps [.tup (ps.map fq)] m = .ok (.tup ((ps.map (stOf ps)).map fq)) m := by
  have hno : noRefs (ps.map fq) = true := noRefs_map noRef_fq _
  refine pcall_id ?_ (by show (noRefs (ps.map fq) && true) = true; rw [hno]; rfl)
  have p1 := fun m => p_check_family (K := K) (m := m) h hs hm1 hm
  have p3 := fun m => p_in_turn (K := K + 3) (m := m) (v := .tup (ps.map fq)) rfl hno (by omega : s + s < 9000) (by omega) h.sz
  have hr : rng3V (.int ((ps.length : Int) - 1)) (.int (-1)) (.int (-1)) = some ((List.range ps.length).reverse.map fun k => Val.int (k : Nat)) := by
    have ok : (rngOk ((ps.length : Int) - 1) && (rngOk (-1) && decide ((-1 : Int) = -1))) = true := by
      have a1 : rngOk ((ps.length : Int) - 1) = true := by
        unfold rngOk
        rw [Bool.and_eq_true]
        exact ⟨decide_eq_true (by omega), decide_eq_true (by omega)⟩
      rw [a1]
      rfl
    show (if (rngOk ((ps.length : Int) - 1) && (rngOk (-1) && decide ((-1 : Int) = -1))) = true then some ((List.range (((ps.length : Int) - 1) - (-1)).toNat).map fun k => Val.int (((ps.length : Int) - 1) - (k : Nat))) else none) = _
    rw [if_pos ok]
    congr 1
    have e : (((ps.length : Int) - 1) - (-1)).toNat = ps.length := by omega
    rw [e]
    apply List.ext_getElem?
    intro i
    rw [List.getElem?_map, List.getElem?_map]
    by_cases hi : i < ps.length
    · rw [List.getElem?_range hi, List.getElem?_reverse (by rw [List.length_range]; exact hi), List.length_range, List.getElem?_range (by omega)]
      show some (Val.int (((ps.length : Int) - 1) - (i : Int))) = some (Val.int ((ps.length - 1 - i : Nat) : Int))
      congr 2
      omega
    · rw [List.getElem?_eq_none (by rw [List.length_range]; omega), List.getElem?_eq_none (by rw [List.length_reverse, List.length_range]; omega)]
      rfl
  obtain ⟨x', y', z', w', e⟩ := w_stepps (K := K + 2) hs1 hs h hm (some (.tup (ps.map fq))) ps.length none none none none (Nat.le_refl _)
  rw [LS_end, Nat.sub_self] at e
  have e0 : ((List.range' ps.length 0).reverse.map (stepP ps)) = [] := rfl
  rw [e0] at e
  have e1 : c_ONE_wrongshares = fq 1 := rfl
  have hin : ∀ a b c d e2 f g hh i0 j k, ∀ p ∈ ps, ∀ mm, mapR (lcB ⟨runF T.Γ (K+6)⟩ (.var 11) (.tp [10, 11]) (.som (.cmp .eq (.var 10) (.var 9))) [a, b, c, d, e2, f, g, hh, i0, some (fq p), j, k]) (((List.range ps.length).reverse).map (stepP ps)) mm = .ok (((List.range ps.length).reverse.filter fun a => decide ((srt ps).getD a 0 = p)).map fun a => fq (LS ps a)) mm := fun a b c d e2 f g hh i0 j k p hp mm => mapR_if fun n hn => by
    have r0 : ∀ m q, rs m (fq q) = fq q := fun m q => rs_of (noRef_fq q)
    simp only [getE_some, brB_bl, brO_some, asB_bl, asN_bl, asNeg_int, asI_int, nxF_nx, nxF_rt, fin_rt, fin_nx, ite_bind, ite_and, ite_or, rs_int, rs_bl, rs_tup, rs_lst, rs_scr, rs_non, ev_var, ev_cst, ev_op, ev_neg, ev_cmp, ev_chain, ev_and, ev_or, ev_not, ev_ife, ev_tup, ev_lst, ev_idx, ev_sl2, ev_sl3, ev_pcall, ev_mcall, ev_blt, ev_blt2, ev_isi, ev_lcF, ev_lqF, MQ.evs_nil, evs_cons, spl_lst, spl_tup, evs_star, evO_non, evO_som, evQ_of, evQ_rng1, evQ_rng2, evQ_rng3, evQ_zip2, evQ_zip3, evQ_enum, bnd_some, ex_asg, ex_asgs, ex_exp, ex_ret, ex_ite, ex_fr, exs_nil, exs_cons, seq_tup, seq_lst, seq_scr, map_some_, bt_nm, bt_tp, btp_nil, btp_cons, bind_ok, ofO_some, cmp_eq, cmp_ne, cmp_lt, cmp_le, cmp_gt, cmp_ge, op_add, op_sub, startE, List.map_cons, List.map_nil, List.length_cons, List.length_nil, List.replicate_succ, List.replicate_zero, Nat.reduceAdd, Nat.reduceSub, Nat.zero_add, List.cons_append, List.nil_append, List.getElem?_cons_zero, List.getElem?_cons_succ, List.set_cons_zero, List.set_cons_succ, cutO_lst, cutO_tup, cutO_scr, stepO_2, ev_lstM, ev_app, ev_ext, ev_rem, ev_frz, apT_some, apL_some, apV_lst, apR_ref, apO_some, memAt_hd, rs_hd, wipe_nil, wipe_cons, lcK_some, lcB_non, lcB_som, addO_some, addO_none, len_lst, len_tup, len_scr, tup_lst, lis_tup, lis_lst, if_true, if_false, Bool.false_eq_true, stepP, r0, cmp_eqF]
    split <;> rfl
  have hout : ∀ a b c d e2 f g hh i0 mm, mapR (lcB ⟨runF T.Γ (K+6)⟩ (.idx (.lc false (.var 11) (.tp [10, 11]) (.of (.var 3)) (.som (.cmp .eq (.var 10) (.var 9))) [10, 11]) (.neg (.cst (.int 1)))) (.nm 9) .non [a, b, c, some (.lst (((List.range ps.length).reverse).map (stepP ps))), d, e2, f, g, hh, i0, none, none]) (ps.map fq) mm = .ok (ps.map fun p => fq (stOf ps p)) mm := fun a b c d e2 f g hh i0 mm => mapR_of fun p hp => by
    obtain ⟨j, rest, hf, hj⟩ := first_at hp
    have hrev : (List.range ps.length).reverse.filter (fun a => decide ((srt ps).getD a 0 = p)) = rest.reverse ++ [j] := by
      rw [List.filter_reverse, hf, List.reverse_cons]
    have hst : stOf ps p = LS ps j := by unfold stOf; rw [hf]; rfl
    have hlast : idxV (.lst ((rest.reverse ++ [j]).map fun a => fq (LS ps a))) (.int (-1)) = some (fq (stOf ps p)) := by
      rw [List.map_append, hst]
      exact idx_end
    have hh2 := fun mm => hin a b c (some (.lst (((List.range ps.length).reverse).map (stepP ps)))) d e2 f g hh none none p hp mm
    rw [hrev] at hh2
    simp only [getE_some, brB_bl, brO_some, asB_bl, asN_bl, asNeg_int, asI_int, nxF_nx, nxF_rt, fin_rt, fin_nx, ite_bind, ite_and, ite_or, rs_int, rs_bl, rs_tup, rs_lst, rs_scr, rs_non, ev_var, ev_cst, ev_op, ev_neg, ev_cmp, ev_chain, ev_and, ev_or, ev_not, ev_ife, ev_tup, ev_lst, ev_idx, ev_sl2, ev_sl3, ev_pcall, ev_mcall, ev_blt, ev_blt2, ev_isi, ev_lcF, ev_lqF, MQ.evs_nil, evs_cons, spl_lst, spl_tup, evs_star, evO_non, evO_som, evQ_of, evQ_rng1, evQ_rng2, evQ_rng3, evQ_zip2, evQ_zip3, evQ_enum, bnd_some, ex_asg, ex_asgs, ex_exp, ex_ret, ex_ite, ex_fr, exs_nil, exs_cons, seq_tup, seq_lst, seq_scr, map_some_, bt_nm, bt_tp, btp_nil, btp_cons, bind_ok, ofO_some, cmp_eq, cmp_ne, cmp_lt, cmp_le, cmp_gt, cmp_ge, op_add, op_sub, startE, List.map_cons, List.map_nil, List.length_cons, List.length_nil, List.replicate_succ, List.replicate_zero, Nat.reduceAdd, Nat.reduceSub, Nat.zero_add, List.cons_append, List.nil_append, List.getElem?_cons_zero, List.getElem?_cons_succ, List.set_cons_zero, List.set_cons_succ, cutO_lst, cutO_tup, cutO_scr, stepO_2, ev_lstM, ev_app, ev_ext, ev_rem, ev_frz, apT_some, apL_some, apV_lst, apR_ref, apO_some, memAt_hd, rs_hd, wipe_nil, wipe_cons, lcK_some, lcB_non, lcB_som, addO_some, addO_none, len_lst, len_tup, len_scr, tup_lst, lis_tup, lis_lst, if_true, if_false, Bool.false_eq_true, hh2, hlast]
  refine .of (m := [.dead]) ?_ (by show noRefs ((ps.map (stOf ps)).map fq) = true; exact noRefs_map noRef_fq _)
  rw [run_def g_step_ps rfl]
  have e2 : (ps.map fun p => fq (stOf ps p)) = (ps.map (stOf ps)).map fq := by rw [List.map_map]; rfl
  rw [e2] at hout
  generalize hps : ps.map fq = PS at p1 p3 e hout
  have hlen : PS.length = ps.length := by rw [← hps, List.length_map]
  simp only [b_step_ps, getE_some, brB_bl, brO_some, asB_bl, asN_bl, asNeg_int, asI_int, nxF_nx, nxF_rt, fin_rt, fin_nx, ite_bind, ite_and, ite_or, rs_int, rs_bl, rs_tup, rs_lst, rs_scr, rs_non, ev_var, ev_cst, ev_op, ev_neg, ev_cmp, ev_chain, ev_and, ev_or, ev_not, ev_ife, ev_tup, ev_lst, ev_idx, ev_sl2, ev_sl3, ev_pcall, ev_mcall, ev_blt, ev_blt2, ev_isi, ev_lcF, ev_lqF, MQ.evs_nil, evs_cons, spl_lst, spl_tup, evs_star, evO_non, evO_som, evQ_of, evQ_rng1, evQ_rng2, evQ_rng3, evQ_zip2, evQ_zip3, evQ_enum, bnd_some, ex_asg, ex_asgs, ex_exp, ex_ret, ex_ite, ex_fr, exs_nil, exs_cons, seq_tup, seq_lst, seq_scr, map_some_, bt_nm, bt_tp, btp_nil, btp_cons, bind_ok, ofO_some, cmp_eq, cmp_ne, cmp_lt, cmp_le, cmp_gt, cmp_ge, op_add, op_sub, startE, List.map_cons, List.map_nil, List.length_cons, List.length_nil, List.replicate_succ, List.replicate_zero, Nat.reduceAdd, Nat.reduceSub, Nat.zero_add, List.cons_append, List.nil_append, List.getElem?_cons_zero, List.getElem?_cons_succ, List.set_cons_zero, List.set_cons_succ, cutO_lst, cutO_tup, cutO_scr, stepO_2, ev_lstM, ev_app, ev_ext, ev_rem, ev_frz, apT_some, apL_some, apV_lst, apR_ref, apO_some, memAt_hd, rs_hd, wipe_nil, wipe_cons, lcK_some, lcB_non, lcB_som, addO_some, addO_none, len_lst, len_tup, len_scr, tup_lst, lis_tup, lis_lst, if_true, if_false, Bool.false_eq_true, exs_gfz, gzR_ref, gzL_lst, hlen, p1, p3, e1, LL, Nat.zero_le, hr, e, hout, ite_true]

end LW
namespace LW
open PySem PySem.Spec MP MQ
/-! ### the slower share; wrong parts; the law's own -/
instance dSz (s : Nat) (q : Rat) : Decidable (Sz s q) := by unfold Sz; infer_instance
theorem hs_sz : ∀ j, j ≤ 3 → Sz 10 (hs j)
  | 0, _ => by decide +kernel
  | 1, _ => by decide +kernel
  | 2, _ => by decide +kernel
  | 3, _ => by decide +kernel
  | j + 4, h => by omega
theorem hs_div (j : Nat) : Rat.divInt ((hs j).num * ((j + 1 : Nat) : Int) + ((hs j).den : Int)) (((hs j).den : Int) * ((j + 1 : Nat) : Int)) = hs (j + 1) := by
  show _ = hs j + 1 / ((j + 1 : Nat) : Rat)
  have h := num_over (hs j)
  have hd := den_ne (hs j)
  rw [Rat.divInt_eq_div, Rat.intCast_add, Rat.intCast_mul, Rat.intCast_mul]
  have hj : ((((j + 1 : Nat) : Int)) : Rat) ≠ 0 := by
    intro z
    have := Rat.intCast_inj.mp (z.trans Rat.intCast_zero.symm)
    omega
  have e : ((((j + 1 : Nat) : Int)) : Rat) = ((j + 1 : Nat) : Rat) := rfl
  rw [e] at hj ⊢
  generalize (((hs j).num : Int) : Rat) = A at h ⊢
  generalize (((hs j).den : Int) : Rat) = B at h hd ⊢
  generalize ((j + 1 : Nat) : Rat) = C at hj ⊢
  rw [← h]
  grind
theorem w_slow {K : Nat} (v0 v1 : Option Val) (m : Mem) : ∀ (n j : Nat) (o : Option Val), j + n ≤ 3 → ∃ o',
    frGo (.nm 4) (exSs ⟨runF T.Γ (K+2)⟩ (.cons (.asg (.tp [2, 3]) (.pcall false f_ratio_of (.cons (.op .add (.op .mul (.var 2) (.var 4)) (.var 3)) (.cons (.op .mul (.var 3) (.var 4)) .nil))))
    .nil)) ((List.range' j n).map fun k => Val.int ((k + 1 : Nat) : Int)) [v0, v1, some (.int (hs j).num), some (.int (hs j).den), o] m = .ok (.nx [v0, v1, some (.int (hs (j + n)).num), some (.int (hs (j + n)).den), o']) m
  | 0, j, o, h => ⟨o, by rw [List.range'_zero, List.map_nil, fr_nil, Nat.add_zero]⟩
  | n + 1, j, o, h => by
    obtain ⟨o', e⟩ := w_slow (K := K) v0 v1 m n (j + 1) (some (.int ((j + 1 : Nat) : Int))) (by omega)
    refine ⟨o', ?_⟩
    have hz := hs_sz j (by omega)
    have c1 : mulOk (hs j).num ((j + 1 : Nat) : Int) = true := mulOk_of (t := 5) hz.1 (by omega) (by decide)
    have c2 : mulOk ((hs j).den : Int) ((j + 1 : Nat) : Int) = true := mulOk_of (s := 10) (t := 5) (by rw [Int.natAbs_natCast]; exact hz.2) (by omega) (by decide)
    have pr := fun mm => p_ratio_of (K := K) (m := mm) (a := (hs j).num * ((j + 1 : Nat) : Int) + ((hs j).den : Int)) (b := ((hs j).den : Int) * ((j + 1 : Nat) : Int)) (Int.mul_pos (den_pos _) (by omega)) (den_nat hz.2 (show j + 1 < 2 ^ 5 by omega)) (by decide)
    rw [hs_div] at pr
    have efq : fq (hs (j + 1)) = .tup [.int (hs (j + 1)).num, .int (hs (j + 1)).den] := rfl
    rw [List.range'_succ, List.map_cons, fr_cons]
    simp only [getE_some, brB_bl, brO_some, asB_bl, asN_bl, asNeg_int, asI_int, nxF_nx, nxF_rt, fin_rt, fin_nx, ite_bind, ite_and, ite_or, rs_int, rs_bl, rs_tup, rs_lst, rs_scr, rs_non, ev_var, ev_cst, ev_op, ev_neg, ev_cmp, ev_chain, ev_and, ev_or, ev_not, ev_ife, ev_tup, ev_lst, ev_idx, ev_sl2, ev_sl3, ev_pcall, ev_mcall, ev_blt, ev_blt2, ev_isi, ev_lcF, ev_lqF, MQ.evs_nil, evs_cons, spl_lst, spl_tup, evs_star, evO_non, evO_som, evQ_of, evQ_rng1, evQ_rng2, evQ_rng3, evQ_zip2, evQ_zip3, evQ_enum, bnd_some, ex_asg, ex_asgs, ex_exp, ex_ret, ex_ite, ex_fr, exs_nil, exs_cons, seq_tup, seq_lst, seq_scr, map_some_, bt_nm, bt_tp, btp_nil, btp_cons, bind_ok, ofO_some, cmp_eq, cmp_ne, cmp_lt, cmp_le, cmp_gt, cmp_ge, op_add, op_sub, startE, List.map_cons, List.map_nil, List.length_cons, List.length_nil, List.replicate_succ, List.replicate_zero, Nat.reduceAdd, Nat.reduceSub, Nat.zero_add, List.cons_append, List.nil_append, List.getElem?_cons_zero, List.getElem?_cons_succ, List.set_cons_zero, List.set_cons_succ, cutO_lst, cutO_tup, cutO_scr, stepO_2, ev_lstM, ev_app, ev_ext, ev_rem, ev_frz, apT_some, apL_some, apV_lst, apR_ref, apO_some, memAt_hd, rs_hd, wipe_nil, wipe_cons, lcK_some, lcB_non, lcB_som, addO_some, addO_none, len_lst, len_tup, len_scr, tup_lst, lis_tup, lis_lst, if_true, if_false, Bool.false_eq_true, frB_some, op_mul c1, op_mul c2, pr]
    rw [efq]
    simp only [getE_some, brB_bl, brO_some, asB_bl, asN_bl, asNeg_int, asI_int, nxF_nx, nxF_rt, fin_rt, fin_nx, ite_bind, ite_and, ite_or, rs_int, rs_bl, rs_tup, rs_lst, rs_scr, rs_non, ev_var, ev_cst, ev_op, ev_neg, ev_cmp, ev_chain, ev_and, ev_or, ev_not, ev_ife, ev_tup, ev_lst, ev_idx, ev_sl2, ev_sl3, ev_pcall, ev_mcall, ev_blt, ev_blt2, ev_isi, ev_lcF, ev_lqF, MQ.evs_nil, evs_cons, spl_lst, spl_tup, evs_star, evO_non, evO_som, evQ_of, evQ_rng1, evQ_rng2, evQ_rng3, evQ_zip2, evQ_zip3, evQ_enum, bnd_some, ex_asg, ex_asgs, ex_exp, ex_ret, ex_ite, ex_fr, exs_nil, exs_cons, seq_tup, seq_lst, seq_scr, map_some_, bt_nm, bt_tp, btp_nil, btp_cons, bind_ok, ofO_some, cmp_eq, cmp_ne, cmp_lt, cmp_le, cmp_gt, cmp_ge, op_add, op_sub, startE, List.map_cons, List.map_nil, List.length_cons, List.length_nil, List.replicate_succ, List.replicate_zero, Nat.reduceAdd, Nat.reduceSub, Nat.zero_add, List.cons_append, List.nil_append, List.getElem?_cons_zero, List.getElem?_cons_succ, List.set_cons_zero, List.set_cons_succ, cutO_lst, cutO_tup, cutO_scr, stepO_2, ev_lstM, ev_app, ev_ext, ev_rem, ev_frz, apT_some, apL_some, apV_lst, apR_ref, apO_some, memAt_hd, rs_hd, wipe_nil, wipe_cons, lcK_some, lcB_non, lcB_som, addO_some, addO_none, len_lst, len_tup, len_scr, tup_lst, lis_tup, lis_lst, if_true, if_false, Bool.false_eq_true, lpF_nx]
    rw [show j + (n + 1) = j + 1 + n from by omega]
    exact e
theorem rng2_up {n : Nat} (h : n ≤ 900) : rng2V (.int 1) (.int ((n : Int) + 1)) = some ((List.range' 0 n).map fun k => Val.int ((k + 1 : Nat) : Int)) := by
  rw [rng2_ok (by omega) (by omega) (by omega) (by omega)]
  unfold rngL
  have : (((n : Int) + 1) - 1).toNat = n := by omega
  rw [this, List.range_eq_range']
  congr 1
  refine List.map_congr_left fun k _ => ?_
  congr 1
  omega
theorem over_hs {α : Rat} {n : Nat} (hn : n = 2 ∨ n = 3) : Rat.divInt (α.num * ((hs n).den : Int)) ((α.den : Int) * (hs n).num) = α * (hs n)⁻¹ := by
  rw [mul_div α (hs n)⁻¹]
  rcases hn with z | z
  · subst z
    have e1 : ((hs 2)⁻¹).num = ((hs 2).den : Int) := by decide +kernel
    have e2 : (((hs 2)⁻¹).den : Int) = (hs 2).num := by decide +kernel
    rw [e1, e2]
  · subst z
    have e1 : ((hs 3)⁻¹).num = ((hs 3).den : Int) := by decide +kernel
    have e2 : (((hs 3)⁻¹).den : Int) = (hs 3).num := by decide +kernel
    rw [e1, e2]
theorem hs_numpos {n : Nat} (hn : n = 2 ∨ n = 3) : 0 < (hs n).num := by
  rcases hn with z | z <;> subst z <;> decide +kernel
theorem p_slower {K s n : Nat} {α : Rat} {m : Mem} (hs9 : s ≤ 1000) (hα : Sz s α) (h0 : 0 ≤ α) (h1 : α ≤ 1) (hn : n = 2 ∨ n = 3) : pcallR ⟨runF T.Γ (K+6)⟩ false f_slower [fq α, .int (n : Nat)] m = .ok (fq (α * (hs n)⁻¹)) m := by
  refine pcall_id (.of (m := []) ?_ rfl) rfl
  rw [run_def g_slower rfl]
  have p2 := fun m => p_check_share (K := K) (m := m) hα (show s ≤ 9900 by omega) h0 h1
  have c : (decide ((1 : Int) ≤ (n : Int)) && decide ((n : Int) ≤ 8)) = true := by
    rw [Bool.and_eq_true]
    exact ⟨decide_eq_true (by omega), decide_eq_true (by omega)⟩
  obtain ⟨o', e⟩ := w_slow (K := K + 3) (some (fq α)) (some (.int (n : Nat))) [] n 0 none (by omega)
  rw [Nat.zero_add] at e
  have e00 : (hs 0).num = 0 := by decide +kernel
  have e01 : (((hs 0).den : Nat) : Int) = 1 := by decide +kernel
  rw [e00, e01] at e
  have hz := hs_sz n (by omega)
  have hnp := hs_numpos hn
  have i0 : idxV (fq α) (.int 0) = some (.int α.num) := idx_tup (i := 0) rfl
  have i1 : idxV (fq α) (.int 1) = some (.int α.den) := idx_tup (i := 1) rfl
  have r0 : ∀ m, rs m (fq α) = fq α := fun m => rs_of (noRef_fq α)
  have c1 : mulOk α.num ((hs n).den : Int) = true := mulOk_of (t := 10) hα.1 (by rw [Int.natAbs_natCast]; exact hz.2) (by omega)
  have c2 : mulOk (α.den : Int) (hs n).num = true := mulOk_of (s := s) (t := 10) (by rw [Int.natAbs_natCast]; exact hα.2) hz.1 (by omega)
  have pr := fun mm => p_ratio_of (K := K + 3) (m := mm) (a := α.num * ((hs n).den : Int)) (b := (α.den : Int) * (hs n).num) (s := s + 10) (Int.mul_pos (den_pos α) hnp) (by rw [Int.natAbs_mul, Int.natAbs_natCast]; exact mul_lt_pow hα.2 hz.1) (by omega)
  rw [over_hs hn] at pr
  simp only [b_slower, getE_some, brB_bl, brO_some, asB_bl, asN_bl, asNeg_int, asI_int, nxF_nx, nxF_rt, fin_rt, fin_nx, ite_bind, ite_and, ite_or, rs_int, rs_bl, rs_tup, rs_lst, rs_scr, rs_non, ev_var, ev_cst, ev_op, ev_neg, ev_cmp, ev_chain, ev_and, ev_or, ev_not, ev_ife, ev_tup, ev_lst, ev_idx, ev_sl2, ev_sl3, ev_pcall, ev_mcall, ev_blt, ev_blt2, ev_isi, ev_lcF, ev_lqF, MQ.evs_nil, evs_cons, spl_lst, spl_tup, evs_star, evO_non, evO_som, evQ_of, evQ_rng1, evQ_rng2, evQ_rng3, evQ_zip2, evQ_zip3, evQ_enum, bnd_some, ex_asg, ex_asgs, ex_exp, ex_ret, ex_ite, ex_fr, exs_nil, exs_cons, seq_tup, seq_lst, seq_scr, map_some_, bt_nm, bt_tp, btp_nil, btp_cons, bind_ok, ofO_some, cmp_eq, cmp_ne, cmp_lt, cmp_le, cmp_gt, cmp_ge, op_add, op_sub, startE, List.map_cons, List.map_nil, List.length_cons, List.length_nil, List.replicate_succ, List.replicate_zero, Nat.reduceAdd, Nat.reduceSub, Nat.zero_add, List.cons_append, List.nil_append, List.getElem?_cons_zero, List.getElem?_cons_succ, List.set_cons_zero, List.set_cons_succ, cutO_lst, cutO_tup, cutO_scr, stepO_2, ev_lstM, ev_app, ev_ext, ev_rem, ev_frz, apT_some, apL_some, apV_lst, apR_ref, apO_some, memAt_hd, rs_hd, wipe_nil, wipe_cons, lcK_some, lcB_non, lcB_som, addO_some, addO_none, len_lst, len_tup, len_scr, tup_lst, lis_tup, lis_lst, if_true, if_false, Bool.false_eq_true, p2, p_is_integer, c, Bool.not_true, rng2_up (show n ≤ 900 by omega), e, r0, i0, i1, op_mul c1, op_mul c2, pr]
theorem w_ltot {K s : Nat} (hs9 : s ≤ 100) (v0 : Option Val) (m : Mem) : ∀ (qs : List Rat) (acc : Rat) (u : Nat) (o : Option Val), Sz u acc → (∀ q ∈ qs, Sz s q) → u + qs.length * (s + 1) < 4000 → ∃ o',
    frGo (.nm 2) (exSs ⟨runF T.Γ (K+3)⟩ (.cons (.asg (.nm 1) (.pcall false f__law_plus (.cons (.var 1) (.cons (.var 2) .nil))))
    .nil)) (qs.map fq) [v0, some (fq acc), o] m = .ok (.nx [v0, some (fq (acc + qs.sum)), o']) m
  | [], acc, u, o, _, _, _ => ⟨o, by rw [List.map_nil, fr_nil, List.sum_nil, Rat.add_zero]⟩
  | q :: qs, acc, u, o, ha, hq, hu => by
    have hm : (q :: qs).length * (s + 1) = qs.length * (s + 1) + (s + 1) := by rw [List.length_cons, Nat.succ_mul]
    rw [hm] at hu
    have hq0 := hq q List.mem_cons_self
    obtain ⟨o', e⟩ := w_ltot (K := K) hs9 v0 m qs (acc + q) (u + s + 1) (some (fq q)) (ha.add hq0) (fun x hx => hq x (List.mem_cons_of_mem _ hx)) (by omega)
    refine ⟨o', ?_⟩
    have pp := fun m => p__law_plus (K := K) (m := m) ha hq0 (by omega)
    rw [List.map_cons, fr_cons]
    simp only [getE_some, brB_bl, brO_some, asB_bl, asN_bl, asNeg_int, asI_int, nxF_nx, nxF_rt, fin_rt, fin_nx, ite_bind, ite_and, ite_or, rs_int, rs_bl, rs_tup, rs_lst, rs_scr, rs_non, ev_var, ev_cst, ev_op, ev_neg, ev_cmp, ev_chain, ev_and, ev_or, ev_not, ev_ife, ev_tup, ev_lst, ev_idx, ev_sl2, ev_sl3, ev_pcall, ev_mcall, ev_blt, ev_blt2, ev_isi, ev_lcF, ev_lqF, MQ.evs_nil, evs_cons, spl_lst, spl_tup, evs_star, evO_non, evO_som, evQ_of, evQ_rng1, evQ_rng2, evQ_rng3, evQ_zip2, evQ_zip3, evQ_enum, bnd_some, ex_asg, ex_asgs, ex_exp, ex_ret, ex_ite, ex_fr, exs_nil, exs_cons, seq_tup, seq_lst, seq_scr, map_some_, bt_nm, bt_tp, btp_nil, btp_cons, bind_ok, ofO_some, cmp_eq, cmp_ne, cmp_lt, cmp_le, cmp_gt, cmp_ge, op_add, op_sub, startE, List.map_cons, List.map_nil, List.length_cons, List.length_nil, List.replicate_succ, List.replicate_zero, Nat.reduceAdd, Nat.reduceSub, Nat.zero_add, List.cons_append, List.nil_append, List.getElem?_cons_zero, List.getElem?_cons_succ, List.set_cons_zero, List.set_cons_succ, cutO_lst, cutO_tup, cutO_scr, stepO_2, ev_lstM, ev_app, ev_ext, ev_rem, ev_frz, apT_some, apL_some, apV_lst, apR_ref, apO_some, memAt_hd, rs_hd, wipe_nil, wipe_cons, lcK_some, lcB_non, lcB_som, addO_some, addO_none, len_lst, len_tup, len_scr, tup_lst, lis_tup, lis_lst, if_true, if_false, Bool.false_eq_true, frB_some, pp, lpF_nx]
    rw [List.sum_cons, ← Rat.add_assoc]
    exact e
theorem p__law_total {K s : Nat} {qs : List Rat} {m : Mem} (hs9 : s ≤ 100) (hq : ∀ q ∈ qs, Sz s q) (hl : qs.length ≤ 30) : pcallR ⟨runF T.Γ (K+4)⟩ false f__law_total [.lst (qs.map fq)] m = .ok (fq qs.sum) m := by
  refine pcall_id (.of (m := []) ?_ rfl) (by show (noRefs (qs.map fq) && true) = true; rw [noRefs_map noRef_fq]; rfl)
  rw [run_def g__law_total rfl]
  have hm : qs.length * (s + 1) ≤ 30 * 101 := Nat.mul_le_mul hl (by omega)
  obtain ⟨o', e⟩ := w_ltot (K := K) hs9 (some (.lst (qs.map fq))) [] qs 0 1 none (Sz.zero (Nat.le_refl 1)) hq (by omega)
  rw [Rat.zero_add] at e
  have e0 : (Val.tup [.int 0, .int 1]) = fq 0 := rfl
  simp only [b__law_total, getE_some, brB_bl, brO_some, asB_bl, asN_bl, asNeg_int, asI_int, nxF_nx, nxF_rt, fin_rt, fin_nx, ite_bind, ite_and, ite_or, rs_int, rs_bl, rs_tup, rs_lst, rs_scr, rs_non, ev_var, ev_cst, ev_op, ev_neg, ev_cmp, ev_chain, ev_and, ev_or, ev_not, ev_ife, ev_tup, ev_lst, ev_idx, ev_sl2, ev_sl3, ev_pcall, ev_mcall, ev_blt, ev_blt2, ev_isi, ev_lcF, ev_lqF, MQ.evs_nil, evs_cons, spl_lst, spl_tup, evs_star, evO_non, evO_som, evQ_of, evQ_rng1, evQ_rng2, evQ_rng3, evQ_zip2, evQ_zip3, evQ_enum, bnd_some, ex_asg, ex_asgs, ex_exp, ex_ret, ex_ite, ex_fr, exs_nil, exs_cons, seq_tup, seq_lst, seq_scr, map_some_, bt_nm, bt_tp, btp_nil, btp_cons, bind_ok, ofO_some, cmp_eq, cmp_ne, cmp_lt, cmp_le, cmp_gt, cmp_ge, op_add, op_sub, startE, List.map_cons, List.map_nil, List.length_cons, List.length_nil, List.replicate_succ, List.replicate_zero, Nat.reduceAdd, Nat.reduceSub, Nat.zero_add, List.cons_append, List.nil_append, List.getElem?_cons_zero, List.getElem?_cons_succ, List.set_cons_zero, List.set_cons_succ, cutO_lst, cutO_tup, cutO_scr, stepO_2, ev_lstM, ev_app, ev_ext, ev_rem, ev_frz, apT_some, apL_some, apV_lst, apR_ref, apO_some, memAt_hd, rs_hd, wipe_nil, wipe_cons, lcK_some, lcB_non, lcB_som, addO_some, addO_none, len_lst, len_tup, len_scr, tup_lst, lis_tup, lis_lst, if_true, if_false, Bool.false_eq_true, LL, Nat.reduceLeDiff, e0, seq_map, e, ite_true]
theorem p__law_over_steps {K n : Nat} {m : Mem} (hn : n = 2 ∨ n = 3) : pcallR ⟨runF T.Γ (K+5)⟩ false f__law_over_steps [.int (n : Nat)] m = .ok (fq ((hs n)⁻¹)) m := by
  refine pcall_id (.of (m := []) ?_ rfl) rfl
  rw [run_def g__law_over_steps rfl]
  have hmap : mapR (lcB ⟨runF T.Γ (K+4)⟩ (.tup (.cons (.cst (.int 1)) (.cons (.var 2) .nil))) (.nm 2) .non [some (.int (n : Nat)), none, none]) ((List.range' 0 n).map fun k => Val.int ((k + 1 : Nat) : Int)) [] = .ok ((List.range' 0 n).map fun k => Val.tup [.int 1, .int ((k + 1 : Nat) : Int)]) [] := mapR_of fun k hk => by
    simp only [getE_some, brB_bl, brO_some, asB_bl, asN_bl, asNeg_int, asI_int, nxF_nx, nxF_rt, fin_rt, fin_nx, ite_bind, ite_and, ite_or, rs_int, rs_bl, rs_tup, rs_lst, rs_scr, rs_non, ev_var, ev_cst, ev_op, ev_neg, ev_cmp, ev_chain, ev_and, ev_or, ev_not, ev_ife, ev_tup, ev_lst, ev_idx, ev_sl2, ev_sl3, ev_pcall, ev_mcall, ev_blt, ev_blt2, ev_isi, ev_lcF, ev_lqF, MQ.evs_nil, evs_cons, spl_lst, spl_tup, evs_star, evO_non, evO_som, evQ_of, evQ_rng1, evQ_rng2, evQ_rng3, evQ_zip2, evQ_zip3, evQ_enum, bnd_some, ex_asg, ex_asgs, ex_exp, ex_ret, ex_ite, ex_fr, exs_nil, exs_cons, seq_tup, seq_lst, seq_scr, map_some_, bt_nm, bt_tp, btp_nil, btp_cons, bind_ok, ofO_some, cmp_eq, cmp_ne, cmp_lt, cmp_le, cmp_gt, cmp_ge, op_add, op_sub, startE, List.map_cons, List.map_nil, List.length_cons, List.length_nil, List.replicate_succ, List.replicate_zero, Nat.reduceAdd, Nat.reduceSub, Nat.zero_add, List.cons_append, List.nil_append, List.getElem?_cons_zero, List.getElem?_cons_succ, List.set_cons_zero, List.set_cons_succ, cutO_lst, cutO_tup, cutO_scr, stepO_2, ev_lstM, ev_app, ev_ext, ev_rem, ev_frz, apT_some, apL_some, apV_lst, apR_ref, apO_some, memAt_hd, rs_hd, wipe_nil, wipe_cons, lcK_some, lcB_non, lcB_som, addO_some, addO_none, len_lst, len_tup, len_scr, tup_lst, lis_tup, lis_lst, if_true, if_false, Bool.false_eq_true, LL, Nat.reduceLeDiff, ite_true]
  have i0 : idxV (fq (hs n)) (.int 0) = some (.int (hs n).num) := idx_tup (i := 0) rfl
  have i1 : idxV (fq (hs n)) (.int 1) = some (.int (hs n).den) := idx_tup (i := 1) rfl
  have r0 : ∀ m, rs m (fq (hs n)) = fq (hs n) := fun m => rs_of (noRef_fq _)
  have ht : ∀ m, pcallR ⟨runF T.Γ (K+4)⟩ false f__law_total [.lst ((List.range' 0 n).map fun k => Val.tup [.int 1, .int ((k + 1 : Nat) : Int)])] m = .ok (fq (hs n)) m := fun m => by
    rcases hn with z | z
    · subst z
      have e : ((List.range' 0 2).map fun k => Val.tup [.int 1, .int ((k + 1 : Nat) : Int)]) = [(1 : Rat), mkRat 1 2].map fq := rfl
      have h := p__law_total (K := K) (s := 3) (qs := [(1 : Rat), mkRat 1 2]) (m := m) (by decide) (by decide +kernel) (by decide)
      have e2 : [(1 : Rat), mkRat 1 2].sum = hs 2 := by decide +kernel
      rw [e, h, e2]
    · subst z
      have e : ((List.range' 0 3).map fun k => Val.tup [.int 1, .int ((k + 1 : Nat) : Int)]) = [(1 : Rat), mkRat 1 2, mkRat 1 3].map fq := rfl
      have h := p__law_total (K := K) (s := 3) (qs := [(1 : Rat), mkRat 1 2, mkRat 1 3]) (m := m) (by decide) (by decide +kernel) (by decide)
      have e2 : [(1 : Rat), mkRat 1 2, mkRat 1 3].sum = hs 3 := by decide +kernel
      rw [e, h, e2]
  have ev : Val.tup [.int ((hs n).den : Int), .int (hs n).num] = fq ((hs n)⁻¹) := by
    unfold fq
    rcases hn with z | z
    · subst z
      have e1 : ((hs 2)⁻¹).num = ((hs 2).den : Int) := by decide +kernel
      have e2 : (((hs 2)⁻¹).den : Int) = (hs 2).num := by decide +kernel
      rw [e1, e2]
    · subst z
      have e1 : ((hs 3)⁻¹).num = ((hs 3).den : Int) := by decide +kernel
      have e2 : (((hs 3)⁻¹).den : Int) = (hs 3).num := by decide +kernel
      rw [e1, e2]
  simp only [b__law_over_steps, getE_some, brB_bl, brO_some, asB_bl, asN_bl, asNeg_int, asI_int, nxF_nx, nxF_rt, fin_rt, fin_nx, ite_bind, ite_and, ite_or, rs_int, rs_bl, rs_tup, rs_lst, rs_scr, rs_non, ev_var, ev_cst, ev_op, ev_neg, ev_cmp, ev_chain, ev_and, ev_or, ev_not, ev_ife, ev_tup, ev_lst, ev_idx, ev_sl2, ev_sl3, ev_pcall, ev_mcall, ev_blt, ev_blt2, ev_isi, ev_lcF, ev_lqF, MQ.evs_nil, evs_cons, spl_lst, spl_tup, evs_star, evO_non, evO_som, evQ_of, evQ_rng1, evQ_rng2, evQ_rng3, evQ_zip2, evQ_zip3, evQ_enum, bnd_some, ex_asg, ex_asgs, ex_exp, ex_ret, ex_ite, ex_fr, exs_nil, exs_cons, seq_tup, seq_lst, seq_scr, map_some_, bt_nm, bt_tp, btp_nil, btp_cons, bind_ok, ofO_some, cmp_eq, cmp_ne, cmp_lt, cmp_le, cmp_gt, cmp_ge, op_add, op_sub, startE, List.map_cons, List.map_nil, List.length_cons, List.length_nil, List.replicate_succ, List.replicate_zero, Nat.reduceAdd, Nat.reduceSub, Nat.zero_add, List.cons_append, List.nil_append, List.getElem?_cons_zero, List.getElem?_cons_succ, List.set_cons_zero, List.set_cons_succ, cutO_lst, cutO_tup, cutO_scr, stepO_2, ev_lstM, ev_app, ev_ext, ev_rem, ev_frz, apT_some, apL_some, apV_lst, apR_ref, apO_some, memAt_hd, rs_hd, wipe_nil, wipe_cons, lcK_some, lcB_non, lcB_som, addO_some, addO_none, len_lst, len_tup, len_scr, tup_lst, lis_tup, lis_lst, if_true, if_false, Bool.false_eq_true, rng2_up (show n ≤ 900 by omega), hmap, ht, r0, i0, i1, LL, Nat.reduceLeDiff, ev, ite_true]
def boQ (α : Rat) (m b : Nat) : Rat := if b = 0 then -1 else lv α m b
theorem bo_sz {s m b : Nat} {α : Rat} (hα : Sz s α) (hm : 1 ≤ m) (hm8 : m ≤ 16) (hb : b ≤ 16) (hs1 : 1 ≤ s) : Sz (s + 5) (boQ α m b) := by
  unfold boQ
  split
  · exact Sz.mono (s := 1) (by decide +kernel) (by omega)
  · exact lv_sz hα hm hm8 hb
theorem w_ownup {K s : Nat} {α : Rat} {ps : List Rat} (hs1 : 1 ≤ s) (hs : s ≤ 1000) (hα : Sz s α) (hm1 : 1 ≤ ps.length) (hm : ps.length ≤ 8) (v2 : Option Val) (mm : Mem) : ∀ (l : List Rat) (k b : Nat) (x y z : Option Val), k + l.length ≤ 8 → (∀ q ∈ l, Sz s q) → ∃ x' y' z',
    frGo (.tp [4, 5]) (exSs ⟨runF T.Γ (K+2)⟩ (.cons (.asg (.nm 6) (.pcall false f__law_ratio (.cons (.op .mul (.idx (.var 1) (.cst (.int 0))) (.op .add (.var 4) (.cst (.int 1)))) (.cons (.op .mul (.idx (.var 1) (.cst (.int 1))) (.blt .len (.var 0))) .nil))))
    (.cons (.asg (.nm 3) (.ife (.pcall false f__law_no_more (.cons (.var 5) (.cons (.var 6) .nil))) (.var 6) (.var 3)))
    .nil))) (enumV k (l.map fq)) [some (.tup (ps.map fq)), some (fq α), v2, some (fq (boQ α ps.length b)), x, y, z] mm = .ok (.nx [some (.tup (ps.map fq)), some (fq α), v2, some (fq (boQ α ps.length (rnGo α ps.length l k b))), x', y', z']) mm
  | [], k, b, x, y, z, _, _ => ⟨x, y, z, by rw [List.map_nil, enumV, fr_nil, rnGo]⟩
  | p :: l, k, b, x, y, z, hk, hq => by
    simp only [List.length_cons] at hk
    have hp := hq p List.mem_cons_self
    have ek : ((k : Int) + 1) = ((k + 1 : Nat) : Int) := by omega
    obtain ⟨x', y', z', e⟩ := w_ownup (K := K) hs1 hs hα hm1 hm v2 mm l (k + 1) (if lv α ps.length (k + 1) < p then b else k + 1) (some (.int (k : Nat))) (some (fq p)) (some (fq (lv α ps.length (k + 1)))) (by omega) (fun q hq' => hq q (List.mem_cons_of_mem _ hq'))
    refine ⟨x', y', z', ?_⟩
    have c1 : mulOk α.num ((k + 1 : Nat) : Int) = true := mulOk_of (t := 5) hα.1 (by omega) (by omega)
    have c2 : mulOk (α.den : Int) (ps.length : Int) = true := mulOk_of (s := s) (t := 5) (by rw [Int.natAbs_natCast]; exact hα.2) (by omega) (by omega)
    have pr := fun mm => p__law_ratio (K := K) (m := mm) (a := α.num * ((k + 1 : Nat) : Int)) (Int.mul_pos (den_pos α) (show (0 : Int) < (ps.length : Int) by omega)) (den_nat hα.2 (show ps.length < 2 ^ 5 by omega)) (by omega)
    rw [lv_div] at pr
    have pn := fun mm => p__law_no_more (K := K) (m := mm) hp (lv_sz (k := k + 1) hα hm1 (by omega) (by omega)) (by omega : s + (s + 5) < 9000)
    have i0 : idxV (fq α) (.int 0) = some (.int α.num) := idx_tup (i := 0) rfl
    have i1 : idxV (fq α) (.int 1) = some (.int α.den) := idx_tup (i := 1) rfl
    have r0 : ∀ m, rs m (fq α) = fq α := fun m => rs_of (noRef_fq α)
    have eb : fq (boQ α ps.length (k + 1)) = fq (lv α ps.length (k + 1)) := by unfold boQ; rw [if_neg (by omega)]
    rw [List.map_cons, enumV, fr_cons, rnGo]
    by_cases h : lv α ps.length (k + 1) < p
    · rw [if_pos h] at e ⊢
      have hd : decide (p ≤ lv α ps.length (k + 1)) = false := decide_eq_false (by grind)
      simp only [getE_some, brB_bl, brO_some, asB_bl, asN_bl, asNeg_int, asI_int, nxF_nx, nxF_rt, fin_rt, fin_nx, ite_bind, ite_and, ite_or, rs_int, rs_bl, rs_tup, rs_lst, rs_scr, rs_non, ev_var, ev_cst, ev_op, ev_neg, ev_cmp, ev_chain, ev_and, ev_or, ev_not, ev_ife, ev_tup, ev_lst, ev_idx, ev_sl2, ev_sl3, ev_pcall, ev_mcall, ev_blt, ev_blt2, ev_isi, ev_lcF, ev_lqF, MQ.evs_nil, evs_cons, spl_lst, spl_tup, evs_star, evO_non, evO_som, evQ_of, evQ_rng1, evQ_rng2, evQ_rng3, evQ_zip2, evQ_zip3, evQ_enum, bnd_some, ex_asg, ex_asgs, ex_exp, ex_ret, ex_ite, ex_fr, exs_nil, exs_cons, seq_tup, seq_lst, seq_scr, map_some_, bt_nm, bt_tp, btp_nil, btp_cons, bind_ok, ofO_some, cmp_eq, cmp_ne, cmp_lt, cmp_le, cmp_gt, cmp_ge, op_add, op_sub, startE, List.map_cons, List.map_nil, List.length_cons, List.length_nil, List.replicate_succ, List.replicate_zero, Nat.reduceAdd, Nat.reduceSub, Nat.zero_add, List.cons_append, List.nil_append, List.getElem?_cons_zero, List.getElem?_cons_succ, List.set_cons_zero, List.set_cons_succ, cutO_lst, cutO_tup, cutO_scr, stepO_2, ev_lstM, ev_app, ev_ext, ev_rem, ev_frz, apT_some, apL_some, apV_lst, apR_ref, apO_some, memAt_hd, rs_hd, wipe_nil, wipe_cons, lcK_some, lcB_non, lcB_som, addO_some, addO_none, len_lst, len_tup, len_scr, tup_lst, lis_tup, lis_lst, if_true, if_false, Bool.false_eq_true, frB_some, r0, i0, i1, ek, List.length_map, op_mul c1, op_mul c2, pr, pn, hd, lpF_nx]
      exact e
    · rw [if_neg h] at e ⊢
      have hd : decide (p ≤ lv α ps.length (k + 1)) = true := decide_eq_true (by grind)
      rw [eb] at e
      simp only [getE_some, brB_bl, brO_some, asB_bl, asN_bl, asNeg_int, asI_int, nxF_nx, nxF_rt, fin_rt, fin_nx, ite_bind, ite_and, ite_or, rs_int, rs_bl, rs_tup, rs_lst, rs_scr, rs_non, ev_var, ev_cst, ev_op, ev_neg, ev_cmp, ev_chain, ev_and, ev_or, ev_not, ev_ife, ev_tup, ev_lst, ev_idx, ev_sl2, ev_sl3, ev_pcall, ev_mcall, ev_blt, ev_blt2, ev_isi, ev_lcF, ev_lqF, MQ.evs_nil, evs_cons, spl_lst, spl_tup, evs_star, evO_non, evO_som, evQ_of, evQ_rng1, evQ_rng2, evQ_rng3, evQ_zip2, evQ_zip3, evQ_enum, bnd_some, ex_asg, ex_asgs, ex_exp, ex_ret, ex_ite, ex_fr, exs_nil, exs_cons, seq_tup, seq_lst, seq_scr, map_some_, bt_nm, bt_tp, btp_nil, btp_cons, bind_ok, ofO_some, cmp_eq, cmp_ne, cmp_lt, cmp_le, cmp_gt, cmp_ge, op_add, op_sub, startE, List.map_cons, List.map_nil, List.length_cons, List.length_nil, List.replicate_succ, List.replicate_zero, Nat.reduceAdd, Nat.reduceSub, Nat.zero_add, List.cons_append, List.nil_append, List.getElem?_cons_zero, List.getElem?_cons_succ, List.set_cons_zero, List.set_cons_succ, cutO_lst, cutO_tup, cutO_scr, stepO_2, ev_lstM, ev_app, ev_ext, ev_rem, ev_frz, apT_some, apL_some, apV_lst, apR_ref, apO_some, memAt_hd, rs_hd, wipe_nil, wipe_cons, lcK_some, lcB_non, lcB_som, addO_some, addO_none, len_lst, len_tup, len_scr, tup_lst, lis_tup, lis_lst, if_true, if_false, Bool.false_eq_true, frB_some, r0, i0, i1, ek, List.length_map, op_mul c1, op_mul c2, pr, pn, hd, lpF_nx, ite_true]
      exact e
theorem own_noes {α : Rat} {ps : List Rat} (h0 : 0 ≤ α) (hnn : ∀ q ∈ ps, 0 ≤ q) : (((ps.zipIdx 0).filter fun p => decide (p.1 ≤ boQ α ps.length (RN α ps))).map fun p => p.2) = noesL α ps := by
  unfold noesL
  congr 1
  refine List.filter_congr fun p hp => ?_
  have hp1 : p.1 ∈ ps := List.mem_of_getElem? (List.mem_zipIdx_iff_getElem?.mp hp)
  have hn := hnn _ hp1
  unfold boQ
  by_cases hR : RN α ps = 0
  · rw [if_pos hR]
    have h1 : decide (p.1 ≤ -1) = false := decide_eq_false (by grind)
    rw [h1]
    have hc := (rn_spec α ps).cnt_eq h0
    rw [hR] at hc ⊢
    symm
    rw [Bool.not_eq_false', decide_eq_true_eq]
    by_cases hle : p.1 ≤ lv α ps.length 0
    · exfalso
      have : 0 < cnt ps (lv α ps.length 0) := by
        unfold cnt
        exact List.countP_pos_iff.mpr ⟨_, hp1, decide_eq_true hle⟩
      omega
    · grind
  · rw [if_neg hR]
    by_cases h : p.1 ≤ lv α ps.length (RN α ps)
    · rw [decide_eq_true h, decide_eq_false (by grind)]; rfl
    · rw [decide_eq_false h, decide_eq_true (by grind)]; rfl
theorem p__law_own_up {K s : Nat} {α : Rat} {ps : List Rat} {m : Mem} (hs1 : 1 ≤ s) (hs : s ≤ 1000) (h : Shr s ps) (hα : Sz s α) (h0 : 0 ≤ α) (hm1 : 1 ≤ ps.length) (hm : ps.length ≤ 8) : pcallR ⟨runF T.Γ (K+4)⟩ false f__law_own_up [.tup (ps.map fq), fq α] m = .ok (natT (noesL α ps)) m := by
  have hno : noRefs (ps.map fq) = true := noRefs_map noRef_fq _
  refine pcall_id (.of (m := []) ?_ (by show noRefs ((noesL α ps).map nI) = true; exact noRefs_map (fun _ => rfl) _)) (by show (noRefs (ps.map fq) && (noRef (fq α) && true)) = true; rw [hno]; rfl)
  rw [run_def g__law_own_up rfl]
  have hr := fun m => p__law_rising (K := K) (m := m) (v := .tup (ps.map fq)) rfl hno (by omega : s + s < 9000) (by omega) h.sz
  obtain ⟨x', y', z', e⟩ := w_ownup (K := K + 1) hs1 hs hα hm1 hm (some (.lst ((srt ps).map fq))) [] (srt ps) 0 0 none none none (by rw [srt_len]; omega) (fun q hq => h.sz q (srt_mem.mp hq))
  have eR : rnGo α ps.length (srt ps) 0 0 = RN α ps := rfl
  rw [eR, enum_fq] at e
  have e1 : Val.tup [.int (-1), .int 1] = fq (boQ α ps.length 0) := by unfold boQ; rw [if_pos rfl]; rfl
  have hbz := bo_sz (b := RN α ps) hα hm1 (by omega) (by have := (rn_spec α ps).le; omega) hs1
  have hmap : ∀ a z b, mapR (lcB ⟨runF T.Γ (K+3)⟩ (.var 4) (.tp [4, 5]) (.som (.pcall false f__law_no_more (.cons (.var 5) (.cons (.var 3) .nil)))) [some (.tup (ps.map fq)), some (fq α), a, some (fq (boQ α ps.length (RN α ps))), none, none, z]) ((ps.zipIdx 0).map fun p => Val.tup [.int (p.2 : Nat), fq p.1]) b = .ok (((ps.zipIdx 0).filter fun p => decide (p.1 ≤ boQ α ps.length (RN α ps))).map fun p => nI p.2) b   := fun a z b => mapR_if fun p hp => by
    have hp1 : p.1 ∈ ps := List.mem_of_getElem? (List.mem_zipIdx_iff_getElem?.mp hp)
    have pb := fun m => p__law_no_more (K := K + 1) (m := m) (h.sz _ hp1) hbz (by omega : s + (s + 5) < 9000)
    simp only [getE_some, brB_bl, brO_some, asB_bl, asN_bl, asNeg_int, asI_int, nxF_nx, nxF_rt, fin_rt, fin_nx, ite_bind, ite_and, ite_or, rs_int, rs_bl, rs_tup, rs_lst, rs_scr, rs_non, ev_var, ev_cst, ev_op, ev_neg, ev_cmp, ev_chain, ev_and, ev_or, ev_not, ev_ife, ev_tup, ev_lst, ev_idx, ev_sl2, ev_sl3, ev_pcall, ev_mcall, ev_blt, ev_blt2, ev_isi, ev_lcF, ev_lqF, MQ.evs_nil, evs_cons, spl_lst, spl_tup, evs_star, evO_non, evO_som, evQ_of, evQ_rng1, evQ_rng2, evQ_rng3, evQ_zip2, evQ_zip3, evQ_enum, bnd_some, ex_asg, ex_asgs, ex_exp, ex_ret, ex_ite, ex_fr, exs_nil, exs_cons, seq_tup, seq_lst, seq_scr, map_some_, bt_nm, bt_tp, btp_nil, btp_cons, bind_ok, ofO_some, cmp_eq, cmp_ne, cmp_lt, cmp_le, cmp_gt, cmp_ge, op_add, op_sub, startE, List.map_cons, List.map_nil, List.length_cons, List.length_nil, List.replicate_succ, List.replicate_zero, Nat.reduceAdd, Nat.reduceSub, Nat.zero_add, List.cons_append, List.nil_append, List.getElem?_cons_zero, List.getElem?_cons_succ, List.set_cons_zero, List.set_cons_succ, cutO_lst, cutO_tup, cutO_scr, stepO_2, ev_lstM, ev_app, ev_ext, ev_rem, ev_frz, apT_some, apL_some, apV_lst, apR_ref, apO_some, memAt_hd, rs_hd, wipe_nil, wipe_cons, lcK_some, lcB_non, lcB_som, addO_some, addO_none, len_lst, len_tup, len_scr, tup_lst, lis_tup, lis_lst, if_true, if_false, Bool.false_eq_true, pb]
    split <;> rfl
  have hm2 : (((ps.zipIdx 0).filter fun p => decide (p.1 ≤ boQ α ps.length (RN α ps))).map fun p => nI p.2) = (noesL α ps).map nI := by
    rw [← own_noes h0 h.nn, List.map_map]
    rfl
  rw [hm2] at hmap
  simp only [b__law_own_up, getE_some, brB_bl, brO_some, asB_bl, asN_bl, asNeg_int, asI_int, nxF_nx, nxF_rt, fin_rt, fin_nx, ite_bind, ite_and, ite_or, rs_int, rs_bl, rs_tup, rs_lst, rs_scr, rs_non, ev_var, ev_cst, ev_op, ev_neg, ev_cmp, ev_chain, ev_and, ev_or, ev_not, ev_ife, ev_tup, ev_lst, ev_idx, ev_sl2, ev_sl3, ev_pcall, ev_mcall, ev_blt, ev_blt2, ev_isi, ev_lcF, ev_lqF, MQ.evs_nil, evs_cons, spl_lst, spl_tup, evs_star, evO_non, evO_som, evQ_of, evQ_rng1, evQ_rng2, evQ_rng3, evQ_zip2, evQ_zip3, evQ_enum, bnd_some, ex_asg, ex_asgs, ex_exp, ex_ret, ex_ite, ex_fr, exs_nil, exs_cons, seq_tup, seq_lst, seq_scr, map_some_, bt_nm, bt_tp, btp_nil, btp_cons, bind_ok, ofO_some, cmp_eq, cmp_ne, cmp_lt, cmp_le, cmp_gt, cmp_ge, op_add, op_sub, startE, List.map_cons, List.map_nil, List.length_cons, List.length_nil, List.replicate_succ, List.replicate_zero, Nat.reduceAdd, Nat.reduceSub, Nat.zero_add, List.cons_append, List.nil_append, List.getElem?_cons_zero, List.getElem?_cons_succ, List.set_cons_zero, List.set_cons_succ, cutO_lst, cutO_tup, cutO_scr, stepO_2, ev_lstM, ev_app, ev_ext, ev_rem, ev_frz, apT_some, apL_some, apV_lst, apR_ref, apO_some, memAt_hd, rs_hd, wipe_nil, wipe_cons, lcK_some, lcB_non, lcB_som, addO_some, addO_none, len_lst, len_tup, len_scr, tup_lst, lis_tup, lis_lst, if_true, if_false, Bool.false_eq_true, hr, e1, LL, Nat.reduceLeDiff, e, enum_fq, hmap, ite_true]
  rfl
def wrN (so : Nat) (l : List Nat) : Nat := (l.filter fun i => decide (i < so)).length
def partQ (so : Nat) (l : List Nat) : Rat := if l = [] then 0 else Rat.divInt (wrN so l : Nat) (l.length : Nat)
theorem seq_natT {l : List Nat} : seqOf (natT l) = some (l.map nI) := id rfl
theorem noRef_natT (l : List Nat) : noRef (natT l) = true := by
  show noRefs (l.map nI) = true
  exact noRefs_map (fun _ => rfl) _
theorem p_wrong_part {K s so : Nat} {α : Rat} {ps : List Rat} {m : Mem} (hs1 : 1 ≤ s) (hs : s ≤ 1000) (h : Shr s ps) (hα : Sz s α) (h0 : 0 ≤ α) (h1 : α ≤ 1) (hm1 : 1 ≤ ps.length) (hm : ps.length ≤ 8) (hso : so ≤ ps.length) : pcallR ⟨runF T.Γ (K+8)⟩ false f_wrong_part [.tup (ps.map fq), .int (so : Nat), fq α] m = .ok (fq (partQ so (noesL α ps))) m := by
  have hno : noRefs (ps.map fq) = true := noRefs_map noRef_fq _
  refine pcall_id (.of (m := []) ?_ rfl) (by show (noRefs (ps.map fq) && (true && (noRef (fq α) && true))) = true; rw [hno]; rfl)
  rw [run_def g_wrong_part rfl]
  have p1 := fun m => p_stepped_up (K := K) (m := m) hs1 hs h hα h0 h1 hm1 hm
  have c : (decide ((0 : Int) ≤ (so : Int)) && decide ((so : Int) ≤ (ps.length : Int))) = true := by
    rw [Bool.and_eq_true]
    exact ⟨decide_eq_true (by omega), decide_eq_true (by omega)⟩
  have hcmp : ∀ l, cmpV .ne (natT l) (.tup []) = some (!decide (l = [])) := fun l => cmp_neN l []
  have hLl : (noesL α ps).length ≤ 8 := by rw [noes_len h0]; exact Nat.le_trans (rn_spec α ps).le hm
  generalize noesL α ps = L at p1 hLl ⊢
  have e0 : c_ZERO = fq 0 := rfl
  have hmap : ∀ a b mm, mapR (lcB ⟨runF T.Γ (K+7)⟩ (.var 4) (.nm 4) (.som (.cmp .lt (.var 4) (.var 1))) [a, some (.int (so : Nat)), b, some (natT L), none]) (L.map nI) mm = .ok ((L.filter fun i => decide (i < so)).map nI) mm := fun a b mm => mapR_if fun i hi => by
    have : decide ((i : Int) < (so : Int)) = decide (i < so) := by
      by_cases hlt : i < so
      · rw [decide_eq_true hlt, decide_eq_true (by omega)]
      · rw [decide_eq_false hlt, decide_eq_false (by omega)]
    simp only [getE_some, brB_bl, brO_some, asB_bl, asN_bl, asNeg_int, asI_int, nxF_nx, nxF_rt, fin_rt, fin_nx, ite_bind, ite_and, ite_or, rs_int, rs_bl, rs_tup, rs_lst, rs_scr, rs_non, ev_var, ev_cst, ev_op, ev_neg, ev_cmp, ev_chain, ev_and, ev_or, ev_not, ev_ife, ev_tup, ev_lst, ev_idx, ev_sl2, ev_sl3, ev_pcall, ev_mcall, ev_blt, ev_blt2, ev_isi, ev_lcF, ev_lqF, MQ.evs_nil, evs_cons, spl_lst, spl_tup, evs_star, evO_non, evO_som, evQ_of, evQ_rng1, evQ_rng2, evQ_rng3, evQ_zip2, evQ_zip3, evQ_enum, bnd_some, ex_asg, ex_asgs, ex_exp, ex_ret, ex_ite, ex_fr, exs_nil, exs_cons, seq_tup, seq_lst, seq_scr, map_some_, bt_nm, bt_tp, btp_nil, btp_cons, bind_ok, ofO_some, cmp_eq, cmp_ne, cmp_lt, cmp_le, cmp_gt, cmp_ge, op_add, op_sub, startE, List.map_cons, List.map_nil, List.length_cons, List.length_nil, List.replicate_succ, List.replicate_zero, Nat.reduceAdd, Nat.reduceSub, Nat.zero_add, List.cons_append, List.nil_append, List.getElem?_cons_zero, List.getElem?_cons_succ, List.set_cons_zero, List.set_cons_succ, cutO_lst, cutO_tup, cutO_scr, stepO_2, ev_lstM, ev_app, ev_ext, ev_rem, ev_frz, apT_some, apL_some, apV_lst, apR_ref, apO_some, memAt_hd, rs_hd, wipe_nil, wipe_cons, lcK_some, lcB_non, lcB_som, addO_some, addO_none, len_lst, len_tup, len_scr, tup_lst, lis_tup, lis_lst, if_true, if_false, Bool.false_eq_true, nI, this]
    split <;> rfl
  by_cases hL : L = []
  · have hd : decide (L = []) = true := decide_eq_true hL
    have ep : partQ so L = 0 := by unfold partQ; rw [if_pos hL]
    rw [ep]
    simp only [b_wrong_part, getE_some, brB_bl, brO_some, asB_bl, asN_bl, asNeg_int, asI_int, nxF_nx, nxF_rt, fin_rt, fin_nx, ite_bind, ite_and, ite_or, rs_int, rs_bl, rs_tup, rs_lst, rs_scr, rs_non, ev_var, ev_cst, ev_op, ev_neg, ev_cmp, ev_chain, ev_and, ev_or, ev_not, ev_ife, ev_tup, ev_lst, ev_idx, ev_sl2, ev_sl3, ev_pcall, ev_mcall, ev_blt, ev_blt2, ev_isi, ev_lcF, ev_lqF, MQ.evs_nil, evs_cons, spl_lst, spl_tup, evs_star, evO_non, evO_som, evQ_of, evQ_rng1, evQ_rng2, evQ_rng3, evQ_zip2, evQ_zip3, evQ_enum, bnd_some, ex_asg, ex_asgs, ex_exp, ex_ret, ex_ite, ex_fr, exs_nil, exs_cons, seq_tup, seq_lst, seq_scr, map_some_, bt_nm, bt_tp, btp_nil, btp_cons, bind_ok, ofO_some, cmp_eq, cmp_ne, cmp_lt, cmp_le, cmp_gt, cmp_ge, op_add, op_sub, startE, List.map_cons, List.map_nil, List.length_cons, List.length_nil, List.replicate_succ, List.replicate_zero, Nat.reduceAdd, Nat.reduceSub, Nat.zero_add, List.cons_append, List.nil_append, List.getElem?_cons_zero, List.getElem?_cons_succ, List.set_cons_zero, List.set_cons_succ, cutO_lst, cutO_tup, cutO_scr, stepO_2, ev_lstM, ev_app, ev_ext, ev_rem, ev_frz, apT_some, apL_some, apV_lst, apR_ref, apO_some, memAt_hd, rs_hd, wipe_nil, wipe_cons, lcK_some, lcB_non, lcB_som, addO_some, addO_none, len_lst, len_tup, len_scr, tup_lst, lis_tup, lis_lst, if_true, if_false, Bool.false_eq_true, List.length_map, p1, p_is_integer, c, Bool.not_true, rs_natT, LL, Nat.zero_le, hcmp, hd, e0, ite_true]
  · have hd : decide (L = []) = false := decide_eq_false hL
    have ep : partQ so L = Rat.divInt (wrN so L : Nat) (L.length : Nat) := by unfold partQ; rw [if_neg hL]
    have hl : 0 < L.length := List.length_pos_iff.mpr hL
    have hw : wrN so L ≤ L.length := List.length_filter_le _ _
    have pr := fun mm => p_ratio_of (K := K + 5) (m := mm) (a := (wrN so L : Nat)) (b := (L.length : Nat)) (s := 5) (by omega) (by omega) (by decide)
    have hlen : bltV .len (.lst ((L.filter fun i => decide (i < so)).map nI)) = some (.int (wrN so L : Nat)) := by
      show some (Val.int (((L.filter fun i => decide (i < so)).map nI).length : Nat)) = _
      rw [List.length_map]
      rfl
    rw [ep]
    simp only [b_wrong_part, getE_some, brB_bl, brO_some, asB_bl, asN_bl, asNeg_int, asI_int, nxF_nx, nxF_rt, fin_rt, fin_nx, ite_bind, ite_and, ite_or, rs_int, rs_bl, rs_tup, rs_lst, rs_scr, rs_non, ev_var, ev_cst, ev_op, ev_neg, ev_cmp, ev_chain, ev_and, ev_or, ev_not, ev_ife, ev_tup, ev_lst, ev_idx, ev_sl2, ev_sl3, ev_pcall, ev_mcall, ev_blt, ev_blt2, ev_isi, ev_lcF, ev_lqF, MQ.evs_nil, evs_cons, spl_lst, spl_tup, evs_star, evO_non, evO_som, evQ_of, evQ_rng1, evQ_rng2, evQ_rng3, evQ_zip2, evQ_zip3, evQ_enum, bnd_some, ex_asg, ex_asgs, ex_exp, ex_ret, ex_ite, ex_fr, exs_nil, exs_cons, seq_tup, seq_lst, seq_scr, map_some_, bt_nm, bt_tp, btp_nil, btp_cons, bind_ok, ofO_some, cmp_eq, cmp_ne, cmp_lt, cmp_le, cmp_gt, cmp_ge, op_add, op_sub, startE, List.map_cons, List.map_nil, List.length_cons, List.length_nil, List.replicate_succ, List.replicate_zero, Nat.reduceAdd, Nat.reduceSub, Nat.zero_add, List.cons_append, List.nil_append, List.getElem?_cons_zero, List.getElem?_cons_succ, List.set_cons_zero, List.set_cons_succ, cutO_lst, cutO_tup, cutO_scr, stepO_2, ev_lstM, ev_app, ev_ext, ev_rem, ev_frz, apT_some, apL_some, apV_lst, apR_ref, apO_some, memAt_hd, rs_hd, wipe_nil, wipe_cons, lcK_some, lcB_non, lcB_som, addO_some, addO_none, len_tup, len_scr, tup_lst, lis_tup, lis_lst, if_true, if_false, Bool.false_eq_true, List.length_map, p1, p_is_integer, c, Bool.not_true, rs_natT, LL, Nat.zero_le, hcmp, hd, seq_natT, hmap, hlen, len_natT, pr, Bool.not_false, ite_true]

end LW
namespace LW
open PySem PySem.Spec MP MQ
def coinAt (one : Bool) (coins : List Nat) (i : Nat) : Nat := if one = true then coins.getD 0 0 else coins.getD i 0
theorem coin_at {one : Bool} {many : Nat} {coins : List Nat} {i : Nat} (hl : coins.length = if one = true then 1 else many) (hi : i < many) : ∃ n, coinAt one coins i = n ∧ n ∈ coins ∧ coins[if one = true then 0 else i]? = some n := by
  have hj : (if one = true then 0 else i) < coins.length := by
    rw [hl]
    cases one <;> simp <;> omega
  refine ⟨coins[if one = true then 0 else i], ?_, List.getElem_mem hj, List.getElem?_eq_getElem hj⟩
  unfold coinAt
  cases one with
  | true =>
    rw [if_pos rfl, List.getD_eq_getElem?_getD]
    have hj : 0 < coins.length := hj
    rw [List.getElem?_eq_getElem hj]
    rfl
  | false =>
    rw [if_neg (by decide), List.getD_eq_getElem?_getD]
    have hj : i < coins.length := hj
    rw [List.getElem?_eq_getElem hj]
    rfl
def ixS (one : Bool) (i : Nat) : Nat := if one = true then 0 else i
def yAt (one : Bool) (ys : List Nat) (i : Nat) : Nat := ys.getD (ixS one i) 0
def pAt (one : Bool) (coins : List Nat) (doubts : List Rat) (ys : List Nat) (i : Nat) : Rat := tl (coinAt one coins i) (doubts.getD i 0) (yAt one ys i)
def pvs (one : Bool) (many : Nat) (coins : List Nat) (doubts : List Rat) (ys : List Nat) : List Rat := (List.range many).map (pAt one coins doubts ys)
theorem coin_ix {one : Bool} {coins : List Nat} {i : Nat} : coinAt one coins i = coins.getD (ixS one i) 0 := by
  unfold coinAt ixS
  cases one <;> rfl
def yesV (one : Bool) (many : Nat) (ys : List Nat) : List Val := (List.range many).map fun i => Val.int (yAt one ys i : Nat)
theorem yes_one {many : Nat} {ys : List Nat} (h : ys.length = 1) : yesV true many ys = List.replicate many (.int (ys.getD 0 0 : Nat)) := by
  unfold yesV yAt ixS
  simp only [if_true]
  rw [List.map_const']
  rw [List.length_range]
theorem yes_many {many : Nat} {ys : List Nat} (h : ys.length = many) : yesV false many ys = ys.map fun i => Val.int (i : Nat) := by
  conv => rhs; rw [as_range ys 0, List.map_map, h]
  rfl
theorem rs_tabV {m : Mem} {n : Nat} {d : Rat} : rs m (tabV n d) = tabV n d := id rfl
theorem pvs_len {one : Bool} {many : Nat} {coins : List Nat} {doubts : List Rat} {ys : List Nat} : (pvs one many coins doubts ys).length = many := by
  unfold pvs
  rw [List.length_map, List.length_range]
theorem get_sh {qs : List Rat} {i : Nat} (h : ∀ q ∈ qs, Sh q) (hi : i < qs.length) : Sh (qs.getD i 0) := by
  rw [List.getD_eq_getElem?_getD, List.getElem?_eq_getElem hi]
  exact h _ (List.getElem_mem hi)
theorem set_self {m : Mem} {l : Nat} {x : MO} (h : m[l]? = some x) : m.set l x = m := by
  obtain ⟨hl, e⟩ := List.getElem?_eq_some_iff.mp h
  rw [← e]
  exact List.set_getElem_self hl
theorem good_list {B : Nat} : ∀ {ws : List Val}, (∀ w ∈ ws, ∃ n : Nat, w = .int (n : Nat) ∧ 1 ≤ n ∧ n ≤ B) → ∃ coins : List Nat, ws = (coins.map fun i => Val.int (i : Nat)) ∧ coins.length = ws.length ∧ ∀ n ∈ coins, 1 ≤ n ∧ n ≤ B
  | [], _ => ⟨[], rfl, rfl, fun n (h : n ∈ ([] : List Nat)) => absurd h List.not_mem_nil⟩
  | w :: ws, h => by
    obtain ⟨n, rfl, h1, h2⟩ := h w List.mem_cons_self
    obtain ⟨coins, e, l, g⟩ := good_list (ws := ws) fun x hx => h x (List.mem_cons_of_mem _ hx)
    refine ⟨n :: coins, by rw [e]; rfl, by rw [List.length_cons, l, List.length_cons], fun x hx => ?_⟩
    rcases List.mem_cons.mp hx with z | z
    · rw [z]; exact ⟨h1, h2⟩
    · exact g x z
theorem good_shares : ∀ {ws : List Val}, (∀ w ∈ ws, ∃ q : Rat, w = fq q ∧ Sh q) → ∃ qs : List Rat, ws = qs.map fq ∧ qs.length = ws.length ∧ ∀ q ∈ qs, Sh q
  | [], _ => ⟨[], rfl, rfl, fun n (h : n ∈ ([] : List Rat)) => absurd h List.not_mem_nil⟩
  | w :: ws, h => by
    obtain ⟨q, rfl, h1⟩ := h w List.mem_cons_self
    obtain ⟨qs, e, l, g⟩ := good_shares (ws := ws) fun x hx => h x (List.mem_cons_of_mem _ hx)
    refine ⟨q :: qs, by rw [e]; rfl, by rw [List.length_cons, l, List.length_cons], fun x hx => ?_⟩
    rcases List.mem_cons.mp hx with z | z
    · rw [z]; exact h1
    · exact g x z
theorem shares_pot {K l i : Nat} {m : Mem} {e : MQ.Env} (he : ∀ v, (e.set i (some v))[0]? = some (some (.ref l))) {x0 : MO} (h : m[l]? = some x0) (vs : List Val) (N : Nat) (a b c : Int) (P : Pot N a b c) (hN : N + vs.length * 2 ≤ 8000) :
    ∃ (qs : List Rat) (a' b' c' : Int), mapR (lcB ⟨runF T.Γ (K+3)⟩ (.mcall f__law_share (.cons (.var 0) .nil)) (.nm i) .non e) vs (m.set l (potV a b c)) = .ok (qs.map fq) (m.set l (potV a' b' c')) ∧ qs.length = vs.length ∧ (∀ q ∈ qs, Sh q) ∧ Pot (N + vs.length * 2) a' b' c' := by
  obtain ⟨ws, a1, b1, c1, e1, l1, g1, P1⟩ := mapR_pot (l := l) (s := 2) (B := 8000) (m := m) (Good := fun w => ∃ q : Rat, w = fq q ∧ Sh q)
    (f := lcB ⟨runF T.Γ (K+3)⟩ (.mcall f__law_share (.cons (.var 0) .nil)) (.nm i) .non e)
    (fun v N a b c P hN => by
      obtain ⟨q, a1, b1, c1, e1, g1, P1⟩ := share_ok (K := K) (m := m.set l (potV a b c)) (set_get h) P (by omega)
      rw [List.set_set] at e1
      refine ⟨fq q, a1, b1, c1, ?_, ⟨q, rfl, g1⟩, P1⟩
      simp only [lcB_non, bt_nm, lcK_some, ev_mcall, MQ.evs_nil, evs_cons, ev_var, he v, getE_some, bind_ok, e1]) vs N a b c P hN
  obtain ⟨qs, hq, hl, hg⟩ := good_shares g1
  exact ⟨qs, a1, b1, c1, by rw [e1, hq], by rw [hl, l1], hg, P1⟩
def ownL (one : Bool) (many : Nat) (hidden : List Rat) : List Rat := if one = true then List.replicate many (hidden.getD 0 0) else hidden
theorem mul_rep {x : Val} {k : Nat} (hk : k ≤ 1000) : opV .mul (.lst [x]) (.int (k : Nat)) = some (.lst (List.replicate k x)) := by
  have h1 : (decide ((0 : Int) ≤ (k : Int)) && decide ((k : Int) ≤ 1000)) = true := by
    rw [Bool.and_eq_true]
    exact ⟨decide_eq_true (by omega), decide_eq_true (by omega)⟩
  show (if ((decide ((0 : Int) ≤ (k : Int)) && decide ((k : Int) ≤ 1000)) && decide ([x].length * (k : Int).toNat ≤ LL)) = true then some (Val.lst (List.replicate (k : Int).toNat [x]).flatten) else none) = _
  rw [h1, Bool.true_and, Int.toNat_natCast, if_pos (decide_eq_true (Nat.le_trans (show [x].length * k ≤ 1000 by simp only [List.length_cons, List.length_nil]; omega) (by decide)))]
  congr 2
  induction k with
  | zero => rfl
  | succ k ih =>
    rw [List.replicate_succ, List.flatten_cons, List.replicate_succ]
    show x :: (List.replicate k [x]).flatten = _
    congr 1
    clear h1 ih hk
    induction k with
    | zero => rfl
    | succ k ih => rw [List.replicate_succ, List.flatten_cons, List.replicate_succ, ih]; rfl
theorem sh_of {p d : Nat} {v : Val} (hv : v = .tup [.int (p : Nat), .int (d : Nat)]) (q : Rat) (h1 : q.num = (p : Nat)) (h2 : q.den = d) (h3 : p ≤ d) (h4 : d ≤ 100) : v = fq q ∧ Sh q := by
  refine ⟨by rw [hv]; unfold fq; rw [h1, h2], ⟨⟨by rw [h1]; omega, by rw [h2]; omega⟩, ?_, ?_⟩⟩
  · rw [← Rat.num_nonneg, h1]; omega
  · rw [Rat.le_iff, h1, h2]
    simp
    omega

/-! ### the wrong part in the middle, outcome by outcome -/
structure Dr3 (one : Bool) (many : Nat) (coins : List Nat) (doubts hidden : List Rat) (so : Nat) : Prop where
  m23 : many = 2 ∨ many = 3
  cl : coins.length = if one = true then 1 else many
  c1 : ∀ n ∈ coins, 1 ≤ n ∧ n ≤ 4
  dl : doubts.length = many
  hl : hidden.length = coins.length
  ds : ∀ q ∈ doubts, Sh q
  hs : ∀ q ∈ hidden, Sh q
  sl : so ≤ many
  ok : ∀ i, i < so → (ownL one many hidden).getD i 0 ≤ doubts.getD i 0
def tabsR (one : Bool) (many : Nat) (coins : List Nat) (doubts : List Rat) : List Val := (List.range many).map fun i => tabV (coinAt one coins i) (doubts.getD i 0)
theorem zip_yes {one : Bool} {many : Nat} {coins ys : List Nat} {doubts : List Rat} : zip2V (tabsR one many coins doubts) (yesV one many ys) = (List.range many).map fun i => Val.tup [tabV (coinAt one coins i) (doubts.getD i 0), .int (yAt one ys i : Nat)] := by
  unfold yesV tabsR
  have h2 := zip2_mapP (fun i : Nat => tabV (coinAt one coins i) (doubts.getD i 0)) (fun i : Nat => Val.int (yAt one ys i : Nat)) (List.range many) (List.range many)
  have h3 := zip_maps (fun i : Nat => i) (fun i : Nat => i) (List.range many)
  simp only [List.map_id'] at h3
  rw [h2, h3, List.map_map]
  rfl
theorem pvs_shr {one : Bool} {many so : Nat} {coins : List Nat} {doubts hidden : List Rat} {ys : List Nat} (D : Dr3 one many coins doubts hidden so) : Shr 321 (pvs one many coins doubts ys) := by
  have key : ∀ q ∈ pvs one many coins doubts ys, Sz 321 q ∧ 0 ≤ q ∧ q ≤ 1 := fun q hq => by
    obtain ⟨i, hi, rfl⟩ := List.mem_map.mp hq
    have hi := List.mem_range.mp hi
    obtain ⟨a, b, c⟩ := get_sh D.ds (i := i) (by rw [D.dl]; exact hi)
    obtain ⟨n, en, hn, _⟩ := coin_at (one := one) D.cl hi
    obtain ⟨n1, n4⟩ := D.c1 n hn
    unfold pAt
    rw [en]
    refine ⟨?_, tl_nn b c (n + 1 + yAt one ys i) _ (by omega), tl_le_one b c _⟩
    refine (tl_sz a b c (n + 1) (yAt one ys i) (by omega)).mono ?_
    have : 7 * n ≤ 28 := by omega
    have h2 : (n + 1) * (n + 1 + (7 * n + 1) + (7 * n + 1) + 1) ≤ 5 * 64 := Nat.mul_le_mul (by omega) (by omega)
    omega
  exact ⟨fun q h => (key q h).1, fun q h => (key q h).2.1, fun q h => (key q h).2.2⟩
abbrev e18 (v : List (Option Val)) : MQ.Env := v ++ List.replicate (18 - v.length) none
abbrev fx (one : Bool) (many : Nat) (coins : List Nat) (doubts hidden : List Rat) (so : Nat) (α : Rat) (found : Rat) : List (Option Val) := [some (.lst (tabsR one many coins doubts)), some (.lst (coins.map fun i => Val.int (i : Nat))), some (.lst (hidden.map fq)), some (.int (so : Nat)), some (fq α), some (.bl one), some (fq found)]
def dueQ (one : Bool) (many : Nat) (coins : List Nat) (doubts : List Rat) (so : Nat) (α : Rat) (ys : List Nat) : Rat := partQ so (noesL α (pvs one many coins doubts ys))
theorem part_sz {so : Nat} {l : List Nat} (hl : l.length ≤ 8) : Sz 5 (partQ so l) := by
  unfold partQ
  by_cases h : l = []
  · rw [if_pos h]; exact Sz.zero (by decide)
  · rw [if_neg h]
    have hw : wrN so l ≤ l.length := List.length_filter_le _ _
    have : 0 < l.length := List.length_pos_iff.mpr h
    exact sz_div (by omega) (by omega) (by omega)
theorem st_noes {α : Rat} {ps : List Rat} (h0 : 0 ≤ α) (h1 : α ≤ 1) (hps : ∀ q ∈ ps, q ≤ 1) : ((((ps.map (stOf ps)).zipIdx 0).filter fun p => decide (p.1 ≤ α)).map fun p => p.2) = noesL α ps := by
  unfold noesL
  rw [List.zipIdx_map, List.filter_map, List.map_map]
  have e : (ps.zipIdx 0).filter ((fun p : Rat × Nat => decide (p.1 ≤ α)) ∘ Prod.map (stOf ps) id) = (ps.zipIdx 0).filter fun p => !decide (lv α ps.length (RN α ps) < p.1) := by
    refine List.filter_congr fun p hp => ?_
    have hp1 : p.1 ∈ ps := List.mem_of_getElem? (List.mem_zipIdx_iff_getElem?.mp hp)
    obtain ⟨j, rest, hf, hj⟩ := first_at hp1
    have hst : stOf ps p.1 = LS ps j := by unfold stOf; rw [hf]; rfl
    have hi := step_iff h0 h1 hps hj
    show decide (stOf ps p.1 ≤ α) = _
    rw [hst]
    by_cases h : LS ps j ≤ α
    · rw [decide_eq_true h, decide_eq_false (by have := hi.mp h; grind)]; rfl
    · rw [decide_eq_false h, decide_eq_true (by
        by_cases z : p.1 ≤ lv α ps.length (RN α ps)
        · exact absurd (hi.mpr z) h
        · grind)]; rfl
  rw [e]
  rfl
theorem st_sz {s : Nat} {ps : List Rat} (h : Shr s ps) (hm : ps.length ≤ 8) : ∀ q ∈ ps.map (stOf ps), Sz (s + 5) q := fun q hq => by
  obtain ⟨p, _, rfl⟩ := List.mem_map.mp hq
  exact LS_sz h hm _
theorem body_ok {K : Nat} {m : Mem} {one : Bool} {many so : Nat} {coins : List Nat} {doubts hidden : List Rat} {α found : Rat} {ys : List Nat} (D : Dr3 one many coins doubts hidden so) (hα : Sz 30 α) (h0 : 0 ≤ α) (h1 : α ≤ 1) (hy : ys.length = coins.length) (hyc : ∀ p ∈ coins.zip ys, p.2 ≤ p.1)
    (hw : Sz 200 found) (hk : Sz 200 (likF 1 coins ys hidden)) (a b c d e g : Option Val) : ∃ b' c' d' e' g' h',
    exSs ⟨runF T.Γ (K+8)⟩ (.cons (.asg (.nm 8) (.ife (.var 5) (.op .mul (.blt .list (.var 7)) (.blt .len (.var 0))) (.blt .list (.var 7))))
    (.cons (.asg (.nm 9) (.blt .tuple (.lc false (.idx (.var 14) (.var 15)) (.tp [14, 15]) (.of (.lq false (.zip2 (.var 0) (.var 8)))) .non [14, 15])))
    (.cons (.asgs [10, 11] (.cons (.pcall false f_stepped_up (.cons (.var 9) (.cons (.var 4) .nil))) (.cons (.pcall false f_step_ps (.cons (.var 9) .nil)) .nil)))
    (.cons (.ite (.cmp .ne (.var 10) (.pcall false f__law_own_up (.cons (.var 9) (.cons (.var 4) .nil))))
      (.cons (.ret (.cst .non))
    .nil)
      .nil)
    (.cons (.ite (.cmp .ne (.var 10) (.blt .tuple (.lc false (.var 16) (.tp [16, 17]) (.enum (.var 11)) (.som (.pcall false f__law_no_more (.cons (.var 17) (.cons (.var 4) .nil)))) [16, 17])))
      (.cons (.ret (.cst .non))
    .nil)
      .nil)
    (.cons (.asg (.nm 12) (.blt .len (.lc false (.var 17) (.nm 17) (.of (.var 10)) (.som (.cmp .lt (.var 17) (.var 3))) [17])))
    (.cons (.asg (.nm 13) (.ife (.cmp .ne (.var 10) (.tup .nil)) (.pcall false f__law_ratio (.cons (.var 12) (.cons (.blt .len (.var 10)) .nil))) (.tup (.cons (.cst (.int 0)) (.cons (.cst (.int 1)) .nil)))))
    (.cons (.ite (.cmp .ne (.pcall false f_wrong_part (.cons (.var 9) (.cons (.var 3) (.cons (.var 4) .nil)))) (.var 13))
      (.cons (.ret (.cst .non))
    .nil)
      .nil)
    (.cons (.asg (.nm 6) (.pcall false f__law_plus (.cons (.var 6) (.cons (.pcall false f__law_times (.cons (.var 13) (.cons (.pcall false f__law_likely (.cons (.var 1) (.cons (.var 7) (.cons (.var 2) .nil)))) .nil))) .nil))))
    .nil))))))))) (e18 (fx one many coins doubts hidden so α found ++ [some (rowT ys), a, b, c, d, e, g])) m =
      .ok (.nx (e18 (fx one many coins doubts hidden so α (found + dueQ one many coins doubts so α ys * likF 1 coins ys hidden) ++ [some (rowT ys), b', c', d', e', g', h']))) m := by
  have hS := pvs_shr (ys := ys) D
  have hlen := pvs_len (one := one) (many := many) (coins := coins) (doubts := doubts) (ys := ys)
  have hm3 := D.m23
  have hα321 := hα.mono (by decide : 30 ≤ 321)
  unfold dueQ
  generalize hps : pvs one many coins doubts ys = ps at hS hlen ⊢
  have s8 : ∀ a b c d e g, exS ⟨runF T.Γ (K+8)⟩ (.asg (.nm 8) (.ife (.var 5) (.op .mul (.blt .list (.var 7)) (.blt .len (.var 0))) (.blt .list (.var 7)))) (e18 (fx one many coins doubts hidden so α found ++ [some (rowT ys), a, b, c, d, e, g])) m =
      .ok (.nx (e18 (fx one many coins doubts hidden so α found ++ [some (rowT ys), some (.lst (yesV one many ys)), b, c, d, e, g]))) m := fun a b c d e g => by
    have hli : bltV .list (rowT ys) = some (.lst (ys.map fun i => Val.int (i : Nat))) := rfl
    have rr : rs m (rowT ys) = rowT ys := rfl
    have hl0 : ((tabsR one many coins doubts).length : Int) = (many : Nat) := by
      unfold tabsR
      rw [List.length_map, List.length_range]
    cases one with
    | true =>
      have hl1 : ys.length = 1 := by rw [hy, D.cl]; rfl
      obtain ⟨y, rfl⟩ := List.length_eq_one_iff.mp hl1
      have hr := mul_rep (x := .int (y : Nat)) (k := many) (by omega)
      have hv : yesV true many [y] = List.replicate many (.int (y : Nat)) := yes_one rfl
      simp only [List.map_cons, List.map_nil] at hli
      simp only [e18, fx, getE_some, brB_bl, brO_some, asB_bl, asN_bl, asNeg_int, asI_int, nxF_nx, nxF_rt, fin_rt, fin_nx, ite_bind, ite_and, ite_or, rs_int, rs_bl, rs_tup, rs_lst, rs_scr, rs_non, ev_var, ev_cst, ev_op, ev_neg, ev_cmp, ev_chain, ev_and, ev_or, ev_not, ev_ife, ev_tup, ev_lst, ev_idx, ev_sl2, ev_sl3, ev_pcall, ev_mcall, ev_blt, ev_blt2, ev_isi, ev_lcF, ev_lqF, MQ.evs_nil, evs_cons, spl_lst, spl_tup, evs_star, evO_non, evO_som, evQ_of, evQ_rng1, evQ_rng2, evQ_rng3, evQ_zip2, evQ_zip3, evQ_enum, bnd_some, ex_asg, ex_asgs, ex_exp, ex_ret, ex_ite, ex_fr, exs_nil, exs_cons, seq_tup, seq_lst, seq_scr, map_some_, bt_nm, bt_tp, btp_nil, btp_cons, bind_ok, ofO_some, cmp_eq, cmp_ne, cmp_lt, cmp_le, cmp_gt, cmp_ge, op_add, op_sub, startE, List.map_cons, List.map_nil, List.length_cons, List.length_nil, List.replicate_succ, List.replicate_zero, Nat.reduceAdd, Nat.reduceSub, Nat.zero_add, List.cons_append, List.nil_append, List.getElem?_cons_zero, List.getElem?_cons_succ, List.set_cons_zero, List.set_cons_succ, cutO_lst, cutO_tup, cutO_scr, stepO_2, ev_lstM, ev_app, ev_ext, ev_rem, ev_frz, apT_some, apL_some, apV_lst, apR_ref, apO_some, memAt_hd, rs_hd, wipe_nil, wipe_cons, lcK_some, lcB_non, lcB_som, addO_some, addO_none, len_lst, len_tup, len_scr, tup_lst, lis_tup, lis_lst, if_true, if_false, Bool.false_eq_true, rr, hli, hl0, hr, hv, ite_true]
    | false =>
      have hv : yesV false many ys = ys.map fun i => Val.int (i : Nat) := yes_many (by rw [hy, D.cl]; rfl)
      simp only [e18, fx, getE_some, brB_bl, brO_some, asB_bl, asN_bl, asNeg_int, asI_int, nxF_nx, nxF_rt, fin_rt, fin_nx, ite_bind, ite_and, ite_or, rs_int, rs_bl, rs_tup, rs_lst, rs_scr, rs_non, ev_var, ev_cst, ev_op, ev_neg, ev_cmp, ev_chain, ev_and, ev_or, ev_not, ev_ife, ev_tup, ev_lst, ev_idx, ev_sl2, ev_sl3, ev_pcall, ev_mcall, ev_blt, ev_blt2, ev_isi, ev_lcF, ev_lqF, MQ.evs_nil, evs_cons, spl_lst, spl_tup, evs_star, evO_non, evO_som, evQ_of, evQ_rng1, evQ_rng2, evQ_rng3, evQ_zip2, evQ_zip3, evQ_enum, bnd_some, ex_asg, ex_asgs, ex_exp, ex_ret, ex_ite, ex_fr, exs_nil, exs_cons, seq_tup, seq_lst, seq_scr, map_some_, bt_nm, bt_tp, btp_nil, btp_cons, bind_ok, ofO_some, cmp_eq, cmp_ne, cmp_lt, cmp_le, cmp_gt, cmp_ge, op_add, op_sub, startE, List.map_cons, List.map_nil, List.length_cons, List.length_nil, List.replicate_succ, List.replicate_zero, Nat.reduceAdd, Nat.reduceSub, Nat.zero_add, List.cons_append, List.nil_append, List.getElem?_cons_zero, List.getElem?_cons_succ, List.set_cons_zero, List.set_cons_succ, cutO_lst, cutO_tup, cutO_scr, stepO_2, ev_lstM, ev_app, ev_ext, ev_rem, ev_frz, apT_some, apL_some, apV_lst, apR_ref, apO_some, memAt_hd, rs_hd, wipe_nil, wipe_cons, lcK_some, lcB_non, lcB_som, addO_some, addO_none, len_lst, len_tup, len_scr, tup_lst, lis_tup, lis_lst, if_true, if_false, Bool.false_eq_true, rr, hli, hv]
  have s9 : ∀ b c d e g, exS ⟨runF T.Γ (K+8)⟩ (.asg (.nm 9) (.blt .tuple (.lc false (.idx (.var 14) (.var 15)) (.tp [14, 15]) (.of (.lq false (.zip2 (.var 0) (.var 8)))) .non [14, 15]))) (e18 (fx one many coins doubts hidden so α found ++ [some (rowT ys), some (.lst (yesV one many ys)), b, c, d, e, g])) m =
      .ok (.nx (e18 (fx one many coins doubts hidden so α found ++ [some (rowT ys), some (.lst (yesV one many ys)), some (.tup (ps.map fq)), c, d, e, g]))) m := fun b c d e g => by
    have hz := zip_yes (one := one) (many := many) (coins := coins) (ys := ys) (doubts := doubts)
    have hmap : mapR (lcB ⟨runF T.Γ (K+8)⟩ (.idx (.var 14) (.var 15)) (.tp [14, 15]) .non (e18 (fx one many coins doubts hidden so α found ++ [some (rowT ys), some (.lst (yesV one many ys)), b, c, d, e, g]))) ((List.range many).map fun i => Val.tup [tabV (coinAt one coins i) (doubts.getD i 0), .int (yAt one ys i : Nat)]) m = .ok ((List.range many).map fun i => fq (pAt one coins doubts ys i)) m := mapR_of fun i hi => by
      have hi := List.mem_range.mp hi
      obtain ⟨n, en, hn, hx⟩ := coin_at (one := one) D.cl hi
      have hle : yAt one ys i ≤ coinAt one coins i := by
        rw [en]
        have hj : ixS one i < ys.length := by
          rw [hy, D.cl]
          unfold ixS
          cases one <;> simp <;> omega
        have hmem : (n, ys[ixS one i]) ∈ coins.zip ys := by
          refine List.mem_iff_getElem?.mpr ⟨ixS one i, ?_⟩
          rw [List.getElem?_zip_eq_some]
          exact ⟨hx, List.getElem?_eq_getElem hj⟩
        have := hyc _ hmem
        unfold yAt
        rw [List.getD_eq_getElem?_getD, List.getElem?_eq_getElem hj]
        exact this
      have ht := tab_at (d := doubts.getD i 0) hle
      simp only [e18, fx, getE_some, brB_bl, brO_some, asB_bl, asN_bl, asNeg_int, asI_int, nxF_nx, nxF_rt, fin_rt, fin_nx, ite_bind, ite_and, ite_or, rs_int, rs_bl, rs_tup, rs_lst, rs_scr, rs_non, ev_var, ev_cst, ev_op, ev_neg, ev_cmp, ev_chain, ev_and, ev_or, ev_not, ev_ife, ev_tup, ev_lst, ev_idx, ev_sl2, ev_sl3, ev_pcall, ev_mcall, ev_blt, ev_blt2, ev_isi, ev_lcF, ev_lqF, MQ.evs_nil, evs_cons, spl_lst, spl_tup, evs_star, evO_non, evO_som, evQ_of, evQ_rng1, evQ_rng2, evQ_rng3, evQ_zip2, evQ_zip3, evQ_enum, bnd_some, ex_asg, ex_asgs, ex_exp, ex_ret, ex_ite, ex_fr, exs_nil, exs_cons, seq_tup, seq_lst, seq_scr, map_some_, bt_nm, bt_tp, btp_nil, btp_cons, bind_ok, ofO_some, cmp_eq, cmp_ne, cmp_lt, cmp_le, cmp_gt, cmp_ge, op_add, op_sub, startE, List.map_cons, List.map_nil, List.length_cons, List.length_nil, List.replicate_succ, List.replicate_zero, Nat.reduceAdd, Nat.reduceSub, Nat.zero_add, List.cons_append, List.nil_append, List.getElem?_cons_zero, List.getElem?_cons_succ, List.set_cons_zero, List.set_cons_succ, cutO_lst, cutO_tup, cutO_scr, stepO_2, ev_lstM, ev_app, ev_ext, ev_rem, ev_frz, apT_some, apL_some, apV_lst, apR_ref, apO_some, memAt_hd, rs_hd, wipe_nil, wipe_cons, lcK_some, lcB_non, lcB_som, addO_some, addO_none, len_lst, len_tup, len_scr, tup_lst, lis_tup, lis_lst, if_true, if_false, Bool.false_eq_true, rs_tabV, ht, pAt]
    have hp2 : ((List.range many).map fun i => fq (pAt one coins doubts ys i)) = ps.map fq := by
      rw [← hps]
      unfold pvs
      rw [List.map_map]
      rfl
    rw [hp2] at hmap
    simp only [e18, fx, List.length_cons, List.length_nil, Nat.reduceAdd, Nat.reduceSub, Nat.zero_add, List.replicate_succ, List.replicate_zero, List.cons_append, List.nil_append] at hmap
    simp only [e18, fx, getE_some, brB_bl, brO_some, asB_bl, asN_bl, asNeg_int, asI_int, nxF_nx, nxF_rt, fin_rt, fin_nx, ite_bind, ite_and, ite_or, rs_int, rs_bl, rs_tup, rs_lst, rs_scr, rs_non, ev_var, ev_cst, ev_op, ev_neg, ev_cmp, ev_chain, ev_and, ev_or, ev_not, ev_ife, ev_tup, ev_lst, ev_idx, ev_sl2, ev_sl3, ev_pcall, ev_mcall, ev_blt, ev_blt2, ev_isi, ev_lcF, ev_lqF, MQ.evs_nil, evs_cons, spl_lst, spl_tup, evs_star, evO_non, evO_som, evQ_of, evQ_rng1, evQ_rng2, evQ_rng3, evQ_zip2, evQ_zip3, evQ_enum, bnd_some, ex_asg, ex_asgs, ex_exp, ex_ret, ex_ite, ex_fr, exs_nil, exs_cons, seq_tup, seq_lst, seq_scr, map_some_, bt_nm, bt_tp, btp_nil, btp_cons, bind_ok, ofO_some, cmp_eq, cmp_ne, cmp_lt, cmp_le, cmp_gt, cmp_ge, op_add, op_sub, startE, List.map_cons, List.map_nil, List.length_cons, List.length_nil, List.replicate_succ, List.replicate_zero, Nat.reduceAdd, Nat.reduceSub, Nat.zero_add, List.cons_append, List.nil_append, List.getElem?_cons_zero, List.getElem?_cons_succ, List.set_cons_zero, List.set_cons_succ, cutO_lst, cutO_tup, cutO_scr, stepO_2, ev_lstM, ev_app, ev_ext, ev_rem, ev_frz, apT_some, apL_some, apV_lst, apR_ref, apO_some, memAt_hd, rs_hd, wipe_nil, wipe_cons, lcK_some, lcB_non, lcB_som, addO_some, addO_none, len_lst, len_tup, len_scr, tup_lst, lis_tup, lis_lst, if_true, if_false, Bool.false_eq_true, hz, hmap]
  have hup := fun m => p_stepped_up (K := K + 1) (m := m) (by decide) (by decide) hS hα321 h0 h1 (by omega) (by omega)
  have hsp := fun m => p_step_ps (K := K + 1) (m := m) (by decide) (by decide) hS (by omega) (by omega)
  have how := fun m => p__law_own_up (K := K + 4) (m := m) (by decide) (by decide) hS hα321 h0 (by omega) (by omega)
  have hwp := fun m => p_wrong_part (K := K) (m := m) (so := so) (by decide) (by decide) hS hα321 h0 h1 (by omega) (by omega) (by rw [hlen]; exact D.sl)
  have hst := st_noes h0 h1 hS.le
  have hsz := st_sz hS (by omega)
  have hNl : (noesL α ps).length ≤ 8 := by rw [noes_len h0]; exact Nat.le_trans (rn_spec α ps).le (by omega)
  generalize hSt : ps.map (stOf ps) = St at hsp hst hsz
  have hpz := part_sz (so := so) hNl
  generalize hN : noesL α ps = N at hup how hwp hst hNl hpz ⊢
  have s10 : ∀ c d e g, exS ⟨runF T.Γ (K+8)⟩ (.asgs [10, 11] (.cons (.pcall false f_stepped_up (.cons (.var 9) (.cons (.var 4) .nil))) (.cons (.pcall false f_step_ps (.cons (.var 9) .nil)) .nil))) (e18 (fx one many coins doubts hidden so α found ++ [some (rowT ys), some (.lst (yesV one many ys)), some (.tup (ps.map fq)), c, d, e, g])) m =
      .ok (.nx (e18 (fx one many coins doubts hidden so α found ++ [some (rowT ys), some (.lst (yesV one many ys)), some (.tup (ps.map fq)), some (natT N), some (.tup (St.map fq)), e, g]))) m := fun c d e g => by
    simp only [e18, fx, getE_some, brB_bl, brO_some, asB_bl, asN_bl, asNeg_int, asI_int, nxF_nx, nxF_rt, fin_rt, fin_nx, ite_bind, ite_and, ite_or, rs_int, rs_bl, rs_tup, rs_lst, rs_scr, rs_non, ev_var, ev_cst, ev_op, ev_neg, ev_cmp, ev_chain, ev_and, ev_or, ev_not, ev_ife, ev_tup, ev_lst, ev_idx, ev_sl2, ev_sl3, ev_pcall, ev_mcall, ev_blt, ev_blt2, ev_isi, ev_lcF, ev_lqF, MQ.evs_nil, evs_cons, spl_lst, spl_tup, evs_star, evO_non, evO_som, evQ_of, evQ_rng1, evQ_rng2, evQ_rng3, evQ_zip2, evQ_zip3, evQ_enum, bnd_some, ex_asg, ex_asgs, ex_exp, ex_ret, ex_ite, ex_fr, exs_nil, exs_cons, seq_tup, seq_lst, seq_scr, map_some_, bt_nm, bt_tp, btp_nil, btp_cons, bind_ok, ofO_some, cmp_eq, cmp_ne, cmp_lt, cmp_le, cmp_gt, cmp_ge, op_add, op_sub, startE, List.map_cons, List.map_nil, List.length_cons, List.length_nil, List.replicate_succ, List.replicate_zero, Nat.reduceAdd, Nat.reduceSub, Nat.zero_add, List.cons_append, List.nil_append, List.getElem?_cons_zero, List.getElem?_cons_succ, List.set_cons_zero, List.set_cons_succ, cutO_lst, cutO_tup, cutO_scr, stepO_2, ev_lstM, ev_app, ev_ext, ev_rem, ev_frz, apT_some, apL_some, apV_lst, apR_ref, apO_some, memAt_hd, rs_hd, wipe_nil, wipe_cons, lcK_some, lcB_non, lcB_som, addO_some, addO_none, len_lst, len_tup, len_scr, tup_lst, lis_tup, lis_lst, if_true, if_false, Bool.false_eq_true, hup, hsp]
  have s11 : ∀ e g, exS ⟨runF T.Γ (K+8)⟩ (.ite (.cmp .ne (.var 10) (.pcall false f__law_own_up (.cons (.var 9) (.cons (.var 4) .nil))))
      (.cons (.ret (.cst .non))
    .nil)
      .nil) (e18 (fx one many coins doubts hidden so α found ++ [some (rowT ys), some (.lst (yesV one many ys)), some (.tup (ps.map fq)), some (natT N), some (.tup (St.map fq)), e, g])) m =
      .ok (.nx (e18 (fx one many coins doubts hidden so α found ++ [some (rowT ys), some (.lst (yesV one many ys)), some (.tup (ps.map fq)), some (natT N), some (.tup (St.map fq)), e, g]))) m := fun e g => by
    simp only [e18, fx, getE_some, brB_bl, brO_some, asB_bl, asN_bl, asNeg_int, asI_int, nxF_nx, nxF_rt, fin_rt, fin_nx, ite_bind, ite_and, ite_or, rs_int, rs_bl, rs_tup, rs_lst, rs_scr, rs_non, ev_var, ev_cst, ev_op, ev_neg, ev_cmp, ev_chain, ev_and, ev_or, ev_not, ev_ife, ev_tup, ev_lst, ev_idx, ev_sl2, ev_sl3, ev_pcall, ev_mcall, ev_blt, ev_blt2, ev_isi, ev_lcF, ev_lqF, MQ.evs_nil, evs_cons, spl_lst, spl_tup, evs_star, evO_non, evO_som, evQ_of, evQ_rng1, evQ_rng2, evQ_rng3, evQ_zip2, evQ_zip3, evQ_enum, bnd_some, ex_asg, ex_asgs, ex_exp, ex_ret, ex_ite, ex_fr, exs_nil, exs_cons, seq_tup, seq_lst, seq_scr, map_some_, bt_nm, bt_tp, btp_nil, btp_cons, bind_ok, ofO_some, cmp_eq, cmp_ne, cmp_lt, cmp_le, cmp_gt, cmp_ge, op_add, op_sub, startE, List.map_cons, List.map_nil, List.length_cons, List.length_nil, List.replicate_succ, List.replicate_zero, Nat.reduceAdd, Nat.reduceSub, Nat.zero_add, List.cons_append, List.nil_append, List.getElem?_cons_zero, List.getElem?_cons_succ, List.set_cons_zero, List.set_cons_succ, cutO_lst, cutO_tup, cutO_scr, stepO_2, ev_lstM, ev_app, ev_ext, ev_rem, ev_frz, apT_some, apL_some, apV_lst, apR_ref, apO_some, memAt_hd, rs_hd, wipe_nil, wipe_cons, lcK_some, lcB_non, lcB_som, addO_some, addO_none, len_lst, len_tup, len_scr, tup_lst, lis_tup, lis_lst, if_true, if_false, Bool.false_eq_true, how, rs_natT, cmp_neN, decide_true, Bool.not_true]
  have s12 : ∀ e g, exS ⟨runF T.Γ (K+8)⟩ (.ite (.cmp .ne (.var 10) (.blt .tuple (.lc false (.var 16) (.tp [16, 17]) (.enum (.var 11)) (.som (.pcall false f__law_no_more (.cons (.var 17) (.cons (.var 4) .nil)))) [16, 17])))
      (.cons (.ret (.cst .non))
    .nil)
      .nil) (e18 (fx one many coins doubts hidden so α found ++ [some (rowT ys), some (.lst (yesV one many ys)), some (.tup (ps.map fq)), some (natT N), some (.tup (St.map fq)), e, g])) m =
      .ok (.nx (e18 (fx one many coins doubts hidden so α found ++ [some (rowT ys), some (.lst (yesV one many ys)), some (.tup (ps.map fq)), some (natT N), some (.tup (St.map fq)), e, g]))) m := fun e g => by
    have hmap : mapR (lcB ⟨runF T.Γ (K+8)⟩ (.var 16) (.tp [16, 17]) (.som (.pcall false f__law_no_more (.cons (.var 17) (.cons (.var 4) .nil)))) (e18 (fx one many coins doubts hidden so α found ++ [some (rowT ys), some (.lst (yesV one many ys)), some (.tup (ps.map fq)), some (natT N), some (.tup (St.map fq)), e, g]))) ((St.zipIdx 0).map fun p => Val.tup [.int (p.2 : Nat), fq p.1]) m = .ok (((St.zipIdx 0).filter fun p => decide (p.1 ≤ α)).map fun p => nI p.2) m := mapR_if fun p hp => by
      have hp1 : p.1 ∈ St := List.mem_of_getElem? (List.mem_zipIdx_iff_getElem?.mp hp)
      have pb := fun m => p__law_no_more (K := K + 6) (m := m) (hsz _ hp1) hα321 (by decide : 321 + 5 + 321 < 9000)
      simp only [e18, fx, getE_some, brB_bl, brO_some, asB_bl, asN_bl, asNeg_int, asI_int, nxF_nx, nxF_rt, fin_rt, fin_nx, ite_bind, ite_and, ite_or, rs_int, rs_bl, rs_tup, rs_lst, rs_scr, rs_non, ev_var, ev_cst, ev_op, ev_neg, ev_cmp, ev_chain, ev_and, ev_or, ev_not, ev_ife, ev_tup, ev_lst, ev_idx, ev_sl2, ev_sl3, ev_pcall, ev_mcall, ev_blt, ev_blt2, ev_isi, ev_lcF, ev_lqF, MQ.evs_nil, evs_cons, spl_lst, spl_tup, evs_star, evO_non, evO_som, evQ_of, evQ_rng1, evQ_rng2, evQ_rng3, evQ_zip2, evQ_zip3, evQ_enum, bnd_some, ex_asg, ex_asgs, ex_exp, ex_ret, ex_ite, ex_fr, exs_nil, exs_cons, seq_tup, seq_lst, seq_scr, map_some_, bt_nm, bt_tp, btp_nil, btp_cons, bind_ok, ofO_some, cmp_eq, cmp_ne, cmp_lt, cmp_le, cmp_gt, cmp_ge, op_add, op_sub, startE, List.map_cons, List.map_nil, List.length_cons, List.length_nil, List.replicate_succ, List.replicate_zero, Nat.reduceAdd, Nat.reduceSub, Nat.zero_add, List.cons_append, List.nil_append, List.getElem?_cons_zero, List.getElem?_cons_succ, List.set_cons_zero, List.set_cons_succ, cutO_lst, cutO_tup, cutO_scr, stepO_2, ev_lstM, ev_app, ev_ext, ev_rem, ev_frz, apT_some, apL_some, apV_lst, apR_ref, apO_some, memAt_hd, rs_hd, wipe_nil, wipe_cons, lcK_some, lcB_non, lcB_som, addO_some, addO_none, len_lst, len_tup, len_scr, tup_lst, lis_tup, lis_lst, if_true, if_false, Bool.false_eq_true, pb]
      split <;> rfl
    have hm2 : (((St.zipIdx 0).filter fun p => decide (p.1 ≤ α)).map fun p => nI p.2) = N.map nI := by
      rw [← hst, List.map_map]
      rfl
    have hne := cmp_neN N N
    have eN : Val.tup (N.map nI) = natT N := rfl
    rw [hm2] at hmap
    simp only [e18, fx, List.length_cons, List.length_nil, Nat.reduceAdd, Nat.reduceSub, Nat.zero_add, List.replicate_succ, List.replicate_zero, List.cons_append, List.nil_append] at hmap
    simp only [e18, fx, getE_some, brB_bl, brO_some, asB_bl, asN_bl, asNeg_int, asI_int, nxF_nx, nxF_rt, fin_rt, fin_nx, ite_bind, ite_and, ite_or, rs_int, rs_bl, rs_tup, rs_lst, rs_scr, rs_non, ev_var, ev_cst, ev_op, ev_neg, ev_cmp, ev_chain, ev_and, ev_or, ev_not, ev_ife, ev_tup, ev_lst, ev_idx, ev_sl2, ev_sl3, ev_pcall, ev_mcall, ev_blt, ev_blt2, ev_isi, ev_lcF, ev_lqF, MQ.evs_nil, evs_cons, spl_lst, spl_tup, evs_star, evO_non, evO_som, evQ_of, evQ_rng1, evQ_rng2, evQ_rng3, evQ_zip2, evQ_zip3, evQ_enum, bnd_some, ex_asg, ex_asgs, ex_exp, ex_ret, ex_ite, ex_fr, exs_nil, exs_cons, seq_tup, seq_lst, seq_scr, map_some_, bt_nm, bt_tp, btp_nil, btp_cons, bind_ok, ofO_some, cmp_eq, cmp_ne, cmp_lt, cmp_le, cmp_gt, cmp_ge, op_add, op_sub, startE, List.map_cons, List.map_nil, List.length_cons, List.length_nil, List.replicate_succ, List.replicate_zero, Nat.reduceAdd, Nat.reduceSub, Nat.zero_add, List.cons_append, List.nil_append, List.getElem?_cons_zero, List.getElem?_cons_succ, List.set_cons_zero, List.set_cons_succ, cutO_lst, cutO_tup, cutO_scr, stepO_2, ev_lstM, ev_app, ev_ext, ev_rem, ev_frz, apT_some, apL_some, apV_lst, apR_ref, apO_some, memAt_hd, rs_hd, wipe_nil, wipe_cons, lcK_some, lcB_non, lcB_som, addO_some, addO_none, len_lst, len_tup, len_scr, tup_lst, lis_tup, lis_lst, if_true, if_false, Bool.false_eq_true, enum_fq, hmap, eN, rs_natT, hne, decide_true, Bool.not_true]
  have hmapW : ∀ E : MQ.Env, (∀ v, (E.set 17 (some v))[17]? = some (some v)) → (∀ v, (E.set 17 (some v))[3]? = some (some (.int (so : Nat)))) → mapR (lcB ⟨runF T.Γ (K+8)⟩ (.var 17) (.nm 17) (.som (.cmp .lt (.var 17) (.var 3))) E) (N.map nI) m = .ok ((N.filter fun i => decide (i < so)).map nI) m := fun E h1 h2 => mapR_if fun i hi => by
    have : decide ((i : Int) < (so : Int)) = decide (i < so) := by
      by_cases hlt : i < so
      · rw [decide_eq_true hlt, decide_eq_true (by omega)]
      · rw [decide_eq_false hlt, decide_eq_false (by omega)]
    simp only [lcB_som, bt_nm, lcK_some, ev_cmp, ev_var, h1, h2, getE_some, bind_ok, rs_int, cmp_lt, map_some_, ofO_some, brB_bl, nI, this]
    split <;> rfl
  have hlenW : bltV .len (.lst ((N.filter fun i => decide (i < so)).map nI)) = some (.int (wrN so N : Nat)) := by
    show some (Val.int (((N.filter fun i => decide (i < so)).map nI).length : Nat)) = _
    rw [List.length_map]
    rfl
  have s13 : ∀ e g, exS ⟨runF T.Γ (K+8)⟩ (.asg (.nm 12) (.blt .len (.lc false (.var 17) (.nm 17) (.of (.var 10)) (.som (.cmp .lt (.var 17) (.var 3))) [17]))) (e18 (fx one many coins doubts hidden so α found ++ [some (rowT ys), some (.lst (yesV one many ys)), some (.tup (ps.map fq)), some (natT N), some (.tup (St.map fq)), e, g])) m =
      .ok (.nx (e18 (fx one many coins doubts hidden so α found ++ [some (rowT ys), some (.lst (yesV one many ys)), some (.tup (ps.map fq)), some (natT N), some (.tup (St.map fq)), some (.int (wrN so N : Nat)), g]))) m := fun e g => by
    have hm := hmapW (e18 (fx one many coins doubts hidden so α found ++ [some (rowT ys), some (.lst (yesV one many ys)), some (.tup (ps.map fq)), some (natT N), some (.tup (St.map fq)), e, g])) (fun v => rfl) (fun v => rfl)
    simp only [e18, fx, List.length_cons, List.length_nil, Nat.reduceAdd, Nat.reduceSub, Nat.zero_add, List.replicate_succ, List.replicate_zero, List.cons_append, List.nil_append] at hm
    simp only [e18, fx, getE_some, brB_bl, brO_some, asB_bl, asN_bl, asNeg_int, asI_int, nxF_nx, nxF_rt, fin_rt, fin_nx, ite_bind, ite_and, ite_or, rs_int, rs_bl, rs_tup, rs_lst, rs_scr, rs_non, ev_var, ev_cst, ev_op, ev_neg, ev_cmp, ev_chain, ev_and, ev_or, ev_not, ev_ife, ev_tup, ev_lst, ev_idx, ev_sl2, ev_sl3, ev_pcall, ev_mcall, ev_blt, ev_blt2, ev_isi, ev_lcF, ev_lqF, MQ.evs_nil, evs_cons, spl_lst, spl_tup, evs_star, evO_non, evO_som, evQ_of, evQ_rng1, evQ_rng2, evQ_rng3, evQ_zip2, evQ_zip3, evQ_enum, bnd_some, ex_asg, ex_asgs, ex_exp, ex_ret, ex_ite, ex_fr, exs_nil, exs_cons, seq_tup, seq_lst, seq_scr, map_some_, bt_nm, bt_tp, btp_nil, btp_cons, bind_ok, ofO_some, cmp_eq, cmp_ne, cmp_lt, cmp_le, cmp_gt, cmp_ge, op_add, op_sub, startE, List.map_cons, List.map_nil, List.length_cons, List.length_nil, List.replicate_succ, List.replicate_zero, Nat.reduceAdd, Nat.reduceSub, Nat.zero_add, List.cons_append, List.nil_append, List.getElem?_cons_zero, List.getElem?_cons_succ, List.set_cons_zero, List.set_cons_succ, cutO_lst, cutO_tup, cutO_scr, stepO_2, ev_lstM, ev_app, ev_ext, ev_rem, ev_frz, apT_some, apL_some, apV_lst, apR_ref, apO_some, memAt_hd, rs_hd, wipe_nil, wipe_cons, lcK_some, lcB_non, lcB_som, addO_some, addO_none, len_tup, len_scr, tup_lst, lis_tup, lis_lst, if_true, if_false, Bool.false_eq_true, seq_natT, hm, hlenW]
  have hw0 : wrN so N ≤ N.length := List.length_filter_le _ _
  have s14 : ∀ g, exS ⟨runF T.Γ (K+8)⟩ (.asg (.nm 13) (.ife (.cmp .ne (.var 10) (.tup .nil)) (.pcall false f__law_ratio (.cons (.var 12) (.cons (.blt .len (.var 10)) .nil))) (.tup (.cons (.cst (.int 0)) (.cons (.cst (.int 1)) .nil))))) (e18 (fx one many coins doubts hidden so α found ++ [some (rowT ys), some (.lst (yesV one many ys)), some (.tup (ps.map fq)), some (natT N), some (.tup (St.map fq)), some (.int (wrN so N : Nat)), g])) m =
      .ok (.nx (e18 (fx one many coins doubts hidden so α found ++ [some (rowT ys), some (.lst (yesV one many ys)), some (.tup (ps.map fq)), some (natT N), some (.tup (St.map fq)), some (.int (wrN so N : Nat)), some (fq (partQ so N))]))) m := fun g => by
    have hcmp : cmpV .ne (natT N) (.tup []) = some (!decide (N = [])) := cmp_neN N []
    have e0 : (Val.tup [.int 0, .int 1]) = fq 0 := rfl
    by_cases hL : N = []
    · have hd : decide (N = []) = true := decide_eq_true hL
      have ep : partQ so N = 0 := by unfold partQ; rw [if_pos hL]
      rw [ep]
      simp only [e18, fx, getE_some, brB_bl, brO_some, asB_bl, asN_bl, asNeg_int, asI_int, nxF_nx, nxF_rt, fin_rt, fin_nx, ite_bind, ite_and, ite_or, rs_int, rs_bl, rs_tup, rs_lst, rs_scr, rs_non, ev_var, ev_cst, ev_op, ev_neg, ev_cmp, ev_chain, ev_and, ev_or, ev_not, ev_ife, ev_tup, ev_lst, ev_idx, ev_sl2, ev_sl3, ev_pcall, ev_mcall, ev_blt, ev_blt2, ev_isi, ev_lcF, ev_lqF, MQ.evs_nil, evs_cons, spl_lst, spl_tup, evs_star, evO_non, evO_som, evQ_of, evQ_rng1, evQ_rng2, evQ_rng3, evQ_zip2, evQ_zip3, evQ_enum, bnd_some, ex_asg, ex_asgs, ex_exp, ex_ret, ex_ite, ex_fr, exs_nil, exs_cons, seq_tup, seq_lst, seq_scr, map_some_, bt_nm, bt_tp, btp_nil, btp_cons, bind_ok, ofO_some, cmp_eq, cmp_ne, cmp_lt, cmp_le, cmp_gt, cmp_ge, op_add, op_sub, startE, List.map_cons, List.map_nil, List.length_cons, List.length_nil, List.replicate_succ, List.replicate_zero, Nat.reduceAdd, Nat.reduceSub, Nat.zero_add, List.cons_append, List.nil_append, List.getElem?_cons_zero, List.getElem?_cons_succ, List.set_cons_zero, List.set_cons_succ, cutO_lst, cutO_tup, cutO_scr, stepO_2, ev_lstM, ev_app, ev_ext, ev_rem, ev_frz, apT_some, apL_some, apV_lst, apR_ref, apO_some, memAt_hd, rs_hd, wipe_nil, wipe_cons, lcK_some, lcB_non, lcB_som, addO_some, addO_none, len_lst, len_tup, len_scr, tup_lst, lis_tup, lis_lst, if_true, if_false, Bool.false_eq_true, rs_natT, LL, Nat.zero_le, Nat.reduceLeDiff, hcmp, hd, Bool.not_true, e0, ite_true]
    · have hd : decide (N = []) = false := decide_eq_false hL
      have ep : partQ so N = Rat.divInt (wrN so N : Nat) (N.length : Nat) := by unfold partQ; rw [if_neg hL]
      have hl : 0 < N.length := List.length_pos_iff.mpr hL
      have pr := fun mm => p__law_ratio (K := K + 6) (m := mm) (a := (wrN so N : Nat)) (b := (N.length : Nat)) (s := 5) (by omega) (by omega) (by decide)
      rw [ep]
      simp only [e18, fx, getE_some, brB_bl, brO_some, asB_bl, asN_bl, asNeg_int, asI_int, nxF_nx, nxF_rt, fin_rt, fin_nx, ite_bind, ite_and, ite_or, rs_int, rs_bl, rs_tup, rs_lst, rs_scr, rs_non, ev_var, ev_cst, ev_op, ev_neg, ev_cmp, ev_chain, ev_and, ev_or, ev_not, ev_ife, ev_tup, ev_lst, ev_idx, ev_sl2, ev_sl3, ev_pcall, ev_mcall, ev_blt, ev_blt2, ev_isi, ev_lcF, ev_lqF, MQ.evs_nil, evs_cons, spl_lst, spl_tup, evs_star, evO_non, evO_som, evQ_of, evQ_rng1, evQ_rng2, evQ_rng3, evQ_zip2, evQ_zip3, evQ_enum, bnd_some, ex_asg, ex_asgs, ex_exp, ex_ret, ex_ite, ex_fr, exs_nil, exs_cons, seq_tup, seq_lst, seq_scr, map_some_, bt_nm, bt_tp, btp_nil, btp_cons, bind_ok, ofO_some, cmp_eq, cmp_ne, cmp_lt, cmp_le, cmp_gt, cmp_ge, op_add, op_sub, startE, List.map_cons, List.map_nil, List.length_cons, List.length_nil, List.replicate_succ, List.replicate_zero, Nat.reduceAdd, Nat.reduceSub, Nat.zero_add, List.cons_append, List.nil_append, List.getElem?_cons_zero, List.getElem?_cons_succ, List.set_cons_zero, List.set_cons_succ, cutO_lst, cutO_tup, cutO_scr, stepO_2, ev_lstM, ev_app, ev_ext, ev_rem, ev_frz, apT_some, apL_some, apV_lst, apR_ref, apO_some, memAt_hd, rs_hd, wipe_nil, wipe_cons, lcK_some, lcB_non, lcB_som, addO_some, addO_none, len_lst, len_tup, len_scr, tup_lst, lis_tup, lis_lst, if_true, if_false, Bool.false_eq_true, rs_natT, LL, Nat.zero_le, Nat.reduceLeDiff, hcmp, hd, Bool.not_false, len_natT, pr, ite_true]
  have s15 : exS ⟨runF T.Γ (K+8)⟩ (.ite (.cmp .ne (.pcall false f_wrong_part (.cons (.var 9) (.cons (.var 3) (.cons (.var 4) .nil)))) (.var 13))
      (.cons (.ret (.cst .non))
    .nil)
      .nil) (e18 (fx one many coins doubts hidden so α found ++ [some (rowT ys), some (.lst (yesV one many ys)), some (.tup (ps.map fq)), some (natT N), some (.tup (St.map fq)), some (.int (wrN so N : Nat)), some (fq (partQ so N))])) m =
      .ok (.nx (e18 (fx one many coins doubts hidden so α found ++ [some (rowT ys), some (.lst (yesV one many ys)), some (.tup (ps.map fq)), some (natT N), some (.tup (St.map fq)), some (.int (wrN so N : Nat)), some (fq (partQ so N))]))) m := by
    have r0 : ∀ m, rs m (fq (partQ so N)) = fq (partQ so N) := fun m => rs_of (noRef_fq _)
    have hne : cmpV .ne (fq (partQ so N)) (fq (partQ so N)) = some false := by
      show (eqV (fq (partQ so N)) (fq (partQ so N))).map (!·) = some false
      rw [eqV_fq, decide_eq_true rfl]
      rfl
    simp only [e18, fx, getE_some, brB_bl, brO_some, asB_bl, asN_bl, asNeg_int, asI_int, nxF_nx, nxF_rt, fin_rt, fin_nx, ite_bind, ite_and, ite_or, rs_int, rs_bl, rs_tup, rs_lst, rs_scr, rs_non, ev_var, ev_cst, ev_op, ev_neg, ev_cmp, ev_chain, ev_and, ev_or, ev_not, ev_ife, ev_tup, ev_lst, ev_idx, ev_sl2, ev_sl3, ev_pcall, ev_mcall, ev_blt, ev_blt2, ev_isi, ev_lcF, ev_lqF, MQ.evs_nil, evs_cons, spl_lst, spl_tup, evs_star, evO_non, evO_som, evQ_of, evQ_rng1, evQ_rng2, evQ_rng3, evQ_zip2, evQ_zip3, evQ_enum, bnd_some, ex_asg, ex_asgs, ex_exp, ex_ret, ex_ite, ex_fr, exs_nil, exs_cons, seq_tup, seq_lst, seq_scr, map_some_, bt_nm, bt_tp, btp_nil, btp_cons, bind_ok, ofO_some, cmp_eq, cmp_ne, cmp_lt, cmp_le, cmp_gt, cmp_ge, op_add, op_sub, startE, List.map_cons, List.map_nil, List.length_cons, List.length_nil, List.replicate_succ, List.replicate_zero, Nat.reduceAdd, Nat.reduceSub, Nat.zero_add, List.cons_append, List.nil_append, List.getElem?_cons_zero, List.getElem?_cons_succ, List.set_cons_zero, List.set_cons_succ, cutO_lst, cutO_tup, cutO_scr, stepO_2, ev_lstM, ev_app, ev_ext, ev_rem, ev_frz, apT_some, apL_some, apV_lst, apR_ref, apO_some, memAt_hd, rs_hd, wipe_nil, wipe_cons, lcK_some, lcB_non, lcB_som, addO_some, addO_none, len_lst, len_tup, len_scr, tup_lst, lis_tup, lis_lst, if_true, if_false, Bool.false_eq_true, hwp, r0, hne]
  have s16 : exS ⟨runF T.Γ (K+8)⟩ (.asg (.nm 6) (.pcall false f__law_plus (.cons (.var 6) (.cons (.pcall false f__law_times (.cons (.var 13) (.cons (.pcall false f__law_likely (.cons (.var 1) (.cons (.var 7) (.cons (.var 2) .nil)))) .nil))) .nil)))) (e18 (fx one many coins doubts hidden so α found ++ [some (rowT ys), some (.lst (yesV one many ys)), some (.tup (ps.map fq)), some (natT N), some (.tup (St.map fq)), some (.int (wrN so N : Nat)), some (fq (partQ so N))])) m =
      .ok (.nx (e18 (fx one many coins doubts hidden so α (found + partQ so N * likF 1 coins ys hidden) ++ [some (rowT ys), some (.lst (yesV one many ys)), some (.tup (ps.map fq)), some (natT N), some (.tup (St.map fq)), some (.int (wrN so N : Nat)), some (fq (partQ so N))]))) m := by
    have hcl : coins.length ≤ 4 := by rw [D.cl]; cases one <;> simp <;> omega
    have pl := fun m => p__law_likely (K := K + 3) (m := m) (s := 7) (by decide) (show coins.length ≤ 6 by omega) (fun n hn => by have := (D.c1 n hn).2; omega) D.hs hyc
    have pt := fun m => p__law_times (K := K + 5) (m := m) hpz hk (by decide)
    have pp := fun m => p__law_plus (K := K + 5) (m := m) hw (hpz.mul hk) (by decide)
    simp only [e18, fx, getE_some, brB_bl, brO_some, asB_bl, asN_bl, asNeg_int, asI_int, nxF_nx, nxF_rt, fin_rt, fin_nx, ite_bind, ite_and, ite_or, rs_int, rs_bl, rs_tup, rs_lst, rs_scr, rs_non, ev_var, ev_cst, ev_op, ev_neg, ev_cmp, ev_chain, ev_and, ev_or, ev_not, ev_ife, ev_tup, ev_lst, ev_idx, ev_sl2, ev_sl3, ev_pcall, ev_mcall, ev_blt, ev_blt2, ev_isi, ev_lcF, ev_lqF, MQ.evs_nil, evs_cons, spl_lst, spl_tup, evs_star, evO_non, evO_som, evQ_of, evQ_rng1, evQ_rng2, evQ_rng3, evQ_zip2, evQ_zip3, evQ_enum, bnd_some, ex_asg, ex_asgs, ex_exp, ex_ret, ex_ite, ex_fr, exs_nil, exs_cons, seq_tup, seq_lst, seq_scr, map_some_, bt_nm, bt_tp, btp_nil, btp_cons, bind_ok, ofO_some, cmp_eq, cmp_ne, cmp_lt, cmp_le, cmp_gt, cmp_ge, op_add, op_sub, startE, List.map_cons, List.map_nil, List.length_cons, List.length_nil, List.replicate_succ, List.replicate_zero, Nat.reduceAdd, Nat.reduceSub, Nat.zero_add, List.cons_append, List.nil_append, List.getElem?_cons_zero, List.getElem?_cons_succ, List.set_cons_zero, List.set_cons_succ, cutO_lst, cutO_tup, cutO_scr, stepO_2, ev_lstM, ev_app, ev_ext, ev_rem, ev_frz, apT_some, apL_some, apV_lst, apR_ref, apO_some, memAt_hd, rs_hd, wipe_nil, wipe_cons, lcK_some, lcB_non, lcB_som, addO_some, addO_none, len_lst, len_tup, len_scr, tup_lst, lis_tup, lis_lst, if_true, if_false, Bool.false_eq_true, pl, pt, pp]
  refine ⟨some (.lst (yesV one many ys)), some (.tup (ps.map fq)), some (natT N), some (.tup (St.map fq)), some (.int (wrN so N : Nat)), some (fq (partQ so N)), ?_⟩
  rw [exs_cons, s8, bind_ok, nxF_nx, exs_cons, s9, bind_ok, nxF_nx, exs_cons, s10, bind_ok, nxF_nx, exs_cons, s11, bind_ok, nxF_nx, exs_cons, s12, bind_ok, nxF_nx, exs_cons, s13, bind_ok, nxF_nx, exs_cons, s14, bind_ok, nxF_nx, exs_cons, s15, bind_ok, nxF_nx, exs_cons, s16, bind_ok, nxF_nx, exs_nil]

end LW
namespace LW
open PySem PySem.Spec MP MQ
/-! ### all outcomes -/
def ptG (one : Bool) (many : Nat) (coins : List Nat) (doubts hidden : List Rat) (so : Nat) (α : Rat) (ys : List Nat) : Rat := dueQ one many coins doubts so α ys * likF 1 coins ys hidden
theorem dd_le {one : Bool} {many so : Nat} {coins : List Nat} {doubts hidden : List Rat} (D : Dr3 one many coins doubts hidden so) : DD coins hidden ≤ 2 ^ 112 := by
  have h := DD_le (s := 7) (b := 4) (ns := coins) (qs := hidden) (fun n hn => (D.c1 n hn).2) (fun q hq => Nat.le_of_lt (D.hs q hq).1.2)
  refine Nat.le_trans h (Nat.pow_le_pow_right (by decide) ?_)
  have : coins.length ≤ 4 := by
    rw [D.cl]
    have := D.m23
    cases one <;> simp <;> omega
  omega
theorem lik_one {one : Bool} {many so : Nat} {coins : List Nat} {doubts hidden : List Rat} {ys : List Nat} (D : Dr3 one many coins doubts hidden so) (hy : ys.length = coins.length) (hyc : ∀ p ∈ coins.zip ys, p.2 ≤ p.1) : Fd (DD coins hidden) 1 (likF 1 coins ys hidden) := by
  have h := lik_fd coins ys hidden 1 1 (fun q hq => (D.hs q hq).2) hyc hy.symm D.hl.symm ⟨⟨1, by decide +kernel⟩, by decide +kernel, by decide +kernel⟩
  rw [Nat.one_mul] at h
  exact h
theorem fd200 {one : Bool} {many so : Nat} {coins : List Nat} {doubts hidden : List Rat} (D : Dr3 one many coins doubts hidden so) {k : Nat} {q : Rat} (hk1 : 1 ≤ k) (hk : k ≤ 1000) (h : Fd (6 * DD coins hidden) k q) : Sz 200 q := by
  refine fd_sz (Nat.mul_pos (by decide) (DD_pos _ _)) hk1 h ?_
  have a : 6 * DD coins hidden * k ≤ 6 * 2 ^ 112 * 1000 := Nat.mul_le_mul (Nat.mul_le_mul_left _ (dd_le D)) hk
  exact Nat.lt_of_le_of_lt a (by decide +kernel)
theorem part_fd {so : Nat} {l : List Nat} (hl : l.length ≤ 3) : Fd 6 1 (partQ so l) := by
  have hw : wrN so l ≤ l.length := List.length_filter_le _ _
  unfold partQ
  by_cases h : l = []
  · rw [if_pos h]
    exact ⟨⟨0, by decide +kernel⟩, Rat.le_refl, by decide +kernel⟩
  · rw [if_neg h]
    have h0 : 0 < l.length := List.length_pos_iff.mpr h
    generalize wrN so l = w at hw
    generalize l.length = n at hl hw h0
    have hx : ∀ n, n < 4 → ∀ w, w < 4 → 0 < n → w ≤ n → ((∃ j : Nat, j < 7 ∧ Rat.divInt (w : Nat) (n : Nat) = Rat.divInt (j : Nat) (6 : Nat)) ∧ 0 ≤ Rat.divInt (w : Nat) (n : Nat) ∧ Rat.divInt (w : Nat) (n : Nat) ≤ ((1 : Nat) : Rat)) := by decide +kernel
    obtain ⟨⟨j, _, e⟩, b, c⟩ := hx n (by omega) w (by omega) h0 hw
    exact ⟨⟨(j : Nat), e⟩, b, c⟩
theorem due_len {one : Bool} {many so : Nat} {coins : List Nat} {doubts hidden : List Rat} {α : Rat} {ys : List Nat} (D : Dr3 one many coins doubts hidden so) (h0 : 0 ≤ α) : (noesL α (pvs one many coins doubts ys)).length ≤ 3 := by
  rw [noes_len h0]
  have := (rn_spec α (pvs one many coins doubts ys)).le
  rw [pvs_len] at this
  have := D.m23
  omega
theorem w_parts {K : Nat} {m : Mem} {one : Bool} {many so : Nat} {coins : List Nat} {doubts hidden : List Rat} {α : Rat} (D : Dr3 one many coins doubts hidden so) (hα : Sz 30 α) (h0 : 0 ≤ α) (h1 : α ≤ 1) : ∀ (rs : List (List Nat)) (acc : Rat) (k : Nat) (x a b c d e g : Option Val), (∀ ys ∈ rs, ys.length = coins.length ∧ ∀ p ∈ coins.zip ys, p.2 ≤ p.1) → 1 ≤ k → k + rs.length ≤ 1000 → Fd (6 * DD coins hidden) k acc → ∃ x' a' b' c' d' e' g',
    frGo (.nm 7) (exSs ⟨runF T.Γ (K+8)⟩ (.cons (.asg (.nm 8) (.ife (.var 5) (.op .mul (.blt .list (.var 7)) (.blt .len (.var 0))) (.blt .list (.var 7))))
    (.cons (.asg (.nm 9) (.blt .tuple (.lc false (.idx (.var 14) (.var 15)) (.tp [14, 15]) (.of (.lq false (.zip2 (.var 0) (.var 8)))) .non [14, 15])))
    (.cons (.asgs [10, 11] (.cons (.pcall false f_stepped_up (.cons (.var 9) (.cons (.var 4) .nil))) (.cons (.pcall false f_step_ps (.cons (.var 9) .nil)) .nil)))
    (.cons (.ite (.cmp .ne (.var 10) (.pcall false f__law_own_up (.cons (.var 9) (.cons (.var 4) .nil))))
      (.cons (.ret (.cst .non))
    .nil)
      .nil)
    (.cons (.ite (.cmp .ne (.var 10) (.blt .tuple (.lc false (.var 16) (.tp [16, 17]) (.enum (.var 11)) (.som (.pcall false f__law_no_more (.cons (.var 17) (.cons (.var 4) .nil)))) [16, 17])))
      (.cons (.ret (.cst .non))
    .nil)
      .nil)
    (.cons (.asg (.nm 12) (.blt .len (.lc false (.var 17) (.nm 17) (.of (.var 10)) (.som (.cmp .lt (.var 17) (.var 3))) [17])))
    (.cons (.asg (.nm 13) (.ife (.cmp .ne (.var 10) (.tup .nil)) (.pcall false f__law_ratio (.cons (.var 12) (.cons (.blt .len (.var 10)) .nil))) (.tup (.cons (.cst (.int 0)) (.cons (.cst (.int 1)) .nil)))))
    (.cons (.ite (.cmp .ne (.pcall false f_wrong_part (.cons (.var 9) (.cons (.var 3) (.cons (.var 4) .nil)))) (.var 13))
      (.cons (.ret (.cst .non))
    .nil)
      .nil)
    (.cons (.asg (.nm 6) (.pcall false f__law_plus (.cons (.var 6) (.cons (.pcall false f__law_times (.cons (.var 13) (.cons (.pcall false f__law_likely (.cons (.var 1) (.cons (.var 7) (.cons (.var 2) .nil)))) .nil))) .nil))))
    .nil)))))))))) (rs.map rowT) (e18 (fx one many coins doubts hidden so α acc ++ [x, a, b, c, d, e, g])) m =
      .ok (.nx (e18 (fx one many coins doubts hidden so α (acc + (rs.map (ptG one many coins doubts hidden so α)).sum) ++ [x', a', b', c', d', e', g']))) m ∧ Sz 200 (acc + (rs.map (ptG one many coins doubts hidden so α)).sum)
  | [], acc, k, x, a, b, c, d, e, g, _, hk1, hk, hf => ⟨x, a, b, c, d, e, g, by rw [List.map_nil, List.map_nil, List.sum_nil, Rat.add_zero, fr_nil], by
    rw [List.map_nil, List.sum_nil, Rat.add_zero]
    simp only [List.length_nil] at hk
    exact fd200 D hk1 (by omega) hf⟩
  | ys :: rs, acc, k, x, a, b, c, d, e, g, hg, hk1, hk, hf => by
    simp only [List.length_cons] at hk
    obtain ⟨hy, hyc⟩ := hg ys List.mem_cons_self
    have hl := lik_one D hy hyc
    have hl200 : Sz 200 (likF 1 coins ys hidden) := by
      refine fd_sz (DD_pos _ _) (Nat.le_refl 1) hl ?_
      exact Nat.lt_of_le_of_lt (Nat.mul_le_mul (dd_le D) (Nat.le_refl 1)) (by decide +kernel)
    obtain ⟨b', c', d', e', g', h', e1⟩ := body_ok (K := K) (m := m) (found := acc) D hα h0 h1 hy hyc (fd200 D hk1 (by omega) hf) hl200 a b c d e g
    have hfd : Fd (6 * DD coins hidden) (k + 1) (acc + dueQ one many coins doubts so α ys * likF 1 coins ys hidden) := hf.add (Nat.mul_pos (by decide) (DD_pos _ _)) ((part_fd (due_len D h0)).mul1 hl)
    obtain ⟨x2, a2, b2, c2, d2, e2, g2, e3, z2⟩ := w_parts (K := K) (m := m) D hα h0 h1 rs (acc + dueQ one many coins doubts so α ys * likF 1 coins ys hidden) (k + 1) (some (rowT ys)) b' c' d' e' g' h' (fun r hr => hg r (List.mem_cons_of_mem _ hr)) (by omega) (by omega) hfd
    have hs : acc + ((ys :: rs).map (ptG one many coins doubts hidden so α)).sum = acc + dueQ one many coins doubts so α ys * likF 1 coins ys hidden + (rs.map (ptG one many coins doubts hidden so α)).sum := by
      rw [List.map_cons, List.sum_cons, ← Rat.add_assoc]
      rfl
    rw [hs]
    refine ⟨x2, a2, b2, c2, d2, e2, g2, ?_, z2⟩
    rw [List.map_cons, fr_cons]
    have hb : bindTg (.nm 7) (rowT ys) (e18 (fx one many coins doubts hidden so α acc ++ [x, a, b, c, d, e, g])) = some (e18 (fx one many coins doubts hidden so α acc ++ [some (rowT ys), a, b, c, d, e, g])) := rfl
    rw [hb, frB_some, e1, bind_ok, lpF_nx]
    exact e3
theorem outs_len {one : Bool} {many so : Nat} {coins : List Nat} {doubts hidden : List Rat} (D : Dr3 one many coins doubts hidden so) : ∀ k, ((coins.take k).foldl moreO [[]]).length ≤ 900 := fun k => by
  have hk : ∀ (cs : List Nat) (f : List (List Nat)) (B : Nat), (∀ n ∈ cs, n ≤ 4) → f.length ≤ B → (cs.foldl moreO f).length ≤ B * 5 ^ cs.length := fun cs => by
    induction cs with
    | nil => intro f B _ h; simpa using h
    | cons n cs ih =>
      intro f B hn h
      have := ih (moreO f n) (B * 5) (fun x hx => hn x (List.mem_cons_of_mem _ hx)) (by
        rw [moreO_len]
        exact Nat.mul_le_mul h (by have := hn n List.mem_cons_self; omega))
      rw [List.length_cons, Nat.pow_succ, Nat.mul_comm _ 5, ← Nat.mul_assoc]
      exact this
  have h1 := hk (coins.take k) [[]] 1 (fun n hn => (D.c1 n (List.mem_of_mem_take hn)).2) (Nat.le_refl 1)
  have h2 : (coins.take k).length ≤ 4 := by
    rw [List.length_take, D.cl]
    have := D.m23
    cases one <;> simp <;> omega
  have h3 : 5 ^ (coins.take k).length ≤ 5 ^ 4 := Nat.pow_le_pow_right (by decide) h2
  omega
def partsS (one : Bool) (many : Nat) (coins : List Nat) (doubts hidden : List Rat) (so : Nat) (α : Rat) : Rat := ((outs coins).map (ptG one many coins doubts hidden so α)).sum
theorem noRef_tabs {one : Bool} {many : Nat} {coins : List Nat} {doubts : List Rat} : noRefs (tabsR one many coins doubts) = true := noRefs_map (fun i => by
  show noRefs (((List.range (coinAt one coins i + 1)).map (tail (coinAt one coins i) (doubts.getD i 0))).map fq) = true
  exact noRefs_map noRef_fq _) _
theorem p__law_parts {K : Nat} {m : Mem} {one : Bool} {many so : Nat} {coins : List Nat} {doubts hidden : List Rat} {α : Rat} (D : Dr3 one many coins doubts hidden so) (hα : Sz 30 α) (h0 : 0 ≤ α) (h1 : α ≤ 1) : pcallR ⟨runF T.Γ (K+9)⟩ false f__law_parts [.lst (tabsR one many coins doubts), .lst (coins.map fun i => Val.int (i : Nat)), .lst (hidden.map fq), .int (so : Nat), fq α, .bl one] m = .ok (fq (partsS one many coins doubts hidden so α)) m ∧ Sz 200 (partsS one many coins doubts hidden so α) := by
  have hcl : coins.length ≤ 100 := by rw [D.cl]; have := D.m23; cases one <;> simp <;> omega
  have hpo := fun m => p__law_outcomes (K := K + 7) (m := m) (coins := coins) (fun n hn => by have := (D.c1 n hn).2; omega) hcl (outs_len D)
  have hol : (outs coins).length ≤ 900 := by
    have := outs_len D coins.length
    rw [List.take_length] at this
    exact this
  obtain ⟨x', a', b', c', d', e', g', s7, hz⟩ := w_parts (K := K) (m := []) D hα h0 h1 (outs coins) 0 1 none none none none none none none (fun ys hy => outs_mem hy) (Nat.le_refl 1) (by omega) ⟨⟨0, by rw [Rat.divInt_eq_div, Rat.intCast_zero]; grind⟩, Rat.le_refl, by decide +kernel⟩
  rw [Rat.zero_add] at s7 hz
  refine ⟨?_, hz⟩
  refine pcall_id (.of (m := []) ?_ rfl) (by
    show (noRefs (tabsR one many coins doubts) && (noRefs (coins.map fun i => Val.int (i : Nat)) && (noRefs (hidden.map fq) && true))) = true
    rw [noRef_tabs, noRefs_map fun _ => rfl, noRefs_map noRef_fq]
    rfl)
  rw [run_def g__law_parts rfl]
  have e0 : (Val.tup [.int 0, .int 1]) = fq 0 := rfl
  have hq : seqOf (.lst ((outs coins).map rowT)) = some ((outs coins).map rowT) := rfl
  have hP : ((outs coins).map (ptG one many coins doubts hidden so α)).sum = partsS one many coins doubts hidden so α := rfl
  rw [hP] at s7
  simp only [e18, fx, List.length_cons, List.length_nil, Nat.reduceAdd, Nat.reduceSub, Nat.zero_add, List.replicate_succ, List.replicate_zero, List.cons_append, List.nil_append] at s7
  simp only [b__law_parts, getE_some, brB_bl, brO_some, asB_bl, asN_bl, asNeg_int, asI_int, nxF_nx, nxF_rt, fin_rt, fin_nx, ite_bind, ite_and, ite_or, rs_int, rs_bl, rs_tup, rs_lst, rs_scr, rs_non, ev_var, ev_cst, ev_op, ev_neg, ev_cmp, ev_chain, ev_and, ev_or, ev_not, ev_ife, ev_tup, ev_lst, ev_idx, ev_sl2, ev_sl3, ev_pcall, ev_mcall, ev_blt, ev_blt2, ev_isi, ev_lcF, ev_lqF, MQ.evs_nil, evs_cons, spl_lst, spl_tup, evs_star, evO_non, evO_som, evQ_of, evQ_rng1, evQ_rng2, evQ_rng3, evQ_zip2, evQ_zip3, evQ_enum, bnd_some, ex_asg, ex_asgs, ex_exp, ex_ret, ex_ite, ex_fr, exs_nil, exs_cons, seq_tup, seq_lst, seq_scr, map_some_, bt_nm, bt_tp, btp_nil, btp_cons, bind_ok, ofO_some, cmp_eq, cmp_ne, cmp_lt, cmp_le, cmp_gt, cmp_ge, op_add, op_sub, startE, List.map_cons, List.map_nil, List.length_cons, List.length_nil, List.replicate_succ, List.replicate_zero, Nat.reduceAdd, Nat.reduceSub, Nat.zero_add, List.cons_append, List.nil_append, List.getElem?_cons_zero, List.getElem?_cons_succ, List.set_cons_zero, List.set_cons_succ, cutO_lst, cutO_tup, cutO_scr, stepO_2, ev_lstM, ev_app, ev_ext, ev_rem, ev_frz, apT_some, apL_some, apV_lst, apR_ref, apO_some, memAt_hd, rs_hd, wipe_nil, wipe_cons, lcK_some, lcB_non, lcB_som, addO_some, addO_none, len_lst, len_tup, len_scr, tup_lst, lis_tup, lis_lst, if_true, if_false, Bool.false_eq_true, LL, Nat.reduceLeDiff, e0, hpo, hq, s7, ite_true]
/-! ### the mathematics -/
theorem own_len {one : Bool} {many so : Nat} {coins : List Nat} {doubts hidden : List Rat} (D : Dr3 one many coins doubts hidden so) : (ownL one many hidden).length = many := by
  unfold ownL
  cases one with
  | true => rw [if_pos rfl, List.length_replicate]
  | false => rw [if_neg (by decide), D.hl, D.cl]; rfl
theorem own_at {one : Bool} {many : Nat} {coins : List Nat} {hidden : List Rat} (hcl : coins.length = if one = true then 1 else many) (hhl : hidden.length = coins.length) (hhs : ∀ q ∈ hidden, Sh q) {i : Nat} (hi : i < many) : hidden[ixS one i]? = some ((ownL one many hidden).getD i 0) ∧ Sh ((ownL one many hidden).getD i 0) := by
  have hl : ixS one i < hidden.length := by
    rw [hhl, hcl]
    unfold ixS
    cases one <;> simp <;> omega
  have e : hidden[ixS one i]? = some ((ownL one many hidden).getD i 0) := by
    cases one with
    | true =>
      unfold ownL ixS at *
      rw [if_pos rfl, if_pos rfl, List.getD_eq_getElem?_getD, List.getD_eq_getElem?_getD, List.getElem?_replicate, if_pos hi]
      rw [if_pos rfl] at hl
      rw [List.getElem?_eq_getElem hl]
      rfl
    | false =>
      unfold ownL ixS at *
      simp only [Bool.false_eq_true, if_false] at *
      rw [List.getD_eq_getElem?_getD, List.getElem?_eq_getElem hl]
      rfl
  exact ⟨e, hhs _ (List.mem_of_getElem? e)⟩
theorem pvs_at {one : Bool} {many : Nat} {coins ys : List Nat} {doubts : List Rat} {i : Nat} (hi : i < many) : (pvs one many coins doubts ys).getD i 0 = pAt one coins doubts ys i := by
  unfold pvs
  rw [List.getD_eq_getElem?_getD, List.getElem?_map, List.getElem?_range hi]
  rfl
theorem due_sum {so : Nat} {α : Rat} {ps : List Rat} (h0 : 0 ≤ α) (hso : so ≤ ps.length) : partQ so (noesL α ps) = ((List.range so).map fun i => wI α ps i).sum := by
  have hl := noes_len (α := α) (ps := ps) h0
  have e1 : wrN so (noesL α ps) = (List.range so).countP fun i => decide (ps.getD i 0 ≤ lv α ps.length (RN α ps)) := by
    unfold wrN noesL
    rw [zipIdx_range ps 0, List.filter_map, List.length_map, List.filter_filter, List.filter_map, List.length_map, ← List.countP_eq_length_filter]
    have hr : List.range ps.length = List.range so ++ (List.range' so (ps.length - so)) := by
      rw [List.range_eq_range', List.range_eq_range']
      have := List.range'_append (s := 0) (m := so) (n := ps.length - so) (step := 1)
      rw [Nat.zero_add, Nat.one_mul] at this
      rw [this]
      congr 1
      omega
    have z : ∀ P : Nat → Bool, (∀ i, P i = true → i < so) → (List.range' so (ps.length - so)).countP P = 0 := fun P hP => by
      rw [List.countP_eq_zero]
      intro i hi hp
      have := (List.mem_range'_1.mp hi).1
      have := hP i hp
      omega
    rw [hr, List.countP_append, z _ (fun i hi => by
      simp only [Function.comp_def, Bool.and_eq_true, decide_eq_true_eq] at hi
      exact hi.1), Nat.add_zero]
    refine List.countP_congr fun i hi => ?_
    have := List.mem_range.mp hi
    simp only [Function.comp_def, Bool.and_eq_true, Bool.not_eq_true', decide_eq_true_eq, decide_eq_false_iff_not, Rat.not_lt]
    exact ⟨fun z => z.2, fun z => ⟨this, z⟩⟩
  have e2 : ∀ (l : List Nat), ((l.map fun i => wI α ps i).sum) = ((l.countP fun i => decide (ps.getD i 0 ≤ lv α ps.length (RN α ps)) : Nat) : Rat) * (1 / ((RN α ps : Nat) : Rat)) := fun l => by
    induction l with
    | nil => simp [Rat.zero_mul]
    | cons i l ih =>
      rw [List.map_cons, List.sum_cons, ih, List.countP_cons]
      unfold wI
      by_cases h : ps.getD i 0 ≤ lv α ps.length (RN α ps)
      · rw [if_pos h, if_pos (decide_eq_true h)]
        have : ((List.countP (fun i => decide (ps.getD i 0 ≤ lv α ps.length (RN α ps))) l + 1 : Nat) : Rat) = (List.countP (fun i => decide (ps.getD i 0 ≤ lv α ps.length (RN α ps))) l : Rat) + 1 := Rat.natCast_add _ _
        rw [this]
        generalize (1 : Rat) / ((RN α ps : Nat) : Rat) = B
        grind
      · rw [if_neg h, if_neg (by simpa using h), Nat.add_zero, Rat.zero_add]
  rw [e2, ← e1]
  unfold partQ
  by_cases h : noesL α ps = []
  · rw [if_pos h, h]
    have : wrN so [] = 0 := rfl
    rw [this]
    have : ((0 : Nat) : Rat) = 0 := rfl
    rw [this, Rat.zero_mul]
  · rw [if_neg h, hl, Rat.divInt_eq_div, Rat.div_def, Rat.div_def, Rat.one_mul]
    rfl
theorem parts_le {one : Bool} {many so : Nat} {coins : List Nat} {doubts hidden : List Rat} {α β : Rat} (D : Dr3 one many coins doubts hidden so) (hα0 : 0 ≤ α) (hβ : β = if one = true then α * (hs many)⁻¹ else α) : partsS one many coins doubts hidden so β ≤ α * (so : Rat) / (many : Rat) := by
  have hm23 := D.m23
  have hβ0 : 0 ≤ β := by
    rw [hβ]
    split
    · refine Rat.mul_nonneg hα0 ?_
      rcases hm23 with z | z <;> subst z <;> decide +kernel
    · exact hα0
  have h2 := lik_sum coins hidden 1 (dueQ one many coins doubts so β) D.hl.symm
  rw [Rat.one_mul] at h2
  have e : partsS one many coins doubts hidden so β = EX coins hidden (dueQ one many coins doubts so β) := by
    rw [← h2]
    unfold partsS ptG
    congr 1
    refine List.map_congr_left fun ys _ => ?_
    exact Rat.mul_comm _ _
  rw [e]
  have e2 : EX coins hidden (dueQ one many coins doubts so β) = EX coins hidden fun ys => ((List.range so).map fun i => wI β (pvs one many coins doubts ys) i).sum := by
    congr 1
    funext ys
    exact due_sum hβ0 (by rw [pvs_len]; exact D.sl)
  rw [e2, EX_sumL (List.range so) fun i ys => wI β (pvs one many coins doubts ys) i]
  have key : ∀ i ∈ List.range so, (EX coins hidden fun ys => wI β (pvs one many coins doubts ys) i) ≤ α / (many : Rat) := fun i hi => by
    have hi := List.mem_range.mp hi
    have him : i < many := Nat.lt_of_lt_of_le hi D.sl
    obtain ⟨n, en, hn, hx⟩ := coin_at (one := one) D.cl him
    obtain ⟨o1, o2⟩ := own_at D.cl D.hl D.hs him
    have dd := get_sh D.ds (i := i) (by rw [D.dl]; exact him)
    have hq : ∀ q ∈ hidden, 0 ≤ q ∧ q ≤ 1 := fun q hq => (D.hs q hq).2
    cases one with
    | true =>
      have hβ : β = α * (hs many)⁻¹ := hβ
      rw [hβ]
      refine by_one (j := 0) (n := n) (d := doubts.getD i 0) hq hx o1 o2.2.1 (D.ok i hi) dd.2.2 hα0 him hm23 (fun ys => pvs_len) fun ys => ?_
      rw [pvs_at him]
      unfold pAt
      rw [en]
      rfl
    | false =>
      have hβ : β = α := hβ
      rw [hβ]
      refine fdr_one (n := n) (d := doubts.getD i 0) D.hl.symm hq hx o1 o2.2.1 (D.ok i hi) dd.2.2 hα0 him (fun ys => pvs_len) (fun ys hy => ?_) fun ys y hy => ?_
      · rw [pvs_at him]
        unfold pAt
        rw [en]
        rfl
      · apply List.ext_getElem?
        intro j
        by_cases hj : j = i
        · subst hj
          rw [List.getElem?_set_self (by rw [pvs_len]; exact him), List.getElem?_set_self (by rw [pvs_len]; exact him)]
        · rw [List.getElem?_set_ne (Ne.symm hj), List.getElem?_set_ne (Ne.symm hj)]
          unfold pvs
          rw [List.getElem?_map, List.getElem?_map]
          cases hr : (List.range many)[j]? with
          | none => rfl
          | some j' =>
            have hjl := (List.getElem?_eq_some_iff.mp hr).1
            rw [List.length_range] at hjl
            rw [List.getElem?_range hjl] at hr
            cases hr
            show some (pAt false coins doubts (ys.set i y) j) = some (pAt false coins doubts ys j)
            unfold pAt yAt ixS
            simp only [Bool.false_eq_true, if_false]
            simp only [List.getD_eq_getElem?_getD, List.getElem?_set_ne (Ne.symm hj)]
  have h3 := sum_le (f := fun i => EX coins hidden fun ys => wI β (pvs one many coins doubts ys) i) (g := fun _ => α / (many : Rat)) key
  refine Rat.le_trans h3 ?_
  have h4 : ∀ l : List Nat, (l.map fun _ => α / (many : Rat)).sum = (l.length : Rat) * (α / (many : Rat)) := fun l => by
    induction l with
    | nil => simp [Rat.zero_mul]
    | cons a l ih =>
      rw [List.map_cons, List.sum_cons, ih, List.length_cons]
      have : ((l.length + 1 : Nat) : Rat) = (l.length : Rat) + 1 := Rat.natCast_add _ _
      rw [this]
      generalize α / (many : Rat) = B
      grind
  rw [h4, List.length_range, Rat.div_def, Rat.div_def]
  have : (so : Rat) * (α * ((many : Rat))⁻¹) = α * (so : Rat) * ((many : Rat))⁻¹ := by grind
  rw [this]
  exact Rat.le_refl

end LW
namespace LW
open PySem PySem.Spec MP MQ
/-! ### the law's turn: what is drawn -/
abbrev e17 (v : List (Option Val)) : MQ.Env := v ++ List.replicate (17 - v.length) none
theorem hint (i : Int) : bltV .int (.int i) = some (.int i) := id rfl
theorem drawA {K N l : Nat} {m : Mem} {a b c : Int} (h : m[l]? = some (potV a b c)) (P : Pot N a b c) (hN : N ≤ 9000) : ∃ (one : Bool) (many : Nat) (a' b' c' : Int), (many = 2 ∨ many = 3) ∧ Pot (N + 2) a' b' c' ∧
    exS ⟨runF T.Γ (K+1)⟩ (.asgs [1, 2] (.cons (.cmp .eq (.mcall f__law_take (.cons (.var 0) (.cons (.cst (.int 3)) .nil))) (.cst (.int 0))) (.cons (.op .add (.cst (.int 2)) (.blt .int (.mcall f__law_take (.cons (.var 0) (.cons (.cst (.int 2)) .nil))))) .nil))) (e17 [some (.ref l)]) m =
      .ok (.nx (e17 [some (.ref l), some (.bl one), some (.int (many : Nat))])) (m.set l (potV a' b' c')) := by
  obtain ⟨d1, a1, b1, c1, e1, h1, P1⟩ := take_ok (K := K) (u := 3) h P (by omega) (by decide) (by decide)
  obtain ⟨d2, a2, b2, c2, e2, h2, P2⟩ := take_ok (K := K) (u := 2) (m := m.set l (potV a1 b1 c1)) (set_get h) P1 (by omega) (by decide) (by decide)
  rw [List.set_set] at e2
  have e1 : runF T.Γ (K+1) f__law_take [.ref l, .int 3] m = .ok (.int (d1 : Nat)) (m.set l (potV a1 b1 c1)) := e1
  have e2 : runF T.Γ (K+1) f__law_take [.ref l, .int 2] (m.set l (potV a1 b1 c1)) = .ok (.int (d2 : Nat)) (m.set l (potV a2 b2 c2)) := e2
  have e3 : ((2 : Int) + (d2 : Int)) = ((2 + d2 : Nat) : Int) := by omega
  refine ⟨decide ((d1 : Int) = 0), 2 + d2, a2, b2, c2, by omega, P2, ?_⟩
  simp only [e17, getE_some, brB_bl, brO_some, asB_bl, asN_bl, asNeg_int, asI_int, nxF_nx, nxF_rt, fin_rt, fin_nx, ite_bind, ite_and, ite_or, rs_int, rs_bl, rs_tup, rs_lst, rs_scr, rs_non, ev_var, ev_cst, ev_op, ev_neg, ev_cmp, ev_chain, ev_and, ev_or, ev_not, ev_ife, ev_tup, ev_lst, ev_idx, ev_sl2, ev_sl3, ev_pcall, ev_mcall, ev_blt, ev_blt2, ev_isi, ev_lcF, ev_lqF, MQ.evs_nil, evs_cons, spl_lst, spl_tup, evs_star, evO_non, evO_som, evQ_of, evQ_rng1, evQ_rng2, evQ_rng3, evQ_zip2, evQ_zip3, evQ_enum, bnd_some, ex_asg, ex_asgs, ex_exp, ex_ret, ex_ite, ex_fr, exs_nil, exs_cons, seq_tup, seq_lst, seq_scr, map_some_, bt_nm, bt_tp, btp_nil, btp_cons, bind_ok, ofO_some, cmp_eq, cmp_ne, cmp_lt, cmp_le, cmp_gt, cmp_ge, op_add, op_sub, startE, List.map_cons, List.map_nil, List.length_cons, List.length_nil, List.replicate_succ, List.replicate_zero, Nat.reduceAdd, Nat.reduceSub, Nat.zero_add, List.cons_append, List.nil_append, List.getElem?_cons_zero, List.getElem?_cons_succ, List.set_cons_zero, List.set_cons_succ, cutO_lst, cutO_tup, cutO_scr, stepO_2, ev_lstM, ev_app, ev_ext, ev_rem, ev_frz, apT_some, apL_some, apV_lst, apR_ref, apO_some, memAt_hd, rs_hd, wipe_nil, wipe_cons, lcK_some, lcB_non, lcB_som, addO_some, addO_none, len_lst, len_tup, len_scr, tup_lst, lis_tup, lis_lst, if_true, if_false, Bool.false_eq_true, e1, e2, hint, e3]
theorem drawB {K N l many : Nat} {m : Mem} {a b c : Int} {one : Bool} (h : m[l]? = some (potV a b c)) (P : Pot N a b c) (hN : N ≤ 9000) (hm : many ≤ 4) : ∃ (so : Nat) (a' b' c' : Int), so ≤ many ∧ Pot (N + 1) a' b' c' ∧
    exS ⟨runF T.Γ (K+1)⟩ (.asg (.nm 3) (.blt .int (.mcall f__law_take (.cons (.var 0) (.cons (.op .add (.var 2) (.cst (.int 1))) .nil))))) (e17 [some (.ref l), some (.bl one), some (.int (many : Nat))]) m =
      .ok (.nx (e17 [some (.ref l), some (.bl one), some (.int (many : Nat)), some (.int (so : Nat))])) (m.set l (potV a' b' c')) := by
  obtain ⟨d1, a1, b1, c1, e1, h1, P1⟩ := take_ok (K := K) (u := many + 1) h P (by omega) (by omega) (by omega)
  have e3 : ((many : Int) + 1) = ((many + 1 : Nat) : Int) := by omega
  refine ⟨d1, a1, b1, c1, by omega, P1, ?_⟩
  simp only [e17, getE_some, brB_bl, brO_some, asB_bl, asN_bl, asNeg_int, asI_int, nxF_nx, nxF_rt, fin_rt, fin_nx, ite_bind, ite_and, ite_or, rs_int, rs_bl, rs_tup, rs_lst, rs_scr, rs_non, ev_var, ev_cst, ev_op, ev_neg, ev_cmp, ev_chain, ev_and, ev_or, ev_not, ev_ife, ev_tup, ev_lst, ev_idx, ev_sl2, ev_sl3, ev_pcall, ev_mcall, ev_blt, ev_blt2, ev_isi, ev_lcF, ev_lqF, MQ.evs_nil, evs_cons, spl_lst, spl_tup, evs_star, evO_non, evO_som, evQ_of, evQ_rng1, evQ_rng2, evQ_rng3, evQ_zip2, evQ_zip3, evQ_enum, bnd_some, ex_asg, ex_asgs, ex_exp, ex_ret, ex_ite, ex_fr, exs_nil, exs_cons, seq_tup, seq_lst, seq_scr, map_some_, bt_nm, bt_tp, btp_nil, btp_cons, bind_ok, ofO_some, cmp_eq, cmp_ne, cmp_lt, cmp_le, cmp_gt, cmp_ge, op_add, op_sub, startE, List.map_cons, List.map_nil, List.length_cons, List.length_nil, List.replicate_succ, List.replicate_zero, Nat.reduceAdd, Nat.reduceSub, Nat.zero_add, List.cons_append, List.nil_append, List.getElem?_cons_zero, List.getElem?_cons_succ, List.set_cons_zero, List.set_cons_succ, cutO_lst, cutO_tup, cutO_scr, stepO_2, ev_lstM, ev_app, ev_ext, ev_rem, ev_frz, apT_some, apL_some, apV_lst, apR_ref, apO_some, memAt_hd, rs_hd, wipe_nil, wipe_cons, lcK_some, lcB_non, lcB_som, addO_some, addO_none, len_lst, len_tup, len_scr, tup_lst, lis_tup, lis_lst, if_true, if_false, Bool.false_eq_true, e3, e1, hint]
theorem drawC {K N l many so : Nat} {m : Mem} {a b c : Int} {one : Bool} (h : m[l]? = some (potV a b c)) (P : Pot N a b c) (hN : N ≤ 8000) (hm : many ≤ 4) : ∃ (coins : List Nat) (a' b' c' : Int), (coins.length = if one = true then 1 else many) ∧ (∀ n ∈ coins, 1 ≤ n ∧ n ≤ 4) ∧ Pot (N + 4) a' b' c' ∧
    exS ⟨runF T.Γ (K+1)⟩ (.asg (.nm 4) (.ife (.var 1) (.lst false (.cons (.op .add (.cst (.int 1)) (.blt .int (.mcall f__law_take (.cons (.var 0) (.cons (.cst (.int 4)) .nil))))) .nil)) (.lc false (.op .add (.cst (.int 1)) (.blt .int (.mcall f__law_take (.cons (.var 0) (.cons (.cst (.int 3)) .nil))))) (.nm 14) (.rng1 (.var 2)) .non [14]))) (e17 [some (.ref l), some (.bl one), some (.int (many : Nat)), some (.int (so : Nat))]) m =
      .ok (.nx (e17 [some (.ref l), some (.bl one), some (.int (many : Nat)), some (.int (so : Nat)), some (.lst (coins.map fun i => Val.int (i : Nat)))])) (m.set l (potV a' b' c')) := by
  cases one with
  | true =>
    obtain ⟨d1, a1, b1, c1, e1, h1, P1⟩ := take_ok (K := K) (u := 4) h P (by omega) (by decide) (by decide)
    have e1 : runF T.Γ (K+1) f__law_take [.ref l, .int 4] m = .ok (.int (d1 : Nat)) (m.set l (potV a1 b1 c1)) := e1
    have e3 : ((1 : Int) + (d1 : Int)) = ((1 + d1 : Nat) : Int) := by omega
    refine ⟨[1 + d1], a1, b1, c1, rfl, fun n hn => by rw [List.mem_singleton.mp hn]; omega, ⟨P1.a0, P1.a1, P1.b0, P1.b1, P1.c0, by have := P1.c1; omega⟩, ?_⟩
    simp only [e17, getE_some, brB_bl, brO_some, asB_bl, asN_bl, asNeg_int, asI_int, nxF_nx, nxF_rt, fin_rt, fin_nx, ite_bind, ite_and, ite_or, rs_int, rs_bl, rs_tup, rs_lst, rs_scr, rs_non, ev_var, ev_cst, ev_op, ev_neg, ev_cmp, ev_chain, ev_and, ev_or, ev_not, ev_ife, ev_tup, ev_lst, ev_idx, ev_sl2, ev_sl3, ev_pcall, ev_mcall, ev_blt, ev_blt2, ev_isi, ev_lcF, ev_lqF, MQ.evs_nil, evs_cons, spl_lst, spl_tup, evs_star, evO_non, evO_som, evQ_of, evQ_rng1, evQ_rng2, evQ_rng3, evQ_zip2, evQ_zip3, evQ_enum, bnd_some, ex_asg, ex_asgs, ex_exp, ex_ret, ex_ite, ex_fr, exs_nil, exs_cons, seq_tup, seq_lst, seq_scr, map_some_, bt_nm, bt_tp, btp_nil, btp_cons, bind_ok, ofO_some, cmp_eq, cmp_ne, cmp_lt, cmp_le, cmp_gt, cmp_ge, op_add, op_sub, startE, List.map_cons, List.map_nil, List.length_cons, List.length_nil, List.replicate_succ, List.replicate_zero, Nat.reduceAdd, Nat.reduceSub, Nat.zero_add, List.cons_append, List.nil_append, List.getElem?_cons_zero, List.getElem?_cons_succ, List.set_cons_zero, List.set_cons_succ, cutO_lst, cutO_tup, cutO_scr, stepO_2, ev_lstM, ev_app, ev_ext, ev_rem, ev_frz, apT_some, apL_some, apV_lst, apR_ref, apO_some, memAt_hd, rs_hd, wipe_nil, wipe_cons, lcK_some, lcB_non, lcB_som, addO_some, addO_none, len_lst, len_tup, len_scr, tup_lst, lis_tup, lis_lst, if_true, if_false, Bool.false_eq_true, e1, hint, e3, LL, Nat.reduceLeDiff, ite_true]
  | false =>
    have hset : m.set l (potV a b c) = m := set_self h
    obtain ⟨ws, a1, b1, c1, e1, l1, g1, P1⟩ := mapR_pot (l := l) (s := 1) (B := 9000) (m := m) (Good := fun w => ∃ n : Nat, w = .int (n : Nat) ∧ 1 ≤ n ∧ n ≤ 4)
      (f := lcB ⟨runF T.Γ (K+1)⟩ (.op .add (.cst (.int 1)) (.blt .int (.mcall f__law_take (.cons (.var 0) (.cons (.cst (.int 3)) .nil))))) (.nm 14) .non (e17 [some (.ref l), some (.bl false), some (.int (many : Nat)), some (.int (so : Nat))]))
      (fun v N a b c P hN => by
        obtain ⟨d1, a1, b1, c1, e1, h1, P1⟩ := take_ok (K := K) (u := 3) (m := m.set l (potV a b c)) (set_get h) P (by omega) (by decide) (by decide)
        rw [List.set_set] at e1
        have e1 : runF T.Γ (K+1) f__law_take [.ref l, .int 3] (m.set l (potV a b c)) = .ok (.int (d1 : Nat)) (m.set l (potV a1 b1 c1)) := e1
        have e3 : ((1 : Int) + (d1 : Int)) = ((1 + d1 : Nat) : Int) := by omega
        refine ⟨.int ((1 + d1 : Nat) : Int), a1, b1, c1, ?_, ⟨1 + d1, rfl, by omega, by omega⟩, P1⟩
        simp only [e17, getE_some, brB_bl, brO_some, asB_bl, asN_bl, asNeg_int, asI_int, nxF_nx, nxF_rt, fin_rt, fin_nx, ite_bind, ite_and, ite_or, rs_int, rs_bl, rs_tup, rs_lst, rs_scr, rs_non, ev_var, ev_cst, ev_op, ev_neg, ev_cmp, ev_chain, ev_and, ev_or, ev_not, ev_ife, ev_tup, ev_lst, ev_idx, ev_sl2, ev_sl3, ev_pcall, ev_mcall, ev_blt, ev_blt2, ev_isi, ev_lcF, ev_lqF, MQ.evs_nil, evs_cons, spl_lst, spl_tup, evs_star, evO_non, evO_som, evQ_of, evQ_rng1, evQ_rng2, evQ_rng3, evQ_zip2, evQ_zip3, evQ_enum, bnd_some, ex_asg, ex_asgs, ex_exp, ex_ret, ex_ite, ex_fr, exs_nil, exs_cons, seq_tup, seq_lst, seq_scr, map_some_, bt_nm, bt_tp, btp_nil, btp_cons, bind_ok, ofO_some, cmp_eq, cmp_ne, cmp_lt, cmp_le, cmp_gt, cmp_ge, op_add, op_sub, startE, List.map_cons, List.map_nil, List.length_cons, List.length_nil, List.replicate_succ, List.replicate_zero, Nat.reduceAdd, Nat.reduceSub, Nat.zero_add, List.cons_append, List.nil_append, List.getElem?_cons_zero, List.getElem?_cons_succ, List.set_cons_zero, List.set_cons_succ, cutO_lst, cutO_tup, cutO_scr, stepO_2, ev_lstM, ev_app, ev_ext, ev_rem, ev_frz, apT_some, apL_some, apV_lst, apR_ref, apO_some, memAt_hd, rs_hd, wipe_nil, wipe_cons, lcK_some, lcB_non, lcB_som, addO_some, addO_none, len_lst, len_tup, len_scr, tup_lst, lis_tup, lis_lst, if_true, if_false, Bool.false_eq_true, e1, hint, e3]) (rngL 0 many) N a b c P (by rw [rngL_length]; omega)
    rw [hset] at e1
    obtain ⟨coins, hc, hcl, hcg⟩ := good_list g1
    have hr : rng1V (.int (many : Nat)) = some (rngL 0 many) := rng1_ok (by omega)
    rw [rngL_length] at l1 P1
    refine ⟨coins, a1, b1, c1, by rw [hcl, l1]; rfl, hcg, ⟨P1.a0, P1.a1, P1.b0, P1.b1, P1.c0, by have := P1.c1; omega⟩, ?_⟩
    simp only [e17, List.length_cons, List.length_nil, Nat.reduceAdd, Nat.reduceSub, Nat.zero_add, List.replicate_succ, List.replicate_zero, List.cons_append, List.nil_append] at e1
    simp only [e17, getE_some, brB_bl, brO_some, asB_bl, asN_bl, asNeg_int, asI_int, nxF_nx, nxF_rt, fin_rt, fin_nx, ite_bind, ite_and, ite_or, rs_int, rs_bl, rs_tup, rs_lst, rs_scr, rs_non, ev_var, ev_cst, ev_op, ev_neg, ev_cmp, ev_chain, ev_and, ev_or, ev_not, ev_ife, ev_tup, ev_lst, ev_idx, ev_sl2, ev_sl3, ev_pcall, ev_mcall, ev_blt, ev_blt2, ev_isi, ev_lcF, ev_lqF, MQ.evs_nil, evs_cons, spl_lst, spl_tup, evs_star, evO_non, evO_som, evQ_of, evQ_rng1, evQ_rng2, evQ_rng3, evQ_zip2, evQ_zip3, evQ_enum, bnd_some, ex_asg, ex_asgs, ex_exp, ex_ret, ex_ite, ex_fr, exs_nil, exs_cons, seq_tup, seq_lst, seq_scr, map_some_, bt_nm, bt_tp, btp_nil, btp_cons, bind_ok, ofO_some, cmp_eq, cmp_ne, cmp_lt, cmp_le, cmp_gt, cmp_ge, op_add, op_sub, startE, List.map_cons, List.map_nil, List.length_cons, List.length_nil, List.replicate_succ, List.replicate_zero, Nat.reduceAdd, Nat.reduceSub, Nat.zero_add, List.cons_append, List.nil_append, List.getElem?_cons_zero, List.getElem?_cons_succ, List.set_cons_zero, List.set_cons_succ, cutO_lst, cutO_tup, cutO_scr, stepO_2, ev_lstM, ev_app, ev_ext, ev_rem, ev_frz, apT_some, apL_some, apV_lst, apR_ref, apO_some, memAt_hd, rs_hd, wipe_nil, wipe_cons, lcK_some, lcB_non, lcB_som, addO_some, addO_none, len_lst, len_tup, len_scr, tup_lst, lis_tup, lis_lst, if_true, if_false, Bool.false_eq_true, hr, e1, hc]
theorem drawD {K N l many so : Nat} {m : Mem} {a b c : Int} {one : Bool} {coins : List Nat} (h : m[l]? = some (potV a b c)) (P : Pot N a b c) (hN : N ≤ 7000) (hc : coins.length ≤ 4) : ∃ (hidden : List Rat) (a' b' c' : Int), hidden.length = coins.length ∧ (∀ q ∈ hidden, Sh q) ∧ Pot (N + 8) a' b' c' ∧
    exS ⟨runF T.Γ (K+3)⟩ (.asg (.nm 5) (.lc false (.mcall f__law_share (.cons (.var 0) .nil)) (.nm 15) (.of (.var 4)) .non [15])) (e17 [some (.ref l), some (.bl one), some (.int (many : Nat)), some (.int (so : Nat)), some (.lst (coins.map fun i => Val.int (i : Nat)))]) m =
      .ok (.nx (e17 [some (.ref l), some (.bl one), some (.int (many : Nat)), some (.int (so : Nat)), some (.lst (coins.map fun i => Val.int (i : Nat))), some (.lst (hidden.map fq))])) (m.set l (potV a' b' c')) := by
  obtain ⟨hs, a2, b2, c2, e2, l2, g2, P2⟩ := shares_pot (K := K) (i := 15) (e := e17 [some (.ref l), some (.bl one), some (.int (many : Nat)), some (.int (so : Nat)), some (.lst (coins.map fun i => Val.int (i : Nat)))]) (fun v => rfl) h (coins.map fun i => Val.int (i : Nat)) N a b c P (by rw [List.length_map]; omega)
  rw [set_self h] at e2
  rw [List.length_map] at l2 P2
  refine ⟨hs, a2, b2, c2, l2, g2, ⟨P2.a0, P2.a1, P2.b0, P2.b1, P2.c0, by have := P2.c1; omega⟩, ?_⟩
  simp only [e17, List.length_cons, List.length_nil, Nat.reduceAdd, Nat.reduceSub, Nat.zero_add, List.replicate_succ, List.replicate_zero, List.cons_append, List.nil_append] at e2
  simp only [e17, getE_some, brB_bl, brO_some, asB_bl, asN_bl, asNeg_int, asI_int, nxF_nx, nxF_rt, fin_rt, fin_nx, ite_bind, ite_and, ite_or, rs_int, rs_bl, rs_tup, rs_lst, rs_scr, rs_non, ev_var, ev_cst, ev_op, ev_neg, ev_cmp, ev_chain, ev_and, ev_or, ev_not, ev_ife, ev_tup, ev_lst, ev_idx, ev_sl2, ev_sl3, ev_pcall, ev_mcall, ev_blt, ev_blt2, ev_isi, ev_lcF, ev_lqF, MQ.evs_nil, evs_cons, spl_lst, spl_tup, evs_star, evO_non, evO_som, evQ_of, evQ_rng1, evQ_rng2, evQ_rng3, evQ_zip2, evQ_zip3, evQ_enum, bnd_some, ex_asg, ex_asgs, ex_exp, ex_ret, ex_ite, ex_fr, exs_nil, exs_cons, seq_tup, seq_lst, seq_scr, map_some_, bt_nm, bt_tp, btp_nil, btp_cons, bind_ok, ofO_some, cmp_eq, cmp_ne, cmp_lt, cmp_le, cmp_gt, cmp_ge, op_add, op_sub, startE, List.map_cons, List.map_nil, List.length_cons, List.length_nil, List.replicate_succ, List.replicate_zero, Nat.reduceAdd, Nat.reduceSub, Nat.zero_add, List.cons_append, List.nil_append, List.getElem?_cons_zero, List.getElem?_cons_succ, List.set_cons_zero, List.set_cons_succ, cutO_lst, cutO_tup, cutO_scr, stepO_2, ev_lstM, ev_app, ev_ext, ev_rem, ev_frz, apT_some, apL_some, apV_lst, apR_ref, apO_some, memAt_hd, rs_hd, wipe_nil, wipe_cons, lcK_some, lcB_non, lcB_som, addO_some, addO_none, len_lst, len_tup, len_scr, tup_lst, lis_tup, lis_lst, if_true, if_false, Bool.false_eq_true, e2]
theorem mset1 {m : Mem} {l : Nat} {x p : MO} (hl : l < m.length) : ((m ++ [x]).set l p)[m.length]? = some x := by
  rw [List.getElem?_set_ne (by omega)]
  exact get_end
theorem mset2 {m : Mem} {l : Nat} {x y p : MO} (hl : l < m.length) : ((m ++ [x]).set l p).set m.length y = (m ++ [y]).set l p := by
  rw [List.set_comm _ _ (by omega), set_end]
theorem mset3 {m : Mem} {l : Nat} {x p : MO} (hl : l < m.length) : m.set l p ++ [x] = (m ++ [x]).set l p := by
  rw [List.set_append_left _ _ hl]
/-- one more doubt -/
theorem pick_ok {os : List Rat} {o : Rat} {t : Bool} (ho : Sh o) (hos : ∀ q ∈ os, Sh q) : ∃ d, ((os ++ [o]).filter (fun x => decide (o ≤ x) == t) = [] → d = o) ∧ (∀ x xs, (os ++ [o]).filter (fun x => decide (o ≤ x) == t) = x :: xs → d = x) ∧ Sh d ∧ (t = true → o ≤ d) := by
  cases hf : (os ++ [o]).filter (fun x => decide (o ≤ x) == t) with
  | nil => exact ⟨o, fun _ => rfl, fun x xs h => by (cases h), ho, fun _ => Rat.le_refl⟩
  | cons x xs =>
    have hx : x ∈ (os ++ [o]).filter (fun x => decide (o ≤ x) == t) := by rw [hf]; exact List.mem_cons_self
    obtain ⟨h1, h2⟩ := List.mem_filter.mp hx
    refine ⟨x, fun h => by (cases h), fun y ys h => by (cases h; rfl), ?_, fun ht => ?_⟩
    · rcases List.mem_append.mp h1 with z | z
      · exact hos x z
      · rw [List.mem_singleton.mp z]; exact ho
    · rw [ht] at h2
      simpa using h2
theorem w_doubts {K l many so : Nat} {m : Mem} {one : Bool} {coins : Val} {hidden : Val} {own : List Rat} (hl : l < m.length) (hown : own.length = many) (hsh : ∀ q ∈ own, Sh q) : ∀ (n j : Nat) (ds : List Rat) (N : Nat) (a b c : Int) (x y : Option Val), j + n = many → ds.length = j → (∀ q ∈ ds, Sh q) → (∀ i, i < j → i < so → own.getD i 0 ≤ ds.getD i 0) → Pot N a b c → N + n * 8 ≤ 7000 → j + n ≤ 4 →
    ∃ (ds' : List Rat) (a' b' c' : Int) (x' y' : Option Val), ds'.length = many ∧ (∀ q ∈ ds', Sh q) ∧ (∀ i, i < many → i < so → own.getD i 0 ≤ ds'.getD i 0) ∧ Pot (N + n * 8) a' b' c' ∧
    frGo (.nm 8) (exSs ⟨runF T.Γ (K+3)⟩ (.cons (.asg (.nm 9) (.lc false (.var 15) (.nm 15) (.of (.op .add (.lc false (.mcall f__law_share (.cons (.var 0) .nil)) (.nm 14) (.rng1 (.cst (.int 4))) .non [14]) (.lst false (.cons (.idx (.var 6) (.var 8)) .nil)))) (.som (.cmp .eq (.pcall false f__law_no_more (.cons (.idx (.var 6) (.var 8)) (.cons (.var 15) .nil))) (.cmp .lt (.var 8) (.var 3)))) [15]))
    (.cons (.exp (.app (.var 7) (.ife (.cmp .ne (.var 9) (.lst false .nil)) (.idx (.var 9) (.cst (.int 0))) (.idx (.var 6) (.var 8)))))
    .nil))) ((List.range' j n).map fun k => Val.int (k : Nat)) (e17 [some (.ref l), some (.bl one), some (.int (many : Nat)), some (.int (so : Nat)), some coins, some hidden, some (.lst (own.map fq)), some (.ref m.length), x, y]) ((m ++ [MO.lst (ds.map fq)]).set l (potV a b c)) =
      .ok (.nx (e17 [some (.ref l), some (.bl one), some (.int (many : Nat)), some (.int (so : Nat)), some coins, some hidden, some (.lst (own.map fq)), some (.ref m.length), x', y'])) ((m ++ [MO.lst (ds'.map fq)]).set l (potV a' b' c'))
  | 0, j, ds, N, a, b, c, x, y, hj, hd, hs, ho, P, hN, h4 => ⟨ds, a, b, c, x, y, by omega, hs, fun i h1 h2 => ho i (by omega) h2, by simpa using P, by rw [List.range'_zero, List.map_nil, fr_nil]⟩
  | n + 1, j, ds, N, a, b, c, x, y, hj, hd, hs, ho, P, hN, h4 => by
    have hmul : (n + 1) * 8 = n * 8 + 8 := Nat.succ_mul _ _
    have hjo : own[j]? = some (own.getD j 0) := by
      rw [List.getD_eq_getElem?_getD, List.getElem?_eq_getElem (by omega)]
      rfl
    generalize ho' : own.getD j 0 = o at hjo
    have hoS : Sh o := hsh o (List.mem_of_getElem? hjo)
    have hlB : l < (m ++ [MO.lst (ds.map fq)]).length := by rw [List.length_append]; omega
    obtain ⟨x0, hx0⟩ : ∃ x0, (m ++ [MO.lst (ds.map fq)])[l]? = some x0 := ⟨_, List.getElem?_eq_getElem hlB⟩
    obtain ⟨os, a1, b1, c1, e1, l1, g1, P1⟩ := shares_pot (K := K) (i := 14) (e := e17 [some (.ref l), some (.bl one), some (.int (many : Nat)), some (.int (so : Nat)), some coins, some hidden, some (.lst (own.map fq)), some (.ref m.length), some (.int (j : Nat)), y]) (fun v => rfl) hx0 (rngL 0 4) N a b c P (by rw [rngL_length]; omega)
    rw [rngL_length] at l1 P1
    obtain ⟨d, k1, k2, k3, k4⟩ := pick_ok (t := decide (j < so)) hoS g1
    obtain ⟨ds', a2, b2, c2, x', y', r1, r2, r3, r4, e2⟩ := w_doubts (K := K) (one := one) (so := so) (coins := coins) (hidden := hidden) hl hown hsh n (j + 1) (ds ++ [d]) (N + 8) a1 b1 c1 (some (.int (j : Nat))) (some (.lst (((os ++ [o]).filter (fun x => decide (o ≤ x) == decide (j < so))).map fq))) (by omega) (by rw [List.length_append, hd]; rfl) (fun q hq => by
        rcases List.mem_append.mp hq with z | z
        · exact hs q z
        · rw [List.mem_singleton.mp z]; exact k3) (fun i h1 h2 => by
        by_cases hi : i < j
        · have := ho i hi h2
          rw [List.getD_eq_getElem?_getD] at this ⊢
          rw [List.getD_eq_getElem?_getD] at this ⊢
          rw [List.getElem?_append_left (by omega)]
          exact this
        · have : i = j := by omega
          subst this
          rw [ho']
          have h3 := k4 (decide_eq_true h2)
          rw [List.getD_eq_getElem?_getD, List.getElem?_append_right (by omega), hd, Nat.sub_self]
          exact h3) P1 (by omega) (by omega)
    refine ⟨ds', a2, b2, c2, x', y', r1, r2, r3, ⟨r4.a0, r4.a1, r4.b0, r4.b1, r4.c0, by have := r4.c1; omega⟩, ?_⟩
    have hr : rng1V (.int 4) = some (rngL 0 4) := rng1_ok (n := 4) (by decide)
    have hix : idxV (.lst (own.map fq)) (.int (j : Nat)) = some (fq o) := idx_lst (by rw [List.getElem?_map, hjo]; rfl)
    have hlt : decide ((j : Int) < (so : Int)) = decide (j < so) := by
      by_cases z : j < so
      · rw [decide_eq_true z, decide_eq_true (by omega)]
      · rw [decide_eq_false z, decide_eq_false (by omega)]
    have hcat : opV .add (.lst (os.map fq)) (.lst [fq o]) = some (.lst ((os ++ [o]).map fq)) := by
      rw [op_catL (by rw [List.length_map, l1]; show 4 + 1 ≤ LL; decide), List.map_append]
      rfl
    have hmap : mapR (lcB ⟨runF T.Γ (K+3)⟩ (.var 15) (.nm 15) (.som (.cmp .eq (.pcall false f__law_no_more (.cons (.idx (.var 6) (.var 8)) (.cons (.var 15) .nil))) (.cmp .lt (.var 8) (.var 3)))) (e17 [some (.ref l), some (.bl one), some (.int (many : Nat)), some (.int (so : Nat)), some coins, some hidden, some (.lst (own.map fq)), some (.ref m.length), some (.int (j : Nat)), y])) ((os ++ [o]).map fq) ((m ++ [MO.lst (ds.map fq)]).set l (potV a1 b1 c1)) = .ok (((os ++ [o]).filter (fun x => decide (o ≤ x) == decide (j < so))).map fq) ((m ++ [MO.lst (ds.map fq)]).set l (potV a1 b1 c1)) := mapR_if fun q hq => by
      have hq2 : Sh q := by
        rcases List.mem_append.mp hq with z | z
        · exact g1 q z
        · rw [List.mem_singleton.mp z]; exact hoS
      have pn := fun m => p__law_no_more (K := K + 1) (m := m) hoS.1 hq2.1 (by decide : 7 + 7 < 9000)
      simp only [e17, getE_some, brB_bl, brO_some, asB_bl, asN_bl, asNeg_int, asI_int, nxF_nx, nxF_rt, fin_rt, fin_nx, ite_bind, ite_and, ite_or, rs_int, rs_bl, rs_tup, rs_lst, rs_scr, rs_non, ev_var, ev_cst, ev_op, ev_neg, ev_cmp, ev_chain, ev_and, ev_or, ev_not, ev_ife, ev_tup, ev_lst, ev_idx, ev_sl2, ev_sl3, ev_pcall, ev_mcall, ev_blt, ev_blt2, ev_isi, ev_lcF, ev_lqF, MQ.evs_nil, evs_cons, spl_lst, spl_tup, evs_star, evO_non, evO_som, evQ_of, evQ_rng1, evQ_rng2, evQ_rng3, evQ_zip2, evQ_zip3, evQ_enum, bnd_some, ex_asg, ex_asgs, ex_exp, ex_ret, ex_ite, ex_fr, exs_nil, exs_cons, seq_tup, seq_lst, seq_scr, map_some_, bt_nm, bt_tp, btp_nil, btp_cons, bind_ok, ofO_some, cmp_eq, cmp_ne, cmp_lt, cmp_le, cmp_gt, cmp_ge, op_add, op_sub, startE, List.map_cons, List.map_nil, List.length_cons, List.length_nil, List.replicate_succ, List.replicate_zero, Nat.reduceAdd, Nat.reduceSub, Nat.zero_add, List.cons_append, List.nil_append, List.getElem?_cons_zero, List.getElem?_cons_succ, List.set_cons_zero, List.set_cons_succ, cutO_lst, cutO_tup, cutO_scr, stepO_2, ev_lstM, ev_app, ev_ext, ev_rem, ev_frz, apT_some, apL_some, apV_lst, apR_ref, apO_some, memAt_hd, rs_hd, wipe_nil, wipe_cons, lcK_some, lcB_non, lcB_som, addO_some, addO_none, len_lst, len_tup, len_scr, tup_lst, lis_tup, lis_lst, if_true, if_false, Bool.false_eq_true, hix, pn, hlt, cmp_eqB]
      split <;> rfl
    have hm1 := mset1 (m := m) (l := l) (x := .lst (ds.map fq)) (p := potV a1 b1 c1) hl
    have hma := memAt_of hm1
    have hm2 := mset2 (m := m) (l := l) (x := .lst (ds.map fq)) (y := .lst (ds.map fq ++ [fq d])) (p := potV a1 b1 c1) hl
    have hLL : ((ds.map fq).length < LL) = True := by
      rw [List.length_map]
      exact eq_true (Nat.lt_of_lt_of_le (show ds.length < 1001 by omega) (by decide))
    have hpick : ∀ mm y2, evE ⟨runF T.Γ (K+3)⟩ (.ife (.cmp .ne (.var 9) (.lst false .nil)) (.idx (.var 9) (.cst (.int 0))) (.idx (.var 6) (.var 8))) (e17 [some (.ref l), some (.bl one), some (.int (many : Nat)), some (.int (so : Nat)), some coins, some hidden, some (.lst (own.map fq)), some y2, some (.int (j : Nat)), some (.lst (((os ++ [o]).filter (fun x => decide (o ≤ x) == decide (j < so))).map fq))]) mm = .ok (fq d) mm := fun mm y2 => by
      cases hf : (os ++ [o]).filter (fun x => decide (o ≤ x) == decide (j < so)) with
      | nil =>
        rw [k1 hf]
        have hc : cmpV .ne (.lst []) (.lst []) = some false := cmp_neL [] []
        simp only [e17, getE_some, brB_bl, brO_some, asB_bl, asN_bl, asNeg_int, asI_int, nxF_nx, nxF_rt, fin_rt, fin_nx, ite_bind, ite_and, ite_or, rs_int, rs_bl, rs_tup, rs_lst, rs_scr, rs_non, ev_var, ev_cst, ev_op, ev_neg, ev_cmp, ev_chain, ev_and, ev_or, ev_not, ev_ife, ev_tup, ev_lst, ev_idx, ev_sl2, ev_sl3, ev_pcall, ev_mcall, ev_blt, ev_blt2, ev_isi, ev_lcF, ev_lqF, MQ.evs_nil, evs_cons, spl_lst, spl_tup, evs_star, evO_non, evO_som, evQ_of, evQ_rng1, evQ_rng2, evQ_rng3, evQ_zip2, evQ_zip3, evQ_enum, bnd_some, ex_asg, ex_asgs, ex_exp, ex_ret, ex_ite, ex_fr, exs_nil, exs_cons, seq_tup, seq_lst, seq_scr, map_some_, bt_nm, bt_tp, btp_nil, btp_cons, bind_ok, ofO_some, cmp_eq, cmp_ne, cmp_lt, cmp_le, cmp_gt, cmp_ge, op_add, op_sub, startE, List.map_cons, List.map_nil, List.length_cons, List.length_nil, List.replicate_succ, List.replicate_zero, Nat.reduceAdd, Nat.reduceSub, Nat.zero_add, List.cons_append, List.nil_append, List.getElem?_cons_zero, List.getElem?_cons_succ, List.set_cons_zero, List.set_cons_succ, cutO_lst, cutO_tup, cutO_scr, stepO_2, ev_lstM, ev_app, ev_ext, ev_rem, ev_frz, apT_some, apL_some, apV_lst, apR_ref, apO_some, memAt_hd, rs_hd, wipe_nil, wipe_cons, lcK_some, lcB_non, lcB_som, addO_some, addO_none, len_lst, len_tup, len_scr, tup_lst, lis_tup, lis_lst, if_true, if_false, Bool.false_eq_true, LL, Nat.zero_le, hc, hix, ite_true]
      | cons z zs =>
        rw [k2 z zs hf]
        have hc : cmpV .ne (.lst ((z :: zs).map fq)) (.lst []) = some true := by
          have := cmp_neL (z :: zs) []
          rw [decide_eq_false (by simp)] at this
          exact this
        have h0 : idxV (.lst ((z :: zs).map fq)) (.int 0) = some (fq z) := idx_lst (i := 0) rfl
        generalize (z :: zs).map fq = Z at hc h0
        simp only [e17, getE_some, brB_bl, brO_some, asB_bl, asN_bl, asNeg_int, asI_int, nxF_nx, nxF_rt, fin_rt, fin_nx, ite_bind, ite_and, ite_or, rs_int, rs_bl, rs_tup, rs_lst, rs_scr, rs_non, ev_var, ev_cst, ev_op, ev_neg, ev_cmp, ev_chain, ev_and, ev_or, ev_not, ev_ife, ev_tup, ev_lst, ev_idx, ev_sl2, ev_sl3, ev_pcall, ev_mcall, ev_blt, ev_blt2, ev_isi, ev_lcF, ev_lqF, MQ.evs_nil, evs_cons, spl_lst, spl_tup, evs_star, evO_non, evO_som, evQ_of, evQ_rng1, evQ_rng2, evQ_rng3, evQ_zip2, evQ_zip3, evQ_enum, bnd_some, ex_asg, ex_asgs, ex_exp, ex_ret, ex_ite, ex_fr, exs_nil, exs_cons, seq_tup, seq_lst, seq_scr, map_some_, bt_nm, bt_tp, btp_nil, btp_cons, bind_ok, ofO_some, cmp_eq, cmp_ne, cmp_lt, cmp_le, cmp_gt, cmp_ge, op_add, op_sub, startE, List.map_cons, List.map_nil, List.length_cons, List.length_nil, List.replicate_succ, List.replicate_zero, Nat.reduceAdd, Nat.reduceSub, Nat.zero_add, List.cons_append, List.nil_append, List.getElem?_cons_zero, List.getElem?_cons_succ, List.set_cons_zero, List.set_cons_succ, cutO_lst, cutO_tup, cutO_scr, stepO_2, ev_lstM, ev_app, ev_ext, ev_rem, ev_frz, apT_some, apL_some, apV_lst, apR_ref, apO_some, memAt_hd, rs_hd, wipe_nil, wipe_cons, lcK_some, lcB_non, lcB_som, addO_some, addO_none, len_lst, len_tup, len_scr, tup_lst, lis_tup, lis_lst, if_true, if_false, Bool.false_eq_true, LL, Nat.zero_le, hc, h0, ite_true]
    rw [List.range'_succ, List.map_cons, fr_cons]
    rw [List.map_append] at e2
    have e2 := e2
    simp only [List.map_cons, List.map_nil] at e2
    generalize hF : ((os ++ [o]).filter (fun x => decide (o ≤ x) == decide (j < so))).map fq = F at hmap hpick e2
    have s1 : exS ⟨runF T.Γ (K+3)⟩ (.asg (.nm 9) (.lc false (.var 15) (.nm 15) (.of (.op .add (.lc false (.mcall f__law_share (.cons (.var 0) .nil)) (.nm 14) (.rng1 (.cst (.int 4))) .non [14]) (.lst false (.cons (.idx (.var 6) (.var 8)) .nil)))) (.som (.cmp .eq (.pcall false f__law_no_more (.cons (.idx (.var 6) (.var 8)) (.cons (.var 15) .nil))) (.cmp .lt (.var 8) (.var 3)))) [15])) (e17 [some (.ref l), some (.bl one), some (.int (many : Nat)), some (.int (so : Nat)), some coins, some hidden, some (.lst (own.map fq)), some (.ref m.length), some (.int (j : Nat)), y]) ((m ++ [MO.lst (ds.map fq)]).set l (potV a b c)) =
        .ok (.nx (e17 [some (.ref l), some (.bl one), some (.int (many : Nat)), some (.int (so : Nat)), some coins, some hidden, some (.lst (own.map fq)), some (.ref m.length), some (.int (j : Nat)), some (.lst F)])) ((m ++ [MO.lst (ds.map fq)]).set l (potV a1 b1 c1)) := by
      simp only [e17, List.length_cons, List.length_nil, Nat.reduceAdd, Nat.reduceSub, Nat.zero_add, List.replicate_succ, List.replicate_zero, List.cons_append, List.nil_append] at e1 hmap
      simp only [e17, getE_some, brB_bl, brO_some, asB_bl, asN_bl, asNeg_int, asI_int, nxF_nx, nxF_rt, fin_rt, fin_nx, ite_bind, ite_and, ite_or, rs_int, rs_bl, rs_tup, rs_lst, rs_scr, rs_non, ev_var, ev_cst, ev_op, ev_neg, ev_cmp, ev_chain, ev_and, ev_or, ev_not, ev_ife, ev_tup, ev_lst, ev_idx, ev_sl2, ev_sl3, ev_pcall, ev_mcall, ev_blt, ev_blt2, ev_isi, ev_lcF, ev_lqF, MQ.evs_nil, evs_cons, spl_lst, spl_tup, evs_star, evO_non, evO_som, evQ_of, evQ_rng1, evQ_rng2, evQ_rng3, evQ_zip2, evQ_zip3, evQ_enum, bnd_some, ex_asg, ex_asgs, ex_exp, ex_ret, ex_ite, ex_fr, exs_nil, exs_cons, seq_tup, seq_lst, seq_scr, map_some_, bt_nm, bt_tp, btp_nil, btp_cons, bind_ok, ofO_some, cmp_eq, cmp_ne, cmp_lt, cmp_le, cmp_gt, cmp_ge, op_add, op_sub, startE, List.map_cons, List.map_nil, List.length_cons, List.length_nil, List.replicate_succ, List.replicate_zero, Nat.reduceAdd, Nat.reduceSub, Nat.zero_add, List.cons_append, List.nil_append, List.getElem?_cons_zero, List.getElem?_cons_succ, List.set_cons_zero, List.set_cons_succ, cutO_lst, cutO_tup, cutO_scr, stepO_2, ev_lstM, ev_app, ev_ext, ev_rem, ev_frz, apT_some, apL_some, apV_lst, apR_ref, apO_some, memAt_hd, rs_hd, wipe_nil, wipe_cons, lcK_some, lcB_non, lcB_som, addO_some, addO_none, len_lst, len_tup, len_scr, tup_lst, lis_tup, lis_lst, if_true, if_false, Bool.false_eq_true, hr, e1, hix, LL, Nat.reduceLeDiff, hcat, hmap, ite_true]
    have s2 : exS ⟨runF T.Γ (K+3)⟩ (.exp (.app (.var 7) (.ife (.cmp .ne (.var 9) (.lst false .nil)) (.idx (.var 9) (.cst (.int 0))) (.idx (.var 6) (.var 8))))) (e17 [some (.ref l), some (.bl one), some (.int (many : Nat)), some (.int (so : Nat)), some coins, some hidden, some (.lst (own.map fq)), some (.ref m.length), some (.int (j : Nat)), some (.lst F)]) ((m ++ [MO.lst (ds.map fq)]).set l (potV a1 b1 c1)) =
        .ok (.nx (e17 [some (.ref l), some (.bl one), some (.int (many : Nat)), some (.int (so : Nat)), some coins, some hidden, some (.lst (own.map fq)), some (.ref m.length), some (.int (j : Nat)), some (.lst F)])) ((m ++ [MO.lst (ds.map fq ++ [fq d])]).set l (potV a1 b1 c1)) := by
      have hv : evE ⟨runF T.Γ (K+3)⟩ (.var 7) (e17 [some (.ref l), some (.bl one), some (.int (many : Nat)), some (.int (so : Nat)), some coins, some hidden, some (.lst (own.map fq)), some (.ref m.length), some (.int (j : Nat)), some (.lst F)]) ((m ++ [MO.lst (ds.map fq)]).set l (potV a1 b1 c1)) = .ok (.ref m.length) ((m ++ [MO.lst (ds.map fq)]).set l (potV a1 b1 c1)) := by
        simp only [e17, getE_some, brB_bl, brO_some, asB_bl, asN_bl, asNeg_int, asI_int, nxF_nx, nxF_rt, fin_rt, fin_nx, ite_bind, ite_and, ite_or, rs_int, rs_bl, rs_tup, rs_lst, rs_scr, rs_non, ev_var, ev_cst, ev_op, ev_neg, ev_cmp, ev_chain, ev_and, ev_or, ev_not, ev_ife, ev_tup, ev_lst, ev_idx, ev_sl2, ev_sl3, ev_pcall, ev_mcall, ev_blt, ev_blt2, ev_isi, ev_lcF, ev_lqF, MQ.evs_nil, evs_cons, spl_lst, spl_tup, evs_star, evO_non, evO_som, evQ_of, evQ_rng1, evQ_rng2, evQ_rng3, evQ_zip2, evQ_zip3, evQ_enum, bnd_some, ex_asg, ex_asgs, ex_exp, ex_ret, ex_ite, ex_fr, exs_nil, exs_cons, seq_tup, seq_lst, seq_scr, map_some_, bt_nm, bt_tp, btp_nil, btp_cons, bind_ok, ofO_some, cmp_eq, cmp_ne, cmp_lt, cmp_le, cmp_gt, cmp_ge, op_add, op_sub, startE, List.map_cons, List.map_nil, List.length_cons, List.length_nil, List.replicate_succ, List.replicate_zero, Nat.reduceAdd, Nat.reduceSub, Nat.zero_add, List.cons_append, List.nil_append, List.getElem?_cons_zero, List.getElem?_cons_succ, List.set_cons_zero, List.set_cons_succ, cutO_lst, cutO_tup, cutO_scr, stepO_2, ev_lstM, ev_app, ev_ext, ev_rem, ev_frz, apT_some, apL_some, apV_lst, apR_ref, apO_some, memAt_hd, rs_hd, wipe_nil, wipe_cons, lcK_some, lcB_non, lcB_som, addO_some, addO_none, len_lst, len_tup, len_scr, tup_lst, lis_tup, lis_lst, if_true, if_false, Bool.false_eq_true]
      rw [ex_exp, ev_app, hv, bind_ok, hma, apT_some, hpick, bind_ok, hm1, apL_some, if_pos (by rw [hLL]; trivial), bind_ok, hm2]
    have hb : bindTg (.nm 8) (.int (j : Nat)) (e17 [some (.ref l), some (.bl one), some (.int (many : Nat)), some (.int (so : Nat)), some coins, some hidden, some (.lst (own.map fq)), some (.ref m.length), x, y]) = some (e17 [some (.ref l), some (.bl one), some (.int (many : Nat)), some (.int (so : Nat)), some coins, some hidden, some (.lst (own.map fq)), some (.ref m.length), some (.int (j : Nat)), y]) := rfl
    rw [hb, frB_some, exs_cons, s1, bind_ok, nxF_nx, exs_cons, s2, bind_ok, nxF_nx, exs_nil, bind_ok, lpF_nx]
    exact e2

end LW
namespace LW
open PySem PySem.Spec MP MQ
theorem pick_share {v : Val} (hv : v ∈ [Val.tup [.int 1, .int 20], .tup [.int 1, .int 5], .tup [.int 1, .int 2], .tup [.int 1, .int 1]]) : ∃ q : Rat, v = fq q ∧ Sh q := by
  simp only [List.mem_cons, List.mem_nil_iff, or_false] at hv
  rcases hv with z | z | z | z
  · exact ⟨mkRat 1 20, sh_of (p := 1) (d := 20) z _ (by decide +kernel) (by decide +kernel) (by decide) (by decide)⟩
  · exact ⟨mkRat 1 5, sh_of (p := 1) (d := 5) z _ (by decide +kernel) (by decide +kernel) (by decide) (by decide)⟩
  · exact ⟨mkRat 1 2, sh_of (p := 1) (d := 2) z _ (by decide +kernel) (by decide +kernel) (by decide) (by decide)⟩
  · exact ⟨1, sh_of (p := 1) (d := 1) z 1 rfl rfl (by decide) (by decide)⟩
theorem asked_ok {one : Bool} {n : Nat} {α : Rat} (hα : Sh α) (hn : n = 2 ∨ n = 3) : Sz 30 (if one = true then α * (hs n)⁻¹ else α) ∧ 0 ≤ (if one = true then α * (hs n)⁻¹ else α) ∧ (if one = true then α * (hs n)⁻¹ else α) ≤ 1 := by
  obtain ⟨a, b, c⟩ := hα
  cases one with
  | true =>
    rw [if_pos rfl]
    have hz : Sz 10 (hs n)⁻¹ := by rcases hn with z | z <;> subst z <;> decide +kernel
    have h0 : 0 ≤ (hs n)⁻¹ := by rcases hn with z | z <;> subst z <;> decide +kernel
    have h1 : (hs n)⁻¹ ≤ 1 := by rcases hn with z | z <;> subst z <;> decide +kernel
    refine ⟨(a.mul hz).mono (by decide), Rat.mul_nonneg b h0, ?_⟩
    have h2 := Rat.mul_le_mul_of_nonneg_left h1 b
    rw [Rat.mul_one] at h2
    exact Rat.le_trans h2 c
  | false =>
    rw [if_neg (by decide)]
    exact ⟨a.mono (by decide), b, c⟩
theorem turn_ok {K N l : Nat} {m : Mem} {a b c : Int} (h : m[l]? = some (potV a b c)) (P : Pot N a b c) (hN : N ≤ 6000) :
    ∃ (a' b' c' : Int) (m' : Mem), runF T.Γ (K+17) f__law_right [.ref l] m = .ok (.bl true) m' ∧ m'[l]? = some (potV a' b' c') ∧ Pot (N + 60) a' b' c' := by
  have hlm : l < m.length := (List.getElem?_eq_some_iff.mp h).1
  obtain ⟨one, many, a1, b1, c1, hm23, P1, s1⟩ := drawA (K := K + 15) h P (by omega)
  obtain ⟨so, a2, b2, c2, hso, P2, s2⟩ := drawB (K := K + 15) (l := l) (many := many) (one := one) (set_get h) P1 (by omega) (by omega)
  rw [List.set_set] at s2
  obtain ⟨coins, a3, b3, c3, hcl, hc1, P3, s3⟩ := drawC (K := K + 15) (l := l) (many := many) (so := so) (one := one) (set_get h) P2 (by omega) (by omega)
  rw [List.set_set] at s3
  have hcl4 : coins.length ≤ 4 := by rw [hcl]; cases one <;> simp <;> omega
  obtain ⟨hidden, a4, b4, c4, hhl, hhs, P4, s4⟩ := drawD (K := K + 13) (l := l) (many := many) (so := so) (one := one) (coins := coins) (set_get h) P3 (by omega) hcl4
  rw [List.set_set] at s4
  have hownl : (ownL one many hidden).length = many := by
    unfold ownL
    cases one with
    | true => rw [if_pos rfl, List.length_replicate]
    | false => rw [if_neg (by decide), hhl, hcl]; rfl
  have hown : ∀ q ∈ ownL one many hidden, Sh q := fun q hq => by
    obtain ⟨i, hi⟩ := List.getElem?_of_mem hq
    have hil : i < many := by
      have := (List.getElem?_eq_some_iff.mp hi).1
      omega
    have := (own_at hcl hhl hhs hil).2
    rw [List.getD_eq_getElem?_getD, hi] at this
    exact this
  have hlen : (m.set l (potV a4 b4 c4)).length = m.length := List.length_set
  have hms := mset3 (m := m) (l := l) (x := MO.lst []) (p := potV a4 b4 c4) hlm
  have s5 : exS ⟨runF T.Γ (K+16)⟩ (.asgs [6, 7] (.cons (.ife (.var 1) (.op .mul (.var 5) (.var 2)) (.var 5)) (.cons (.lst true .nil) .nil))) (e17 [some (.ref l), some (.bl one), some (.int (many : Nat)), some (.int (so : Nat)), some (.lst (coins.map fun i => Val.int (i : Nat))), some (.lst (hidden.map fq))]) (m.set l (potV a4 b4 c4)) =
      .ok (.nx (e17 [some (.ref l), some (.bl one), some (.int (many : Nat)), some (.int (so : Nat)), some (.lst (coins.map fun i => Val.int (i : Nat))), some (.lst (hidden.map fq)), some (.lst ((ownL one many hidden).map fq)), some (.ref m.length)])) ((m ++ [MO.lst []]).set l (potV a4 b4 c4)) := by
    cases one with
    | true =>
      have h1 : hidden.length = 1 := by rw [hhl, hcl]; rfl
      obtain ⟨x, rfl⟩ := List.length_eq_one_iff.mp h1
      have hr := mul_rep (x := fq x) (k := many) (by omega)
      have ho : (ownL true many [x]).map fq = List.replicate many (fq x) := by
        unfold ownL
        rw [if_pos rfl, List.map_replicate]
        rfl
      simp only [List.map_cons, List.map_nil, e17, getE_some, brB_bl, brO_some, asB_bl, asN_bl, asNeg_int, asI_int, nxF_nx, nxF_rt, fin_rt, fin_nx, ite_bind, ite_and, ite_or, rs_int, rs_bl, rs_tup, rs_lst, rs_scr, rs_non, ev_var, ev_cst, ev_op, ev_neg, ev_cmp, ev_chain, ev_and, ev_or, ev_not, ev_ife, ev_tup, ev_lst, ev_idx, ev_sl2, ev_sl3, ev_pcall, ev_mcall, ev_blt, ev_blt2, ev_isi, ev_lcF, ev_lqF, MQ.evs_nil, evs_cons, spl_lst, spl_tup, evs_star, evO_non, evO_som, evQ_of, evQ_rng1, evQ_rng2, evQ_rng3, evQ_zip2, evQ_zip3, evQ_enum, bnd_some, ex_asg, ex_asgs, ex_exp, ex_ret, ex_ite, ex_fr, exs_nil, exs_cons, seq_tup, seq_lst, seq_scr, map_some_, bt_nm, bt_tp, btp_nil, btp_cons, bind_ok, ofO_some, cmp_eq, cmp_ne, cmp_lt, cmp_le, cmp_gt, cmp_ge, op_add, op_sub, startE, List.map_cons, List.map_nil, List.length_cons, List.length_nil, List.replicate_succ, List.replicate_zero, Nat.reduceAdd, Nat.reduceSub, Nat.zero_add, List.cons_append, List.nil_append, List.getElem?_cons_zero, List.getElem?_cons_succ, List.set_cons_zero, List.set_cons_succ, cutO_lst, cutO_tup, cutO_scr, stepO_2, ev_lstM, ev_app, ev_ext, ev_rem, ev_frz, apT_some, apL_some, apV_lst, apR_ref, apO_some, memAt_hd, rs_hd, wipe_nil, wipe_cons, lcK_some, lcB_non, lcB_som, addO_some, addO_none, len_lst, len_tup, len_scr, tup_lst, lis_tup, lis_lst, if_true, if_false, Bool.false_eq_true, hr, LL, Nat.zero_le, hlen, hms, ho, ite_true]
    | false =>
      have ho : ownL false many hidden = hidden := if_neg (by decide)
      simp only [e17, getE_some, brB_bl, brO_some, asB_bl, asN_bl, asNeg_int, asI_int, nxF_nx, nxF_rt, fin_rt, fin_nx, ite_bind, ite_and, ite_or, rs_int, rs_bl, rs_tup, rs_lst, rs_scr, rs_non, ev_var, ev_cst, ev_op, ev_neg, ev_cmp, ev_chain, ev_and, ev_or, ev_not, ev_ife, ev_tup, ev_lst, ev_idx, ev_sl2, ev_sl3, ev_pcall, ev_mcall, ev_blt, ev_blt2, ev_isi, ev_lcF, ev_lqF, MQ.evs_nil, evs_cons, spl_lst, spl_tup, evs_star, evO_non, evO_som, evQ_of, evQ_rng1, evQ_rng2, evQ_rng3, evQ_zip2, evQ_zip3, evQ_enum, bnd_some, ex_asg, ex_asgs, ex_exp, ex_ret, ex_ite, ex_fr, exs_nil, exs_cons, seq_tup, seq_lst, seq_scr, map_some_, bt_nm, bt_tp, btp_nil, btp_cons, bind_ok, ofO_some, cmp_eq, cmp_ne, cmp_lt, cmp_le, cmp_gt, cmp_ge, op_add, op_sub, startE, List.map_cons, List.map_nil, List.length_cons, List.length_nil, List.replicate_succ, List.replicate_zero, Nat.reduceAdd, Nat.reduceSub, Nat.zero_add, List.cons_append, List.nil_append, List.getElem?_cons_zero, List.getElem?_cons_succ, List.set_cons_zero, List.set_cons_succ, cutO_lst, cutO_tup, cutO_scr, stepO_2, ev_lstM, ev_app, ev_ext, ev_rem, ev_frz, apT_some, apL_some, apV_lst, apR_ref, apO_some, memAt_hd, rs_hd, wipe_nil, wipe_cons, lcK_some, lcB_non, lcB_som, addO_some, addO_none, len_lst, len_tup, len_scr, tup_lst, lis_tup, lis_lst, if_true, if_false, Bool.false_eq_true, LL, Nat.zero_le, hlen, hms, ho, ite_true]
  obtain ⟨doubts, a5, b5, c5, x8, x9, hdl, hds, hok, P5, s6⟩ := w_doubts (K := K + 13) (one := one) (so := so) (coins := .lst (coins.map fun i => Val.int (i : Nat))) (hidden := .lst (hidden.map fq)) (l := l) (m := m) hlm hownl hown many 0 [] _ a4 b4 c4 none none (by omega) rfl (fun q hq => by cases hq) (fun i h1 h2 => by omega) P4 (by omega) (by omega)
  simp only [List.map_nil] at s6
  have D : Dr3 one many coins doubts hidden so := ⟨hm23, hcl, hc1, hdl, hhl, hds, hhs, hso, fun i hi => hok i (by omega) hi⟩
  have hr1 : rng1V (.int (many : Nat)) = some ((List.range' 0 many).map fun k => Val.int (k : Nat)) := by
    rw [rng1_ok (by omega), rngL_zero, List.range_eq_range']
  have s6 : exS ⟨runF T.Γ (K+16)⟩ (.fr (.nm 8) (.rng1 (.var 2))
      (.cons (.asg (.nm 9) (.lc false (.var 15) (.nm 15) (.of (.op .add (.lc false (.mcall f__law_share (.cons (.var 0) .nil)) (.nm 14) (.rng1 (.cst (.int 4))) .non [14]) (.lst false (.cons (.idx (.var 6) (.var 8)) .nil)))) (.som (.cmp .eq (.pcall false f__law_no_more (.cons (.idx (.var 6) (.var 8)) (.cons (.var 15) .nil))) (.cmp .lt (.var 8) (.var 3)))) [15]))
    (.cons (.exp (.app (.var 7) (.ife (.cmp .ne (.var 9) (.lst false .nil)) (.idx (.var 9) (.cst (.int 0))) (.idx (.var 6) (.var 8)))))
    .nil))) (e17 [some (.ref l), some (.bl one), some (.int (many : Nat)), some (.int (so : Nat)), some (.lst (coins.map fun i => Val.int (i : Nat))), some (.lst (hidden.map fq)), some (.lst ((ownL one many hidden).map fq)), some (.ref m.length)]) ((m ++ [MO.lst []]).set l (potV a4 b4 c4)) =
      .ok (.nx (e17 [some (.ref l), some (.bl one), some (.int (many : Nat)), some (.int (so : Nat)), some (.lst (coins.map fun i => Val.int (i : Nat))), some (.lst (hidden.map fq)), some (.lst ((ownL one many hidden).map fq)), some (.ref m.length), x8, x9])) ((m ++ [MO.lst (doubts.map fq)]).set l (potV a5 b5 c5)) := by
    have hc : evQ ⟨runF T.Γ (K+16)⟩ (.rng1 (.var 2)) (e17 [some (.ref l), some (.bl one), some (.int (many : Nat)), some (.int (so : Nat)), some (.lst (coins.map fun i => Val.int (i : Nat))), some (.lst (hidden.map fq)), some (.lst ((ownL one many hidden).map fq)), some (.ref m.length)]) ((m ++ [MO.lst []]).set l (potV a4 b4 c4)) = .ok ((List.range' 0 many).map fun k => Val.int (k : Nat)) ((m ++ [MO.lst []]).set l (potV a4 b4 c4)) := by
      simp only [e17, getE_some, brB_bl, brO_some, asB_bl, asN_bl, asNeg_int, asI_int, nxF_nx, nxF_rt, fin_rt, fin_nx, ite_bind, ite_and, ite_or, rs_int, rs_bl, rs_tup, rs_lst, rs_scr, rs_non, ev_var, ev_cst, ev_op, ev_neg, ev_cmp, ev_chain, ev_and, ev_or, ev_not, ev_ife, ev_tup, ev_lst, ev_idx, ev_sl2, ev_sl3, ev_pcall, ev_mcall, ev_blt, ev_blt2, ev_isi, ev_lcF, ev_lqF, MQ.evs_nil, evs_cons, spl_lst, spl_tup, evs_star, evO_non, evO_som, evQ_of, evQ_rng1, evQ_rng2, evQ_rng3, evQ_zip2, evQ_zip3, evQ_enum, bnd_some, ex_asg, ex_asgs, ex_exp, ex_ret, ex_ite, ex_fr, exs_nil, exs_cons, seq_tup, seq_lst, seq_scr, map_some_, bt_nm, bt_tp, btp_nil, btp_cons, bind_ok, ofO_some, cmp_eq, cmp_ne, cmp_lt, cmp_le, cmp_gt, cmp_ge, op_add, op_sub, startE, List.map_cons, List.map_nil, List.length_cons, List.length_nil, List.replicate_succ, List.replicate_zero, Nat.reduceAdd, Nat.reduceSub, Nat.zero_add, List.cons_append, List.nil_append, List.getElem?_cons_zero, List.getElem?_cons_succ, List.set_cons_zero, List.set_cons_succ, cutO_lst, cutO_tup, cutO_scr, stepO_2, ev_lstM, ev_app, ev_ext, ev_rem, ev_frz, apT_some, apL_some, apV_lst, apR_ref, apO_some, memAt_hd, rs_hd, wipe_nil, wipe_cons, lcK_some, lcB_non, lcB_som, addO_some, addO_none, len_lst, len_tup, len_scr, tup_lst, lis_tup, lis_lst, if_true, if_false, Bool.false_eq_true, hr1]
    rw [ex_fr, hc, bind_ok]
    exact s6
  have hg1 := mset1 (m := m) (l := l) (x := MO.lst (doubts.map fq)) (p := potV a5 b5 c5) hlm
  have hg2 := mset2 (m := m) (l := l) (x := MO.lst (doubts.map fq)) (y := MO.dead) (p := potV a5 b5 c5) hlm
  have hpl : ((m ++ [MO.dead]).set l (potV a5 b5 c5))[l]? = some (potV a5 b5 c5) := List.getElem?_set_self (by rw [List.length_append]; omega)
  generalize hM : (m ++ [MO.dead]).set l (potV a5 b5 c5) = M at hg2 hpl
  have hr2 : rng1V (.int (so : Nat)) = some ((List.range so).map fun k => Val.int (k : Nat)) := by rw [rng1_ok (by omega), rngL_zero]
  have s7 : exS ⟨runF T.Γ (K+16)⟩ (.asg (.nm 3) (.blt .len (.lc false (.var 8) (.nm 8) (.rng1 (.var 3)) (.som (.pcall false f__law_no_more (.cons (.idx (.var 6) (.var 8)) (.cons (.idx (.var 7) (.var 8)) .nil)))) [8]))) (e17 [some (.ref l), some (.bl one), some (.int (many : Nat)), some (.int (so : Nat)), some (.lst (coins.map fun i => Val.int (i : Nat))), some (.lst (hidden.map fq)), some (.lst ((ownL one many hidden).map fq)), some (.lst (doubts.map fq)), x8, x9]) M =
      .ok (.nx (e17 [some (.ref l), some (.bl one), some (.int (many : Nat)), some (.int (so : Nat)), some (.lst (coins.map fun i => Val.int (i : Nat))), some (.lst (hidden.map fq)), some (.lst ((ownL one many hidden).map fq)), some (.lst (doubts.map fq)), x8, x9])) M := by
    have hmap : mapR (lcB ⟨runF T.Γ (K+16)⟩ (.var 8) (.nm 8) (.som (.pcall false f__law_no_more (.cons (.idx (.var 6) (.var 8)) (.cons (.idx (.var 7) (.var 8)) .nil)))) (e17 [some (.ref l), some (.bl one), some (.int (many : Nat)), some (.int (so : Nat)), some (.lst (coins.map fun i => Val.int (i : Nat))), some (.lst (hidden.map fq)), some (.lst ((ownL one many hidden).map fq)), some (.lst (doubts.map fq)), none, x9])) ((List.range so).map fun k => Val.int (k : Nat)) M = .ok ((List.range so).map fun k => Val.int (k : Nat)) M := mapR_of fun i hi => by
      have hi := List.mem_range.mp hi
      have ho1 : (ownL one many hidden)[i]? = some ((ownL one many hidden).getD i 0) := by
        rw [List.getD_eq_getElem?_getD, List.getElem?_eq_getElem (by omega)]
        rfl
      have hd1 : doubts[i]? = some (doubts.getD i 0) := by
        rw [List.getD_eq_getElem?_getD, List.getElem?_eq_getElem (by omega)]
        rfl
      have i6 : idxV (.lst ((ownL one many hidden).map fq)) (.int (i : Nat)) = some (fq ((ownL one many hidden).getD i 0)) := idx_lst (by rw [List.getElem?_map, ho1]; rfl)
      have i7 : idxV (.lst (doubts.map fq)) (.int (i : Nat)) = some (fq (doubts.getD i 0)) := idx_lst (by rw [List.getElem?_map, hd1]; rfl)
      have pn := fun m => p__law_no_more (K := K + 14) (m := m) (hown _ (List.mem_of_getElem? ho1)).1 (hds _ (List.mem_of_getElem? hd1)).1 (by decide : 7 + 7 < 9000)
      have hd : decide ((ownL one many hidden).getD i 0 ≤ doubts.getD i 0) = true := decide_eq_true (D.ok i hi)
      simp only [e17, getE_some, brB_bl, brO_some, asB_bl, asN_bl, asNeg_int, asI_int, nxF_nx, nxF_rt, fin_rt, fin_nx, ite_bind, ite_and, ite_or, rs_int, rs_bl, rs_tup, rs_lst, rs_scr, rs_non, ev_var, ev_cst, ev_op, ev_neg, ev_cmp, ev_chain, ev_and, ev_or, ev_not, ev_ife, ev_tup, ev_lst, ev_idx, ev_sl2, ev_sl3, ev_pcall, ev_mcall, ev_blt, ev_blt2, ev_isi, ev_lcF, ev_lqF, MQ.evs_nil, evs_cons, spl_lst, spl_tup, evs_star, evO_non, evO_som, evQ_of, evQ_rng1, evQ_rng2, evQ_rng3, evQ_zip2, evQ_zip3, evQ_enum, bnd_some, ex_asg, ex_asgs, ex_exp, ex_ret, ex_ite, ex_fr, exs_nil, exs_cons, seq_tup, seq_lst, seq_scr, map_some_, bt_nm, bt_tp, btp_nil, btp_cons, bind_ok, ofO_some, cmp_eq, cmp_ne, cmp_lt, cmp_le, cmp_gt, cmp_ge, op_add, op_sub, startE, List.map_cons, List.map_nil, List.length_cons, List.length_nil, List.replicate_succ, List.replicate_zero, Nat.reduceAdd, Nat.reduceSub, Nat.zero_add, List.cons_append, List.nil_append, List.getElem?_cons_zero, List.getElem?_cons_succ, List.set_cons_zero, List.set_cons_succ, cutO_lst, cutO_tup, cutO_scr, stepO_2, ev_lstM, ev_app, ev_ext, ev_rem, ev_frz, apT_some, apL_some, apV_lst, apR_ref, apO_some, memAt_hd, rs_hd, wipe_nil, wipe_cons, lcK_some, lcB_non, lcB_som, addO_some, addO_none, len_lst, len_tup, len_scr, tup_lst, lis_tup, lis_lst, if_true, if_false, Bool.false_eq_true, i6, i7, pn, hd, ite_true]
    have hlen : bltV .len (.lst ((List.range so).map fun k => Val.int (k : Nat))) = some (.int (so : Nat)) := by
      show some (Val.int (((List.range so).map fun k => Val.int (k : Nat)).length : Nat)) = _
      rw [List.length_map, List.length_range]
    simp only [e17, List.length_cons, List.length_nil, Nat.reduceAdd, Nat.reduceSub, Nat.zero_add, List.replicate_succ, List.replicate_zero, List.cons_append, List.nil_append] at hmap
    simp only [e17, getE_some, brB_bl, brO_some, asB_bl, asN_bl, asNeg_int, asI_int, nxF_nx, nxF_rt, fin_rt, fin_nx, ite_bind, ite_and, ite_or, rs_int, rs_bl, rs_tup, rs_lst, rs_scr, rs_non, ev_var, ev_cst, ev_op, ev_neg, ev_cmp, ev_chain, ev_and, ev_or, ev_not, ev_ife, ev_tup, ev_lst, ev_idx, ev_sl2, ev_sl3, ev_pcall, ev_mcall, ev_blt, ev_blt2, ev_isi, ev_lcF, ev_lqF, MQ.evs_nil, evs_cons, spl_lst, spl_tup, evs_star, evO_non, evO_som, evQ_of, evQ_rng1, evQ_rng2, evQ_rng3, evQ_zip2, evQ_zip3, evQ_enum, bnd_some, ex_asg, ex_asgs, ex_exp, ex_ret, ex_ite, ex_fr, exs_nil, exs_cons, seq_tup, seq_lst, seq_scr, map_some_, bt_nm, bt_tp, btp_nil, btp_cons, bind_ok, ofO_some, cmp_eq, cmp_ne, cmp_lt, cmp_le, cmp_gt, cmp_ge, op_add, op_sub, startE, List.map_cons, List.map_nil, List.length_cons, List.length_nil, List.replicate_succ, List.replicate_zero, Nat.reduceAdd, Nat.reduceSub, Nat.zero_add, List.cons_append, List.nil_append, List.getElem?_cons_zero, List.getElem?_cons_succ, List.set_cons_zero, List.set_cons_succ, cutO_lst, cutO_tup, cutO_scr, stepO_2, ev_lstM, ev_app, ev_ext, ev_rem, ev_frz, apT_some, apL_some, apV_lst, apR_ref, apO_some, memAt_hd, rs_hd, wipe_nil, wipe_cons, lcK_some, lcB_non, lcB_som, addO_some, addO_none, len_tup, len_scr, tup_lst, lis_tup, lis_lst, if_true, if_false, Bool.false_eq_true, hr2, hmap, hlen]
  have s8 : exS ⟨runF T.Γ (K+16)⟩ (.asg (.nm 10) (.lc false (.pcall false f_table_up (.cons (.ife (.var 1) (.idx (.var 4) (.cst (.int 0))) (.idx (.var 4) (.var 8))) (.cons (.var 16) .nil))) (.tp [8, 16]) (.enum (.var 7)) .non [8, 16])) (e17 [some (.ref l), some (.bl one), some (.int (many : Nat)), some (.int (so : Nat)), some (.lst (coins.map fun i => Val.int (i : Nat))), some (.lst (hidden.map fq)), some (.lst ((ownL one many hidden).map fq)), some (.lst (doubts.map fq)), x8, x9]) M =
      .ok (.nx (e17 [some (.ref l), some (.bl one), some (.int (many : Nat)), some (.int (so : Nat)), some (.lst (coins.map fun i => Val.int (i : Nat))), some (.lst (hidden.map fq)), some (.lst ((ownL one many hidden).map fq)), some (.lst (doubts.map fq)), x8, x9, some (.lst (tabsR one many coins doubts))])) M := by
    have hz : (doubts.zipIdx 0).map (fun p => Val.tup [.int (p.2 : Nat), fq p.1]) = (List.range many).map fun i => Val.tup [.int (i : Nat), fq (doubts.getD i 0)] := by
      rw [zipIdx_range doubts 0, List.map_map, hdl]
      rfl
    have hmap : mapR (lcB ⟨runF T.Γ (K+16)⟩ (.pcall false f_table_up (.cons (.ife (.var 1) (.idx (.var 4) (.cst (.int 0))) (.idx (.var 4) (.var 8))) (.cons (.var 16) .nil))) (.tp [8, 16]) .non (e17 [some (.ref l), some (.bl one), some (.int (many : Nat)), some (.int (so : Nat)), some (.lst (coins.map fun i => Val.int (i : Nat))), some (.lst (hidden.map fq)), some (.lst ((ownL one many hidden).map fq)), some (.lst (doubts.map fq)), none, x9])) ((List.range many).map fun i => Val.tup [.int (i : Nat), fq (doubts.getD i 0)]) M = .ok (tabsR one many coins doubts) M := by
      refine mapR_of fun i hi => ?_
      have hi := List.mem_range.mp hi
      obtain ⟨n, en, hn, hx⟩ := coin_at (one := one) hcl hi
      obtain ⟨h1, h2⟩ := hc1 n hn
      obtain ⟨g1, g2, g3⟩ := get_sh hds (i := i) (by omega)
      have pt : ∀ m, pcallR ⟨runF T.Γ (K+16)⟩ false f_table_up [.int (n : Nat), fq (doubts.getD i 0)] m = .ok (tabV n (doubts.getD i 0)) m := fun m => p_table_up (K := K + 9) (m := m) h1 (by omega) (by omega : 1 ≤ 7) (by omega) g1 g2 g3
      have hix : idxV (.lst (coins.map fun i => Val.int (i : Nat))) (.int ((if one = true then 0 else i : Nat) : Int)) = some (.int (n : Nat)) := idx_lst (by rw [List.getElem?_map, hx]; rfl)
      cases one with
      | true =>
        have hix : idxV (.lst (coins.map fun i => Val.int (i : Nat))) (.int 0) = some (.int (n : Nat)) := hix
        simp only [e17, getE_some, brB_bl, brO_some, asB_bl, asN_bl, asNeg_int, asI_int, nxF_nx, nxF_rt, fin_rt, fin_nx, ite_bind, ite_and, ite_or, rs_int, rs_bl, rs_tup, rs_lst, rs_scr, rs_non, ev_var, ev_cst, ev_op, ev_neg, ev_cmp, ev_chain, ev_and, ev_or, ev_not, ev_ife, ev_tup, ev_lst, ev_idx, ev_sl2, ev_sl3, ev_pcall, ev_mcall, ev_blt, ev_blt2, ev_isi, ev_lcF, ev_lqF, MQ.evs_nil, evs_cons, spl_lst, spl_tup, evs_star, evO_non, evO_som, evQ_of, evQ_rng1, evQ_rng2, evQ_rng3, evQ_zip2, evQ_zip3, evQ_enum, bnd_some, ex_asg, ex_asgs, ex_exp, ex_ret, ex_ite, ex_fr, exs_nil, exs_cons, seq_tup, seq_lst, seq_scr, map_some_, bt_nm, bt_tp, btp_nil, btp_cons, bind_ok, ofO_some, cmp_eq, cmp_ne, cmp_lt, cmp_le, cmp_gt, cmp_ge, op_add, op_sub, startE, List.map_cons, List.map_nil, List.length_cons, List.length_nil, List.replicate_succ, List.replicate_zero, Nat.reduceAdd, Nat.reduceSub, Nat.zero_add, List.cons_append, List.nil_append, List.getElem?_cons_zero, List.getElem?_cons_succ, List.set_cons_zero, List.set_cons_succ, cutO_lst, cutO_tup, cutO_scr, stepO_2, ev_lstM, ev_app, ev_ext, ev_rem, ev_frz, apT_some, apL_some, apV_lst, apR_ref, apO_some, memAt_hd, rs_hd, wipe_nil, wipe_cons, lcK_some, lcB_non, lcB_som, addO_some, addO_none, len_lst, len_tup, len_scr, tup_lst, lis_tup, lis_lst, if_true, if_false, Bool.false_eq_true, hix, pt, en, ite_true]
      | false =>
        have hix : idxV (.lst (coins.map fun i => Val.int (i : Nat))) (.int (i : Nat)) = some (.int (n : Nat)) := hix
        simp only [e17, getE_some, brB_bl, brO_some, asB_bl, asN_bl, asNeg_int, asI_int, nxF_nx, nxF_rt, fin_rt, fin_nx, ite_bind, ite_and, ite_or, rs_int, rs_bl, rs_tup, rs_lst, rs_scr, rs_non, ev_var, ev_cst, ev_op, ev_neg, ev_cmp, ev_chain, ev_and, ev_or, ev_not, ev_ife, ev_tup, ev_lst, ev_idx, ev_sl2, ev_sl3, ev_pcall, ev_mcall, ev_blt, ev_blt2, ev_isi, ev_lcF, ev_lqF, MQ.evs_nil, evs_cons, spl_lst, spl_tup, evs_star, evO_non, evO_som, evQ_of, evQ_rng1, evQ_rng2, evQ_rng3, evQ_zip2, evQ_zip3, evQ_enum, bnd_some, ex_asg, ex_asgs, ex_exp, ex_ret, ex_ite, ex_fr, exs_nil, exs_cons, seq_tup, seq_lst, seq_scr, map_some_, bt_nm, bt_tp, btp_nil, btp_cons, bind_ok, ofO_some, cmp_eq, cmp_ne, cmp_lt, cmp_le, cmp_gt, cmp_ge, op_add, op_sub, startE, List.map_cons, List.map_nil, List.length_cons, List.length_nil, List.replicate_succ, List.replicate_zero, Nat.reduceAdd, Nat.reduceSub, Nat.zero_add, List.cons_append, List.nil_append, List.getElem?_cons_zero, List.getElem?_cons_succ, List.set_cons_zero, List.set_cons_succ, cutO_lst, cutO_tup, cutO_scr, stepO_2, ev_lstM, ev_app, ev_ext, ev_rem, ev_frz, apT_some, apL_some, apV_lst, apR_ref, apO_some, memAt_hd, rs_hd, wipe_nil, wipe_cons, lcK_some, lcB_non, lcB_som, addO_some, addO_none, len_lst, len_tup, len_scr, tup_lst, lis_tup, lis_lst, if_true, if_false, Bool.false_eq_true, hix, pt, en, ite_true]
    simp only [e17, List.length_cons, List.length_nil, Nat.reduceAdd, Nat.reduceSub, Nat.zero_add, List.replicate_succ, List.replicate_zero, List.cons_append, List.nil_append] at hmap
    simp only [e17, getE_some, brB_bl, brO_some, asB_bl, asN_bl, asNeg_int, asI_int, nxF_nx, nxF_rt, fin_rt, fin_nx, ite_bind, ite_and, ite_or, rs_int, rs_bl, rs_tup, rs_lst, rs_scr, rs_non, ev_var, ev_cst, ev_op, ev_neg, ev_cmp, ev_chain, ev_and, ev_or, ev_not, ev_ife, ev_tup, ev_lst, ev_idx, ev_sl2, ev_sl3, ev_pcall, ev_mcall, ev_blt, ev_blt2, ev_isi, ev_lcF, ev_lqF, MQ.evs_nil, evs_cons, spl_lst, spl_tup, evs_star, evO_non, evO_som, evQ_of, evQ_rng1, evQ_rng2, evQ_rng3, evQ_zip2, evQ_zip3, evQ_enum, bnd_some, ex_asg, ex_asgs, ex_exp, ex_ret, ex_ite, ex_fr, exs_nil, exs_cons, seq_tup, seq_lst, seq_scr, map_some_, bt_nm, bt_tp, btp_nil, btp_cons, bind_ok, ofO_some, cmp_eq, cmp_ne, cmp_lt, cmp_le, cmp_gt, cmp_ge, op_add, op_sub, startE, List.map_cons, List.map_nil, List.length_cons, List.length_nil, List.replicate_succ, List.replicate_zero, Nat.reduceAdd, Nat.reduceSub, Nat.zero_add, List.cons_append, List.nil_append, List.getElem?_cons_zero, List.getElem?_cons_succ, List.set_cons_zero, List.set_cons_succ, cutO_lst, cutO_tup, cutO_scr, stepO_2, ev_lstM, ev_app, ev_ext, ev_rem, ev_frz, apT_some, apL_some, apV_lst, apR_ref, apO_some, memAt_hd, rs_hd, wipe_nil, wipe_cons, lcK_some, lcB_non, lcB_som, addO_some, addO_none, len_lst, len_tup, len_scr, tup_lst, lis_tup, lis_lst, if_true, if_false, Bool.false_eq_true, enum_fq, hz, hmap]
  obtain ⟨v, a6, b6, c6, e6, hv, P6⟩ := of_ok (K := K + 14) (m := M) (vs := [.tup [.int 1, .int 20], .tup [.int 1, .int 5], .tup [.int 1, .int 2], .tup [.int 1, .int 1]]) hpl P5 (by omega) (by simp) (by simp)
  obtain ⟨α, rfl, hα⟩ := pick_share hv
  have hpl6 := set_get (y := potV a6 b6 c6) hpl
  have s9 : exS ⟨runF T.Γ (K+16)⟩ (.asg (.nm 11) (.mcall f__law_of (.cons (.var 0) (.cons (.lst false (.cons (.tup (.cons (.cst (.int 1)) (.cons (.cst (.int 20)) .nil))) (.cons (.tup (.cons (.cst (.int 1)) (.cons (.cst (.int 5)) .nil))) (.cons (.tup (.cons (.cst (.int 1)) (.cons (.cst (.int 2)) .nil))) (.cons (.tup (.cons (.cst (.int 1)) (.cons (.cst (.int 1)) .nil))) .nil))))) .nil)))) (e17 [some (.ref l), some (.bl one), some (.int (many : Nat)), some (.int (so : Nat)), some (.lst (coins.map fun i => Val.int (i : Nat))), some (.lst (hidden.map fq)), some (.lst ((ownL one many hidden).map fq)), some (.lst (doubts.map fq)), x8, x9, some (.lst (tabsR one many coins doubts))]) M =
      .ok (.nx (e17 [some (.ref l), some (.bl one), some (.int (many : Nat)), some (.int (so : Nat)), some (.lst (coins.map fun i => Val.int (i : Nat))), some (.lst (hidden.map fq)), some (.lst ((ownL one many hidden).map fq)), some (.lst (doubts.map fq)), x8, x9, some (.lst (tabsR one many coins doubts)), some (fq α)])) (M.set l (potV a6 b6 c6)) := by
    simp only [e17, getE_some, brB_bl, brO_some, asB_bl, asN_bl, asNeg_int, asI_int, nxF_nx, nxF_rt, fin_rt, fin_nx, ite_bind, ite_and, ite_or, rs_int, rs_bl, rs_tup, rs_lst, rs_scr, rs_non, ev_var, ev_cst, ev_op, ev_neg, ev_cmp, ev_chain, ev_and, ev_or, ev_not, ev_ife, ev_tup, ev_lst, ev_idx, ev_sl2, ev_sl3, ev_pcall, ev_mcall, ev_blt, ev_blt2, ev_isi, ev_lcF, ev_lqF, MQ.evs_nil, evs_cons, spl_lst, spl_tup, evs_star, evO_non, evO_som, evQ_of, evQ_rng1, evQ_rng2, evQ_rng3, evQ_zip2, evQ_zip3, evQ_enum, bnd_some, ex_asg, ex_asgs, ex_exp, ex_ret, ex_ite, ex_fr, exs_nil, exs_cons, seq_tup, seq_lst, seq_scr, map_some_, bt_nm, bt_tp, btp_nil, btp_cons, bind_ok, ofO_some, cmp_eq, cmp_ne, cmp_lt, cmp_le, cmp_gt, cmp_ge, op_add, op_sub, startE, List.map_cons, List.map_nil, List.length_cons, List.length_nil, List.replicate_succ, List.replicate_zero, Nat.reduceAdd, Nat.reduceSub, Nat.zero_add, List.cons_append, List.nil_append, List.getElem?_cons_zero, List.getElem?_cons_succ, List.set_cons_zero, List.set_cons_succ, cutO_lst, cutO_tup, cutO_scr, stepO_2, ev_lstM, ev_app, ev_ext, ev_rem, ev_frz, apT_some, apL_some, apV_lst, apR_ref, apO_some, memAt_hd, rs_hd, wipe_nil, wipe_cons, lcK_some, lcB_non, lcB_som, addO_some, addO_none, len_lst, len_tup, len_scr, tup_lst, lis_tup, lis_lst, if_true, if_false, Bool.false_eq_true, LL, Nat.reduceLeDiff, e6, ite_true]
  generalize hM6 : M.set l (potV a6 b6 c6) = M6 at hpl6 s9
  have psl := fun m => p_slower (K := K + 10) (m := m) (s := 7) (by decide) hα.1 hα.2.1 hα.2.2 hm23
  have s10 : exS ⟨runF T.Γ (K+16)⟩ (.asg (.nm 12) (.ife (.var 1) (.pcall false f_slower (.cons (.var 11) (.cons (.var 2) .nil))) (.var 11))) (e17 [some (.ref l), some (.bl one), some (.int (many : Nat)), some (.int (so : Nat)), some (.lst (coins.map fun i => Val.int (i : Nat))), some (.lst (hidden.map fq)), some (.lst ((ownL one many hidden).map fq)), some (.lst (doubts.map fq)), x8, x9, some (.lst (tabsR one many coins doubts)), some (fq α)]) M6 =
      .ok (.nx (e17 [some (.ref l), some (.bl one), some (.int (many : Nat)), some (.int (so : Nat)), some (.lst (coins.map fun i => Val.int (i : Nat))), some (.lst (hidden.map fq)), some (.lst ((ownL one many hidden).map fq)), some (.lst (doubts.map fq)), x8, x9, some (.lst (tabsR one many coins doubts)), some (fq α), some (fq (if one = true then α * (hs many)⁻¹ else α))])) M6 := by
    cases one <;> simp only [e17, getE_some, brB_bl, brO_some, asB_bl, asN_bl, asNeg_int, asI_int, nxF_nx, nxF_rt, fin_rt, fin_nx, ite_bind, ite_and, ite_or, rs_int, rs_bl, rs_tup, rs_lst, rs_scr, rs_non, ev_var, ev_cst, ev_op, ev_neg, ev_cmp, ev_chain, ev_and, ev_or, ev_not, ev_ife, ev_tup, ev_lst, ev_idx, ev_sl2, ev_sl3, ev_pcall, ev_mcall, ev_blt, ev_blt2, ev_isi, ev_lcF, ev_lqF, MQ.evs_nil, evs_cons, spl_lst, spl_tup, evs_star, evO_non, evO_som, evQ_of, evQ_rng1, evQ_rng2, evQ_rng3, evQ_zip2, evQ_zip3, evQ_enum, bnd_some, ex_asg, ex_asgs, ex_exp, ex_ret, ex_ite, ex_fr, exs_nil, exs_cons, seq_tup, seq_lst, seq_scr, map_some_, bt_nm, bt_tp, btp_nil, btp_cons, bind_ok, ofO_some, cmp_eq, cmp_ne, cmp_lt, cmp_le, cmp_gt, cmp_ge, op_add, op_sub, startE, List.map_cons, List.map_nil, List.length_cons, List.length_nil, List.replicate_succ, List.replicate_zero, Nat.reduceAdd, Nat.reduceSub, Nat.zero_add, List.cons_append, List.nil_append, List.getElem?_cons_zero, List.getElem?_cons_succ, List.set_cons_zero, List.set_cons_succ, cutO_lst, cutO_tup, cutO_scr, stepO_2, ev_lstM, ev_app, ev_ext, ev_rem, ev_frz, apT_some, apL_some, apV_lst, apR_ref, apO_some, memAt_hd, rs_hd, wipe_nil, wipe_cons, lcK_some, lcB_non, lcB_som, addO_some, addO_none, len_lst, len_tup, len_scr, tup_lst, lis_tup, lis_lst, if_true, if_false, Bool.false_eq_true, psl, ite_true]
  obtain ⟨q1, q2, q3⟩ := asked_ok (one := one) hα hm23
  have hpt := fun m => p__law_parts (K := K + 7) (m := m) D q1 q2 q3
  have hle := parts_le D hα.2.1 rfl
  generalize hβ : (if one = true then α * (hs many)⁻¹ else α) = β at s10 hpt hle
  have hWz := (hpt []).2
  generalize hW : partsS one many coins doubts hidden so β = W at hpt hle hWz
  have s11 : exS ⟨runF T.Γ (K+16)⟩ (.asg (.nm 13) (.pcall false f__law_parts (.cons (.var 10) (.cons (.var 4) (.cons (.var 5) (.cons (.var 3) (.cons (.var 12) (.cons (.var 1) .nil)))))))) (e17 [some (.ref l), some (.bl one), some (.int (many : Nat)), some (.int (so : Nat)), some (.lst (coins.map fun i => Val.int (i : Nat))), some (.lst (hidden.map fq)), some (.lst ((ownL one many hidden).map fq)), some (.lst (doubts.map fq)), x8, x9, some (.lst (tabsR one many coins doubts)), some (fq α), some (fq β)]) M6 =
      .ok (.nx (e17 [some (.ref l), some (.bl one), some (.int (many : Nat)), some (.int (so : Nat)), some (.lst (coins.map fun i => Val.int (i : Nat))), some (.lst (hidden.map fq)), some (.lst ((ownL one many hidden).map fq)), some (.lst (doubts.map fq)), x8, x9, some (.lst (tabsR one many coins doubts)), some (fq α), some (fq β), some (fq W)])) M6 := by
    have hp := fun m => (hpt m).1
    simp only [e17, getE_some, brB_bl, brO_some, asB_bl, asN_bl, asNeg_int, asI_int, nxF_nx, nxF_rt, fin_rt, fin_nx, ite_bind, ite_and, ite_or, rs_int, rs_bl, rs_tup, rs_lst, rs_scr, rs_non, ev_var, ev_cst, ev_op, ev_neg, ev_cmp, ev_chain, ev_and, ev_or, ev_not, ev_ife, ev_tup, ev_lst, ev_idx, ev_sl2, ev_sl3, ev_pcall, ev_mcall, ev_blt, ev_blt2, ev_isi, ev_lcF, ev_lqF, MQ.evs_nil, evs_cons, spl_lst, spl_tup, evs_star, evO_non, evO_som, evQ_of, evQ_rng1, evQ_rng2, evQ_rng3, evQ_zip2, evQ_zip3, evQ_enum, bnd_some, ex_asg, ex_asgs, ex_exp, ex_ret, ex_ite, ex_fr, exs_nil, exs_cons, seq_tup, seq_lst, seq_scr, map_some_, bt_nm, bt_tp, btp_nil, btp_cons, bind_ok, ofO_some, cmp_eq, cmp_ne, cmp_lt, cmp_le, cmp_gt, cmp_ge, op_add, op_sub, startE, List.map_cons, List.map_nil, List.length_cons, List.length_nil, List.replicate_succ, List.replicate_zero, Nat.reduceAdd, Nat.reduceSub, Nat.zero_add, List.cons_append, List.nil_append, List.getElem?_cons_zero, List.getElem?_cons_succ, List.set_cons_zero, List.set_cons_succ, cutO_lst, cutO_tup, cutO_scr, stepO_2, ev_lstM, ev_app, ev_ext, ev_rem, ev_frz, apT_some, apL_some, apV_lst, apR_ref, apO_some, memAt_hd, rs_hd, wipe_nil, wipe_cons, lcK_some, lcB_non, lcB_som, addO_some, addO_none, len_lst, len_tup, len_scr, tup_lst, lis_tup, lis_lst, if_true, if_false, Bool.false_eq_true, hp]
  have s12 : exS ⟨runF T.Γ (K+16)⟩ (.ite (.or (.cmp .isN (.var 13) (.cst .non)) (.pcall false f__law_below (.cons (.pcall false f__law_ratio (.cons (.op .mul (.idx (.var 11) (.cst (.int 0))) (.var 3)) (.cons (.op .mul (.idx (.var 11) (.cst (.int 1))) (.var 2)) .nil))) (.cons (.var 13) .nil))))
      (.cons (.ret (.cst (.bl false)))
    .nil)
      .nil) (e17 [some (.ref l), some (.bl one), some (.int (many : Nat)), some (.int (so : Nat)), some (.lst (coins.map fun i => Val.int (i : Nat))), some (.lst (hidden.map fq)), some (.lst ((ownL one many hidden).map fq)), some (.lst (doubts.map fq)), x8, x9, some (.lst (tabsR one many coins doubts)), some (fq α), some (fq β), some (fq W)]) M6 =
      .ok (.nx (e17 [some (.ref l), some (.bl one), some (.int (many : Nat)), some (.int (so : Nat)), some (.lst (coins.map fun i => Val.int (i : Nat))), some (.lst (hidden.map fq)), some (.lst ((ownL one many hidden).map fq)), some (.lst (doubts.map fq)), x8, x9, some (.lst (tabsR one many coins doubts)), some (fq α), some (fq β), some (fq W)])) M6 := by
    have hN : cmpV .isN (fq W) .non = some false := rfl
    have i0 : idxV (fq α) (.int 0) = some (.int α.num) := idx_tup (i := 0) rfl
    have i1 : idxV (fq α) (.int 1) = some (.int α.den) := idx_tup (i := 1) rfl
    have r0 : ∀ m q, rs m (fq q) = fq q := fun m q => rs_of (noRef_fq q)
    have c1 : mulOk α.num (so : Int) = true := mulOk_of (t := 5) hα.1.1 (by omega) (by decide)
    have c2 : mulOk (α.den : Int) (many : Int) = true := mulOk_of (s := 7) (t := 5) (by rw [Int.natAbs_natCast]; exact hα.1.2) (by omega) (by decide)
    have pr := fun mm => p__law_ratio (K := K + 14) (m := mm) (a := α.num * (so : Int)) (Int.mul_pos (den_pos α) (show (0 : Int) < (many : Int) by omega)) (den_nat hα.1.2 (show many < 2 ^ 5 by omega)) (by decide)
    rw [lv_div] at pr
    have pb := fun mm => p__law_below (K := K + 15) (m := mm) (lv_sz (k := so) hα.1 (show 1 ≤ many by omega) (by omega) (by omega)) hWz (by decide : 7 + 5 + 200 < 9000)
    have hd : decide (lv α many so < W) = false := decide_eq_false (by
      have hle : W ≤ lv α many so := hle
      grind)
    simp only [e17, getE_some, brB_bl, brO_some, asB_bl, asN_bl, asNeg_int, asI_int, nxF_nx, nxF_rt, fin_rt, fin_nx, ite_bind, ite_and, ite_or, rs_int, rs_bl, rs_tup, rs_lst, rs_scr, rs_non, ev_var, ev_cst, ev_op, ev_neg, ev_cmp, ev_chain, ev_and, ev_or, ev_not, ev_ife, ev_tup, ev_lst, ev_idx, ev_sl2, ev_sl3, ev_pcall, ev_mcall, ev_blt, ev_blt2, ev_isi, ev_lcF, ev_lqF, MQ.evs_nil, evs_cons, spl_lst, spl_tup, evs_star, evO_non, evO_som, evQ_of, evQ_rng1, evQ_rng2, evQ_rng3, evQ_zip2, evQ_zip3, evQ_enum, bnd_some, ex_asg, ex_asgs, ex_exp, ex_ret, ex_ite, ex_fr, exs_nil, exs_cons, seq_tup, seq_lst, seq_scr, map_some_, bt_nm, bt_tp, btp_nil, btp_cons, bind_ok, ofO_some, cmp_eq, cmp_ne, cmp_lt, cmp_le, cmp_gt, cmp_ge, op_add, op_sub, startE, List.map_cons, List.map_nil, List.length_cons, List.length_nil, List.replicate_succ, List.replicate_zero, Nat.reduceAdd, Nat.reduceSub, Nat.zero_add, List.cons_append, List.nil_append, List.getElem?_cons_zero, List.getElem?_cons_succ, List.set_cons_zero, List.set_cons_succ, cutO_lst, cutO_tup, cutO_scr, stepO_2, ev_lstM, ev_app, ev_ext, ev_rem, ev_frz, apT_some, apL_some, apV_lst, apR_ref, apO_some, memAt_hd, rs_hd, wipe_nil, wipe_cons, lcK_some, lcB_non, lcB_som, addO_some, addO_none, len_lst, len_tup, len_scr, tup_lst, lis_tup, lis_lst, if_true, if_false, Bool.false_eq_true, r0, hN, i0, i1, op_mul c1, op_mul c2, pr, pb, hd, Bool.or_self]
  have s13 : exS ⟨runF T.Γ (K+16)⟩ (.ret (.cmp .eq (.pcall false f_slower (.cons (.var 11) (.cons (.var 2) .nil))) (.pcall false f__law_times (.cons (.var 11) (.cons (.pcall false f__law_over_steps (.cons (.var 2) .nil)) .nil))))) (e17 [some (.ref l), some (.bl one), some (.int (many : Nat)), some (.int (so : Nat)), some (.lst (coins.map fun i => Val.int (i : Nat))), some (.lst (hidden.map fq)), some (.lst ((ownL one many hidden).map fq)), some (.lst (doubts.map fq)), x8, x9, some (.lst (tabsR one many coins doubts)), some (fq α), some (fq β), some (fq W)]) M6 = .ok (.rt (.bl true)) M6 := by
    have po := fun m => p__law_over_steps (K := K + 11) (m := m) hm23
    have hz : Sz 10 (hs many)⁻¹ := by rcases hm23 with z | z <;> subst z <;> decide +kernel
    have pt := fun m => p__law_times (K := K + 13) (m := m) hα.1 hz (by decide)
    have r0 : ∀ m q, rs m (fq q) = fq q := fun m q => rs_of (noRef_fq q)
    have hc := cmp_eqF (α * (hs many)⁻¹) (α * (hs many)⁻¹)
    rw [decide_eq_true rfl] at hc
    simp only [e17, getE_some, brB_bl, brO_some, asB_bl, asN_bl, asNeg_int, asI_int, nxF_nx, nxF_rt, fin_rt, fin_nx, ite_bind, ite_and, ite_or, rs_int, rs_bl, rs_tup, rs_lst, rs_scr, rs_non, ev_var, ev_cst, ev_op, ev_neg, ev_cmp, ev_chain, ev_and, ev_or, ev_not, ev_ife, ev_tup, ev_lst, ev_idx, ev_sl2, ev_sl3, ev_pcall, ev_mcall, ev_blt, ev_blt2, ev_isi, ev_lcF, ev_lqF, MQ.evs_nil, evs_cons, spl_lst, spl_tup, evs_star, evO_non, evO_som, evQ_of, evQ_rng1, evQ_rng2, evQ_rng3, evQ_zip2, evQ_zip3, evQ_enum, bnd_some, ex_asg, ex_asgs, ex_exp, ex_ret, ex_ite, ex_fr, exs_nil, exs_cons, seq_tup, seq_lst, seq_scr, map_some_, bt_nm, bt_tp, btp_nil, btp_cons, bind_ok, ofO_some, cmp_eq, cmp_ne, cmp_lt, cmp_le, cmp_gt, cmp_ge, op_add, op_sub, startE, List.map_cons, List.map_nil, List.length_cons, List.length_nil, List.replicate_succ, List.replicate_zero, Nat.reduceAdd, Nat.reduceSub, Nat.zero_add, List.cons_append, List.nil_append, List.getElem?_cons_zero, List.getElem?_cons_succ, List.set_cons_zero, List.set_cons_succ, cutO_lst, cutO_tup, cutO_scr, stepO_2, ev_lstM, ev_app, ev_ext, ev_rem, ev_frz, apT_some, apL_some, apV_lst, apR_ref, apO_some, memAt_hd, rs_hd, wipe_nil, wipe_cons, lcK_some, lcB_non, lcB_som, addO_some, addO_none, len_lst, len_tup, len_scr, tup_lst, lis_tup, lis_lst, if_true, if_false, Bool.false_eq_true, psl, po, pt, r0, hc]
  refine ⟨a6, b6, c6, M6, ?_, hpl6, ⟨P6.a0, P6.a1, P6.b0, P6.b1, P6.c0, by have := P6.c1; omega⟩⟩
  rw [run_def g__law_right rfl]
  have hst : startE 17 [Val.ref l] = e17 [some (.ref l)] := rfl
  show (exSs ⟨runF T.Γ (K+16)⟩ b__law_right (startE 17 [Val.ref l]) m).bind fin = _
  rw [hst]
  unfold b__law_right
  rw [exs_cons, s1, bind_ok, nxF_nx, exs_cons, s2, bind_ok, nxF_nx, exs_cons, s3, bind_ok, nxF_nx, exs_cons, s4, bind_ok, nxF_nx, exs_cons, s5, bind_ok, nxF_nx, exs_cons, s6, bind_ok, nxF_nx]
  have hgz : ∀ ss, exSs ⟨runF T.Γ (K+16)⟩ (.gfz 7 ss) (e17 [some (.ref l), some (.bl one), some (.int (many : Nat)), some (.int (so : Nat)), some (.lst (coins.map fun i => Val.int (i : Nat))), some (.lst (hidden.map fq)), some (.lst ((ownL one many hidden).map fq)), some (.ref m.length), x8, x9]) ((m ++ [MO.lst (doubts.map fq)]).set l (potV a5 b5 c5)) =
      exSs ⟨runF T.Γ (K+16)⟩ ss (e17 [some (.ref l), some (.bl one), some (.int (many : Nat)), some (.int (so : Nat)), some (.lst (coins.map fun i => Val.int (i : Nat))), some (.lst (hidden.map fq)), some (.lst ((ownL one many hidden).map fq)), some (.lst (doubts.map fq)), x8, x9]) M := fun ss => by
    rw [exs_gfz]
    have e7 : (e17 [some (.ref l), some (.bl one), some (.int (many : Nat)), some (.int (so : Nat)), some (.lst (coins.map fun i => Val.int (i : Nat))), some (.lst (hidden.map fq)), some (.lst ((ownL one many hidden).map fq)), some (.ref m.length), x8, x9])[7]? = some (some (.ref m.length)) := rfl
    rw [e7, gzR_ref, hg1, gzL_lst, hg2]
    rfl
  rw [hgz, exs_cons, s7, bind_ok, nxF_nx, exs_cons, s8, bind_ok, nxF_nx, exs_cons, s9, bind_ok, nxF_nx, exs_cons, s10, bind_ok, nxF_nx, exs_cons, s11, bind_ok, nxF_nx, exs_cons, s12, bind_ok, nxF_nx, exs_cons, s13, bind_ok, nxF_rt, bind_ok, fin_rt]
theorem w_law {K : Nat} {ns : List Int} : ∀ (ks : List Nat) (m : Mem) (x y : Option Val), (∀ k ∈ ks, k ≤ 100) → ∃ x' y' m',
    frGo (.nm 1) (exSs ⟨runF T.Γ (K+17)⟩ (.cons (.asg (.nm 2) (.pcall true f__law_pot (.cons (.var 0) (.cons (.var 1) .nil))))
    (.cons (.ite (.not (.blt .all (.lc false (.mcall f__law_right (.cons (.var 2) .nil)) (.nm 3) (.rng1 (.cst (.int 3))) .non [3])))
      (.cons (.ret (.cst (.bl false)))
    .nil)
      .nil)
    .nil))) (ks.map fun k => Val.int (k : Nat)) [some (.scr ns), x, y, none] m = .ok (.nx [some (.scr ns), x', y', none]) m'
  | [], m, x, y, _ => ⟨x, y, m, by rw [List.map_nil, fr_nil]⟩
  | k :: ks, m, x, y, hk => by
    obtain ⟨a, b, c, e1, P⟩ := pot_ok (K := K + 16) (ns := ns) (k := k) (m := m) (hk k List.mem_cons_self)
    obtain ⟨a1, b1, c1, m1, e2, g1, P1⟩ := turn_ok (K := K) (l := m.length) (m := m ++ [potV a b c]) get_end P (by decide)
    obtain ⟨a2, b2, c2, m2, e3, g2, P2⟩ := turn_ok (K := K) (l := m.length) (m := m1) g1 P1 (by decide)
    obtain ⟨a3, b3, c3, m3, e4, g3, P3⟩ := turn_ok (K := K) (l := m.length) (m := m2) g2 P2 (by decide)
    obtain ⟨x', y', m', e⟩ := w_law (K := K) ks m3 (some (.int (k : Nat))) (some (.ref m.length)) fun j hj => hk j (List.mem_cons_of_mem _ hj)
    refine ⟨x', y', m', ?_⟩
    have hr : rng1V (.int 3) = some [.int 0, .int 1, .int 2] := rfl
    have ha : bltV .all (.lst [.bl true, .bl true, .bl true]) = some (.bl true) := rfl
    rw [List.map_cons, fr_cons]
    simp only [getE_some, brB_bl, brO_some, asB_bl, asN_bl, asNeg_int, asI_int, nxF_nx, nxF_rt, fin_rt, fin_nx, ite_bind, ite_and, ite_or, rs_int, rs_bl, rs_tup, rs_lst, rs_scr, rs_non, ev_var, ev_cst, ev_op, ev_neg, ev_cmp, ev_chain, ev_and, ev_or, ev_not, ev_ife, ev_tup, ev_lst, ev_idx, ev_sl2, ev_sl3, ev_pcall, ev_mcall, ev_blt, ev_blt2, ev_isi, ev_lcF, ev_lqF, MQ.evs_nil, evs_cons, spl_lst, spl_tup, evs_star, evO_non, evO_som, evQ_of, evQ_rng1, evQ_rng2, evQ_rng3, evQ_zip2, evQ_zip3, evQ_enum, bnd_some, ex_asg, ex_asgs, ex_exp, ex_ret, ex_ite, ex_fr, exs_nil, exs_cons, seq_tup, seq_lst, seq_scr, map_some_, bt_nm, bt_tp, btp_nil, btp_cons, bind_ok, ofO_some, cmp_eq, cmp_ne, cmp_lt, cmp_le, cmp_gt, cmp_ge, op_add, op_sub, startE, List.map_cons, List.map_nil, List.length_cons, List.length_nil, List.replicate_succ, List.replicate_zero, Nat.reduceAdd, Nat.reduceSub, Nat.zero_add, List.cons_append, List.nil_append, List.getElem?_cons_zero, List.getElem?_cons_succ, List.set_cons_zero, List.set_cons_succ, cutO_lst, cutO_tup, cutO_scr, stepO_2, ev_lstM, ev_app, ev_ext, ev_rem, ev_frz, apT_some, apL_some, apV_lst, apR_ref, apO_some, memAt_hd, rs_hd, wipe_nil, wipe_cons, lcK_some, lcB_non, lcB_som, addO_some, addO_none, len_lst, len_tup, len_scr, tup_lst, lis_tup, lis_lst, if_true, if_false, Bool.false_eq_true, frB_some, e1, hr, mapR_cons, mapR_nil, e2, e3, e4, ha, Bool.not_true, lpF_nx]
    exact e
abbrev depth : Nat := 40
theorem law_true (ns : List Int) (hl : ns.length ≤ 63) : ∃ m, runF T.Γ depth f_law [.scr ns] [] = .ok (.bl true) m := by
  obtain ⟨n, e1, hn⟩ := places_ok (K := 38) (ns := ns) (m := [])
  obtain ⟨x', y', m', e⟩ := w_law (K := 22) (ns := ns) (List.range n) [] none none (fun k hk => by have := List.mem_range.mp hk; omega)
  refine ⟨m', ?_⟩
  show runF T.Γ (39 + 1) f_law [.scr ns] [] = _
  rw [run_def g_law rfl]
  simp only [b_law, getE_some, brB_bl, brO_some, asB_bl, asN_bl, asNeg_int, asI_int, nxF_nx, nxF_rt, fin_rt, fin_nx, ite_bind, ite_and, ite_or, rs_int, rs_bl, rs_tup, rs_lst, rs_scr, rs_non, ev_var, ev_cst, ev_op, ev_neg, ev_cmp, ev_chain, ev_and, ev_or, ev_not, ev_ife, ev_tup, ev_lst, ev_idx, ev_sl2, ev_sl3, ev_pcall, ev_mcall, ev_blt, ev_blt2, ev_isi, ev_lcF, ev_lqF, MQ.evs_nil, evs_cons, spl_lst, spl_tup, evs_star, evO_non, evO_som, evQ_of, evQ_rng1, evQ_rng2, evQ_rng3, evQ_zip2, evQ_zip3, evQ_enum, bnd_some, ex_asg, ex_asgs, ex_exp, ex_ret, ex_ite, ex_fr, exs_nil, exs_cons, seq_tup, seq_lst, seq_scr, map_some_, bt_nm, bt_tp, btp_nil, btp_cons, bind_ok, ofO_some, cmp_eq, cmp_ne, cmp_lt, cmp_le, cmp_gt, cmp_ge, op_add, op_sub, startE, List.map_cons, List.map_nil, List.length_cons, List.length_nil, List.replicate_succ, List.replicate_zero, Nat.reduceAdd, Nat.reduceSub, Nat.zero_add, List.cons_append, List.nil_append, List.getElem?_cons_zero, List.getElem?_cons_succ, List.set_cons_zero, List.set_cons_succ, cutO_lst, cutO_tup, cutO_scr, stepO_2, ev_lstM, ev_app, ev_ext, ev_rem, ev_frz, apT_some, apL_some, apV_lst, apR_ref, apO_some, memAt_hd, rs_hd, wipe_nil, wipe_cons, lcK_some, lcB_non, lcB_som, addO_some, addO_none, len_lst, len_tup, len_scr, tup_lst, lis_tup, lis_lst, if_true, if_false, Bool.false_eq_true, e1, e]

end LW
open PySem PySem.W PySem.Calls PyProof.Rows
set_option maxHeartbeats 8000000 in
theorem PySem.Challenge.cw_neveroftener_k03_whole_wrong_parts_in_th_holds : PySem.Challenge.rw_neveroftener_k03_whole_wrong_parts_in_th.Holds := by
  w_on; o_law
  refine HandSHeadRun.head_any (r := OpenLaw.row PySem.Challenge.rw_neveroftener_k03_whole_wrong_parts_in_th) (q := view (OpenLaw.row PySem.Challenge.rw_neveroftener_k03_whole_wrong_parts_in_th).prog [74]) (H := LW.hk) (ob := LW.ob) (M := 4000) (loose := LW.loose) (d := HandSHeadRun.topDef (OpenLaw.row PySem.Challenge.rw_neveroftener_k03_whole_wrong_parts_in_th).prog 74) (kwd := []) LW.ob_eq
    (by kernel_rfl) (fun s => by kernel_rfl) LW.run (by kernel_rfl) (by kernel_rfl) (by kernel_rfl) (by rfl) (by first | assumption | decide +kernel) (by decide +kernel) ⟨rfl, rfl, rfl, rfl, rfl, by decide +kernel⟩ ?hw ?hc
  case hw => w_witness2
  case hc =>
    refine L2.walk_ofE (l := PySem.Challenge.rw_neveroftener_k03_whole_wrong_parts_in_th) (n := 63) (k := LW.depth) (x := "script") (CX := L2.CX0) rfl (by decide) (by kernel_rfl) ⟨rfl, by decide, by decide⟩ ?F (fun _ _ _ _ z => z)
    intro w mg fa h Y G hmg0
    obtain ⟨K, KX, c⟩ := Y
    have hmg : mg ("law" : PySem.Str) = some (.ref fa) := by
      have e : (HandSHeadRun.topDef (OpenLaw.row PySem.Challenge.rw_neveroftener_k03_whole_wrong_parts_in_th).prog 74).name = ("law" : PySem.Str) := by kernel_rfl
      rw [← e]
      exact hmg0
    obtain ⟨fd, hb, hF⟩ := MP.law_facts (P := (PySem.Challenge.rw_neveroftener_k03_whole_wrong_parts_in_th).prog) (w := w) (k := LW.depth) (i := LW.f_law) (d := LW.d_law) (x := "script") KX G c LW.ok_all rfl rfl hmg
    exact ⟨K, fd, MP.spF K (MP.calls LW.T.Γ LW.depth) LW.f_law 1, KX, hb, fun H a ns hl hO hS => MP.law_sp hO hS (LW.law_true ns hl), hF⟩
