import PyProof.Rows.All
import Wide.All
import OpenK.AllK
import Wide.FinOn
import HandS.ForMost
import HandS.Exc
import HandS.TupSets
import HandS.IsInst
import HandS.Zip
import HandS.Style
import HandS.TupAny
import HandS.TupLe
import HandS.Flow
import KE.KNest
import HandS.SetFor
import HandS.SortInts
import HandS.Conv
import KE.OsSort
import PyProof.Rows.StrMeet
import KE.GoesEnum
import HandS.Codes
import HandS.Small
import HandS.AnyAll
import HandS.GenOver
import HandS.GenBody
import HandS.GenList
import PyProof.TupleOfGen
import PyProof.CollectWalk
import PyProof.SumWalkG
import HandS.Comp
import HandS.Set
import HandS.SetBool
import HandS.Strs
import HandS.Defaults
import HandS.HeadHook1
import HandS.HeadHook2
import HandS.HeadHook3
import HandS.HeadHook4
import HandS.HeadWalk
import HandS.Head0
import HandS.Head1
import HandS.Head2
import HandS.HeadEnd
import PySem.Challenge.RW_protestproof_k32_whole_seats_and_seating
set_option Elab.async false
set_option linter.all false
set_option maxRecDepth 100000
set_option maxHeartbeats 0
/-! A small interpreter for a fragment of Python, over plain data; its words are shown sound over the hand layer in the next texts. -/
namespace Mi
open PySem L2

/-- a value: tuples (and a list that is never written: frl) by value; lists, dicts, sets by their place in the store -/
inductive PV where
  | non | bl (b : Bool) | int (i : Int) | str (x : Str) | tup (xs : List PV) | frl (xs : List PV) | loc (l : Nat)
  deriving Inhabited
mutual
def PV.dec : (a b : PV) → Decidable (a = b)
  | .non, .non => .isTrue rfl
  | .bl a, .bl b => if h : a = b then .isTrue (by rw [h]) else .isFalse (fun q => by cases q; exact h rfl)
  | .int a, .int b => if h : a = b then .isTrue (by rw [h]) else .isFalse (fun q => by cases q; exact h rfl)
  | .str a, .str b => if h : a = b then .isTrue (by rw [h]) else .isFalse (fun q => by cases q; exact h rfl)
  | .loc a, .loc b => if h : a = b then .isTrue (by rw [h]) else .isFalse (fun q => by cases q; exact h rfl)
  | .tup xs, .tup ys => match decs xs ys with
    | .isTrue h => .isTrue (by rw [h])
    | .isFalse h => .isFalse (fun q => by cases q; exact h rfl)
  | .frl xs, .frl ys => match decs xs ys with
    | .isTrue h => .isTrue (by rw [h])
    | .isFalse h => .isFalse (fun q => by cases q; exact h rfl)
  | .non, .bl _ | .non, .int _ | .non, .str _ | .non, .tup _ | .non, .frl _ | .non, .loc _ => .isFalse (fun q => by cases q)
  | .bl _, .non | .bl _, .int _ | .bl _, .str _ | .bl _, .tup _ | .bl _, .frl _ | .bl _, .loc _ => .isFalse (fun q => by cases q)
  | .int _, .non | .int _, .bl _ | .int _, .str _ | .int _, .tup _ | .int _, .frl _ | .int _, .loc _ => .isFalse (fun q => by cases q)
  | .str _, .non | .str _, .bl _ | .str _, .int _ | .str _, .tup _ | .str _, .frl _ | .str _, .loc _ => .isFalse (fun q => by cases q)
  | .tup _, .non | .tup _, .bl _ | .tup _, .int _ | .tup _, .str _ | .tup _, .frl _ | .tup _, .loc _ => .isFalse (fun q => by cases q)
  | .frl _, .non | .frl _, .bl _ | .frl _, .int _ | .frl _, .str _ | .frl _, .tup _ | .frl _, .loc _ => .isFalse (fun q => by cases q)
  | .loc _, .non | .loc _, .bl _ | .loc _, .int _ | .loc _, .str _ | .loc _, .tup _ | .loc _, .frl _ => .isFalse (fun q => by cases q)
def decs : (a b : List PV) → Decidable (a = b)
  | [], [] => .isTrue rfl
  | x :: xs, y :: ys => match PV.dec x y, decs xs ys with
    | .isTrue h, .isTrue h' => .isTrue (by rw [h, h'])
    | .isFalse h, _ => .isFalse (fun q => by cases q; exact h rfl)
    | _, .isFalse h => .isFalse (fun q => by cases q; exact h rfl)
  | [], _ :: _ => .isFalse (fun q => by cases q)
  | _ :: _, [] => .isFalse (fun q => by cases q)
end
instance : DecidableEq PV := PV.dec
/-- what stands in the store -/
inductive MO where
  | lst (xs : List PV)
  | dic (kvs : List (Key × PV))
  | set (xs : List PV)
  deriving Inhabited, DecidableEq
abbrev Store := List MO
abbrev Env := List (Option PV)
def LIM : Nat := 16777216

/-! ### flat values -/
def PV.toV : PV → Option V
  | .non => some .non
  | .bl b => some (.bl b)
  | .int i => some (.int i)
  | .str x => some (.str x)
  | _ => none
def toVs : List PV → Option (List V)
  | [] => some []
  | x :: xs => match x.toV, toVs xs with
    | some v, some vs => some (v :: vs)
    | _, _ => none
def toInts : List PV → Option (List Int)
  | [] => some []
  | .int i :: xs => match toInts xs with
    | some is => some (i :: is)
    | none => none
  | _ :: _ => none
def toBools : List PV → Option (List Bool)
  | [] => some []
  | .bl i :: xs => match toBools xs with
    | some is => some (i :: is)
    | none => none
  | _ :: _ => none
def toStrs : List PV → Option (List Str)
  | [] => some []
  | .str i :: xs => match toStrs xs with
    | some is => some (i :: is)
    | none => none
  | _ :: _ => none
/-- tuples of ints -/
def toTups : List PV → Option (List (List Int))
  | [] => some []
  | .tup t :: xs => match toInts t, toTups xs with
    | some k, some is => some (k :: is)
    | _, _ => none
  | _ :: _ => none

/-! ### data, for == -/
mutual
def PV.toD : PV → PyData
  | .non => .none
  | .bl b => .bool b
  | .int i => .int i
  | .str x => .str x
  | .tup xs => .tuple (toDs xs)
  | .frl _ => .none
  | .loc _ => .none
def toDs : List PV → List PyData
  | [] => []
  | x :: xs => x.toD :: toDs xs
end
mutual
/-- no place of the store in it, texts of known size, no deeper than n -/
def PV.fine (n : Nat) : PV → Bool
  | .non => true
  | .bl _ => true
  | .int _ => true
  | .str x => PyData.strOk x
  | .tup xs => match n with
    | 0 => false
    | n + 1 => fines n xs
  | .frl _ => false
  | .loc _ => false
def fines (n : Nat) : List PV → Bool
  | [] => true
  | x :: xs => x.fine n && fines n xs
end
def eqP (st : Store) : PV → PV → Option Bool
  | .loc a, .loc b => match st[a]?, st[b]? with
    | some (.lst xs), some (.lst ys) => if fines 30 xs && fines 30 ys then some (PyData.eqvAll (toDs xs) (toDs ys)) else none
    | _, _ => none
  | .loc _, _ => none
  | _, .loc _ => none
  | a, b => if a.fine 30 && b.fine 30 then some (PyData.eqv a.toD b.toD) else none

/-! ### operations -/
abbrev Out := Option (PV × Store)
def okMul (i j : Int) : Bool := (decide (-18446744073709551616 < i) && decide (i < 18446744073709551616)) || (decide (-18446744073709551616 < j) && decide (j < 18446744073709551616))
def addP (a b : PV) (st : Store) : Out := match a, b with
  | .int i, .int j => some (.int (i + j), st)
  | .tup xs, .tup ys => if xs.length + ys.length ≤ LIM then some (.tup (xs ++ ys), st) else none
  | .loc l, .loc r => match st[l]?, st[r]? with
    | some (.lst xs), some (.lst ys) => if xs.length + ys.length ≤ LIM then some (.loc st.length, st ++ [.lst (xs ++ ys)]) else none
    | _, _ => none
  | _, _ => none
def bop (op : Operator) (a b : PV) (st : Store) : Out := match op with
  | .Add => addP a b st
  | .Sub => match a, b with
    | .int i, .int j => some (.int (i - j), st)
    | _, _ => none
  | .Mult => match a, b with
    | .int i, .int j => if okMul i j then some (.int (i * j), st) else none
    | _, _ => none
  | .Mod => match a, b with
    | .int i, .int j => if 0 < j then some (.int (i % j), st) else none
    | _, _ => none
  | .FloorDiv => match a, b with
    | .int i, .int j => if 0 < j ∧ j < 1073741824 then some (.int (i / j), st) else none
    | _, _ => none
  | .Pow => match a, b with
    | .int i, .int j => if 0 ≤ j ∧ j ≤ 1000000 ∧ i.natAbs < 18446744073709551616 then some (.int (i ^ j.toNat), st) else none
    | _, _ => none
  | _ => none
def PV.key : PV → Option Key
  | .int i => some (.inl i)
  | .str x => some (.inr x)
  | _ => none
def lookK (kvs : List (Key × PV)) (k : Key) : Option PV := (kvs.find? fun kv => decide (kv.1 = k)).map (·.2)
def putP (kvs : List (Key × PV)) (k : Key) (v : PV) : List (Key × PV) := if (kvs.any fun kv => decide (kv.1 = k)) then kvs.map fun kv => if kv.1 = k then (kv.1, v) else kv else kvs ++ [(k, v)]
def inP (st : Store) (a b : PV) : Option Bool := match b with
  | .tup xs => match a.toV, toVs xs with
    | some x, some vs => some (inV x vs)
    | _, _ => none
  | .loc l => match st[l]? with
    | some (.lst xs) => match a.toV, toVs xs with
      | some x, some vs => some (inV x vs)
      | _, _ => none
    | some (.dic kvs) => match a.key with
      | some k => some (lookK kvs k).isSome
      | none => none
    | _ => none
  | .str z => match a with
    | .str x => match x.cps.toList with
      | [c] => some (decide (c ∈ z.cps.toList))
      | _ => none
    | _ => none
  | _ => none
def isP (a b : PV) : Option Bool := match a, b with
  | .non, .non => some true
  | _, .non => some false
  | .bl x, .bl y => some (decide (x = y))
  | _, _ => none
def ltP (a b : PV) : Option Bool := match a, b with
  | .int i, .int j => some (decide (i < j))
  | .str x, .str y => some (decide (x.cps.toList < y.cps.toList))
  | _, _ => none
def cmp (op : CmpOp) (st : Store) (a b : PV) : Option Bool := match op with
  | .Eq => eqP st a b
  | .NotEq => (eqP st a b).map (!·)
  | .Lt => ltP a b
  | .LtE => match a, b with
    | .int i, .int j => some (decide (i ≤ j))
    | _, _ => none
  | .Gt => match a, b with
    | .int i, .int j => some (decide (j < i))
    | _, _ => none
  | .GtE => match a, b with
    | .int i, .int j => some (decide (j ≤ i))
    | _, _ => none
  | .Is => isP a b
  | .IsNot => (isP a b).map (!·)
  | .In => inP st a b
  | .NotIn => (inP st a b).map (!·)
def truP (st : Store) : PV → Option Bool
  | .non => some false
  | .bl b => some b
  | .int i => some (i != 0)
  | .tup xs => some (!xs.isEmpty)
  | .loc l => match st[l]? with
    | some (.lst xs) => some (!xs.isEmpty)
    | some (.dic kvs) => some (!kvs.isEmpty)
    | _ => none
  | .frl xs => some (!xs.isEmpty)
  | .str _ => none
def ixP (a b : PV) (st : Store) : Out := match a, b with
  | .tup xs, .int i => (atI xs i).map (·, st)
  | .loc l, .int i => match st[l]? with
    | some (.lst xs) => (atI xs i).map (·, st)
    | some (.dic kvs) => (lookK kvs (.inl i)).map (·, st)
    | _ => none
  | .loc l, .str x => match st[l]? with
    | some (.dic kvs) => (lookK kvs (.inr x)).map (·, st)
    | _ => none
  | _, _ => none
/-- a[b] = x -/
def stP (a b x : PV) (st : Store) : Option Store := match a with
  | .loc l => match st[l]? with
    | some (.dic kvs) => match b.key with
      | some k => if kvs.length < LIM then some (st.set l (.dic (putP kvs k x))) else none
      | none => none
    | some (.lst xs) => match b with
      | .int i => match ixN xs.length i with
        | some j => some (st.set l (.lst (xs.set j x)))
        | none => none
      | _ => none
    | _ => none
  | _ => none
def cutP {α : Type} (xs : List α) (lo hi : Option Int) : List α := (xs.drop (HT.sIx xs.length 0 lo)).take (HT.sIx xs.length xs.length hi - HT.sIx xs.length 0 lo)
def slP (a : PV) (lo hi : Option Int) (st : Store) : Out := match a with
  | .tup xs => some (.tup (cutP xs lo hi), st)
  | .loc l => match st[l]? with
    | some (.lst xs) => some (.loc st.length, st ++ [.lst (cutP xs lo hi)])
    | _ => none
  | _ => none

/-! ### sorting -/
def insI (x : Int) : List Int → List Int
  | [] => [x]
  | y :: r => if x ≤ y then x :: y :: r else y :: insI x r
def isortI : List Int → List Int
  | [] => []
  | x :: r => insI x (isortI r)
def leS (x y : Str) : Bool := !decide (y.cps.toList < x.cps.toList)
def insS (x : Str) : List Str → List Str
  | [] => [x]
  | y :: r => if leS x y then x :: y :: r else y :: insS x r
def isortS : List Str → List Str
  | [] => []
  | x :: r => insS x (isortS r)
/-- tuples of ints of one length: by the first places -/
def leT : List Int → List Int → Bool
  | [], _ => true
  | _ :: _, [] => false
  | x :: xs, y :: ys => if x = y then leT xs ys else decide (x < y)
def insT (x : List Int) : List (List Int) → List (List Int)
  | [] => [x]
  | y :: r => if leT x y then x :: y :: r else y :: insT x r
def isortT : List (List Int) → List (List Int)
  | [] => []
  | x :: r => insT x (isortT r)
/-- each once (the last of equal ones stays) -/
def dedupT : List (List Int) → List (List Int)
  | [] => []
  | x :: r => if x ∈ r then dedupT r else x :: dedupT r
def dedupI : List Int → List Int
  | [] => []
  | x :: r => if x ∈ r then dedupI r else x :: dedupI r
/-- items sorted: ints, or texts -/
def sortL (xs : List PV) (st : Store) : Out := match toInts xs with
  | some is => if is.length < 64 then some (.loc st.length, st ++ [.lst ((isortI is).map .int)]) else none
  | none => match toStrs xs with
    | some ss => if ss.length < 64 then some (.loc st.length, st ++ [.lst ((isortS ss).map .str)]) else none
    | none => none
def keyInts : List (Key × PV) → Option (List Int)
  | [] => some []
  | (.inl i, _) :: r => match keyInts r with
    | some is => some (i :: is)
    | none => none
  | _ :: _ => none
/-- tuples of ints, all of one length (1 or more), ints from 0 to 63 -/
def boxT (ks : List (List Int)) : Bool := match ks with
  | [] => true
  | k :: r => decide (1 ≤ k.length) && (k :: r).all fun q => decide (q.length = k.length) && q.all fun i => decide (0 ≤ i) && decide (i < 64)
def sortP (a : PV) (st : Store) : Out := match a with
  | .tup xs => match toInts xs with
    | some is => if is.length < 64 then some (.loc st.length, st ++ [.lst ((isortI is).map .int)]) else none
    | none => none
  | .loc l => match st[l]? with
    | some (.lst xs) => sortL xs st
    | some (.dic kvs) => match keyInts kvs with
      | some is => if is.length < 64 then some (.loc st.length, st ++ [.lst ((isortI is).map .int)]) else none
      | none => none
    | some (.set xs) => match toTups xs with
      | some ks => if boxT ks && decide (ks.length < 64) then some (.loc st.length, st ++ [.lst ((isortT (dedupT ks)).map fun k => .tup (k.map .int))]) else none
      | none => none
    | _ => none
  | _ => none
/-- set(..): of tuples of ints; of ints -/
def itemsP (a : PV) (st : Store) : Option (List PV) := match a with
  | .tup xs => some xs
  | .loc l => match st[l]? with
    | some (.lst xs) => some xs
    | _ => none
  | .frl xs => some xs
  | _ => none

/-! ### the tree -/
inductive Bi where
  | len | abs | int | tuple | list | sorted | set | min | all | any
  deriving DecidableEq, Inhabited
/-- two built-in functions, one in the other: len(set(..)), list(range(..)) -/
inductive Nb where
  | lenset | lrg
  deriving DecidableEq, Inhabited
inductive Me where
  | append | pop | get
  deriving DecidableEq, Inhabited
inductive GK where
  | all | any | tuple | sum
  deriving DecidableEq, Inhabited
inductive IR where
  | v (i : Nat)
  | k (c : PV)
  | g (x : Str) (c : PV)
  | tp (a : IR) | ls (a : IR) | d0 | dk (ks : List Str) (a : IR)
  | bo (op : Operator) (a b : IR)
  | cm (op : CmpOp) (a b : IR)
  | ch (op op' : CmpOp) (a b c : IR)
  | bl (isAnd : Bool) (a : IR)
  | nt (a : IR)
  | ie (c a b : IR)
  | ix (a b : IR)
  | sl (a lo hi : IR)
  | ca (f : Str) (a : IR)
  | bi (f : Bi) (a : IR)
  | nb (f : Nb) (a : IR)
  | isi (a : IR) (many : Bool) (ts : List String)
  | mth (m : Me) (o a : IR)
  | lc (e t i f : IR) (own : List (Str × Nat))
  | gx (w : GK) (e t i f : IR) (own : List (Str × Nat))
  | sc2 (e t1 i1 f1 t2 i2 f2 : IR) (own : List (Str × Nat)) (own2 : List Nat)
  | lsc (e t i f : IR) (own : List (Str × Nat))
  | no
  | an | ac (a r : IR)
  | rg1 (a : IR) | rg2 (a b : IR) | en (a : IR) | zp (a b : IR) | it (a : IR)
  | tn (i : Nat) | tt (a : IR) | ts (o i : IR)
  | sn | sq (s r : IR)
  | as (t e : IR) | asl (i : Nat) (e t f it : IR) (own : List (Str × Nat)) | pr2 (i j : Nat) (a b : IR) | pr3 (i j l : Nat) (a b c : IR)
  | au (i : Nat) (op : Operator) (e : IR)
  | ex (e : IR) | cnd (c a b : IR) | fo (t i b : IR) | wh (c b : IR) | re (e : IR) | rn | br | ct | ne | pa
  deriving Inhabited

def isAn : IR → Bool
  | .an => true
  | _ => false
/-! ### meanings -/
inductive Res where
  | nx (ρ : Env) (st : Store)
  | rt (x : PV) (st : Store)
  | bk (ρ : Env) (st : Store)
  | cn (ρ : Env) (st : Store)
  deriving Inhabited
abbrev Fn := Str → List PV → Store → Out
/-- the classes of a value, as isinstance sees them -/
def clsP (st : Store) : PV → Option String
  | .non => some "NoneType"
  | .bl _ => some "bool"
  | .int _ => some "int"
  | .str _ => some "str"
  | .tup _ => some "tuple"
  | .frl _ => some "list"
  | .loc l => match st[l]? with
    | some (.lst _) => some "list"
    | some (.dic _) => some "dict"
    | _ => none
def subT (a b : String) : Bool := a == b || (a == "bool" && b == "int")
def okT (t : String) : Bool := t == "int" || t == "str" || t == "bool" || t == "tuple" || t == "list"
def isiP (st : Store) (x : PV) (ts : List String) : Option Bool := match clsP st x with
  | some c => if ts.all okT then some (ts.any (subT c)) else none
  | none => none
/-- what the method is asked of -/
def recvP (m : Me) (o : PV) (st : Store) : Bool := match m, o with
  | .get, .loc l => match st[l]? with
    | some (.dic _) => true
    | _ => false
  | .append, .loc l => match st[l]? with
    | some (.lst _) => true
    | _ => false
  | .pop, .loc l => match st[l]? with
    | some (.lst _) => true
    | _ => false
  | _, _ => false
def methP (m : Me) (o : PV) (as : List PV) (st : Store) : Out := match m, o, as with
  | .append, .loc l, [x] => match st[l]? with
    | some (.lst xs) => if xs.length < LIM then some (.non, st.set l (.lst (xs ++ [x]))) else none
    | _ => none
  | .pop, .loc l, [.int i] => match st[l]? with
    | some (.lst xs) => match ixN xs.length i with
      | some j => match xs[j]? with
        | some y => if xs.length ≤ LIM then some (y, st.set l (.lst (xs.eraseIdx j))) else none
        | none => none
      | none => none
    | _ => none
  | .get, .loc l, [k] => match st[l]?, k.key with
    | some (.dic kvs), some k => some ((lookK kvs k).getD .non, st)
    | _, _ => none
  | _, _, _ => none
def biP (f : Bi) (as : List PV) (st : Store) : Out := match f, as with
  | .len, [.tup xs] => some (.int xs.length, st)
  | .len, [.str x] => if x.length ≤ LIM then some (.int x.length, st) else none
  | .len, [.loc l] => match st[l]? with
    | some (.lst xs) => some (.int xs.length, st)
    | _ => none
  | .len, [.frl xs] => some (.int xs.length, st)
  | .abs, [.int i] => some (.int (if i < 0 then -i else i), st)
  | .int, [.int i] => some (.int i, st)
  | .int, [.bl b] => some (.int (if b then 1 else 0), st)
  | .tuple, [.tup xs] => some (.tup xs, st)
  | .tuple, [.loc l] => match st[l]? with
    | some (.lst xs) => some (.tup xs, st)
    | _ => none
  | .list, [.tup xs] => if xs.length ≤ LIM then some (.loc st.length, st ++ [.lst xs]) else none
  | .list, [.loc l] => match st[l]? with
    | some (.lst xs) => some (.loc st.length, st ++ [.lst xs])
    | _ => none
  | .sorted, [a] => sortP a st
  | .set, [.loc l] => match st[l]? with
    | some (.lst xs) => match toTups xs with
      | some ks => if ks.length < 64 then some (.loc st.length, st ++ [.set xs]) else none
      | none => none
    | _ => none
  | .min, [.int i, .int j] => some (.int (if j < i then j else i), st)
  | .all, [.loc l] => match st[l]? with
    | some (.lst xs) => match toBools xs with
      | some bs => some (.bl (bs.all id), st)
      | none => none
    | _ => none
  | .any, [.loc l] => match st[l]? with
    | some (.lst xs) => match toBools xs with
      | some bs => some (.bl (bs.any id), st)
      | none => none
    | _ => none
  | _, _ => none
def nbP (f : Nb) (a : PV) (st : Store) : Out := match f, a with
  | .lenset, a => match itemsP a st with
    | some xs => match toInts xs with
      | some is => if is.length < 64 ∧ is.Nodup then some (.int is.length, st) else none
      | none => none
    | none => none
  | .lrg, .int n => if -1000000 < n ∧ n < 1000000 then some (.loc st.length, st ++ [.lst ((List.range n.toNat).map fun i => PV.int (i : Nat))]) else none
  | _, _ => none

/-! ### loops -/
/-- the walked list (if it is one of the store's) stands as it stood -/
def stands (src : Option Nat) (items : List PV) (st : Store) : Bool := match src with
  | none => true
  | some l => decide (st[l]? = some (.lst items))
/-- for x in items: body -/
def loopF (chk : Store → Bool) (g : PV → Env → Store → Option (Env × Store)) (body : Env → Store → Option Res) : List PV → Env → Store → Option Res
  | [], ρ, st => if chk st then some (.nx ρ st) else none
  | x :: r, ρ, st => if chk st then
      match g x ρ st with
      | none => none
      | some (ρ1, st1) => match body ρ1 st1 with
        | some (.nx ρ2 st2) => loopF chk g body r ρ2 st2
        | some (.cn ρ2 st2) => loopF chk g body r ρ2 st2
        | some (.bk ρ2 st2) => some (.nx ρ2 st2)
        | some (.rt x st2) => some (.rt x st2)
        | none => none
    else none
/-- while c: body, at most n turns -/
def loopW (c : Env → Store → Option (Bool × Store)) (body : Env → Store → Option Res) : Nat → Env → Store → Option Res
  | 0, _, _ => none
  | n + 1, ρ, st => match c ρ st with
    | none => none
    | some (false, st1) => some (.nx ρ st1)
    | some (true, st1) => match body ρ st1 with
      | some (.nx ρ2 st2) => loopW c body n ρ2 st2
      | some (.cn ρ2 st2) => loopW c body n ρ2 st2
      | some (.bk ρ2 st2) => some (.nx ρ2 st2)
      | some (.rt x st2) => some (.rt x st2)
      | none => none
/-- [e for x in items if t]: what has been made so far is acc -/
def loopC (chk : Store → Bool) (g : PV → Env → Store → Option (Env × Store)) (t : Env → Store → Option (Bool × Store)) (e : Env → Store → Out) (ρ : Env) : List PV → List PV → Store → Option (List PV × Store)
  | [], acc, st => if chk st then some (acc, st) else none
  | x :: r, acc, st => if chk st && decide (acc.length < LIM) then
      match g x ρ st with
      | none => none
      | some (ρ1, st1) => match t ρ1 st1 with
        | none => none
        | some (false, st2) => loopC chk g t e ρ r acc st2
        | some (true, st2) => match e ρ1 st2 with
          | none => none
          | some (y, st3) => loopC chk g t e ρ r (acc ++ [y]) st3
    else none
/-- the outer turns of a comprehension of two fors -/
def loopO (chk : Store → Bool) (g : PV → Env → Store → Option (Env × Store)) (t : Env → Store → Option (Bool × Store)) (inner : Env → List PV → Store → Option (List PV × Store)) (ρ : Env) : List PV → List PV → Store → Option (List PV × Store)
  | [], acc, st => if chk st then some (acc, st) else none
  | x :: r, acc, st => if chk st then
      match g x ρ st with
      | none => none
      | some (ρ1, st1) => match t ρ1 st1 with
        | none => none
        | some (false, st2) => loopO chk g t inner ρ r acc st2
        | some (true, st2) => match inner ρ1 acc st2 with
          | none => none
          | some (acc', st3) => loopO chk g t inner ρ r acc' st3
    else none
/-- any(..), all(..) of a generator: ends at the first item that is `stop` -/
def loopB (stop : Bool) (chk : Store → Bool) (g : PV → Env → Store → Option (Env × Store)) (t : Env → Store → Option (Bool × Store)) (e : Env → Store → Out) (ρ : Env) : List PV → Store → Option (Bool × Store)
  | [], st => if chk st then some (!stop, st) else none
  | x :: r, st => if chk st then
      match g x ρ st with
      | none => none
      | some (ρ1, st1) => match t ρ1 st1 with
        | none => none
        | some (false, st2) => loopB stop chk g t e ρ r st2
        | some (true, st2) => match e ρ1 st2 with
          | some (.bl b, st3) => if b = stop then some (stop, st3) else loopB stop chk g t e ρ r st3
          | _ => none
    else none
def wipeP (ρ : Env) : List Nat → Env
  | [] => ρ
  | v :: vs => (wipeP ρ vs).set v none

/-! ### the meaning of a tree -/
abbrev IOut := Option (List PV × Option Nat × Store)
def sumP : List PV → Option Int
  | [] => some 0
  | .int i :: r => match sumP r with
    | some n => some (i + n)
    | none => none
  | _ :: _ => none
def putSlots : List PV → List Nat → Env → Option Env
  | [], [], ρ => some ρ
  | x :: xs, i :: is, ρ => putSlots xs is (ρ.set i (some x))
  | _, _, _ => none
section
variable (C : Fn) (N : Nat)
mutual
def evE : IR → Env → Store → Out
  | .v i, ρ, st => match ρ[i]? with
    | some (some x) => some (x, st)
    | _ => none
  | .k c, _, st => some (c, st)
  | .g _ c, _, st => some (c, st)
  | .tp a, ρ, st => match evA a ρ st with
    | some (xs, st1) => if xs.length ≤ LIM then some (.tup xs, st1) else none
    | none => none
  | .ls a, ρ, st => match evA a ρ st with
    | some (xs, st1) => if xs.length ≤ LIM then some (.loc st1.length, st1 ++ [.lst xs]) else none
    | none => none
  | .d0, _, st => some (.loc st.length, st ++ [.dic []])
  | .dk ks a, ρ, st => match evA a ρ (st ++ [.dic []]) with
    | some (xs, st1) => if ks.length = xs.length ∧ xs.length ≤ 15 ∧ 0 < xs.length ∧ ks.Nodup ∧ st1[st.length]? = some (.dic []) then some (.loc st.length, st1.set st.length (.dic ((ks.map Sum.inr).zip xs))) else none
    | none => none
  | .bo op a b, ρ, st => match evE a ρ st with
    | some (x, st1) => match evE b ρ st1 with
      | some (y, st2) => bop op x y st2
      | none => none
    | none => none
  | .cm op a b, ρ, st => match evE a ρ st with
    | some (x, st1) => match evE b ρ st1 with
      | some (y, st2) => match cmp op st2 x y with
        | some c => some (.bl c, st2)
        | none => none
      | none => none
    | none => none
  | .ch op op' a b c, ρ, st => match evE a ρ st with
    | some (x, st1) => match evE b ρ st1 with
      | some (y, st2) => match cmp op st2 x y with
        | some true => match evE c ρ st2 with
          | some (z, st3) => match cmp op' st3 y z with
            | some d => some (.bl d, st3)
            | none => none
          | none => none
        | some false => some (.bl false, st2)
        | none => none
      | none => none
    | none => none
  | .bl w a, ρ, st => evB w a ρ st
  | .nt a, ρ, st => match evE a ρ st with
    | some (x, st1) => match truP st1 x with
      | some b => some (.bl (!b), st1)
      | none => none
    | none => none
  | .ie c a b, ρ, st => match evE c ρ st with
    | some (x, st1) => match truP st1 x with
      | some true => evE a ρ st1
      | some false => evE b ρ st1
      | none => none
    | none => none
  | .ix a b, ρ, st => match evE a ρ st with
    | some (x, st1) => match evE b ρ st1 with
      | some (y, st2) => ixP x y st2
      | none => none
    | none => none
  | .sl a lo hi, ρ, st => match evE a ρ st with
    | some (x, st1) => match evO lo ρ st1 with
      | some (l, st2) => match evO hi ρ st2 with
        | some (h, st3) => slP x l h st3
        | none => none
      | none => none
    | none => none
  | .ca f a, ρ, st => match evA a ρ st with
    | some (xs, st1) => C f xs st1
    | none => none
  | .bi f a, ρ, st => match evA a ρ st with
    | some (xs, st1) => biP f xs st1
    | none => none
  | .nb f a, ρ, st => match evE a ρ st with
    | some (x, st1) => nbP f x st1
    | none => none
  | .isi a _ ts, ρ, st => match evE a ρ st with
    | some (x, st1) => match isiP st1 x ts with
      | some b => some (.bl b, st1)
      | none => none
    | none => none
  | .mth m o a, ρ, st => match evE o ρ st with
    | some (x, st1) => if recvP m x st1 then
        match evA a ρ st1 with
        | some (xs, st2) => methP m x xs st2
        | none => none
      else none
    | none => none
  | .lc e t i f own, ρ, st => match evI i ρ st with
    | some (items, src, st1) => match loopC (stands src items) (evG t) (fun ρ st => evT f ρ st) (fun ρ st => evE e ρ st) (wipeP ρ (own.map (·.2))) items [] st1 with
      | some (ys, st2) => some (.loc st2.length, st2 ++ [.lst ys])
      | none => none
    | none => none
  | .lsc e t i f own, ρ, st => match evI i ρ st with
    | some (items, src, st1) => match loopC (stands src items) (evG t) (fun ρ st => evT f ρ st) (fun ρ st => evE e ρ st) (wipeP ρ (own.map (·.2))) items [] st1 with
      | some (ys, st2) => match toInts ys with
        | some is => if is.length < 64 then some (.int (dedupI is).length, st2) else none
        | none => none
      | none => none
    | none => none
  | .sc2 e t1 i1 f1 t2 i2 f2 own own2, ρ, st => match evI i1 ρ st with
    | some (items, src, st1) => match loopO (stands src items) (evG t1) (fun ρ st => evT f1 ρ st) (fun ρ acc st => match evI i2 ρ st with
        | some (items2, src2, st') => loopC (stands src2 items2) (evG t2) (fun ρ st => evT f2 ρ st) (fun ρ st => evE e ρ st) (wipeP ρ own2) items2 acc st'
        | none => none) (wipeP ρ (own.map (·.2))) items [] st1 with
      | some (ys, st2) => match toTups ys with
        | some ks => if ks.length < 64 then some (.loc st2.length, st2 ++ [.set ys]) else none
        | none => none
      | none => none
    | none => none
  | .gx w e t i f own, ρ, st => match evI i ρ st with
    | some (items, src, st1) => match w with
      | .any => match loopB true (stands src items) (evG t) (fun ρ st => evT f ρ st) (fun ρ st => evE e ρ st) (wipeP ρ (own.map (·.2))) items st1 with
        | some (b, st2) => some (.bl b, st2)
        | none => none
      | .all => match loopB false (stands src items) (evG t) (fun ρ st => evT f ρ st) (fun ρ st => evE e ρ st) (wipeP ρ (own.map (·.2))) items st1 with
        | some (b, st2) => some (.bl b, st2)
        | none => none
      | .tuple => match loopC (stands src items) (evG t) (fun ρ st => evT f ρ st) (fun ρ st => evE e ρ st) (wipeP ρ (own.map (·.2))) items [] st1 with
        | some (ys, st2) => some (.tup ys, st2)
        | none => none
      | .sum => match loopC (stands src items) (evG t) (fun ρ st => evT f ρ st) (fun ρ st => evE e ρ st) (wipeP ρ (own.map (·.2))) items [] st1 with
        | some (ys, st2) => match sumP ys with
          | some n => some (.int n, st2)
          | none => none
        | none => none
    | none => none
  | _, _, _ => none
/-- an argument list -/
def evA : IR → Env → Store → Option (List PV × Store)
  | .an, _, st => some ([], st)
  | .ac a r, ρ, st => match evE a ρ st with
    | some (x, st1) => match evA r ρ st1 with
      | some (xs, st2) => some (x :: xs, st2)
      | none => none
    | none => none
  | _, _, _ => none
/-- and, or -/
def evB (w : Bool) : IR → Env → Store → Out
  | .ac a r, ρ, st => match evE a ρ st with
    | some (x, st1) => match isAn r with
      | true => some (x, st1)
      | false => match truP st1 x with
        | some b => if b = w then evB w r ρ st1 else some (x, st1)
        | none => none
    | none => none
  | _, _, _ => none
/-- an optional part of a slice -/
def evO : IR → Env → Store → Option (Option Int × Store)
  | .no, _, st => some (none, st)
  | .it e, ρ, st => match evE e ρ st with
    | some (.int i, st1) => some (some i, st1)
    | _ => none
  | _, _, _ => none
/-- a comprehension's tests: none, or one -/
def evT : IR → Env → Store → Option (Bool × Store)
  | .an, _, st => some (true, st)
  | .ac e _, ρ, st => match evE e ρ st with
    | some (x, st1) => match truP st1 x with
      | some b => some (b, st1)
      | none => none
    | none => none
  | _, _, _ => none
/-- what is walked -/
def evI : IR → Env → Store → IOut
  | .rg1 a, ρ, st => match evE a ρ st with
    | some (.int n, st1) => if -1000000 < n ∧ n < 1000000 then some ((List.range n.toNat).map fun i => PV.int (i : Nat), none, st1) else none
    | _ => none
  | .rg2 a b, ρ, st => match evE a ρ st with
    | some (.int i, st1) => match evE b ρ st1 with
      | some (.int j, st2) => if -1000000 < i ∧ i < 1000000 ∧ -1000000 < j ∧ j < 1000000 then some ((List.range (j - i).toNat).map fun k => PV.int (i + (k : Nat)), none, st2) else none
      | _ => none
    | _ => none
  | .en a, ρ, st => match evE a ρ st with
    | some (.tup xs, st1) => some ((xs.zipIdx).map fun p => .tup [.int p.2, p.1], none, st1)
    | _ => none
  | .zp a b, ρ, st => match evE a ρ st with
    | some (.tup xs, st1) => match evE b ρ st1 with
      | some (.tup ys, st2) => some ((xs.zip ys).map fun p => .tup [p.1, p.2], none, st2)
      | _ => none
    | _ => none
  | .it a, ρ, st => match evE a ρ st with
    | some (.tup xs, st1) => some (xs, none, st1)
    | some (.frl xs, st1) => some (xs, none, st1)
    | some (.str x, st1) => some (x.cps.toList.map fun c => .str ⟨#[c]⟩, none, st1)
    | some (.loc l, st1) => match st1[l]? with
      | some (.lst xs) => some (xs, some l, st1)
      | _ => none
    | _ => none
  | _, _, _ => none
/-- a target -/
def evG : IR → PV → Env → Store → Option (Env × Store)
  | .tn i, x, ρ, st => some (ρ.set i (some x), st)
  | .tt a, .tup xs, ρ, st => evGs a xs ρ st
  | .ts o i, x, ρ, st => match evE o ρ st with
    | some (y, st1) => match evE i ρ st1 with
      | some (z, st2) => match stP y z x st2 with
        | some st3 => some (ρ, st3)
        | none => none
      | none => none
    | none => none
  | _, _, _, _ => none
def evGs : IR → List PV → Env → Store → Option (Env × Store)
  | .an, [], ρ, st => some (ρ, st)
  | .ac t r, x :: xs, ρ, st => match evG t x ρ st with
    | some (ρ1, st1) => evGs r xs ρ1 st1
    | none => none
  | _, _, _, _ => none
end
/-- a statement, a block -/
def evS : IR → Env → Store → Option Res
  | .sn, ρ, st => some (.nx ρ st)
  | .sq s r, ρ, st => match evS s ρ st with
    | some (.nx ρ1 st1) => evS r ρ1 st1
    | x => x
  | .as t e, ρ, st => match evE C e ρ st with
    | some (x, st1) => match evG C t x ρ st1 with
      | some (ρ1, st2) => some (.nx ρ1 st2)
      | none => none
    | none => none
  | .asl i e t f it own, ρ, st => match evE C (.lc e t it f own) ρ st with
    | some (x, st1) => some (.nx (ρ.set i (some x)) st1)
    | none => none
  | .pr2 i j a b, ρ, st => match evE C a ρ st with
    | some (x, st1) => match evE C b ρ st1 with
      | some (y, st2) => some (.nx ((ρ.set i (some x)).set j (some y)) st2)
      | none => none
    | none => none
  | .pr3 i j l a b c, ρ, st => match evE C a ρ st with
    | some (x, st1) => match evE C b ρ st1 with
      | some (y, st2) => match evE C c ρ st2 with
        | some (z, st3) => some (.nx (((ρ.set i (some x)).set j (some y)).set l (some z)) st3)
        | none => none
      | none => none
    | none => none
  | .au i op e, ρ, st => match ρ[i]? with
    | some (some x) => match evE C e ρ st with
      | some (y, st1) => match x, y, op with
        | .int a, .int b, .Add => some (.nx (ρ.set i (some (.int (a + b)))) st1)
        | .int a, .int b, .Sub => some (.nx (ρ.set i (some (.int (a - b)))) st1)
        | _, _, _ => none
      | none => none
    | _ => none
  | .ex e, ρ, st => match evE C e ρ st with
    | some (_, st1) => some (.nx ρ st1)
    | none => none
  | .cnd c a b, ρ, st => match evE C c ρ st with
    | some (x, st1) => match truP st1 x with
      | some true => evS a ρ st1
      | some false => evS b ρ st1
      | none => none
    | none => none
  | .fo t i b, ρ, st => match evI C i ρ st with
    | some (items, src, st1) => loopF (stands src items) (evG C t) (fun ρ st => evS b ρ st) items ρ st1
    | none => none
  | .wh c b, ρ, st => loopW (fun ρ st => match evE C c ρ st with
      | some (x, st1) => match truP st1 x with
        | some d => some (d, st1)
        | none => none
      | none => none) (fun ρ st => evS b ρ st) N ρ st
  | .re e, ρ, st => match evE C e ρ st with
    | some (x, st1) => some (.rt x st1)
    | none => none
  | .rn, _, st => some (.rt .non st)
  | .br, ρ, st => some (.bk ρ st)
  | .ct, ρ, st => some (.cn ρ st)
  | .pa, ρ, st => some (.nx ρ st)
  | _, _, _ => none
end
/-- a def: how many names, its body -/
structure Df where
  par : Nat
  nam : Nat
  body : IR
/-- the call of a def, at most k calls deep, whiles of at most N turns -/
def evF (T : Str → Option Df) (N : Nat) : Nat → Fn
  | 0, _, _, _ => none
  | k + 1, f, xs, st => match T f with
    | none => none
    | some d => if xs.length = d.par then
        match evS (evF T N k) N d.body (xs.map some ++ List.replicate (d.nam - d.par) none) st with
        | some (.rt x st1) => some (x, st1)
        | some (.nx _ st1) => some (.non, st1)
        | _ => none
      else none
end Mi

namespace Mi
open PySem PySem.Spec PyProof.Rows L2

/-- a list that is read, never written -/
def SqF (K : PySem.W.Frag) (H : Hp) (a : Addr) (xs : List V) : Prop :=
  (∃ o, H a = some (.frz o (.lst xs))) ∨ ∃ (o : Obj) (its : Array Value) (n : Nat), K.lookup a = some o ∧ o.cls = .type "list" ∧ o.dict = none ∧ o.data = .seq its n ∧ its.size ≤ sizeLine ∧ Vals xs its.toList
theorem SqF.l {K : PySem.W.Frag} {H : Hp} {a : Addr} {xs : List V} (h : SqF K H a xs) : SqL K H a xs := by
  rcases h with ⟨o, h⟩ | h
  · exact .inl (.inr ⟨o, h⟩)
  · exact .inr h
/-! ### what stands in the heap for a value of the interpreter -/
section
variable (K : PySem.W.Frag) (m : List Addr) (H : Hp)
mutual
def RV : PV → V → Prop
  | .non, v => v = .non
  | .bl b, v => v = .bl b
  | .int i, v => v = .int i
  | .str x, v => v = .str x
  | .tup xs, v => ∃ a vs, v = .ref a ∧ SqT K H a vs ∧ RVs xs vs
  | .frl xs, v => ∃ a vs, v = .ref a ∧ SqF K H a vs ∧ RVs xs vs
  | .loc l, v => ∃ a, v = .ref a ∧ m[l]? = some a
def RVs : List PV → List V → Prop
  | [], vs => vs = []
  | x :: xs, vs => ∃ v r, vs = v :: r ∧ RV x v ∧ RVs xs r
end
def RKs : List (Key × PV) → List (Key × V) → Prop
  | [], ks => ks = []
  | x :: xs, ks => ∃ v r, ks = (x.1, v) :: r ∧ RV K m H x.2 v ∧ RKs xs r
end
/-- a code object, its table at P -/
def cdO (c P : Addr) : HO := .ext fun h => PySem.W.CodeHd h c P
/-- the table at P: its codes are known, n deep -/
def TD : Nat → Hp → Addr → Prop
  | 0, H, P => ∃ ps : Array Value, H P = some (.tbl ps) ∧ TriplesOk ps.toList
  | n + 1, H, P => ∃ ps : Array Value, H P = some (.tbl ps) ∧ TriplesOk ps.toList ∧ ∀ pos cv, codeAmong pos ps.toList = some cv → ∃ c P', cv = .ref c ∧ H c = some (cdO c P') ∧ TD n H P'
theorem TD.tbl : ∀ {n : Nat} {H : Hp} {P : Addr}, TD n H P → ∃ ps : Array Value, H P = some (.tbl ps) ∧ TriplesOk ps.toList
  | 0, _, _, h => h
  | n + 1, _, _, ⟨ps, h1, h2, _⟩ => ⟨ps, h1, h2⟩

/-- a set's object -/
def SetOf (K : PySem.W.Frag) (P : Program) (w : World) (H : Hp) (a : Addr) (xs : List PV) : Prop :=
  ∃ (ks : List (List Int)) (L : List (Addr × List Int)), toTups xs = some ks ∧ H a = some (SetTO P w a L) ∧ (∀ p ∈ L, SqT K H p.1 (p.2.map V.int)) ∧ (∀ k, k ∈ L.map (·.2) ↔ k ∈ ks)
section
variable (K : PySem.W.Frag) (P : Program) (w : World) (m : List Addr) (H : Hp)
def RM (a : Addr) : MO → Prop
  | .lst xs => ∃ vs, H a = some (.lst vs) ∧ RVs K m H xs vs
  | .dic kvs => ∃ ks, H a = some (.dK ks) ∧ RKs K m H kvs ks
  | .set xs => SetOf K P w H a xs
end
def isMut : Option MO → Prop
  | some _ => True
  | none => False
/-- the world of a walk: what does not change -/
structure Wd where
  K : PySem.W.Frag
  P : Program
  w : World
  tb : List Addr
  D : Nat
structure HR (W : Wd) (m : List Addr) (H : Hp) (st : Store) : Prop where
  len : m.length = st.length
  uniq : ∀ (l l' : Nat) (a : Addr), m[l]? = some a → m[l']? = some a → isMut st[l]? → isMut st[l']? → l = l'
  at_ : ∀ (l : Nat) (o : MO), st[l]? = some o → ∃ a, m[l]? = some a ∧ RM W.K W.P W.w m H a o
  tab : ∀ P ∈ W.tb, TD W.D H P
structure HM (K : PySem.W.Frag) (m : List Addr) (H : Hp) (m' : List Addr) (H' : Hp) : Prop where
  ml : ∃ t, m' = m ++ t
  sq : ∀ a vs, SqT K H a vs → SqT K H' a vs
  sf : ∀ a vs, SqF K H a vs → SqF K H' a vs
  td : ∀ n P, TD n H P → TD n H' P
  cd : ∀ c P, H c = some (cdO c P) → H' c = some (cdO c P)
section
variable {K : PySem.W.Frag} {m m' m'' : List Addr} {H H' H'' : Hp}
theorem HM.refl : HM K m H m H := ⟨⟨[], by simp⟩, fun _ _ h => h, fun _ _ h => h, fun _ _ h => h, fun _ _ h => h⟩
theorem HM.trans (a : HM K m H m' H') (b : HM K m' H' m'' H'') : HM K m H m'' H'' := by
  obtain ⟨t, e⟩ := a.ml
  obtain ⟨u, e'⟩ := b.ml
  exact ⟨⟨t ++ u, by rw [e', e, List.append_assoc]⟩, fun _ _ h => b.sq _ _ (a.sq _ _ h), fun _ _ h => b.sf _ _ (a.sf _ _ h), fun _ _ h => b.td _ _ (a.td _ _ h), fun _ _ h => b.cd _ _ (a.cd _ _ h)⟩
theorem HM.get (x : HM K m H m' H') {l : Nat} {a : Addr} (h : m[l]? = some a) : m'[l]? = some a := by
  obtain ⟨t, e⟩ := x.ml
  rw [e, List.getElem?_append_left (List.getElem?_eq_some_iff.mp h).1]
  exact h
mutual
theorem RV.mono0 (x : HM K m H m' H') : ∀ {pv : PV} {v : V}, RV K m H pv v → RV K m' H' pv v
  | .non, _, h => h
  | .bl _, _, h => h
  | .int _, _, h => h
  | .str _, _, h => h
  | .tup xs, _, h => by
    obtain ⟨a, vs, e, s, r⟩ := h
    exact ⟨a, vs, e, x.sq _ _ s, RVs.mono0 x r⟩
  | .frl xs, _, h => by
    obtain ⟨a, vs, e, s, r⟩ := h
    exact ⟨a, vs, e, x.sf _ _ s, RVs.mono0 x r⟩
  | .loc l, _, h => by
    obtain ⟨a, e, g⟩ := h
    exact ⟨a, e, x.get g⟩
theorem RVs.mono0 (x : HM K m H m' H') : ∀ {xs : List PV} {vs : List V}, RVs K m H xs vs → RVs K m' H' xs vs
  | [], _, h => h
  | y :: ys, _, h => by
    obtain ⟨v, r, e, h1, h2⟩ := h
    exact ⟨v, r, e, RV.mono0 x h1, RVs.mono0 x h2⟩
end
theorem RKs.mono0 (x : HM K m H m' H') : ∀ {xs : List (Key × PV)} {vs : List (Key × V)}, RKs K m H xs vs → RKs K m' H' xs vs
  | [], _, h => h
  | y :: ys, _, h => by
    obtain ⟨v, r, e, h1, h2⟩ := h
    exact ⟨v, r, e, RV.mono0 x h1, RKs.mono0 x h2⟩
theorem RVs.length : ∀ {xs : List PV} {vs : List V}, RVs K m H xs vs → vs.length = xs.length
  | [], _, h => by rw [show _ = [] from h]; rfl
  | y :: ys, _, h => by
    obtain ⟨v, r, e, h1, h2⟩ := h
    rw [e, List.length_cons, List.length_cons, RVs.length h2]
theorem RVs.get : ∀ {xs : List PV} {vs : List V} {i : Nat} {x : PV}, RVs K m H xs vs → xs[i]? = some x → ∃ v, vs[i]? = some v ∧ RV K m H x v
  | [], _, _, _, _, g => by simp at g
  | y :: ys, _, 0, x, h, g => by
    obtain ⟨v, r, e, h1, h2⟩ := h
    rw [List.getElem?_cons_zero] at g
    cases g
    exact ⟨v, by rw [e]; rfl, h1⟩
  | y :: ys, _, i + 1, x, h, g => by
    obtain ⟨v, r, e, h1, h2⟩ := h
    rw [List.getElem?_cons_succ] at g
    obtain ⟨u, g1, g2⟩ := RVs.get h2 g
    exact ⟨u, by rw [e, List.getElem?_cons_succ]; exact g1, g2⟩
theorem RVs.append : ∀ {xs ys : List PV} {vs us : List V}, RVs K m H xs vs → RVs K m H ys us → RVs K m H (xs ++ ys) (vs ++ us)
  | [], _, _, _, h, h' => by rw [show _ = [] from h]; exact h'
  | y :: ys, _, _, _, h, h' => by
    obtain ⟨v, r, e, h1, h2⟩ := h
    exact ⟨v, r ++ _, by rw [e]; rfl, h1, RVs.append h2 h'⟩
theorem RVs.drop : ∀ {xs : List PV} {vs : List V} (n : Nat), RVs K m H xs vs → RVs K m H (xs.drop n) (vs.drop n)
  | _, _, 0, h => h
  | [], _, n + 1, h => by rw [show _ = [] from h]; exact rfl
  | y :: ys, _, n + 1, h => by
    obtain ⟨v, r, e, h1, h2⟩ := h
    rw [e]
    exact RVs.drop n h2
theorem RVs.take : ∀ {xs : List PV} {vs : List V} (n : Nat), RVs K m H xs vs → RVs K m H (xs.take n) (vs.take n)
  | _, _, 0, h => rfl
  | [], _, n + 1, h => by rw [show _ = [] from h]; exact rfl
  | y :: ys, _, n + 1, h => by
    obtain ⟨v, r, e, h1, h2⟩ := h
    rw [e]
    exact ⟨v, r.take n, rfl, h1, RVs.take n h2⟩
theorem RVs.erase : ∀ {xs : List PV} {vs : List V} (n : Nat), RVs K m H xs vs → RVs K m H (xs.eraseIdx n) (vs.eraseIdx n)
  | [], _, n, h => by rw [show _ = [] from h]; exact rfl
  | y :: ys, _, 0, h => by
    obtain ⟨v, r, e, h1, h2⟩ := h
    rw [e]
    exact h2
  | y :: ys, _, n + 1, h => by
    obtain ⟨v, r, e, h1, h2⟩ := h
    rw [e]
    exact ⟨v, r.eraseIdx n, rfl, h1, RVs.erase n h2⟩
theorem RVs.one {x : PV} {v : V} (h : RV K m H x v) : RVs K m H [x] [v] := ⟨v, [], rfl, h, rfl⟩
theorem toV_of {pv : PV} {v u : V} (h : RV K m H pv v) (e : pv.toV = some u) : v = u := by
  cases pv <;> simp only [PV.toV, Option.some.injEq, reduceCtorEq] at e <;> subst e <;> exact h
theorem toV_flat {pv : PV} {u : V} (e : pv.toV = some u) : flatV u = true := by
  cases pv <;> simp only [PV.toV, Option.some.injEq, reduceCtorEq] at e <;> subst e <;> rfl
theorem toVs_of : ∀ {xs : List PV} {vs us : List V}, RVs K m H xs vs → toVs xs = some us → vs = us
  | [], _, _, h, e => by
    rw [toVs, Option.some.injEq] at e
    rw [← e]; exact h
  | y :: ys, _, us, h, e => by
    obtain ⟨v, r, e1, h1, h2⟩ := h
    rw [toVs] at e
    split at e
    · rename_i a b q1 q2
      cases e
      rw [e1, toV_of h1 q1, toVs_of h2 q2]
    · cases e
theorem toVs_flat : ∀ {xs : List PV} {us : List V}, toVs xs = some us → us.all flatV = true
  | [], _, e => by
    rw [toVs, Option.some.injEq] at e
    rw [← e]; rfl
  | y :: ys, us, e => by
    rw [toVs] at e
    split at e
    · rename_i a b q1 q2
      cases e
      rw [List.all_cons, toV_flat q1, toVs_flat q2]; rfl
    · cases e
theorem toInts_of : ∀ {xs : List PV} {vs : List V} {is : List Int}, RVs K m H xs vs → toInts xs = some is → vs = is.map V.int
  | [], _, _, h, e => by
    rw [toInts, Option.some.injEq] at e
    rw [← e]; exact h
  | y :: ys, _, us, h, e => by
    obtain ⟨v, r, e1, h1, h2⟩ := h
    cases y <;> rw [toInts] at e <;> (try cases e)
    split at e
    · rename_i a b
      cases e
      rw [e1, toInts_of h2 b, show v = _ from h1]; rfl
    · cases e
theorem toBools_of : ∀ {xs : List PV} {vs : List V} {is : List Bool}, RVs K m H xs vs → toBools xs = some is → vs = is.map V.bl
  | [], _, _, h, e => by
    rw [toBools, Option.some.injEq] at e
    rw [← e]; exact h
  | y :: ys, _, us, h, e => by
    obtain ⟨v, r, e1, h1, h2⟩ := h
    cases y <;> rw [toBools] at e <;> (try cases e)
    split at e
    · rename_i a b
      cases e
      rw [e1, toBools_of h2 b, show v = _ from h1]; rfl
    · cases e
theorem toStrs_of : ∀ {xs : List PV} {vs : List V} {is : List Str}, RVs K m H xs vs → toStrs xs = some is → vs = is.map V.str
  | [], _, _, h, e => by
    rw [toStrs, Option.some.injEq] at e
    rw [← e]; exact h
  | y :: ys, _, us, h, e => by
    obtain ⟨v, r, e1, h1, h2⟩ := h
    cases y <;> rw [toStrs] at e <;> (try cases e)
    split at e
    · rename_i a b
      cases e
      rw [e1, toStrs_of h2 b, show v = _ from h1]; rfl
    · cases e
theorem RVs.ints : ∀ (is : List Int), RVs K m H (is.map PV.int) (is.map V.int)
  | [] => rfl
  | i :: is => ⟨_, _, rfl, rfl, RVs.ints is⟩
theorem RVs.strs : ∀ (is : List Str), RVs K m H (is.map PV.str) (is.map V.str)
  | [] => rfl
  | i :: is => ⟨_, _, rfl, rfl, RVs.strs is⟩
theorem toTups_of : ∀ {xs : List PV} {vs : List V} {ks : List (List Int)}, RVs K m H xs vs → toTups xs = some ks → ∃ L : List (Addr × List Int), vs = L.map (fun p => V.ref p.1) ∧ L.map (·.2) = ks ∧ ∀ p ∈ L, SqT K H p.1 (p.2.map V.int)
  | [], _, _, h, e => by
    rw [toTups, Option.some.injEq] at e
    exact ⟨[], h, by rw [← e]; rfl, fun _ z => by cases z⟩
  | y :: ys, _, us, h, e => by
    obtain ⟨v, r, e1, h1, h2⟩ := h
    cases y <;> rw [toTups] at e <;> (try cases e)
    split at e
    · rename_i a b q1 q2
      cases e
      obtain ⟨c, ws, e2, s, rr⟩ := h1
      obtain ⟨L, l1, l2, l3⟩ := toTups_of h2 q2
      have e3 := toInts_of rr q1
      subst e3
      refine ⟨(c, _) :: L, by rw [e1, e2, l1]; rfl, by rw [List.map_cons, l2], fun p hp => ?_⟩
      rcases List.mem_cons.mp hp with rfl | hp
      · exact s
      · exact l3 p hp
    · cases e
end

/-! ### tables stay -/
theorem TD.ext : ∀ {n : Nat} {H H' : Hp} {P : Addr}, (∀ P ps, H P = some (.tbl ps) → H' P = some (.tbl ps)) → (∀ c P, H c = some (cdO c P) → H' c = some (cdO c P)) → TD n H P → TD n H' P
  | 0, _, _, _, ht, _, h => by
    obtain ⟨ps, h1, h2⟩ := h
    exact ⟨ps, ht _ _ h1, h2⟩
  | n + 1, _, _, _, ht, hc, h => by
    obtain ⟨ps, h1, h2, h3⟩ := h
    refine ⟨ps, ht _ _ h1, h2, fun pos cv e => ?_⟩
    obtain ⟨c, P', e1, e2, e3⟩ := h3 pos cv e
    exact ⟨c, P', e1, hc _ _ e2, TD.ext ht hc e3⟩
/-- an object that may be written, or is new -/
def Soft : Option HO → Prop
  | none => True
  | some (.lst _) => True
  | some (.dK _) => True
  | _ => False
theorem cdO_ne {c P : Addr} {o : HO} (h : o = cdO c P) : ¬ Soft (some o) := by rw [h]; exact fun z => z
theorem HM.upd {K : PySem.W.Frag} {m m' : List Addr} {H : Hp} {p : Addr} {o : HO} (hm : ∃ t, m' = m ++ t) (hp : Soft (H p)) : HM K m H m' (upd H p o) := by
  have ne : ∀ a u, H a = some u → ¬ Soft (some u) → a ≠ p := fun a u e n z => by rw [z] at e; rw [e] at hp; exact n hp
  refine ⟨hm, fun a vs h => ?_, fun a vs h => ?_, fun n P h => TD.ext (fun P ps e => ?_) (fun c P e => ?_) h, fun c P e => ?_⟩
  · rcases h with h | h
    · refine .inl ?_
      rcases h with h | ⟨ob, h⟩
      · exact .inl (by rw [upd_ne (ne _ _ h (fun z => z))]; exact h)
      · exact .inr ⟨ob, by rw [upd_ne (ne _ _ h (fun z => z))]; exact h⟩
    · exact .inr h
  · rcases h with ⟨ob, h⟩ | h
    · exact .inl ⟨ob, by rw [upd_ne (ne _ _ h (fun z => z))]; exact h⟩
    · exact .inr h
  · rw [upd_ne (ne _ _ e (fun z => z))]; exact e
  · rw [upd_ne (ne _ _ e (fun z => z))]; exact e
  · rw [upd_ne (ne _ _ e (fun z => z))]; exact e

section
variable {W : Wd} {m : List Addr} {H : Hp} {st : Store}
/-- what a place's object leans on stays behind a change at p -/
theorem RM.upd {a p : Addr} {o : MO} {u : HO} {m' : List Addr} (hm : ∃ t, m' = m ++ t) (hp : Soft (H p)) (h : RM W.K W.P W.w m H a o) (hne : isMut (some o) → a ≠ p) : RM W.K W.P W.w m' (upd H p u) a o := by
  have X : HM W.K m H m' (L2.upd H p u) := HM.upd hm hp
  cases o with
  | lst xs =>
    obtain ⟨vs, h1, h2⟩ := h
    exact ⟨vs, by rw [upd_ne (hne trivial)]; exact h1, h2.mono0 X⟩
  | dic xs =>
    obtain ⟨vs, h1, h2⟩ := h
    exact ⟨vs, by rw [upd_ne (hne trivial)]; exact h1, h2.mono0 X⟩
  | set xs =>
    obtain ⟨ks, L, h1, h2, h3, h4⟩ := h
    exact ⟨ks, L, h1, by rw [upd_ne (hne trivial)]; exact h2, fun p hp => X.sq _ _ (h3 p hp), h4⟩
theorem RM.some {a : Addr} {o : MO} (h : RM W.K W.P W.w m H a o) (hm : isMut (some o)) : ∃ u, H a = some u := by
  cases o with
  | lst xs => obtain ⟨vs, h1, _⟩ := h; exact ⟨_, h1⟩
  | dic xs => obtain ⟨vs, h1, _⟩ := h; exact ⟨_, h1⟩
  | set xs => obtain ⟨ks, L, _, h2, _⟩ := h; exact ⟨_, h2⟩
theorem HR.get (h : HR W m H st) {l : Nat} {o : MO} {a : Addr} (e : st[l]? = some o) (g : m[l]? = some a) : RM W.K W.P W.w m H a o := by
  obtain ⟨b, g', r⟩ := h.at_ l o e
  rw [g] at g'
  cases g'
  exact r
/-- a new object that is no place of the store (a tuple) -/
theorem HR.side (h : HR W m H st) {p : Addr} {u : HO} (hp : H p = none) : HR W m (upd H p u) st := by
  have sf : Soft (H p) := by rw [hp]; trivial
  refine ⟨h.len, h.uniq, fun l o e => ?_, fun P hP => (HM.upd (K := W.K) (m := m) (m' := m) ⟨[], by simp⟩ sf).td _ _ (h.tab P hP)⟩
  obtain ⟨a, g, r⟩ := h.at_ l o e
  refine ⟨a, g, r.upd ⟨[], by simp⟩ sf fun hm z => ?_⟩
  obtain ⟨v, hv⟩ := r.some hm
  rw [z, hp] at hv
  cases hv
/-- a new place -/
theorem HR.new (h : HR W m H st) {p : Addr} {u : HO} {o : MO} (hp : H p = none) (hu : RM W.K W.P W.w (m ++ [p]) (upd H p u) p o) (hm : isMut (some o)) : HR W (m ++ [p]) (upd H p u) (st ++ [o]) := by
  have sf : Soft (H p) := by rw [hp]; trivial
  have lt : ∀ {l : Nat}, isMut (st ++ [o])[l]? → l < st.length ∨ l = st.length := fun {l} z => by
    by_cases hl : l < (st ++ [o]).length
    · rw [List.length_append, List.length_singleton] at hl; omega
    · rw [List.getElem?_eq_none (by omega)] at z; exact z.elim
  have old : ∀ {l : Nat} {a : Addr}, l < st.length → (m ++ [p])[l]? = some a → isMut (st ++ [o])[l]? → m[l]? = some a ∧ isMut st[l]? ∧ a ≠ p := fun {l a} hl g z => by
    rw [List.getElem?_append_left (by rw [h.len]; exact hl)] at g
    rw [List.getElem?_append_left hl] at z
    refine ⟨g, z, fun e => ?_⟩
    cases q : st[l]? with
    | none => rw [q] at z; exact z.elim
    | some ob =>
      rw [q] at z
      obtain ⟨v, hv⟩ := (h.get q g).some z
      rw [e, hp] at hv
      cases hv
  have last : ∀ {a : Addr}, (m ++ [p])[st.length]? = some a → a = p := fun {a} g => by
    rw [← h.len, List.getElem?_append_right (Nat.le_refl _), Nat.sub_self] at g
    exact (Option.some.inj g).symm
  refine ⟨by rw [List.length_append, List.length_append, h.len]; rfl, fun l l' a g g' z z' => ?_, fun l ob e => ?_, fun P hP => (HM.upd (K := W.K) (m := m) (m' := m) ⟨[], by simp⟩ sf).td _ _ (h.tab P hP)⟩
  · rcases lt z with hl | hl <;> rcases lt z' with hl' | hl'
    · obtain ⟨a1, a2, _⟩ := old hl g z
      obtain ⟨b1, b2, _⟩ := old hl' g' z'
      exact h.uniq l l' a a1 b1 a2 b2
    · obtain ⟨_, _, a3⟩ := old hl g z
      rw [hl'] at g'
      exact absurd (last g') a3
    · obtain ⟨_, _, a3⟩ := old hl' g' z'
      rw [hl] at g
      exact absurd (last g) a3
    · omega
  · by_cases hl : l < st.length
    · rw [List.getElem?_append_left hl] at e
      obtain ⟨a, g, r⟩ := h.at_ l ob e
      refine ⟨a, by rw [List.getElem?_append_left (by rw [h.len]; exact hl)]; exact g, r.upd ⟨[p], rfl⟩ sf fun hm z => ?_⟩
      obtain ⟨v, hv⟩ := r.some hm
      rw [z, hp] at hv
      cases hv
    · have hl2 : l = st.length := by
        have := (List.getElem?_eq_some_iff.mp e).1
        rw [List.length_append, List.length_singleton] at this
        omega
      subst hl2
      rw [List.getElem?_append_right (Nat.le_refl _), Nat.sub_self] at e
      cases e
      refine ⟨p, ?_, hu⟩
      rw [← h.len, List.getElem?_append_right (Nat.le_refl _), Nat.sub_self]
      rfl
/-- a place is written -/
theorem HR.set (h : HR W m H st) {l : Nat} {p : Addr} {u : HO} {o o' : MO} (e : st[l]? = some o) (g : m[l]? = some p) (hm : isMut (some o)) (hm' : isMut (some o')) (sf : Soft (H p)) (hu : RM W.K W.P W.w m (upd H p u) p o') : HR W m (upd H p u) (st.set l o') := by
  have hl : l < st.length := (List.getElem?_eq_some_iff.mp e).1
  have mu : ∀ {k : Nat}, isMut (st.set l o')[k]? → isMut st[k]? := fun {k} z => by
    by_cases hk : l = k
    · rw [← hk, e]; exact hm
    · rw [List.getElem?_set_ne hk] at z; exact z
  obtain ⟨v, hv⟩ := (h.get e g).some hm
  refine ⟨by rw [List.length_set]; exact h.len, fun k k' a ga ga' z z' => h.uniq k k' a ga ga' (mu z) (mu z'), fun k ob ek => ?_, fun P hP => (HM.upd (K := W.K) (m := m) (m' := m) ⟨[], by simp⟩ sf).td _ _ (h.tab P hP)⟩
  by_cases hk : l = k
  · subst hk
    rw [List.getElem?_set_self hl] at ek
    cases ek
    exact ⟨p, g, hu⟩
  · rw [List.getElem?_set_ne hk] at ek
    obtain ⟨a, ga, r⟩ := h.at_ k ob ek
    refine ⟨a, ga, r.upd ⟨[], by simp⟩ sf fun hmo z => ?_⟩
    subst z
    exact hk (h.uniq l k a g ga (by rw [e]; exact hm) (by rw [ek]; exact hmo))
end
/-! ### what a piece of code leaves as it was -/
/-- a thing that only its maker writes -/
def Fz : HO → Prop
  | .lst _ => True
  | .ext _ => True
  | _ => False
structure HX (K : PySem.W.Frag) (m : List Addr) (H : Hp) (m' : List Addr) (H' : Hp) : Prop extends HM K m H m' H' where
  fr : ∀ a o, Fz o → H a = some o → a ∉ m → H' a = some o
  nw : ∀ a, a ∈ m' → a ∉ m → H a = none
  ex : ∀ a, H a ≠ none → H' a ≠ none
section
variable {K : PySem.W.Frag} {m m' m'' : List Addr} {H H' H'' : Hp}
theorem HX.refl : HX K m H m H := ⟨HM.refl, fun _ _ _ h _ => h, fun a h n => absurd h n, fun _ h => h⟩
theorem HX.trans (a : HX K m H m' H') (b : HX K m' H' m'' H'') : HX K m H m'' H'' := by
  refine ⟨a.toHM.trans b.toHM, fun p xs z h n => b.fr p xs z (a.fr p xs z h n) fun hm => ?_, fun p h n => ?_, fun p h => b.ex p (a.ex p h)⟩
  · rw [a.nw p hm n] at h; cases h
  · by_cases hm : p ∈ m'
    · exact a.nw p hm n
    · by_cases hz : H p = none
      · exact hz
      · exact absurd (b.nw p h hm) (a.ex p hz)
theorem HX.get (x : HX K m H m' H') {l : Nat} {a : Addr} (h : m[l]? = some a) : m'[l]? = some a := x.toHM.get h
theorem RV.mono (x : HX K m H m' H') {pv : PV} {v : V} (h : RV K m H pv v) : RV K m' H' pv v := RV.mono0 x.toHM h
theorem RVs.mono (x : HX K m H m' H') {pv : List PV} {v : List V} (h : RVs K m H pv v) : RVs K m' H' pv v := RVs.mono0 x.toHM h
theorem RKs.mono (x : HX K m H m' H') {pv : List (Key × PV)} {v : List (Key × V)} (h : RKs K m H pv v) : RKs K m' H' pv v := RKs.mono0 x.toHM h
theorem ex_upd {p : Addr} {o : HO} : ∀ a, H a ≠ none → upd H p o a ≠ none := fun a h => by
  by_cases e : a = p
  · subst e; rw [upd_same]; exact fun z => by cases z
  · rw [upd_ne e]; exact h
/-- a new thing that is no place -/
theorem HX.side {p : Addr} {o : HO} (hn : H p = none) : HX K m H m (upd H p o) :=
  ⟨HM.upd ⟨[], by simp⟩ (by rw [hn]; trivial), fun a xs _ h _ => by rw [upd_ne (ne_of_none h hn)]; exact h, fun a h n => absurd h n, ex_upd⟩
/-- a new place -/
theorem HX.new {p : Addr} {o : HO} (hn : H p = none) : HX K m H (m ++ [p]) (upd H p o) :=
  ⟨HM.upd ⟨[p], rfl⟩ (by rw [hn]; trivial), fun a xs _ h _ => by rw [upd_ne (ne_of_none h hn)]; exact h, fun a h n => by
    rcases List.mem_append.mp h with h | h
    · exact absurd h n
    · rw [List.mem_singleton.mp h]; exact hn, ex_upd⟩
/-- a place is written -/
theorem HX.wr {l : Nat} {p : Addr} {o : HO} (g : m[l]? = some p) (sf : Soft (H p)) : HX K m H m (upd H p o) :=
  ⟨HM.upd ⟨[], by simp⟩ sf, fun a xs _ h n => by rw [upd_ne (fun e => n (by rw [e]; exact List.mem_of_getElem? g))]; exact h, fun a h n => absurd h n, ex_upd⟩
/-- a thing that stands beside the places becomes one -/
theorem HX.adopt {p : Addr} {m1 : List Addr} {H1 : Hp} (x : HX K m H m1 H1) (hn : H p = none) : HX K m H (m1 ++ [p]) H1 := by
  obtain ⟨t, e⟩ := x.ml
  exact ⟨⟨⟨t ++ [p], by rw [e, List.append_assoc]⟩, x.sq, x.sf, x.td, x.cd⟩, x.fr, fun a h n => by
    rcases List.mem_append.mp h with h | h
    · exact x.nw a h n
    · rw [List.mem_singleton.mp h]; exact hn, x.ex⟩
end
theorem HR.adopt {W : Wd} {m : List Addr} {H : Hp} {st : Store} (h : HR W m H st) {p : Addr} {xs : List PV} {vs : List V} (hp : H p = some (.lst vs)) (hn : p ∉ m) (r : RVs W.K m H xs vs) : HR W (m ++ [p]) H (st ++ [.lst xs]) := by
  have M : HM W.K m H (m ++ [p]) H := ⟨⟨[p], rfl⟩, fun _ _ h => h, fun _ _ h => h, fun _ _ h => h, fun _ _ h => h⟩
  have rm : ∀ {a : Addr} {o : MO}, RM W.K W.P W.w m H a o → RM W.K W.P W.w (m ++ [p]) H a o := fun {a o} q => by
    cases o with
    | lst xs => obtain ⟨vs, h1, h2⟩ := q; exact ⟨vs, h1, h2.mono0 M⟩
    | dic xs => obtain ⟨vs, h1, h2⟩ := q; exact ⟨vs, h1, h2.mono0 M⟩
    | set xs => exact q
  have old : ∀ {l : Nat} {a : Addr}, (m ++ [p])[l]? = some a → (l < st.length ∧ m[l]? = some a ∧ a ≠ p) ∨ (l = st.length ∧ a = p) := fun {l a} g => by
    by_cases hl : l < m.length
    · rw [List.getElem?_append_left hl] at g
      exact .inl ⟨by rw [← h.len]; exact hl, g, fun e => hn (by rw [← e]; exact List.mem_of_getElem? g)⟩
    · rw [List.getElem?_append_right (by omega)] at g
      have : l - m.length = 0 := by
        have := (List.getElem?_eq_some_iff.mp g).1
        rw [List.length_singleton] at this
        omega
      rw [this] at g
      exact .inr ⟨by rw [← h.len]; omega, (Option.some.inj g).symm⟩
  refine ⟨by rw [List.length_append, List.length_append, h.len]; rfl, fun l l' a g g' z z' => ?_, fun l o e => ?_, h.tab⟩
  · rcases old g with ⟨a1, a2, a3⟩ | ⟨a1, a2⟩ <;> rcases old g' with ⟨b1, b2, b3⟩ | ⟨b1, b2⟩
    · rw [List.getElem?_append_left a1] at z
      rw [List.getElem?_append_left b1] at z'
      exact h.uniq l l' a a2 b2 z z'
    · exact absurd b2 a3
    · exact absurd a2 b3
    · omega
  · by_cases hl : l < st.length
    · rw [List.getElem?_append_left hl] at e
      obtain ⟨a, g, r'⟩ := h.at_ l o e
      exact ⟨a, by rw [List.getElem?_append_left (by rw [h.len]; exact hl)]; exact g, rm r'⟩
    · have hl2 : l = st.length := by
        have := (List.getElem?_eq_some_iff.mp e).1
        rw [List.length_append, List.length_singleton] at this
        omega
      subst hl2
      rw [List.getElem?_append_right (Nat.le_refl _), Nat.sub_self] at e
      cases e
      refine ⟨p, ?_, vs, hp, r.mono0 M⟩
      rw [← h.len, List.getElem?_append_right (Nat.le_refl _), Nat.sub_self]
      rfl
end Mi

namespace Mi
open PySem PySem.Spec PyProof.Rows L2
abbrev wo (X : Cx) (tb : List Addr) (D : Nat) : Wd := ⟨X.K, X.prog, X.w, tb, D⟩
/-- what follows a value -/
def Nx (W : Wd) (m : List Addr) (H : Hp) (st' : Store) (pv : PV) (Q : VK) : Prop := ∀ v m' H', HX W.K m H m' H' → HR W m' H' st' → RV W.K m' H' pv v → Q v H'
theorem LIM_line : (LIM : Nat) = sizeLine := by rw [sizeLine_eq]; rfl
theorem le_line {n : Nat} (h : n ≤ LIM) : n ≤ sizeLine := by rw [← LIM_line]; exact h
theorem lt_line {n : Nat} (h : n < LIM) : n < sizeLine := by rw [← LIM_line]; exact h

section
variable {W : Wd} {m : List Addr} {H : Hp} {st : Store} {Q : VK}
theorem Nx.here {pv : PV} {v : V} (n : Nx W m H st pv Q) (h : HR W m H st) (r : RV W.K m H pv v) : Q v H := n v m H HX.refl h r
/-- a new tuple -/
theorem Nx.tup {xs : List PV} {vs : List V} {p : Addr} (n : Nx W m H st (.tup xs) Q) (h : HR W m H st) (r : RVs W.K m H xs vs) (hp : H p = none) : Q (.ref p) (upd H p (.tup vs)) := by
  have X : HX W.K m H m (upd H p (.tup vs)) := HX.side hp
  exact n _ m _ X (h.side hp) ⟨p, vs, rfl, .inl (.inl upd_same), r.mono X⟩
/-- a new list -/
theorem Nx.lst {xs : List PV} {vs : List V} {p : Addr} (n : Nx W m H (st ++ [.lst xs]) (.loc st.length) Q) (h : HR W m H st) (r : RVs W.K m H xs vs) (hp : H p = none) : Q (.ref p) (upd H p (.lst vs)) := by
  have X : HX W.K m H (m ++ [p]) (upd H p (.lst vs)) := HX.new hp
  refine n _ (m ++ [p]) _ X (h.new hp ⟨vs, upd_same, r.mono X⟩ trivial) ⟨p, rfl, ?_⟩
  rw [← h.len, List.getElem?_append_right (Nat.le_refl _), Nat.sub_self]; rfl
theorem Nx.dic {kvs : List (Key × PV)} {ks : List (Key × V)} {p : Addr} (n : Nx W m H (st ++ [.dic kvs]) (.loc st.length) Q) (h : HR W m H st) (r : RKs W.K m H kvs ks) (hp : H p = none) : Q (.ref p) (upd H p (.dK ks)) := by
  have X : HX W.K m H (m ++ [p]) (upd H p (.dK ks)) := HX.new hp
  refine n _ (m ++ [p]) _ X (h.new hp ⟨ks, upd_same, r.mono X⟩ trivial) ⟨p, rfl, ?_⟩
  rw [← h.len, List.getElem?_append_right (Nat.le_refl _), Nat.sub_self]; rfl
theorem HR.lst (h : HR W m H st) {l : Nat} {xs : List PV} {v : V} (e : st[l]? = some (.lst xs)) (r : RV W.K m H (.loc l) v) : ∃ p vs, v = .ref p ∧ m[l]? = some p ∧ H p = some (.lst vs) ∧ RVs W.K m H xs vs := by
  obtain ⟨p, e1, g⟩ := r
  obtain ⟨vs, h1, h2⟩ := h.get e g
  exact ⟨p, vs, e1, g, h1, h2⟩
theorem HR.dic (h : HR W m H st) {l : Nat} {xs : List (Key × PV)} {v : V} (e : st[l]? = some (.dic xs)) (r : RV W.K m H (.loc l) v) : ∃ p vs, v = .ref p ∧ m[l]? = some p ∧ H p = some (.dK vs) ∧ RKs W.K m H xs vs := by
  obtain ⟨p, e1, g⟩ := r
  obtain ⟨vs, h1, h2⟩ := h.get e g
  exact ⟨p, vs, e1, g, h1, h2⟩
theorem HR.setO (h : HR W m H st) {l : Nat} {xs : List PV} {v : V} (e : st[l]? = some (.set xs)) (r : RV W.K m H (.loc l) v) : ∃ p, v = .ref p ∧ m[l]? = some p ∧ SetOf W.K W.P W.w H p xs := by
  obtain ⟨p, e1, g⟩ := r
  exact ⟨p, e1, g, h.get e g⟩
/-- a list that may be read: ours, or the script -/
theorem HR.seq (h : HR W m H st) {l : Nat} {xs : List PV} {v : V} (e : st[l]? = some (.lst xs)) (r : RV W.K m H (.loc l) v) : ∃ p vs, v = .ref p ∧ SqL W.K H p vs ∧ RVs W.K m H xs vs := by
  obtain ⟨p, vs, e1, _, h1, h2⟩ := h.lst e r
  exact ⟨p, vs, e1, .of h1, h2⟩
/-- a place is no fresh address -/
theorem HR.in_ (h : HR W m H st) {a : Addr} (hm : a ∈ m) : H a ≠ none := by
  obtain ⟨l, hl⟩ := List.getElem?_of_mem hm
  have ll : l < st.length := by rw [← h.len]; exact (List.getElem?_eq_some_iff.mp hl).1
  obtain ⟨b, g, r⟩ := h.at_ l _ (List.getElem?_eq_getElem ll)
  rw [hl] at g
  cases g
  obtain ⟨u, hu⟩ := r.some trivial
  rw [hu]
  exact fun z => by cases z
/-- a list is written -/
theorem Nx.setL {l : Nat} {xs ys : List PV} {vs ws : List V} {p : Addr} {pv : PV} {v : V} (n : Nx W m H (st.set l (.lst ys)) pv Q) (h : HR W m H st) (e : st[l]? = some (.lst xs)) (g : m[l]? = some p) (hp : H p = some (.lst vs)) (r : RVs W.K m H ys ws) (rv : RV W.K m H pv v) : Q v (upd H p (.lst ws)) := by
  have sf : Soft (H p) := by rw [hp]; trivial
  have X : HX W.K m H m (upd H p (.lst ws)) := HX.wr g sf
  exact n _ m _ X (h.set e g trivial trivial sf ⟨ws, upd_same, r.mono X⟩) (rv.mono X)
end

section
variable {K : PySem.W.Frag} {m : List Addr} {H : Hp}
theorem cutP_eq (xs : List PV) (vs : List V) (hl : vs.length = xs.length) (lo hi : Option Int) (h : RVs K m H xs vs) : RVs K m H (cutP xs lo hi) (cutV vs lo hi) := by
  unfold cutP cutV
  rw [hl]
  exact (h.drop _).take _
theorem atI_of {xs : List PV} {vs : List V} {i : Int} {x : PV} (h : RVs K m H xs vs) (e : atI xs i = some x) : ∃ v, atI vs i = some v ∧ RV K m H x v := by
  unfold atI at e ⊢
  rw [h.length]
  cases q : ixN xs.length i with
  | none => rw [q] at e; cases e
  | some j =>
    rw [q] at e
    exact h.get e
end
/-! ### data -/
mutual
theorem fine_lay : ∀ (n : Nat) (x : PV), x.fine n = true → x.toD.canLay0 = true ∧ x.toD.depth ≤ n
  | _, .non, _ => ⟨rfl, Nat.zero_le _⟩
  | _, .bl _, _ => ⟨rfl, Nat.zero_le _⟩
  | _, .int _, _ => ⟨rfl, Nat.zero_le _⟩
  | _, .str x, h => ⟨by rw [PV.fine] at h; rw [PV.toD, PyData.canLay0]; exact h, Nat.zero_le _⟩
  | 0, .tup xs, h => by rw [PV.fine] at h; cases h
  | n + 1, .tup xs, h => by
    rw [PV.fine] at h
    obtain ⟨a, b⟩ := fines_lay n xs h
    rw [PV.toD, PyData.canLay0, PyData.depth]
    exact ⟨a, by omega⟩
  | _, .loc _, h => by rw [PV.fine] at h; cases h
theorem fines_lay : ∀ (n : Nat) (xs : List PV), fines n xs = true → PyData.canLayAll0 (toDs xs) = true ∧ PyData.depthAll (toDs xs) ≤ n
  | _, [], _ => ⟨rfl, Nat.zero_le _⟩
  | n, x :: xs, h => by
    rw [fines, Bool.and_eq_true] at h
    obtain ⟨a, b⟩ := fine_lay n x h.1
    obtain ⟨c, d⟩ := fines_lay n xs h.2
    rw [toDs, PyData.canLayAll0, PyData.depthAll]
    exact ⟨by rw [a, c]; rfl, Nat.max_le.mpr ⟨b, d⟩⟩
end
theorem shaped_of {x : PV} (h : x.fine 30 = true) : SeqAt.shaped x.toD = true := by
  obtain ⟨a, b⟩ := fine_lay 30 x h
  unfold SeqAt.shaped
  rw [a, Bool.true_and, decide_eq_true_eq]
  omega
theorem shaped_list {xs : List PV} (h : fines 30 xs = true) : SeqAt.shaped (.list (toDs xs)) = true := by
  obtain ⟨a, b⟩ := fines_lay 30 xs h
  unfold SeqAt.shaped
  rw [PyData.canLay0, PyData.depth, a, Bool.true_and, decide_eq_true_eq]
  omega
section
variable {K : PySem.W.Frag} {m : List Addr} {H : Hp}
mutual
theorem dp_of : ∀ (n : Nat) (x : PV) (v : V), x.fine n = true → RV K m H x v → Dp K H v x.toD
  | _, .non, _, _, h => by rw [show _ = _ from h]; exact .non
  | _, .bl _, _, _, h => by rw [show _ = _ from h]; exact .bl _
  | _, .int _, _, _, h => by rw [show _ = _ from h]; exact .int _
  | _, .str x, _, _, h => by rw [show _ = _ from h]; exact .str _
  | 0, .tup xs, _, f, _ => by rw [PV.fine] at f; cases f
  | n + 1, .tup xs, v, f, h => by
    rw [PV.fine] at f
    obtain ⟨a, vs, e, s, r⟩ := h
    rw [e, PV.toD]
    exact .tup s (dps_of n xs vs f r)
  | _, .loc _, _, f, _ => by rw [PV.fine] at f; cases f
theorem dps_of : ∀ (n : Nat) (xs : List PV) (vs : List V), fines n xs = true → RVs K m H xs vs → DpAll K H vs (toDs xs)
  | _, [], _, _, h => by rw [show _ = [] from h]; exact .nil
  | n, x :: xs, _, f, h => by
    rw [fines, Bool.and_eq_true] at f
    obtain ⟨v, r, e, h1, h2⟩ := h
    rw [e, toDs]
    exact .cons (dp_of n x v f.1 h1) (dps_of n xs r f.2 h2)
end
end

section
variable {X : Cx} {tb : List Addr} {D : Nat}
/-! ### operators -/
def rBo (X : Cx) (tb : List Addr) (D : Nat) (op : Operator) : R2 := fun x y H Q => ∃ m st a b pv st', HR (wo X tb D) m H st ∧ RV X.K m H a x ∧ RV X.K m H b y ∧ bop op a b st = some (pv, st') ∧ Nx (wo X tb D) m H st' pv Q
theorem okMul_of {i j : Int} (h : okMul i j = true) : CMul i j := by
  unfold okMul at h
  simp only [Bool.or_eq_true, Bool.and_eq_true, decide_eq_true_eq] at h
  unfold CMul
  rcases h with h | h
  · exact .inl ⟨by omega, by omega⟩
  · exact .inr ⟨by omega, by omega⟩
theorem op_addM : OpR X (binaryOp .Add) (rBo X tb D .Add) := by
  intro pins s σ H x y v u Q I rx ry ⟨m, st, a, b, pv, st', hr, ra, rb, e, n⟩
  have e : addP a b st = some (pv, st') := e
  unfold addP at e
  split at e
  · cases e
    rw [show x = _ from ra] at rx
    rw [show y = _ from rb] at ry
    exact op_add pins s σ H _ _ v u Q I rx ry ⟨_, _, rfl, rfl, n.here hr rfl⟩
  · rename_i xs ys
    split at e
    · rename_i hl
      cases e
      obtain ⟨p, vs, e1, s1, r1⟩ := ra
      obtain ⟨q, ws, e2, s2, r2⟩ := rb
      subst e1 e2
      have r3 := r1.append r2
      refine op_catA pins s σ H _ _ v u Q I rx ry ⟨p, q, vs, ws, rfl, rfl, s1, s2, by rw [r1.length, r2.length]; exact le_line hl, fun z => ?_, fun _ z => ?_, fun _ _ t ht => n.tup hr r3 ht⟩
      · subst z
        exact n.here hr ⟨q, ws, rfl, s2, r3⟩
      · subst z
        rw [List.append_nil] at r3
        exact n.here hr ⟨p, vs, rfl, s1, r3⟩
    · cases e
  · rename_i l r
    split at e
    · rename_i xs ys e1 e2
      split at e
      · rename_i hl
        cases e
        obtain ⟨p, vs, f1, _, s1, r1⟩ := hr.lst e1 ra
        obtain ⟨q, ws, f2, _, s2, r2⟩ := hr.lst e2 rb
        subst f1 f2
        exact op_cat pins s σ H _ _ v u Q I rx ry ⟨p, q, vs, ws, rfl, rfl, s1, s2, by rw [r1.length, r2.length]; exact le_line hl, fun t ht => n.lst hr (r1.append r2) ht⟩
      · cases e
    · cases e
  · cases e
theorem op_subM : OpR X (binaryOp .Sub) (rBo X tb D .Sub) := by
  intro pins s σ H x y v u Q I rx ry ⟨m, st, a, b, pv, st', hr, ra, rb, e, n⟩
  unfold bop at e
  simp only at e
  split at e
  · cases e
    rw [show x = _ from ra] at rx
    rw [show y = _ from rb] at ry
    exact op_sub pins s σ H _ _ v u Q I rx ry ⟨_, _, rfl, rfl, n.here hr rfl⟩
  · cases e
theorem op_mulM : OpR X (binaryOp .Mult) (rBo X tb D .Mult) := by
  intro pins s σ H x y v u Q I rx ry ⟨m, st, a, b, pv, st', hr, ra, rb, e, n⟩
  unfold bop at e
  simp only at e
  split at e
  · split at e
    · rename_i hm
      cases e
      rw [show x = _ from ra] at rx
      rw [show y = _ from rb] at ry
      exact op_mul pins s σ H _ _ v u Q I rx ry ⟨_, _, rfl, rfl, okMul_of hm, n.here hr rfl⟩
    · cases e
  · cases e
theorem op_modM : OpR X (binaryOp .Mod) (rBo X tb D .Mod) := by
  intro pins s σ H x y v u Q I rx ry ⟨m, st, a, b, pv, st', hr, ra, rb, e, n⟩
  unfold bop at e
  simp only at e
  split at e
  · split at e
    · rename_i hm
      cases e
      rw [show x = _ from ra] at rx
      rw [show y = _ from rb] at ry
      exact op_mod pins s σ H _ _ v u Q I rx ry ⟨_, _, rfl, rfl, hm, n.here hr rfl⟩
    · cases e
  · cases e
theorem op_fdivM : OpR X (binaryOp .FloorDiv) (rBo X tb D .FloorDiv) := by
  intro pins s σ H x y v u Q I rx ry ⟨m, st, a, b, pv, st', hr, ra, rb, e, n⟩
  unfold bop at e
  simp only at e
  split at e
  · split at e
    · rename_i hm
      cases e
      rw [show x = _ from ra] at rx
      rw [show y = _ from rb] at ry
      exact op_fdiv pins s σ H _ _ v u Q I rx ry ⟨_, _, rfl, rfl, hm, n.here hr rfl⟩
    · cases e
  · cases e
theorem op_powM : OpR X (binaryOp .Pow) (rBo X tb D .Pow) := by
  intro pins s σ H x y v u Q I rx ry ⟨m, st, a, b, pv, st', hr, ra, rb, e, n⟩
  unfold bop at e
  simp only at e
  split at e
  · split at e
    · rename_i hm
      cases e
      rw [show x = _ from ra] at rx
      rw [show y = _ from rb] at ry
      exact op_pow pins s σ H _ _ v u Q I rx ry ⟨_, _, rfl, rfl, ⟨hm.1, hm.2.1, by omega⟩, n.here hr rfl⟩
    · cases e
  · cases e
theorem op_boM (op : Operator) : OpR X (binaryOp op) (rBo X tb D op) := by
  cases op with
  | Add => exact op_addM
  | Sub => exact op_subM
  | Mult => exact op_mulM
  | Mod => exact op_modM
  | FloorDiv => exact op_fdivM
  | Pow => exact op_powM
  | _ =>
    intro pins s σ H x y v u Q I rx ry ⟨m, st, a, b, pv, st', hr, ra, rb, e, n⟩
    cases e

/-! ### comparisons -/
def rCm (X : Cx) (tb : List Addr) (D : Nat) (op : CmpOp) : R2 := fun x y H Q => ∃ m st a b c, HR (wo X tb D) m H st ∧ RV X.K m H a x ∧ RV X.K m H b y ∧ cmp op st a b = some c ∧ Q (.bl c) H
/-- data of both sides -/
theorem eqP_dp {m : List Addr} {H : Hp} {st : Store} {a b : PV} {x y : V} {c : Bool} (hr : HR (wo X tb D) m H st) (ra : RV X.K m H a x) (rb : RV X.K m H b y) (e : eqP st a b = some c) :
    ∃ d f, Dp X.K H x d ∧ Dp X.K H y f ∧ SeqAt.shaped d = true ∧ SeqAt.shaped f = true ∧ PyData.eqv d f = c := by
  unfold eqP at e
  split at e
  · split at e
    · rename_i l1 l2 xs ys e1 e2
      split at e
      · rename_i hf
        cases e
        rw [Bool.and_eq_true] at hf
        obtain ⟨p, vs, f1, _, s1, r1⟩ := hr.lst e1 ra
        obtain ⟨q, ws, f2, _, s2, r2⟩ := hr.lst e2 rb
        subst f1 f2
        exact ⟨_, _, .lst (.of s1) (dps_of 30 xs vs hf.1 r1), .lst (.of s2) (dps_of 30 ys ws hf.2 r2), shaped_list hf.1, shaped_list hf.2, by rw [PyData.eqv]⟩
      · cases e
    · cases e
  · cases e
  · cases e
  · split at e
    · rename_i hf
      cases e
      rw [Bool.and_eq_true] at hf
      exact ⟨_, _, dp_of 30 a x hf.1 ra, dp_of 30 b y hf.2 rb, shaped_of hf.1, shaped_of hf.2, rfl⟩
    · cases e
theorem op_eqM (hu : X.A.units + 64 < cLine) : OpR X (compareOp .Eq) (rCm X tb D .Eq) := by
  intro pins s σ H x y v u Q I rx ry ⟨m, st, a, b, c, hr, ra, rb, e, n⟩
  obtain ⟨d, f, h1, h2, h3, h4, h5⟩ := eqP_dp hr ra rb e
  exact op_eqD hu pins s σ H x y v u Q I rx ry ⟨d, f, h1, h2, h3, h4, by rw [h5]; exact n⟩
theorem op_neM (hu : X.A.units + 64 < cLine) : OpR X (compareOp .NotEq) (rCm X tb D .NotEq) := by
  intro pins s σ H x y v u Q I rx ry ⟨m, st, a, b, c, hr, ra, rb, e, n⟩
  unfold cmp at e
  simp only at e
  cases q : eqP st a b with
  | none => rw [q] at e; cases e
  | some c' =>
    rw [q] at e
    cases e
    obtain ⟨d, f, h1, h2, h3, h4, h5⟩ := eqP_dp hr ra rb q
    exact op_neD hu pins s σ H x y v u Q I rx ry ⟨d, f, h1, h2, h3, h4, by rw [h5]; exact n⟩
theorem op_ltM : OpR X (compareOp .Lt) (rCm X tb D .Lt) := by
  intro pins s σ H x y v u Q I rx ry ⟨m, st, a, b, c, hr, ra, rb, e, n⟩
  have e : ltP a b = some c := e
  unfold ltP at e
  split at e
  · cases e
    rw [show x = _ from ra] at rx
    rw [show y = _ from rb] at ry
    exact op_lt pins s σ H _ _ v u Q I rx ry ⟨_, _, rfl, rfl, n⟩
  · cases e
    rw [show x = _ from ra] at rx
    rw [show y = _ from rb] at ry
    exact op_lt_str pins s σ H _ _ v u Q I rx ry ⟨_, _, rfl, rfl, n⟩
  · cases e
theorem op_leM : OpR X (compareOp .LtE) (rCm X tb D .LtE) := by
  intro pins s σ H x y v u Q I rx ry ⟨m, st, a, b, c, hr, ra, rb, e, n⟩
  unfold cmp at e
  simp only at e
  split at e
  · cases e
    rw [show x = _ from ra] at rx
    rw [show y = _ from rb] at ry
    exact op_le pins s σ H _ _ v u Q I rx ry ⟨_, _, rfl, rfl, n⟩
  · cases e
theorem op_gtM : OpR X (compareOp .Gt) (rCm X tb D .Gt) := by
  intro pins s σ H x y v u Q I rx ry ⟨m, st, a, b, c, hr, ra, rb, e, n⟩
  unfold cmp at e
  simp only at e
  split at e
  · cases e
    rw [show x = _ from ra] at rx
    rw [show y = _ from rb] at ry
    exact op_gt pins s σ H _ _ v u Q I rx ry ⟨_, _, rfl, rfl, n⟩
  · cases e
theorem op_geM : OpR X (compareOp .GtE) (rCm X tb D .GtE) := by
  intro pins s σ H x y v u Q I rx ry ⟨m, st, a, b, c, hr, ra, rb, e, n⟩
  unfold cmp at e
  simp only at e
  split at e
  · cases e
    rw [show x = _ from ra] at rx
    rw [show y = _ from rb] at ry
    exact op_ge pins s σ H _ _ v u Q I rx ry ⟨_, _, rfl, rfl, n⟩
  · cases e
theorem RV.non_iff {K : PySem.W.Frag} {m : List Addr} {H : Hp} {a : PV} {x : V} (h : RV K m H a x) : (x = .non) ↔ a = .non := by
  cases a with
  | non => exact ⟨fun _ => rfl, fun _ => h⟩
  | bl b => rw [show x = _ from h]; exact ⟨(nomatch ·), (nomatch ·)⟩
  | int b => rw [show x = _ from h]; exact ⟨(nomatch ·), (nomatch ·)⟩
  | str b => rw [show x = _ from h]; exact ⟨(nomatch ·), (nomatch ·)⟩
  | tup b => obtain ⟨p, vs, e, _⟩ := h; rw [e]; exact ⟨(nomatch ·), (nomatch ·)⟩
  | frl b => obtain ⟨p, vs, e, _⟩ := h; rw [e]; exact ⟨(nomatch ·), (nomatch ·)⟩
  | loc b => obtain ⟨p, e, _⟩ := h; rw [e]; exact ⟨(nomatch ·), (nomatch ·)⟩
theorem isP_cases {m : List Addr} {H : Hp} {a b : PV} {x y : V} {c : Bool} (ra : RV X.K m H a x) (rb : RV X.K m H b y) (e : isP a b = some c) :
    (y = .non ∧ c = decide (x = .non)) ∨ ∃ i j, x = .bl i ∧ y = .bl j ∧ c = decide (i = j) := by
  unfold isP at e
  split at e
  · cases e
    exact .inl ⟨rb, by rw [show x = _ from ra]; rfl⟩
  · rename_i hn
    cases e
    refine .inl ⟨rb, ?_⟩
    rw [eq_comm, decide_eq_false_iff_not, ra.non_iff]
    exact fun z => hn z
  · cases e
    exact .inr ⟨_, _, ra, rb, rfl⟩
  · cases e
theorem op_isM : OpR X (compareOp .Is) (rCm X tb D .Is) := by
  intro pins s σ H x y v u Q I rx ry ⟨m, st, a, b, c, hr, ra, rb, e, n⟩
  rcases isP_cases ra rb e with ⟨h1, h2⟩ | ⟨i, j, h1, h2, h3⟩
  · exact op_isN pins s σ H x y v u Q I rx ry ⟨h1, by rw [← h2]; exact n⟩
  · exact op_is_bl pins s σ H x y v u Q I rx ry ⟨i, j, h1, h2, by rw [← h3]; exact n⟩
theorem op_isnM : OpR X (compareOp .IsNot) (rCm X tb D .IsNot) := by
  intro pins s σ H x y v u Q I rx ry ⟨m, st, a, b, c, hr, ra, rb, e, n⟩
  unfold cmp at e
  simp only at e
  cases q : isP a b with
  | none => rw [q] at e; cases e
  | some c' =>
    rw [q] at e
    cases e
    rcases isP_cases ra rb q with ⟨h1, h2⟩ | ⟨i, j, h1, h2, h3⟩
    · exact op_notN pins s σ H x y v u Q I rx ry ⟨h1, by rw [← h2]; exact n⟩
    · exact op_isnot_bl pins s σ H x y v u Q I rx ry ⟨i, j, h1, h2, by rw [← h3]; exact n⟩
theorem key_of {m : List Addr} {H : Hp} {a : PV} {x : V} {k : Key} {K : PySem.W.Frag} (ra : RV K m H a x) (e : a.key = some k) : x = kV k := by
  cases a <;> simp only [PV.key, Option.some.injEq, reduceCtorEq] at e <;> subst e <;> exact ra
theorem RKs.look {K : PySem.W.Frag} {m : List Addr} {H : Hp} {k : Key} : ∀ {kvs : List (Key × PV)} {ks : List (Key × V)}, RKs K m H kvs ks → (lookK kvs k = none ∧ valV ks k = none) ∨ ∃ x v, lookK kvs k = some x ∧ valV ks k = some v ∧ RV K m H x v
  | [], _, h => by rw [show _ = [] from h]; exact .inl ⟨rfl, rfl⟩
  | (q, x) :: r, _, h => by
    obtain ⟨v, t, e, h1, h2⟩ := h
    rw [e]
    unfold lookK valV
    rw [List.find?_cons, List.find?_cons]
    by_cases z : q = k
    · simp only [z, decide_true]
      exact .inr ⟨x, v, rfl, rfl, h1⟩
    · simp only [z, decide_false]
      exact RKs.look h2
theorem RKs.any {K : PySem.W.Frag} {m : List Addr} {H : Hp} {k : Key} : ∀ {kvs : List (Key × PV)} {ks : List (Key × V)}, RKs K m H kvs ks → (ks.any fun kv => decide (kv.1 = k)) = (kvs.any fun kv => decide (kv.1 = k))
  | [], _, h => by rw [show _ = [] from h]; rfl
  | (q, x) :: r, _, h => by
    obtain ⟨v, t, e, h1, h2⟩ := h
    rw [e, List.any_cons, List.any_cons, RKs.any h2]
theorem RKs.length {K : PySem.W.Frag} {m : List Addr} {H : Hp} : ∀ {kvs : List (Key × PV)} {ks : List (Key × V)}, RKs K m H kvs ks → ks.length = kvs.length
  | [], _, h => by rw [show _ = [] from h]; rfl
  | (q, x) :: r, _, h => by
    obtain ⟨v, t, e, h1, h2⟩ := h
    rw [e, List.length_cons, List.length_cons, RKs.length h2]
/-- membership, by cases -/
theorem inP_op (hu : X.A.units + 1 < cLine) (neg : Bool) : OpR X (compareOp (if neg then .NotIn else .In)) (fun x y H Q => ∃ m st a b c, HR (wo X tb D) m H st ∧ RV X.K m H a x ∧ RV X.K m H b y ∧ inP st a b = some c ∧ Q (.bl (if neg then !c else c)) H) := by
  intro pins s σ H x y v u Q I rx ry ⟨m, st, a, b, c, hr, ra, rb, e, n⟩
  have sq : ∀ (p : Addr) (xs : List PV) (vs : List V) (a' : V) (us : List V), (SqL X.K H p vs ∨ SqT X.K H p vs) → RVs X.K m H xs vs → a.toV = some a' → toVs xs = some us → c = inV a' us → y = .ref p →
      wpAny (model X.prog X.w) X.A (compareOp (if neg then .NotIn else .In) v u) (EP X pins σ Q) X.xe s := fun p xs vs a' us hs rs e1 e2 ec ey => by
    have z1 := toV_of ra e1
    have z2 := toVs_of rs e2
    subst z1 z2 ey ec
    cases neg with
    | false => exact op_in_seq pins s σ H _ _ v u Q I rx ry ⟨p, vs, rfl, hs, toV_flat e1, toVs_flat e2, n⟩
    | true => exact op_notIn_seq pins s σ H _ _ v u Q I rx ry ⟨p, vs, rfl, hs, toV_flat e1, toVs_flat e2, n⟩
  unfold inP at e
  split at e
  · rename_i xs
    split at e
    · rename_i a' us e1 e2
      cases e
      obtain ⟨p, vs, ey, s1, r1⟩ := rb
      exact sq p xs vs a' us (.inr s1) r1 e1 e2 rfl ey
    · cases e
  · rename_i l
    split at e
    · rename_i xs el
      split at e
      · rename_i a' us e1 e2
        cases e
        obtain ⟨p, vs, ey, _, s1, r1⟩ := hr.lst el rb
        exact sq p xs vs a' us (.inl (.of s1)) r1 e1 e2 rfl ey
      · cases e
    · rename_i kvs el
      split at e
      · rename_i k ek
        cases e
        obtain ⟨p, vs, ey, _, s1, r1⟩ := hr.dic el rb
        subst ey
        have g : DGet H p x (valV vs k) := by rw [key_of ra ek]; exact DGet.k s1
        have ec : (valV vs k).isSome = (lookK kvs k).isSome := by
          rcases r1.look (k := k) with ⟨z1, z2⟩ | ⟨_, _, z1, z2, _⟩ <;> rw [z1, z2] <;> rfl
        cases ry
        cases neg with
        | false => exact d_in hu I g rx fun s' I' => ⟨.bl (valV vs k).isSome, H, I', rfl, by rw [ec]; exact n⟩
        | true => exact d_notIn hu I g rx fun s' I' => ⟨.bl (!(valV vs k).isSome), H, I', rfl, by rw [ec]; exact n⟩
      · cases e
    · cases e
  · split at e
    · split at e
      · rename_i z _ _ t _ c0 et
        cases e
        have et2 : t = ⟨#[c0]⟩ := by
          obtain ⟨cps⟩ := t
          have : cps = #[c0] := by rw [← Array.toArray_toList (xs := cps), show cps.toList = _ from et]
          rw [this]
        subst et2
        rw [show x = _ from ra] at rx
        rw [show y = _ from rb] at ry
        cases neg with
        | false => exact op_in_sign pins s σ H _ _ v u Q I rx ry ⟨_, _, rfl, rfl, n⟩
        | true => exact op_notIn_sign pins s σ H _ _ v u Q I rx ry ⟨_, _, rfl, rfl, n⟩
      · cases e
    · cases e
  · cases e
theorem op_inM (hu : X.A.units + 1 < cLine) : OpR X (compareOp .In) (rCm X tb D .In) := by
  intro pins s σ H x y v u Q I rx ry ⟨m, st, a, b, c, hr, ra, rb, e, n⟩
  exact inP_op (tb := tb) (D := D) hu false pins s σ H x y v u Q I rx ry ⟨m, st, a, b, c, hr, ra, rb, e, n⟩
theorem op_ninM (hu : X.A.units + 1 < cLine) : OpR X (compareOp .NotIn) (rCm X tb D .NotIn) := by
  intro pins s σ H x y v u Q I rx ry ⟨m, st, a, b, c, hr, ra, rb, e, n⟩
  unfold cmp at e
  simp only at e
  cases q : inP st a b with
  | none => rw [q] at e; cases e
  | some c' =>
    rw [q] at e
    cases e
    exact inP_op (tb := tb) (D := D) hu true pins s σ H x y v u Q I rx ry ⟨m, st, a, b, c', hr, ra, rb, q, n⟩
theorem op_cmM (hu : X.A.units + 64 < cLine) (op : CmpOp) : OpR X (compareOp op) (rCm X tb D op) := by
  cases op with
  | Eq => exact op_eqM hu
  | NotEq => exact op_neM hu
  | Lt => exact op_ltM
  | LtE => exact op_leM
  | Gt => exact op_gtM
  | GtE => exact op_geM
  | Is => exact op_isM
  | IsNot => exact op_isnM
  | In => exact op_inM (by omega)
  | NotIn => exact op_ninM (by omega)
/-- truth -/
theorem tru_of {m : List Addr} {H : Hp} {st : Store} {a : PV} {x : V} {c : Bool} (hr : HR (wo X tb D) m H st) (ra : RV X.K m H a x) (e : truP st a = some c) : TruV X.K x H c := by
  cases a with
  | non => rw [show x = _ from ra]; cases e; rfl
  | bl b => rw [show x = _ from ra]; cases e; rfl
  | int b => rw [show x = _ from ra]; cases e; rfl
  | str b => cases e
  | frl xs =>
    obtain ⟨p, vs, ey, s1, r1⟩ := ra
    cases e
    subst ey
    refine .inl ⟨vs, s1.l, ?_⟩
    have := r1.length
    cases xs <;> cases vs <;> simp_all
  | tup xs =>
    obtain ⟨p, vs, ey, s1, r1⟩ := ra
    cases e
    subst ey
    refine .inr (.inl ⟨vs, s1, ?_⟩)
    have := r1.length
    cases xs <;> cases vs <;> simp_all
  | loc l =>
    unfold truP at e
    split at e <;> try cases e
    all_goals (try contradiction)
    · rename_i q _ e1
      cases e1
      split at e
      · rename_i xs el
        cases e
        obtain ⟨p, vs, ey, _, s1, r1⟩ := hr.lst el ra
        subst ey
        refine .inl ⟨vs, .of s1, ?_⟩
        have := r1.length
        cases xs <;> cases vs <;> simp_all
      · rename_i xs el
        cases e
        obtain ⟨p, vs, ey, _, s1, r1⟩ := hr.dic el ra
        subst ey
        refine .inr (.inr ⟨vs, s1, ?_⟩)
        have := r1.length
        cases xs <;> cases vs <;> simp_all
      · cases e
end
end Mi

namespace Mi
open PySem PySem.Spec PyProof.Rows L2
section
variable {X : Cx} {tb : List Addr} {D : Nat}
/-! ### subscripts, slices -/
def rIxM (X : Cx) (tb : List Addr) (D : Nat) : R2 := fun x y H Q => ∃ m st a b pv st', HR (wo X tb D) m H st ∧ RV X.K m H a x ∧ RV X.K m H b y ∧ ixP a b st = some (pv, st') ∧ Nx (wo X tb D) m H st' pv Q
theorem ix_dic (hu : X.A.units + 1 < cLine) {m : List Addr} {st : Store} {kvs : List (Key × PV)} {k : Key} {l : Nat} {pv b : PV} {value slice : Expr} {pins : List (Addr × Obj)} {s : Shared} {σ : L2.St} {H : Hp} {x y : V} {v u : Value} {Q : VK}
    (I : Inv X pins σ H s) (rx : RelV x v) (ry : RelV y u) (hs : subscripted slice false v u = operate [v, u] (getItem v u)) (hr : HR (wo X tb D) m H st) (ra : RV X.K m H (.loc l) x) (rb : RV X.K m H b y) (el : st[l]? = some (.dic kvs))
    (ek : b.key = some k) (e : lookK kvs k = some pv) (n : Nx (wo X tb D) m H st pv Q) : wpAny (model X.prog X.w) X.A (subscriptTail value slice v u) (EP X pins σ Q) X.xe s := by
  obtain ⟨p, vs, ey, _, s1, r1⟩ := hr.dic el ra
  subst ey
  rcases r1.look (k := k) with ⟨z1, z2⟩ | ⟨x', v', z1, z2, z3⟩
  · rw [e] at z1; cases z1
  · rw [e] at z1
    cases z1
    have g : DGet H p y (some v') := by rw [key_of rb ek, ← z2]; exact DGet.k s1
    cases rx
    exact tail_any (dict_typeIs I g) PySem.F.slot_dict_getitem.lookup (d_getItem hu I g ry fun w' s3 I3 rw' => ⟨v', H, I3, rw', n.here hr z3⟩) hs
theorem ix_M (hu : X.A.units + 1 < cLine) : IxR X (rIxM X tb D) := by
  intro value slice pins s σ H x y v u Q I rx ry ⟨m, st, a, b, pv, st', hr, ra, rb, e, n⟩ hs
  unfold ixP at e
  split at e
  · rename_i xs i
    obtain ⟨z, ez, e2⟩ := Option.map_eq_some_iff.mp e
    cases e2
    obtain ⟨p, vs, e1, s1, r1⟩ := ra
    obtain ⟨w, ew, rw'⟩ := atI_of r1 ez
    subst e1
    exact ix_tup value slice pins s σ H _ _ v u Q I rx ry ⟨p, vs, i, w, rfl, rb, s1, ew, n.here hr rw'⟩ hs
  · rename_i l i
    split at e
    · rename_i xs el
      obtain ⟨z, ez, e2⟩ := Option.map_eq_some_iff.mp e
      cases e2
      obtain ⟨p, vs, e1, _, s1, r1⟩ := hr.lst el ra
      obtain ⟨w, ew, rw'⟩ := atI_of r1 ez
      subst e1
      exact ix_list value slice pins s σ H _ _ v u Q I rx ry ⟨p, vs, i, w, rfl, rb, .of s1, ew, n.here hr rw'⟩ hs
    · rename_i kvs el
      obtain ⟨z, ez, e2⟩ := Option.map_eq_some_iff.mp e
      cases e2
      exact ix_dic hu I rx ry hs hr ra rb el rfl ez n
    · cases e
  · rename_i l i
    split at e
    · rename_i kvs el
      obtain ⟨z, ez, e2⟩ := Option.map_eq_some_iff.mp e
      cases e2
      exact ix_dic hu I rx ry hs hr ra rb el rfl ez n
    · cases e
  · cases e
def rSlM (X : Cx) (tb : List Addr) (D : Nat) : V → Option Int → Option Int → Hp → VK → Prop := fun x lo hi H Q => ∃ m st a pv st', HR (wo X tb D) m H st ∧ RV X.K m H a x ∧ slP a lo hi st = some (pv, st') ∧ Nx (wo X tb D) m H st' pv Q
theorem sl_M : SlR X (rSlM X tb D) := by
  intro pins s σ H x v vl vu lo hi sl Q I rx hs pl pu ⟨m, st, a, pv, st', hr, ra, e, n⟩
  unfold slP at e
  split at e
  · rename_i xs
    cases e
    obtain ⟨p, vs, e1, s1, r1⟩ := ra
    subst e1
    have rc := cutP_eq xs vs r1.length lo hi r1
    refine sl_tupA pins s σ H _ v vl vu lo hi sl Q I rx hs pl pu ⟨p, vs, rfl, s1, fun z => ?_, fun _ t ht => n.tup hr rc ht⟩
    refine n.here hr ⟨p, vs, rfl, s1, ?_⟩
    have ec : cutV vs lo hi = vs := by
      unfold cutV
      rw [z.1, z.2, List.drop_zero, Nat.sub_zero, List.take_length]
    rw [ec] at rc
    exact rc
  · rename_i l
    split at e
    · rename_i xs el
      cases e
      obtain ⟨p, vs, e1, _, s1, r1⟩ := hr.lst el ra
      subst e1
      exact sl_list pins s σ H _ v vl vu lo hi sl Q I rx hs pl pu ⟨p, vs, rfl, .of s1, fun t ht => n.lst hr (cutP_eq xs vs r1.length lo hi r1) ht⟩
    · cases e
  · cases e

/-! ### isinstance -/
def clsList : List String := ["NoneType", "bool", "int", "str", "tuple", "list", "dict"]
def tyList : List String := ["int", "str", "bool", "tuple", "list"]
theorem kit_all : (clsList.all fun c => tyList.all fun t => kitB c t == some (subT c t)) = true := by decide +kernel
theorem okT_mem {t : String} (h : okT t = true) : t ∈ tyList := by
  unfold okT at h
  simp only [Bool.or_eq_true, beq_iff_eq] at h
  unfold tyList
  simp only [List.mem_cons, List.not_mem_nil, or_false]
  rcases h with (((h | h) | h) | h) | h <;> simp [h]
theorem kit_sub {K : PySem.W.Frag} {c t : String} (hc : c ∈ clsList) (ht : okT t = true) : PySem.W.kitOne K (.type c) (.type t) = some (subT c t) := by
  refine kit_ty ?_
  have h := kit_all
  rw [List.all_eq_true] at h
  have h2 := h c hc
  rw [List.all_eq_true] at h2
  exact eq_of_beq (h2 t (okT_mem ht))
theorem kit_subs {K : PySem.W.Frag} {c : String} (hc : c ∈ clsList) : ∀ {ts : List String}, ts.all okT = true → PySem.W.kitAny K (.type c) (ts.map Value.type) = some (ts.any (subT c))
  | [], _ => rfl
  | t :: ts, h => by
    rw [List.all_cons, Bool.and_eq_true] at h
    rw [List.map_cons, List.any_cons]
    refine kitAny_cons (kit_sub hc h.1) (fun z => ?_) fun z => ?_
    · rw [z, Bool.false_or]
      exact kit_subs hc h.2
    · rw [z]; rfl
theorem cls_of {m : List Addr} {H : Hp} {st : Store} {a : PV} {x : V} {c : String} (hr : HR (wo X tb D) m H st) (ra : RV X.K m H a x) (e : clsP st a = some c) : c ∈ clsList ∧ TyX X.K H x (.type c) := by
  unfold clsP at e
  split at e
  · cases e
    rw [show x = _ from ra]
    exact ⟨by simp [clsList], .base .non⟩
  · cases e
    rw [show x = _ from ra]
    exact ⟨by simp [clsList], .base (.bl _)⟩
  · cases e
    rw [show x = _ from ra]
    exact ⟨by simp [clsList], .base (.int _)⟩
  · cases e
    rw [show x = _ from ra]
    exact ⟨by simp [clsList], .base (.str _)⟩
  · cases e
    obtain ⟨p, vs, e1, s1, r1⟩ := ra
    subst e1
    refine ⟨by simp [clsList], ?_⟩
    rcases s1 with (h | ⟨o, h⟩) | ⟨o, its, k, h1, h2, _⟩
    · exact .base (.tup h)
    · exact .fTuple h
    · exact .kTuple h1 h2
  · cases e
    obtain ⟨p, vs, e1, s1, r1⟩ := ra
    subst e1
    refine ⟨by simp [clsList], ?_⟩
    rcases s1 with ⟨o, h⟩ | ⟨o, its, k, h1, h2, _⟩
    · exact .base (.frz h)
    · exact .kList h1 h2
  · split at e
    · rename_i xs el
      cases e
      obtain ⟨p, vs, e1, _, s1, r1⟩ := hr.lst el ra
      subst e1
      exact ⟨by simp [clsList], .base (.lst s1)⟩
    · rename_i xs el
      cases e
      obtain ⟨p, vs, e1, _, s1, r1⟩ := hr.dic el ra
      subst e1
      exact ⟨by simp [clsList], .base (.dK s1)⟩
    · cases e

/-! ### sorting -/
theorem insI_perm (x : Int) : ∀ l : List Int, (insI x l).Perm (x :: l)
  | [] => .refl _
  | y :: r => by
    unfold insI
    split
    · exact .refl _
    · exact ((insI_perm x r).cons y).trans (.swap x y r)
theorem isortI_perm : ∀ l : List Int, (isortI l).Perm l
  | [] => .refl _
  | x :: r => (insI_perm x _).trans ((isortI_perm r).cons x)
theorem insI_sorted (x : Int) : ∀ {l : List Int}, l.Pairwise (· ≤ ·) → (insI x l).Pairwise (· ≤ ·)
  | [], _ => List.pairwise_singleton _ _
  | y :: r, h => by
    unfold insI
    obtain ⟨h1, h2⟩ := List.pairwise_cons.mp h
    split
    · rename_i hxy
      refine List.pairwise_cons.mpr ⟨fun z hz => ?_, h⟩
      rcases List.mem_cons.mp hz with rfl | hz
      · exact hxy
      · exact Int.le_trans hxy (h1 z hz)
    · rename_i hxy
      refine List.pairwise_cons.mpr ⟨fun z hz => ?_, insI_sorted x h2⟩
      rcases List.mem_cons.mp ((insI_perm x r).subset hz) with rfl | hz
      · omega
      · exact h1 z hz
theorem isortI_sorted : ∀ l : List Int, (isortI l).Pairwise (· ≤ ·)
  | [] => .nil
  | x :: r => insI_sorted x (isortI_sorted r)
theorem isortI_one {l ns : List Int} (p : ns.Perm l) (s : ns.Pairwise (· ≤ ·)) : ns = isortI l := PySem.W.os_sorted_one (p.trans (isortI_perm l).symm) s (isortI_sorted l)
end

/-! sorted(t) of a tuple, in the library's words (as its rules for a list) -/
section
variable {prog : Program} {w : World} {A : Around} {E : Value → Shared → Prop} {s : Shared}
theorem collect_tup {l : Addr} {vs : List Value} {Q : List Value → Shared → Prop} (hl : IsTup s.heap l vs.toArray)
    (h : Q vs { s with heap := (s.heap.push (seqObj "list" #[] 0)).update s.heap.objs.size (Obj.mapSeq (· ++ vs.toArray)) }) (hsz : vs.length ≤ sizeLine) :
    wpAny (model prog w) A (collect (.ref l)) Q E s := by
  obtain ⟨o, ho, hc, n, hd⟩ := id hl
  unfold collect
  refine wpAny_bind (wpAny_runValue (codeAny_builtin entry_proto_collect' ?_))
  show wpAny _ _ (do again (.builtin "list.__iadd__" ⟨[← newList [], .ref l], []⟩)) _ _ s
  refine wpAny_bind (wpAny_newList (wpAny_pure ⟨Code.quiet_builtin _ (by decide +kernel), codeAny_builtin entry_list_iadd' ?_⟩))
  show wpAny _ _ (Builtin.List.listExtendWith (.ref s.heap.objs.size) (.ref l) (.ref s.heap.objs.size)) _ _ { s with heap := s.heap.push (seqObj "list" #[] 0) }
  unfold Builtin.List.listExtendWith
  have ho' : (s.heap.push (seqObj "list" #[] 0)).get? l = some o := Heap.get?_push_of_some _ ho
  refine wpAny_bind (wpAny_typeOf (T := "tuple") ⟨o, ho', hc⟩ ?_)
  have ht : (Value.type "tuple" == Value.type "tuple") = true := by rfl
  rw [if_pos (by rw [ht]; simp)]
  refine wpAny_bind (listItems_at ho' hd ?_)
  refine wpAny_bind (listItems_at (xs := #[]) (n := 0) (Heap.get?_push_size _ rfl) rfl ?_)
  rw [if_neg (by simp)]
  refine wpAny_bind (listUpdate_at (xs := #[]) (n := 0) (Heap.get?_push_size _ rfl) rfl ?_ (Nat.zero_le _) (by show (#[] ++ vs.toArray).size ≤ sizeLine + 1; simp only [Array.size_append, List.size_toArray, List.length_nil]; omega))
  refine wpAny_pure ?_
  show wpAny (model prog w) A (do
      let o ← load s.heap.objs.size
      match o.data with
      | .seq xs _ => pure xs.toList
      | _ => unsupported "internal:collect") Q E { s with heap := (s.heap.push (seqObj "list" #[] 0)).update s.heap.objs.size (Obj.mapSeq (· ++ vs.toArray)) }
  refine wpAny_bind (wpAny_load (get?_update_seq (Heap.get?_push_size _ rfl) _) ?_)
  show wpAny _ _ (pure ((#[] : Array Value) ++ vs.toArray).toList) Q E _
  rw [show ((#[] : Array Value) ++ vs.toArray).toList = vs by simp]
  exact wpAny_pure h
theorem sorted_tupI {l : Addr} {vs : List Value} {ns : List Int} {Q : Value → Shared → Prop} (hl : IsTup s.heap l vs.toArray) (hI : IntsAre vs ns) (h64 : vs.length < 64)
    (h : ∀ (out : Array Value) (ns' : List Int), IntsAre out.toList ns' → ns'.Perm ns → ns'.Pairwise (· ≤ ·) → Q (.ref (s.heap.objs.size + 1)) { s with heap := sortedAll s.heap vs out }) :
    wpAny (model prog w) A (call (.builtin "sorted") [.ref l]) Q E s := by
  refine Calls.call_function_entry kind_sorted plain_sorted entry_sorted (args_sorted1 _) ?_
  unfold Builtin.«sorted»
  refine wpAny_bind (m := checkCount "sorted" 1 1 _) (wpAny_pure ?_)
  refine wpAny_bind (collect_tup hl ?_ (by rw [sizeLine_eq]; omega))
  refine wpAny_bind (wpAny_newList ?_)
  have hsz : ((s.heap.push (seqObj "list" #[] 0)).update s.heap.objs.size (Obj.mapSeq (· ++ vs.toArray))).objs.size = s.heap.objs.size + 1 := by
    rw [Heap.size_update, size_push']
  have hoL : (((s.heap.push (seqObj "list" #[] 0)).update s.heap.objs.size (Obj.mapSeq (· ++ vs.toArray))).push (seqObj "list" vs.toArray 0)).get? (s.heap.objs.size + 1) = some (seqObj "list" vs.toArray 0) := by
    rw [← hsz]; exact Heap.get?_push_size _ rfl
  show wpAny _ _ _ _ _ { s with heap := ((s.heap.push (seqObj "list" #[] 0)).update s.heap.objs.size (Obj.mapSeq (· ++ vs.toArray))).push (seqObj "list" vs.toArray 0) }
  rw [hsz]
  refine wpAny_bind (wpAny_holding (wpAny_call_entry slot_list_sort ⟨_, hoL, rfl⟩ entry_list_sort (list_sort_tree hoL hI h64 fun out ns' a1 a2 a3 => ⟨_, rfl, ?_⟩) (args_list_sort _)))
  exact wpAny_pure ⟨_, rfl, h out ns' a1 a2 a3⟩
end
theorem cr_sortedTupI {X : Cx} : CallR X (.builtin "sorted") (fun vs H Q => ∃ (a : Addr) (ns : List Int), vs = [V.ref a] ∧ SqT X.K H a (ns.map V.int) ∧ ns.length < 64 ∧
    ∀ (ns' : List Int) (p : Addr), ns'.Perm ns → ns'.Pairwise (· ≤ ·) → H p = none → Q (.ref p) (upd H p (.lst (ns'.map V.int)))) := by
  intro pins s σ H vs us Q I r h
  obtain ⟨a, ns, rfl, hs, h64, q⟩ := h
  obtain ⟨its, rv, hl, _⟩ := I.tuple hs
  rw [Vals.ref1 r]
  have hi := rv.ints
  refine sorted_tupI hl hi (by rw [hi.length]; exact h64) fun out ns' h1 h2 h3 => ?_
  obtain ⟨ep, he'⟩ := PyProof.Rows.sortedAll_at s.heap its out
  have hlen : (ns'.map V.int).length ≤ sizeLine := by rw [List.length_map, h2.length_eq]; exact small64 h64
  exact ⟨.ref _, upd H (s.heap.objs.size + 1) (.lst (ns'.map V.int)), I.laid (t' := s.toks) (fun _ _ => PyProof.Rows.sortedAll_old) (Nat.le_succ _) ⟨hlen, out.toList, ep, vals_of_ints h1, he'⟩, rfl, q ns' _ h2 h3 (I.hok.fresh (Nat.le_succ _))⟩
end Mi

namespace Mi
open PySem PySem.Spec PyProof.Rows L2
/-! ### texts, sorted -/
theorem str_ext {x y : Str} (h : x.cps.toList = y.cps.toList) : x = y := by
  cases x; cases y
  rename_i a b
  cases a; cases b
  simp only at h
  rw [h]
theorem leS_iff {x y : Str} : leS x y = true ↔ x.cps.toList ≤ y.cps.toList := by
  unfold leS
  rw [Bool.not_eq_true', decide_eq_false_iff_not, List.not_lt]
theorem insS_perm (x : Str) : ∀ l : List Str, (insS x l).Perm (x :: l)
  | [] => .refl _
  | y :: r => by
    unfold insS
    split
    · exact .refl _
    · exact ((insS_perm x r).cons y).trans (.swap x y r)
theorem isortS_perm : ∀ l : List Str, (isortS l).Perm l
  | [] => .refl _
  | x :: r => (insS_perm x _).trans ((isortS_perm r).cons x)
theorem insS_sorted (x : Str) : ∀ {l : List Str}, l.Pairwise (fun a b => a.cps.toList ≤ b.cps.toList) → (insS x l).Pairwise (fun a b => a.cps.toList ≤ b.cps.toList)
  | [], _ => List.pairwise_singleton _ _
  | y :: r, h => by
    unfold insS
    obtain ⟨h1, h2⟩ := List.pairwise_cons.mp h
    split
    · rename_i hxy
      have hxy := leS_iff.mp hxy
      refine List.pairwise_cons.mpr ⟨fun z hz => ?_, h⟩
      rcases List.mem_cons.mp hz with rfl | hz
      · exact hxy
      · exact List.le_trans hxy (h1 z hz)
    · rename_i hxy
      have hyx : y.cps.toList ≤ x.cps.toList := by
        rcases List.le_total y.cps.toList x.cps.toList with q | q
        · exact q
        · exact absurd (leS_iff.mpr q) hxy
      refine List.pairwise_cons.mpr ⟨fun z hz => ?_, insS_sorted x h2⟩
      rcases List.mem_cons.mp ((insS_perm x r).subset hz) with rfl | hz
      · exact hyx
      · exact h1 z hz
theorem isortS_sorted : ∀ l : List Str, (isortS l).Pairwise (fun a b => a.cps.toList ≤ b.cps.toList)
  | [] => .nil
  | x :: r => insS_sorted x (isortS_sorted r)
theorem risingS_pw : ∀ {p : Str} {l : List Str}, risingS p l = true → (p :: l).Pairwise (fun a b => a.cps.toList ≤ b.cps.toList)
  | p, [], _ => List.pairwise_singleton _ _
  | p, x :: r, h => by
    have h : (!ltCps x.cps.toList p.cps.toList && risingS x r) = true := h
    rw [Bool.and_eq_true, PyProof.Rows.ltCps_eq, Bool.not_eq_true', decide_eq_false_iff_not, List.not_lt] at h
    have q := risingS_pw h.2
    refine List.pairwise_cons.mpr ⟨fun z hz => ?_, q⟩
    rcases List.mem_cons.mp hz with rfl | hz
    · exact h.1
    · exact List.le_trans h.1 ((List.pairwise_cons.mp q).1 z hz)
theorem sortedS_pw : ∀ {l : List Str}, sortedS l = true → l.Pairwise (fun a b => a.cps.toList ≤ b.cps.toList)
  | [], _ => .nil
  | x :: r, h => risingS_pw h
theorem isortS_one {l ys : List Str} (p : ys.Perm l) (s : sortedS ys = true) : ys = isortS l :=
  List.Perm.eq_of_pairwise (fun a b _ _ h1 h2 => str_ext (List.le_antisymm h1 h2)) (sortedS_pw s) (isortS_sorted l) (p.trans (isortS_perm l).symm)

/-! ### tuples of ints of one length, sorted -/
theorem insT_perm (x : List Int) : ∀ l : List (List Int), (insT x l).Perm (x :: l)
  | [] => .refl _
  | y :: r => by
    unfold insT
    split
    · exact .refl _
    · exact ((insT_perm x r).cons y).trans (.swap x y r)
theorem isortT_perm : ∀ l : List (List Int), (isortT l).Perm l
  | [] => .refl _
  | x :: r => (insT_perm x _).trans ((isortT_perm r).cons x)
def Box (d : Nat) (k : List Int) : Prop := k.length = d ∧ TS.Bd 64 k
theorem leT_code : ∀ {d : Nat} {a b : List Int}, Box d a → Box d b → (leT a b = true ↔ TS.code 64 a ≤ TS.code 64 b) ∧ (TS.code 64 a = TS.code 64 b → a = b)
  | 0, a, b, ha, hb => by
    have e1 : a = [] := List.length_eq_zero_iff.mp ha.1
    have e2 : b = [] := List.length_eq_zero_iff.mp hb.1
    subst e1 e2
    exact ⟨⟨fun _ => Int.le_refl _, fun _ => rfl⟩, fun _ => rfl⟩
  | d + 1, x :: xs, y :: ys, ha, hb => by
    have hx : Box d xs := ⟨by have := ha.1; rw [List.length_cons] at this; omega, ha.2.tail⟩
    have hy : Box d ys := ⟨by have := hb.1; rw [List.length_cons] at this; omega, hb.2.tail⟩
    have hl : xs.length = ys.length := by rw [hx.1, hy.1]
    obtain ⟨i1, i2⟩ := leT_code hx hy
    rw [leT]
    rcases Int.lt_trichotomy x y with c | c | c
    · have q := TS.code_lt hl hx.2 hy.2 c
      rw [if_neg (by omega)]
      exact ⟨⟨fun _ => by omega, fun _ => decide_eq_true c⟩, fun z => by omega⟩
    · subst c
      rw [if_pos rfl]
      have s1 := TS.code_same (B := 64) (d := x) hl
      have s2 := TS.code_same (B := 64) (d := x) hl.symm
      refine ⟨?_, fun z => ?_⟩
      · rw [i1]
        constructor <;> intro z <;> omega
      · rw [i2 (by omega)]
    · have q := TS.code_lt hl.symm hy.2 hx.2 c
      rw [if_neg (by omega)]
      exact ⟨⟨fun z => by have := of_decide_eq_true z; omega, fun _ => by omega⟩, fun z => by omega⟩
  | d + 1, [], _, ha, _ => by cases ha.1
  | d + 1, _ :: _, [], _, hb => by cases hb.1
theorem insT_sorted {d : Nat} (x : List Int) (hx : Box d x) : ∀ {l : List (List Int)}, (∀ y ∈ l, Box d y) → l.Pairwise (fun a b => TS.code 64 a ≤ TS.code 64 b) → (insT x l).Pairwise (fun a b => TS.code 64 a ≤ TS.code 64 b)
  | [], _, _ => List.pairwise_singleton _ _
  | y :: r, hb, h => by
    unfold insT
    obtain ⟨h1, h2⟩ := List.pairwise_cons.mp h
    have hy := hb y (List.mem_cons_self ..)
    split
    · rename_i hxy
      have hxy := (leT_code hx hy).1.mp hxy
      refine List.pairwise_cons.mpr ⟨fun z hz => ?_, h⟩
      rcases List.mem_cons.mp hz with rfl | hz
      · exact hxy
      · exact Int.le_trans hxy (h1 z hz)
    · rename_i hxy
      have hyx : TS.code 64 y ≤ TS.code 64 x := by
        rcases Int.le_total (TS.code 64 y) (TS.code 64 x) with q | q
        · exact q
        · exact absurd ((leT_code hx hy).1.mpr q) hxy
      refine List.pairwise_cons.mpr ⟨fun z hz => ?_, insT_sorted x hx (fun y hy => hb y (List.mem_cons_of_mem _ hy)) h2⟩
      rcases List.mem_cons.mp ((insT_perm x r).subset hz) with rfl | hz
      · exact hyx
      · exact h1 z hz
theorem isortT_sorted {d : Nat} : ∀ {l : List (List Int)}, (∀ y ∈ l, Box d y) → (isortT l).Pairwise (fun a b => TS.code 64 a ≤ TS.code 64 b)
  | [], _ => .nil
  | x :: r, hb => insT_sorted x (hb x (List.mem_cons_self ..)) (fun y hy => hb y (List.mem_cons_of_mem _ ((isortT_perm r).subset hy))) (isortT_sorted fun y hy => hb y (List.mem_cons_of_mem _ hy))
theorem dedupT_mem {k : List Int} : ∀ {l : List (List Int)}, k ∈ dedupT l ↔ k ∈ l
  | [] => Iff.rfl
  | x :: r => by
    rw [dedupT]
    split
    · rename_i h
      rw [dedupT_mem, List.mem_cons]
      exact ⟨.inr, fun z => z.elim (fun e => by rw [e]; exact h) id⟩
    · rw [List.mem_cons, List.mem_cons, dedupT_mem]
theorem dedupT_nodup : ∀ l : List (List Int), (dedupT l).Nodup
  | [] => .nil
  | x :: r => by
    rw [dedupT]
    split
    · exact dedupT_nodup r
    · rename_i h
      exact List.nodup_cons.mpr ⟨fun z => h (dedupT_mem.mp z), dedupT_nodup r⟩
theorem isortT_one {d : Nat} {ks l : List (List Int)} (hb : ∀ y ∈ ks, Box d y) (nd : l.Nodup) (mem : ∀ k, k ∈ l ↔ k ∈ ks) (s : l.Pairwise (fun a b => TS.code 64 a ≤ TS.code 64 b)) : l = isortT (dedupT ks) := by
  have bd : ∀ y ∈ dedupT ks, Box d y := fun y hy => hb y (dedupT_mem.mp hy)
  have p : l.Perm (dedupT ks) := (List.perm_ext_iff_of_nodup nd (dedupT_nodup ks)).mpr fun a => (mem a).trans dedupT_mem.symm
  refine List.Perm.eq_of_pairwise (fun a b ha hb' h1 h2 => ?_) s (isortT_sorted bd) (p.trans (isortT_perm _).symm)
  exact (leT_code (hb a ((mem a).mp ha)) (bd b ((isortT_perm _).subset hb'))).2 (by omega)
theorem boxT_box {ks : List (List Int)} (h : boxT ks = true) : ∃ d, 1 ≤ d ∧ ∀ y ∈ ks, Box d y := by
  cases ks with
  | nil => exact ⟨1, Nat.le_refl _, fun y hy => by cases hy⟩
  | cons k r =>
    unfold boxT at h
    simp only [Bool.and_eq_true, decide_eq_true_eq, List.all_eq_true] at h
    refine ⟨k.length, h.1, fun y hy => ?_⟩
    obtain ⟨a, b⟩ := h.2 y hy
    exact ⟨a, fun m hm => by have := b m hm; exact ⟨this.1, this.2⟩⟩
theorem RVs.tups {K : PySem.W.Frag} {m : List Addr} {H : Hp} : ∀ (L : List (Addr × List Int)), (∀ p ∈ L, SqT K H p.1 (p.2.map V.int)) → RVs K m H (L.map fun q => .tup (q.2.map .int)) (L.map fun q => .ref q.1)
  | [], _ => rfl
  | q :: r, h => ⟨_, _, rfl, ⟨q.1, _, rfl, h q (List.mem_cons_self ..), RVs.ints _⟩, RVs.tups r fun p hp => h p (List.mem_cons_of_mem _ hp)⟩

section
variable {X : Cx} {tb : List Addr} {D : Nat}
/-! ### built-in functions -/
def rBi (X : Cx) (tb : List Addr) (D : Nat) (f : Bi) : List V → Hp → VK → Prop := fun vs H Q => ∃ m st as pv st', HR (wo X tb D) m H st ∧ RVs X.K m H as vs ∧ biP f as st = some (pv, st') ∧ Nx (wo X tb D) m H st' pv Q
theorem RVs.inv1 {K : PySem.W.Frag} {m : List Addr} {H : Hp} {a : PV} {vs : List V} (r : RVs K m H [a] vs) : ∃ v, vs = [v] ∧ RV K m H a v := by
  obtain ⟨v, t, e, h1, h2⟩ := r
  exact ⟨v, by rw [e, show t = [] from h2], h1⟩
theorem RVs.inv2 {K : PySem.W.Frag} {m : List Addr} {H : Hp} {a b : PV} {vs : List V} (r : RVs K m H [a, b] vs) : ∃ v u, vs = [v, u] ∧ RV K m H a v ∧ RV K m H b u := by
  obtain ⟨v, t, e, h1, h2⟩ := r
  obtain ⟨u, e2, h3⟩ := RVs.inv1 h2
  exact ⟨v, u, by rw [e, e2], h1, h3⟩
theorem cr_len : CallR X (.builtin "len") (rBi X tb D .len) := by
  intro pins s σ H xs us Q I r ⟨m, st, as, pv, st', hr, ra, e, n⟩
  unfold biP at e
  split at e <;> first | (rename_i hh; cases hh) | cases e
  · obtain ⟨v, e1, p, vs, e2, s1, r1⟩ := ra.inv1
    subst e1 e2
    cases e
    refine call_len_seq pins s σ H _ us Q I r ⟨p, vs, rfl, .inr s1, ?_⟩
    rw [r1.length]; exact n.here hr rfl
  · obtain ⟨v, e1, r1⟩ := ra.inv1
    subst e1
    rw [show v = _ from r1] at r
    split at e
    · rename_i hl
      cases e
      exact call_len_str pins s σ H _ us Q I r ⟨_, rfl, le_line hl, n.here hr rfl⟩
    · cases e
  · obtain ⟨v, e1, r1⟩ := ra.inv1
    subst e1
    split at e
    · rename_i el
      cases e
      obtain ⟨p, vs, e2, s1, r2⟩ := hr.seq el r1
      subst e2
      refine call_len_seq pins s σ H _ us Q I r ⟨p, vs, rfl, .inl s1, ?_⟩
      rw [r2.length]; exact n.here hr rfl
    · cases e
  · obtain ⟨v, e1, p, vs, e2, s1, r1⟩ := ra.inv1
    subst e1 e2
    cases e
    refine call_len_seq pins s σ H _ us Q I r ⟨p, vs, rfl, .inl s1.l, ?_⟩
    rw [r1.length]; exact n.here hr rfl
theorem cr_abs : CallR X (.builtin "abs") (rBi X tb D .abs) := by
  intro pins s σ H xs us Q I r ⟨m, st, as, pv, st', hr, ra, e, n⟩
  unfold biP at e
  split at e <;> first | (rename_i hh; cases hh) | cases e
  obtain ⟨v, e1, r1⟩ := ra.inv1
  subst e1
  rw [show v = _ from r1] at r
  cases e
  exact call_abs pins s σ H _ us Q I r ⟨_, rfl, n.here hr rfl⟩
theorem cr_int : CallR X (.type "int") (rBi X tb D .int) := by
  intro pins s σ H xs us Q I r ⟨m, st, as, pv, st', hr, ra, e, n⟩
  unfold biP at e
  split at e <;> first | (rename_i hh; cases hh) | cases e
  · obtain ⟨v, e1, r1⟩ := ra.inv1
    subst e1
    rw [show v = _ from r1] at r
    cases e
    exact call_int1 pins s σ H _ us Q I r (.inl ⟨_, rfl, n.here hr rfl⟩)
  · obtain ⟨v, e1, r1⟩ := ra.inv1
    subst e1
    rw [show v = _ from r1] at r
    cases e
    exact call_int1 pins s σ H _ us Q I r (.inr ⟨_, rfl, n.here hr rfl⟩)
theorem cr_tuple : CallR X (.type "tuple") (rBi X tb D .tuple) := by
  intro pins s σ H xs us Q I r ⟨m, st, as, pv, st', hr, ra, e, n⟩
  unfold biP at e
  split at e <;> first | (rename_i hh; cases hh) | cases e
  · obtain ⟨v, e1, p, vs, e2, s1, r1⟩ := ra.inv1
    subst e1 e2
    cases e
    exact call_tuple_of pins s σ H _ us Q I r ⟨p, vs, rfl, .inr ⟨s1, n.here hr ⟨p, vs, rfl, s1, r1⟩⟩⟩
  · obtain ⟨v, e1, r1⟩ := ra.inv1
    subst e1
    split at e
    · rename_i el
      cases e
      obtain ⟨p, vs, e2, s1, r2⟩ := hr.seq el r1
      subst e2
      exact call_tuple_of pins s σ H _ us Q I r ⟨p, vs, rfl, .inl ⟨s1, fun l hl => n.tup hr r2 hl⟩⟩
    · cases e
theorem cr_list : CallR X (.type "list") (rBi X tb D .list) := by
  intro pins s σ H xs us Q I r ⟨m, st, as, pv, st', hr, ra, e, n⟩
  unfold biP at e
  split at e <;> first | (rename_i hh; cases hh) | cases e
  · obtain ⟨v, e1, p, vs, e2, s1, r1⟩ := ra.inv1
    subst e1 e2
    split at e
    · cases e
      exact call_list_of pins s σ H _ us Q I r ⟨p, vs, rfl, .inr s1, fun l hl => n.lst hr r1 hl⟩
    · cases e
  · obtain ⟨v, e1, r1⟩ := ra.inv1
    subst e1
    split at e
    · rename_i el
      cases e
      obtain ⟨p, vs, e2, s1, r2⟩ := hr.seq el r1
      subst e2
      exact call_list_of pins s σ H _ us Q I r ⟨p, vs, rfl, .inl s1, fun l hl => n.lst hr r2 hl⟩
    · cases e
theorem cr_min (hc : X.calm = true) : CallR X (.builtin "min") (rBi X tb D .min) := by
  intro pins s σ H xs us Q I r ⟨m, st, as, pv, st', hr, ra, e, n⟩
  unfold biP at e
  split at e <;> first | (rename_i hh; cases hh) | cases e
  obtain ⟨v, u, e1, r1, r2⟩ := ra.inv2
  subst e1
  rw [show v = _ from r1, show u = _ from r2] at r
  cases e
  exact call_min2 hc pins s σ H _ us Q I r ⟨_, _, rfl, n.here hr rfl⟩
theorem cr_allM (hc : X.calm = true) : CallR X (.builtin "all") (rBi X tb D .all) := by
  intro pins s σ H xs us Q I r ⟨m, st, as, pv, st', hr, ra, e, n⟩
  unfold biP at e
  split at e <;> first | (rename_i hh; cases hh) | cases e
  obtain ⟨v, e1, r1⟩ := ra.inv1
  subst e1
  split at e
  · rename_i el
    split at e
    · rename_i bs eb
      cases e
      obtain ⟨p, vs, e2, s1, r2⟩ := hr.seq el r1
      subst e2
      rw [toBools_of r2 eb] at s1
      exact cr_all hc pins s σ H _ us Q I r ⟨p, bs, rfl, s1, n.here hr rfl⟩
    · cases e
  · cases e
theorem cr_anyM (hc : X.calm = true) : CallR X (.builtin "any") (rBi X tb D .any) := by
  intro pins s σ H xs us Q I r ⟨m, st, as, pv, st', hr, ra, e, n⟩
  unfold biP at e
  split at e <;> first | (rename_i hh; cases hh) | cases e
  obtain ⟨v, e1, r1⟩ := ra.inv1
  subst e1
  split at e
  · rename_i el
    split at e
    · rename_i bs eb
      cases e
      obtain ⟨p, vs, e2, s1, r2⟩ := hr.seq el r1
      subst e2
      rw [toBools_of r2 eb] at s1
      exact cr_any hc pins s σ H _ us Q I r ⟨p, bs, rfl, s1, n.here hr rfl⟩
    · cases e
  · cases e
theorem cr_setM (hc : X.calm = true) (hu : X.A.units + 64 < cLine) : CallR X (.type "set") (rBi X tb D .set) := by
  intro pins s σ H xs us Q I r ⟨m, st, as, pv, st', hr, ra, e, n⟩
  unfold biP at e
  split at e <;> first | (rename_i hh; cases hh) | cases e
  obtain ⟨v, e1, r1⟩ := ra.inv1
  subst e1
  split at e
  · rename_i ys el
    split at e
    · rename_i ks eb
      split at e
      · rename_i hl
        cases e
        obtain ⟨p, vs, e2, s1, r2⟩ := hr.seq el r1
        subst e2
        obtain ⟨L, l1, l2, l3⟩ := toTups_of r2 eb
        rw [l1] at s1
        refine cr_setOfT hc hu pins s σ H _ us Q I r ⟨p, L, rfl, s1, l3, by rw [← l2, List.length_map] at hl; exact hl, fun a L' ha h1 h2 => ?_⟩
        have X1 : HX X.K m H (m ++ [a]) (upd H a (SetTO X.prog X.w a L')) := HX.new ha
        have so : SetOf X.K X.prog X.w (upd H a (SetTO X.prog X.w a L')) a ys := by
          refine ⟨ks, L', eb, upd_same, fun q hq => X1.sq _ _ (l3 q (h1 q hq)), fun k => ⟨fun hk => ?_, fun hk => ?_⟩⟩
          · obtain ⟨q, hq, ek⟩ := List.mem_map.mp hk
            rw [← l2, ← ek]
            exact List.mem_map.mpr ⟨q, h1 q hq, rfl⟩
          · rw [← l2] at hk
            obtain ⟨q, hq, ek⟩ := List.mem_map.mp hk
            rw [← ek]; exact h2 q hq
        refine n _ (m ++ [a]) _ X1 (hr.new (o := .set ys) ha so trivial) ⟨a, rfl, ?_⟩
        rw [← hr.len, List.getElem?_append_right (Nat.le_refl _), Nat.sub_self]; rfl
      · cases e
    · cases e
  · cases e
theorem keyInts_of {K : PySem.W.Frag} {m : List Addr} {H : Hp} : ∀ {kvs : List (Key × PV)} {ks : List (Key × V)} {is : List Int}, RKs K m H kvs ks → keyInts kvs = some is → ks.map (·.1) = is.map Sum.inl
  | [], _, _, h, e => by
    rw [show _ = [] from h]
    cases e; rfl
  | (.inl i, x) :: r, _, is, h, e => by
    obtain ⟨v, t, e1, h1, h2⟩ := h
    rw [keyInts] at e
    split at e
    · rename_i js ej
      cases e
      rw [e1, List.map_cons, keyInts_of h2 ej]; rfl
    · cases e
  | (.inr i, x) :: r, _, is, h, e => by cases e
theorem cr_sortedM (hc : X.calm = true) : CallR X (.builtin "sorted") (rBi X tb D .sorted) := by
  intro pins s σ H xs us Q I r ⟨m, st, as, pv, st', hr, ra, e, n⟩
  unfold biP at e
  split at e <;> first | (rename_i hh; cases hh) | cases e
  rename_i a
  obtain ⟨v, e1, r1⟩ := ra.inv1
  subst e1
  unfold sortP at e
  split at e
  · rename_i ys
    obtain ⟨p, vs, e2, s1, r2⟩ := r1
    subst e2
    split at e
    · rename_i is ei
      split at e
      · rename_i hl
        cases e
        rw [toInts_of r2 ei] at s1
        refine cr_sortedTupI pins s σ H _ us Q I r ⟨p, is, rfl, s1, hl, fun ns q h1 h2 hq => ?_⟩
        rw [isortI_one h1 h2]
        exact n.lst hr (RVs.ints _) hq
      · cases e
    · cases e
  · rename_i l
    split at e
    · rename_i ys el
      obtain ⟨p, vs, e2, s1, r2⟩ := hr.seq el r1
      subst e2
      unfold sortL at e
      split at e
      · rename_i is ei
        split at e
        · rename_i hl
          cases e
          rw [toInts_of r2 ei] at s1
          refine cr_sorted pins s σ H _ us Q I r ⟨p, is, rfl, s1, hl, fun ns q h1 h2 hq => ?_⟩
          rw [isortI_one h1 h2]
          exact n.lst hr (RVs.ints _) hq
        · cases e
      · split at e
        · rename_i is ei
          split at e
          · rename_i hl
            cases e
            rw [toStrs_of r2 ei] at s1
            refine cr_sortedS pins s σ H _ us Q I r ⟨p, is, rfl, s1, hl, fun ns q h1 h2 hq => ?_⟩
            rw [isortS_one h1 h2]
            exact n.lst hr (RVs.strs _) hq
          · cases e
        · cases e
    · rename_i kvs el
      obtain ⟨p, vs, e2, _, s1, r2⟩ := hr.dic el r1
      subst e2
      split at e
      · rename_i is ei
        split at e
        · rename_i hl
          cases e
          refine call_sortedDI hc pins s σ H _ us Q I r ⟨p, vs, is, rfl, .inl s1, keyInts_of r2 ei, hl, fun ns q h1 h2 hq => ?_⟩
          rw [isortI_one h1 h2]
          exact n.lst hr (RVs.ints _) hq
        · cases e
      · cases e
    · rename_i ys el
      obtain ⟨p, e2, _, so⟩ := hr.setO el r1
      subst e2
      obtain ⟨ks, L, e3, hp, hs, hm⟩ := so
      rw [e3] at e
      simp only at e
      split at e
      · rename_i hbx
        cases e
        rw [Bool.and_eq_true] at hbx
        obtain ⟨d, hd, hb⟩ := boxT_box hbx.1
        refine cr_sortedT hc pins s σ H _ us Q I r ⟨p, L, d, 64, rfl, hp, hs, hd, fun q hq => hb q.2 ((hm _).mp (List.mem_map.mpr ⟨q, hq, rfl⟩)), fun L' q pm nd fw pw hq => ?_⟩
        have one : L'.map (·.2) = isortT (dedupT ks) := by
          refine isortT_one hb nd (fun k => ?_) (List.pairwise_map.mpr pw)
          rw [← hm k, List.mem_map, List.mem_map]
          exact ⟨fun ⟨z, hz, ez⟩ => ⟨z, pm.mem_iff.mp hz, ez⟩, fun ⟨z, hz, ez⟩ => ⟨z, pm.mem_iff.mpr hz, ez⟩⟩
        have e4 : (isortT (dedupT ks)).map (fun k => PV.tup (k.map .int)) = L'.map fun q => .tup (q.2.map .int) := by
          rw [← one, List.map_map]; rfl
        rw [e4] at n
        exact n.lst hr (RVs.tups L' fun z hz => hs z (pm.mem_iff.mp hz)) hq
      · cases e
    · cases e
  · cases e

/-! ### methods -/
def rMt (X : Cx) (tb : List Addr) (D : Nat) (k : Me) : V → List V → Hp → VK → Prop := fun x vs H Q => ∃ m st a as pv st', HR (wo X tb D) m H st ∧ RV X.K m H a x ∧ RVs X.K m H as vs ∧ methP k a as st = some (pv, st') ∧ Nx (wo X tb D) m H st' pv Q
theorem mt_appendM : MtM X "list.append" (rMt X tb D .append) := by
  intro pins s σ H x vs v us Q I rx rv ⟨m, st, a, as, pv, st', hr, ra, ras, e, n⟩
  unfold methP at e
  split at e <;> first | (rename_i hh; cases hh) | cases e
  obtain ⟨y, e1, r1⟩ := ras.inv1
  subst e1
  split at e
  · rename_i ys el
    split at e
    · rename_i hl
      cases e
      obtain ⟨p, ws, e2, g, s1, r2⟩ := hr.lst el ra
      subst e2
      exact mt_append pins s σ H _ _ v us Q I rx rv ⟨p, ws, y, rfl, rfl, s1, by rw [r2.length]; exact lt_line hl, n.setL hr el g s1 (r2.append (RVs.one r1)) rfl⟩
    · cases e
  · cases e
theorem mt_popM : MtM X "list.pop" (rMt X tb D .pop) := by
  intro pins s σ H x vs v us Q I rx rv ⟨m, st, a, as, pv, st', hr, ra, ras, e, n⟩
  unfold methP at e
  split at e <;> first | (rename_i hh; cases hh) | cases e
  rename_i l i
  obtain ⟨y, e1, r1⟩ := ras.inv1
  subst e1
  rw [show y = _ from r1] at rv
  split at e
  · rename_i ys el
    split at e
    · rename_i j ej
      split at e
      · rename_i z ez
        split at e
        · rename_i hl
          cases e
          obtain ⟨p, ws, e2, g, s1, r2⟩ := hr.lst el ra
          subst e2
          obtain ⟨q1, q2, q3, q4⟩ := ixN_seq ej
          have lim : LIM = 16777216 := rfl
          obtain ⟨w, ew, rw'⟩ := r2.get ez
          exact mt_popAt pins s σ H _ _ v us Q I rx rv ⟨p, ws, i, j, w, rfl, rfl, s1, by omega, by omega, by rw [r2.length]; exact q1, ew, n.setL hr el g s1 (r2.erase j) rw'⟩
        · cases e
      · cases e
    · cases e
  · cases e
theorem mt_getM (hu : X.A.units + 1 < cLine) : MtM X "dict.get" (rMt X tb D .get) := by
  intro pins s σ H x vs v us Q I rx rv ⟨m, st, a, as, pv, st', hr, ra, ras, e, n⟩
  unfold methP at e
  split at e <;> first | (rename_i hh; cases hh) | cases e
  rename_i l k
  obtain ⟨y, e1, r1⟩ := ras.inv1
  subst e1
  split at e
  · rename_i kvs kk el ek
    cases e
    obtain ⟨p, ws, e2, g, s1, r2⟩ := hr.dic el ra
    subst e2
    obtain ⟨u, rfl, ru⟩ := rv.one
    cases rx
    have ey := key_of r1 ek
    subst ey
    refine d_get1 (H := H) (o := valV ws kk) hu I (DGet.k s1) ru fun w' s' I' rw' => ⟨_, H, I', rw', ?_⟩
    rcases r2.look (k := kk) with ⟨z1, z2⟩ | ⟨x', v', z1, z2, z3⟩
    · rw [z1] at n
      rw [z2]
      exact n.here hr rfl
    · rw [z1] at n
      rw [z2]
      exact n.here hr z3
  · cases e
end
end Mi

namespace Mi
open PySem PySem.Spec PyProof.Rows L2

/-! ### enumerate(tuple) -/
set_option maxHeartbeats 1000000 in
theorem meets_enum1 {v : Value} {o : Obj} {H : Heap → Prop} (B : Begins v o H) :
    Meets (Builtin.«enumerate.__new__» ⟨[.type "enumerate", v], []⟩) (fun _ R s => H s.heap ∧
      R (.ok (.ret (.ref (s.heap.push o).objs.size))) { s with heap := (s.heap.push o).push { cls := .type "enumerate", data := .fields #[.none, .bool false, .ref s.heap.objs.size, rawInt 0, .none, .none] } }) :=
  .of_wp fun prog w A R s h => by
    obtain ⟨hp, g, d, tk, os⟩ := s; obtain ⟨h1, h⟩ := h
    have hsub := sub_enumerate
    have q1 : ∀ {A' : Around} {E : Value → Shared → Prop} {Q : Value → Shared → Prop}, Q (.ref hp.objs.size) ⟨hp.push o, g, d, tk, os⟩ → wpAny (model prog w) A' (pyIter v) Q E ⟨hp, g, d, tk, os⟩ :=
      fun q => B.iter prog w _ _ ⟨hp, g, d, tk, os⟩ _ h1 q
    wp_walk using q1
    refine wpAny_stack_any fun st => wpAny_pure ?_
    split
    · rename_i c _ _ _ _ _
      cases (c == Value.type "enumerate")
      · wp_walk using q1
        exact ⟨_, rfl, h⟩
      · wp_walk using q1
        exact ⟨_, rfl, h⟩
    · wp_walk using q1
      exact ⟨_, rfl, h⟩
section
variable {prog : Program} {w : World} {A : Around} {E : Value → Shared → Prop} {s : Shared}
theorem enum_begins1 {v : Value} {o : Obj} {H : Heap → Prop} {Q : Value → Shared → Prop} (B : Begins v o H) (h1 : H s.heap)
    (h : ∀ h', IsEnum h' (s.heap.objs.size + 1) s.heap.objs.size 0 .none → h'.get? s.heap.objs.size = some o → h'.objs.size = s.heap.objs.size + 2 →
      (∀ b o, s.heap.get? b = some o → h'.get? b = some o) → Q (.ref (s.heap.objs.size + 1)) { s with heap := h' }) :
    wpAny (model prog w) A (call (.type "enumerate") [v]) Q E s := by
  refine callType_new F.called_enumerate (by decide) (F.typeCall_enumerate_1 _) (F.newCall_enumerate_1 _) (fun obj => F.args_object_init_2 obj _) F.entry_enumerate_new
    (meets_enum1 B) ⟨h1, ?_⟩
  have hz : (s.heap.push o).objs.size = s.heap.objs.size + 1 := Heap.size_push ..
  show _ ∧ _
  rw [hz]
  have he : IsEnum ((s.heap.push o).push { cls := .type "enumerate", data := .fields #[.none, .bool false, .ref s.heap.objs.size, rawInt 0, .none, .none] }) (s.heap.objs.size + 1) s.heap.objs.size 0 .none := by
    have := Heap.get?_push_size (s.heap.push o) (o := { cls := .type "enumerate", data := .fields #[.none, .bool false, .ref s.heap.objs.size, rawInt 0, .none, .none] }) rfl
    rw [hz] at this; exact this
  refine ⟨⟨_, he, rfl⟩, h _ he (Heap.get?_push_of_some _ (Heap.get?_push_size _ B.free)) (by rw [Heap.size_push, hz]) fun b o x => Heap.get?_push_of_some _ (Heap.get?_push_of_some _ x)⟩
end
def IteT (K : PySem.W.Frag) (a : Addr) : It :=
  ⟨fun i H => ∃ (xs : List V) (x : V), SqT K H a xs ∧ xs[i]? = some x, fun i H v H' => ∃ T x, v = .ref T ∧ H T = none ∧ H' = upd H T (.tup [.int (i : Nat), x]) ∧ ∀ xs, SqT K H a xs → xs[i]? = some x, fun i H => ∃ xs : List V, SqT K H a xs ∧ xs.length = i⟩
theorem turn_enumT {P : Program} {w : World} {K : PySem.W.Frag} {elts : List Expr} {kk : Nat} {tpos : Pos} (a e it : Addr) (hai : a ≠ it) (hea : e ≠ a) :
    Turn P w K (.Tuple elts kk tpos) (IteT K a) [e, it] e (fun i h => (∃ old, IsEnum h e it ((i : Nat) : Int) old) ∧ h.IsTupleIter it a i ∧ e ≠ it) where
  mem := by simp
  obj := fun i h st b hb => by
    obtain ⟨⟨old, he⟩, ⟨o, ho, hc, hd⟩, _⟩ := st
    have e' : b = e ∨ b = it := by simpa using hb
    rcases e' with z | z
    · rw [z]; exact ⟨_, he, fun v q => nomatch q⟩
    · rw [z]; exact ⟨o, ho, fun v q => by rw [hd] at q; cases q⟩
  keep := fun i h h' st k => let ⟨⟨old, he⟩, hi, hne⟩ := st; ⟨⟨old, k e (by simp) _ he⟩, hi.at fun o q => k it (by simp) o q, hne⟩
  item := by
    intro X hP hw hK hc i pins s σ H E I hf st hg
    subst hP hw hK
    obtain ⟨⟨old, he⟩, hit, hne⟩ := st
    obtain ⟨xs, x, hq, hx⟩ := hg
    obtain ⟨its, rv, p, hz⟩ := I.tuple hq
    obtain ⟨u, hu, ru⟩ := rv.get hx
    have hel : e < s.heap.objs.size := Heap.lt_size he
    have hil : it < s.heap.objs.size := by obtain ⟨_, q, _⟩ := hit; exact Heap.lt_size q
    have hh : X.A.in1.handled = none := by simp [I.ok.hd hc]
    have hlt : i < its.toArray.size := by
      have := (List.getElem?_eq_some_iff.mp hu).1
      simpa using this
    refine wpAny_pyNext_enum_itemC (Draws.tuple hh it a hai its.toArray) he ⟨hit, show s.heap.IsTuple a its.toArray from p⟩ hlt hne (by simp [hne, hea]) fun y h' tk hy ho hst hT hsz hk => ?_
    obtain ⟨hit', _⟩ := hst
    have hy' : y = u := by
      have : its.toArray[i]? = some y := hy
      rw [List.getElem?_toArray, hu] at this
      exact (Option.some.inj this).symm
    subst hy'
    refine ⟨_, rfl, wpAny_letOwnedTupleGo_enum (s := { s with heap := h', toks := tk + 1 }) ho fun h'' he' sb => ?_⟩
    have hT2 : h''.get? s.heap.objs.size = some { cls := .type "tuple", data := .seq #[.int i tk, y] } := (sb.2 _ (Nat.ne_of_gt hel)).trans hT
    have new : ObjOk X.prog X.w (upd H s.heap.objs.size (.tup [.int (i : Nat), x])) h'' s.heap.objs.size (.tup [.int (i : Nat), x]) :=
      ⟨by show 2 ≤ sizeLine; decide, [.int i tk, y], .cons ⟨_, rfl⟩ (.cons ru .nil), ⟨_, hT2, rfl, _, rfl⟩⟩
    have I1 : Inv X pins σ (upd H s.heap.objs.size (.tup [.int (i : Nat), x])) { s with heap := h'', toks := tk + 1 } :=
      I.turnedNew (ch := [e, it]) (fun b ob hb q => (sb.2 b (fun z => hb (by simp [z]))).trans (hk b ob (fun z => hb (by simp [z])) (fun z => hb (by simp [z])) q)) hf (Nat.le_refl _) new
    refine ⟨.ref s.heap.objs.size, _, I1, rfl, ⟨_, x, rfl, I.hok.fresh (Nat.le_refl _), rfl, fun ys hy => by rw [I.tuple_inj hy hq]; exact hx⟩, ⟨⟨y, ?_⟩, hit'.at fun o q => (sb.2 it (Ne.symm hne)).trans q, hne⟩, fun b hb => ?_⟩
    · have e1 : ((i + 1 : Nat) : Int) = (i : Int) + 1 := by omega
      rw [e1]; exact he'
    · have hb' : b < s.heap.objs.size := by
        have e' : b = e ∨ b = it := by simpa using hb
        rcases e' with z | z
        · rw [z]; exact hel
        · rw [z]; exact hil
      rw [upd_ne (Nat.ne_of_lt hb')]
      exact (hf b hb).1
  done := by
    intro X hP hw hK hc i pins s σ H E I hf st hg
    subst hP hw hK
    obtain ⟨⟨old, he⟩, hit, hne⟩ := st
    obtain ⟨xs, hq, hx⟩ := hg
    obtain ⟨its, rv, p, hz⟩ := I.tuple hq
    obtain ⟨f0, f1, f2, f3, f4, f5⟩ := hf it (by simp)
    have hl := rv.length
    have hh : X.A.in1.handled = none := by simp [I.ok.hd hc]
    have ei : i = its.toArray.size := by rw [List.size_toArray]; omega
    subst ei
    exact wpAny_pyNext_enum_endD (Draws.tuple hh it a hai its.toArray) he ⟨hit, show s.heap.IsTuple a its.toArray from p⟩ fun h' eb => ⟨rfl, I.turned (t' := s.toks) (fun b o hb q => eb b o hb q) f0 f1 f3 f4 f5⟩
  self := fun A i s Q E st h => let ⟨⟨_, he⟩, _⟩ := st; wpAny_pyIter_enum he h
def iEnumT (K : PySem.W.Frag) (ta : TA) : TI := fun σ H R => ta σ H fun vs H1 => ∃ a xs, vs = [.ref a] ∧ SqT K H1 a xs ∧ R (IteT K a) H1
theorem pi_enumT {X : Cx} {e : Expr} {ta : TA} {p pos tpos : Pos} {elts : List Expr} {kk : Nat} (hg : Gl X "enumerate") (hm : X.mg "enumerate" = none) (ha : PA X [e] ta) (hs : starEach [e] X.env = [(false, eval e X.env)]) :
    PI X (.Tuple elts kk tpos) (.Call (.Name "enumerate" p) [e] [] pos) (iEnumT X.K ta) := by
  refine ⟨fun pins s σ H R I h => ?_⟩
  refine Call_ (ld_blt I hg hm boot_enumerate (PyProof.Rows.callWith_type1 (thn (ha.run pos pins s σ H _ I h) fun us s1 ⟨vs, H1, I1, r1, q1⟩ => ?_) hs rfl))
  obtain ⟨a, xs, ex, hq, q⟩ := q1
  subst ex
  cases r1 with
  | cons r rr =>
    cases rr
    cases r
    obtain ⟨its, rv, p', hz⟩ := I1.tuple hq
    have hla : a < s1.heap.objs.size := by obtain ⟨_, q, _⟩ := id p'; exact Heap.lt_size q
    refine enum_begins1 (begins_tuple a its.toArray) (show s1.heap.IsTuple a its.toArray from p') fun h' he hit hsz hk => wpAny_pyIter_enum he ?_
    have I2 : Inv X pins σ H1 { s1 with heap := h' } := I1.kept (t' := s1.toks) hk
    refine ⟨s1.heap.objs.size + 1, [s1.heap.objs.size + 1, s1.heap.objs.size], _, _, H1, rfl, I2, turn_enumT a (s1.heap.objs.size + 1) s1.heap.objs.size (Nat.ne_of_lt hla) (Nat.ne_of_gt (Nat.lt_succ_of_lt hla)), ⟨⟨.none, he⟩, ⟨_, hit, rfl, rfl⟩, Nat.succ_ne_self _⟩, fun b hb => ?_, q⟩
    have e' : b = s1.heap.objs.size + 1 ∨ b = s1.heap.objs.size := by simpa using hb
    have hle : s1.heap.objs.size ≤ b := by
      rcases e' with z | z
      · rw [z]; exact Nat.le_add_right _ _
      · rw [z]; exact Nat.le_refl _
    exact I1.fpOk hle (I1.hok.fresh hle)

/-! ### an iterator that hands out these values -/
/-- at every later heap: it hands out the items, one by one -/
def ItM (W : Wd) (m0 : List Addr) (H0 : Hp) (items : List PV) (src : Option Nat) (J : It) : Prop :=
  ∀ m H st, HM W.K m0 H0 m H → HR W m H st → stands src items st = true →
    (∀ (i : Nat) (x : PV), items[i]? = some x → J.go i H ∧ ∀ v H', J.yld i H v H' → HX W.K m H m H' ∧ HR W m H' st ∧ RV W.K m H' x v) ∧ J.stop items.length H
section
variable {W : Wd} {m : List Addr} {H : Hp} {st : Store}
theorem stands_some {l : Nat} {items : List PV} {st : Store} (h : stands (some l) items st = true) : st[l]? = some (.lst items) := by
  unfold stands at h
  simp only [decide_eq_true_eq] at h
  exact h
theorem sqT_one {K : PySem.W.Frag} {a : Addr} {xs ys : List V} {pins : List (Addr × Obj)} {σ : L2.St} {s : Shared} {X : Cx} (I : Inv X pins σ H s) (h : SqT X.K H a xs) (h' : SqT X.K H a ys) : ys = xs := I.tuple_inj h' h
theorem itM_list {l : Nat} {a : Addr} {items : List PV} (g : m[l]? = some a) : ItM W m H items (some l) (Itl W.K a) := by
  intro m' H' st' X hr hs
  obtain ⟨p, vs, e, s1, r1⟩ := hr.seq (stands_some hs) (v := .ref a) ⟨a, rfl, X.get g⟩
  cases e
  refine ⟨fun i x hx => ?_, ⟨vs, s1, by rw [r1.length]; exact Nat.le_refl _⟩⟩
  obtain ⟨v, ev, rv⟩ := r1.get hx
  refine ⟨⟨vs, v, s1, ev⟩, fun y H'' yl => ?_⟩
  obtain ⟨e1, e2⟩ := yl
  subst e1
  have := e2 vs s1
  rw [ev] at this
  cases this
  exact ⟨HX.refl, hr, rv⟩
theorem itM_frl {a : Addr} {vs : List V} {items : List PV} (s0 : SqF W.K H a vs) (r0 : RVs W.K m H items vs) : ItM W m H items none (Itl W.K a) := by
  intro m' H' st' X hr hs
  have s1 := (X.sf _ _ s0).l
  have r1 := r0.mono0 X
  refine ⟨fun i x hx => ?_, ⟨vs, s1, by rw [r1.length]; exact Nat.le_refl _⟩⟩
  obtain ⟨v, ev, rv⟩ := r1.get hx
  refine ⟨⟨vs, v, s1, ev⟩, fun y H'' yl => ?_⟩
  obtain ⟨e1, e2⟩ := yl
  subst e1
  have := e2 vs s1
  rw [ev] at this
  cases this
  exact ⟨HX.refl, hr, rv⟩
theorem itM_tup {a : Addr} {vs : List V} {items : List PV} (s0 : SqT W.K H a vs) (r0 : RVs W.K m H items vs) : ItM W m H items none (Itt W.K a) := by
  intro m' H' st' X hr hs
  have s1 := X.sq _ _ s0
  have r1 := r0.mono0 X
  refine ⟨fun i x hx => ?_, ⟨vs, s1, by rw [r1.length]; exact Nat.le_refl _⟩⟩
  obtain ⟨v, ev, rv⟩ := r1.get hx
  refine ⟨⟨vs, v, s1, ev⟩, fun y H'' yl => ?_⟩
  obtain ⟨e1, e2⟩ := yl
  subst e1
  have := e2 vs s1
  rw [ev] at this
  cases this
  exact ⟨HX.refl, hr, rv⟩
theorem itM_rng {lo : Int} {n : Nat} : ItM W m H ((List.range n).map fun k => PV.int (lo + (k : Nat))) none (Itr lo n) := by
  intro m' H' st' X hr hs
  refine ⟨fun i x hx => ?_, by show n ≤ _; rw [List.length_map, List.length_range]; exact Nat.le_refl _⟩
  rw [List.getElem?_map] at hx
  obtain ⟨k, hk, ex⟩ := Option.map_eq_some_iff.mp hx
  obtain ⟨hlt, ek⟩ := List.getElem?_eq_some_iff.mp hk
  rw [List.getElem_range] at ek
  rw [List.length_range] at hlt
  subst ek ex
  refine ⟨hlt, fun y H'' yl => ?_⟩
  obtain ⟨e1, e2⟩ := yl
  subst e1 e2
  exact ⟨HX.refl, hr, rfl⟩
theorem itM_str {x : Str} : ItM W m H (x.cps.toList.map fun c => PV.str ⟨#[c]⟩) none (Its x) := by
  intro m' H' st' X hr hs
  refine ⟨fun i y hx => ?_, by show x.cps.size ≤ _; rw [List.length_map, Array.length_toList]; exact Nat.le_refl _⟩
  rw [List.getElem?_map, Array.getElem?_toList] at hx
  obtain ⟨c, hc, ex⟩ := Option.map_eq_some_iff.mp hx
  subst ex
  refine ⟨(Array.getElem?_eq_some_iff.mp hc).1, fun y H'' yl => ?_⟩
  obtain ⟨e1, c', e2, e3⟩ := yl
  rw [hc] at e2
  cases e2
  subst e1 e3
  exact ⟨HX.refl, hr, rfl⟩
theorem pair_new {T : Addr} {x y : PV} {v u : V} (hr : HR W m H st) (hT : H T = none) (rx : RV W.K m H x v) (ry : RV W.K m H y u) :
    HX W.K m H m (upd H T (.tup [v, u])) ∧ HR W m (upd H T (.tup [v, u])) st ∧ RV W.K m (upd H T (.tup [v, u])) (.tup [x, y]) (.ref T) := by
  have X : HX W.K m H m (upd H T (.tup [v, u])) := HX.side hT
  exact ⟨X, hr.side hT, T, _, rfl, .inl (.inl upd_same), ⟨v, [u], rfl, rx.mono X, u, [], rfl, ry.mono X, rfl⟩⟩
theorem itM_enum {a : Addr} {vs : List V} {items : List PV} (s0 : SqT W.K H a vs) (r0 : RVs W.K m H items vs) : ItM W m H (items.zipIdx.map fun p => .tup [.int p.2, p.1]) none (IteT W.K a) := by
  intro m' H' st' X hr hs
  have s1 := X.sq _ _ s0
  have r1 := r0.mono0 X
  refine ⟨fun i x hx => ?_, ⟨vs, s1, by rw [r1.length, List.length_map, List.length_zipIdx]⟩⟩
  rw [List.getElem?_map, List.getElem?_zipIdx] at hx
  obtain ⟨p, hp, ex⟩ := Option.map_eq_some_iff.mp hx
  obtain ⟨y, hy, ey⟩ := Option.map_eq_some_iff.mp hp
  subst ey ex
  obtain ⟨v, ev, rv⟩ := r1.get hy
  refine ⟨⟨vs, v, s1, ev⟩, fun y' H'' yl => ?_⟩
  obtain ⟨T, z, e1, hT, e2, e3⟩ := yl
  have := e3 vs s1
  rw [ev] at this
  cases this
  subst e1 e2
  have e4 : (0 : Nat) + i = i := Nat.zero_add i
  simp only [e4]
  exact pair_new hr hT rfl rv
theorem itM_zip {a b : Addr} {vs us : List V} {xs ys : List PV} (s0 : SqT W.K H a vs) (r0 : RVs W.K m H xs vs) (s2 : SqT W.K H b us) (r2 : RVs W.K m H ys us) : ItM W m H ((xs.zip ys).map fun p => .tup [p.1, p.2]) none (RZ.ItzT W.K a b) := by
  intro m' H' st' X hr hs
  have s1 := X.sq _ _ s0
  have r1 := r0.mono0 X
  have s3 := X.sq _ _ s2
  have r3 := r2.mono0 X
  refine ⟨fun i x hx => ?_, ⟨vs, us, s1, s3, by rw [r1.length, r3.length, List.length_map, List.length_zip]; omega⟩⟩
  rw [List.getElem?_map] at hx
  obtain ⟨p, hp, ex⟩ := Option.map_eq_some_iff.mp hx
  obtain ⟨h1, h2⟩ := List.getElem?_zip_eq_some.mp hp
  subst ex
  obtain ⟨v, ev, rv⟩ := r1.get h1
  obtain ⟨u, eu, ru⟩ := r3.get h2
  refine ⟨⟨vs, us, v, u, s1, s3, ev, eu⟩, fun y' H'' yl => ?_⟩
  obtain ⟨T, z, z', e1, hT, e2, e3, e4⟩ := yl
  have t1 := e3 vs s1
  have t2 := e4 us s3
  rw [ev] at t1
  rw [eu] at t2
  cases t1; cases t2
  subst e1 e2
  exact pair_new hr hT rv ru
end
end Mi

namespace Mi
open PySem PySem.Spec PyProof.Rows L2

/-! ### the look: does the tree stand for this expression? -/
structure Ck where
  N : List Str
  sc : Scope
  fn : Str → Bool
  cs : List (Str × PV)
  df : List Str
  g : Nat
def Ck.blk (c : Ck) (scope : Scope) : Ck := { c with sc := relS scope c.sc, fn := fun x => scope.names.lookup x == some .cell }
/-- a generator's own block -/
def Ck.gen (c : Ck) (scope : Scope) : Ck := { c with sc := scope, fn := fun x => scope.names.lookup x == some .cell, g := c.g - 1 }
def nodbg (x : Str) : Bool := !(x == ("__debug__" : Str)) && !(x == ("__classdict__" : Str))
def visC (sc : Scope) (x : Str) : Bool := match sc.names.lookup x with
  | some .local => true
  | some .cell => true
  | some .free => true
  | _ => false
def glC (sc : Scope) (x : Str) : Bool := match sc.names.lookup x with
  | some .globalImplicit => true
  | _ => false
def locC (c : Ck) (x : Str) : Bool := match c.sc.names.lookup x with
  | some .local => true
  | some .cell => c.fn x
  | _ => false
def constC : PV → Const → Bool
  | .non, .none => true
  | .bl b, .bool d => b == d
  | .int i, .int j => i == j
  | .str x, .str y => decide (x = y)
  | _, _ => false
def keysC : List Str → List (Option Expr) → Bool
  | [], [] => true
  | k :: ks, some (.Constant (.str x) _ _) :: r => decide (k = x) && keysC ks r
  | _, _ => false
def nst : Expr → Bool
  | .Starred .. => false
  | _ => true
def noSl : Expr → Bool
  | .Slice _ _ none _ => false
  | _ => true
def noCall : Expr → Bool
  | .Call .. => false
  | _ => true
/-- its truth is its value's truth -/
def plainT : Expr → Bool
  | .UnaryOp .Not _ _ => false
  | .BoolOp .. => false
  | .IfExp .. => false
  | .Compare .. => false
  | _ => true
def noFold : Expr → Bool
  | .Set .. => false
  | .List .. => false
  | _ => true
def noSet : Expr → Bool
  | .Set .. => false
  | _ => true
def biN : Bi → Str
  | .len => "len" | .abs => "abs" | .int => "int" | .tuple => "tuple" | .list => "list" | .sorted => "sorted" | .set => "set" | .min => "min" | .all => "all" | .any => "any"
def nbN : Nb → Str
  | .lenset => "len" | .lrg => "list"
def nbM : Nb → Str
  | .lenset => "set" | .lrg => "range"
def gkN : GK → Str
  | .all => "all" | .any => "any" | .tuple => "tuple" | .sum => "sum"
def meN : Me → Str
  | .append => "append" | .pop => "pop" | .get => "get"
def tysC (c : Ck) : List String → List Expr → Bool
  | [], [] => true
  | t :: ts, .Name x _ :: r => okT t && decide (x = Str.ofString t) && glC c.sc x && tysC c ts r
  | _, _ => false
/-- the slots that a target writes -/
def slG : IR → List Nat
  | .tn i => [i]
  | .tt a => slG a
  | .ac t r => slG t ++ slG r
  | _ => []
/-- a generator's scope: plain names, its own and captured ones, and the name of what it walks -/
def genC (N : List Str) (sc scope : Scope) (own : List (Str × Nat)) : Bool :=
  blkC N sc scope own && !scope.isCoroutine && decide (scope.names.lookup (".0" : Str) = some .local)
mutual
def chkE (c : Ck) : IR → Expr → Bool
  | .v i => fun e => match e with
    | .Name x _ => decide (c.N[i]? = some x) && visC c.sc x && nodbg x
    | _ => false
  | .k pv => fun e => match e with
    | .Constant k _ _ => constC pv k
    | _ => false
  | .g x pv => fun e => match e with
    | .Name y _ => decide (x = y) && glC c.sc y && nodbg y && decide ((x, pv) ∈ c.cs)
    | _ => false
  | .tp a => fun e => match e with
    | .Tuple es _ _ => chkA c a es
    | _ => false
  | .ls a => fun e => match e with
    | .List es _ => chkA c a es
    | _ => false
  | .d0 => fun e => match e with
    | .Dict [] [] _ => true
    | _ => false
  | .dk ks a => fun e => match e with
    | .Dict keys vals _ => keysC ks keys && chkA c a vals
    | _ => false
  | .bo op a b => fun e => match e with
    | .BinOp l op' r _ => decide (op = op') && chkE c a l && chkE c b r
    | _ => false
  | .cm op a b => fun e => match e with
    | .Compare l [op'] [r] _ => decide (op = op') && chkE c a l && chkE c b r && noSet r
    | _ => false
  | .ch o1 o2 a b d => fun e => match e with
    | .Compare l [p1, p2] [m, r] _ => decide (o1 = p1) && decide (o2 = p2) && chkE c a l && chkE c b m && chkE c d r && noSet r
    | _ => false
  | .bl w a => fun e => match e with
    | .BoolOp op es _ => (match op with | .And => w | .Or => !w) && chkB c a es
    | _ => false
  | .nt a => fun e => match e with
    | .UnaryOp .Not e _ => chkE c a e
    | _ => false
  | .ie t a b => fun e => match e with
    | .IfExp x y z _ => chkE c t x && chkE c a y && chkE c b z
    | _ => false
  | .ix a b => fun e => match e with
    | .Subscript x y _ => chkE c a x && chkE c b y && noSl y
    | _ => false
  | .sl a lo hi => fun e => match e with
    | .Subscript x (.Slice l h none _) _ => chkE c a x && chkO c lo l && chkO c hi h
    | _ => false
  | .ca f a => fun e => match e with
    | .Call (.Name x _) (e :: es) [] _ => decide (f = x) && glC c.sc x && nodbg x && decide (f ∈ c.df) && chkA c a (e :: es)
    | _ => false
  | .bi f a => fun e => match e with
    | .Call (.Name x _) (e :: es) [] _ => decide (x = biN f) && glC c.sc x && chkA c a (e :: es)
    | _ => false
  | .nb f a => fun e => match e with
    | .Call (.Name x _) [.Call (.Name y _) [e] [] _] [] _ => decide (x = nbN f) && decide (y = nbM f) && glC c.sc x && glC c.sc y && nst e && chkE c a e
    | _ => false
  | .isi a many ts => fun e => match e with
    | .Call (.Name x _) [e, ty] [] _ => decide (x = ("isinstance" : Str)) && glC c.sc x && nst e && chkE c a e && (match many, ty with
      | true, .Tuple es _ _ => tysC c ts es && decide (ts.length < 9)
      | false, t => tysC c ts [t]
      | _, _ => false)
    | _ => false
  | .mth m o a => fun e => match e with
    | .Call (.Attribute x name apos) [e] [] cpos => decide (name = meN m) && noCall x && (apos.endLine == cpos.line) && chkE c o x && chkA c a [e]
    | _ => false
  | .lc e t i f own => fun ex => match ex with
    | .ListComp elt [⟨tg, it, ifs, 0⟩] scope _ => chkI c i tg it && noSet it && blkC c.N c.sc scope own && (slG t).all (fun i => decide (i ∈ own.map (·.2))) && chkG (c.blk scope) t tg && chkT (c.blk scope) f ifs && chkE (c.blk scope) e elt
    | _ => false
  | .lsc e t i f own => fun ex => match ex with
    | .Call (.Name x _) [.SetComp elt [⟨tg, it, ifs, 0⟩] scope _] [] _ => decide (x = ("len" : Str)) && glC c.sc x && chkI c i tg it && noSet it && blkC c.N c.sc scope own && (slG t).all (fun i => decide (i ∈ own.map (·.2))) && chkG (c.blk scope) t tg && chkT (c.blk scope) f ifs && chkE (c.blk scope) e elt
    | _ => false
  | .sc2 e t1 i1 f1 t2 i2 f2 own own2 => fun ex => match ex with
    | .SetComp elt [⟨tg, it, ifs, 0⟩, ⟨tg2, it2, ifs2, 0⟩] scope _ => chkI c i1 tg it && noSet it && blkC c.N c.sc scope own && (slG t1).all (fun i => decide (i ∈ own.map (·.2))) && chkG (c.blk scope) t1 tg && chkT (c.blk scope) f1 ifs &&
        own2.all (fun i => decide (i ∈ own.map (·.2))) && chkI (c.blk scope) i2 tg2 it2 && noSet it2 && (slG t2).all (fun i => decide (i ∈ own2)) && chkG (c.blk scope) t2 tg2 && chkT (c.blk scope) f2 ifs2 && chkE (c.blk scope) e elt
    | _ => false
  | .gx w e t i f own => fun ex => match ex with
    | .Call (.Name x _) [.GeneratorExp elt [⟨tg, it, ifs, 0⟩] scope _] [] _ => decide (x = gkN w) && glC c.sc x && decide (0 < c.g) && chkI c i tg it && noFold it && genC c.N c.sc scope own && (slG t).all (fun i => decide (i ∈ own.map (·.2))) && chkG (c.gen scope) t tg && chkT (c.gen scope) f ifs && chkE (c.gen scope) e elt
    | _ => false
  | _ => fun _ => false
def chkA (c : Ck) : IR → List Expr → Bool
  | .an => fun es => match es with
    | [] => true
    | _ => false
  | .ac a r => fun es => match es with
    | e :: es => nst e && chkE c a e && chkA c r es
    | _ => false
  | _ => fun _ => false
def chkB (c : Ck) : IR → List Expr → Bool
  | .ac a r => fun es => match es with
    | [e] => chkE c a e && isAn r
    | e :: f :: es => chkE c a e && chkB c r (f :: es)
    | _ => false
  | _ => fun _ => false
def chkO (c : Ck) : IR → Option Expr → Bool
  | .no => fun e => match e with
    | none => true
    | _ => false
  | .it a => fun e => match e with
    | some e => chkE c a e
    | _ => false
  | _ => fun _ => false
def chkT (c : Ck) : IR → List Expr → Bool
  | .an => fun es => match es with
    | [] => true
    | _ => false
  | .ac a r => fun es => match es with
    | [e] => chkE c a e && isAn r
    | _ => false
  | _ => fun _ => false
def chkI (c : Ck) : IR → Expr → Expr → Bool
  | .rg1 a => fun _ e => match e with
    | .Call (.Name x _) [e] [] _ => decide (x = ("range" : Str)) && glC c.sc x && nst e && chkE c a e
    | _ => false
  | .rg2 a b => fun _ e => match e with
    | .Call (.Name x _) [e1, e2] [] _ => decide (x = ("range" : Str)) && glC c.sc x && nst e1 && nst e2 && chkE c a e1 && chkE c b e2
    | _ => false
  | .en a => fun tg e => match tg, e with
    | .Tuple _ _ _, .Call (.Name x _) [e] [] _ => decide (x = ("enumerate" : Str)) && glC c.sc x && nst e && chkE c a e
    | _, _ => false
  | .zp a b => fun tg e => match tg, e with
    | .Tuple _ _ _, .Call (.Name x _) [e1, e2] [] _ => decide (x = ("zip" : Str)) && glC c.sc x && nst e1 && nst e2 && chkE c a e1 && chkE c b e2
    | _, _ => false
  | .it a => fun _ e => chkE c a e
  | _ => fun _ _ => false
def chkG (c : Ck) : IR → Expr → Bool
  | .tn i => fun e => match e with
    | .Name x _ => decide (c.N[i]? = some x) && locC c x
    | _ => false
  | .tt a => fun e => match e with
    | .Tuple es _ _ => chkGs c a es
    | _ => false
  | .ts o i => fun e => match e with
    | .Subscript x y _ => chkE c o x && chkE c i y && noSl y
    | _ => false
  | _ => fun _ => false
def chkGs (c : Ck) : IR → List Expr → Bool
  | .an => fun es => match es with
    | [] => true
    | _ => false
  | .ac t r => fun es => match es with
    | e :: es => nst e && chkG c t e && chkGs c r es
    | _ => false
  | _ => fun _ => false
end

/-! ### what is known while a body runs -/
structure Pr where
  tb : List Addr
  D : Nat
  C : Fn
  n : Nat
/-- the code that runs: its table is known, n deep -/
def CT0 (base : Heap) (code : Value) (n : Nat) (H : Hp) : Prop := ∃ c P, code = .ref c ∧ (PySem.W.CodeHd base c P ∨ H c = some (cdO c P)) ∧ TD n H P
structure SR0 (W : Wd) (base : Heap) (code : Value) (n : Nat) (ρ : Env) (m : List Addr) (σ : L2.St) (H : Hp) (st : Store) : Prop where
  rs : ∀ (i : Nat) (x : PV), ρ[i]? = some (some x) → ∃ v, σ[i]? = some (some v) ∧ RV W.K m H x v
  len : ρ.length = σ.length
  hr : HR W m H st
  ct : CT0 base code n H
abbrev SR (X : Cx) (p : Pr) := SR0 (wo X p.tb p.D) X.base X.env.code p.n
theorem CT0.mono {K : PySem.W.Frag} {base : Heap} {code : Value} {n : Nat} {m m' : List Addr} {H H' : Hp} (h : CT0 base code n H) (x : HX K m H m' H') : CT0 base code n H' := by
  obtain ⟨c, P, h1, h2, h3⟩ := h
  exact ⟨c, P, h1, h2.imp id (x.cd _ _), x.td _ _ h3⟩
section
variable {W : Wd} {base : Heap} {code : Value} {n : Nat} {ρ : Env} {m m' : List Addr} {σ : L2.St} {H H' : Hp} {st st' : Store}
theorem SR0.mono (h : SR0 W base code n ρ m σ H st) (x : HX W.K m H m' H') (hr : HR W m' H' st') : SR0 W base code n ρ m' σ H' st' :=
  ⟨fun i y e => by obtain ⟨v, h1, h2⟩ := h.rs i y e; exact ⟨v, h1, h2.mono x⟩, h.len, hr, h.ct.mono x⟩
theorem SR0.put (h : SR0 W base code n ρ m σ H st) (i : Nat) {x : PV} {v : V} (r : RV W.K m H x v) : SR0 W base code n (ρ.set i (some x)) m (σ.set i (some v)) H st := by
  refine ⟨fun j y e => ?_, by rw [List.length_set, List.length_set]; exact h.len, h.hr, h.ct⟩
  by_cases hj : i = j
  · subst hj
    by_cases hl : i < ρ.length
    · rw [List.getElem?_set_self hl] at e
      cases e
      exact ⟨v, List.getElem?_set_self (by rw [← h.len]; exact hl), r⟩
    · rw [List.getElem?_eq_none (by rw [List.length_set]; omega)] at e
      cases e
  · rw [List.getElem?_set_ne hj] at e
    rw [List.getElem?_set_ne hj]
    exact h.rs j y e
end
theorem wipeP_get {ρ : Env} {i : Nat} {x : PV} : ∀ {vs : List Nat}, (wipeP ρ vs)[i]? = some (some x) → ρ[i]? = some (some x) ∧ i ∉ vs
  | [], h => ⟨h, by simp⟩
  | v :: vs, h => by
    unfold wipeP at h
    by_cases hi : v = i
    · subst hi
      by_cases hv : v < (wipeP ρ vs).length
      · rw [List.getElem?_set_self hv] at h; cases h
      · rw [List.getElem?_eq_none (by simpa using hv)] at h; cases h
    · rw [List.getElem?_set_ne hi] at h
      obtain ⟨h1, h2⟩ := wipeP_get h
      exact ⟨h1, by simp only [List.mem_cons, not_or]; exact ⟨fun e => hi e.symm, h2⟩⟩
theorem wipeP_length (ρ : Env) : ∀ vs : List Nat, (wipeP ρ vs).length = ρ.length
  | [] => rfl
  | v :: vs => by unfold wipeP; rw [List.length_set, wipeP_length ρ vs]
theorem SR0.wiped {W : Wd} {base : Heap} {code : Value} {n : Nat} {ρ : Env} {m : List Addr} {σ : L2.St} {H : Hp} {st : Store} (h : SR0 W base code n ρ m σ H st) (vs : List Nat) : SR0 W base code n (wipeP ρ vs) m (wipe σ vs) H st := by
  refine ⟨fun i x e => ?_, by rw [wipeP_length, wipe_length]; exact h.len, h.hr, h.ct⟩
  obtain ⟨h1, h2⟩ := wipeP_get e
  rw [wipe_out h2]
  exact h.rs i x h1
theorem wipe_set {σ : L2.St} {i : Nat} {v : Option V} : ∀ {vs : List Nat}, i ∈ vs → wipe (σ.set i v) vs = wipe σ vs
  | [], h => by cases h
  | j :: vs, h => by
    unfold wipe
    by_cases hm : i ∈ vs
    · rw [wipe_set hm]
    · have e : i = j := (List.mem_cons.mp h).resolve_right hm
      subst e
      have q : ∀ {vs : List Nat}, i ∉ vs → wipe (σ.set i v) vs = (wipe σ vs).set i v := by
        intro vs
        induction vs with
        | nil => intro _; rfl
        | cons k vs ih =>
          intro hk
          simp only [List.mem_cons, not_or] at hk
          unfold wipe
          rw [ih hk.2, List.set_comm _ _ hk.1]
      rw [q hm, List.set_set]

/-! ### readings -/
section
variable (X : Cx) (p : Pr)
def tE (ir : IR) : TE := fun σ H Q => ∃ ρ m st pv st', SR X p ρ m σ H st ∧ evE p.C ir ρ st = some (pv, st') ∧ Nx (wo X p.tb p.D) m H st' pv Q
/-- .. as a test -/
def evQ (C : Fn) (ir : IR) (ρ : Env) (st : Store) : Option (Bool × Store) := match evE C ir ρ st with
  | some (x, st1) => match truP st1 x with
    | some b => some (b, st1)
    | none => none
  | none => none
def NxT (W : Wd) (m : List Addr) (H : Hp) (st' : Store) (b : Bool) (Q : Bool → Hp → Prop) : Prop := ∀ m' H', HX W.K m H m' H' → HR W m' H' st' → Q b H'
def tQ (ir : IR) : TT := fun σ H Q => ∃ ρ m st b st', SR X p ρ m σ H st ∧ evQ p.C ir ρ st = some (b, st') ∧ NxT (wo X p.tb p.D) m H st' b Q
def tA (ir : IR) : TA := fun σ H Q => ∃ ρ m st xs st', SR X p ρ m σ H st ∧ evA p.C ir ρ st = some (xs, st') ∧ ∀ vs m' H', HX X.K m H m' H' → HR (wo X p.tb p.D) m' H' st' → RVs X.K m' H' xs vs → Q vs H'
def tBv (w : Bool) (ir : IR) : TE := fun σ H Q => ∃ ρ m st pv st', SR X p ρ m σ H st ∧ evB p.C w ir ρ st = some (pv, st') ∧ Nx (wo X p.tb p.D) m H st' pv Q
def evBQ (C : Fn) (w : Bool) (ir : IR) (ρ : Env) (st : Store) : Option (Bool × Store) := match evB C w ir ρ st with
  | some (x, st1) => match truP st1 x with
    | some b => some (b, st1)
    | none => none
  | none => none
def tBt (w : Bool) (ir : IR) : TT := fun σ H Q => ∃ ρ m st b st', SR X p ρ m σ H st ∧ evBQ p.C w ir ρ st = some (b, st') ∧ NxT (wo X p.tb p.D) m H st' b Q
def tOp' (ir : IR) : TO := fun σ H Q => ∃ ρ m st o st', SR X p ρ m σ H st ∧ evO p.C ir ρ st = some (o, st') ∧ ∀ m' H', HX X.K m H m' H' → HR (wo X p.tb p.D) m' H' st' → Q o H'
def tTs (ir : IR) : TT := fun σ H Q => ∃ ρ m st b st', SR X p ρ m σ H st ∧ evT p.C ir ρ st = some (b, st') ∧ NxT (wo X p.tb p.D) m H st' b Q
def tI (ir : IR) : TI := fun σ H R => ∃ ρ m st items src st', SR X p ρ m σ H st ∧ evI p.C ir ρ st = some (items, src, st') ∧ ∀ J m' H', HX X.K m H m' H' → HR (wo X p.tb p.D) m' H' st' → ItM (wo X p.tb p.D) m' H' items src J → R J H'
def tG (ir : IR) : TG := fun v σ H Q => ∃ ρ m st x ρ' st', SR X p ρ m σ H st ∧ RV X.K m H x v ∧ evG p.C ir x ρ st = some (ρ', st') ∧ ∀ σ' m' H', HX X.K m H m' H' → SR X p ρ' m' σ' H' st' → (∀ vs : List Nat, (∀ i ∈ slG ir, i ∈ vs) → wipe σ' vs = wipe σ vs) → Q σ' H'
def tGs (ir : IR) : TGs := fun us σ H Q => ∃ ρ m st xs ρ' st', SR X p ρ m σ H st ∧ RVs X.K m H xs us ∧ evGs p.C ir xs ρ st = some (ρ', st') ∧ ∀ σ' m' H', HX X.K m H m' H' → SR X p ρ' m' σ' H' st' → (∀ vs : List Nat, (∀ i ∈ slG ir, i ∈ vs) → wipe σ' vs = wipe σ vs) → Q σ' H'
end
def blts : List Str := ["len", "abs", "int", "tuple", "list", "sorted", "set", "min", "all", "any", "isinstance", "range", "enumerate", "zip", "sum", "str", "bool"]
/-- a def's promise -/
def spM (W : Wd) (C : Fn) (f : Str) : Sp := fun vs H Q _ => ∃ m st xs pv st', HR W m H st ∧ RVs W.K m H xs vs ∧ C f xs st = some (pv, st') ∧ Nx W m H st' pv Q
/-- the module of the built-in names -/
def BM (base : Heap) (mg : Str → Option Value) : Prop := ∃ bm ob, mg "__builtins__" = some (.ref bm) ∧ bm ≠ builtinsNs ∧ base.get? bm = some ob ∧ ob.cls = .type "module" ∧ ob.dict = some builtinsNs ∧ ob.data = .plain
structure Okx (p : Pr) (k : Nat) (c : Ck) (X : Cx) : Prop where
  N : X.N = c.N
  nd : c.N.Nodup
  sc : X.env.scope = c.sc
  fn : X.fn = c.fn
  calm : X.calm = true
  room : Room (k + c.g) X.A
  gn : c.g = p.n
  bm : BM X.base X.mg
  cs : ∀ x pv, (x, pv) ∈ c.cs → ∃ v u, X.mg x = some u ∧ RelV v u ∧ ∀ m H, RV X.K m H pv v
  bl : ∀ x ∈ blts, X.mg x = none
  fns : ∀ f ∈ c.df, C8.Cal X.prog X.w X.K X.mg X.base k f (spM (wo X p.tb p.D) p.C f) []
/-! roles -/
def SE (p : Pr) (k : Nat) (ir : IR) : Prop := ∀ c X e, Okx p k c X → chkE c ir e = true → PE X e (tE X p ir) ∧ PT X e (tQ X p ir)
def SA (p : Pr) (k : Nat) (ir : IR) : Prop := ∀ c X es, Okx p k c X → chkA c ir es = true → PA X es (tA X p ir)
def SB (p : Pr) (k : Nat) (ir : IR) : Prop := ∀ (w : Bool) c X es pos, Okx p k c X → chkB c ir es = true → PE X (.BoolOp (if w then .And else .Or) es pos) (tBv X p w ir) ∧ PW X (.BoolOp (if w then .And else .Or) es pos) (tBt X p w ir)
def SO (p : Pr) (k : Nat) (ir : IR) : Prop := ∀ c X e, Okx p k c X → chkO c ir e = true → PO X e (tOp' X p ir)
def STs (p : Pr) (k : Nat) (ir : IR) : Prop := ∀ c X es, Okx p k c X → chkT c ir es = true → PTs X es (tTs X p ir)
def SI (p : Pr) (k : Nat) (ir : IR) : Prop := ∀ c X tg e, Okx p k c X → chkI c ir tg e = true → PI X tg e (tI X p ir)
def SG (p : Pr) (k : Nat) (ir : IR) : Prop := ∀ c X e, Okx p k c X → chkG c ir e = true → PG X e (tG X p ir)
def SGs (p : Pr) (k : Nat) (ir : IR) : Prop := ∀ c X es, Okx p k c X → chkGs c ir es = true → PGs X es (tGs X p ir)
end Mi

namespace Mi
open PySem PySem.Spec PyProof.Rows L2
theorem PE_imp {X : Cx} {e : Expr} {t t' : TE} (h : PE X e t) (i : ∀ σ H Q, t' σ H Q → t σ H Q) : PE X e t' := ⟨fun pins s σ H Q I q => h.run pins s σ H Q I (i _ _ _ q)⟩
theorem PT_imp {X : Cx} {e : Expr} {t t' : TT} (h : PT X e t) (i : ∀ σ H Q, t' σ H Q → t σ H Q) : PT X e t' := ⟨fun pins s σ H Q I q => h.run pins s σ H Q I (i _ _ _ q)⟩
theorem PA_imp {X : Cx} {e : List Expr} {t t' : TA} (h : PA X e t) (i : ∀ σ H Q, t' σ H Q → t σ H Q) : PA X e t' := ⟨fun pos pins s σ H Q I q => h.run pos pins s σ H Q I (i _ _ _ q)⟩
theorem PI_imp {X : Cx} {tg e : Expr} {t t' : TI} (h : PI X tg e t) (i : ∀ σ H Q, t' σ H Q → t σ H Q) : PI X tg e t' := ⟨fun pins s σ H Q I q => h.run pins s σ H Q I (i _ _ _ q)⟩
section
variable {X : Cx} {env : PySem.Env} {c : Ck} {p : Pr} {k : Nat}
theorem star_cons {e : Expr} {es : List Expr} (h : nst e = true) : starEach (e :: es) env = (false, eval e env) :: starEach es env := by
  cases e <;> first | rfl | cases h
theorem asg_cons {e : Expr} {es : List Expr} (h : nst e = true) : assignEach (e :: es) env = (false, assign e env) :: assignEach es env := by
  cases e <;> first | rfl | cases h
theorem nostars {pos : Pos} : ∀ {es : List Expr}, (∀ e ∈ es, nst e = true) → (backTo pos (starEach es env)).any (·.1) = false
  | [], _ => rfl
  | e :: es, h => by
    rw [star_cons (h e (List.mem_cons_self ..))]
    unfold backTo
    rw [List.map_cons, List.any_cons]
    exact nostars fun e he => h e (List.mem_cons_of_mem _ he)
theorem chkA_nst : ∀ {ir : IR} {es : List Expr}, chkA c ir es = true → ∀ e ∈ es, nst e = true := by
  intro ir
  induction ir with
  | an =>
    intro es h e he
    unfold chkA at h
    split at h
    · cases he
    · cases h
  | ac a r _ ih =>
    intro es h e he
    unfold chkA at h
    split at h
    · simp only [Bool.and_eq_true] at h
      rcases List.mem_cons.mp he with rfl | he
      · exact h.1.1
      · exact ih h.2 e he
    · cases h
  | _ => intro es h; exact Bool.noConfusion h
theorem visC_of (hs : X.env.scope = c.sc) {x : Str} (h : visC c.sc x = true) : Vis X.env.scope x := by
  rw [hs]
  unfold visC at h
  split at h
  · rename_i e; exact .inl e
  · rename_i e; exact .inr (.inl e)
  · rename_i e; exact .inr (.inr e)
  · cases h
theorem glC_of (hs : X.env.scope = c.sc) {x : Str} (h : glC c.sc x = true) : Gl X x := by
  show X.env.scope.names.lookup x = some .globalImplicit
  rw [hs]
  unfold glC at h
  split at h
  · assumption
  · cases h
theorem locC_of (hs : X.env.scope = c.sc) (hf : X.fn = c.fn) {x : Str} (h : locC c x = true) : Loc X.env.scope x ∧ (X.fn x = true ∨ X.env.scope.names.lookup x = some .local) := by
  rw [hs, hf]
  unfold locC at h
  split at h
  · rename_i e; exact ⟨.inl e, .inr e⟩
  · rename_i e; exact ⟨.inr e, .inl h⟩
  · cases h
theorem nodbg_of {x : Str} (h : nodbg x = true) : (x == ("__debug__" : Str)) = false ∧ (x == ("__classdict__" : Str)) = false := by
  unfold nodbg at h
  rw [Bool.and_eq_true, Bool.not_eq_true', Bool.not_eq_true'] at h
  exact h
theorem noSet_marks {op : CmpOp} {e : Expr} (h : noSet e = true) : behindInMarks op e = false := by
  cases e <;> first | rfl | cases h
theorem noSet_fold {e : Expr} (h : noSet e = true) : ∀ x, foldedSetIterable e env x = pure x := by
  cases e <;> first | (intro x; rfl) | cases h
theorem noSl_ix {e : Expr} (h : noSl e = true) : PlainIx e := by
  intro o i
  cases e with
  | Slice l u st pos => cases st <;> first | rfl | cases h
  | _ => rfl
theorem noCall_base {e : Expr} {m : Str} (h : noCall e = true) : attributeBase e m env (eval e env) = eval e env := by
  cases e <;> first | rfl | cases h
theorem plain_true {e : Expr} (h : plainT e = true) : ∀ whole, isTrue e env whole = (do let v ← whole; standAt e.pos; holding [v] (truthy v)) := by
  intro whole
  cases e with
  | UnaryOp op x pos => cases op <;> first | rfl | cases h
  | _ => first | rfl | cases h
/-- a test by its value -/
theorem pt_of {e : Expr} {ir : IR} (he : PE X e (tE X p ir)) (hp : plainT e = true) : PT X e (tQ X p ir) := by
  refine PT_imp (pt_truth he (plain_true hp)) fun σ H Q ⟨ρ, m, st, b, st', sr, ev, n⟩ => ?_
  unfold evQ at ev
  split at ev
  · rename_i x st1 ev1
    split at ev
    · rename_i b' et
      cases ev
      exact ⟨ρ, m, st, x, _, sr, ev1, fun v m' H' hx hr rv => ⟨_, tru_of hr rv et, n m' H' hx hr⟩⟩
    · cases ev
  · cases ev
theorem Nx.more {W : Wd} {m m1 : List Addr} {H H1 : Hp} {st : Store} {pv : PV} {Q : VK} (n : Nx W m H st pv Q) (x : HX W.K m H m1 H1) : Nx W m1 H1 st pv Q := fun v m' H' hx hr rv => n v m' H' (x.trans hx) hr rv
theorem NxT.more {W : Wd} {m m1 : List Addr} {H H1 : Hp} {st : Store} {b : Bool} {Q : Bool → Hp → Prop} (n : NxT W m H st b Q) (x : HX W.K m H m1 H1) : NxT W m1 H1 st b Q := fun m' H' hx hr => n m' H' (x.trans hx) hr
end
variable {p : Pr} {k : Nat}
/-! ### names, constants -/
theorem s_v (i : Nat) : SE p k (.v i) := by
  intro c X e o h
  have hp : plainT e = true := by cases e <;> first | rfl | exact Bool.noConfusion h
  refine ⟨?_, pt_of ?_ hp⟩ <;>
  · unfold chkE at h
    split at h
    · simp only [Bool.and_eq_true, decide_eq_true_eq] at h
      obtain ⟨⟨h1, h2⟩, h3⟩ := h
      rw [← o.N] at h1
      refine PE_imp (pe_var h1 (visC_of o.sc h2) (nodbg_of h3).1 (nodbg_of h3).2) fun σ H Q ⟨ρ, m, st, pv, st', sr, ev, n⟩ => ?_
      simp only [evE] at ev
      split at ev
      · rename_i x ex
        cases ev
        obtain ⟨v, e1, e2⟩ := sr.rs i _ ex
        exact ⟨v, e1, n.here sr.hr e2⟩
      · cases ev
    · cases h
theorem s_k (pv : PV) : SE p k (.k pv) := by
  intro c X e o h
  have hp : plainT e = true := by cases e <;> first | rfl | exact Bool.noConfusion h
  refine ⟨?_, pt_of ?_ hp⟩ <;>
  · unfold chkE at h
    split at h
    · unfold constC at h
      split at h
      · exact PE_imp pe_non fun σ H Q ⟨ρ, m, st, pv, st', sr, ev, n⟩ => by
          simp only [evE] at ev; cases ev; exact n.here sr.hr rfl
      · cases eq_of_beq h
        exact PE_imp pe_bl fun σ H Q ⟨ρ, m, st, pv, st', sr, ev, n⟩ => by
          simp only [evE] at ev; cases ev; exact n.here sr.hr rfl
      · cases eq_of_beq h
        exact PE_imp pe_int fun σ H Q ⟨ρ, m, st, pv, st', sr, ev, n⟩ => by
          simp only [evE] at ev; cases ev; exact n.here sr.hr rfl
      · have h := of_decide_eq_true h
        subst h
        exact PE_imp pe_str fun σ H Q ⟨ρ, m, st, pv, st', sr, ev, n⟩ => by
          simp only [evE] at ev; cases ev; exact n.here sr.hr rfl
      · cases h
    · cases h
theorem s_g (x : Str) (pv : PV) : SE p k (.g x pv) := by
  intro c X e o h
  have hp : plainT e = true := by cases e <;> first | rfl | exact Bool.noConfusion h
  refine ⟨?_, pt_of ?_ hp⟩ <;>
  · unfold chkE at h
    split at h
    · simp only [Bool.and_eq_true, decide_eq_true_eq] at h
      obtain ⟨⟨⟨h1, h2⟩, h3⟩, h4⟩ := h
      subst h1
      obtain ⟨v, u, e1, e2, e3⟩ := o.cs _ _ h4
      exact PE_imp (pe_glob (glC_of o.sc h2) e1 e2 (nodbg_of h3).1) fun σ H Q ⟨ρ, m, st, pv, st', sr, ev, n⟩ => by
        simp only [evE] at ev; cases ev; exact n.here sr.hr (e3 m H)
    · cases h
/-! ### lists of arguments -/
theorem s_an : SA p k .an := by
  intro c X es o h
  unfold chkA at h
  split at h
  · exact PA_imp pa_nil fun σ H Q ⟨ρ, m, st, xs, st', sr, ev, n⟩ => by
      simp only [evA] at ev; cases ev; exact n [] m H HX.refl sr.hr rfl
  · cases h
theorem s_ac {a r : IR} (ha : SE p k a) (hr : SA p k r) : SA p k (.ac a r) := by
  intro c X es o h
  unfold chkA at h
  split at h
  · simp only [Bool.and_eq_true] at h
    obtain ⟨⟨h1, h2⟩, h3⟩ := h
    refine PA_imp (pa_cons (ha c X _ o h2).1 (hr c X _ o h3) (star_cons h1)) fun σ H Q ⟨ρ, m, st, xs, st', sr, ev, n⟩ => ?_
    simp only [evA] at ev
    split at ev
    · rename_i x st1 e1
      split at ev
      · rename_i ys st2 e2
        cases ev
        refine ⟨ρ, m, st, x, st1, sr, e1, fun v m1 H1 hx1 hr1 rv1 => ⟨ρ, m1, st1, ys, _, sr.mono hx1 hr1, e2, fun us m2 H2 hx2 hr2 rv2 => ?_⟩⟩
        exact n _ m2 H2 (hx1.trans hx2) hr2 ⟨v, us, rfl, rv1.mono hx2, rv2⟩
      · cases ev
    · cases ev
  · cases h
/-! ### displays -/
theorem s_tp {a : IR} (ha : SA p k a) : SE p k (.tp a) := by
  intro c X e o h
  have hp : plainT e = true := by cases e <;> first | rfl | exact Bool.noConfusion h
  refine ⟨?_, pt_of ?_ hp⟩ <;>
  · unfold chkE at h
    split at h
    · refine PE_imp (pe_tup (ha c X _ o h)) fun σ H Q ⟨ρ, m, st, pv, st', sr, ev, n⟩ => ?_
      simp only [evE] at ev
      split at ev
      · rename_i xs st1 e1
        split at ev
        · rename_i hl
          cases ev
          exact ⟨ρ, m, st, xs, _, sr, e1, fun vs m1 H1 hx hr rv => ⟨by rw [rv.length]; exact le_line hl, fun q hq => (n.more hx).tup hr rv hq⟩⟩
        · cases ev
      · cases ev
    · cases h
theorem s_ls {a : IR} (ha : SA p k a) : SE p k (.ls a) := by
  intro c X e o h
  have hp : plainT e = true := by cases e <;> first | rfl | exact Bool.noConfusion h
  refine ⟨?_, pt_of ?_ hp⟩ <;>
  · unfold chkE at h
    split at h
    · refine PE_imp (pe_lst (ha c X _ o h)) fun σ H Q ⟨ρ, m, st, pv, st', sr, ev, n⟩ => ?_
      simp only [evE] at ev
      split at ev
      · rename_i xs st1 e1
        split at ev
        · rename_i hl
          cases ev
          exact ⟨ρ, m, st, xs, _, sr, e1, fun vs m1 H1 hx hr rv => ⟨by rw [rv.length]; exact le_line hl, fun q hq => (n.more hx).lst hr rv hq⟩⟩
        · cases ev
      · cases ev
    · cases h
theorem s_d0 : SE p k .d0 := by
  intro c X e o h
  have hp : plainT e = true := by cases e <;> first | rfl | exact Bool.noConfusion h
  refine ⟨?_, pt_of ?_ hp⟩ <;>
  · unfold chkE at h
    split at h
    · exact PE_imp pe_dnewK fun σ H Q ⟨ρ, m, st, pv, st', sr, ev, n⟩ => by
        simp only [evE] at ev; cases ev; exact fun q hq => n.dic sr.hr rfl hq
    · cases h
/-! ### operators -/
theorem s_bo {op : Operator} {a b : IR} (ha : SE p k a) (hb : SE p k b) : SE p k (.bo op a b) := by
  intro c X e o h
  have hp : plainT e = true := by cases e <;> first | rfl | exact Bool.noConfusion h
  refine ⟨?_, pt_of ?_ hp⟩ <;>
  · unfold chkE at h
    split at h
    · simp only [Bool.and_eq_true, decide_eq_true_eq] at h
      obtain ⟨⟨h1, h2⟩, h3⟩ := h
      subst h1
      refine PE_imp (pe_op (op_boM (tb := p.tb) (D := p.D) op) (ha c X _ o h2).1 (hb c X _ o h3).1) fun σ H Q ⟨ρ, m, st, pv, st', sr, ev, n⟩ => ?_
      simp only [evE] at ev
      split at ev
      · rename_i x st1 e1
        split at ev
        · rename_i y st2 e2
          exact ⟨ρ, m, st, x, st1, sr, e1, fun v m1 H1 hx1 hr1 rv1 => ⟨ρ, m1, st1, y, st2, sr.mono hx1 hr1, e2, fun u m2 H2 hx2 hr2 rv2 => ⟨m2, st2, x, y, pv, st', hr2, rv1.mono hx2, rv2, ev, n.more (hx1.trans hx2)⟩⟩⟩
        · cases ev
      · cases ev
    · cases h
/-- two values in a row, then a comparison -/
theorem cm_core {X : Cx} {op : CmpOp} {a b : IR} {σ : L2.St} {H : Hp} {Q : VK} {ρ : Env} {m : List Addr} {st st' : Store} {pv : PV} (sr : SR X p ρ m σ H st) (ev : evE p.C (.cm op a b) ρ st = some (pv, st')) (n : ∀ c, pv = .bl c → NxT (wo X p.tb p.D) m H st' c (fun c H => Q (.bl c) H)) :
    tOp (rCm X p.tb p.D op) (tE X p a) (tE X p b) σ H Q := by
  simp only [evE] at ev
  split at ev
  · rename_i x st1 e1
    split at ev
    · rename_i y st2 e2
      split at ev
      · rename_i d e3
        cases ev
        exact ⟨ρ, m, st, x, st1, sr, e1, fun v m1 H1 hx1 hr1 rv1 => ⟨ρ, m1, st1, y, _, sr.mono hx1 hr1, e2, fun u m2 H2 hx2 hr2 rv2 => ⟨m2, _, x, y, d, hr2, rv1.mono hx2, rv2, e3, n d rfl m2 H2 (hx1.trans hx2) hr2⟩⟩⟩
      · cases ev
    · cases ev
  · cases ev
theorem evQ_bl {C : Fn} {ir : IR} {ρ : Env} {st st' : Store} {b : Bool} (h : evQ C ir ρ st = some (b, st')) (hb : ∀ x s, evE C ir ρ st = some (x, s) → ∃ d, x = .bl d) : evE C ir ρ st = some (.bl b, st') := by
  unfold evQ at h
  split at h
  · rename_i x st1 e1
    obtain ⟨d, rfl⟩ := hb _ _ e1
    simp only [truP] at h
    cases h
    exact e1
  · cases h
theorem cm_bl {C : Fn} {op : CmpOp} {a b : IR} {ρ : Env} {st s : Store} {x : PV} (h : evE C (.cm op a b) ρ st = some (x, s)) : ∃ d, x = .bl d := by
  simp only [evE] at h
  split at h
  · split at h
    · split at h
      · cases h; exact ⟨_, rfl⟩
      · cases h
    · cases h
  · cases h
theorem s_cm {op : CmpOp} {a b : IR} (ha : SE p k a) (hb : SE p k b) : SE p k (.cm op a b) := by
  intro c X e o h
  unfold chkE at h
  split at h
  · simp only [Bool.and_eq_true, decide_eq_true_eq] at h
    obtain ⟨⟨⟨h1, h2⟩, h3⟩, h4⟩ := h
    subst h1
    refine ⟨PE_imp (pe_cmpR (op_cmM (tb := p.tb) (D := p.D) o.room.units op) (ha c X _ o h2).1 (hb c X _ o h3).1 (noSet_marks h4)) fun σ H Q ⟨ρ, m, st, pv, st', sr, ev, n⟩ => ?_,
      PT_imp (pt_cmpR (op_cmM (tb := p.tb) (D := p.D) o.room.units op) (ha c X _ o h2).1 (hb c X _ o h3).1 (noSet_marks h4)) fun σ H Q ⟨ρ, m, st, b, st', sr, ev, n⟩ => ?_⟩
    · exact cm_core sr ev fun d ed m' H' hx hr => by subst ed; exact n _ m' H' hx hr rfl
    · have ev := evQ_bl ev fun x s e => cm_bl e
      exact cm_core (Q := fun x H' => ∃ k, x = .bl k ∧ Q k H') sr ev fun d ed m' H' hx hr => by cases ed; exact ⟨_, rfl, n m' H' hx hr⟩
  · cases h
theorem ch_core {X : Cx} {o1 o2 : CmpOp} {a b d : IR} {σ : L2.St} {H : Hp} {Q : VK} {ρ : Env} {m : List Addr} {st st' : Store} {pv : PV} (sr : SR X p ρ m σ H st) (ev : evE p.C (.ch o1 o2 a b d) ρ st = some (pv, st')) (n : ∀ c, pv = .bl c → NxT (wo X p.tb p.D) m H st' c (fun c H => Q (.bl c) H)) :
    tChain (rCm X p.tb p.D o1) (rCm X p.tb p.D o2) (tE X p a) (tE X p b) (tE X p d) σ H Q := by
  simp only [evE] at ev
  split at ev
  · rename_i x st1 e1
    split at ev
    · rename_i y st2 e2
      refine ⟨ρ, m, st, x, st1, sr, e1, fun v m1 H1 hx1 hr1 rv1 => ⟨ρ, m1, st1, y, st2, sr.mono hx1 hr1, e2, fun u m2 H2 hx2 hr2 rv2 => ?_⟩⟩
      split at ev
      · rename_i e3
        refine ⟨m2, st2, x, y, true, hr2, rv1.mono hx2, rv2, e3, true, rfl, ?_⟩
        rw [if_pos rfl]
        split at ev
        · rename_i z st3 e4
          split at ev
          · rename_i f e5
            cases ev
            exact ⟨ρ, m2, st2, z, _, sr.mono (hx1.trans hx2) hr2, e4, fun w m3 H3 hx3 hr3 rv3 => ⟨m3, _, y, z, f, hr3, rv2.mono hx3, rv3, e5, n f rfl m3 H3 ((hx1.trans hx2).trans hx3) hr3⟩⟩
          · cases ev
        · cases ev
      · rename_i e3
        cases ev
        refine ⟨m2, _, x, y, false, hr2, rv1.mono hx2, rv2, e3, false, rfl, ?_⟩
        rw [if_neg (by decide)]
        exact n false rfl m2 H2 (hx1.trans hx2) hr2
      · cases ev
    · cases ev
  · cases ev
theorem ch_bl {C : Fn} {o1 o2 : CmpOp} {a b d : IR} {ρ : Env} {st s : Store} {x : PV} (h : evE C (.ch o1 o2 a b d) ρ st = some (x, s)) : ∃ d, x = .bl d := by
  simp only [evE] at h
  split at h
  · split at h
    · split at h
      · split at h
        · split at h
          · cases h; exact ⟨_, rfl⟩
          · cases h
        · cases h
      · cases h; exact ⟨_, rfl⟩
      · cases h
    · cases h
  · cases h
theorem s_ch {o1 o2 : CmpOp} {a b d : IR} (ha : SE p k a) (hb : SE p k b) (hd : SE p k d) : SE p k (.ch o1 o2 a b d) := by
  intro c X e o h
  unfold chkE at h
  split at h
  · simp only [Bool.and_eq_true, decide_eq_true_eq] at h
    obtain ⟨⟨⟨⟨⟨h1, h2⟩, h3⟩, h4⟩, h5⟩, h6⟩ := h
    subst h1 h2
    refine ⟨PE_imp (pe_chain (op_cmM (tb := p.tb) (D := p.D) o.room.units o1) (op_cmM (tb := p.tb) (D := p.D) o.room.units o2) (ha c X _ o h3).1 (hb c X _ o h4).1 (hd c X _ o h5).1 (noSet_marks h6)) fun σ H Q ⟨ρ, m, st, pv, st', sr, ev, n⟩ => ?_,
      PT_imp (pt_chain (op_cmM (tb := p.tb) (D := p.D) o.room.units o1) (op_cmM (tb := p.tb) (D := p.D) o.room.units o2) (ha c X _ o h3).1 (hb c X _ o h4).1 (hd c X _ o h5).1 (noSet_marks h6)) fun σ H Q ⟨ρ, m, st, b, st', sr, ev, n⟩ => ?_⟩
    · exact ch_core sr ev fun d ed m' H' hx hr => by subst ed; exact n _ m' H' hx hr rfl
    · have ev := evQ_bl ev fun x s e => ch_bl e
      exact ch_core (Q := fun x H' => ∃ k, x = .bl k ∧ Q k H') sr ev fun d ed m' H' hx hr => by cases ed; exact ⟨_, rfl, n m' H' hx hr⟩
  · cases h
theorem s_nt {a : IR} (ha : SE p k a) : SE p k (.nt a) := by
  intro c X e o h
  unfold chkE at h
  split at h
  · refine ⟨PE_imp (pe_notT (ha c X _ o h).1) fun σ H Q ⟨ρ, m, st, pv, st', sr, ev, n⟩ => ?_, PT_imp (pt_not (ha c X _ o h).2) fun σ H Q ⟨ρ, m, st, b, st', sr, ev, n⟩ => ?_⟩
    · simp only [evE] at ev
      split at ev
      · rename_i x st1 e1
        split at ev
        · rename_i b e2
          cases ev
          exact ⟨ρ, m, st, x, _, sr, e1, fun v m1 H1 hx hr rv => ⟨b, tru_of hr rv e2, n _ m1 H1 hx hr rfl⟩⟩
        · cases ev
      · cases ev
    · have hb : ∀ x s, evE p.C (.nt a) ρ st = some (x, s) → ∃ d, x = .bl d := fun x s e => by
        simp only [evE] at e
        split at e
        · split at e
          · cases e; exact ⟨_, rfl⟩
          · cases e
        · cases e
      have ev := evQ_bl ev hb
      simp only [evE] at ev
      split at ev
      · rename_i x st1 e1
        split at ev
        · rename_i b' e2
          cases ev
          exact ⟨ρ, m, st, b', _, sr, by unfold evQ; rw [e1]; simp only [e2], fun m1 H1 hx hr => n m1 H1 hx hr⟩
        · cases ev
      · cases ev
  · cases h
theorem s_ie {t a b : IR} (ht : SE p k t) (ha : SE p k a) (hb : SE p k b) : SE p k (.ie t a b) := by
  intro c X e o h
  unfold chkE at h
  split at h
  · simp only [Bool.and_eq_true] at h
    obtain ⟨⟨h1, h2⟩, h3⟩ := h
    refine ⟨PE_imp (pe_ifExp (ht c X _ o h1).2 (ha c X _ o h2).1 (hb c X _ o h3).1) fun σ H Q ⟨ρ, m, st, pv, st', sr, ev, n⟩ => ?_, ?_⟩
    · simp only [evE] at ev
      split at ev
      · rename_i x st1 e1
        split at ev
        · rename_i e2
          exact ⟨ρ, m, st, true, st1, sr, by unfold evQ; rw [e1]; simp only [e2], fun m1 H1 hx hr => by show (if true = true then tE X p a σ H1 Q else tE X p b σ H1 Q); rw [if_pos rfl]; exact ⟨ρ, m1, st1, pv, st', sr.mono hx hr, ev, n.more hx⟩⟩
        · rename_i e2
          exact ⟨ρ, m, st, false, st1, sr, by unfold evQ; rw [e1]; simp only [e2], fun m1 H1 hx hr => by show (if false = true then tE X p a σ H1 Q else tE X p b σ H1 Q); rw [if_neg (by decide)]; exact ⟨ρ, m1, st1, pv, st', sr.mono hx hr, ev, n.more hx⟩⟩
        · cases ev
      · cases ev
    · refine ⟨fun pins s σ H Q I ⟨ρ, m, st, d, st', sr, ev, n⟩ => ?_⟩
      unfold evQ at ev
      simp only [evE] at ev
      split at ev
      · rename_i y st2 ev2
        split at ev
        · rename_i d' e3
          cases ev
          split at ev2
          · rename_i x st1 e1
            split at ev2
            · rename_i e2
              refine isTrue_IfExp (thn ((ht c X _ o h1).2.run pins s σ H (fun w H1 => ∃ m1, w = true ∧ HX X.K m H m1 H1 ∧ HR (wo X p.tb p.D) m1 H1 st1) I ⟨ρ, m, st, true, st1, sr, by unfold evQ; rw [e1]; simp only [e2], fun m1 H1 hx hr => ⟨m1, rfl, hx, hr⟩⟩) fun w s1 ⟨H1, I1, m1, ew, hx, hr⟩ => ?_)
              subst ew
              rw [if_pos rfl]
              exact (ha c X _ o h2).2.run pins s1 σ H1 Q I1 ⟨ρ, m1, st1, _, _, sr.mono hx hr, by unfold evQ; rw [ev2]; simp only [e3], n.more hx⟩
            · rename_i e2
              refine isTrue_IfExp (thn ((ht c X _ o h1).2.run pins s σ H (fun w H1 => ∃ m1, w = false ∧ HX X.K m H m1 H1 ∧ HR (wo X p.tb p.D) m1 H1 st1) I ⟨ρ, m, st, false, st1, sr, by unfold evQ; rw [e1]; simp only [e2], fun m1 H1 hx hr => ⟨m1, rfl, hx, hr⟩⟩) fun w s1 ⟨H1, I1, m1, ew, hx, hr⟩ => ?_)
              subst ew
              rw [if_neg (by decide)]
              exact (hb c X _ o h3).2.run pins s1 σ H1 Q I1 ⟨ρ, m1, st1, _, _, sr.mono hx hr, by unfold evQ; rw [ev2]; simp only [e3], n.more hx⟩
            · cases ev2
          · cases ev2
        · cases ev
      · cases ev
  · cases h
end Mi

namespace Mi
open PySem PySem.Spec PyProof.Rows L2
variable {p : Pr} {k : Nat}
theorem PG_imp {X : Cx} {e : Expr} {t t' : TG} (h : PG X e t) (i : ∀ v σ H Q, t' v σ H Q → t v σ H Q) : PG X e t' := ⟨fun pins s σ H v u Q I r q => h.run pins s σ H v u Q I r (i _ _ _ _ q)⟩
theorem PGs_imp {X : Cx} {e : List Expr} {t t' : TGs} (h : PGs X e t) (i : ∀ v σ H Q, t' v σ H Q → t v σ H Q) : PGs X e t' := ⟨fun pins s σ H v u Q I r q => h.run pins s σ H v u Q I r (i _ _ _ _ q)⟩
theorem PW_imp {X : Cx} {e : Expr} {t t' : TT} (h : PW X e t) (i : ∀ σ H Q, t' σ H Q → t σ H Q) : PW X e t' := ⟨fun wh pins s σ H Q I q => h.run wh pins s σ H Q I (i _ _ _ q)⟩
theorem isAn_chkB {c : Ck} {r : IR} {es : List Expr} (h : chkB c r es = true) : isAn r = false := by
  cases r <;> first | rfl | exact Bool.noConfusion h
/-! ### and, or -/
theorem s_bac {a r : IR} (ha : SE p k a) (hr : SB p k r) : SB p k (.ac a r) := by
  intro w c X es pos o h
  unfold chkB at h
  split at h
  · rw [Bool.and_eq_true] at h
    obtain ⟨h1, h2⟩ := h
    obtain ⟨pe, pt⟩ := ha c X _ o h1
    refine ⟨PE_imp (pe_one pe) fun σ H Q ⟨ρ, m, st, pv, st', sr, ev, n⟩ => ?_, ?_⟩
    · simp only [evB] at ev
      split at ev
      · rename_i e1
        rw [h2] at ev
        cases ev
        exact ⟨ρ, m, st, _, _, sr, e1, n⟩
      · cases ev
    · have q : ∀ σ H Q, tBt X p w (.ac a r) σ H Q → tQ X p a σ H Q := fun σ H Q ⟨ρ, m, st, b, st', sr, ev, n⟩ => by
        unfold evBQ at ev
        simp only [evB] at ev
        split at ev
        · rename_i y st2 e2
          split at e2
          · rename_i e1
            rw [h2] at e2
            cases e2
            exact ⟨ρ, m, st, b, st', sr, by unfold evQ; rw [e1]; exact ev, n⟩
          · cases e2
        · cases ev
      cases w with
      | true => exact PW_imp (pw_and1 pt) q
      | false => exact PW_imp (pw_or1 pt) q
  · rename_i f fs
    rw [Bool.and_eq_true] at h
    obtain ⟨h1, h2⟩ := h
    have hn := isAn_chkB h2
    obtain ⟨pe, pt⟩ := ha c X _ o h1
    obtain ⟨qe, qt⟩ := hr w c X _ pos o h2
    -- the parts of the meaning
    have q1 : ∀ {σ : L2.St} {H : Hp} {Q : VK}, tBv X p w (.ac a r) σ H Q → ∃ ρ m st x st1 b, SR X p ρ m σ H st ∧ evE p.C a ρ st = some (x, st1) ∧ truP st1 x = some b ∧
        (b = w → ∀ m1 H1, HX X.K m H m1 H1 → HR (wo X p.tb p.D) m1 H1 st1 → tBv X p w r σ H1 Q) ∧ (b ≠ w → Nx (wo X p.tb p.D) m H st1 x Q) := fun {σ H Q} ⟨ρ, m, st, pv, st', sr, ev, n⟩ => by
      simp only [evB] at ev
      split at ev
      · rename_i x st1 e1
        rw [hn] at ev
        simp only at ev
        split at ev
        · rename_i b e2
          refine ⟨ρ, m, st, x, st1, b, sr, e1, e2, fun hb m1 H1 hx hr1 => ?_, fun hb => ?_⟩
          · rw [if_pos hb] at ev
            exact ⟨ρ, m1, st1, pv, st', sr.mono hx hr1, ev, n.more hx⟩
          · rw [if_neg hb] at ev
            cases ev
            exact n
        · cases ev
      · cases ev
    have q2 : ∀ {σ : L2.St} {H : Hp} {Q : Bool → Hp → Prop}, tBt X p w (.ac a r) σ H Q → ∃ ρ m st x st1 b, SR X p ρ m σ H st ∧ evE p.C a ρ st = some (x, st1) ∧ truP st1 x = some b ∧
        (b = w → ∀ m1 H1, HX X.K m H m1 H1 → HR (wo X p.tb p.D) m1 H1 st1 → tBt X p w r σ H1 Q) ∧ (b ≠ w → NxT (wo X p.tb p.D) m H st1 b Q) := fun {σ H Q} ⟨ρ, m, st, d, st', sr, ev, n⟩ => by
      unfold evBQ at ev
      simp only [evB] at ev
      split at ev
      · rename_i y st2 e0
        split at ev
        · rename_i d' e3
          cases ev
          split at e0
          · rename_i x st1 e1
            rw [hn] at e0
            simp only at e0
            split at e0
            · rename_i b e2
              refine ⟨ρ, m, st, x, st1, b, sr, e1, e2, fun hb m1 H1 hx hr1 => ?_, fun hb => ?_⟩
              · rw [if_pos hb] at e0
                exact ⟨ρ, m1, st1, _, _, sr.mono hx hr1, by unfold evBQ; rw [e0]; simp only [e3], n.more hx⟩
              · rw [if_neg hb] at e0
                cases e0
                rw [e2] at e3
                cases e3
                exact n
            · cases e0
          · cases e0
        · cases ev
      · cases ev
    cases w with
    | true =>
      refine ⟨PE_imp (pe_andT pe qe) fun σ H Q h => ?_, PW_imp (pw_and pt qt) fun σ H Q h => ?_⟩
      · obtain ⟨ρ, m, st, x, st1, b, sr, e1, e2, z1, z2⟩ := q1 h
        refine ⟨ρ, m, st, x, st1, sr, e1, fun v m1 H1 hx hr1 rv => ⟨b, tru_of hr1 rv e2, ?_⟩⟩
        cases b with
        | true => rw [if_pos rfl]; exact z1 rfl m1 H1 hx hr1
        | false => rw [if_neg (by decide)]; exact z2 (by decide) v m1 H1 hx hr1 rv
      · obtain ⟨ρ, m, st, x, st1, b, sr, e1, e2, z1, z2⟩ := q2 h
        refine ⟨ρ, m, st, b, st1, sr, by unfold evQ; rw [e1]; simp only [e2], fun m1 H1 hx hr1 => ?_⟩
        cases b with
        | true => show (if true = true then _ else _); rw [if_pos rfl]; exact z1 rfl m1 H1 hx hr1
        | false => show (if false = true then _ else _); rw [if_neg (by decide)]; exact z2 (by decide) m1 H1 hx hr1
    | false =>
      refine ⟨PE_imp (pe_orT pe qe) fun σ H Q h => ?_, PW_imp (pw_or pt qt) fun σ H Q h => ?_⟩
      · obtain ⟨ρ, m, st, x, st1, b, sr, e1, e2, z1, z2⟩ := q1 h
        refine ⟨ρ, m, st, x, st1, sr, e1, fun v m1 H1 hx hr1 rv => ⟨b, tru_of hr1 rv e2, ?_⟩⟩
        cases b with
        | true => rw [if_pos rfl]; exact z2 (by decide) v m1 H1 hx hr1 rv
        | false => rw [if_neg (by decide)]; exact z1 rfl m1 H1 hx hr1
      · obtain ⟨ρ, m, st, x, st1, b, sr, e1, e2, z1, z2⟩ := q2 h
        refine ⟨ρ, m, st, b, st1, sr, by unfold evQ; rw [e1]; simp only [e2], fun m1 H1 hx hr1 => ?_⟩
        cases b with
        | true => show (if true = true then _ else _); rw [if_pos rfl]; exact z2 (by decide) m1 H1 hx hr1
        | false => show (if false = true then _ else _); rw [if_neg (by decide)]; exact z1 rfl m1 H1 hx hr1
  · cases h
theorem s_bl {w : Bool} {a : IR} (ha : SB p k a) : SE p k (.bl w a) := by
  intro c X e o h
  unfold chkE at h
  split at h
  · rename_i op es pos
    rw [Bool.and_eq_true] at h
    obtain ⟨h1, h2⟩ := h
    have eo : op = (if w then .And else .Or) := by cases op <;> cases w <;> first | rfl | cases h1
    obtain ⟨qe, qt⟩ := ha w c X es pos o h2
    rw [eo]
    refine ⟨PE_imp qe fun σ H Q ⟨ρ, m, st, pv, st', sr, ev, n⟩ => ⟨ρ, m, st, pv, st', sr, by simpa only [evE] using ev, n⟩, (PW_imp qt fun σ H Q ⟨ρ, m, st, b, st', sr, ev, n⟩ => ⟨ρ, m, st, b, st', sr, ?_, n⟩).pt⟩
    unfold evQ at ev
    simp only [evE] at ev
    unfold evBQ
    exact ev
  · cases h
/-! ### subscripts, slices -/
theorem s_ix {a b : IR} (ha : SE p k a) (hb : SE p k b) : SE p k (.ix a b) := by
  intro c X e o h
  have hp : plainT e = true := by cases e <;> first | rfl | exact Bool.noConfusion h
  refine ⟨?_, pt_of ?_ hp⟩ <;>
  · unfold chkE at h
    split at h
    · simp only [Bool.and_eq_true] at h
      obtain ⟨⟨h1, h2⟩, h3⟩ := h
      refine PE_imp (pe_ix (ix_M (tb := p.tb) (D := p.D) (by have := o.room.units; omega)) (ha c X _ o h1).1 (hb c X _ o h2).1 (noSl_ix h3)) fun σ H Q ⟨ρ, m, st, pv, st', sr, ev, n⟩ => ?_
      simp only [evE] at ev
      split at ev
      · rename_i x st1 e1
        split at ev
        · rename_i y st2 e2
          exact ⟨ρ, m, st, x, st1, sr, e1, fun v m1 H1 hx1 hr1 rv1 => ⟨ρ, m1, st1, y, st2, sr.mono hx1 hr1, e2, fun u m2 H2 hx2 hr2 rv2 => ⟨m2, st2, x, y, pv, st', hr2, rv1.mono hx2, rv2, ev, n.more (hx1.trans hx2)⟩⟩⟩
        · cases ev
      · cases ev
    · cases h
theorem s_no : SO p k .no := by
  intro c X e o h
  unfold chkO at h
  split at h
  · exact ⟨fun pins s σ H Q I ⟨ρ, m, st, x, st', sr, ev, n⟩ => po_none.run pins s σ H Q I (by simp only [evO] at ev; cases ev; exact n m H HX.refl sr.hr)⟩
  · cases h
theorem s_oit {a : IR} (ha : SE p k a) : SO p k (.it a) := by
  intro c X e o h
  unfold chkO at h
  split at h
  · refine ⟨fun pins s σ H Q I ⟨ρ, m, st, x, st', sr, ev, n⟩ => (po_some (ha c X _ o h).1).run pins s σ H Q I ?_⟩
    simp only [evO] at ev
    split at ev
    · rename_i i st1 e1
      cases ev
      exact ⟨ρ, m, st, _, _, sr, e1, fun v m1 H1 hx hr rv => ⟨i, rv, n m1 H1 hx hr⟩⟩
    · cases ev
  · cases h
theorem s_sl {a lo hi : IR} (ha : SE p k a) (hl : SO p k lo) (hh : SO p k hi) : SE p k (.sl a lo hi) := by
  intro c X e o h
  have hp : plainT e = true := by cases e <;> first | rfl | exact Bool.noConfusion h
  refine ⟨?_, pt_of ?_ hp⟩ <;>
  · unfold chkE at h
    split at h
    · simp only [Bool.and_eq_true] at h
      obtain ⟨⟨h1, h2⟩, h3⟩ := h
      refine PE_imp (pe_slice (sl_M (tb := p.tb) (D := p.D)) (ha c X _ o h1).1 (hl c X _ o h2) (hh c X _ o h3)) fun σ H Q ⟨ρ, m, st, pv, st', sr, ev, n⟩ => ?_
      simp only [evE] at ev
      split at ev
      · rename_i x st1 e1
        split at ev
        · rename_i l st2 e2
          split at ev
          · rename_i u st3 e3
            refine ⟨ρ, m, st, x, st1, sr, e1, fun v m1 H1 hx1 hr1 rv1 => ⟨ρ, m1, st1, l, st2, sr.mono hx1 hr1, e2, fun m2 H2 hx2 hr2 => ⟨ρ, m2, st2, u, st3, sr.mono (hx1.trans hx2) hr2, e3, fun m3 H3 hx3 hr3 => ?_⟩⟩⟩
            exact ⟨m3, st3, x, pv, st', hr3, rv1.mono (hx2.trans hx3), ev, n.more ((hx1.trans hx2).trans hx3)⟩
          · cases ev
        · cases ev
      · cases ev
    · cases h
/-! ### calls -/
theorem s_ca {f : Str} {a : IR} (ha : SA p k a) : SE p k (.ca f a) := by
  intro c X e o h
  have hp : plainT e = true := by cases e <;> first | rfl | exact Bool.noConfusion h
  refine ⟨?_, pt_of ?_ hp⟩ <;>
  · unfold chkE at h
    split at h
    · simp only [Bool.and_eq_true, decide_eq_true_eq] at h
      obtain ⟨⟨⟨⟨h1, h2⟩, h3⟩, h4⟩, h5⟩ := h
      subst h1
      have ns := chkA_nst h5
      refine PE_imp (C8.pe_c (o.fns _ h4) o.room (Nat.le_add_right _ _) (glC_of o.sc h2) (ha c X _ o h5) (nodbg_of h3).1 (star_cons (ns _ (List.mem_cons_self ..))) (nostars fun e he => ns e (List.mem_cons_of_mem _ he))) fun σ H Q ⟨ρ, m, st, pv, st', sr, ev, n⟩ => ?_
      simp only [evE] at ev
      split at ev
      · rename_i xs st1 e1
        exact ⟨ρ, m, st, xs, st1, sr, e1, fun vs m1 H1 hx hr rv => ⟨m1, st1, xs, pv, st', hr, by rw [List.append_nil]; exact rv, ev, n.more hx⟩⟩
      · cases ev
    · cases h
theorem bl_mem {X : Cx} {c : Ck} (o : Okx p k c X) (f : Bi) : X.mg (biN f) = none := o.bl _ (by cases f <;> decide)
theorem pe_biM {X : Cx} {c : Ck} (o : Okx p k c X) {f : Bi} {x : Str} {q pos : Pos} {e : Expr} {es : List Expr} {t : TA} (hx : x = biN f) (hg : Gl X x) (ha : PA X (e :: es) t) (ns : ∀ e' ∈ e :: es, nst e' = true) :
    PE X (.Call (.Name x q) (e :: es) [] pos) (tCB (rBi X p.tb p.D f) t) := by
  subst hx
  have hm := bl_mem o f
  have h1 := star_cons (env := X.env) (es := es) (ns e (List.mem_cons_self ..))
  have h2 := nostars (env := X.env) (pos := pos) fun e' he => ns e' (List.mem_cons_of_mem e he)
  have hu := o.room.units
  cases f with
  | len => exact pe_callB cr_len hg hm boot_len ha (by decide) (by decide) h1 h2
  | abs => exact pe_callB cr_abs hg hm boot_abs ha (by decide) (by decide) h1 h2
  | int => exact pe_callTy cr_int hg hm boot_int ha (by decide) (by decide) h1 h2
  | tuple => exact pe_callTy cr_tuple hg hm boot_tuple ha (by decide) (by decide) h1 h2
  | list => exact pe_callTy cr_list hg hm boot_list ha (by decide) (by decide) h1 h2
  | sorted => exact pe_callB (cr_sortedM o.calm) hg hm boot_sorted ha (by decide) (by decide) h1 h2
  | set => exact pe_callTy (cr_setM o.calm hu) hg hm boot_set ha (by decide) (by decide) h1 h2
  | min => exact pe_callB (cr_min o.calm) hg hm boot_min ha (by decide) (by decide) h1 h2
  | all => exact pe_callB (cr_allM o.calm) hg hm boot_all ha (by decide) (by decide) h1 h2
  | any => exact pe_callB (cr_anyM o.calm) hg hm boot_any ha (by decide) (by decide) h1 h2
theorem s_bi {f : Bi} {a : IR} (ha : SA p k a) : SE p k (.bi f a) := by
  intro c X e o h
  have hp : plainT e = true := by cases e <;> first | rfl | exact Bool.noConfusion h
  refine ⟨?_, pt_of ?_ hp⟩ <;>
  · unfold chkE at h
    split at h
    · simp only [Bool.and_eq_true, decide_eq_true_eq] at h
      obtain ⟨⟨h1, h2⟩, h3⟩ := h
      refine PE_imp (pe_biM o h1 (glC_of o.sc h2) (ha c X _ o h3) (chkA_nst h3)) fun σ H Q ⟨ρ, m, st, pv, st', sr, ev, n⟩ => ?_
      simp only [evE] at ev
      split at ev
      · rename_i xs st1 e1
        exact ⟨ρ, m, st, xs, st1, sr, e1, fun vs m1 H1 hx hr rv => ⟨m1, st1, xs, pv, st', hr, rv, ev, n.more hx⟩⟩
      · cases ev
    · cases h
/-- len(set(..)) of distinct ints, by a tuple or a list -/
theorem pe_lenSetM {X : Cx} {a : Expr} {ir : IR} {p1 p2 q pos : Pos} (hc : X.calm = true) (hg : Gl X "len") (hm : X.mg "len" = none) (hg2 : Gl X "set") (hm2 : X.mg "set" = none) (ha : PE X a (tE X p ir)) (na : nst a = true) :
    PE X (.Call (.Name "len" p1) [.Call (.Name "set" p2) [a] [] q] [] pos) (tE X p (.nb .lenset ir)) := by
  refine ⟨fun pins s σ H Q I ⟨ρ, m, st, pv, st', sr, ev, n⟩ => ?_⟩
  simp only [evE] at ev
  split at ev
  · rename_i x st1 e1
    simp only [nbP] at ev
    split at ev
    · rename_i xs e2
      split at ev
      · rename_i is e3
        split at ev
        · rename_i hl
          cases ev
          refine Call_ (ld_blt I hg hm PySem.boot_len ?_)
          refine PyProof.Rows.callWith_builtin1 (PyProof.Rows.args_cons ?_ rfl) rfl rfl
          refine Call_ (ld_blt I hg2 hm2 PyProof.Rows.boot_set ?_)
          refine PyProof.Rows.callWith_type1 (PyProof.Rows.args_cons (thn (ha.run pins s σ H (fun v H1 => ∃ m1, HX X.K m H m1 H1 ∧ HR (wo X p.tb p.D) m1 H1 st' ∧ RV X.K m1 H1 x v) I ⟨ρ, m, st, x, _, sr, e1, fun v m1 H1 hx hr rv => ⟨m1, hx, hr, rv⟩⟩) fun v s1 ⟨y, H1, I1, r1, m1, hx, hr, rv⟩ => PyProof.Rows.args_nil ?_) (star_cons na)) (star_cons na) rfl
          have fin : ∀ {s2 : Shared}, Inv X pins σ H1 s2 → EP X pins σ Q (.int (is.length : Nat) s2.toks) s2 := fun {s2} I2 => ⟨.int is.length, H1, I2, ⟨_, rfl⟩, n _ m1 H1 hx hr rfl⟩
          unfold itemsP at e2
          split at e2
          · cases e2
            obtain ⟨l, vs, ey, sq, rvs⟩ := rv
            subst ey
            cases r1
            rw [toInts_of rvs e3] at sq
            obtain ⟨its, r, pl, hz⟩ := I1.tuple sq
            refine call_set_tupI is (I1.ok.hd hc) (show s1.heap.IsTuple l its.toArray from pl) (by simpa using r.ints) (by unfold scanBound; omega) fun h' tk cc hS hcn hk => ?_
            refine PyProof.Rows.args_nil ?_
            obtain ⟨o, es, ep, t, ho, hex, hd, hgd, hnd, hmm, hb, hf, hn, _⟩ := hS
            have I2 : Inv X pins σ H1 { s1 with heap := h', toks := tk } := I1.kept hk
            have eqn : es.size = is.length := by
              have pm : (es.toList.map keyOf).Perm is := (List.perm_ext_iff_of_nodup hnd hl.2).mpr fun z => by
                rw [← hmm z]
                exact decide_eq_true_iff
              have := pm.length_eq
              rw [List.length_map, Array.length_toList] at this
              exact this
            refine call_len_set ho hex hd hf (by omega) ⟨.int is.length, H1, I2.tok _, ⟨_, by rw [eqn]⟩, n _ m1 H1 hx hr rfl⟩
          · have lst : ∀ (a' : Addr) (vs : List V), y = .ref a' → SqL X.K H1 a' vs → RVs X.K m1 H1 xs vs → wpAny (model X.prog X.w) X.A (call (.type "set") [v]) (fun v s₁ => wpAny (model X.prog X.w) X.A (spliced (backTo pos (starEach [] X.env))) (fun vs s₂ => wpAny (model X.prog X.w) X.A (call (.builtin "len") (v :: vs)) (EP X pins σ Q) X.xe s₂) X.xe s₁) X.xe s1 := by
              intro a' vs ey sq rvs
              subst ey
              cases r1
              rw [toInts_of rvs e3] at sq
              obtain ⟨its, r, pl, hz⟩ := I1.list sq
              have hlen : its.toArray.size = is.length := by rw [List.size_toArray, ← r.length, List.length_map]
              refine call_set_list (I1.ok.hd hc) pl.isList (ns := is) (by simpa using r.ints) (by unfold scanBound; omega) fun h' tk hS hk => ?_
              rw [hlen, L2.firstMet_nodup is hl.2 is.length (Nat.le_refl _), List.take_length] at hS
              refine PyProof.Rows.args_nil ?_
              obtain ⟨o, es, ep, t, ho, hex, hd, _, _, _, hf, hn⟩ := hS
              have I2 : Inv X pins σ H1 { s1 with heap := h', toks := tk } := I1.kept fun b o e => hk b o (Heap.lt_size e) e
              exact call_len_set ho hex hd hf (by rw [hn] <;> omega) ⟨.int is.length, H1, I2.tok _, ⟨_, by rw [hn]⟩, n _ m1 H1 hx hr rfl⟩
            split at e2
            · rename_i el
              cases e2
              obtain ⟨a', vs, ey, sq, rvs⟩ := hr.seq el rv
              exact lst a' vs ey sq rvs
            · cases e2
          · cases e2
            obtain ⟨a', vs, ey, sq, rvs⟩ := rv
            subst ey
            cases r1
            rw [toInts_of rvs e3] at sq
            obtain ⟨its, r, pl, hz⟩ := I1.list sq.l
            have hlen : its.toArray.size = is.length := by rw [List.size_toArray, ← r.length, List.length_map]
            refine call_set_list (I1.ok.hd hc) pl.isList (ns := is) (by simpa using r.ints) (by unfold scanBound; omega) fun h' tk hS hk => ?_
            rw [hlen, L2.firstMet_nodup is hl.2 is.length (Nat.le_refl _), List.take_length] at hS
            refine PyProof.Rows.args_nil ?_
            obtain ⟨o, es, ep, t, ho, hex, hd, _, _, _, hf, hn⟩ := hS
            have I2 : Inv X pins σ H1 { s1 with heap := h', toks := tk } := I1.kept fun b o e => hk b o (Heap.lt_size e) e
            exact call_len_set ho hex hd hf (by rw [hn] <;> omega) ⟨.int is.length, H1, I2.tok _, ⟨_, by rw [hn]⟩, n _ m1 H1 hx hr rfl⟩
          · cases e2
        · cases ev
      · cases ev
    · cases ev
  · cases ev
theorem s_nb {f : Nb} {a : IR} (ha : SE p k a) : SE p k (.nb f a) := by
  intro c X e o h
  have hp : plainT e = true := by cases e <;> first | rfl | exact Bool.noConfusion h
  refine ⟨?_, pt_of ?_ hp⟩ <;>
  · unfold chkE at h
    split at h
    · simp only [Bool.and_eq_true, decide_eq_true_eq] at h
      obtain ⟨⟨⟨⟨⟨h1, h2⟩, h3⟩, h4⟩, h5⟩, h6⟩ := h
      subst h1 h2
      cases f with
      | lenset => exact pe_lenSetM o.calm (glC_of o.sc h3) (o.bl _ (by decide)) (glC_of o.sc h4) (o.bl _ (by decide)) (ha c X _ o h6).1 h5
      | lrg =>
        refine PE_imp (pe_listRg o.calm (glC_of o.sc h3) (o.bl _ (by decide)) (prg_1 (glC_of o.sc h4) (o.bl _ (by decide)) (ha c X _ o h6).1 (star_cons h5)) rfl) fun σ H Q ⟨ρ, m, st, pv, st', sr, ev, n⟩ => ?_
        simp only [evE] at ev
        split at ev
        · rename_i x st1 e1
          unfold nbP at ev
          split at ev
          · rename_i hh; cases hh
          · rename_i i hh
            split at ev
            · rename_i hb
              cases ev
              refine ⟨ρ, m, st, _, _, sr, e1, fun v m1 H1 hx hr rv => ⟨i, rv, ⟨by omega, by omega, by omega, by omega, by omega⟩, fun q hq => ?_⟩⟩
              have rr : RVs X.K m1 H1 ((List.range i.toNat).map fun j => PV.int (j : Nat)) (rgV 0 i) := by
                have e : rgV 0 i = ((List.range i.toNat).map fun j => ((j : Nat) : Int)).map V.int := by
                  unfold rgV
                  rw [List.map_map, Int.sub_zero]
                  exact List.map_congr_left fun j _ => by show V.int (0 + _) = _; rw [Int.zero_add]; rfl
                rw [e, show ((List.range i.toNat).map fun j => PV.int (j : Nat)) = ((List.range i.toNat).map fun j => ((j : Nat) : Int)).map PV.int by rw [List.map_map]; rfl]
                exact RVs.ints _
              exact (n.more hx).lst hr rr hq
            · cases ev
          · cases ev
        · cases ev
    · cases h
end Mi

namespace Mi
open PySem PySem.Spec PyProof.Rows L2
variable {p : Pr} {k : Nat}
/-! ### isinstance -/
theorem okT_boot {t : String} (h : okT t = true) : bootBuiltins (Str.ofString t) = some (.type t) ∧ Str.ofString t ∈ blts ∧ Str.ofString t ≠ "__name__" ∧ (Str.ofString t == ("__debug__" : Str)) = false := by
  have hm := okT_mem h
  unfold tyList at hm
  simp only [List.mem_cons, List.not_mem_nil, or_false] at hm
  rcases hm with rfl | rfl | rfl | rfl | rfl
  · exact ⟨boot_int, by decide, by decide, by decide⟩
  · exact ⟨boot_str, by decide, by decide, by decide⟩
  · exact ⟨boot_bool, by decide, by decide, by decide⟩
  · exact ⟨boot_tuple, by decide, by decide, by decide⟩
  · exact ⟨boot_list, by decide, by decide, by decide⟩
theorem pe_ty {X : Cx} {c : Ck} (o : Okx p k c X) {t : String} {x : Str} {pos : Pos} (ht : okT t = true) (hx : x = Str.ofString t) (hg : glC c.sc x = true) : PE X (.Name x pos) (tC (.ty t)) := by
  subst hx
  obtain ⟨h1, h2, h3, h4⟩ := okT_boot ht
  exact pe_bltn (glC_of o.sc hg) (o.bl _ h2) h1 rfl h3 h4
theorem pa_tys {X : Cx} {c : Ck} (o : Okx p k c X) : ∀ {ts : List String} {es : List Expr}, tysC c ts es = true → PA X es (fun _ H Q => Q (ts.map V.ty) H) ∧ ts.all okT = true
  | [], [], _ => ⟨pa_nil, rfl⟩
  | t :: ts, .Name x pos :: es, h => by
    have h : (okT t && decide (x = Str.ofString t) && glC c.sc x && tysC c ts es) = true := h
    simp only [Bool.and_eq_true, decide_eq_true_eq] at h
    obtain ⟨⟨⟨h1, h2⟩, h3⟩, h4⟩ := h
    obtain ⟨q1, q2⟩ := pa_tys o h4
    exact ⟨PA_imp (pa_cons (pe_ty o h1 h2 h3) q1 rfl) fun σ H Q z => z, by rw [List.all_cons, h1, q2]; rfl⟩
  | [], _ :: _, h => by cases h
  | _ :: _, [], h => by cases h
  | _ :: _, .BoolOp .. :: _, h | _ :: _, .NamedExpr .. :: _, h | _ :: _, .BinOp .. :: _, h | _ :: _, .UnaryOp .. :: _, h | _ :: _, .Lambda .. :: _, h | _ :: _, .IfExp .. :: _, h | _ :: _, .Dict .. :: _, h | _ :: _, .Set .. :: _, h
  | _ :: _, .ListComp .. :: _, h | _ :: _, .SetComp .. :: _, h | _ :: _, .DictComp .. :: _, h | _ :: _, .GeneratorExp .. :: _, h | _ :: _, .Await .. :: _, h | _ :: _, .Yield .. :: _, h | _ :: _, .YieldFrom .. :: _, h | _ :: _, .Compare .. :: _, h
  | _ :: _, .Call .. :: _, h | _ :: _, .FormattedValue .. :: _, h | _ :: _, .JoinedStr .. :: _, h | _ :: _, .Constant .. :: _, h | _ :: _, .Attribute .. :: _, h | _ :: _, .Subscript .. :: _, h | _ :: _, .Starred .. :: _, h | _ :: _, .List .. :: _, h
  | _ :: _, .Tuple .. :: _, h | _ :: _, .Slice .. :: _, h => by cases h
theorem tysC_len {c : Ck} : ∀ {ts : List String} {es : List Expr}, tysC c ts es = true → ts.length = es.length
  | [], [], _ => rfl
  | t :: ts, .Name x pos :: es, h => by
    have h : (okT t && decide (x = Str.ofString t) && glC c.sc x && tysC c ts es) = true := h
    rw [Bool.and_eq_true] at h
    rw [List.length_cons, List.length_cons, tysC_len h.2]
  | [], _ :: _, h => by cases h
  | _ :: _, [], h => by cases h
  | _ :: _, .BoolOp .. :: _, h | _ :: _, .NamedExpr .. :: _, h | _ :: _, .BinOp .. :: _, h | _ :: _, .UnaryOp .. :: _, h | _ :: _, .Lambda .. :: _, h | _ :: _, .IfExp .. :: _, h | _ :: _, .Dict .. :: _, h | _ :: _, .Set .. :: _, h
  | _ :: _, .ListComp .. :: _, h | _ :: _, .SetComp .. :: _, h | _ :: _, .DictComp .. :: _, h | _ :: _, .GeneratorExp .. :: _, h | _ :: _, .Await .. :: _, h | _ :: _, .Yield .. :: _, h | _ :: _, .YieldFrom .. :: _, h | _ :: _, .Compare .. :: _, h
  | _ :: _, .Call .. :: _, h | _ :: _, .FormattedValue .. :: _, h | _ :: _, .JoinedStr .. :: _, h | _ :: _, .Constant .. :: _, h | _ :: _, .Attribute .. :: _, h | _ :: _, .Subscript .. :: _, h | _ :: _, .Starred .. :: _, h | _ :: _, .List .. :: _, h
  | _ :: _, .Tuple .. :: _, h | _ :: _, .Slice .. :: _, h => by cases h
theorem clsVs : ∀ ts : List String, Paired ClsV (ts.map V.ty) (ts.map Value.type)
  | [] => .nil
  | t :: ts => .cons (.ty t) (clsVs ts)
theorem isiP_of {X : Cx} {m : List Addr} {H : Hp} {st : Store} {x : PV} {v : V} {ts : List String} {b : Bool} (hr : HR (wo X p.tb p.D) m H st) (r : RV X.K m H x v) (e : isiP st x ts = some b) : ∃ c, TyX X.K H v (.type c) ∧ PySem.W.kitAny X.K (.type c) (ts.map Value.type) = some b ∧ (∀ t, ts = [t] → PySem.W.kitOne X.K (.type c) (.type t) = some b) := by
  unfold isiP at e
  split at e
  · rename_i c ec
    split at e
    · rename_i ho
      cases e
      obtain ⟨h1, h2⟩ := cls_of hr r ec
      refine ⟨c, h2, kit_subs h1 ho, fun t et => ?_⟩
      subst et
      rw [List.all_cons, Bool.and_eq_true] at ho
      rw [List.any_cons, List.any_nil, Bool.or_false]
      exact kit_sub h1 ho.1
    · cases e
  · cases e
theorem s_isi {a : IR} {many : Bool} {ts : List String} (ha : SE p k a) : SE p k (.isi a many ts) := by
  intro c X e o h
  have hp : plainT e = true := by cases e <;> first | rfl | exact Bool.noConfusion h
  refine ⟨?_, pt_of ?_ hp⟩ <;>
  · unfold chkE at h
    split at h
    · rename_i x q e ty pos
      simp only [Bool.and_eq_true, decide_eq_true_eq] at h
      obtain ⟨⟨⟨⟨h1, h2⟩, h3⟩, h4⟩, h5⟩ := h
      subst h1
      have hg := glC_of o.sc h2
      have hm := o.bl "isinstance" (by decide)
      split at h5
      · rename_i es kk tpos
        rw [Bool.and_eq_true, decide_eq_true_eq] at h5
        obtain ⟨q1, q2⟩ := pa_tys o h5.1
        have pa : PA X [e, .Tuple es kk tpos] (tCons (tE X p a) (tCons (tTup fun _ H Q => Q (ts.map V.ty) H) tNil)) := pa_cons (ha c X _ o h4).1 (pa_cons (pe_tup q1) pa_nil rfl) (star_cons h3)
        refine PE_imp (pe_callB call_isiT hg hm boot_isinstance pa (by decide) (by decide) (star_cons h3) rfl) fun σ H Q ⟨ρ, m, st, pv, st', sr, ev, n⟩ => ?_
        simp only [evE] at ev
        split at ev
        · rename_i x st1 e1
          split at ev
          · rename_i b e2
            cases ev
            refine ⟨ρ, m, st, x, _, sr, e1, fun v m1 H1 hx hr rv => ⟨?_, fun q hq => ?_⟩⟩
            · rw [List.length_map, sizeLine_eq]; omega
            · have X1 : HX X.K m1 H1 m1 (upd H1 q (.tup (ts.map V.ty))) := HX.side hq
              obtain ⟨cc, i1, i2, _⟩ := isiP_of (hr.side hq) (rv.mono X1) e2
              exact ⟨v, q, _, _, _, b, rfl, upd_same, clsVs ts, i1, i2, n _ m1 _ (hx.trans X1) (hr.side hq) rfl⟩
          · cases ev
        · cases ev
      · obtain ⟨q1, q2⟩ := pa_tys o h5
        have ql := tysC_len h5
        have pa : PA X [e, ty] (tCons (tE X p a) (fun _ H Q => Q (ts.map V.ty) H)) := pa_cons (ha c X _ o h4).1 q1 (star_cons h3)
        have nt : nst ty = true := by
          cases ty <;> first | rfl | (cases ts <;> cases h5)
        refine PE_imp (pe_callB call_isi hg hm boot_isinstance pa (by decide) (by decide) (star_cons h3) (nostars fun z hz => by rw [List.mem_singleton.mp hz]; exact nt)) fun σ H Q ⟨ρ, m, st, pv, st', sr, ev, n⟩ => ?_
        simp only [evE] at ev
        split at ev
        · rename_i x st1 e1
          split at ev
          · rename_i b e2
            cases ev
            match ts, ql with
            | [t], _ =>
              refine ⟨ρ, m, st, x, _, sr, e1, fun v m1 H1 hx hr rv => ?_⟩
              obtain ⟨cc, i1, _, i3⟩ := isiP_of hr rv e2
              exact ⟨v, .ty t, _, _, b, rfl, .ty t, i1, i3 t rfl, n _ m1 _ hx hr rfl⟩
          · cases ev
        · cases ev
      · cases h5
    · cases h
/-! ### methods -/
def meT : Me → String
  | .get => "dict"
  | _ => "list"
theorem recv_ty {X : Cx} {m : List Addr} {H : Hp} {st : Store} {o : PV} {v : V} {me : Me} (hr : HR (wo X p.tb p.D) m H st) (r : RV X.K m H o v) (e : recvP me o st = true) : tyV X.K (meT me) v H := by
  cases o with
  | loc l =>
    cases me with
    | get =>
      simp only [recvP] at e
      split at e
      · rename_i el
        obtain ⟨q, vs, e1, _, s1, _⟩ := hr.dic el r
        subst e1
        exact .inr (.inr (.inl ⟨rfl, .inl ⟨_, s1⟩⟩))
      · cases e
    | append =>
      simp only [recvP] at e
      split at e
      · rename_i el
        obtain ⟨q, vs, e1, _, s1, _⟩ := hr.lst el r
        subst e1
        exact .inl ⟨rfl, _, .of s1⟩
      · cases e
    | pop =>
      simp only [recvP] at e
      split at e
      · rename_i el
        obtain ⟨q, vs, e1, _, s1, _⟩ := hr.lst el r
        subst e1
        exact .inl ⟨rfl, _, .of s1⟩
      · cases e
  | _ => cases me <;> cases e
theorem s_mth {me : Me} {a b : IR} (ha : SE p k a) (hb : SA p k b) : SE p k (.mth me a b) := by
  intro c X e o h
  have hp : plainT e = true := by cases e <;> first | rfl | exact Bool.noConfusion h
  refine ⟨?_, pt_of ?_ hp⟩ <;>
  · unfold chkE at h
    split at h
    · rename_i x name apos e cpos
      simp only [Bool.and_eq_true, decide_eq_true_eq] at h
      obtain ⟨⟨⟨⟨h1, h2⟩, h3⟩, h4⟩, h5⟩ := h
      subst h1
      have ns := chkA_nst h5 e (List.mem_cons_self ..)
      have few : ((backTo cpos (starEach [e] X.env)).all (fun x => !x.1) && (backToKw cpos (keywordEach [] X.env)).all (fun x => x.1.isSome)
        && decide (([e] : List Expr).length + ([] : List Keyword).length + (if ([] : List Keyword).isEmpty then 0 else 1) < 30)) = true := by rw [star_cons ns]; rfl
      have core : ∀ {σ : L2.St} {H : Hp} {Q : VK} {ρ : Env} {m : List Addr} {st st' : Store} {pv : PV}, SR X p ρ m σ H st → evE p.C (.mth me a b) ρ st = some (pv, st') → Nx (wo X p.tb p.D) m H st' pv Q →
          tBM X.K (meT me) (rMt X p.tb p.D me) (tE X p a) (tA X p b) σ H Q := fun {σ H Q ρ m st st' pv} sr ev n => by
        simp only [evE] at ev
        split at ev
        · rename_i x st1 e1
          split at ev
          · rename_i e2
            split at ev
            · rename_i xs st2 e3
              exact ⟨ρ, m, st, x, st1, sr, e1, fun v m1 H1 hx hr rv => ⟨recv_ty hr rv e2, ρ, m1, st1, xs, st2, sr.mono hx hr, e3, fun vs m2 H2 hx2 hr2 rv2 => ⟨m2, st2, x, xs, pv, st', hr2, rv.mono hx2, rv2, ev, n.more (hx.trans hx2)⟩⟩⟩
            · cases ev
          · cases ev
        · cases ev
      have hu := o.room.units
      cases me with
      | append => exact PE_imp (pe_bm PySem.F.plainAttrs_list PySem.F.slot_list_append PySem.F.type_list_append mt_appendM (ha c X _ o h4).1 (hb c X _ o h5) (noCall_base h2) few h3 (star_cons ns) rfl) fun σ H Q ⟨ρ, m, st, pv, st', sr, ev, n⟩ => core sr ev n
      | pop => exact PE_imp (pe_bm PySem.F.plainAttrs_list PySem.F.slot_list_pop PySem.F.type_list_pop mt_popM (ha c X _ o h4).1 (hb c X _ o h5) (noCall_base h2) few h3 (star_cons ns) rfl) fun σ H Q ⟨ρ, m, st, pv, st', sr, ev, n⟩ => core sr ev n
      | get => exact PE_imp (pe_bm PySem.F.plainAttrs_dict PySem.F.slot_dict_get PySem.F.type_dict_get (mt_getM (by omega)) (ha c X _ o h4).1 (hb c X _ o h5) (noCall_base h2) few h3 (star_cons ns) rfl) fun σ H Q ⟨ρ, m, st, pv, st', sr, ev, n⟩ => core sr ev n
    · cases h
/-! ### a dict display -/
def SP (p : Pr) (k : Nat) (ir : IR) : Prop := ∀ (c : Ck) (X : Cx) (ks : List Str) (keys : List (Option Expr)) (vals : List Expr) (pos : Pos), Okx p k c X → keysC ks keys = true → chkA c ir vals = true →
  ∀ (pins : List (Addr × Obj)) (s : Shared) (σ : L2.St) (H : Hp) (Q : List (V × V) → Hp → Prop), Inv X pins σ H s →
    (∃ ρ m st xs st', SR X p ρ m σ H st ∧ evA p.C ir ρ st = some (xs, st') ∧ ks.length = xs.length ∧ ∀ vs m' H', HX X.K m H m' H' → HR (wo X p.tb p.D) m' H' st' → RVs X.K m' H' xs vs → Q ((ks.map V.str).zip vs) H') →
    wpAny (model X.prog X.w) X.A (evalPairs (pairTrees keys vals X.env pos)) (fun ws s' => ∃ ps H', Inv X pins σ H' s' ∧ VV ps ws ∧ Q ps H') X.xe s
theorem s_pan : SP p k .an := by
  intro c X ks keys vals pos o hk h pins s σ H Q I ⟨ρ, m, st, xs, st', sr, ev, hl, n⟩
  simp only [evA] at ev
  cases ev
  have e1 : ks = [] := List.length_eq_zero_iff.mp hl
  subst e1
  unfold chkA at h
  split at h
  · match keys, hk with
    | [], _ => exact pairTrees_nil_walk ⟨[], H, I, .nil, n [] m H HX.refl sr.hr rfl⟩
  · cases h
theorem s_pac {a r : IR} (ha : SE p k a) (hr : SP p k r) : SP p k (.ac a r) := by
  intro c X ks keys vals pos o hk h pins s σ H Q I ⟨ρ, m, st, xs, st', sr, ev, hl, n⟩
  simp only [evA] at ev
  split at ev
  · rename_i x st1 e1
    split at ev
    · rename_i ys st2 e2
      cases ev
      unfold chkA at h
      split at h
      · rename_i e es
        simp only [Bool.and_eq_true] at h
        obtain ⟨⟨h1, h2⟩, h3⟩ := h
        match ks, keys, hk with
        | x' :: ks, some (.Constant (.str y) j cp) :: keys, hk =>
          have hk : (decide (x' = y) && keysC ks keys) = true := hk
          rw [Bool.and_eq_true, decide_eq_true_eq] at hk
          obtain ⟨hk1, hk2⟩ := hk
          subst hk1
          refine pairTrees_cons_walk (thn ((pe_str (X := X)).run pins s σ H (fun v H1 => v = .str x' ∧ H1 = H) I ⟨rfl, rfl⟩) fun u s1 ⟨xv, H1, I1, rx, q1⟩ => ?_)
          obtain ⟨q1, q2⟩ := q1
          subst q1 q2
          refine thn ((ha c X e o h2).1.run pins s1 σ H1 (fun v H2 => ∃ m1, HX X.K m H1 m1 H2 ∧ HR (wo X p.tb p.D) m1 H2 st1 ∧ RV X.K m1 H2 x v) I1 ⟨ρ, m, st, x, st1, sr, e1, fun v m1 H2 hx hr rv => ⟨m1, hx, hr, rv⟩⟩) fun w2 s2 ⟨yv, H2, I2, ry, m1, hx, hr1, rv⟩ => ?_
          refine thn (hr c X ks keys es pos o hk2 h3 pins s2 σ H2 (fun ps H3 => Q ((V.str x', yv) :: ps) H3) I2 ⟨ρ, m1, st1, ys, _, sr.mono hx hr1, e2, by simpa using hl, fun vs m2 H3 hx2 hr2 rvs => n (yv :: vs) m2 H3 (hx.trans hx2) hr2 ⟨yv, vs, rfl, rv.mono hx2, rvs⟩⟩) fun ws s3 ⟨ps, H3, I3, rel, q3⟩ => ?_
          exact ⟨(V.str x', yv) :: ps, H3, I3, .cons ⟨rx, ry⟩ rel, q3⟩
        | [], _, _ => simp at hl
        | _ :: _, [], hk => cases hk
      · cases h
    · cases ev
  · cases ev
end Mi

namespace Mi
open PySem PySem.Spec PyProof.Rows L2
variable {p : Pr} {k : Nat}
/-! ### a dict display, whole -/
theorem mergeK_nodup : ∀ (more acc : List (Key × V)), (more.map (·.1)).Nodup → (∀ q ∈ more, q.1 ∉ acc.map (·.1)) → mergeK acc more = acc ++ more
  | [], acc, _, _ => by rw [List.append_nil]; rfl
  | q :: r, acc, nd, dj => by
    rw [List.map_cons, List.nodup_cons] at nd
    show mergeK (putK acc q.1 q.2) r = _
    have hn : q.1 ∉ acc.map (·.1) := dj q (List.mem_cons_self ..)
    have e : putK acc q.1 q.2 = acc ++ [q] := by
      unfold putK
      rw [if_neg]
      intro z
      obtain ⟨y, hy, e⟩ := List.any_eq_true.mp z
      exact hn (List.mem_map.mpr ⟨y, hy, of_decide_eq_true e⟩)
    rw [e, mergeK_nodup r (acc ++ [q]) nd.2 fun z hz hm => ?_, List.append_assoc]
    · rfl
    · rw [List.map_append, List.mem_append] at hm
      rcases hm with hm | hm
      · exact dj z (List.mem_cons_of_mem _ hz) hm
      · rw [List.map_cons, List.map_nil, List.mem_singleton] at hm
        exact nd.1 (hm ▸ List.mem_map.mpr ⟨z, hz, rfl⟩)
theorem RKs.zip {K : PySem.W.Frag} {m : List Addr} {H : Hp} : ∀ (ks : List Str) {xs : List PV} {vs : List V}, RVs K m H xs vs → RKs K m H ((ks.map Sum.inr).zip xs) ((ks.map Sum.inr).zip vs)
  | [], _, _, _ => rfl
  | k :: ks, [], _, h => by rw [show _ = [] from h]; rfl
  | k :: ks, x :: xs, _, h => by
    obtain ⟨v, r, e, h1, h2⟩ := h
    rw [e]
    exact ⟨v, _, rfl, h1, RKs.zip ks h2⟩
theorem keysC_len : ∀ {ks : List Str} {keys : List (Option Expr)}, keysC ks keys = true → ks.length = keys.length ∧ keys.all (·.isSome) = true
  | [], [], _ => ⟨rfl, rfl⟩
  | k :: ks, some (.Constant (.str x) a b) :: r, h => by
    have h : (decide (k = x) && keysC ks r) = true := h
    rw [Bool.and_eq_true] at h
    obtain ⟨h1, h2⟩ := keysC_len h.2
    exact ⟨by rw [List.length_cons, List.length_cons, h1], by rw [List.all_cons, h2]; rfl⟩
  | [], _ :: _, h => by cases h
  | _ :: _, [], h => by cases h
  | _ :: _, none :: _, h => by cases h
  | k :: ks, some e :: r, h => by
    cases e with
    | Constant c a b =>
      cases c with
      | str x =>
        have h : (decide (k = x) && keysC ks r) = true := h
        rw [Bool.and_eq_true] at h
        obtain ⟨h1, h2⟩ := keysC_len h.2
        exact ⟨by rw [List.length_cons, List.length_cons, h1], by rw [List.all_cons, h2]; rfl⟩
      | _ => cases h
    | _ => cases h
theorem evA_len {C : Fn} {c : Ck} : ∀ {ir : IR} {es : List Expr} {ρ : Env} {st st' : Store} {xs : List PV}, chkA c ir es = true → evA C ir ρ st = some (xs, st') → xs.length = es.length := by
  intro ir
  induction ir with
  | an =>
    intro es ρ st st' xs h ev
    simp only [evA] at ev
    cases ev
    unfold chkA at h
    split at h
    · rfl
    · cases h
  | ac a r _ ih =>
    intro es ρ st st' xs h ev
    unfold chkA at h
    split at h
    · simp only [Bool.and_eq_true] at h
      simp only [evA] at ev
      split at ev
      · split at ev
        · rename_i e2
          cases ev
          rw [List.length_cons, List.length_cons, ih h.2 e2]
        · cases ev
      · cases ev
    · cases h
  | _ => intro es ρ st st' xs h; exact Bool.noConfusion h
theorem s_dk {ks : List Str} {a : IR} (ha : SP p k a) : SE p k (.dk ks a) := by
  intro c X e o h
  have hp : plainT e = true := by cases e <;> first | rfl | exact Bool.noConfusion h
  refine ⟨?_, pt_of ?_ hp⟩ <;>
  · unfold chkE at h
    split at h
    · rename_i keys vals pos
      rw [Bool.and_eq_true] at h
      obtain ⟨h1, h2⟩ := h
      obtain ⟨k1, k2⟩ := keysC_len h1
      refine ⟨fun pins s σ H Q I ⟨ρ, m, st, pv, st', sr, ev, n⟩ => ?_⟩
      simp only [evE] at ev
      split at ev
      · rename_i xs st1 e1
        split at ev
        · rename_i hc
          obtain ⟨c1, c2, c3, c4, c5⟩ := hc
          cases ev
          have vl := evA_len h2 e1
          have hn := I.hok.fresh (Nat.le_refl s.heap.objs.size)
          have I1 := I.laid (a := s.heap.objs.size) (o := .dK []) (h' := s.heap.push { cls := .type "dict", data := .dict #[] }) (t' := s.toks) (fun _ _ q => Heap.get?_push_of_some _ q) (Nat.le_refl _) (dk_empty s.heap I.big)
          generalize hd : s.heap.objs.size = d at hn I1
          have X1 : HX X.K m H (m ++ [d]) (upd H d (.dK [])) := HX.new hn
          have hr1 : HR (wo X p.tb p.D) (m ++ [d]) (upd H d (.dK [])) (st ++ [.dic []]) := sr.hr.new hn ⟨[], upd_same, rfl⟩ trivial
          have gd : (m ++ [d])[st.length]? = some d := by rw [← sr.hr.len, List.getElem?_append_right (Nat.le_refl _), Nat.sub_self]; rfl
          refine wpAny_Dict_walk (knd := mixKind X.prog X.w) k2 (by rw [← k1, c1, vl]) (fun z => by rw [z, List.length_nil] at k1; omega) (by omega) ?_
          rw [← hd] at I1 X1 hr1 gd
          refine thn (ha c X ks keys vals pos o h1 h2 pins _ σ _ (fun ps H2 => ∃ vs m2, ps = (ks.map V.str).zip vs ∧ HX X.K (m ++ [s.heap.objs.size]) (upd H s.heap.objs.size (.dK [])) m2 H2 ∧ HR (wo X p.tb p.D) m2 H2 st1 ∧ RVs X.K m2 H2 xs vs) I1
            ⟨ρ, _, _, xs, st1, sr.mono X1 hr1, e1, c1, fun vs m2 H2 hx2 hr2 rv2 => ⟨vs, m2, rfl, hx2, hr2, rv2⟩⟩) fun ws s2 ⟨ps, H2, I2, rel, vs, m2, ep, hx2, hr2, rv2⟩ => ?_
          subst ep
          have gd2 := hx2.get gd
          obtain ⟨vs0, hp2, rk0⟩ := hr2.get c5 gd2
          cases (show vs0 = [] from rk0)
          have ek : (ks.map V.str).zip vs = (((ks.map Sum.inr).zip vs : List (Key × V)).map fun kv => (kV kv.1, kv.2)) := by
            have : ∀ (ks : List Str) (vs : List V), (ks.map V.str).zip vs = (((ks.map Sum.inr).zip vs : List (Key × V)).map fun kv => (kV kv.1, kv.2)) := by
              intro ks
              induction ks with
              | nil => intro vs; rfl
              | cons k ks ih => intro vs; cases vs with
                | nil => rfl
                | cons v vs => rw [List.map_cons, List.zip_cons_cons, List.map_cons, List.zip_cons_cons, List.map_cons, ih]; rfl
            exact this ks vs
          rw [ek] at rel
          obtain ⟨rs, cr, rk⟩ := carries_of (P := X.prog) (w := X.w) rel
          obtain ⟨z, hd', vs0, r0, dd⟩ := dk_of I2.hok hp2
          cases r0
          have ndk : (((ks.map Sum.inr).zip vs : List (Key × V)).map (·.1)).Nodup := by
            have e : ((ks.map Sum.inr).zip vs : List (Key × V)).map (·.1) = ks.map Sum.inr := List.map_fst_zip (by rw [List.length_map, rv2.length]; omega)
            rw [e]
            exact List.pairwise_map.mpr (List.Pairwise.imp (fun h e => h (Sum.inr.inj e)) c4)
          have em := mergeK_nodup ((ks.map Sum.inr).zip vs) [] ndk fun q _ z => by cases z
          rw [List.nil_append] at em
          refine ⟨rs, cr, dd, fun h' dd' hs => ⟨.ref s.heap.objs.size, upd H2 s.heap.objs.size (.dK ((ks.map Sum.inr).zip vs)), ?_, rfl, ?_⟩⟩
          · have hz : (mergeK [] ((ks.map Sum.inr).zip vs)).length ≤ sizeLine := by
              rw [em, List.length_zip, sizeLine_eq, List.length_map]; omega
            have he : ∃ q, h'.get? s.heap.objs.size = some q := let ⟨q, _, _, hq, _⟩ := dd'; ⟨q, hq⟩
            have w1 := d_write (t' := s2.toks + ws.length) I2 (by rw [hp2]; exact True.intro) hs he (dk_new hz hd' (rk.merge .nil) dd')
            rw [em] at w1
            exact w1
          · have sf : Soft (H2 s.heap.objs.size) := by rw [hp2]; trivial
            have X2 : HX X.K m2 H2 m2 (upd H2 s.heap.objs.size (.dK ((ks.map Sum.inr).zip vs))) := HX.wr gd2 sf
            exact n _ m2 _ ((X1.trans hx2).trans X2) (hr2.set c5 gd2 trivial trivial sf ⟨_, upd_same, (RKs.zip ks rv2).mono X2⟩) ⟨_, rfl, gd2⟩
        · cases ev
      · cases ev
    · cases h

/-! ### targets -/
theorem s_tn (i : Nat) : SG p k (.tn i) := by
  intro c X e o h
  unfold chkG at h
  split at h
  · rw [Bool.and_eq_true, decide_eq_true_eq] at h
    obtain ⟨h1, h2⟩ := h
    obtain ⟨q1, q2⟩ := locC_of o.sc o.fn h2
    refine PG_imp (pg_name (by rw [o.N]; exact o.nd) (by rw [o.N]; exact h1) q1 q2) fun v σ H Q ⟨ρ, m, st, x, ρ', st', sr, rv, ev, n⟩ => ?_
    simp only [evG] at ev
    cases ev
    exact n _ m H HX.refl (sr.put i rv) fun vs hv => wipe_set (hv i (by simp [slG]))
  · cases h
theorem s_gan : SGs p k .an := by
  intro c X es o h
  unfold chkGs at h
  split at h
  · refine PGs_imp pgs_nil fun us σ H Q ⟨ρ, m, st, xs, ρ', st', sr, rv, ev, n⟩ => ?_
    cases xs with
    | nil =>
      simp only [evGs] at ev
      cases ev
      exact ⟨rv, n _ m H HX.refl sr fun vs hv => rfl⟩
    | cons x xs => simp only [evGs] at ev; cases ev
  · cases h
theorem s_gac {t r : IR} (ht : SG p k t) (hr : SGs p k r) : SGs p k (.ac t r) := by
  intro c X es o h
  unfold chkGs at h
  split at h
  · simp only [Bool.and_eq_true] at h
    obtain ⟨⟨h1, h2⟩, h3⟩ := h
    refine PGs_imp (pgs_cons (ht c X _ o h2) (hr c X _ o h3) (by rw [asg_cons h1]; rfl)) fun us σ H Q ⟨ρ, m, st, xs, ρ', st', sr, rv, ev, n⟩ => ?_
    cases xs with
    | nil => simp only [evGs] at ev; cases ev
    | cons x xs =>
      simp only [evGs] at ev
      split at ev
      · rename_i ρ1 st1 e1
        obtain ⟨v, r', eu, r1, r2⟩ := rv
        refine ⟨v, r', eu, ρ, m, st, x, ρ1, st1, sr, r1, e1, fun σ1 m1 H1 hx1 sr1 w1 => ⟨ρ1, m1, st1, xs, ρ', st', sr1, r2.mono hx1, ev, fun σ2 m2 H2 hx2 sr2 w2 => ?_⟩⟩
        refine n σ2 m2 H2 (hx1.trans hx2) sr2 fun vs hv => ?_
        have hv' : ∀ i ∈ slG t ++ slG r, i ∈ vs := hv
        rw [w2 vs fun i hi => hv' i (List.mem_append_right _ hi), w1 vs fun i hi => hv' i (List.mem_append_left _ hi)]
      · cases ev
  · cases h
theorem evGs_len {C : Fn} {c : Ck} : ∀ {ir : IR} {es : List Expr} {ρ ρ' : Env} {st st' : Store} {xs : List PV}, chkGs c ir es = true → evGs C ir xs ρ st = some (ρ', st') → xs.length = es.length := by
  intro ir
  induction ir with
  | an =>
    intro es ρ ρ' st st' xs h ev
    unfold chkGs at h
    split at h
    · cases xs with
      | nil => rfl
      | cons x xs => simp only [evGs] at ev; cases ev
    · cases h
  | ac a r _ ih =>
    intro es ρ ρ' st st' xs h ev
    unfold chkGs at h
    split at h
    · simp only [Bool.and_eq_true] at h
      cases xs with
      | nil => simp only [evGs] at ev; cases ev
      | cons x xs =>
        simp only [evGs] at ev
        split at ev
        · rw [List.length_cons, List.length_cons, ih h.2 ev]
        · cases ev
    · cases h
  | _ => intro es ρ ρ' st st' xs h; exact Bool.noConfusion h
theorem chkGs_nst {c : Ck} : ∀ {ir : IR} {es : List Expr}, chkGs c ir es = true → ∀ e ∈ es, nst e = true := by
  intro ir
  induction ir with
  | an =>
    intro es h e he
    unfold chkGs at h
    split at h
    · cases he
    · cases h
  | ac a r _ ih =>
    intro es h e he
    unfold chkGs at h
    split at h
    · simp only [Bool.and_eq_true] at h
      rcases List.mem_cons.mp he with rfl | he
      · exact h.1.1
      · exact ih h.2 e he
    · cases h
  | _ => intro es h; exact Bool.noConfusion h
theorem asg_len {env : PySem.Env} : ∀ {es : List Expr}, (∀ e ∈ es, nst e = true) → (assignEach es env).length = es.length ∧ (assignEach es env).findIdx? (·.1) = none
  | [], _ => ⟨rfl, rfl⟩
  | e :: es, h => by
    obtain ⟨h1, h2⟩ := asg_len (env := env) (es := es) fun e he => h e (List.mem_cons_of_mem _ he)
    rw [asg_cons (h e (List.mem_cons_self ..))]
    refine ⟨by rw [List.length_cons, List.length_cons, h1], ?_⟩
    rw [List.findIdx?_cons]
    simp [h2]
theorem s_tt {a : IR} (ha : SGs p k a) : SG p k (.tt a) := by
  intro c X e o h
  unfold chkG at h
  split at h
  · rename_i es kk pos
    have ns := chkGs_nst h
    obtain ⟨l1, l2⟩ := asg_len (env := X.env) ns
    refine PG_imp (pg_tup o.calm (ha c X es o h) l1 l2) fun v σ H Q ⟨ρ, m, st, x, ρ', st', sr, rv, ev, n⟩ => ?_
    cases x with
    | tup xs =>
      simp only [evG] at ev
      obtain ⟨q, vs, ev1, s1, r1⟩ := rv
      exact ⟨q, vs, ev1, s1, by rw [r1.length, evGs_len h ev], ρ, m, st, xs, ρ', st', sr, r1, ev, n⟩
    | _ => simp only [evG] at ev; cases ev
  · cases h
theorem RKs.map {K : PySem.W.Frag} {m : List Addr} {H : Hp} {q : Key} {x : PV} {v : V} (rx : RV K m H x v) : ∀ {kvs : List (Key × PV)} {ks : List (Key × V)}, RKs K m H kvs ks → RKs K m H (kvs.map fun kv => if kv.1 = q then (kv.1, x) else kv) (ks.map fun kv => if kv.1 = q then (kv.1, v) else kv)
  | [], _, h => by rw [show _ = [] from h]; rfl
  | y :: r, _, h => by
    obtain ⟨u, t, e, h1, h2⟩ := h
    rw [e, List.map_cons, List.map_cons]
    by_cases hq : y.1 = q
    · rw [if_pos hq, if_pos hq]
      exact ⟨v, _, rfl, rx, RKs.map rx h2⟩
    · rw [if_neg hq, if_neg hq]
      exact ⟨u, _, rfl, h1, RKs.map rx h2⟩
theorem RKs.app {K : PySem.W.Frag} {m : List Addr} {H : Hp} {q : Key} {x : PV} {v : V} (rx : RV K m H x v) : ∀ {kvs : List (Key × PV)} {ks : List (Key × V)}, RKs K m H kvs ks → RKs K m H (kvs ++ [(q, x)]) (ks ++ [(q, v)])
  | [], _, h => by rw [show _ = [] from h]; exact ⟨v, [], rfl, rx, rfl⟩
  | y :: r, _, h => by
    obtain ⟨u, t, e, h1, h2⟩ := h
    rw [e]
    exact ⟨u, _, rfl, h1, RKs.app rx h2⟩
theorem RKs.put {K : PySem.W.Frag} {m : List Addr} {H : Hp} {q : Key} {x : PV} {v : V} (rx : RV K m H x v) {kvs : List (Key × PV)} {ks : List (Key × V)} (h : RKs K m H kvs ks) : RKs K m H (putP kvs q x) (putK ks q v) := by
  unfold putP putK
  rw [h.any]
  by_cases e : (kvs.any fun kv => decide (kv.1 = q)) = true
  · rw [if_pos e, if_pos e]; exact h.map rx
  · rw [if_neg e, if_neg e]; exact h.app rx
theorem RKs.len {K : PySem.W.Frag} {m : List Addr} {H : Hp} : ∀ {kvs : List (Key × PV)} {ks : List (Key × V)}, RKs K m H kvs ks → ks.length = kvs.length
  | [], _, h => by rw [show _ = [] from h]; rfl
  | y :: r, _, h => by
    obtain ⟨u, t, e, h1, h2⟩ := h
    rw [e, List.length_cons, List.length_cons, RKs.len h2]
theorem RVs.set {K : PySem.W.Frag} {m : List Addr} {H : Hp} {x : PV} {v : V} (rx : RV K m H x v) : ∀ {xs : List PV} {vs : List V} (i : Nat), RVs K m H xs vs → RVs K m H (xs.set i x) (vs.set i v)
  | [], _, _, h => by rw [show _ = [] from h]; rfl
  | y :: r, _, 0, h => by
    obtain ⟨u, t, e, h1, h2⟩ := h
    rw [e]
    exact ⟨v, t, rfl, rx, h2⟩
  | y :: r, _, i + 1, h => by
    obtain ⟨u, t, e, h1, h2⟩ := h
    rw [e]
    exact ⟨u, _, rfl, h1, RVs.set rx i h2⟩
def rStM (X : Cx) (p : Pr) : TSet := fun o i v H Q => ∃ m st a b x st', HR (wo X p.tb p.D) m H st ∧ RV X.K m H a o ∧ RV X.K m H b i ∧ RV X.K m H x v ∧ stP a b x st = some st' ∧ ∀ m' H', HX X.K m H m' H' → HR (wo X p.tb p.D) m' H' st' → Q H'
theorem set_M {X : Cx} (hu : X.A.units + 1 < cLine) : PSet X (rStM X p) := by
  intro pins s σ H o i v ov iv u Q I ro ri rv ⟨m, st, a, b, x, st', hr, ra, rb, rx, e, n⟩
  unfold stP at e
  split at e
  · rename_i l
    split at e
    · rename_i kvs el
      split at e
      · rename_i kk ek
        split at e
        · rename_i hl
          cases e
          obtain ⟨q, vs, e1, g, s1, r1⟩ := hr.dic el ra
          subst e1
          have ei := key_of rb ek
          subst ei
          have sf : Soft (H q) := by rw [s1]; trivial
          have X1 : HX X.K m H m (upd H q (.dK (putK vs kk v))) := HX.wr g sf
          exact set_dict hu pins s σ H _ _ _ ov iv u Q I ro ri rv ⟨q, _, rfl, DPut.k s1 (by rw [r1.len]; exact lt_line hl), n m _ X1 (hr.set el g trivial trivial sf ⟨_, upd_same, (r1.put rx).mono X1⟩)⟩
        · cases e
      · cases e
    · rename_i xs el
      split at e
      · rename_i j
        split at e
        · rename_i jj ej
          cases e
          obtain ⟨q, vs, e1, g, s1, r1⟩ := hr.lst el ra
          subst e1
          have sf : Soft (H q) := by rw [s1]; trivial
          have X1 : HX X.K m H m (upd H q (.lst (vs.set jj v))) := HX.wr g sf
          exact set_list pins s σ H _ _ _ ov iv u Q I ro ri rv ⟨q, vs, j, jj, rfl, rb, s1, by rw [r1.length]; exact ej, n m _ X1 (hr.set el g trivial trivial sf ⟨_, upd_same, (RVs.set rx jj r1).mono X1⟩)⟩
        · cases e
      · cases e
    · cases e
  · cases e
theorem noSl_assign {env : PySem.Env} {o i : Expr} {pos : Pos} (h : noSl i = true) : ∀ v, assign (.Subscript o i pos) env v = (do
      let ov ← holding [v] (eval o env)
      let iv ← holding [v, ov] (eval i env)
      standAt pos
      holding [v, ov, iv] (setItem ov iv v)
      release [v, ov, iv] []) := by
  intro v
  cases i with
  | Slice l u st q => cases st <;> first | rfl | cases h
  | _ => rfl
theorem s_ts {a b : IR} (ha : SE p k a) (hb : SE p k b) : SG p k (.ts a b) := by
  intro c X e o h
  unfold chkG at h
  split at h
  · simp only [Bool.and_eq_true] at h
    obtain ⟨⟨h1, h2⟩, h3⟩ := h
    refine PG_imp (pg_sub (ha c X _ o h1).1 (hb c X _ o h2).1 (set_M (p := p) (by have := o.room.units; omega)) (noSl_assign h3)) fun v σ H Q ⟨ρ, m, st, x, ρ', st', sr, rv, ev, n⟩ => ?_
    simp only [evG] at ev
    split at ev
    · rename_i y st1 e1
      split at ev
      · rename_i z st2 e2
        split at ev
        · rename_i st3 e3
          cases ev
          refine ⟨ρ, m, st, y, st1, sr, e1, fun v1 m1 H1 hx1 hr1 r1 => ⟨ρ, m1, st1, z, st2, sr.mono hx1 hr1, e2, fun v2 m2 H2 hx2 hr2 r2 => ⟨m2, st2, y, z, x, _, hr2, r1.mono hx2, r2, rv.mono (hx1.trans hx2), e3, fun m3 H3 hx3 hr3 => ?_⟩⟩⟩
          exact n σ m3 H3 ((hx1.trans hx2).trans hx3) (sr.mono ((hx1.trans hx2).trans hx3) hr3) fun _ _ => rfl
        · cases ev
      · cases ev
    · cases ev
  · cases h

/-! ### what is walked -/
theorem s_it {a : IR} (ha : SE p k a) : SI p k (.it a) := by
  intro c X tg e o h
  have pe := (ha c X e o h).1
  refine ⟨fun pins s σ H R I ⟨ρ, m, st, items, src, st', sr, ev, n⟩ => ?_⟩
  simp only [evI] at ev
  split at ev
  · rename_i xs st1 e1
    cases ev
    exact (pi_tup pe).run pins s σ H R I ⟨ρ, m, st, _, _, sr, e1, fun v m1 H1 hx hr ⟨q, vs, ev1, s1, r1⟩ => ⟨q, ev1, ⟨vs, s1⟩, n _ m1 H1 hx hr (itM_tup s1 r1)⟩⟩
  · rename_i xs st1 e1
    cases ev
    exact (pi_list pe).run pins s σ H R I ⟨ρ, m, st, _, _, sr, e1, fun v m1 H1 hx hr ⟨q, vs, ev1, s1, r1⟩ => ⟨q, ev1, ⟨vs, s1.l⟩, n _ m1 H1 hx hr (itM_frl s1 r1)⟩⟩
  · rename_i x st1 e1
    cases ev
    exact (pi_str pe).run pins s σ H R I ⟨ρ, m, st, _, _, sr, e1, fun v m1 H1 hx hr rv => ⟨x, rv, n _ m1 H1 hx hr itM_str⟩⟩
  · rename_i l st1 e1
    split at ev
    · rename_i el
      cases ev
      exact (pi_list pe).run pins s σ H R I ⟨ρ, m, st, _, _, sr, e1, fun v m1 H1 hx hr rv => by
        obtain ⟨q, vs, ev1, s1, r1⟩ := hr.seq el rv
        obtain ⟨q', ev2, g⟩ := rv
        rw [ev1] at ev2
        cases ev2
        exact ⟨q, ev1, ⟨vs, s1⟩, n _ m1 H1 hx hr (itM_list g)⟩⟩
    · cases ev
  · cases ev
theorem s_rg1 {a : IR} (ha : SE p k a) : SI p k (.rg1 a) := by
  intro c X tg e o h
  unfold chkI at h
  split at h
  · simp only [Bool.and_eq_true, decide_eq_true_eq] at h
    obtain ⟨⟨⟨h1, h2⟩, h3⟩, h4⟩ := h
    subst h1
    refine PI_imp (pi_range1 (glC_of o.sc h2) (o.bl _ (by decide)) (pa_cons (ha c X _ o h4).1 pa_nil (star_cons h3)) (star_cons h3)) fun σ H R ⟨ρ, m, st, items, src, st', sr, ev, n⟩ => ?_
    simp only [evI] at ev
    split at ev
    · rename_i i st1 e1
      split at ev
      · rename_i hb
        cases ev
        refine ⟨ρ, m, st, _, _, sr, e1, fun v m1 H1 hx hr rv => ⟨i, by rw [show v = _ from rv], by omega, by omega, n _ m1 H1 hx hr ?_⟩⟩
        have q := itM_rng (W := wo X p.tb p.D) (m := m1) (H := H1) (lo := 0) (n := i.toNat)
        simp only [Int.zero_add] at q
        exact q
      · cases ev
    · cases ev
  · cases h
theorem s_rg2 {a b : IR} (ha : SE p k a) (hb : SE p k b) : SI p k (.rg2 a b) := by
  intro c X tg e o h
  unfold chkI at h
  split at h
  · simp only [Bool.and_eq_true, decide_eq_true_eq] at h
    obtain ⟨⟨⟨⟨⟨h1, h2⟩, h3⟩, h4⟩, h5⟩, h6⟩ := h
    subst h1
    have s2 := star_cons (env := X.env) (es := []) h4
    refine PI_imp (pi_range2 (glC_of o.sc h2) (o.bl _ (by decide)) (pa_cons (ha c X _ o h5).1 (pa_cons (hb c X _ o h6).1 pa_nil s2) (star_cons h3)) (by rw [star_cons h3, s2]; rfl) s2) fun σ H R ⟨ρ, m, st, items, src, st', sr, ev, n⟩ => ?_
    simp only [evI] at ev
    split at ev
    · rename_i i st1 e1
      split at ev
      · rename_i j st2 e2
        split at ev
        · rename_i hbd
          cases ev
          refine ⟨ρ, m, st, _, _, sr, e1, fun v m1 H1 hx hr rv => ⟨ρ, m1, st1, _, _, sr.mono hx hr, e2, fun u m2 H2 hx2 hr2 ru => ⟨i, j, by rw [show v = _ from rv, show u = _ from ru], by omega, n _ m2 H2 (hx.trans hx2) hr2 itM_rng⟩⟩⟩
        · cases ev
      · cases ev
    · cases ev
  · cases h
theorem s_en {a : IR} (ha : SE p k a) : SI p k (.en a) := by
  intro c X tg e o h
  unfold chkI at h
  split at h
  · simp only [Bool.and_eq_true, decide_eq_true_eq] at h
    obtain ⟨⟨⟨h1, h2⟩, h3⟩, h4⟩ := h
    subst h1
    refine PI_imp (pi_enumT (glC_of o.sc h2) (o.bl _ (by decide)) (pa_cons (ha c X _ o h4).1 pa_nil (star_cons h3)) (star_cons h3)) fun σ H R ⟨ρ, m, st, items, src, st', sr, ev, n⟩ => ?_
    simp only [evI] at ev
    split at ev
    · rename_i xs st1 e1
      cases ev
      refine ⟨ρ, m, st, _, _, sr, e1, fun v m1 H1 hx hr ⟨q, vs, ev1, s1, r1⟩ => ⟨q, vs, by rw [ev1], s1, n _ m1 H1 hx hr (itM_enum s1 r1)⟩⟩
    · cases ev
  · cases h
theorem s_zp {a b : IR} (ha : SE p k a) (hb : SE p k b) : SI p k (.zp a b) := by
  intro c X tg e o h
  unfold chkI at h
  split at h
  · simp only [Bool.and_eq_true, decide_eq_true_eq] at h
    obtain ⟨⟨⟨⟨⟨h1, h2⟩, h3⟩, h4⟩, h5⟩, h6⟩ := h
    subst h1
    have s2 := star_cons (env := X.env) (es := []) h4
    refine PI_imp (RZ.pi_zipA (glC_of o.sc h2) (o.bl _ (by decide)) (pa_cons (ha c X _ o h5).1 (pa_cons (hb c X _ o h6).1 pa_nil s2) (star_cons h3)) (star_cons h3) (nostars fun z hz => by rw [List.mem_singleton.mp hz]; exact h4)) fun σ H R ⟨ρ, m, st, items, src, st', sr, ev, n⟩ => ?_
    simp only [evI] at ev
    split at ev
    · rename_i xs st1 e1
      split at ev
      · rename_i ys st2 e2
        cases ev
        refine ⟨ρ, m, st, _, _, sr, e1, fun v m1 H1 hx hr ⟨q, vs, ev1, s1, r1⟩ => ⟨ρ, m1, st1, _, _, sr.mono hx hr, e2, fun u m2 H2 hx2 hr2 ⟨q2, us, ev2, s2, r2⟩ => ⟨q, q2, vs, us, by rw [ev1, ev2], .inr ⟨hx2.sq _ _ s1, s2, n _ m2 H2 (hx.trans hx2) hr2 (itM_zip (hx2.sq _ _ s1) (r1.mono hx2) s2 r2)⟩⟩⟩⟩
      · cases ev
    · cases ev
  · cases h
end Mi

namespace Mi
open PySem PySem.Spec PyProof.Rows L2
variable {p : Pr} {k : Nat}
theorem PTs_imp {X : Cx} {e : List Expr} {t t' : TT} (h : PTs X e t) (i : ∀ σ H Q, t' σ H Q → t σ H Q) : PTs X e t' := ⟨fun pins s σ H Q I q => h.run pins s σ H Q I (i _ _ _ q)⟩
theorem s_tan : STs p k .an := by
  intro c X es o h
  unfold chkT at h
  split at h
  · refine PTs_imp pts_nil fun σ H Q ⟨ρ, m, st, b, st', sr, ev, n⟩ => ?_
    simp only [evT] at ev
    cases ev
    exact n m H HX.refl sr.hr
  · cases h
theorem s_tac {a r : IR} (ha : SE p k a) : STs p k (.ac a r) := by
  intro c X es o h
  unfold chkT at h
  split at h
  · rw [Bool.and_eq_true] at h
    refine PTs_imp (pts_one (ha c X _ o h.1).2) fun σ H Q ⟨ρ, m, st, b, st', sr, ev, n⟩ => ?_
    simp only [evT] at ev
    exact ⟨ρ, m, st, b, st', sr, by unfold evQ; exact ev, n⟩
  · cases h
theorem wipe_wipe {σ : L2.St} : ∀ {vs : List Nat}, wipe (wipe σ vs) vs = wipe σ vs := by
  intro vs
  apply List.ext_getElem?
  intro i
  have key : ∀ {σ : L2.St} {vs : List Nat} {i : Nat}, i ∈ vs → (wipe σ vs)[i]? = if i < σ.length then some none else none := by
    intro σ vs
    induction vs with
    | nil => intro i h; cases h
    | cons v vs ih =>
      intro i h
      unfold wipe
      by_cases hi : v = i
      · subst hi
        by_cases hl : v < σ.length
        · rw [List.getElem?_set_self (by rw [wipe_length]; exact hl), if_pos hl]
        · rw [List.getElem?_eq_none (by rw [List.length_set, wipe_length]; omega), if_neg hl]
      · rw [List.getElem?_set_ne hi]
        exact ih ((List.mem_cons.mp h).resolve_left fun e => hi e.symm)
  by_cases h : i ∈ vs
  · rw [key h, key h, wipe_length]
  · rw [wipe_out h]
theorem okx_blk {c : Ck} {X : Cx} (o : Okx p k c X) (scope : Scope) (s : Shared) (H : Hp) (C : Addr) (cl : List (Str × Addr)) (fp : List Addr) : Okx p k (c.blk scope) (X.blk s H scope (compEnvC scope cl C X.env) fp) :=
  ⟨o.N, o.nd, by show relS scope X.env.scope = relS scope c.sc; rw [o.sc], rfl, o.calm, o.room, o.gn, o.bm, o.cs, o.bl, o.fns⟩
/-- a thing beside the places is written -/
theorem HX.over {K : PySem.W.Frag} {m m1 : List Addr} {H H1 : Hp} {q : Addr} {o : HO} (x : HX K m H m1 H1) (hn : H q = none) (sf : Soft (H1 q)) : HX K m H m1 (upd H1 q o) :=
  ⟨x.toHM.trans (HM.upd ⟨[], by simp⟩ sf), fun a xs z h n => by rw [upd_ne (ne_of_none h hn)]; exact x.fr a xs z h n, x.nw, fun a h => ex_upd a (x.ex a h)⟩
theorem HR.beside {W : Wd} {m : List Addr} {H : Hp} {st : Store} (h : HR W m H st) {q : Addr} {u : HO} (sf : Soft (H q)) (hn : q ∉ m) : HR W m (upd H q u) st := by
  refine ⟨h.len, h.uniq, fun l o e => ?_, fun P hP => (HM.upd (K := W.K) (m := m) (m' := m) ⟨[], by simp⟩ sf).td _ _ (h.tab P hP)⟩
  obtain ⟨a, g, r⟩ := h.at_ l o e
  exact ⟨a, g, r.upd ⟨[], by simp⟩ sf fun _ z => hn (z ▸ List.mem_of_getElem? g)⟩
theorem lc_core' {X : Cx} {e t i f : IR} {own : List (Str × Nat)} {σ : L2.St} {H : Hp} {Q : VK} (h : tE X p (.lc e t i f own) σ H Q) (hs : (slG t).all (fun i => decide (i ∈ own.map (·.2))) = true) :
    tLc (tI X p i) (tG X p t) (tTs X p f) (tE X p e) (own.map (·.2)) σ H Q := by
  obtain ⟨ρ, m0, st0, pv, st', sr, ev, n⟩ := h
  have hsl : ∀ j ∈ slG t, j ∈ own.map (·.2) := fun j hj => of_decide_eq_true (List.all_eq_true.mp hs j hj)
  simp only [evE] at ev
  split at ev
  · rename_i items src st1 e1
    split at ev
    · rename_i ys st2 e2
      cases ev
      refine ⟨ρ, m0, st0, items, src, st1, sr, e1, fun J m1 H1 hx1 hr1 it D hD => ?_⟩
      have sD : HX X.K m1 H1 m1 (upd H1 D (.lst [])) := HX.side hD
      have nD : D ∉ m1 := fun hm => hr1.in_ hm hD
      refine ⟨fun i mm H => mm = items.length - i ∧ i ≤ items.length ∧ ∃ m st acc accP, HX X.K m1 H1 m H ∧ HR (wo X p.tb p.D) m H st ∧ D ∉ m ∧ H D = some (.lst acc) ∧ RVs X.K m H accP acc ∧
        loopC (stands src items) (evG p.C t) (fun ρ st => evT p.C f ρ st) (fun ρ st => evE p.C e ρ st) (wipeP ρ (own.map (·.2))) (items.drop i) accP st = some (ys, st2), ⟨items.length, by simp, Nat.zero_le _, m1, st1, [], [], sD, hr1.side hD, nD, upd_same, rfl, e2⟩, ?_⟩
      rintro i mm H' ⟨em, hi, m, st, acc, accP, hx, hr, hn, hDl, rv, lp⟩
      have keep : ∀ {m2 : List Addr} {H2 : Hp}, HX X.K m H' m2 H2 → D ∉ m2 := fun {m2 H2} x hm => by
        have := x.nw D hm hn
        rw [hDl] at this
        cases this
      by_cases hlt : i < items.length
      · have ed : items.drop i = items[i] :: items.drop (i + 1) := List.drop_eq_getElem_cons hlt
        rw [ed] at lp
        simp only [loopC] at lp
        split at lp
        · rename_i hck
          rw [Bool.and_eq_true, decide_eq_true_eq] at hck
          obtain ⟨it1, _⟩ := it m H' st hx.toHM hr hck.1
          obtain ⟨go, yl⟩ := it1 i items[i] (List.getElem?_eq_getElem hlt)
          refine .inr ⟨go, fun H4 => ∃ m st acc accP, HX X.K m1 H1 m H4 ∧ HR (wo X p.tb p.D) m H4 st ∧ D ∉ m ∧ H4 D = some (.lst acc) ∧ RVs X.K m H4 accP acc ∧
            loopC (stands src items) (evG p.C t) (fun ρ st => evT p.C f ρ st) (fun ρ st => evE p.C e ρ st) (wipeP ρ (own.map (·.2))) (items.drop (i + 1)) accP st = some (ys, st2), fun H4 z => ⟨items.length - (i + 1), by omega, rfl, hlt, z⟩, fun v Hy y => ?_⟩
          obtain ⟨hxy, hry, rvy⟩ := yl v Hy y
          split at lp
          · cases lp
          · rename_i ρ1 sta eg
            have srw := ((sr.mono ((hx1.trans hx).trans hxy) hry).wiped (own.map (·.2)))
            refine ⟨wipeP ρ (own.map (·.2)), m, st, items[i], ρ1, sta, srw, rvy, eg, fun σ2 m2 H2 hx2 sr2 hw => ⟨by rw [hw _ hsl, wipe_wipe], ?_⟩⟩
            split at lp
            · cases lp
            · rename_i stb et
              refine ⟨ρ1, m2, sta, false, stb, sr2, et, fun m3 H3 hx3 hr3 => ?_⟩
              show (if false = true then _ else _)
              rw [if_neg (by decide)]
              have xx := (hxy.trans hx2).trans hx3
              exact ⟨m3, stb, acc, accP, hx.trans xx, hr3, keep xx, xx.fr D (.lst acc) trivial hDl hn, rv.mono xx, lp⟩
            · rename_i stb et
              refine ⟨ρ1, m2, sta, true, stb, sr2, et, fun m3 H3 hx3 hr3 => ?_⟩
              show (if true = true then _ else _)
              rw [if_pos rfl]
              split at lp
              · cases lp
              · rename_i z stc ee
                refine ⟨ρ1, m3, stb, z, stc, sr2.mono hx3 hr3, ee, fun u m4 H4 hx4 hr4 rv4 => ?_⟩
                have xx := ((hxy.trans hx2).trans hx3).trans hx4
                have hD4 := xx.fr D (.lst acc) trivial hDl hn
                have nD4 := keep xx
                have r4 := rv.mono xx
                refine ⟨acc, hD4, by rw [rv.length]; exact lt_line hck.2, ?_⟩
                have sf : Soft (H4 D) := by rw [hD4]; trivial
                -- the list beside the places is written
                have XW : HM X.K m4 H4 m4 (upd H4 D (.lst (acc ++ [u]))) := HM.upd ⟨[], by simp⟩ sf
                have XD : HX X.K m1 H1 m4 (upd H4 D (.lst (acc ++ [u]))) := (hx.trans xx).over hD sf
                exact ⟨m4, stc, acc ++ [u], accP ++ [z], XD, hr4.beside sf nD4, nD4, upd_same, (r4.append (RVs.one rv4)).mono0 XW, lp⟩
        · cases lp
      · have ei : i = items.length := by omega
        subst ei
        rw [List.drop_length] at lp
        simp only [loopC] at lp
        split at lp
        · rename_i hck
          cases lp
          obtain ⟨_, stop⟩ := it m H' _ hx.toHM hr hck
          refine .inl ⟨stop, ?_⟩
          have xx := hx1.trans hx
          have hD0 : H D = none := by
            by_cases hz : H D = none
            · exact hz
            · exact absurd hD (hx1.ex D hz)
          refine n _ (m ++ [D]) H' (xx.adopt hD0) (hr.adopt hDl hn rv) ⟨D, rfl, ?_⟩
          rw [← hr.len, List.getElem?_append_right (Nat.le_refl _), Nat.sub_self]; rfl
        · cases lp
    · cases ev
  · cases ev
theorem s_lc {e t i f : IR} {own : List (Str × Nat)} (he : SE p k e) (ht : SG p k t) (hi : SI p k i) (hf : STs p k f) : SE p k (.lc e t i f own) := by
  intro c X ex o h
  have hp : plainT ex = true := by cases ex <;> first | rfl | exact Bool.noConfusion h
  refine ⟨?_, pt_of ?_ hp⟩ <;>
  · unfold chkE at h
    split at h
    · simp only [Bool.and_eq_true] at h
      obtain ⟨⟨⟨⟨⟨⟨h1, h2⟩, h3⟩, h4⟩, h5⟩, h6⟩, h7⟩ := h
      exact PE_imp (pe_lc o.calm (by rw [o.N]; exact o.nd) (hi c X _ _ o h1) (blkOk_by (by rw [o.N, o.sc]; exact h3)) (fun s H C cl fp => ht _ _ _ (okx_blk o _ s H C cl fp) h5) (fun s H C cl fp => hf _ _ _ (okx_blk o _ s H C cl fp) h6)
        (fun s H C cl fp => (he _ _ _ (okx_blk o _ s H C cl fp) h7).1) (noSet_fold h2)) fun σ H Q q => lc_core' q h4
    · cases h
end Mi

namespace Mi
open PySem PySem.Spec PyProof.Rows L2
/-- a code's table has grown by a new code, whose own table is empty -/
def grow (H : Hp) (P : Addr) (qs : Array Value) (c' P' : Addr) : Hp := upd (upd (upd H P (.tbl qs)) P' (.tbl #[])) c' (cdO c' P')
section
variable {X : Cx} {pins : List (Addr × Obj)} {σ : L2.St} {H : Hp} {s : Shared}
theorem inv_grow {P c' P' : Addr} {ps more : Array Value} {h' : Heap} {t' : Nat} (I : Inv X pins σ H s) (hP : H P = some (.tbl ps)) (k : ∀ b o, b ≠ P → s.heap.get? b = some o → h'.get? b = some o)
    (hm : h'.get? P = some { cls := .none, data := .fields (ps ++ more) }) (hc : s.heap.objs.size ≤ c') (hp : s.heap.objs.size ≤ P') (hne : c' ≠ P') (hcd : PySem.W.CodeHd h' c' P') (htb : h'.get? P' = some { cls := .none, data := .fields #[] }) :
    Inv X pins σ (grow H P (ps ++ more) c' P') { s with heap := h', toks := t' } := by
  have lt : ∀ b o, s.heap.get? b = some o → b ≠ c' ∧ b ≠ P' := fun b o e => ⟨Nat.ne_of_lt (Nat.lt_of_lt_of_le (Heap.lt_size e) hc), Nat.ne_of_lt (Nat.lt_of_lt_of_le (Heap.lt_size e) hp)⟩
  have nc : H c' = none := I.hok.fresh hc
  have np : H P' = none := I.hok.fresh hp
  have hPs : s.heap.get? P = some { cls := .none, data := .fields ps } := I.hok P _ hP
  obtain ⟨Pc, PP⟩ := lt P _ hPs
  have at_ : ∀ b, b ≠ P → b ≠ P' → b ≠ c' → grow H P (ps ++ more) c' P' b = H b := fun b h1 h2 h3 => by
    unfold grow
    rw [upd_ne h3, upd_ne h2, upd_ne h1]
  have atP : grow H P (ps ++ more) c' P' P = some (.tbl (ps ++ more)) := by
    unfold grow
    rw [upd_ne Pc, upd_ne PP, upd_same]
  have nP : ∀ b u, H b = some u → (∀ q, u ≠ .tbl q) → b ≠ P := fun b u e q z => by
    rw [z, hP] at e
    exact q ps (Option.some.inj e).symm
  have nN : ∀ b, H b = none → b ≠ P := fun b e z => by
    rw [z, hP] at e
    cases e
  have ne2 : ∀ b u, H b = some u → b ≠ P' ∧ b ≠ c' := fun b u e => ⟨ne_of_none e np, ne_of_none e nc⟩
  refine I.step (g' := s.gens) (d' := s.drawn) (t' := t') (ch := []) (fun b hb => absurd hb (by simp)) (fun b o _ _ _ e n => k b o (nN b n) e) (fun b o _ _ _ e n => ⟨o.slots, k b o (nN b n) e⟩)
    (fun b o _ e n => by rw [at_ b (nN b n) (lt b o e).2 (lt b o e).1]; exact n) (fun b o _ e => ?_) (fun b xs e => by rw [at_ b (nP b _ e (fun q z => by cases z)) (ne2 b _ e).1 (ne2 b _ e).2]; exact e)
    (fun b o u e => by rw [at_ b (nP b _ e (fun q z => by cases z)) (ne2 b _ e).1 (ne2 b _ e).2]; exact e) (fun b qs e => ?_) (fun m hn => ?_) (fun b u e => ?_) I.bare
  · by_cases hb : b = P
    · rw [hb]
      exact ⟨_, hm⟩
    · exact ⟨o, k b o hb e⟩
  · by_cases hb : b = P
    · rw [hb, hP] at e
      cases e
      rw [hb, atP]
      exact ⟨more, rfl⟩
    · rw [at_ b hb (ne2 b _ e).1 (ne2 b _ e).2, e]
      exact ⟨#[], by simp⟩
  · obtain ⟨ob, es, ep, ho, r⟩ := hn
    exact ⟨ob, es, ep, k _ ob (nN _ I.free) ho, r⟩
  · by_cases hbc : b = c'
    · subst hbc
      have e : some (cdO b P') = some u := by unfold grow at e; rw [upd_same] at e; exact e
      cases e
      obtain ⟨o, vs, file, tf, flags, tg, inF, text, tt, ho, hr⟩ := id hcd
      refine ⟨hcd, ⟨o, ho⟩, fun h1 h2 hq kk => ?_⟩
      obtain ⟨o, vs, file, tf, flags, tg, inF, text, tt, ho, hr⟩ := hq
      exact ⟨o, vs, file, tf, flags, tg, inF, text, tt, kk o ho, hr⟩
    · by_cases hbp : b = P'
      · subst hbp
        have e : some (HO.tbl #[]) = some u := by unfold grow at e; rw [upd_ne hbc, upd_same] at e; exact e
        cases e
        exact htb
      · by_cases hb2 : b = P
        · rw [hb2, atP] at e
          cases e
          rw [hb2]
          exact hm
        · rw [at_ b hb2 hbp hbc] at e
          refine (I.hok b u e).stay (fun d v hd q => k d v ?_ q) (fun d q => by rw [at_ d (nP d _ q (fun q z => by cases z)) (ne2 d _ q).1 (ne2 d _ q).2]; exact q) fun d xs q => by rw [at_ d (nP d _ q (fun q z => by cases z)) (ne2 d _ q).1 (ne2 d _ q).2]; exact q
          rcases hd with z | z
          · rw [z]
            exact hb2
          · exact nP d _ z (fun q z => by cases z)
theorem grow_at {P c' P' : Addr} {qs : Array Value} (hc : H c' = none) (hp : H P' = none) : ∀ b u, H b = some u → b ≠ P → grow H P qs c' P' b = some u := fun b u e h => by
  unfold grow
  rw [upd_ne (ne_of_none e hc), upd_ne (ne_of_none e hp), upd_ne h]
  exact e
/-- every table that was known so deep is so still -/
theorem TD.grow {P c' P' : Addr} {ps : Array Value} {pos : Pos} (hP : H P = some (.tbl ps)) (ht : TriplesOk ps.toList) (hc : H c' = none) (hp : H P' = none) (hne : c' ≠ P') (hf : codeAmong pos ps.toList = none) :
    ∀ (n : Nat) (Q : Addr), TD n H Q → TD n (Mi.grow H P (ps ++ #[rawInt pos.line, rawInt pos.col, .ref c']) c' P') Q := by
  have Pc : P ≠ c' := fun z => by rw [z, hc] at hP; cases hP
  have PP : P ≠ P' := fun z => by rw [z, hp] at hP; cases hP
  have el : (ps ++ #[rawInt pos.line, rawInt pos.col, Value.ref c']).toList = ps.toList ++ [rawInt pos.line, rawInt pos.col, .ref c'] := by simp
  have atP : Mi.grow H P (ps ++ #[rawInt pos.line, rawInt pos.col, .ref c']) c' P' P = some (.tbl (ps ++ #[rawInt pos.line, rawInt pos.col, .ref c'])) := by
    unfold Mi.grow; rw [upd_ne Pc, upd_ne PP, upd_same]
  have atc : Mi.grow H P (ps ++ #[rawInt pos.line, rawInt pos.col, .ref c']) c' P' c' = some (cdO c' P') := by unfold Mi.grow; rw [upd_same]
  have atp : Mi.grow H P (ps ++ #[rawInt pos.line, rawInt pos.col, .ref c']) c' P' P' = some (.tbl #[]) := by unfold Mi.grow; rw [upd_ne (Ne.symm hne), upd_same]
  have ok2 : TriplesOk (ps ++ #[rawInt pos.line, rawInt pos.col, Value.ref c']).toList := by rw [el]; exact TriplesOk_snoc _ _ _ _ ht
  have empty : ∀ n, TD n (Mi.grow H P (ps ++ #[rawInt pos.line, rawInt pos.col, .ref c']) c' P') P' := fun n => by
    cases n with
    | zero => exact ⟨#[], atp, trivial⟩
    | succ n => exact ⟨#[], atp, trivial, fun q cv e => by simp [codeAmong] at e⟩
  -- what is found in the longer table was in the shorter one, or is the new code
  have found : ∀ (l : List Value) (q : Pos) (cv : Value), TriplesOk l → codeAmong q (l ++ [rawInt pos.line, rawInt pos.col, .ref c']) = some cv → codeAmong q l = some cv ∨ cv = .ref c' := by
    intro l
    fun_induction TriplesOk l with
    | case1 =>
      intro q cv _ e
      simp only [List.nil_append, codeAmong, rawInt] at e
      split at e
      · cases e; exact .inr rfl
      · cases e
    | case2 a t b u x rest ih =>
      intro q cv hk e
      simp only [List.cons_append, codeAmong] at e ⊢
      split at e
      · rename_i hh
        rw [if_pos hh]
        exact .inl e
      · rename_i hh
        rw [if_neg hh]
        exact ih q cv hk e
    | case3 l h1 h2 => intro q cv hk; exact hk.elim
  intro n
  induction n with
  | zero =>
    intro Q h
    obtain ⟨qs, h1, h2⟩ := h
    by_cases hQ : Q = P
    · subst hQ
      exact ⟨_, atP, ok2⟩
    · exact ⟨qs, grow_at hc hp _ _ h1 hQ, h2⟩
  | succ n ih =>
    intro Q h
    obtain ⟨qs, h1, h2, h3⟩ := h
    have old : ∀ q cv, codeAmong q qs.toList = some cv → ∃ c P'', cv = .ref c ∧ Mi.grow H P (ps ++ #[rawInt pos.line, rawInt pos.col, .ref c']) c' P' c = some (cdO c P'') ∧ TD n (Mi.grow H P (ps ++ #[rawInt pos.line, rawInt pos.col, .ref c']) c' P') P'' := fun q cv e => by
      obtain ⟨c, P'', e1, e2, e3⟩ := h3 q cv e
      exact ⟨c, P'', e1, grow_at hc hp _ _ e2 (fun z => by rw [z, hP] at e2; cases e2), ih _ e3⟩
    by_cases hQ : Q = P
    · subst hQ
      rw [hP] at h1
      cases h1
      refine ⟨_, atP, ok2, fun q cv e => ?_⟩
      rw [el] at e
      rcases found _ q cv ht e with e | e
      · exact old q cv e
      · exact ⟨c', P', e, atc, empty n⟩
    · exact ⟨qs, grow_at hc hp _ _ h1 hQ, h2, old⟩
theorem HX.grow {K : PySem.W.Frag} {m : List Addr} {P c' P' : Addr} {ps : Array Value} {pos : Pos} (hP : H P = some (.tbl ps)) (ht : TriplesOk ps.toList) (hc : H c' = none) (hp : H P' = none) (hne : c' ≠ P') (hf : codeAmong pos ps.toList = none) :
    HX K m H m (Mi.grow H P (ps ++ #[rawInt pos.line, rawInt pos.col, .ref c']) c' P') := by
  have nt : ∀ b u, H b = some u → (∀ q, u ≠ .tbl q) → b ≠ P := fun b u e q z => by
    rw [z, hP] at e
    exact q ps (Option.some.inj e).symm
  refine ⟨⟨⟨[], by simp⟩, fun a vs h => ?_, fun a vs h => ?_, TD.grow hP ht hc hp hne hf, fun c Q e => grow_at hc hp _ _ e (nt _ _ e fun q z => by cases z)⟩, fun a xs f e _ => grow_at hc hp _ _ e (nt _ _ e fun q z => by subst z; exact f), fun a h n => absurd h n, fun a h => ?_⟩
  · rcases h with (h | ⟨o, h⟩) | h
    · exact .inl (.inl (grow_at hc hp _ _ h (nt _ _ h fun q z => by cases z)))
    · exact .inl (.inr ⟨o, grow_at hc hp _ _ h (nt _ _ h fun q z => by cases z)⟩)
    · exact .inr h
  · rcases h with ⟨o, h⟩ | h
    · exact .inl ⟨o, grow_at hc hp _ _ h (nt _ _ h fun q z => by cases z)⟩
    · exact .inr h
  · unfold Mi.grow
    exact ex_upd a (ex_upd a (ex_upd a h))
theorem HR.grow {W : Wd} {m : List Addr} {st : Store} (h : HR W m H st) {P c' P' : Addr} {ps : Array Value} {pos : Pos} (hP : H P = some (.tbl ps)) (ht : TriplesOk ps.toList) (hc : H c' = none) (hp : H P' = none) (hne : c' ≠ P') (hf : codeAmong pos ps.toList = none) :
    HR W m (Mi.grow H P (ps ++ #[rawInt pos.line, rawInt pos.col, .ref c']) c' P') st := by
  have x := HX.grow (K := W.K) (m := m) hP ht hc hp hne hf
  have nt : ∀ b u, H b = some u → (∀ q, u ≠ .tbl q) → b ≠ P := fun b u e q z => by
    rw [z, hP] at e
    exact q ps (Option.some.inj e).symm
  refine ⟨h.len, h.uniq, fun l o e => ?_, fun Q hQ => x.td _ _ (h.tab Q hQ)⟩
  obtain ⟨a, g, r⟩ := h.at_ l o e
  refine ⟨a, g, ?_⟩
  cases o with
  | lst xs => obtain ⟨vs, h1, h2⟩ := r; exact ⟨vs, grow_at hc hp _ _ h1 (nt _ _ h1 fun q z => by cases z), h2.mono x⟩
  | dic xs => obtain ⟨vs, h1, h2⟩ := r; exact ⟨vs, grow_at hc hp _ _ h1 (nt _ _ h1 fun q z => by cases z), h2.mono x⟩
  | set xs =>
    obtain ⟨ks, L, h1, h2, h3, h4⟩ := r
    exact ⟨ks, L, h1, grow_at hc hp _ _ h2 (nt _ _ h2 fun q z => by cases z), fun z hz => x.sq _ _ (h3 z hz), h4⟩
end
end Mi

namespace Mi
open PySem PySem.Spec PyProof.Rows L2
/-- the context of a generator expression's own code -/
abbrev gX (X : Cx) (s : Shared) (H : Hp) (cenv : PySem.Env) (fp : List Addr) (Ag : Around) : Cx := { X with A := Ag, s_0 := s, H_0 := H, env := cenv, outer := X.stack, stack := cenv :: X.stack, ex := fp, fn := fun x => cenv.scope.names.lookup x == some .cell, pn := [], xe := fun _ _ => False }
theorem newEnv_gen {M : Model} {A : Around} {E : Value → Shared → Prop} {s : Shared} {scope : Scope} {globals : Addr} {closure : List (Str × Addr)} {it : Value} {qual : Str} {code : Value} {builtins : Addr} {Q : PySem.Env → Shared → Prop}
    (h0 : scope.names.lookup (".0" : Str) = some NameKind.local) (hk : scope.kind = .function)
    (hQ : ∀ h', h'.Ns s.heap.objs.size (fun y => if y = (".0" : Str) then some it else none) → Heap.SameBut s.heap.objs.size (pushCells (s.heap.push { cls := .type "frame", data := .dict #[] }) scope.names) h' →
      Q (newEnv scope s.heap.objs.size globals (cellsFrom (s.heap.objs.size + 1) scope.names closure) qual none code none builtins) { s with heap := h', toks := s.toks + 1 }) :
    wpAny M A (newFunctionEnv scope globals closure [(".0", it)] qual none code none builtins) Q E s := by
  simp only [newFunctionEnv, Option.isSome_none, Bool.false_eq_true, if_false]
  refine wpAny_bind (wpAny_alloc ?_)
  refine wpAny_bind (wpAny_layCells _ (fun n k c => rfl) scope.names closure _ _ ?_)
  rw [show ({ s with heap := s.heap.push { cls := .type "frame", data := .dict #[] } } : Shared).heap.objs.size = s.heap.objs.size + 1 from Heap.size_push ..]
  rw [List.forIn_cons]
  refine wpAny_bind (wpAny_bind (wpAny_bind (wpAny_storeName_local (m := fun _ => none) h0 ((Heap.Ns.new s.heap (.type "frame")).keeps (pushCells_keeps _ _)) (fun h' hn hs => ?_) ?_)))
  · refine wpAny_pure ?_
    show wpAny M A (forIn [] _ _) _ E _
    rw [List.forIn_nil]
    exact wpAny_pure (wpAny_pure (hQ h' hn hs))
  · show (scope.kind == .class || (scope.kind == .module && _)) = false
    rw [hk]; rfl
theorem genExp_make {M : Model} {A : Around} {E : Value → Shared → Prop} {s : Shared} {env : PySem.Env} {elt target iter : Expr} {ifs : List Expr} {scope : Scope} {cl : List (Str × Addr)} {pos : Pos} {Q : Value → Shared → Prop}
    (hco : scope.isCoroutine = false) (hclos : closureFor scope env = pure cl) (h0 : scope.names.lookup (".0" : Str) = some NameKind.local) (hkind : scope.kind = .function)
    (hroom : A.depth < recursionLimit)
    (h : wpAny M A (eval iter env) (fun xv s₁ => wpAny M A (pyIter xv) (fun it s₂ => s₂.heap.NoLimit ∧
      wpAny M A (genexprCode env pos (env.qual ++ "<genexpr>") scope) (fun code s₃ => wpAny M A (builtinsFor env.globals env.builtins) (fun bi s₄ =>
        ∀ h', h'.Ns s₄.heap.objs.size (fun y => if y = (".0" : Str) then some it else none) → Heap.SameBut s₄.heap.objs.size (pushCells (s₄.heap.push { cls := .type "frame", data := .dict #[] }) scope.names) h' →
          Q (.ref h'.objs.size) { s₄ with
            gens := s₄.gens.push (.fresh (.compStart (.GeneratorExp elt [⟨target, iter, ifs, 0⟩] scope pos) 0 it .none (genEnv scope (cellsFrom (s₄.heap.objs.size + 1) scope.names cl) s₄.heap.objs.size code bi env))),
            toks := s₄.toks + 1 + 1 + 1,
            heap := h'.push { cls := .type "generator", data := .fields #[.int s₄.gens.size 0, .str "<genexpr>" (s₄.toks + 1), .str (env.qual ++ "<genexpr>") (s₄.toks + 1 + 1)] } }) E s₃) E s₂) E s₁) E s)
    (hs : ∀ x, genFold iter env x = pure x) :
    wpAny M A (eval (.GeneratorExp elt [⟨target, iter, ifs, 0⟩] scope pos) env) Q E s := by
  rw [eval_GeneratorExp1 _ _ _ _ _ _ _ hco, hclos]
  refine wpAny_bind (wpAny_mono h (fun xv s₁ h₁ => ?_) fun _ _ e => e)
  refine wpAny_bind (wpAny_standAt ?_)
  refine wpAny_bind (wpAny_of_eq (hs xv) ?_)
  refine wpAny_bind (wpAny_holding (wpAny_mono h₁ (fun it s₂ h₂ => ?_) fun _ _ e => e))
  refine wpAny_bind (wpAny_enterFrame h₂.1 hroom ?_)
  refine wpAny_bind (wpAny_pure ?_)
  refine wpAny_bind (wpAny_mono h₂.2 (fun code s₃ h₃ => ?_) fun _ _ e => e)
  refine wpAny_bind (wpAny_mono h₃ (fun bi s₄ h₄ => ?_) fun _ _ e => e)
  refine wpAny_bind (newEnv_gen h0 hkind fun h' hn' hs' => ?_)
  simp only [newGenerator, newFields]
  refine wpAny_bind (wpAny_newGen (wpAny_bind (wpAny_mkText (wpAny_bind (wpAny_mkText (wpAny_newObj_type ?_ (by size_fits)))))))
  exact h₄ h' hn' hs'
section
variable {X : Cx} {pins : List (Addr × Obj)} {σ : L2.St} {H : Hp} {s : Shared}
theorem gen_start {scope : Scope} {own : List (Str × Nat)} {fp : List Addr} {Ag : Around} {code : Value} {h5 : Heap} {g5 : Array GenState} {t5 : Nat} {a : Addr} {gobj : Obj} {m5 : Str → Option Value}
    (I : Inv X pins σ H s) (ok : BlkOk X.N X.env.scope scope own) (hN : X.N.Nodup) (hfp : ∀ b ∈ fp, FpOk X pins H b ∧ b < s.heap.objs.size)
    (hfr : Ag.frames = some (genEnv scope (cellsFrom (s.heap.objs.size + 1) scope.names (cloFrom X.env.cells scope.names [])) s.heap.objs.size code builtinsNs X.env :: X.stack)) (hhd : Ag.handled = none)
    (kp5 : ∀ b o, b ≠ s.heap.objs.size → (pushCells (s.heap.push { cls := .type "frame", data := .dict #[] }) scope.names).get? b = some o → h5.get? b = some o) (ns : h5.Ns s.heap.objs.size m5) (ha : s.heap.objs.size < a) (hga : h5.get? a = some gobj) (hgd : ∀ v, gobj.data ≠ .cell v) (hb5 : AllBare g5) :
    Inv (gX X s H (genEnv scope (cellsFrom (s.heap.objs.size + 1) scope.names (cloFrom X.env.cells scope.names [])) s.heap.objs.size code builtinsNs X.env) fp Ag) [(a, gobj)] (wipe σ (own.map (·.2))) H { s with heap := h5, gens := g5, toks := t5 } := by
  generalize hcenv : genEnv scope (cellsFrom (s.heap.objs.size + 1) scope.names (cloFrom X.env.cells scope.names [])) s.heap.objs.size code builtinsNs X.env = cenv at hfr ⊢
  have k5 : ∀ b o, s.heap.get? b = some o → h5.get? b = some o := fun b o e => kp5 b o (Nat.ne_of_lt (Heap.lt_size e)) (pushCells_keeps _ _ _ _ (Heap.get?_push_of_some _ e))
  have hL : cenv.locals = s.heap.objs.size := by rw [← hcenv]; rfl
  have hcl : cenv.cells = cellsFrom (s.heap.objs.size + 1) scope.names (cloFrom X.env.cells scope.names []) := by rw [← hcenv]; rfl
  have hsc : cenv.scope = scope := by rw [← hcenv]; rfl
  rw [← Heap.size_push s.heap { cls := .type "frame", data := .dict #[] }] at hcl
  have hfree : ∀ y ∈ scope.names, y.2 = .free → ∃ c, X.env.cells.lookup y.1 = some c := fun y hy e => by
    rcases ok.free y hy e with k | k
    · exact I.ok.has _ (.inl k)
    · exact I.ok.has _ (.inr k)
  have cm : ∀ {y c}, (y, c) ∈ cloFrom X.env.cells scope.names [] → X.env.cells.lookup y = some c ∧ c < s.heap.objs.size := fun {y c} hm => by
    rcases cloFrom_mem hm with hm | ⟨h1, rfl⟩
    · cases hm
    · obtain ⟨c, hc⟩ := hfree _ h1 rfl
      rw [hc]
      obtain ⟨w, z⟩ := I.cell _ _ hc
      exact ⟨rfl, z.lt⟩
  have mem : ∀ {y c}, cenv.cells.lookup y = some c → (X.env.cells.lookup y = some c ∧ c < s.heap.objs.size) ∨ (s.heap.objs.size + 1 ≤ c ∧ CellAt (pushCells (s.heap.push { cls := .type "frame", data := .dict #[] }) scope.names) c none) := fun {y c} e => by
    rw [hcl] at e
    rcases cells_mem (PySem.mem_of_lookup e) with hm | ⟨_, h2, h3⟩
    · exact .inl (cm hm)
    · rw [Heap.size_push] at h2; exact .inr ⟨h2, h3⟩
  have look : ∀ {y}, scope.names.lookup y = some .free → ∃ c, cenv.cells.lookup y = some c ∧ X.env.cells.lookup y = some c := fun {y} hl => by
    have hy : (y, NameKind.free) ∈ scope.names := PySem.mem_of_lookup hl
    obtain ⟨c', e'⟩ := mem_lookup (cells_acc (names := scope.names) (n := (s.heap.push { cls := .type "frame", data := .dict #[] }).objs.size) (cloFrom_has (cells := X.env.cells) (acc := []) hy))
    rw [← hcl] at e'
    refine ⟨c', e', ?_⟩
    rw [hcl] at e'
    rcases cells_mem (PySem.mem_of_lookup e') with hm | ⟨h1, _, _⟩
    · exact (cm hm).1
    · have := ok.uniq _ h1
      rw [hl] at this; cases this
  have okB : (gX X s H cenv fp Ag).Ok := by
    refine ⟨I.ok.mod, by show cenv.scope.kind = _; rw [hsc]; exact ok.kind, by show cenv.globals = _; rw [← hcenv]; exact I.ok.glob, by show cenv.builtins = _; rw [← hcenv]; rfl, by show s.heap.objs.size ≤ cenv.locals; rw [hL]; exact Nat.le_refl _,
      fun y z c e1 e2 => ?_, fun y hy => ?_, fun y c z e => ?_, fun _ => hhd, hfr, .inr ⟨rfl, by show cenv.frame = some cenv.locals; rw [← hcenv]; rfl⟩, fun b hb => ⟨?_, fun y c e z => ?_⟩, I.bs, Nat.le_trans I.ok.bsz I.sz, fun b o e hb => ?_, fun b hb z => ?_, I.stack, I.stkFree⟩
    · have e1 : cenv.cells.lookup y = some c := e1
      have e2 : cenv.cells.lookup z = some c := e2
      rw [hcl] at e1 e2
      refine cells_inj (fun p hp => ?_) (fun y z c a b => I.ok.inj y z c (cm a).1 (cm b).1) (PySem.mem_of_lookup e1) (PySem.mem_of_lookup e2)
      rw [Heap.size_push]
      exact Nat.lt_succ_of_lt (cm (y := p.1) (c := p.2) hp).2
    · show ∃ c, cenv.cells.lookup y = some c
      have hy : cenv.scope.names.lookup y = some .cell ∨ cenv.scope.names.lookup y = some .free := hy
      rw [hsc] at hy
      rcases hy with e | hy
      · obtain ⟨c, hm⟩ := cells_has (n := (s.heap.push { cls := .type "frame", data := .dict #[] }).objs.size) (acc := cloFrom X.env.cells scope.names []) (PySem.mem_of_lookup e)
        obtain ⟨c', e'⟩ := mem_lookup hm
        exact ⟨c', by rw [hcl]; exact e'⟩
      · obtain ⟨c, h1, _⟩ := look hy
        exact ⟨c, h1⟩
    · have z : (cenv.scope.names.lookup y == some NameKind.cell) = true := z
      rw [hsc] at z
      have z : scope.names.lookup y = some .cell := by simpa using z
      have e : cenv.cells.lookup y = some c := e
      rw [hcl] at e
      rcases cells_mem (PySem.mem_of_lookup e) with hm | ⟨_, h2, _⟩
      · rcases cloFrom_mem hm with hm | ⟨h1, _⟩
        · cases hm
        · have q := ok.uniq _ h1
          rw [z] at q; cases q
      · rw [Heap.size_push] at h2
        exact Nat.le_of_succ_le h2
    · show b ≠ cenv.locals
      rw [hL]; exact Nat.ne_of_lt (hfp b hb).2
    · have e : cenv.cells.lookup y = some c := e
      rcases mem e with ⟨h1, _⟩ | ⟨h1, _⟩
      · exact (hfp b hb).1.2.2.2.2.1 y c h1 z
      · have h2 : s.heap.objs.size + 1 ≤ b := by rw [← z]; exact h1
        exact absurd (Nat.lt_of_lt_of_le (hfp b hb).2 (Nat.le_of_succ_le h2)) (Nat.lt_irrefl _)
    · rcases (hfp b hb).1.2.2.2.1 with z | z
      · exact I.ok.noex b o e z
      · exact absurd (Nat.lt_of_lt_of_le (Heap.lt_size e) (Nat.le_trans I.ok.bsz z)) (Nat.lt_irrefl _)
    · rcases List.mem_cons.mp (I.stkSub b z) with z | z
      · exact (hfp b hb).1.2.1 z
      · exact (hfp b hb).1.2.2.1 z
  refine ⟨okB, rfl, hb5, Un.kept k5, ⟨m5, ?_, fun i y av e1 e2 e3 => ?_⟩, fun y c e => ?_, ?_, fun y c e => ?_, fun p hp => ?_, I.hok.kept k5, by rw [wipe_length]; exact I.len⟩
  · show Heap.Ns _ cenv.locals _
    rw [hL]; exact ns
  · obtain ⟨e2, hne⟩ := wipe_some e2
    have no : ∀ k, scope.names.lookup y = some k → ¬ (k = .local ∨ k = .cell) := fun k e hh => by
      rcases ok.own _ (PySem.mem_of_lookup e) hh with e' | e'
      · obtain ⟨p, hp, hpy⟩ := List.mem_map.mp e'
        have e3 := ok.ix p hp
        have : p.1 = y := hpy
        rw [this] at e3
        exact hne (List.mem_map.mpr ⟨p, hp, nodup_ix hN e3 e1⟩)
      · exact e' (List.mem_of_getElem? e1)
    have e3 : Vis cenv.scope y := e3
    rw [hsc] at e3
    have hfr' : scope.names.lookup y = some .free := by
      rcases e3 with e3 | e3 | e3
      · exact absurd (.inl rfl) (no _ e3)
      · exact absurd (.inr rfl) (no _ e3)
      · exact e3
    obtain ⟨m, hn, hl⟩ := I.loc
    have hvis : Vis X.env.scope y := (ok.free _ (PySem.mem_of_lookup hfr') rfl).elim (fun k => .inr (.inl k)) (fun k => .inr (.inr k))
    obtain ⟨w, r, q⟩ := hl i y av e1 e2 hvis
    refine ⟨w, r, .inr ⟨.inr (by show cenv.scope.names.lookup y = _; rw [hsc]; exact hfr'), ?_⟩⟩
    obtain ⟨c, h1, h2⟩ := look hfr'
    rcases q with ⟨k, _⟩ | ⟨_, c', e', z⟩
    · have k : X.env.scope.names.lookup y = some .local := k
      rcases ok.free _ (PySem.mem_of_lookup hfr') rfl with k' | k' <;> rw [show X.env.scope.names.lookup y = _ from k'] at k <;> cases k
    · rw [h2] at e'; cases e'
      exact ⟨c, h1, z.keeps k5⟩
  · rcases mem (show cenv.cells.lookup y = some c from e) with ⟨h1, _⟩ | ⟨h1, o, h2, h3⟩
    · obtain ⟨w, z⟩ := I.cell y c h1
      exact ⟨w, z.keeps k5⟩
    · exact ⟨none, o, kp5 c o (by omega) h2, h3⟩
  · show H cenv.locals = none
    rw [hL]; exact I.hok.fresh (Nat.le_refl _)
  · rcases mem (show cenv.cells.lookup y = some c from e) with ⟨h1, _⟩ | ⟨h1, _⟩
    · exact I.freeC y c h1
    · exact I.hok.fresh (Nat.le_of_succ_le h1)
  · have hp' : p ∈ ([] : List (Addr × Obj)) ++ [(a, gobj)] := hp
    rw [List.nil_append, List.mem_singleton] at hp'
    subst hp'
    refine ⟨hga, I.hok.fresh (Nat.le_of_lt ha), by show a ≠ cenv.locals; rw [hL]; exact Nat.ne_of_gt ha, fun z => ?_, hgd⟩
    have z : a ∈ frs X.stack := z
    rcases List.mem_cons.mp (I.stkSub a z) with z | z
    · rw [z] at ha
      exact Nat.lt_irrefl _ (Nat.lt_trans ha I.lt)
    · exact I.nofs (Nat.le_of_lt ha) z
/-- the code of a generator expression: found, or made -/
theorem code_ok {n : Nat} {pos : Pos} {qual : Str} {scope : Scope} {Q : Value → Shared → Prop} {E : Value → Shared → Prop} (I : Inv X pins σ H s) (ct : CT0 X.base X.env.code (n + 1) H)
    (hQ : ∀ c' P' H' h' tk, H' c' = some (cdO c' P') → TD n H' P' → Inv X pins σ H' { s with heap := h', toks := tk } → (∀ m, HX X.K m H m H') → (∀ W m st, HR W m H st → HR W m H' st) →
      (∀ b o, H b = none → s.heap.get? b = some o → h'.get? b = some o ∧ H' b = none) → s.heap.objs.size ≤ h'.objs.size → Q (.ref c') { s with heap := h', toks := tk }) :
    wpAny (model X.prog X.w) X.A (genexprCode X.env pos qual scope) Q E s := by
  obtain ⟨c, P, hcode, hcd, ps, hP, ht, hk⟩ := ct
  have hPs : s.heap.get? P = some { cls := .none, data := .fields ps } := I.hok P _ hP
  have cd : PySem.W.CodeHd s.heap c P := by
    rcases hcd with h | h
    · exact h.keeps fun b u e => I.bk b u e
    · exact (I.hok c _ h).1
  cases hf : codeAmong pos ps.toList with
  | some cv =>
    obtain ⟨c', P', e1, e2, e3⟩ := hk pos cv hf
    subst e1
    exact wpAny_genexprCode_hit hcode (cd.code hPs ht) hf (hQ c' P' H s.heap s.toks e2 e3 I (fun m => HX.refl) (fun _ _ _ h => h) (fun b o n e => ⟨e, n⟩) (Nat.le_refl _))
  | none =>
    refine wpAny_genexprCodeX hcode (cd.code hPs ht) (cd.tab hPs) hf fun c' h' tk hx hge hlt hco' _ htab' ⟨P', hP', hco2, htab2⟩ => ?_
    have np : H P' = none := I.hok.fresh hP'
    have nc : H c' = none := I.hok.fresh hge
    have cd2 : PySem.W.CodeHd h' c' P' := PySem.W.CodeHd.of hco2 htab2
    have hne : c' ≠ P' := by obtain ⟨o, vs, file, tf, flags, tg, inF, text, tt, _, _, _, _, _, _, _, _, _, q⟩ := cd2; exact q
    have J := inv_grow (t' := tk) I hP (fun b o hb e => hx b o hb e) htab'.2 hge hP' hne cd2 htab2.2
    refine hQ c' P' _ h' tk (by unfold grow; rw [upd_same]) ?_ J (fun m => HX.grow hP ht nc np hne hf) (fun W m st h => h.grow hP ht nc np hne hf) (fun b o nb e => ?_) (Nat.le_trans hge (Nat.le_of_lt hlt))
    · have atp : grow H P (ps ++ #[rawInt pos.line, rawInt pos.col, .ref c']) c' P' P' = some (.tbl #[]) := by unfold grow; rw [upd_ne (Ne.symm hne), upd_same]
      cases n with
      | zero => exact ⟨#[], atp, trivial⟩
      | succ n => exact ⟨#[], atp, trivial, fun q cv e => by simp [codeAmong] at e⟩
    · have b1 : b ≠ P := fun z => by rw [z, hP] at nb; cases nb
      refine ⟨hx b o b1 e, ?_⟩
      unfold grow
      rw [upd_ne (Nat.ne_of_lt (Nat.lt_of_lt_of_le (Heap.lt_size e) hge)), upd_ne (Nat.ne_of_lt (Nat.lt_of_lt_of_le (Heap.lt_size e) hP')), upd_ne b1]
      exact nb
end
end Mi

namespace Mi
open PySem PySem.Spec PyProof.Rows L2
open GenW
/-- what a generator gives out, with the store behind each; it is not asked further behind a value that stops -/
def yieldsP (stop : PV → Bool) (chk : Store → Bool) (g : PV → Env → Store → Option (Env × Store)) (t : Env → Store → Option (Bool × Store)) (e : Env → Store → Out) (ρ : Env) : List PV → Store → Option (List (PV × Store) × Option Store)
  | [], st => if chk st then some ([], some st) else none
  | x :: r, st => if chk st then
      match g x ρ st with
      | none => none
      | some (ρ1, st1) => match t ρ1 st1 with
        | none => none
        | some (false, st2) => yieldsP stop chk g t e ρ r st2
        | some (true, st2) => match e ρ1 st2 with
          | none => none
          | some (y, st3) => if stop y then some ([(y, st3)], none) else match yieldsP stop chk g t e ρ r st3 with
            | some (l, o) => some ((y, st3) :: l, o)
            | none => none
    else none
/-- what the consumer's list holds: the values so far; or (sm) their sum -/
def Cnt (K : PySem.W.Frag) (sm : Bool) (m : List Addr) (H : Hp) (ys : List PV) (acc : Array Value) : Prop := match sm with
  | true => ∀ n, sumP ys = some n → ∃ t, acc = #[.int n t]
  | false => ∃ vs, Vals vs acc.toList ∧ RVs K m H ys vs
theorem Cnt.mono {K : PySem.W.Frag} {sm : Bool} {m m' : List Addr} {H H' : Hp} {ys : List PV} {acc : Array Value} (h : Cnt K sm m H ys acc) (x : HX K m H m' H') : Cnt K sm m' H' ys acc := by
  cases sm with
  | true => exact h
  | false => obtain ⟨vs, h1, h2⟩ := h; exact ⟨vs, h1, h2.mono x⟩
/-- the consumer's list at S -/
def AccOk (K : PySem.W.Frag) (sm : Bool) (S : Option Addr) (m : List Addr) (H : Hp) (ys : List PV) (h : Heap) : Prop :=
  ∀ z, S = some z → H z = none ∧ ∃ acc c, h.get? z = some (lstObj acc c) ∧ Cnt K sm m H ys acc
/-- between two turns -/
structure Lnk (S : Option Addr) (s s' : Shared) : Prop where
  os : s'.os = s.os
  bare : AllBare s'.gens
  keep : ∀ b o, S ≠ some b → s.heap.get? b = some o → s'.heap.get? b = some o
  own : ∀ z o, S = some z → s.heap.get? z = some o → ∃ acc c, s'.heap.get? z = some (lstObj acc c)
/-- all that is fixed for one generator -/
structure GP where
  X : Cx
  W : Wd
  m1 : List Addr
  H1 : Hp
  σ : L2.St
  a : Addr
  gobj : Obj
  sm : Bool
  S : Option Addr
  L : List (PV × Store)
  o : Option Store
  fp : List Addr
  tn : Nat → Heap → Prop
def GP.at (G : GP) (m : List Addr) (H : Hp) (st : Store) (ys : List PV) (s : Shared) : Prop :=
  HX G.W.K G.m1 G.H1 m H ∧ HR G.W m H st ∧ Inv G.X [(G.a, G.gobj)] G.σ H s ∧ AccOk G.W.K G.sm G.S m H ys s.heap ∧ ∀ b ∈ G.fp, H b = none
def GP.Y (G : GP) : Protocol := fun n s₀ v s kap =>
  ∃ m H u j y st, j + 1 + n = G.L.length ∧ G.L[j]? = some (y, st) ∧ RelV u v ∧ RV G.W.K m H y u ∧ G.at m H st ((G.L.take j).map (·.1)) s ∧
    ((n = 0 ∧ G.o = none) ∨ ∀ s', Lnk G.S s s' → AccOk G.W.K G.sm G.S m H ((G.L.take (j + 1)).map (·.1)) s'.heap → kap (.send .none) s')
def GP.F (G : GP) (n : Nat) (s : Shared) : Prop := n = 0 ∧ ∃ st m H, G.o = some st ∧ G.at m H st (G.L.map (·.1)) s
def GP.R (G : GP) : GenEnd := fun n s₀ r s => ((r = .ok (.ret .none) ∨ r = .ok .next) ∧ G.F n s) ∨ ∃ e, r = .error e ∧ False
/-- an untracked list of the consumer's may have changed -/
theorem Inv.linked {X : Cx} {pins : List (Addr × Obj)} {σ : L2.St} {H : Hp} {s s' : Shared} {S : Option Addr} (I : Inv X pins σ H s) (l : Lnk S s s') (hS : ∀ z, S = some z → H z = none ∧ X.s_0.heap.objs.size ≤ z ∧ z ≠ X.env.locals ∧ (∀ x c, X.env.cells.lookup x = some c → c ≠ z) ∧ ∀ p ∈ X.pn ++ pins, p.1 ≠ z) : Inv X pins σ H s' := by
  obtain ⟨z1, z2, z3, z4⟩ := l
  obtain ⟨hh, g, d, t, o⟩ := s'
  have ho : o = s.os := z1
  subst ho
  have nt : ∀ b u, H b = some u → S ≠ some b := fun b u q hb => by rw [(hS b hb).1] at q; cases q
  have nS : ∀ b, b ∉ S.toList → S ≠ some b := fun b hb e => hb (by rw [e]; simp)
  refine I.step (g' := g) (t' := t) (d' := d) (ch := S.toList) (fun b hb => ?_)
    (fun b ob _ _ hc q _ => z3 b ob (nS b hc) q) (fun b ob _ _ hc q _ => ⟨ob.slots, z3 b ob (nS b hc) q⟩) (fun _ _ _ _ n => n) (fun b ob hc q => ⟨ob, z3 b ob (nS b hc) q⟩)
    (fun _ _ q => q) (fun _ _ _ q => q) (fun b ps q => ⟨#[], by rw [q]; simp⟩) (fun m hm => ?_) (fun b u q => ?_) z2
  · have hb : S = some b := by simpa using hb
    obtain ⟨h1, h2, h3, h4, h5⟩ := hS b hb
    exact ⟨.inr h2, h3, h4, h5⟩
  · obtain ⟨ob, es, ep, ho, r⟩ := hm
    exact ⟨ob, es, ep, z3 _ ob (fun e => (hS _ e).2.2.1 rfl) ho, r⟩
  · refine (I.hok b u q).stay (fun c v hc y => z3 c v ?_ y) (fun _ y => y) fun _ _ y => y
    rcases hc with y | y
    · rw [y]; exact nt b u q
    · exact nt c _ y
section
variable {Xg : Cx} {p : Pr} {A : Around} {elt tg iter : Expr} {ifs : List Expr} {scope : Scope} {pos : Pos} {it : Addr} {tn : Nat → Heap → Prop} {J : It} {fp : List Addr} {e t f : IR} {own : List Nat} {ρw : Env} {σw : L2.St}
  {items : List PV} {src : Option Nat} {stop : PV → Bool} {m1 : List Addr} {H1 : Hp} {st1 : Store} {a : Addr} {gobj : Obj} {sm : Bool} {S : Option Addr} {L : List (PV × Store)} {o : Option Store}
/-- what is known of the generator's own things -/
structure GOk (Xg : Cx) (a : Addr) (S : Option Addr) (fp : List Addr) : Prop where
  fpl : ∀ b ∈ fp, b ≠ Xg.env.locals ∧ b ∉ Xg.fs ∧ b ∈ Xg.ex ∧ (∀ x c, Xg.env.cells.lookup x = some c → c ≠ b) ∧ a ≠ b ∧ S ≠ some b
  acc : ∀ z, S = some z → Xg.s_0.heap.objs.size ≤ z ∧ z ≠ Xg.env.locals ∧ z ∉ Xg.fs ∧ (∀ x c, Xg.env.cells.lookup x = some c → c ≠ z) ∧ a ≠ z
theorem seg_gen (hA : A.over (.compLoop (.GeneratorExp elt [⟨tg, iter, ifs, 0⟩] scope pos) 0 (.ref it) .none Xg.env) [] = Xg.A) (hco : Xg.env.scope.isCoroutine = false) (T : Turn Xg.prog Xg.w Xg.K tg J fp it tn) (hc : Xg.calm = true) (hpn : Xg.pn = []) (hxe : Xg.xe = fun _ _ => False)
    (pg : PG Xg tg (tG Xg p t)) (pt : PTs Xg ifs (tTs Xg p f)) (pe : PE Xg elt (tE Xg p e)) (gok : GOk Xg a S fp) (it1 : ItM (wo Xg p.tb p.D) m1 H1 items src J) (sr1 : SR Xg p ρw m1 σw H1 st1) (hsl : ∀ j ∈ slG t, j ∈ own) (hw0 : wipe σw own = σw) :
    ∀ (rest : List PV) (i j : Nat) (st : Store) (m : List Addr) (H : Hp) (s₀ s : Shared), items.drop i = rest → i ≤ items.length → yieldsP stop (stands src items) (evG p.C t) (fun ρ st => evT p.C f ρ st) (fun ρ st => evE p.C e ρ st) ρw rest st = some (L.drop j, o) → j ≤ L.length →
      GP.at ⟨Xg, wo Xg p.tb p.D, m1, H1, σw, a, gobj, sm, S, L, o, fp, tn⟩ m H st ((L.take j).map (·.1)) s → tn i s.heap →
      Seg (model Xg.prog Xg.w) A (GP.R ⟨Xg, wo Xg p.tb p.D, m1, H1, σw, a, gobj, sm, S, L, o, fp, tn⟩) (GP.Y ⟨Xg, wo Xg p.tb p.D, m1, H1, σw, a, gobj, sm, S, L, o, fp, tn⟩) (L.length - j) s₀
        (.compLoop (.GeneratorExp elt [⟨tg, iter, ifs, 0⟩] scope pos) 0 (.ref it) .none Xg.env) ((model Xg.prog Xg.w).den (.compLoop (.GeneratorExp elt [⟨tg, iter, ifs, 0⟩] scope pos) 0 (.ref it) .none Xg.env)) [] s := by
  have fls : ∀ {α : Type} {t : Sem α} {Q : α → Shared → Prop} {E : Value → Shared → Prop} {B : Around} {s : Shared}, wpAny (model Xg.prog Xg.w) B t Q Xg.xe s → wpAny (model Xg.prog Xg.w) B t Q E s := fun {α t Q E B s} h => by
    rw [hxe] at h
    exact wpAny_mono h (fun _ _ z => z) fun _ _ z => z.elim
  intro rest
  induction rest with
  | nil =>
    intro i j st m H s₀ s hr hi ys hj gat htn
    obtain ⟨hx, hr1, I, ac, nf⟩ := gat
    have hx : HX Xg.K m1 H1 m H := hx
    have hr1 : HR (wo Xg p.tb p.D) m H st := hr1
    have I : Inv Xg [(a, gobj)] σw H s := I
    have ac : AccOk Xg.K sm S m H ((L.take j).map (·.1)) s.heap := ac
    have nf : ∀ b ∈ fp, H b = none := nf
    have ei : i = items.length := by
      have := List.drop_eq_nil_iff.mp hr
      omega
    subst ei
    simp only [yieldsP] at ys
    split at ys
    · rename_i hck
      simp only [Option.some.injEq, Prod.mk.injEq] at ys
      obtain ⟨y1, y2⟩ := ys
      have ej : j = L.length := by
        have := List.drop_eq_nil_iff.mp y1.symm
        omega
      subst ej
      obtain ⟨_, stopJ⟩ := it1 m H st hx.toHM hr1 hck
      show Seg _ A _ _ _ s₀ _ ((compTurn (.GeneratorExp elt [⟨tg, iter, ifs, 0⟩] scope pos) 0 (.ref it) .none Xg.env).onRaise (leaving Xg.env)) [] s
      rw [compTurn_gen, Sem.onRaise_eq_wrap]
      refine seg_bind_wrap (wpAny_standAt ?_)
      have ff : ∀ b ∈ fp, FpOk Xg [(a, gobj)] H b := fun b hb => by
        obtain ⟨f1, f2, f3, f4, f5, f6⟩ := gok.fpl b hb
        refine ⟨nf b hb, f1, f2, .inl f3, f4, fun q hq => ?_⟩
        rw [hpn, List.nil_append, List.mem_singleton] at hq
        rw [hq]; exact f5
      have hS' : ∀ z, S = some z → FpOk Xg [(a, gobj)] H z ∧ ∃ ob, s.heap.get? z = some ob ∧ ∀ v, ob.data ≠ .cell v := fun z hz => by
        obtain ⟨f1, f2, f3, f4, f5⟩ := gok.acc z hz
        obtain ⟨q1, acc, c, q2, _⟩ := ac z hz
        refine ⟨⟨q1, f2, f3, .inr f1, f4, fun q hq => ?_⟩, _, q2, fun v z => by cases z⟩
        rw [hpn, List.nil_append, List.mem_singleton] at hq
        rw [hq]; exact f5
      have I2 := I.pinned (fp := S.toList) (fun b hb => (hS' b (by simpa using hb)).1) fun b hb => (hS' b (by simpa using hb)).2
      refine seg_bind_wrap ?_
      rw [hA]
      refine thnF (T.done Xg rfl rfl rfl hc _ _ s σw H (fun _ _ => False) I2 (fun b hb => ?_) htn stopJ) fun r s2 ⟨hr2, I3⟩ => ?_
      · obtain ⟨f1, f2, f3, f4, f5, f6⟩ := ff b hb
        refine ⟨f1, f2, f3, f4, f5, fun q hq => ?_⟩
        rw [hpn, List.nil_append] at hq
        rcases List.mem_append.mp hq with hq | hq
        · exact f6 q (by rw [hpn, List.nil_append]; exact hq)
        · obtain ⟨h1, h2⟩ := of_pinsAt hq
          intro z
          exact (gok.fpl b hb).2.2.2.2.2 (by rw [← z]; simpa using h1)
      · subst hr2
        refine seg_end (.ok .next) (.inl ⟨.inr rfl, by rw [Nat.sub_self], st, m, H, y2.symm, hx, hr1, I3.unpinned, fun z hz => ?_, nf⟩)
        have hz : S = some z := hz
        obtain ⟨q1, acc, c, q2, q4⟩ := ac z hz
        refine ⟨q1, acc, c, ?_, ?_⟩
        · have hm : (z, lstObj acc c) ∈ pinsAt S.toList s.heap := mem_pinsAt (by rw [hz]; simp) q2
          exact (I3.pin _ (List.mem_append_right _ (List.mem_append_right _ hm))).1
        · rw [List.take_length] at q4; exact q4
    · cases ys
  | cons x rest ih =>
    intro i j st m H s₀ s hr hi ys hj gat htn
    obtain ⟨hx, hr1, I, ac, nf⟩ := gat
    have hx : HX Xg.K m1 H1 m H := hx
    have hr1 : HR (wo Xg p.tb p.D) m H st := hr1
    have I : Inv Xg [(a, gobj)] σw H s := I
    have ac : AccOk Xg.K sm S m H ((L.take j).map (·.1)) s.heap := ac
    have nf : ∀ b ∈ fp, H b = none := nf
    have hlt : i < items.length := by
      rcases Nat.lt_or_ge i items.length with h | h
      · exact h
      · rw [List.drop_eq_nil_iff.mpr h] at hr; cases hr
    have hr2 := hr
    rw [List.drop_eq_getElem_cons hlt] at hr2
    simp only [List.cons.injEq] at hr2
    obtain ⟨ex, hrest⟩ := hr2
    subst ex
    simp only [yieldsP] at ys
    split at ys
    · rename_i hck
      obtain ⟨itA, _⟩ := it1 m H st hx.toHM hr1 hck
      obtain ⟨go, yl⟩ := itA i items[i] (List.getElem?_eq_getElem hlt)
      show Seg _ A _ _ _ s₀ _ ((compTurn (.GeneratorExp elt [⟨tg, iter, ifs, 0⟩] scope pos) 0 (.ref it) .none Xg.env).onRaise (leaving Xg.env)) [] s
      rw [compTurn_gen, Sem.onRaise_eq_wrap]
      refine seg_bind_wrap (wpAny_standAt ?_)
      have ff : ∀ b ∈ fp, FpOk Xg [(a, gobj)] H b := fun b hb => by
        obtain ⟨f1, f2, f3, f4, f5, f6⟩ := gok.fpl b hb
        refine ⟨nf b hb, f1, f2, .inl f3, f4, fun q hq => ?_⟩
        rw [hpn, List.nil_append, List.mem_singleton] at hq
        rw [hq]; exact f5
      have hS' : ∀ z, S = some z → FpOk Xg [(a, gobj)] H z ∧ ∃ ob, s.heap.get? z = some ob ∧ ∀ v, ob.data ≠ .cell v := fun z hz => by
        obtain ⟨f1, f2, f3, f4, f5⟩ := gok.acc z hz
        obtain ⟨q1, acc, c, q2, _⟩ := ac z hz
        refine ⟨⟨q1, f2, f3, .inr f1, f4, fun q hq => ?_⟩, _, q2, fun v z => by cases z⟩
        rw [hpn, List.nil_append, List.mem_singleton] at hq
        rw [hq]; exact f5
      have I2 := I.pinned (fp := S.toList) (fun b hb => (hS' b (by simpa using hb)).1) fun b hb => (hS' b (by simpa using hb)).2
      have fpS : ∀ {Hq : Hp}, (∀ b ∈ fp, Hq b = none) → ∀ b ∈ fp, FpOk Xg ([(a, gobj)] ++ pinsAt S.toList s.heap) Hq b := fun {Hq} hn b hb => by
        obtain ⟨f1, f2, f3, f4, f5, f6⟩ := ff b hb
        refine ⟨hn b hb, f2, f3, f4, f5, fun q hq => ?_⟩
        rw [hpn, List.nil_append] at hq
        rcases List.mem_append.mp hq with hq | hq
        · exact f6 q (by rw [hpn, List.nil_append]; exact hq)
        · obtain ⟨h1, h2⟩ := of_pinsAt hq
          intro z
          exact (gok.fpl b hb).2.2.2.2.2 (by rw [← z]; simpa using h1)
      refine seg_bind_wrap ?_
      rw [hA]
      refine thnF (T.item Xg rfl rfl rfl hc _ _ s σw H (fun _ _ => False) I2 (fpS nf) htn go) fun r s6 ⟨u, hru, h6⟩ => ?_
      subst hru
      refine seg_bind_wrap ?_
      rw [hA]
      refine thnF h6 fun _ s7 ⟨v7, H7, I7, r7, y7, st7, n7⟩ => ?_
      obtain ⟨hxy, hry, rvy⟩ := yl v7 H7 y7
      have I7' := I7.pinned (fpS n7) (T.obj _ _ st7)
      have sr7 := sr1.mono (hx.trans hxy) hry
      split at ys
      · cases ys
      · rename_i ρ1 sta eg
        refine seg_bind_wrap ?_
        rw [hA]
        refine fls (thn (pg.run _ s7 _ H7 v7 u (fun σ' H' => ∃ m2, HX Xg.K m H7 m2 H' ∧ SR Xg p ρ1 m2 σ' H' sta ∧ wipe σ' own = σw) I7' r7 ⟨ρw, m, st, items[i], ρ1, sta, sr7, rvy, eg, fun σ' m' H' hx' sr' hw' => ⟨m', hx', sr', by rw [hw' own hsl, hw0]⟩⟩) fun _ s8 ⟨σ8, H8, I8, m8, hx8, sr8, hw8⟩ => ?_)
        -- the turn's end
        have fin : ∀ {s' : Shared} {H' : Hp} {m' : List Addr}, Inv Xg (([(a, gobj)] ++ pinsAt S.toList s.heap) ++ pinsAt fp s7.heap) σ8 H' s' → HX Xg.K m8 H8 m' H' →
            Inv Xg [(a, gobj)] σw H' s' ∧ tn (i + 1) s'.heap ∧ (∀ b ∈ fp, H' b = none) ∧ AccOk Xg.K sm S m' H' ((L.take j).map (·.1)) s'.heap := fun {s' H' m'} I' hx' => by
          have pin' : ∀ b ∈ fp, ∀ ob, s7.heap.get? b = some ob → s'.heap.get? b = some ob ∧ H' b = none := fun b hb ob e =>
            let z := I'.pin (b, ob) (List.mem_append_right _ (List.mem_append_right _ (mem_pinsAt hb e)))
            ⟨z.1, z.2.1⟩
          refine ⟨(I'.unpinned.unpinned (pins := [(a, gobj)])).weak (by rw [← hw8, wipe_length]) (fun q v e => ?_), T.keep _ _ _ st7 fun b hb ob e => (pin' b hb ob e).1, fun b hb => ?_, fun z hz => ?_⟩
          · rw [← hw8] at e
            exact (wipe_some e).1
          · obtain ⟨ob, e, _⟩ := T.obj _ _ st7 b hb
            exact (pin' b hb ob e).2
          · obtain ⟨q1, acc, c, q2, q4⟩ := ac z hz
            have hm : (z, lstObj acc c) ∈ pinsAt S.toList s.heap := mem_pinsAt (by rw [hz]; simp) q2
            have zz := I'.pin _ (List.mem_append_right _ (List.mem_append_left _ (List.mem_append_right _ hm)))
            exact ⟨zz.2.1, acc, c, zz.1, q4.mono ((hxy.trans hx8).trans hx')⟩
        split at ys
        · cases ys
        · rename_i stb et
          refine seg_bind_wrap ?_
          rw [hA]
          refine fls (thn (pt.run _ s8 σ8 H8 (fun b H' => ∃ m', b = false ∧ HX Xg.K m8 H8 m' H' ∧ HR (wo Xg p.tb p.D) m' H' stb) I8 ⟨ρ1, m8, sta, false, stb, sr8, et, fun m' H' hx' hr' => ⟨m', rfl, hx', hr'⟩⟩) fun b s9 ⟨H9, I9, m9, eb, hx9, hr9⟩ => ?_)
          subst eb
          simp only [Bool.false_eq_true, if_false]
          obtain ⟨J1, J2, J3, J4⟩ := fin I9 hx9
          exact seg_again rfl (ih (i + 1) j stb m9 H9 s₀ s9 hrest hlt ys hj ⟨((hx.trans hxy).trans hx8).trans hx9, hr9, J1, J4, J3⟩ J2)
        · rename_i stb et
          refine seg_bind_wrap ?_
          rw [hA]
          refine fls (thn (pt.run _ s8 σ8 H8 (fun b H' => ∃ m', b = true ∧ HX Xg.K m8 H8 m' H' ∧ HR (wo Xg p.tb p.D) m' H' stb) I8 ⟨ρ1, m8, sta, true, stb, sr8, et, fun m' H' hx' hr' => ⟨m', rfl, hx', hr'⟩⟩) fun b s9 ⟨H9, I9, m9, eb, hx9, hr9⟩ => ?_)
          subst eb
          simp only [if_true]
          split at ys
          · cases ys
          · rename_i y stc ee
            have hy : ∀ v, yieldOut Xg.env v = yieldValue v := fun v => by simp only [yieldOut, hco, Bool.false_eq_true, if_false]
            simp only [hy]
            rw [Sem.bind_eq_wrap', Sem.bind_eq_wrap', Sem.wrap_wrap, Sem.wrap_wrap]
            refine seg_wrap ?_
            rw [hA]
            refine fls (thn (pe.run _ s9 σ8 H9 (fun v H' => ∃ m', HX Xg.K m9 H9 m' H' ∧ HR (wo Xg p.tb p.D) m' H' stc ∧ RV Xg.K m' H' y v) I9 ⟨ρ1, m9, stb, y, stc, sr8.mono hx9 hr9, ee, fun v m' H' hx' hr' rv' => ⟨m', hx', hr', rv'⟩⟩) fun u2 s10 ⟨v2, H10, I10, ru, m10, hx10, hr10, rv10⟩ => ?_)
            obtain ⟨J1, J2, J3, J4⟩ := fin I10 (hx9.trans hx10)
            have xx := (((hx.trans hxy).trans hx8).trans hx9).trans hx10
            -- what is given out
            have key : ∃ l', L.drop j = (y, stc) :: l' ∧ ((stop y = true ∧ l' = [] ∧ o = none) ∨ (yieldsP stop (stands src items) (evG p.C t) (fun ρ st => evT p.C f ρ st) (fun ρ st => evE p.C e ρ st) ρw rest stc = some (l', o))) := by
              split at ys
              · rename_i hs
                simp only [Option.some.injEq, Prod.mk.injEq] at ys
                exact ⟨[], ys.1.symm, .inl ⟨hs, rfl, ys.2.symm⟩⟩
              · split at ys
                · rename_i l' o' e'
                  simp only [Option.some.injEq, Prod.mk.injEq] at ys
                  exact ⟨l', ys.1.symm, .inr (by rw [e', ys.2])⟩
                · cases ys
            obtain ⟨l', e1, e2⟩ := key
            have jlt : j < L.length := by
              rcases Nat.lt_or_ge j L.length with h | h
              · exact h
              · rw [List.drop_eq_nil_iff.mpr h] at e1; cases e1
            have e3 := e1
            rw [List.drop_eq_getElem_cons jlt] at e3
            simp only [List.cons.injEq] at e3
            obtain ⟨e4, e5⟩ := e3
            have en : L.length - j = (L.length - (j + 1)) + 1 := by omega
            rw [en]
            refine seg_at (seg_yield rfl rfl rfl ⟨m10, H10, v2, j, y, stc, (show j + 1 + (L.length - (j + 1)) = L.length by omega), by rw [List.getElem?_eq_getElem jlt, e4], ru, rv10, ⟨xx, hr10, J1, J4, J3⟩, ?_⟩)
            rcases e2 with ⟨_, e6, e7⟩ | e2
            · refine .inl ⟨?_, e7⟩
              rw [e6] at e5
              have := List.drop_eq_nil_iff.mp e5
              omega
            · refine .inr fun s'' lk ak => ?_
              have I11 : Inv Xg [(a, gobj)] σw H10 s'' := Inv.linked J1 lk fun z hz => by
                obtain ⟨f1, f2, f3, f4, f5⟩ := gok.acc z hz
                refine ⟨(J4 z hz).1, f1, f2, f4, fun q hq => ?_⟩
                rw [hpn, List.nil_append, List.mem_singleton] at hq
                rw [hq]; exact f5
              rw [← e5] at e2
              exact seg_again rfl (ih (i + 1) (j + 1) stc m10 H10 s'' s'' hrest hlt e2 jlt ⟨xx, hr10, I11, ak, J3⟩ (T.keep _ _ _ J2 fun b hb ob q => lk.keep b ob (gok.fpl b hb).2.2.2.2.2 q))
    · cases ys
end
end Mi

namespace Mi
open PySem PySem.Spec PyProof.Rows L2
open GenW
/-- the generator waits, j values are out -/
structure Live (G : GP) (P : Program) (w : World) (A : Around) (g j : Nat) (s : Shared) : Prop where
  gen : s.heap.IsGen G.a g
  lim : s.heap.NoLimit
  goes : ∃ gs, s.gens[g]? = some gs ∧ gs.Goes (model P w) A.in1 G.R G.Y (G.L.length - j) (.send .none) (s.setGen g .running)
theorem take_snoc {L : List (PV × Store)} {j : Nat} {y : PV} {st : Store} (h : L[j]? = some (y, st)) : (L.take (j + 1)).map (·.1) = (L.take j).map (·.1) ++ [y] := by
  rw [List.take_add_one, h, List.map_append]; rfl
theorem acc_push {K : PySem.W.Frag} {sm : Bool} {S : Option Addr} {m : List Addr} {H : Hp} {ys : List PV} {y : PV} {u : V} {v : Value} {s : Shared} (ac : AccOk K sm S m H ys s.heap) (hb : AllBare s.gens) (ru : RelV u v) (rv : RV K m H y u) :
    ∃ s', Lnk S s s' ∧ AccOk K sm S m H (ys ++ [y]) s'.heap := by
  cases S with
  | none => exact ⟨s, ⟨rfl, hb, fun b o _ e => e, fun z o e => nomatch e⟩, fun z e => nomatch e⟩
  | some z =>
    obtain ⟨q1, acc, c, q2, q4⟩ := ac z rfl
    cases sm with
    | false =>
      obtain ⟨vs, q3, q4⟩ := q4
      have e2 := Heap.get?_update_self (Obj.mapSeq (·.push v)) q2 rfl
      refine ⟨{ s with heap := s.heap.update z (Obj.mapSeq (·.push v)) }, ⟨rfl, hb, fun b o hb e => (Heap.get?_update_other _ _ (fun h : z = b => hb (by rw [h]))).trans e, fun z' o e _ => ?_⟩, fun z' e => ?_⟩
      · cases e
        exact ⟨_, _, e2⟩
      · cases e
        refine ⟨q1, _, _, e2, vs ++ [u], ?_, q4.append (RVs.one rv)⟩
        rw [Array.toList_push]
        exact q3.append (.cons ru .nil)
    | true =>
      have e2 := Heap.get?_update_self (Obj.mapSeq (fun _ => #[Value.int ((sumP (ys ++ [y])).getD 0) 0])) q2 rfl
      refine ⟨{ s with heap := s.heap.update z (Obj.mapSeq (fun _ => #[Value.int ((sumP (ys ++ [y])).getD 0) 0])) }, ⟨rfl, hb, fun b o hb e => (Heap.get?_update_other _ _ (fun h : z = b => hb (by rw [h]))).trans e, fun z' o e _ => ?_⟩, fun z' e => ?_⟩
      · cases e
        exact ⟨_, _, e2⟩
      · cases e
        exact ⟨q1, _, _, e2, fun n hn => ⟨0, by rw [hn]; rfl⟩⟩
theorem live_next {G : GP} {P : Program} {w : World} {A : Around} {g j : Nat} {s : Shared} {Q : Option Value → Shared → Prop} {E : Value → Shared → Prop} (hh : A.handled = none) (hd : A.depth < recursionLimit) (lv : Live G P w A g j s)
    (hG : ∀ h : Heap, h.get? G.a = some G.gobj → h.IsGen G.a g) (hSa : G.S ≠ some G.a) (hSok : ∀ z, G.S = some z → G.X.s_0.heap.objs.size ≤ z ∧ z ≠ G.X.env.locals ∧ (∀ x c, G.X.env.cells.lookup x = some c → c ≠ z)) (hpn : G.X.pn = []) (hj : j ≤ G.L.length) (hjo : j < G.L.length ∨ G.o ≠ none)
    (hy : ∀ v s1 gs' m H u y st, gs'.bare = true → G.L[j]? = some (y, st) → RelV u v → RV G.W.K m H y u → G.at m H st ((G.L.take j).map (·.1)) s1 → g < s1.gens.size →
      ((j + 1 = G.L.length ∧ G.o = none) ∨ ∀ s2, Lnk G.S s1 s2 → AccOk G.W.K G.sm G.S m H ((G.L.take (j + 1)).map (·.1)) s2.heap → s2.gens[g]? = some gs' → Live G P w A g (j + 1) s2) → Q (some v) (s1.setGen g gs'))
    (he : ∀ s1 m H st h', j = G.L.length → G.o = some st → G.at m H st (G.L.map (·.1)) s1 → (∀ b o, s1.heap.get? b = some o → h'.get? b = some o) → Q none { s1.setGen g .finished with heap := h' }) :
    wpAny (model P w) A (pyNext (.ref G.a)) Q E s := by
  obtain ⟨hg, hl, gs, hgs, hgo⟩ := lv
  have hgl : g < s.gens.size := (Array.getElem?_eq_some_iff.mp hgs).1
  refine wpAny_gsz (n := g + 1) hgl (next_genG (F := fun n _ s => G.F n s) (Er := fun _ _ => False) (A := A) hh hl hd hg hgs hgo (fun v s1 gs' hb hv => ?_) (fun s1 hp h' hk => ?_) fun e s1 hz => hz.elim)
  · intro hsz
    obtain ⟨m, H, u, j', y, st, hn, hL, ru, rv, gat, hk⟩ := hv
    obtain ⟨hx, hr, I, ac, nf⟩ := id gat
    have hsz1 : g < s1.gens.size := by
      have q : (s1.setGen g gs').gens.size = s1.gens.size := setGen_size _ _ _
      have hsz' : g + 1 ≤ (s1.setGen g gs').gens.size := hsz
      omega
    have j'lt : j' < G.L.length := (List.getElem?_eq_some_iff.mp hL).1
    by_cases hz : j = G.L.length
    · -- the last turn is over
      have ez : G.L.length - j = 0 := by omega
      rcases hk with ⟨_, ho⟩ | hk
      · exact False.elim (hjo.elim (fun z => by omega) fun z => z ho)
      · obtain ⟨s', lk, ak⟩ := acc_push ac I.bare ru rv
        have := hk s' lk (by rw [take_snoc hL]; exact ak)
        rw [ez] at this
        exact this.elim
    · have ej : j' = j := by omega
      subst ej
      refine hy v s1 gs' m H u y st hb hL ru rv gat hsz1 ?_
      rcases hk with ⟨h0, ho⟩ | hk
      · exact .inl ⟨by omega, ho⟩
      · refine .inr fun s2 lk ak hg2 => ?_
        have ga : s1.heap.get? G.a = some G.gobj := (I.pin _ (List.mem_append_right _ (List.mem_singleton.mpr rfl))).1
        have I2 := Inv.linked I lk fun z hz => by
          obtain ⟨f1, f2, f3⟩ := hSok z hz
          refine ⟨(ac z hz).1, f1, f2, f3, fun q hq => ?_⟩
          rw [hpn, List.nil_append, List.mem_singleton] at hq
          rw [hq]
          exact fun e => hSa (by rw [hz, ← e])
        refine ⟨hG _ (lk.keep _ _ hSa ga), I2.nolimit, gs', hg2, ?_⟩
        have lk2 : Lnk G.S s1 (s2.setGen g .running) := ⟨lk.os, allBare_setGen lk.bare rfl, lk.keep, lk.own⟩
        have en : G.L.length - j' = (G.L.length - (j' + 1)) + 1 := by omega
        rw [en] at hk
        exact hk _ lk2 ak
  · intro hsz
    obtain ⟨h0, st, m, H, ho, gat⟩ := hp
    exact he s1 m H st h' (by omega) ho gat hk
end Mi

namespace Mi
open PySem PySem.Spec PyProof.Rows L2
open GenW
theorem noFold_gen {env : PySem.Env} {e : Expr} (h : noFold e = true) : ∀ x, genFold e env x = pure x := by
  cases e <;> first | (intro x; rfl) | cases h
/-- the context of the generator's code, for the look -/
theorem okx_gen {p : Pr} {k : Nat} {c : Ck} {X : Cx} (o : Okx p k c X) {n : Nat} (hn : p.n = n + 1) (scope : Scope) (s : Shared) (H : Hp) (C : Addr) (cl : List (Str × Addr)) (code : Value) (fp : List Addr) (Ag : Around) (hr : Room (k + n) Ag) :
    Okx { p with n := n } k (c.gen scope) (gX X s H (genEnv scope cl C code builtinsNs X.env) fp Ag) := by
  have hg : (c.gen scope).g = n := by show c.g - 1 = n; rw [o.gn, hn]; rfl
  exact ⟨o.N, o.nd, rfl, rfl, o.calm, by rw [hg]; exact hr, hg, o.bm, o.cs, o.bl, o.fns⟩
theorem over_room {j : Nat} {A A0 : Around} {elt tg iter : Expr} {ifs : List Expr} {scope : Scope} {pos : Pos} {it : Value} {cenv : PySem.Env} (r : Room (j + 1) A) (hd : A0.depth = A.depth) (hu : A0.units ≤ A.units + 12) (hh : A0.handled = none) :
    Room j (A0.over (.compLoop (.GeneratorExp elt [⟨tg, iter, ifs, 0⟩] scope pos) 0 it .none cenv) []) := by
  have h1 := r.dp
  have h2 := r.un
  refine ⟨hh, ?_, ?_⟩
  · have e : (A0.over (.compLoop (.GeneratorExp elt [⟨tg, iter, ifs, 0⟩] scope pos) 0 it .none cenv) []).depth = A0.depth + 1 := by
      first | rfl | simp [Around.over, frameCount, Code.weight, Code.frames, Code.isFrame, Code.isCreation, Code.isGuard, Code.isCaller]
    rw [e]; omega
  · have e : (A0.over (.compLoop (.GeneratorExp elt [⟨tg, iter, ifs, 0⟩] scope pos) 0 it .none cenv) []).units = A0.units + 3 := by
      first | rfl | simp [Around.over, unitsOf, Code.cUnits, Code.frames, Code.isFrame]
    rw [e]; omega
theorem over_frames {A0 : Around} {elt tg iter : Expr} {ifs : List Expr} {scope : Scope} {pos : Pos} {it : Value} {cenv : PySem.Env} {l : List PySem.Env} (h : A0.frames = some l) :
    (A0.over (.compLoop (.GeneratorExp elt [⟨tg, iter, ifs, 0⟩] scope pos) 0 it .none cenv) []).frames = some (cenv :: l) := by
  show pushEnvs [cenv] (pushEnvs [] A0.frames) = _
  rw [h]; rfl
section
variable {p : Pr} {k : Nat} {c : Ck} {X : Cx} {elt tg iter : Expr} {ifs : List Expr} {scope : Scope} {gpos : Pos} {e t i f : IR} {own : List (Str × Nat)} {pins : List (Addr × Obj)} {s : Shared} {σ : L2.St} {H : Hp}
/-- the generator is made; it may be walked in any around -/
theorem gen_make {n : Nat} (o : Okx p k c X) (hn : p.n = n + 1) (he : ∀ p, SE p k e) (ht : ∀ p, SG p k t) (hi : SI p k i) (hf : ∀ p, STs p k f)
    (h1 : chkI c i tg iter = true) (h2 : noFold iter = true) (h3 : genC c.N c.sc scope own = true) (h4 : (slG t).all (fun i => decide (i ∈ own.map (·.2))) = true) (h5 : chkG (c.gen scope) t tg = true) (h6 : chkT (c.gen scope) f ifs = true) (h7 : chkE (c.gen scope) e elt = true)
    (I : Inv X pins σ H s) {ρ : Env} {m0 : List Addr} {st0 : Store} {items : List PV} {src : Option Nat} {st1 : Store} (sr : SR X p ρ m0 σ H st0) (ev : evI p.C i ρ st0 = some (items, src, st1)) {Q : Value → Shared → Prop}
    (hQ : ∀ (a : Addr) (g : Nat) (m1 : List Addr) (H1 : Hp) (s5 : Shared), HX X.K m0 H m1 H1 → HR (wo X p.tb p.D) m1 H1 st1 → s5.heap.IsGen a g → Inv X pins σ H1 s5 →
      (∀ (A0 : Around) (stop : PV → Bool) (sm : Bool) (S : Option Addr) (L : List (PV × Store)) (ol : Option Store) (s6 : Shared), A0.frames = X.A.frames → A0.handled = none → A0.depth = X.A.depth → A0.units ≤ X.A.units + 10 → Lnk none s5 s6 → s6.gens[g]? = s5.gens[g]? →
        (∀ z, S = some z → s5.heap.objs.size ≤ z) → AccOk X.K sm S m1 H1 [] s6.heap →
        yieldsP stop (stands src items) (evG p.C t) (fun ρ st => evT p.C f ρ st) (fun ρ st => evE p.C e ρ st) (wipeP ρ (own.map (·.2))) items st1 = some (L, ol) →
        ∃ G : GP, G.L = L ∧ G.o = ol ∧ G.sm = sm ∧ G.S = S ∧ G.W = wo X p.tb p.D ∧ G.m1 = m1 ∧ G.H1 = H1 ∧ G.a = a ∧ Live G X.prog X.w A0 g 0 s6 ∧ (∀ h : Heap, h.get? G.a = some G.gobj → h.IsGen G.a g) ∧ G.S ≠ some G.a ∧
          (∀ z, G.S = some z → G.X.s_0.heap.objs.size ≤ z ∧ z ≠ G.X.env.locals ∧ (∀ x c, G.X.env.cells.lookup x = some c → c ≠ z)) ∧ G.X.pn = [] ∧ ∀ m' H' st ys s', G.at m' H' st ys s' → Inv X pins σ H' s') → Q (.ref a) s5) :
    wpAny (model X.prog X.w) X.A (eval (.GeneratorExp elt [⟨tg, iter, ifs, 0⟩] scope gpos) X.env) Q X.xe s := by
  unfold genC at h3
  simp only [Bool.and_eq_true, Bool.not_eq_true', decide_eq_true_eq, List.all_eq_true] at h3
  obtain ⟨⟨b1, b2⟩, b4⟩ := h3
  have ok : BlkOk X.N X.env.scope scope own := blkOk_by (by rw [o.N, o.sc]; exact b1)
  have hN : X.N.Nodup := by rw [o.N]; exact o.nd
  have hfree : ∀ y ∈ scope.names, y.2 = .free → ∃ c, X.env.cells.lookup y.1 = some c := fun y hy e => by
    rcases ok.free y hy e with k | k
    · exact I.ok.has _ (.inl k)
    · exact I.ok.has _ (.inr k)
  have hsl : ∀ j ∈ slG t, j ∈ own.map (·.2) := fun j hj => of_decide_eq_true (List.all_eq_true.mp h4 j hj)
  refine genExp_make b2 (closure_ok hfree) b4 ok.kind (by have := o.room.dp; omega) ?_ (noFold_gen h2)
  refine thn ((hi c X tg iter o h1).run pins s σ H (fun J H' => ∃ m1, HX X.K m0 H m1 H' ∧ HR (wo X p.tb p.D) m1 H' st1 ∧ ItM (wo X p.tb p.D) m1 H' items src J) I ⟨ρ, m0, st0, items, src, st1, sr, ev, fun J m' H' hx hr it => ⟨m', hx, hr, it⟩⟩) fun xv s1 hx => thn hx fun itv s2 h2' => ?_
  obtain ⟨it, fp, tn, J, H2, eit, I2, T, st2, f2, m1, hx2, hr2, itm⟩ := h2'
  subst eit
  refine ⟨I2.nolimit, ?_⟩
  have ct2 : CT0 X.base X.env.code (n + 1) H2 := by have := sr.ct.mono hx2; rw [hn] at this; exact this
  refine code_ok I2 ct2 fun c' P' H3 h3 tk hc' htd I3 hX3 hR3 hk3 hsz3 => ?_
  have hx3 := hx2.trans (hX3 m1)
  have hr3 := hR3 _ _ _ hr2
  have it3 : ItM (wo X p.tb p.D) m1 H3 items src J := fun m H st x => itm m H st ((hX3 m1).toHM.trans x)
  have fpl : ∀ b ∈ fp, b < s2.heap.objs.size := fun b hb => by obtain ⟨ob, e, _⟩ := T.obj _ _ st2 b hb; exact Heap.lt_size e
  have f3 : ∀ b ∈ fp, FpOk X pins H3 b ∧ b < h3.objs.size := fun b hb => by
    obtain ⟨ob, e, _⟩ := T.obj _ _ st2 b hb
    obtain ⟨q1, q2, q3, q4, q5, q6⟩ := f2 b hb
    exact ⟨⟨(hk3 b ob q1 e).2, q2, q3, q4, q5, q6⟩, Nat.lt_of_lt_of_le (fpl b hb) hsz3⟩
  have st3 : tn 0 h3 := T.keep _ _ _ st2 fun b hb ob e => (hk3 b ob (f2 b hb).1 e).1
  obtain ⟨bm, ob, e1, e2, e3, e4, e5, e6⟩ := o.bm
  refine wpAny_builtinsFor (m := X.mg) (by rw [I3.ok.glob]; exact I3.mod.glob.keeps I3.bk) e1 e2 (I3.bk _ _ e3) e4 e5 e6 ?_
  generalize hs4 : ({ s2 with heap := h3, toks := tk } : Shared) = s4 at I3 ⊢
  have hp4 : s4.heap = h3 := by rw [← hs4]
  rw [← hp4] at f3 st3
  intro h' ns' sb'
  have hsz : s4.heap.objs.size + 1 ≤ h'.objs.size := by
    rw [sb'.1]
    have := pushCells_size scope.names (s4.heap.push { cls := .type "frame", data := .dict #[] })
    rw [Heap.size_push] at this
    exact this
  have keep' : ∀ b o, s4.heap.get? b = some o → h'.get? b = some o := fun b o e => sb'.extBut b o (Nat.ne_of_lt (Heap.lt_size e)) (pushCells_keeps _ _ _ _ (Heap.get?_push_of_some _ e))
  generalize hgo : ({ cls := .type "generator", data := .fields #[.int s4.gens.size 0, .str "<genexpr>" (s4.toks + 1), .str (X.env.qual ++ "<genexpr>") (s4.toks + 1 + 1)] } : Obj) = gobj
  have hgen : ∀ (h : Heap) (a : Addr), h.get? a = some gobj → h.IsGen a s4.gens.size := fun h a e => ⟨gobj, _, _, e, by rw [← hgo], by rw [← hgo], by rw [← hgo]⟩
  have gfree : gobj.isFreed = false := by rw [← hgo]; rfl
  have gcell : ∀ v, gobj.data ≠ .cell v := fun v z => by rw [← hgo] at z; cases z
  have keep5 : ∀ b o, s4.heap.get? b = some o → (h'.push gobj).get? b = some o := fun b o e => Heap.get?_push_of_some _ (keep' b o e)
  have hga : (h'.push gobj).get? h'.objs.size = some gobj := Heap.get?_push_size _ gfree
  refine hQ h'.objs.size s4.gens.size m1 H3 _ hx3 hr3 (hgen _ _ hga) (Inv.linked I3 (S := none) ⟨rfl, AllBare.push I3.bare rfl, fun b o _ e => keep5 b o e, fun z o e => nomatch e⟩ fun z e => nomatch e) ?_
  intro A0 stop sm S L ol s6 hA1 hA2 hA3 hA4 lk hg6 hS ac ys
  generalize hce : genEnv scope (cellsFrom (s4.heap.objs.size + 1) scope.names (cloFrom X.env.cells scope.names [])) s4.heap.objs.size (.ref c') builtinsNs X.env = cenv at hg6
  have ecl : cenv.locals = s4.heap.objs.size := by rw [← hce]; rfl
  have k6 : ∀ b o, s4.heap.get? b = some o → s6.heap.get? b = some o := fun b o e => lk.keep b o (fun z => nomatch z) (keep5 b o e)
  have hga6 : s6.heap.get? h'.objs.size = some gobj := lk.keep _ _ (fun z => nomatch z) hga
  have hgen6 : s6.gens[s4.gens.size]? = some (.fresh (.compStart (.GeneratorExp elt [⟨tg, iter, ifs, 0⟩] scope gpos) 0 (.ref it) .none cenv)) := by
    rw [hg6]
    exact Array.getElem?_push_size
  have hfr : (A0.in1.over (.compLoop (.GeneratorExp elt [⟨tg, iter, ifs, 0⟩] scope gpos) 0 (.ref it) .none cenv) []).frames = some (cenv :: X.stack) := over_frames (by show A0.frames = _; rw [hA1]; exact I.ok.frames)
  have hroom : Room (k + n) (A0.in1.over (.compLoop (.GeneratorExp elt [⟨tg, iter, ifs, 0⟩] scope gpos) 0 (.ref it) .none cenv) []) :=
    over_room (A := X.A) (by have := o.room; rw [o.gn, hn] at this; exact this) hA3 (by show A0.units + 1 ≤ _; omega) hA2
  generalize hAg : A0.in1.over (.compLoop (.GeneratorExp elt [⟨tg, iter, ifs, 0⟩] scope gpos) 0 (.ref it) .none cenv) [] = Ag at hfr hroom
  have ha : s4.heap.objs.size < h'.objs.size := hsz
  have I7 : Inv (gX X s4 H3 cenv fp Ag) [(h'.objs.size, gobj)] (wipe σ (own.map (·.2))) H3 { s4 with heap := s6.heap, gens := (s6.setGen s4.gens.size .running).gens, toks := s6.toks } := by
    have := gen_start (a := h'.objs.size) (gobj := gobj) (code := .ref c') (Ag := Ag) (h5 := s6.heap) (g5 := (s6.setGen s4.gens.size .running).gens) (t5 := s6.toks) I3 ok hN f3 (by rw [hce]; exact hfr) hroom.hd (fun b o hb e => lk.keep b o (fun z => nomatch z) (Heap.get?_push_of_some _ (sb'.extBut b o hb e)))
      ((ns'.push gobj).keeps fun b o e => lk.keep b o (fun z => nomatch z) e) ha hga6 gcell (allBare_setGen lk.bare rfl)
    rw [hce] at this
    exact this
  have os6 : s6.os = s4.os := lk.os
  have I8 : Inv (gX X s4 H3 cenv fp Ag) [(h'.objs.size, gobj)] (wipe σ (own.map (·.2))) H3 (s6.setGen s4.gens.size .running) :=
    Inv.linked I7 (S := none) ⟨os6, allBare_setGen lk.bare rfl, fun b o _ e => e, fun z o e => nomatch e⟩ fun z e => nomatch e
  have okg : Okx { p with n := n } k (c.gen scope) (gX X s4 H3 cenv fp Ag) := by rw [← hce]; exact okx_gen o hn scope s4 H3 _ _ _ fp Ag hroom
  have sr3 : SR (gX X s4 H3 cenv fp Ag) { p with n := n } (wipeP ρ (own.map (·.2))) m1 (wipe σ (own.map (·.2))) H3 st1 := by
    have w := (sr.mono hx3 hr3).wiped (own.map (·.2))
    refine ⟨w.rs, w.len, w.hr, c', P', ?_, .inr hc', htd⟩
    show cenv.code = _
    rw [← hce]; rfl
  have zlt : ∀ z, S = some z → s4.heap.objs.size < z ∧ h'.objs.size < z := fun z hz => by
    have := hS z hz
    have h9 : (h'.push gobj).objs.size ≤ z := this
    rw [Heap.size_push] at h9
    omega
  have clt : ∀ x cc, cenv.cells.lookup x = some cc → cc < h'.objs.size := fun x cc e => by
    rw [← hce] at e
    have e : (cellsFrom (s4.heap.objs.size + 1) scope.names (cloFrom X.env.cells scope.names [])).lookup x = some cc := e
    rw [← Heap.size_push s4.heap { cls := .type "frame", data := .dict #[] }] at e
    rcases cells_mem (PySem.mem_of_lookup e) with hm | ⟨_, _, o, ho, _⟩
    · rcases cloFrom_mem hm with hm | ⟨hm1, hm2⟩
      · cases hm
      · obtain ⟨c2, hc2⟩ := hfree _ hm1 rfl
        rw [hc2] at hm2
        have : cc = c2 := hm2
        rw [this]
        obtain ⟨w, zz⟩ := I3.cell _ _ hc2
        exact Nat.lt_trans zz.lt ha
    · have := Heap.lt_size ho
      rw [sb'.1]
      exact this
  have gok : GOk (gX X s4 H3 cenv fp Ag) h'.objs.size S fp := by
    refine ⟨fun b hb => ?_, fun z hz => ?_⟩
    · obtain ⟨⟨q1, q2, q3, q4, q5, q6⟩, q7⟩ := f3 b hb
      refine ⟨I8.ok.exf b hb |>.1, I8.ok.exfs b hb, hb, fun x cc e => (I8.ok.exf b hb).2 x cc e, fun z => ?_, fun z => ?_⟩
      · rw [← z] at q7
        exact Nat.lt_irrefl _ (Nat.lt_trans q7 ha)
      · have := (zlt b z).1
        exact Nat.lt_irrefl _ (Nat.lt_trans q7 this)
    · obtain ⟨z1, z2⟩ := zlt z hz
      refine ⟨Nat.le_of_lt z1, ?_, fun w => ?_, fun x cc e => Nat.ne_of_lt (Nat.lt_trans (clt x cc e) z2), Nat.ne_of_lt z2⟩
      · show z ≠ cenv.locals
        rw [ecl]; exact Nat.ne_of_gt z1
      · obtain ⟨_, oo, ho, _⟩ := I8.ok.funs.mem w
        exact Nat.lt_irrefl _ (Nat.lt_trans (Heap.lt_size ho) z1)
  refine ⟨⟨gX X s4 H3 cenv fp Ag, wo X p.tb p.D, m1, H3, wipe σ (own.map (·.2)), h'.objs.size, gobj, sm, S, L, ol, fp, tn⟩, rfl, rfl, rfl, rfl, rfl, rfl, rfl, rfl, ⟨hgen _ _ hga6, I8.nolimit, _, hgen6, rfl, ?_⟩, fun h e => hgen h _ e, fun z => Nat.lt_irrefl _ (zlt _ z).2,
    fun z hz => let q := gok.acc z hz; ⟨q.1, q.2.1, q.2.2.2.1⟩, rfl, fun m' H' st ys s' gat => ?_⟩
  · -- the first turn
    have loop := seg_gen (A := A0.in1) (pos := gpos) (scope := scope) (iter := iter) (elt := elt) (stop := stop) (sm := sm) (L := L) (o := ol) (S := S) (gobj := gobj) (a := h'.objs.size) (p := { p with n := n }) (tn := tn) (Xg := gX X s4 H3 cenv fp Ag) (e := e) (t := t) (f := f) (own := own.map (·.2)) (ρw := wipeP ρ (own.map (·.2))) (σw := wipe σ (own.map (·.2))) (items := items) (src := src) (m1 := m1) (H1 := H3) (st1 := st1) (ifs := ifs) (tg := tg) (it := it) (J := J) (fp := fp)
      hAg (by show cenv.scope.isCoroutine = false; rw [← hce]; exact b2) T o.calm rfl rfl (ht _ _ _ _ okg h5) (hf _ _ _ _ okg h6) (he _ _ _ _ okg h7).1 gok it3 sr3 hsl wipe_wipe items 0 0 st1 m1 H3 (s6.setGen s4.gens.size .running) (s6.setGen s4.gens.size .running) (List.drop_zero) (Nat.zero_le _)
      (by rw [List.drop_zero]; exact ys) (Nat.zero_le _) ⟨HX.refl, hr3, I8, by rw [List.take_zero]; exact ac, fun b hb => (f3 b hb).1.1⟩ (T.keep _ _ _ st3 fun b hb o e => k6 b o e)
    show Seg _ A0.in1 _ _ _ _ _ ((compStart (.GeneratorExp elt [⟨tg, iter, ifs, 0⟩] scope gpos) 0 (.ref it) .none cenv).onRaise (leaving cenv)) [] _
    unfold compStart
    rw [Sem.onRaise_eq_wrap]
    show Seg _ A0.in1 _ _ _ _ _ ((ask >>= _).wrap _ _ _ _) [] _
    refine seg_bind_wrap (wpAny_askSetting ?_)
    split
    · exact seg_again rfl loop
    · first
        | exact seg_bind_wrap (wpAny_rule (seg_bind_wrap (wpAny_standAt (seg_bind_wrap (T.self _ 0 _ _ _ (T.keep _ _ _ st3 fun b hb o e => k6 b o e) (seg_again rfl loop))))))
        | (refine seg_bind_wrap (wpAny_rule ?_); show Seg _ A0.in1 _ _ _ _ _ ((standAt iter.pos >>= _).wrap _ _ _ _) [] _; exact seg_bind_wrap (wpAny_standAt (seg_bind_wrap (T.self _ 0 _ _ _ (T.keep _ _ _ st3 fun b hb o e => k6 b o e) (seg_again rfl loop)))))
  · obtain ⟨_, _, J, _, _⟩ := gat
    have J : Inv (gX X s4 H3 cenv fp Ag) [(h'.objs.size, gobj)] (wipe σ (own.map (·.2))) H' s' := J
    exact I3.call' (ch := fp) J.os J.base J.hok J.bare fun b hb => ⟨(f3 b hb).1.2.2.2.1, (f3 b hb).1.2.1, (f3 b hb).1.2.2.2.2.1, (f3 b hb).1.2.2.2.2.2⟩
end
end Mi

namespace Mi
open PySem PySem.Spec PyProof.Rows L2
open GenW
/-- any, all: what comes out, by the trace -/
theorem loopB_tr {stop : Bool} {chk : Store → Bool} {g : PV → Env → Store → Option (Env × Store)} {t : Env → Store → Option (Bool × Store)} {e : Env → Store → Out} {ρ : Env} : ∀ {items : List PV} {st st' : Store} {b : Bool}, loopB stop chk g t e ρ items st = some (b, st') →
    ∃ L ol, yieldsP (fun y => decide (y = .bl stop)) chk g t e ρ items st = some (L, ol) ∧ (∀ j y s, L[j]? = some (y, s) → ∃ d, y = .bl d ∧ (d = stop ↔ (j + 1 = L.length ∧ ol = none))) ∧
      (ol = none → b = stop ∧ L ≠ [] ∧ ∃ y, L[L.length - 1]? = some (y, st')) ∧ ∀ s, ol = some s → b = (!stop) ∧ s = st'
  | [], st, st', b, h => by
    simp only [loopB] at h
    split at h
    · rename_i hc
      cases h
      exact ⟨[], some _, by simp only [yieldsP]; rw [if_pos hc], (fun j y s q => by simp at q), (fun q => by cases q), fun s q => by cases q; exact ⟨rfl, rfl⟩⟩
    · cases h
  | x :: r, st, st', b, h => by
    simp only [loopB] at h
    split at h
    · rename_i hc
      split at h
      · cases h
      · rename_i ρ1 st1 e1
        split at h
        · cases h
        · rename_i st2 e2
          obtain ⟨L, ol, h1, h2, h3, h4⟩ := loopB_tr h
          exact ⟨L, ol, by simp only [yieldsP]; rw [if_pos hc, e1]; simp only [e2]; exact h1, h2, h3, h4⟩
        · rename_i st2 e2
          split at h
          · rename_i d st3 e3
            split at h
            · rename_i hd
              cases h
              subst hd
              refine ⟨[(.bl d, st')], none, by simp only [yieldsP]; rw [if_pos hc, e1]; simp only [e2, e3]; rw [if_pos (by simp)], fun j y s q => ?_, fun _ => ⟨rfl, by simp, _, rfl⟩, fun s q => by cases q⟩
              cases j with
              | zero => simp at q; obtain ⟨rfl, rfl⟩ := q; exact ⟨d, rfl, by simp⟩
              | succ j => simp at q
            · rename_i hd
              obtain ⟨L, ol, h1, h2, h3, h4⟩ := loopB_tr h
              refine ⟨(.bl d, st3) :: L, ol, by simp only [yieldsP]; rw [if_pos hc, e1]; simp only [e2, e3]; rw [if_neg (by simpa using hd)]; simp only [h1], fun j y s q => ?_, fun q => ?_, h4⟩
              · cases j with
                | zero =>
                  simp at q
                  obtain ⟨rfl, rfl⟩ := q
                  refine ⟨d, rfl, fun z => absurd z hd, fun ⟨z1, z2⟩ => ?_⟩
                  obtain ⟨_, w, _⟩ := h3 z2
                  rw [List.length_cons] at z1
                  exact absurd (List.length_eq_zero_iff.mp (by omega)) w
                | succ j =>
                  rw [List.getElem?_cons_succ] at q
                  obtain ⟨d', w1, w2⟩ := h2 j y s q
                  refine ⟨d', w1, w2.trans ?_⟩
                  rw [List.length_cons]
                  constructor <;> rintro ⟨a, b⟩ <;> exact ⟨by omega, b⟩
              · obtain ⟨w1, w2, y, w3⟩ := h3 q
                refine ⟨w1, by simp, y, ?_⟩
                have : 0 < L.length := List.length_pos_iff.mpr w2
                rw [List.length_cons, show L.length + 1 - 1 = (L.length - 1) + 1 by omega, List.getElem?_cons_succ]
                exact w3
          · cases h
    · cases h

section
variable {G : GP} {P : Program} {w : World} {A : Around} {g : Nat} {R : Result → Shared → Prop}
theorem any_loop (hh : A.handled = none) (hd : A.depth < recursionLimit) (hG : ∀ h : Heap, h.get? G.a = some G.gobj → h.IsGen G.a g) (hS : G.S = none) (hpn : G.X.pn = [])
    (hL : ∀ j y s, G.L[j]? = some (y, s) → ∃ d, y = .bl d ∧ (d = true ↔ (j + 1 = G.L.length ∧ G.o = none)))
    (h1 : ∀ s1 m H st ys y, G.o = none → G.L[G.L.length - 1]? = some (y, st) → G.at m H st ys s1 → ∀ s', Lnk none s1 s' → R (.ok (.ret (.bool true))) s')
    (h2 : ∀ s1 m H st ys, G.o = some st → G.at m H st ys s1 → ∀ s', Lnk none s1 s' → R (.ok (.ret (.bool false))) s') :
    ∀ (n j : Nat) (s : Shared), G.L.length - j = n → j ≤ G.L.length → (j < G.L.length ∨ G.o ≠ none) → Live G P w A.in1 g j s → codeAny (model P w) A (.builtin "any.loop" ⟨[.ref G.a], []⟩) R s := by
  have sa : G.S ≠ some G.a := by rw [hS]; exact fun z => nomatch z
  have sk : ∀ z, G.S = some z → G.X.s_0.heap.objs.size ≤ z ∧ z ≠ G.X.env.locals ∧ (∀ x c, G.X.env.cells.lookup x = some c → c ≠ z) := fun z e => by rw [hS] at e; cases e
  intro n
  induction n with
  | zero =>
    intro j s hn hj hjo lv
    have ej : j = G.L.length := by omega
    refine codeAny_builtin F.entry_any_loop ?_
    rw [Around.under_plainId F.plain_any_loop _]
    show wpAny _ A.in1 (pyNext (.ref G.a) >>= _) _ _ s
    refine wpAny_bind (live_next (A := A.in1) hh hd lv hG sa sk hpn hj hjo (fun v s1 gs' m H u y st hb hL' ru rv gat hg hk => ?_) fun s1 m H st h' e1 e2 gat hk => ?_)
    · have := (List.getElem?_eq_some_iff.mp hL').1
      omega
    · refine wpAny_bind (wpAny_rule (wpAny_pure ?_))
      obtain ⟨_, _, I, _, _⟩ := id gat
      exact h2 s1 m H st _ e2 gat _ ⟨rfl, allBare_setGen I.bare rfl, fun b o _ e => hk b o e, fun z o e => nomatch e⟩
  | succ n ih =>
    intro j s hn hj hjo lv
    have jlt : j < G.L.length := by omega
    refine codeAny_builtin F.entry_any_loop ?_
    rw [Around.under_plainId F.plain_any_loop _]
    show wpAny _ A.in1 (pyNext (.ref G.a) >>= _) _ _ s
    refine wpAny_bind (live_next (A := A.in1) hh hd lv hG sa sk hpn hj hjo (fun v s1 gs' m H u y st hb hL' ru rv gat hg hk => ?_) fun s1 m H st h' e1 e2 gat hk => ?_)
    · obtain ⟨d, ey, hd'⟩ := hL j y st hL'
      subst ey
      have eu : u = .bl d := rv
      subst eu
      have ev : v = Value.bool d := ru
      subst ev
      obtain ⟨_, _, I, _, _⟩ := id gat
      have lk : Lnk none s1 (s1.setGen g gs') := ⟨rfl, allBare_setGen I.bare hb, fun b o _ e => e, fun z o e => nomatch e⟩
      refine wpAny_bind (wpAny_holding (wpAny_truthy_bool ?_))
      refine wpAny_bind (wpAny_letGo ?_)
      cases d with
      | true =>
        simp only [if_true]
        refine wpAny_bind (wpAny_rule (wpAny_pure ?_))
        obtain ⟨q1, q2⟩ := hd'.mp rfl
        have ej : j = G.L.length - 1 := by omega
        exact h1 s1 m H st _ _ q2 (by rw [← ej]; exact hL') gat _ lk
      | false =>
        simp only [Bool.false_eq_true, if_false]
        have nst : ¬ (j + 1 = G.L.length ∧ G.o = none) := fun z => by
          have := hd'.mpr z
          cases this
        refine wpAny_pure ⟨plainId_quiet F.plain_any_loop _, ih (j + 1) _ (by omega) jlt ?_ ?_⟩
        · by_cases hz : j + 1 = G.L.length
          · exact .inr fun z => nst ⟨hz, z⟩
          · exact .inl (by omega)
        · rcases hk with hk | hk
          · exact absurd hk nst
          · exact hk _ (by rw [hS]; exact lk) (fun z e => by rw [hS] at e; cases e) (setGen_at hg)
    · omega
end

section
variable {p : Pr} {k : Nat} {c : Ck} {X : Cx} {elt tg iter : Expr} {ifs : List Expr} {scope : Scope} {gpos pos q : Pos} {e t i f : IR} {own : List (Str × Nat)}
theorem pe_anyM {n : Nat} (o : Okx p k c X) (hn : p.n = n + 1) (he : ∀ p, SE p k e) (ht : ∀ p, SG p k t) (hi : SI p k i) (hf : ∀ p, STs p k f) (hg : Gl X "any")
    (h1 : chkI c i tg iter = true) (h2 : noFold iter = true) (h3 : genC c.N c.sc scope own = true) (h4 : (slG t).all (fun i => decide (i ∈ own.map (·.2))) = true) (h5 : chkG (c.gen scope) t tg = true) (h6 : chkT (c.gen scope) f ifs = true) (h7 : chkE (c.gen scope) e elt = true) :
    PE X (.Call (.Name "any" q) [.GeneratorExp elt [⟨tg, iter, ifs, 0⟩] scope gpos] [] pos) (tE X p (.gx .any e t i f own)) := by
  refine ⟨fun pins s σ H Q I ⟨ρ, m0, st0, pv, st', sr, ev, n⟩ => ?_⟩
  simp only [evE] at ev
  split at ev
  · rename_i items src st1 e1
    split at ev
    · rename_i b st2 e2
      cases ev
      obtain ⟨L, ol, y1, y2, y3, y4⟩ := loopB_tr e2
      have hs : starEach [.GeneratorExp elt [⟨tg, iter, ifs, 0⟩] scope gpos] X.env = (false, eval (.GeneratorExp elt [⟨tg, iter, ifs, 0⟩] scope gpos) X.env) :: starEach [] X.env := rfl
      refine wpAny_Call_Name_kw (ld_blt I hg (o.bl _ (by decide)) boot_any ?_)
      refine PyProof.Rows.callWith_builtin1 ?_ hs (by rfl)
      rw [hs]
      show wpAny _ _ (spliced ((false, eval (.GeneratorExp elt [⟨tg, iter, ifs, 0⟩] scope gpos) X.env) :: backTo pos (starEach [] X.env))) _ _ s
      refine Calls.spliced_cons (gen_make o hn he ht hi hf h1 h2 h3 h4 h5 h6 h7 I sr e1 fun a g m1 H1 s5 hx hr hgen I5 start => ?_)
      refine Calls.spliced_nil ?_
      refine call_function_tree F.kind_any F.plain_any F.entry_any (F.args_any1 _) ?_
      unfold Builtin.«any»
      refine wpAny_bind (m := oneArg "any" _) (wpAny_pure ?_)
      refine wpAny_bind (wpAny_pyIter_gen hgen ?_)
      obtain ⟨G, rfl, rfl, _, gS, gW, rfl, rfl, rfl, lv, g1, g2, g3, g4, g5⟩ := start X.A.in1 _ false none L ol s5 rfl (I5.ok.hd o.calm) rfl (by show X.A.units + 1 ≤ _; omega) ⟨rfl, I5.bare, fun b o _ e => e, fun z o e => nomatch e⟩ rfl (fun z e => nomatch e) (fun z e => nomatch e) y1
      refine wpAny_pure ⟨plainId_quiet F.plain_any_loop _, any_loop (A := X.A) o.room.hd (by have := o.room.dp; omega) g1 gS g4 y2 (fun s1 m H st ys y ho hL gat s' lk => ?_) (fun s1 m H st ys ho gat s' lk => ?_) _ 0 s5 rfl (Nat.zero_le _) ?_ lv⟩
      · obtain ⟨w1, w2, y', w3⟩ := y3 ho
        rw [w3] at hL
        cases hL
        have J := Inv.linked (g5 _ _ _ _ _ gat) lk fun z e => nomatch e
        obtain ⟨hx2, hr2, _, _, _⟩ := gat
        rw [gW] at hx2 hr2
        subst w1
        exact ⟨.bl _, H, J, rfl, n _ m H (hx.trans hx2) hr2 rfl⟩
      · obtain ⟨w1, w2⟩ := y4 st ho
        have J := Inv.linked (g5 _ _ _ _ _ gat) lk fun z e => nomatch e
        obtain ⟨hx2, hr2, _, _, _⟩ := gat
        rw [gW] at hx2 hr2
        subst w1 w2
        exact ⟨.bl _, H, J, rfl, n _ m H (hx.trans hx2) hr2 rfl⟩
      · by_cases hz : G.o = none
        · obtain ⟨_, w2, _⟩ := y3 hz
          exact .inl (List.length_pos_iff.mpr w2)
        · exact .inr hz
    · cases ev
  · cases ev
end

section
variable {G : GP} {P : Program} {w : World} {A : Around} {g : Nat} {R : Result → Shared → Prop}
theorem all_loop (hh : A.handled = none) (hd : A.depth < recursionLimit) (hG : ∀ h : Heap, h.get? G.a = some G.gobj → h.IsGen G.a g) (hS : G.S = none) (hpn : G.X.pn = [])
    (hL : ∀ j y s, G.L[j]? = some (y, s) → ∃ d, y = .bl d ∧ (d = false ↔ (j + 1 = G.L.length ∧ G.o = none)))
    (h1 : ∀ s1 m H st ys y, G.o = none → G.L[G.L.length - 1]? = some (y, st) → G.at m H st ys s1 → ∀ s', Lnk none s1 s' → R (.ok (.ret (.bool false))) s')
    (h2 : ∀ s1 m H st ys, G.o = some st → G.at m H st ys s1 → ∀ s', Lnk none s1 s' → R (.ok (.ret (.bool true))) s') :
    ∀ (n j : Nat) (s : Shared), G.L.length - j = n → j ≤ G.L.length → (j < G.L.length ∨ G.o ≠ none) → Live G P w A.in1 g j s → codeAny (model P w) A (.builtin "all.loop" ⟨[.ref G.a], []⟩) R s := by
  have sa : G.S ≠ some G.a := by rw [hS]; exact fun z => nomatch z
  have sk : ∀ z, G.S = some z → G.X.s_0.heap.objs.size ≤ z ∧ z ≠ G.X.env.locals ∧ (∀ x c, G.X.env.cells.lookup x = some c → c ≠ z) := fun z e => by rw [hS] at e; cases e
  intro n
  induction n with
  | zero =>
    intro j s hn hj hjo lv
    have ej : j = G.L.length := by omega
    refine codeAny_builtin F.entry_all_loop ?_
    rw [Around.under_plainId F.plain_all_loop _]
    show wpAny _ A.in1 (pyNext (.ref G.a) >>= _) _ _ s
    refine wpAny_bind (live_next (A := A.in1) hh hd lv hG sa sk hpn hj hjo (fun v s1 gs' m H u y st hb hL' ru rv gat hg hk => ?_) fun s1 m H st h' e1 e2 gat hk => ?_)
    · have := (List.getElem?_eq_some_iff.mp hL').1
      omega
    · refine wpAny_bind (wpAny_rule (wpAny_pure ?_))
      obtain ⟨_, _, I, _, _⟩ := id gat
      exact h2 s1 m H st _ e2 gat _ ⟨rfl, allBare_setGen I.bare rfl, fun b o _ e => hk b o e, fun z o e => nomatch e⟩
  | succ n ih =>
    intro j s hn hj hjo lv
    have jlt : j < G.L.length := by omega
    refine codeAny_builtin F.entry_all_loop ?_
    rw [Around.under_plainId F.plain_all_loop _]
    show wpAny _ A.in1 (pyNext (.ref G.a) >>= _) _ _ s
    refine wpAny_bind (live_next (A := A.in1) hh hd lv hG sa sk hpn hj hjo (fun v s1 gs' m H u y st hb hL' ru rv gat hg hk => ?_) fun s1 m H st h' e1 e2 gat hk => ?_)
    · obtain ⟨d, ey, hd'⟩ := hL j y st hL'
      subst ey
      have eu : u = .bl d := rv
      subst eu
      have ev : v = Value.bool d := ru
      subst ev
      obtain ⟨_, _, I, _, _⟩ := id gat
      have lk : Lnk none s1 (s1.setGen g gs') := ⟨rfl, allBare_setGen I.bare hb, fun b o _ e => e, fun z o e => nomatch e⟩
      refine wpAny_bind (wpAny_holding (wpAny_truthy_bool ?_))
      refine wpAny_bind (wpAny_letGo ?_)
      cases d with
      | false =>
        simp only [Bool.false_eq_true, if_false]
        refine wpAny_bind (wpAny_rule (wpAny_pure ?_))
        obtain ⟨q1, q2⟩ := hd'.mp rfl
        have ej : j = G.L.length - 1 := by omega
        exact h1 s1 m H st _ _ q2 (by rw [← ej]; exact hL') gat _ lk
      | true =>
        simp only [if_true]
        have nst : ¬ (j + 1 = G.L.length ∧ G.o = none) := fun z => by
          have := hd'.mpr z
          cases this
        refine wpAny_pure ⟨plainId_quiet F.plain_all_loop _, ih (j + 1) _ (by omega) jlt ?_ ?_⟩
        · by_cases hz : j + 1 = G.L.length
          · exact .inr fun z => nst ⟨hz, z⟩
          · exact .inl (by omega)
        · rcases hk with hk | hk
          · exact absurd hk nst
          · exact hk _ (by rw [hS]; exact lk) (fun z e => by rw [hS] at e; cases e) (setGen_at hg)
    · omega
end

section
variable {p : Pr} {k : Nat} {c : Ck} {X : Cx} {elt tg iter : Expr} {ifs : List Expr} {scope : Scope} {gpos pos q : Pos} {e t i f : IR} {own : List (Str × Nat)}
theorem pe_allM {n : Nat} (o : Okx p k c X) (hn : p.n = n + 1) (he : ∀ p, SE p k e) (ht : ∀ p, SG p k t) (hi : SI p k i) (hf : ∀ p, STs p k f) (hg : Gl X "all")
    (h1 : chkI c i tg iter = true) (h2 : noFold iter = true) (h3 : genC c.N c.sc scope own = true) (h4 : (slG t).all (fun i => decide (i ∈ own.map (·.2))) = true) (h5 : chkG (c.gen scope) t tg = true) (h6 : chkT (c.gen scope) f ifs = true) (h7 : chkE (c.gen scope) e elt = true) :
    PE X (.Call (.Name "all" q) [.GeneratorExp elt [⟨tg, iter, ifs, 0⟩] scope gpos] [] pos) (tE X p (.gx .all e t i f own)) := by
  refine ⟨fun pins s σ H Q I ⟨ρ, m0, st0, pv, st', sr, ev, n⟩ => ?_⟩
  simp only [evE] at ev
  split at ev
  · rename_i items src st1 e1
    split at ev
    · rename_i b st2 e2
      cases ev
      obtain ⟨L, ol, y1, y2, y3, y4⟩ := loopB_tr e2
      have hs : starEach [.GeneratorExp elt [⟨tg, iter, ifs, 0⟩] scope gpos] X.env = (false, eval (.GeneratorExp elt [⟨tg, iter, ifs, 0⟩] scope gpos) X.env) :: starEach [] X.env := rfl
      refine wpAny_Call_Name_kw (ld_blt I hg (o.bl _ (by decide)) boot_all ?_)
      refine PyProof.Rows.callWith_builtin1 ?_ hs (by rfl)
      rw [hs]
      show wpAny _ _ (spliced ((false, eval (.GeneratorExp elt [⟨tg, iter, ifs, 0⟩] scope gpos) X.env) :: backTo pos (starEach [] X.env))) _ _ s
      refine Calls.spliced_cons (gen_make o hn he ht hi hf h1 h2 h3 h4 h5 h6 h7 I sr e1 fun a g m1 H1 s5 hx hr hgen I5 start => ?_)
      refine Calls.spliced_nil ?_
      refine call_function_tree F.kind_all F.plain_all F.entry_all (F.args_all1 _) ?_
      unfold Builtin.«all»
      refine wpAny_bind (m := oneArg "all" _) (wpAny_pure ?_)
      refine wpAny_bind (wpAny_pyIter_gen hgen ?_)
      obtain ⟨G, rfl, rfl, _, gS, gW, rfl, rfl, rfl, lv, g1, g2, g3, g4, g5⟩ := start X.A.in1 _ false none L ol s5 rfl (I5.ok.hd o.calm) rfl (by show X.A.units + 1 ≤ _; omega) ⟨rfl, I5.bare, fun b o _ e => e, fun z o e => nomatch e⟩ rfl (fun z e => nomatch e) (fun z e => nomatch e) y1
      refine wpAny_pure ⟨plainId_quiet F.plain_all_loop _, all_loop (A := X.A) o.room.hd (by have := o.room.dp; omega) g1 gS g4 y2 (fun s1 m H st ys y ho hL gat s' lk => ?_) (fun s1 m H st ys ho gat s' lk => ?_) _ 0 s5 rfl (Nat.zero_le _) ?_ lv⟩
      · obtain ⟨w1, w2, y', w3⟩ := y3 ho
        rw [w3] at hL
        cases hL
        have J := Inv.linked (g5 _ _ _ _ _ gat) lk fun z e => nomatch e
        obtain ⟨hx2, hr2, _, _, _⟩ := gat
        rw [gW] at hx2 hr2
        subst w1
        exact ⟨.bl _, H, J, rfl, n _ m H (hx.trans hx2) hr2 rfl⟩
      · obtain ⟨w1, w2⟩ := y4 st ho
        have J := Inv.linked (g5 _ _ _ _ _ gat) lk fun z e => nomatch e
        obtain ⟨hx2, hr2, _, _, _⟩ := gat
        rw [gW] at hx2 hr2
        subst w1 w2
        exact ⟨.bl _, H, J, rfl, n _ m H (hx.trans hx2) hr2 rfl⟩
      · by_cases hz : G.o = none
        · obtain ⟨_, w2, _⟩ := y3 hz
          exact .inl (List.length_pos_iff.mpr w2)
        · exact .inr hz
    · cases ev
  · cases ev
end
end Mi

namespace Mi
open PySem PySem.Spec PyProof.Rows L2
open GenW
/-- all values, by the trace -/
theorem loopC_tr {chk : Store → Bool} {g : PV → Env → Store → Option (Env × Store)} {t : Env → Store → Option (Bool × Store)} {e : Env → Store → Out} {ρ : Env} : ∀ {items acc ys : List PV} {st st' : Store}, loopC chk g t e ρ items acc st = some (ys, st') → acc.length ≤ LIM →
    ∃ L, yieldsP (fun _ => false) chk g t e ρ items st = some (L, some st') ∧ ys = acc ++ L.map (·.1) ∧ ys.length ≤ LIM
  | [], acc, ys, st, st', h, ha => by
    simp only [loopC] at h
    split at h
    · rename_i hc
      cases h
      exact ⟨[], by simp only [yieldsP]; rw [if_pos hc], by simp, ha⟩
    · cases h
  | x :: r, acc, ys, st, st', h, ha => by
    simp only [loopC] at h
    split at h
    · rename_i hc
      rw [Bool.and_eq_true, decide_eq_true_eq] at hc
      split at h
      · cases h
      · rename_i ρ1 st1 e1
        split at h
        · cases h
        · rename_i st2 e2
          obtain ⟨L, h1, h2, h3⟩ := loopC_tr h ha
          exact ⟨L, by simp only [yieldsP]; rw [if_pos hc.1, e1]; simp only [e2]; exact h1, h2, h3⟩
        · rename_i st2 e2
          split at h
          · cases h
          · rename_i y st3 e3
            obtain ⟨L, h1, h2, h3⟩ := loopC_tr h (by rw [List.length_append, List.length_singleton]; omega)
            exact ⟨(y, st3) :: L, by simp only [yieldsP]; rw [if_pos hc.1, e1]; simp only [e2, e3]; rw [if_neg (by decide)]; simp only [h1], by rw [h2, List.append_assoc]; rfl, h3⟩
    · cases h
section
variable {G : GP} {P : Program} {w : World} {A : Around} {g : Nat} {R : Result → Shared → Prop} {z : Addr} {res : Value}
theorem ext_loop (hh : A.handled = none) (hd : A.depth < recursionLimit) (hG : ∀ h : Heap, h.get? G.a = some G.gobj → h.IsGen G.a g) (hS : G.S = some z) (hsm : G.sm = false) (sa : G.S ≠ some G.a)
    (sk : ∀ z, G.S = some z → G.X.s_0.heap.objs.size ≤ z ∧ z ≠ G.X.env.locals ∧ (∀ x c, G.X.env.cells.lookup x = some c → c ≠ z)) (hpn : G.X.pn = []) (ho : G.o ≠ none) (hlen : G.L.length ≤ sizeLine)
    (h2 : ∀ s1 m H st acc c vs, G.o = some st → G.at m H st (G.L.map (·.1)) s1 → Vals vs acc.toList → RVs G.W.K m H (G.L.map (·.1)) vs → H z = none → ∀ s', Lnk none s1 s' → s'.heap.get? z = some (lstObj acc c) → R (.ok (.ret res)) s') :
    ∀ (n j : Nat) (s : Shared), G.L.length - j = n → j ≤ G.L.length → Live G P w A.in1 g j s → codeAny (model P w) A (.builtin "list.extend.loop" ⟨[.ref z, .ref G.a, res], []⟩) R s := by
  intro n
  induction n with
  | zero =>
    intro j s hn hj lv
    refine codeAny_builtin F.entry_extend_loop ?_
    rw [Around.under_plainId F.plain_extend_loop _]
    show wpAny _ A.in1 (pyNext (.ref G.a) >>= _) _ _ s
    refine wpAny_bind (live_next (A := A.in1) hh hd lv hG sa sk hpn hj (.inr ho) (fun v s1 gs' m H u y st hb hL' ru rv gat hg hk => ?_) fun s1 m H st h' e1 e2 gat hk => ?_)
    · have := (List.getElem?_eq_some_iff.mp hL').1
      omega
    · obtain ⟨_, _, I, ac, _⟩ := id gat
      obtain ⟨q1, acc, c, q2, q3⟩ := ac z hS
      rw [hsm] at q3
      obtain ⟨vs, q3, q4⟩ := q3
      exact wpAny_pure (h2 s1 m H st acc c vs e2 gat q3 q4 q1 _ ⟨rfl, allBare_setGen I.bare rfl, fun b o _ e => hk b o e, fun z o e => nomatch e⟩ (hk _ _ q2))
  | succ n ih =>
    intro j s hn hj lv
    have jlt : j < G.L.length := by omega
    refine codeAny_builtin F.entry_extend_loop ?_
    rw [Around.under_plainId F.plain_extend_loop _]
    show wpAny _ A.in1 (pyNext (.ref G.a) >>= _) _ _ s
    refine wpAny_bind (live_next (A := A.in1) hh hd lv hG sa sk hpn hj (.inr ho) (fun v s1 gs' m H u y st hb hL' ru rv gat hg hk => ?_) fun s1 m H st h' e1 e2 gat hk => ?_)
    · obtain ⟨_, _, I, ac, _⟩ := id gat
      obtain ⟨q1, acc, c, q2, q3⟩ := ac z hS
      rw [hsm] at q3
      obtain ⟨vs, q3, q4⟩ := q3
      have asz : acc.size < sizeLine := by
        have e1 : vs.length = acc.size := by rw [← Array.length_toList]; exact q3.length
        have e2 := q4.length
        rw [List.length_map, List.length_take] at e2
        omega
      show wpAny _ A.in1 (updateSeq z (·.push v) >>= _) _ _ _
      refine wpAny_bind ?_
      refine wpAny_updateSeq q2 rfl (wpAny_pure ⟨plainId_quiet F.plain_extend_loop _, ?_⟩) (Nat.le_of_lt asz) (by show (acc.push v).size ≤ sizeLine + 1; rw [Array.size_push]; omega)
      have e2 := Heap.get?_update_self (Obj.mapSeq (·.push v)) q2 rfl
      refine ih (j + 1) _ (by omega) jlt ?_
      rcases hk with ⟨_, hk⟩ | hk
      · exact absurd hk ho
      · refine hk { s1.setGen g gs' with heap := s1.heap.update z (Obj.mapSeq (·.push v)) } ⟨rfl, allBare_setGen I.bare hb, fun b o hb e => (Heap.get?_update_other _ _ (fun h : z = b => hb (by rw [hS, h]))).trans e, fun z' o e _ => ?_⟩ (fun z' e => ?_) (setGen_at hg)
        · rw [hS] at e
          cases e
          exact ⟨_, _, e2⟩
        · rw [hS] at e
          cases e
          refine ⟨q1, _, _, e2, ?_⟩
          rw [hsm]
          refine ⟨vs ++ [u], ?_, ?_⟩
          · rw [Array.toList_push]
            exact q3.append (.cons ru .nil)
          · rw [take_snoc hL']
            exact q4.append (RVs.one rv)
    · omega
/-- what is built up of a generator -/
theorem collect_live {B : Around} {Q : List Value → Shared → Prop} {E : Value → Shared → Prop} {s : Shared} {a : Addr} (hh : B.handled = none) (hd : B.depth < recursionLimit) (hgen : s.heap.IsGen a g) (hb : AllBare s.gens)
    (start : ∀ (s6 : Shared) (c : Nat), Lnk none s s6 → s6.gens[g]? = s.gens[g]? → s6.heap.get? s.heap.objs.size = some (lstObj #[] c) →
      ∃ G : GP, G.a = a ∧ G.S = some s.heap.objs.size ∧ G.sm = false ∧ G.o ≠ none ∧ G.L.length ≤ sizeLine ∧ Live G P w B.in1 g 0 s6 ∧ (∀ h : Heap, h.get? G.a = some G.gobj → h.IsGen G.a g) ∧ G.S ≠ some G.a ∧
        (∀ z, G.S = some z → G.X.s_0.heap.objs.size ≤ z ∧ z ≠ G.X.env.locals ∧ (∀ x c, G.X.env.cells.lookup x = some c → c ≠ z)) ∧ G.X.pn = [] ∧
        ∀ s1 m H st acc c vs, G.o = some st → G.at m H st (G.L.map (·.1)) s1 → Vals vs acc.toList → RVs G.W.K m H (G.L.map (·.1)) vs → H s.heap.objs.size = none → ∀ s', Lnk none s1 s' → s'.heap.get? s.heap.objs.size = some (lstObj acc c) → Q acc.toList s') :
    wpAny (model P w) B (collect (.ref a)) Q E s := by
  have hSa : s.heap.objs.size ≠ a := by obtain ⟨o, nm, qn, e, _⟩ := hgen; exact Nat.ne_of_gt (Heap.lt_size e)
  unfold collect
  refine wpAny_bind (wpAny_runValue (codeAny_builtin F.entry_proto_collect ?_))
  rw [Around.under_plainId F.plain_proto_collect _]
  show wpAny _ B.in1 (newList [] >>= fun l => again (.builtin "list.__iadd__" ⟨[l, .ref a], []⟩)) _ _ s
  refine wpAny_bind (wpAny_newObj_type ?_)
  refine wpAny_pure ⟨plainId_quiet F.plain_list_iadd _, codeAny_builtin F.entry_list_iadd ?_⟩
  rw [Around.under_plainId F.plain_list_iadd _]
  have g1 : (s.heap.push { cls := .type "list", data := .seq ([] : List Value).toArray }).IsGen a g := hgen.keeps fun b o e => Heap.get?_push_of_some _ e
  show wpAny _ B.in1 (Builtin.List.listExtendWith (.ref s.heap.objs.size) (.ref a) (.ref s.heap.objs.size)) _ _ _
  unfold Builtin.List.listExtendWith
  refine wpAny_bind (wpAny_typeOf (Heap.IsGen.typeIs (s := { s with heap := _ }) g1) ?_)
  have h1 : Builtin.List.listSameRef (.ref s.heap.objs.size) (.ref a) = false := by simp [Builtin.List.listSameRef, hSa]
  have h2 : (Value.type "generator" == Value.type "list") = false := by decide
  have h3 : (Value.type "generator" == Value.type "tuple") = false := by decide
  simp only [h1, h2, h3, Bool.or_false, Bool.false_eq_true, if_false]
  refine wpAny_bind (wpAny_pyIter_gen (s := { s with heap := _ }) g1 ?_)
  refine wpAny_bind (wpAny_holding ?_)
  unfold Builtin.List.listLengthHint
  refine wpAny_bind (wpAny_specialOf (Heap.IsGen.typeIs (s := { s with heap := _ }) g1) F.gen_no_len ?_)
  show wpAny _ B.in1 (specialOf (Value.ref a) (Str.ofString "__length_hint__") >>= _) _ _ _
  refine wpAny_bind (wpAny_specialOf (Heap.IsGen.typeIs (s := { s with heap := _ }) g1) F.gen_no_hint ?_)
  refine wpAny_pure ?_
  show wpAny _ B.in1 (rule "list.extend.makes-room" >>= fun _ => Builtin.List.listTouch (.ref s.heap.objs.size) >>= fun _ =>
    again (.builtin "list.extend.loop" ⟨[.ref s.heap.objs.size, .ref a, .ref s.heap.objs.size], []⟩)) _ _ _
  refine wpAny_bind (wpAny_rule ?_)
  have hS₁ : (s.heap.push { cls := .type "list", data := .seq ([] : List Value).toArray }).get? s.heap.objs.size = some { cls := .type "list", data := .seq ([] : List Value).toArray } := Heap.get?_push_size _ rfl
  refine wpAny_bind ?_
  show wpAny _ B.in1 (updateSeq s.heap.objs.size (·.push .none) >>= fun _ => updateSeq s.heap.objs.size (·.pop)) _ _ _
  refine wpAny_bind (wpAny_updateSeq hS₁ rfl ?_)
  have hS₂ := Heap.get?_update_self (Obj.mapSeq (·.push Value.none)) hS₁ rfl
  refine wpAny_updateSeq hS₂ rfl ?_
  have hS₃ := Heap.get?_update_self (Obj.mapSeq (·.pop)) hS₂ rfl
  have oth : ∀ b o, s.heap.get? b = some o →
      (((s.heap.push { cls := .type "list", data := .seq ([] : List Value).toArray }).update s.heap.objs.size (Obj.mapSeq (·.push Value.none))).update s.heap.objs.size (Obj.mapSeq (·.pop))).get? b = some o :=
    fun b o e => (Heap.get?_update_other _ _ (Ne.symm (Nat.ne_of_lt (Heap.lt_size e)))).trans ((Heap.get?_update_other _ _ (Ne.symm (Nat.ne_of_lt (Heap.lt_size e)))).trans (Heap.get?_push_of_some _ e))
  obtain ⟨G, rfl, gS, gsm, go, gl, lv, i1, i2, i3, i4, fin⟩ := start { s with heap := ((s.heap.push { cls := .type "list", data := .seq ([] : List Value).toArray }).update s.heap.objs.size (Obj.mapSeq (·.push Value.none))).update s.heap.objs.size (Obj.mapSeq (·.pop)) } _
    ⟨rfl, hb, fun b o _ e => oth b o e, fun z o e => nomatch e⟩ rfl hS₃
  refine wpAny_pure ⟨plainId_quiet F.plain_extend_loop _, ext_loop (A := B) hh hd i1 gS gsm i2 i3 i4 go gl (fun s1 m H st acc c vs e1 e2 e3 e4 e5 s' lk e6 => ?_) _ 0 _ rfl (Nat.zero_le _) lv⟩
  show wpAny _ B (load s.heap.objs.size >>= _) _ _ s'
  refine wpAny_bind (wpAny_load e6 ?_)
  exact wpAny_pure (fin s1 m H st acc c vs e1 e2 e3 e4 e5 s' lk e6)
theorem call_tuple_live {Q : Value → Shared → Prop} {E : Value → Shared → Prop} {s : Shared} {a : Addr} (hh : A.handled = none) (hd : A.depth < recursionLimit) (hgen : s.heap.IsGen a g) (hb : AllBare s.gens)
    (start : ∀ (s6 : Shared) (c : Nat), Lnk none s s6 → s6.gens[g]? = s.gens[g]? → s6.heap.get? s.heap.objs.size = some (lstObj #[] c) →
      ∃ G : GP, G.a = a ∧ G.S = some s.heap.objs.size ∧ G.sm = false ∧ G.o ≠ none ∧ G.L.length ≤ sizeLine ∧ Live G P w A.in1.in1.in1 g 0 s6 ∧ (∀ h : Heap, h.get? G.a = some G.gobj → h.IsGen G.a g) ∧ G.S ≠ some G.a ∧
        (∀ z, G.S = some z → G.X.s_0.heap.objs.size ≤ z ∧ z ≠ G.X.env.locals ∧ (∀ x c, G.X.env.cells.lookup x = some c → c ≠ z)) ∧ G.X.pn = [] ∧
        ∀ s1 m H st acc vs, G.o = some st → G.at m H st (G.L.map (·.1)) s1 → Vals vs acc.toList → RVs G.W.K m H (G.L.map (·.1)) vs → ∀ s', Lnk none s1 s' → Q (.ref s'.heap.objs.size) { s' with heap := s'.heap.push { cls := .type "tuple", data := .seq acc } }) :
    wpAny (model P w) A (call (.type "tuple") [.ref a]) Q E s := by
  refine callType_codes (Q₁ := fun obj s₁ => s₁.TypeIs obj "tuple" ∧ Q obj s₁) F.called_tuple (F.typeCall_tuple_1 _) F.entry_object_init ?_ fun obj s₁ h₁ => ?_
  · refine codeAny_of_tree ?_
    show wpAny _ A.in1.in1 (do checkBuiltinCall "tuple.__new__" ⟨[.type "tuple", .ref a], []⟩; again (.builtin "tuple.__new__" ⟨[.type "tuple", .ref a], []⟩)) _ _ s
    refine wpAny_bind (wpAny_of_eq (F.newCall_tuple_1 _) (wpAny_pure ⟨plainId_quiet F.plain_tuple_new _, codeAny_builtin F.entry_tuple_new ?_⟩))
    rw [Around.under_plainId F.plain_tuple_new _]
    have hsub := sub_tuple_self
    have hinit := init_tuple_lookup
    have hmh := madeHere_tuple
    have hTI := Heap.IsGen.typeIs (s := s) hgen
    have q1 : ∀ {Q' : List Value → Shared → Prop} {E' : Value → Shared → Prop}, (∀ s' acc, s'.heap.get? s.heap.objs.size ≠ none → (Q (.ref s'.heap.objs.size) { s' with heap := s'.heap.push { cls := .type "tuple", data := .seq acc } }) → acc.size ≤ sizeLine → Q' acc.toList s') → wpAny (model P w) A.in1.in1 (collect (.ref a)) Q' E' s := fun {Q' E'} hq => by
      refine collect_live (B := A.in1.in1) hh hd hgen hb fun s6 c l1 l2 l3 => ?_
      obtain ⟨G, z1, z2, z3, z4, z5, z6, z7, z8, z9, z10, z11⟩ := start s6 c l1 l2 l3
      refine ⟨G, z1, z2, z3, z4, z5, z6, z7, z8, z9, z10, fun s1 m H st acc c vs e1 e2 e3 e4 e5 s' lk e6 => hq s' acc (by rw [e6]; exact fun z => nomatch z) (z11 s1 m H st acc vs e1 e2 e3 e4 s' lk) ?_⟩
      have w1 : vs.length = acc.size := by rw [← Array.length_toList]; exact e3.length
      have w2 := e4.length
      rw [List.length_map] at w2
      omega
    wp_walk using wpAny_typeOf hTI, q1
    intro s' acc _ hq hz
    show wpAny _ _ (Builtin.Tuple.tupleExact acc.toList.toArray >>= fun v => ret v) _ _ _
    unfold Builtin.Tuple.tupleExact
    refine wpAny_bind (wpAny_newObj_type ?_ (by show acc.toList.toArray.size ≤ sizeLine; simp only [Array.toArray_toList]; exact hz))
    refine wpAny_pure ?_
    have e : acc.toList.toArray = acc := by simp
    rw [e]
    exact ⟨⟨_, Heap.get?_push_size _ rfl, rfl⟩, hq⟩
  · exact ⟨h₁.1, F.args_object_init_2 obj _, object_init_meets F.called_tuple.init.lookup F.called_tuple.made (by decide) P w A.in1 _ s₁ ⟨h₁.1, rfl, h₁.2⟩⟩
end
end Mi

namespace Mi
open PySem PySem.Spec PyProof.Rows L2
open GenW
section
variable {p : Pr} {k : Nat} {c : Ck} {X : Cx} {elt tg iter : Expr} {ifs : List Expr} {scope : Scope} {gpos pos q : Pos} {e t i f : IR} {own : List (Str × Nat)}
theorem pe_tupleM {n : Nat} (o : Okx p k c X) (hn : p.n = n + 1) (he : ∀ p, SE p k e) (ht : ∀ p, SG p k t) (hi : SI p k i) (hf : ∀ p, STs p k f) (hg : Gl X "tuple")
    (h1 : chkI c i tg iter = true) (h2 : noFold iter = true) (h3 : genC c.N c.sc scope own = true) (h4 : (slG t).all (fun i => decide (i ∈ own.map (·.2))) = true) (h5 : chkG (c.gen scope) t tg = true) (h6 : chkT (c.gen scope) f ifs = true) (h7 : chkE (c.gen scope) e elt = true) :
    PE X (.Call (.Name "tuple" q) [.GeneratorExp elt [⟨tg, iter, ifs, 0⟩] scope gpos] [] pos) (tE X p (.gx .tuple e t i f own)) := by
  refine ⟨fun pins s σ H Q I ⟨ρ, m0, st0, pv, st', sr, ev, n⟩ => ?_⟩
  simp only [evE] at ev
  split at ev
  · rename_i items src st1 e1
    split at ev
    · rename_i ys st2 e2
      cases ev
      obtain ⟨L, y1, y2, y3⟩ := loopC_tr e2 (Nat.zero_le _)
      rw [List.nil_append] at y2
      have hs : starEach [.GeneratorExp elt [⟨tg, iter, ifs, 0⟩] scope gpos] X.env = (false, eval (.GeneratorExp elt [⟨tg, iter, ifs, 0⟩] scope gpos) X.env) :: starEach [] X.env := rfl
      refine wpAny_Call_Name_kw (ld_blt I hg (o.bl _ (by decide)) boot_tuple ?_)
      refine PyProof.Rows.callWith_type1 ?_ hs (by rfl)
      rw [hs]
      show wpAny _ _ (spliced ((false, eval (.GeneratorExp elt [⟨tg, iter, ifs, 0⟩] scope gpos) X.env) :: backTo pos (starEach [] X.env))) _ _ s
      refine Calls.spliced_cons (gen_make o hn he ht hi hf h1 h2 h3 h4 h5 h6 h7 I sr e1 fun a g m1 H1 s5 hx hr hgen I5 start => ?_)
      refine Calls.spliced_nil ?_
      refine call_tuple_live (A := X.A) (g := g) o.room.hd (by have := o.room.dp; omega) hgen I5.bare fun s6 cc l1 l2 l3 => ?_
      obtain ⟨G, rfl, go, gsm, gS, gW, rfl, rfl, rfl, lv, g1, g2, g3, g4, g5⟩ := start X.A.in1.in1.in1 (fun _ => false) false (some s5.heap.objs.size) L (some st') s6 rfl o.room.hd rfl (by show X.A.units + 1 + 1 + 1 ≤ _; omega) l1 l2 (fun z e => by cases e; exact Nat.le_refl _)
        (fun z e => by cases e; exact ⟨I5.hok.fresh (Nat.le_refl _), #[], cc, l3, [], .nil, rfl⟩) y1
      have lenL : G.L.length ≤ sizeLine := by
        rw [y2, List.length_map] at y3
        exact le_line y3
      refine ⟨G, rfl, gS, gsm, (by rw [go]; exact fun z => nomatch z), lenL, lv, g1, g2, g3, g4, fun s1 m H st acc vs ho gat hv hvs s' lk => ?_⟩
      rw [go] at ho
      cases ho
      have J := Inv.linked (g5 _ _ _ _ _ gat) lk fun z e => nomatch e
      obtain ⟨hx2, hr2, _, _, _⟩ := gat
      rw [gW] at hx2 hr2 hvs
      have hp : H s'.heap.objs.size = none := J.hok.fresh (Nat.le_refl _)
      have vlen : vs.length ≤ sizeLine := by
        rw [hvs.length, List.length_map]; exact lenL
      have oo : ObjOk X.prog X.w (upd H s'.heap.objs.size (.tup vs)) (s'.heap.push { cls := .type "tuple", data := .seq acc }) s'.heap.objs.size (.tup vs) :=
        ⟨vlen, acc.toList, hv, { cls := .type "tuple", data := .seq acc }, Heap.get?_push_size _ rfl, rfl, 0, by rw [Array.toArray_toList]⟩
      have I9 : Inv X pins σ (upd H s'.heap.objs.size (.tup vs)) { s' with heap := s'.heap.push { cls := .type "tuple", data := .seq acc }, toks := s'.toks } := J.laid (fun b u e => Heap.get?_push_of_some _ e) (Nat.le_refl _) oo
      rw [y2] at n
      exact ⟨.ref s'.heap.objs.size, upd H s'.heap.objs.size (.tup vs), I9, rfl, (n.more (hx.trans hx2)).tup hr2 hvs hp⟩
    · cases ev
  · cases ev
end
theorem sumP_append : ∀ {a b : List PV} {n : Int}, sumP (a ++ b) = some n → ∃ x y, sumP a = some x ∧ sumP b = some y ∧ n = x + y
  | [], b, n, h => ⟨0, n, rfl, h, by omega⟩
  | .int i :: a, b, n, h => by
    rw [List.cons_append, sumP] at h
    split at h
    · rename_i k e
      cases h
      obtain ⟨x, y, h1, h2, h3⟩ := sumP_append e
      exact ⟨i + x, y, by rw [sumP, h1], h2, by omega⟩
    · cases h
  | .non :: _, _, _, h | .bl _ :: _, _, _, h | .str _ :: _, _, _, h | .tup _ :: _, _, _, h | .frl _ :: _, _, _, h | .loc _ :: _, _, _, h => by rw [List.cons_append, sumP] at h; cases h; all_goals (intro _ z; cases z)
section
variable {G : GP} {P : Program} {w : World} {A : Around} {g : Nat} {R : Result → Shared → Prop} {z : Addr}
theorem sum_loop (hh : A.handled = none) (hd : A.depth < recursionLimit) (hG : ∀ h : Heap, h.get? G.a = some G.gobj → h.IsGen G.a g) (hS : G.S = some z) (hsm : G.sm = true) (sa : G.S ≠ some G.a)
    (sk : ∀ z, G.S = some z → G.X.s_0.heap.objs.size ≤ z ∧ z ≠ G.X.env.locals ∧ (∀ x c, G.X.env.cells.lookup x = some c → c ≠ z)) (hpn : G.X.pn = []) (ho : G.o ≠ none) {total : Int} (htot : sumP (G.L.map (·.1)) = some total)
    (h2 : ∀ s1 m H st t, G.o = some st → G.at m H st (G.L.map (·.1)) s1 → ∀ s', Lnk none s1 s' → R (.ok (.ret (.int total t))) s') :
    ∀ (n j : Nat) (s : Shared) (tA : Tok) (c : Nat) (stage nn : Int), (stage = 0 ∨ stage = 2) → G.L.length - j = n → j ≤ G.L.length → Live G P w A.in1 g j s → s.heap.get? z = some { cls := .type "list", dict := none, data := .seq #[.int nn tA] c, slots := #[] } →
      sumP ((G.L.take j).map (·.1)) = some nn → codeAny (model P w) A (.builtin "sum.loop" ⟨[.ref G.a, .ref z, rawInt stage, rawInt 0], []⟩) R s := by
  intro n
  induction n with
  | zero =>
    intro j s tA c stage nn hst hn hj lv hz hs
    have ej : j = G.L.length := by omega
    subst ej
    rw [List.take_length, htot] at hs
    cases hs
    refine codeAny_builtin F.entry_sum_loop ?_
    rw [Around.under_plainId F.plain_sum_loop _]
    show wpAny _ A.in1 (seqItems? (.ref z) >>= _) _ _ s
    refine wpAny_bind (wpAny_seqItems hz rfl ?_)
    show wpAny _ A.in1 (tryCatch (pyNext (.ref G.a)) _ >>= _) _ _ s
    refine wpAny_bind (wpAny_tryCatch (live_next (A := A.in1) hh hd lv hG sa sk hpn hj (.inr ho) (fun v s1 gs' m H u y st hb hL' ru rv gat hg hk => ?_) fun s1 m H st h' e1 e2 gat hk => ?_))
    · have := (List.getElem?_eq_some_iff.mp hL').1
      omega
    · obtain ⟨_, _, I, _, _⟩ := id gat
      exact wpAny_pure (h2 s1 m H st tA e2 gat _ ⟨rfl, allBare_setGen I.bare rfl, fun b o _ e => hk b o e, fun z o e => nomatch e⟩)
  | succ n ih =>
    intro j s tA c stage nn hst hn hj lv hz hs
    have jlt : j < G.L.length := by omega
    refine codeAny_builtin F.entry_sum_loop ?_
    rw [Around.under_plainId F.plain_sum_loop _]
    show wpAny _ A.in1 (seqItems? (.ref z) >>= _) _ _ s
    refine wpAny_bind (wpAny_seqItems hz rfl ?_)
    show wpAny _ A.in1 (tryCatch (pyNext (.ref G.a)) _ >>= _) _ _ s
    refine wpAny_bind (wpAny_tryCatch (live_next (A := A.in1) hh hd lv hG sa sk hpn hj (.inr ho) (fun v s1 gs' m H u y st hb hL' ru rv gat hg hk => ?_) fun s1 m H st h' e1 e2 gat hk => ?_))
    · obtain ⟨_, _, I, ac, _⟩ := id gat
      obtain ⟨q1, acc, c1, q2, q3⟩ := ac z hS
      rw [hsm] at q3
      obtain ⟨t1, rfl⟩ := q3 nn hs
      have q2 : s1.heap.get? z = some { cls := .type "list", dict := none, data := .seq #[.int nn t1] c1, slots := #[] } := q2
      -- the value is an int
      have hs1 : ∃ i, y = .int i ∧ sumP ((G.L.take (j + 1)).map (·.1)) = some (nn + i) := by
        have e0 : G.L.map (·.1) = (G.L.take (j + 1)).map (·.1) ++ (G.L.drop (j + 1)).map (·.1) := by rw [← List.map_append, List.take_append_drop]
        rw [e0] at htot
        obtain ⟨x, y', h3, _, _⟩ := sumP_append htot
        have h4 := h3
        rw [take_snoc hL'] at h4
        obtain ⟨x1, y1, h5, h6, h7⟩ := sumP_append h4
        rw [hs] at h5
        cases h5
        cases y with
        | int i =>
          rw [sumP, sumP] at h6
          cases h6
          exact ⟨i, rfl, by rw [h3, h7, Int.add_zero]⟩
        | _ => simp [sumP] at h6
      obtain ⟨i, ey, hs1⟩ := hs1
      subst ey
      have eu : u = .int i := rv
      subst eu
      obtain ⟨t, ev⟩ : ∃ t, v = Value.int i t := ru
      subst ev
      -- behind one turn
      have nextL : ∀ (h' : Heap) (tk tB : Nat) (c2 : Nat) (stage' : Int), (stage' = 0 ∨ stage' = 2) → (∀ b o, b ≠ z → s1.heap.get? b = some o → h'.get? b = some o) → h'.get? z = some { cls := .type "list", dict := none, data := .seq #[.int (nn + i) tB] c2, slots := #[] } →
          codeAny (model P w) A (.builtin "sum.loop" ⟨[.ref G.a, .ref z, rawInt stage', rawInt 0], []⟩) R { s1.setGen g gs' with heap := h', toks := tk } := fun h' tk tB c2 stage' hst' hk' hz' => by
        refine ih (j + 1) _ tB c2 stage' (nn + i) hst' (by omega) jlt ?_ hz' hs1
        rcases hk with ⟨_, hk⟩ | hk
        · exact absurd hk ho
        · refine hk { s1.setGen g gs' with heap := h', toks := tk } ⟨rfl, allBare_setGen I.bare hb, fun b o hb e => hk' b o (fun h => hb (by rw [hS, h])) e, fun z' o e _ => ?_⟩ (fun z' e => ?_) (setGen_at hg)
          · rw [hS] at e
            cases e
            exact ⟨_, _, hz'⟩
          · rw [hS] at e
            cases e
            refine ⟨q1, _, _, hz', ?_⟩
            rw [hsm]
            exact fun n' hn' => by rw [hs1] at hn'; cases hn'; exact ⟨tB, rfl⟩
      have oth : ∀ (h : Heap) (f : Obj → Obj) b o, b ≠ z → h.get? b = some o → (h.update z f).get? b = some o := fun h f b o hb e => (Heap.get?_update_other _ _ (Ne.symm hb)).trans e
      rcases hst with rfl | rfl
      · show wpAny _ A.in1 (if (_ : Bool) = true then (mkInt (nn + i) >>= _) else _) _ _ _
        split
        · refine wpAny_bind (wpAny_mkInt ?_)
          show wpAny _ A.in1 (updateSeq z (fun _ => #[.int (nn + i) s1.toks]) >>= _) _ _ _
          refine wpAny_bind ?_
          refine wpAny_updateSeq q2 rfl (wpAny_pure ⟨plainId_quiet F.plain_sum_loop _, ?_⟩)
          exact nextL _ _ _ _ 0 (.inl rfl) (fun b o hb e => oth _ _ b o hb e) (Heap.get?_update_self _ q2 rfl)
        · refine wpAny_bind (wpAny_rule ?_)
          refine wpAny_bind (wpAny_attempt (wpAny_holding (PySem.P.add_int ?_)))
          show wpAny _ A.in1 (updateSeq z (fun _ => #[.int (nn + i) s1.toks]) >>= _) _ _ _
          refine wpAny_bind ?_
          refine wpAny_updateSeq q2 rfl ?_
          have hS2 := Heap.get?_update_self (Obj.mapSeq fun _ => #[Value.int (nn + i) s1.toks]) q2 rfl
          refine wpAny_bind (wpAny_letGo ?_)
          refine wpAny_bind ?_
          refine wpAny_updateSeq hS2 rfl (wpAny_pure ⟨plainId_quiet F.plain_sum_loop _, ?_⟩)
          exact nextL _ _ _ _ 2 (.inr rfl) (fun b o hb e => oth _ _ b o hb (oth _ _ b o hb e)) (Heap.get?_update_self _ hS2 rfl)
      · show wpAny _ A.in1 ((holding [Value.int i t] (binaryOp .Add (.int nn tA) (.int i t))).attempt >>= _) _ _ _
        refine wpAny_bind (wpAny_attempt (wpAny_holding (PySem.P.add_int ?_)))
        show wpAny _ A.in1 (updateSeq z (fun _ => #[.int (nn + i) s1.toks]) >>= _) _ _ _
        refine wpAny_bind ?_
        refine wpAny_updateSeq q2 rfl ?_
        have hS2 := Heap.get?_update_self (Obj.mapSeq fun _ => #[Value.int (nn + i) s1.toks]) q2 rfl
        refine wpAny_bind (wpAny_letGo ?_)
        refine wpAny_bind ?_
        refine wpAny_updateSeq hS2 rfl (wpAny_pure ⟨plainId_quiet F.plain_sum_loop _, ?_⟩)
        exact nextL _ _ _ _ 2 (.inr rfl) (fun b o hb e => oth _ _ b o hb (oth _ _ b o hb e)) (Heap.get?_update_self _ hS2 rfl)
    · omega
end
section
variable {p : Pr} {k : Nat} {c : Ck} {X : Cx} {elt tg iter : Expr} {ifs : List Expr} {scope : Scope} {gpos pos q : Pos} {e t i f : IR} {own : List (Str × Nat)}
theorem pe_sumM {n : Nat} (o : Okx p k c X) (hn : p.n = n + 1) (he : ∀ p, SE p k e) (ht : ∀ p, SG p k t) (hi : SI p k i) (hf : ∀ p, STs p k f) (hg : Gl X "sum")
    (h1 : chkI c i tg iter = true) (h2 : noFold iter = true) (h3 : genC c.N c.sc scope own = true) (h4 : (slG t).all (fun i => decide (i ∈ own.map (·.2))) = true) (h5 : chkG (c.gen scope) t tg = true) (h6 : chkT (c.gen scope) f ifs = true) (h7 : chkE (c.gen scope) e elt = true) :
    PE X (.Call (.Name "sum" q) [.GeneratorExp elt [⟨tg, iter, ifs, 0⟩] scope gpos] [] pos) (tE X p (.gx .sum e t i f own)) := by
  refine ⟨fun pins s σ H Q I ⟨ρ, m0, st0, pv, st', sr, ev, n⟩ => ?_⟩
  simp only [evE] at ev
  split at ev
  · rename_i items src st1 e1
    split at ev
    · rename_i ys st2 e2
      split at ev
      · rename_i total e3
        cases ev
        obtain ⟨L, y1, y2, y3⟩ := loopC_tr e2 (Nat.zero_le _)
        rw [List.nil_append] at y2
        have hs : starEach [.GeneratorExp elt [⟨tg, iter, ifs, 0⟩] scope gpos] X.env = (false, eval (.GeneratorExp elt [⟨tg, iter, ifs, 0⟩] scope gpos) X.env) :: starEach [] X.env := rfl
        refine wpAny_Call_Name_kw (ld_blt I hg (o.bl _ (by decide)) boot_sum ?_)
        refine PyProof.Rows.callWith_builtin1 ?_ hs (by rfl)
        rw [hs]
        show wpAny _ _ (spliced ((false, eval (.GeneratorExp elt [⟨tg, iter, ifs, 0⟩] scope gpos) X.env) :: backTo pos (starEach [] X.env))) _ _ s
        refine Calls.spliced_cons (gen_make o hn he ht hi hf h1 h2 h3 h4 h5 h6 h7 I sr e1 fun a g m1 H1 s5 hx hr hgen I5 start => ?_)
        refine Calls.spliced_nil ?_
        refine call_function_tree F.kind_sum F.plain_sum F.entry_sum (F.args_sum1 _) ?_
        unfold Builtin.«sum»
        simp only [List.length_cons, List.length_nil]
        rw [if_neg (by decide)]
        refine wpAny_bind (wpAny_of_eq (show Builtin.Builtins.bindParams "sum" ["start"] 0 { } = pure [none] from rfl) ?_)
        refine wpAny_bind (wpAny_pyIter_gen hgen ?_)
        refine wpAny_bind (wpAny_mkInt ?_)
        refine wpAny_bind (wpAny_pure ?_)
        simp only [List.forIn_cons, List.forIn_nil]
        refine wpAny_bind (wpAny_bind (wpAny_bind (wpAny_isInstance (T := "int") (b := false) (typeIs_int _ _ _) PySem.sub_int_str ?_)))
        simp only [Bool.false_eq_true, if_false]
        refine wpAny_pure (wpAny_bind (wpAny_bind (wpAny_isInstance (T := "int") (b := false) (typeIs_int _ _ _) PySem.sub_int_bytes ?_)))
        simp only [Bool.false_eq_true, if_false]
        refine wpAny_pure (wpAny_bind (wpAny_bind (wpAny_isInstance (T := "int") (b := false) (typeIs_int _ _ _) PySem.sub_int_bytearray ?_)))
        simp only [Bool.false_eq_true, if_false]
        refine wpAny_pure (wpAny_pure ?_)
        refine wpAny_bind (wpAny_newObj_type ?_)
        generalize hs6 : ({ s5 with heap := s5.heap.push _, toks := _ } : Shared) = s6
        have h6 : s6.heap = s5.heap.push { cls := .type "list", dict := none, data := .seq #[.int 0 s5.toks] 0, slots := #[] } := by rw [← hs6]
        have h6g : s6.gens = s5.gens := by rw [← hs6]
        have h6o : s6.os = s5.os := by rw [← hs6]
        have hz : s6.heap.get? s5.heap.objs.size = some { cls := .type "list", dict := none, data := .seq #[.int 0 s5.toks] 0, slots := #[] } := by rw [h6]; exact Heap.get?_push_size _ rfl
        obtain ⟨G, rfl, go, gsm, gS, gW, rfl, rfl, rfl, lv, g1, g2, g3, g4, g5⟩ := start X.A.in1 (fun _ => false) true (some s5.heap.objs.size) L (some st') s6 rfl o.room.hd rfl (by show X.A.units + 1 ≤ _; omega) ⟨h6o, by rw [h6g]; exact I5.bare, fun b o _ e => by rw [h6]; exact Heap.get?_push_of_some _ e, fun z o e => nomatch e⟩ (by rw [h6g]) (fun z e => by cases e; exact Nat.le_refl _)
          (fun z e => by cases e; exact ⟨I5.hok.fresh (Nat.le_refl _), _, 0, hz, fun n hn => by cases hn; exact ⟨_, rfl⟩⟩) y1
        refine wpAny_pure ⟨plainId_quiet F.plain_sum_loop _, sum_loop (A := X.A) o.room.hd (by have := o.room.dp; omega) g1 gS gsm g2 g3 g4 (by rw [go]; exact fun z => nomatch z) (total := total) (by rw [← y2]; exact e3) (fun s1 m H st t ho gat s' lk => ?_) _ 0 s6 _ 0 0 0 (.inl rfl) rfl (Nat.zero_le _) lv hz rfl⟩
        rw [go] at ho
        cases ho
        have J := Inv.linked (g5 _ _ _ _ _ gat) lk fun z e => nomatch e
        obtain ⟨hx2, hr2, _, _, _⟩ := gat
        rw [gW] at hx2 hr2
        exact ⟨.int total, H, J, ⟨t, rfl⟩, n _ m H (hx.trans hx2) hr2 rfl⟩
      · cases ev
    · cases ev
  · cases ev
end
theorem s_gx {w : GK} {e t i f : IR} {own : List (Str × Nat)} {k : Nat} (he : ∀ p, SE p k e) (ht : ∀ p, SG p k t) (hi : ∀ p, SI p k i) (hf : ∀ p, STs p k f) (p : Pr) : SE p k (.gx w e t i f own) := by
  intro c X ex o h
  have hp : plainT ex = true := by cases ex <;> first | rfl | exact Bool.noConfusion h
  refine ⟨?_, pt_of ?_ hp⟩ <;>
  · unfold chkE at h
    split at h
    · simp only [Bool.and_eq_true, decide_eq_true_eq] at h
      obtain ⟨⟨⟨⟨⟨⟨⟨⟨⟨a1, a2⟩, a3⟩, a4⟩, a5⟩, a6⟩, a7⟩, a8⟩, a9⟩, a10⟩ := h
      have hn : p.n = (p.n - 1) + 1 := by have := o.gn; omega
      subst a1
      have hg := glC_of o.sc a2
      cases w with
      | all => exact pe_allM o hn he ht (hi p) hf hg a4 a5 a6 a7 a8 a9 a10
      | any => exact pe_anyM o hn he ht (hi p) hf hg a4 a5 a6 a7 a8 a9 a10
      | tuple => exact pe_tupleM o hn he ht (hi p) hf hg a4 a5 a6 a7 a8 a9 a10
      | sum => exact pe_sumM o hn he ht (hi p) hf hg a4 a5 a6 a7 a8 a9 a10
    · cases h
end Mi

set_option maxHeartbeats 2000000
namespace Mi
open PySem PySem.Spec PyProof.Rows L2
/-! ### set comprehensions, by the kind of what is gathered -/
/-- a kind of set that grows: its object by a state, what adding asks and leaves -/
structure SKd (P : Program) (w : World) (K : PySem.W.Frag) where
  α : Type
  f : Addr → α → Heap → Prop
  z : α
  new : ∀ (H : Hp) (h : Heap) (a : Addr), h.get? a = some { cls := .type "set", dict := none, data := .set #[] 0 (.fresh 0 0 (!w.params.followText "set-order")) } → ObjOk P w H h a (.ext (f a z))
  isS : ∀ (h : Heap) (a : Addr) (x : α), f a x h → ∃ (o : Obj) (es : Array (Int × Value)) (ep : Nat) (t : SetTable), h.get? a = some o ∧ o.data = .set es ep t
  Ad : Hp → α → V → (α → Prop) → Prop
  add : ∀ (X : Cx) (pins : List (Addr × Obj)) (σ : L2.St) (H : Hp) (s : Shared) (E : Value → Shared → Prop) (D : Addr) (x : α) (y : V) (u : Value) (N : α → Prop) (Q : Value → Shared → Prop), X.prog = P → X.w = w → X.K = K → X.A.units + 64 < cLine → Inv X pins σ H s → H D = some (.ext (f D x)) → Ad H x y N → RelV y u →
    (∀ x' s', N x' → Inv X pins σ (upd H D (.ext (f D x'))) s' → Q .none s') → wpAny (model X.prog X.w) X.A (call (.builtin "set.add") [.ref D, u]) Q E s
abbrev SKd.O {P : Program} {w : World} {K : PySem.W.Frag} (S : SKd P w K) (D : Addr) (x : S.α) : HO := .ext (S.f D x)
/-- no code object stands at D -/
def NoCd (H : Hp) (D : Addr) : Prop := ∀ c P, H c = some (cdO c P) → c ≠ D
theorem noCd_of {X : Cx} {pins : List (Addr × Obj)} {σ : L2.St} {H : Hp} {s : Shared} {P : Program} {w : World} {K : PySem.W.Frag} (S : SKd P w K) {D : Addr} {x : S.α} (I : Inv X pins σ H s) (h : H D = some (S.O D x)) : NoCd H D := fun c P e z => by
  subst z
  obtain ⟨o, es, ep, t, h1, h2⟩ := S.isS _ _ _ (I.hok _ _ h).1
  obtain ⟨o', vs, file, tf, flags, tg, inF, text, tt, h3, _, h4, _⟩ := (I.hok _ _ e).1
  rw [h1] at h3
  cases h3
  rw [h2] at h4
  cases h4
section
variable {X : Cx}
def tSC {P : Program} {w : World} {K : PySem.W.Frag} (S : SKd P w K) (wi : TI) (g : TG) (tt : TT) (te : TE) (vs : List Nat) : TE := fun σ H Q => wi σ H fun J H1 => ∀ D, H1 D = none → ∃ W : Nat → Nat → Hp → Prop, (∃ m, W 0 m (upd H1 D (S.O D S.z))) ∧ ∀ i m H, W i m H →
  (J.stop i H ∧ Q (.ref D) H) ∨ (J.go i H ∧ ∃ Nx : Hp → Prop, (∀ H', Nx H' → ∃ m', m' < m ∧ W (i + 1) m' H') ∧ ∀ x H', J.yld i H x H' → g x (wipe σ vs) H' fun σ2 H2 => wipe σ2 vs = wipe σ vs ∧ tt σ2 H2 fun b H3 =>
    if b = true then te σ2 H3 fun y H4 => ∃ x, H4 D = some (S.O D x) ∧ S.Ad H4 x y (fun x' => NoCd H4 D → Nx (upd H4 D (S.O D x'))) else Nx H3)
theorem sC_core (S : SKd X.prog X.w X.K) (hu : X.A.units + 64 < cLine) {pins : List (Addr × Obj)} {s : Shared} {σ : L2.St} {H : Hp} {Q : VK} {elt tg iter : Expr} {ifs : List Expr} {scope : Scope} {own : List (Str × Nat)} {pos pos' : Pos} {wi : TI} {g : TG} {tt : TT} {te : TE} {use : Option (Value → Sem Unit)} {Qf : Value → Shared → Prop}
    (hc : X.calm = true) (hN : X.N.Nodup) (I : Inv X pins σ H s) (hi : PI X tg iter wi) (ok : BlkOk X.N X.env.scope scope own)
    (hg : ∀ (s : Shared) (H : Hp) (C : Addr) (cl : List (Str × Addr)) (fp : List Addr), PG (X.blk s H scope (compEnvC scope cl C X.env) fp) tg g) (ht : ∀ (s : Shared) (H : Hp) (C : Addr) (cl : List (Str × Addr)) (fp : List Addr), PTs (X.blk s H scope (compEnvC scope cl C X.env) fp) ifs tt)
    (he : ∀ (s : Shared) (H : Hp) (C : Addr) (cl : List (Str × Addr)) (fp : List Addr), PE (X.blk s H scope (compEnvC scope cl C X.env) fp) elt te) (hs : ∀ x, foldedSetIterable iter X.env x = pure x)
    (h : tSC S wi g tt te (own.map (·.2)) σ H Q)
    (hRR : ∀ D C s' m H', Inv X pins σ H' s' → Q (.ref D) H' → s'.heap.Ns C m → FpOk X pins H' C → compPost (model X.prog X.w) X.A X.xe use Qf (.ref D) C (.ok .next) s') :
    wpAny (model X.prog X.w) X.A (comprehension (.SetComp elt [⟨tg, iter, ifs, 0⟩] scope pos) scope X.env pos' (newSet (.type "set")) false (eval iter X.env) use) Qf X.xe s := by
  have hfree : ∀ y ∈ scope.names, y.2 = .free → ∃ c, X.env.cells.lookup y.1 = some c := fun y hy e => by
    rcases ok.free y hy e with k | k
    · exact I.ok.has _ (.inl k)
    · exact I.ok.has _ (.inr k)
  refine wpAny_comprehension_free (use := use) rfl hs (closure_ok hfree) ok.kind (fun y hy e => by rw [ok.uniq y hy, e])
    (thn (hi.run pins s σ H _ I h) fun xv s1 hx => thn hx fun itv s2 h2 => ?_)
  obtain ⟨it, fp, tn, J, H2, e, I2, T, st2, f2, q⟩ := h2
  subst e
  refine PpSet.newSet_ok (newEnv_comp ?_)
  generalize hD : s2.heap.objs.size = D
  have hDn : H2 D = none := I2.hok.fresh (Nat.le_of_eq hD)
  obtain ⟨W, ⟨m0, w0⟩, turn⟩ := q D hDn
  -- the new list
  generalize hs3 : ({ s2 with heap := s2.heap.push { cls := .type "set", dict := none, data := .set #[] 0 (.fresh 0 0 (!X.w.params.followText "set-order")) } } : Shared) = s3
  have I3 : Inv X pins σ (upd H2 D (S.O D S.z)) s3 := by
    rw [← hs3]
    refine I2.laid (t' := s2.toks) (fun b o e => Heap.get?_push_of_some _ e) (Nat.le_of_eq hD) ?_
    rw [← hD]
    exact S.new _ _ _ (Heap.get?_push_size _ rfl)
  have h3 : s3.heap = s2.heap.push { cls := .type "set", dict := none, data := .set #[] 0 (.fresh 0 0 (!X.w.params.followText "set-order")) } := by rw [← hs3]
  have sz : ∀ b ∈ fp, b < s2.heap.objs.size := fun b hb => by
    obtain ⟨o, e, _⟩ := T.obj _ _ st2 b hb
    exact Heap.lt_size e
  have f3 : ∀ b ∈ fp, FpOk X pins (upd H2 D (S.O D S.z)) b ∧ b < s3.heap.objs.size := fun b hb => by
    have hlt := sz b hb
    refine ⟨⟨?_, (f2 b hb).2⟩, by rw [h3, Heap.size_push]; exact Nat.lt_succ_of_lt hlt⟩
    rw [upd_ne (by rw [← hD]; exact Nat.ne_of_lt hlt)]
    exact (f2 b hb).1
  have st3 : tn 0 s3.heap := T.keep _ _ _ st2 fun b _ o e => by rw [h3]; exact Heap.get?_push_of_some _ e
  have I4 := block_start I3 ok hN f3
  have pg := hg s3 (upd H2 D (S.O D S.z)) s3.heap.objs.size (cellsFrom (s3.heap.objs.size + 1) scope.names (cloFrom X.env.cells scope.names [])) fp
  have pt := ht s3 (upd H2 D (S.O D S.z)) s3.heap.objs.size (cellsFrom (s3.heap.objs.size + 1) scope.names (cloFrom X.env.cells scope.names [])) fp
  have pe := he s3 (upd H2 D (S.O D S.z)) s3.heap.objs.size (cellsFrom (s3.heap.objs.size + 1) scope.names (cloFrom X.env.cells scope.names [])) fp
  show codeAny _ _ (.compStart (.SetComp elt [⟨tg, iter, ifs, 0⟩] scope pos) 0 (.ref it) (.ref D) (compEnvC scope (cellsFrom (s3.heap.objs.size + 1) scope.names (cloFrom X.env.cells scope.names [])) s3.heap.objs.size X.env)) (compPost (model X.prog X.w) X.A X.xe use Qf (.ref D) s3.heap.objs.size) { s3 with heap := pushCells (s3.heap.push { cls := .type "dict", data := .dict #[] }) scope.names }
  have nfp : ∀ b ∈ fp, (upd H2 D (S.O D S.z)) b = none := fun b hb => (f3 b hb).1.1
  generalize hce : compEnvC scope (cellsFrom (s3.heap.objs.size + 1) scope.names (cloFrom X.env.cells scope.names [])) s3.heap.objs.size X.env = ce at I4 pg pt pe ⊢
  have cL : ce.locals = s3.heap.objs.size := by subst hce; rfl
  generalize hH3 : upd H2 D (S.O D S.z) = H3 at I3 I4 pg pt pe w0 nfp f3
  generalize hs4 : ({ s3 with heap := pushCells (s3.heap.push { cls := .type "dict", data := .dict #[] }) scope.names } : Shared) = s4 at I4 ⊢
  have st4 : tn 0 s4.heap := T.keep _ _ _ st3 fun b _ o e => by rw [← hs4]; exact pushCells_keeps _ _ _ _ (Heap.get?_push_of_some _ e)
  have stat : ∀ {σ' : L2.St} {H' : Hp} {s' : Shared}, Inv (X.blk s3 H3 scope ce fp) [] σ' H' s' → (∀ b ∈ fp, H' b = none) → ∀ b ∈ fp, FpOk (X.blk s3 H3 scope ce fp) [] H' b := fun {σ' H' s'} I' hn b hb =>
    ⟨hn b hb, (I'.ok.exf b hb).1, I'.ok.exfs b hb, .inl hb, fun x c e => (I'.ok.exf b hb).2 x c e, fun p hp => absurd (show p ∈ ([] : List (Addr × Obj)) ++ [] from hp) (by simp)⟩
  have loop : codeAny (model X.prog X.w) X.A (.compLoop (.SetComp elt [⟨tg, iter, ifs, 0⟩] scope pos) 0 (.ref it) (.ref D) ce) (compPost (model X.prog X.w) X.A X.xe use Qf (.ref D) s3.heap.objs.size) s4 := by
    refine PpSet.compLoopS_any (fun n s' => ∃ i H', Inv (X.blk s3 H3 scope ce fp) [] (wipe σ (own.map (·.2))) H' s' ∧ tn i s'.heap ∧ (∀ b ∈ fp, H' b = none) ∧ W i n H') ?_ m0 ⟨0, H3, I4, st4, nfp, w0⟩
    rintro n s5 ⟨i, H5, I5, st5, n5, w5⟩
    rcases turn i n H5 w5 with ⟨stop, qq⟩ | ⟨go, Nx, hNx, step⟩
    · have td := T.done (X.blk s3 H3 scope ce fp) rfl rfl rfl hc i [] s5 _ H5 (fun _ _ => False) I5 (stat I5 n5) st5 stop
      refine thnF td fun r s6 ⟨hr, I6⟩ => ?_
      subst hr
      -- back in the def's context
      have I7 : Inv X pins σ H5 s6 := I3.call' (ch := fp) I6.os I6.base I6.hok I6.bare fun b hb => ⟨(f3 b hb).1.2.2.2.1, (f3 b hb).1.2.1, (f3 b hb).1.2.2.2.2.1, (f3 b hb).1.2.2.2.2.2⟩
      have nC : H5 s3.heap.objs.size = none := by
        have z : H5 ce.locals = none := I6.free
        rw [cL] at z
        exact z
      obtain ⟨m, hn, _⟩ := I6.loc
      have hn : s6.heap.Ns ce.locals m := hn
      rw [cL] at hn
      exact hRR D s3.heap.objs.size s6 m H5 I7 qq hn (I3.fpOk (Nat.le_refl _) nC)
    · have ti := T.item (X.blk s3 H3 scope ce fp) rfl rfl rfl hc i [] s5 _ H5 (fun _ _ => False) I5 (stat I5 n5) st5 go
      refine thnF ti fun r s6 ⟨u, hr, h6⟩ => ?_
      subst hr
      refine thnF h6 fun _ s7 ⟨x, H7, I7, r7, y7, st7, n7⟩ => ?_
      have I7' := I7.pinned (stat I7 n7) (T.obj _ _ st7)
      refine thnF (pg.run _ s7 _ H7 x u _ I7' r7 (step x H7 y7)) fun _ s8 ⟨σ8, H8, I8, hw8, q8⟩ => ?_
      refine thnF (pt.run _ s8 σ8 H8 _ I8 q8) fun b s9 ⟨H9, I9, q9⟩ => ?_
      -- the turn's end
      have fin : ∀ {s' : Shared} {H' : Hp}, Inv (X.blk s3 H3 scope ce fp) ([] ++ pinsAt fp s7.heap) σ8 H' s' → Nx H' → ∃ m, m < n ∧ ∃ i H', Inv (X.blk s3 H3 scope ce fp) [] (wipe σ (own.map (·.2))) H' s' ∧ tn i s'.heap ∧ (∀ b ∈ fp, H' b = none) ∧ W i m H' := fun {s' H'} I' nx => by
        obtain ⟨m', hm, w'⟩ := hNx H' nx
        have pin' : ∀ b ∈ fp, ∀ o, s7.heap.get? b = some o → s'.heap.get? b = some o ∧ H' b = none := fun b hb o e =>
          let z := I'.pin (b, o) (List.mem_append_right _ (List.mem_append_right _ (mem_pinsAt hb e)))
          ⟨z.1, z.2.1⟩
        have hl : (wipe σ (own.map (·.2))).length = σ8.length := by rw [← hw8, wipe_length]
        refine ⟨m', hm, i + 1, H', (I'.unpinned (pins := [])).weak hl (fun j v e => ?_), T.keep _ _ _ st7 fun b hb o e => (pin' b hb o e).1, fun b hb => ?_, w'⟩
        · rw [← hw8] at e
          exact (wipe_some e).1
        · obtain ⟨o, e, _⟩ := T.obj _ _ st7 b hb
          exact (pin' b hb o e).2
      cases b with
      | false =>
        simp only [Bool.false_eq_true, if_false] at q9 ⊢
        exact fin I9 q9
      | true =>
        simp only [if_true] at q9 ⊢
        refine thnF (pe.run _ s9 σ8 H9 _ I9 q9) fun z s10 ⟨yv, H10, I10, r10, x0, hD10, ad⟩ => ?_
        exact S.add (X.blk s3 H3 scope ce fp) _ _ _ _ _ _ _ _ _ _ _ rfl rfl rfl hu I10 hD10 ad r10 fun x' s11 hN I11 => fin I11 (hN (noCd_of S I10 hD10))
  exact PpSet.codeAny_compStart_set loop (T.self X.A 0 _ _ _ st4 loop)
/-- as a value -/
theorem pe_sC (S : SKd X.prog X.w X.K) (hu : X.A.units + 64 < cLine) {elt tg iter : Expr} {ifs : List Expr} {scope : Scope} {own : List (Str × Nat)} {pos : Pos} {wi : TI} {g : TG} {tt : TT} {te : TE} (hc : X.calm = true) (hN : X.N.Nodup) (hi : PI X tg iter wi) (ok : BlkOk X.N X.env.scope scope own)
    (hg : ∀ (s : Shared) (H : Hp) (C : Addr) (cl : List (Str × Addr)) (fp : List Addr), PG (X.blk s H scope (compEnvC scope cl C X.env) fp) tg g) (ht : ∀ (s : Shared) (H : Hp) (C : Addr) (cl : List (Str × Addr)) (fp : List Addr), PTs (X.blk s H scope (compEnvC scope cl C X.env) fp) ifs tt)
    (he : ∀ (s : Shared) (H : Hp) (C : Addr) (cl : List (Str × Addr)) (fp : List Addr), PE (X.blk s H scope (compEnvC scope cl C X.env) fp) elt te) (hs : ∀ x, foldedSetIterable iter X.env x = pure x) :
    PE X (.SetComp elt [⟨tg, iter, ifs, 0⟩] scope pos) (tSC S wi g tt te (own.map (·.2))) := by
  refine ⟨fun pins s σ H Q I h => ?_⟩
  rw [PpSet.eval_SetComp]
  refine sC_core S hu hc hN I hi ok hg ht he hs h fun D C s' m H' I' q hn f => ⟨m, hn, fun h'' sb => ?_⟩
  obtain ⟨f0, f1, f2, f3, f4, f5⟩ := f
  exact ⟨.ref D, H', I'.turned (t' := s'.toks) (fun b o hb e => (sb.2 b hb).trans e) f0 f1 f3 f4 f5, rfl, q⟩
end

theorem compTurnS2_out (elt t0 i0 t1 i1 : Expr) (ifs0 ifs1 : List Expr) (scope : Scope) (pos : Pos) (it acc : Value) (env : PySem.Env) :
    compTurn (.SetComp elt [⟨t0, i0, ifs0, 0⟩, ⟨t1, i1, ifs1, 0⟩] scope pos) 0 it acc env = (do
      standAt i0.pos
      match ← pyNext it with
      | none => pure (.done .next)
      | some v =>
        letOwnedTupleGo t0 it v
        assign t0 env v
        let mut ok := true
        for c in ifs0 do
          if ok then ok ← isTrue c env (eval c env)
        if ok then
          let x ← eval i1 env
          standAt i1.pos
          let x ← foldedSetIterable i1 env x
          let _ ← runOwn (.compStart (.SetComp elt [⟨t0, i0, ifs0, 0⟩, ⟨t1, i1, ifs1, 0⟩] scope pos) 1 (← holding [x] (pyIter x)) acc env) env
        again (.compLoop (.SetComp elt [⟨t0, i0, ifs0, 0⟩, ⟨t1, i1, ifs1, 0⟩] scope pos) 0 it acc env)) := by rfl
theorem compTurnS2_in (elt t0 i0 t1 i1 : Expr) (ifs0 ifs1 : List Expr) (scope : Scope) (pos : Pos) (it acc : Value) (env : PySem.Env) :
    compTurn (.SetComp elt [⟨t0, i0, ifs0, 0⟩, ⟨t1, i1, ifs1, 0⟩] scope pos) 1 it acc env = (do
      standAt i1.pos
      match ← pyNext it with
      | none => pure (.done .next)
      | some v =>
        letOwnedTupleGo t1 it v
        assign t1 env v
        let mut ok := true
        for c in ifs1 do
          if ok then ok ← isTrue c env (eval c env)
        if ok then
          (do let v ← eval elt env; standAt elt.pos; let _ ← call (.builtin "set.add") [acc, v])
        again (.compLoop (.SetComp elt [⟨t0, i0, ifs0, 0⟩, ⟨t1, i1, ifs1, 0⟩] scope pos) 1 it acc env)) := by rfl

section
variable {prog : Program} {w : World} {A : Around} {R : Result → Shared → Prop} {s : Shared} {elt t0 i0 t1 i1 : Expr} {ifs0 ifs1 : List Expr} {scope : Scope} {pos : Pos} {it acc : Value} {env : PySem.Env}
/-- the loop of the first clause -/
theorem compLoopS2_out (hs : ∀ x, foldedSetIterable i1 env x = pure x) (I : Nat → Shared → Prop)
    (turn : ∀ n s, I n s → wpAny (model prog w) A (pyNext it) (fun r s₁ => match r with
      | none => R (.ok .next) s₁
      | some v => wpAny (model prog w) A (letOwnedTupleGo t0 it v) (fun _ s₁' => wpAny (model prog w) A (assign t0 env v) (fun _ s₂ =>
          wpAny (model prog w) A (forIn ifs0 true fun c r => if r = true then do let ok ← isTrue c env (eval c env); pure (ForInStep.yield ok) else pure (ForInStep.yield r)) (fun ok s₃ =>
            if ok = true then wpAny (model prog w) A (eval i1 env) (fun x s₄ => wpAny (model prog w) A (pyIter x) (fun it1 s₅ =>
              codeAny (model prog w) A (.compStart (.SetComp elt [⟨t0, i0, ifs0, 0⟩, ⟨t1, i1, ifs1, 0⟩] scope pos) 1 it1 acc env) (fun r s' => match r with
                | .ok _ => ∃ m, m < n ∧ I m s'
                | .error _ => False) s₅) (notedBy (model prog w) A env fun e s' => R (.error e) s') s₄) (notedBy (model prog w) A env fun e s' => R (.error e) s') s₃
            else ∃ m, m < n ∧ I m s₃) (notedBy (model prog w) A env fun e s' => R (.error e) s') s₂) (notedBy (model prog w) A env fun e s' => R (.error e) s') s₁') (notedBy (model prog w) A env fun e s' => R (.error e) s') s₁) (notedBy (model prog w) A env fun e s' => R (.error e) s') s)
    (n : Nat) (h : I n s) :
    codeAny (model prog w) A (.compLoop (.SetComp elt [⟨t0, i0, ifs0, 0⟩, ⟨t1, i1, ifs1, 0⟩] scope pos) 0 it acc env) R s := by
  refine codeAny_loop rfl I (fun n s hI => ?_) n h
  show wpAny _ A ((compTurn (.SetComp elt [⟨t0, i0, ifs0, 0⟩, ⟨t1, i1, ifs1, 0⟩] scope pos) 0 it acc env).onRaise (fun x => do noteFrame x env; theTreesLotGoes x)) _ _ s
  refine wpAny_noted ?_
  rw [compTurnS2_out]
  refine wpAny_bind (wpAny_standAt (wpAny_bind (wpAny_mono (turn n s hI) (fun r s₁ h₁ => ?_) fun _ _ h' => h')))
  cases r with
  | none => exact wpAny_pure h₁
  | some v =>
    refine wpAny_bind (wpAny_mono h₁ (fun _ s₁' h₁' => ?_) fun _ _ h' => h')
    refine wpAny_bind (wpAny_mono h₁' (fun _ s₂ h₂ => wpAny_bind (wpAny_mono h₂ (fun ok s₃ h₃ => ?_) fun _ _ h' => h')) fun _ _ h' => h')
    cases ok with
    | false => exact wpAny_pure ⟨rfl, h₃⟩
    | true =>
      refine wpAny_bind (wpAny_mono h₃ (fun x s₄ h₄ => ?_) fun _ _ h' => h')
      refine wpAny_bind (wpAny_standAt (wpAny_bind (wpAny_of_eq (hs x) (wpAny_bind (wpAny_holding (wpAny_mono h₄ (fun it1 s₅ h₅ => ?_) fun _ _ h' => h'))))))
      refine wpAny_bind (wpAny_runOwn ?_)
      rw [Around.mark_none]
      refine codeAny_mono h₅ fun r s' hr => ?_
      cases r with
      | ok f =>
        first
          | exact wpAny_pure ⟨rfl, hr⟩
          | exact wpAny_bind (wpAny_pure (wpAny_pure ⟨rfl, hr⟩))
      | error e => exact hr.elim
/-- the loop of the second -/
theorem compLoopS2_in (I : Nat → Shared → Prop)
    (turn : ∀ n s, I n s → wpAny (model prog w) A (pyNext it) (fun r s₁ => match r with
      | none => R (.ok .next) s₁
      | some v => wpAny (model prog w) A (letOwnedTupleGo t1 it v) (fun _ s₁' => wpAny (model prog w) A (assign t1 env v) (fun _ s₂ =>
          wpAny (model prog w) A (forIn ifs1 true fun c r => if r = true then do let ok ← isTrue c env (eval c env); pure (ForInStep.yield ok) else pure (ForInStep.yield r)) (fun ok s₃ =>
            if ok = true then wpAny (model prog w) A (eval elt env) (fun x s₄ =>
              wpAny (model prog w) A (call (.builtin "set.add") [acc, x]) (fun _ s₅ => ∃ m, m < n ∧ I m s₅) (notedBy (model prog w) A env fun e s' => R (.error e) s') s₄) (notedBy (model prog w) A env fun e s' => R (.error e) s') s₃
            else ∃ m, m < n ∧ I m s₃) (notedBy (model prog w) A env fun e s' => R (.error e) s') s₂) (notedBy (model prog w) A env fun e s' => R (.error e) s') s₁') (notedBy (model prog w) A env fun e s' => R (.error e) s') s₁) (notedBy (model prog w) A env fun e s' => R (.error e) s') s)
    (n : Nat) (h : I n s) :
    codeAny (model prog w) A (.compLoop (.SetComp elt [⟨t0, i0, ifs0, 0⟩, ⟨t1, i1, ifs1, 0⟩] scope pos) 1 it acc env) R s := by
  refine codeAny_loop rfl I (fun n s hI => ?_) n h
  show wpAny _ A ((compTurn (.SetComp elt [⟨t0, i0, ifs0, 0⟩, ⟨t1, i1, ifs1, 0⟩] scope pos) 1 it acc env).onRaise (fun x => do noteFrame x env; theTreesLotGoes x)) _ _ s
  refine wpAny_noted ?_
  rw [compTurnS2_in]
  refine wpAny_bind (wpAny_standAt (wpAny_bind (wpAny_mono (turn n s hI) (fun r s₁ h₁ => ?_) fun _ _ h' => h')))
  cases r with
  | none => exact wpAny_pure h₁
  | some v =>
    refine wpAny_bind (wpAny_mono h₁ (fun _ s₁' h₁' => ?_) fun _ _ h' => h')
    refine wpAny_bind (wpAny_mono h₁' (fun _ s₂ h₂ => wpAny_bind (wpAny_mono h₂ (fun ok s₃ h₃ => ?_) fun _ _ h' => h')) fun _ _ h' => h')
    cases ok with
    | false => exact wpAny_pure ⟨rfl, h₃⟩
    | true =>
      exact wpAny_bind (wpAny_bind (wpAny_mono h₃ (fun x s₄ h₄ => wpAny_bind (wpAny_standAt (wpAny_bind (wpAny_mono h₄ (fun _ s₅ h₅ => wpAny_pure (wpAny_pure ⟨rfl, h₅⟩)) fun _ _ h' => h')))) fun _ _ h' => h'))
/-- the second clause's start -/
theorem compStartS1_ok (h0 : codeAny (model prog w) A (.compLoop (.SetComp elt [⟨t0, i0, ifs0, 0⟩, ⟨t1, i1, ifs1, 0⟩] scope pos) 1 it acc env) R s)
    (h : wpAny (model prog w) A (pyIter it) (fun it' s' => codeAny (model prog w) A (.compLoop (.SetComp elt [⟨t0, i0, ifs0, 0⟩, ⟨t1, i1, ifs1, 0⟩] scope pos) 1 it' acc env) R s')
      (notedBy (model prog w) A env fun x s' => R (.error x) s') s) :
    codeAny (model prog w) A (.compStart (.SetComp elt [⟨t0, i0, ifs0, 0⟩, ⟨t1, i1, ifs1, 0⟩] scope pos) 1 it acc env) R s := by
  refine codeAny_of_tree ?_
  show wpAny _ _ ((compStart (.SetComp elt [⟨t0, i0, ifs0, 0⟩, ⟨t1, i1, ifs1, 0⟩] scope pos) 1 it acc env).onRaise (fun x => do noteFrame x env; standAt theWindowsPlace)) _ _ s
  refine wpAny_notedAt ?_
  unfold compStart
  show wpAny _ _ (ask >>= _) _ _ s
  refine wpAny_bind (wpAny_askSetting (wpAny_ite ?_))
  split
  · first
      | exact wpAny_bind (wpAny_pure (wpAny_pure (And.intro rfl h0)))
      | exact wpAny_pure (And.intro rfl h0)
  · first
      | exact wpAny_bind (wpAny_rule (wpAny_bind (wpAny_standAt (wpAny_bind (wpAny_mono h (fun it' s' h' => wpAny_pure (And.intro rfl h')) fun _ _ x => x)))))
      | (refine wpAny_bind (wpAny_rule ?_); show wpAny _ _ (standAt i1.pos >>= _) _ _ s; exact wpAny_bind (wpAny_standAt (wpAny_bind (wpAny_mono h (fun it' s' h' => wpAny_pure (And.intro rfl h')) fun _ _ x => x))))
end

section
variable {X : Cx}
def tSC2 {P : Program} {w : World} {K : PySem.W.Frag} (S : SKd P w K) (wi : TI) (g : TG) (tt : TT) (wi1 : TI) (g1 : TG) (tt1 : TT) (te : TE) (vs vs1 : List Nat) : TE := fun σ H Q => wi σ H fun J H1 => ∀ D, H1 D = none → ∃ W : Nat → Nat → Hp → Prop, (∃ m, W 0 m (upd H1 D (S.O D S.z))) ∧ ∀ i m H, W i m H →
  (J.stop i H ∧ Q (.ref D) H) ∨ (J.go i H ∧ ∃ Nx : Hp → Prop, (∀ H', Nx H' → ∃ m', m' < m ∧ W (i + 1) m' H') ∧ ∀ x H', J.yld i H x H' → g x (wipe σ vs) H' fun σ2 H2 => wipe σ2 vs = wipe σ vs ∧ tt σ2 H2 fun b H3 =>
    if b = true then wi1 σ2 H3 fun J1 H4 => ∃ W1 : Nat → Nat → Hp → Prop, (∃ m, W1 0 m H4) ∧ ∀ j k H, W1 j k H →
      (J1.stop j H ∧ Nx H) ∨ (J1.go j H ∧ ∃ Nx1 : Hp → Prop, (∀ H', Nx1 H' → ∃ k', k' < k ∧ W1 (j + 1) k' H') ∧ ∀ x H', J1.yld j H x H' → g1 x (wipe σ2 vs1) H' fun σ3 H5 => wipe σ3 vs1 = wipe σ2 vs1 ∧ tt1 σ3 H5 fun b H6 =>
        if b = true then te σ3 H6 fun y H7 => ∃ x, H7 D = some (S.O D x) ∧ S.Ad H7 x y (fun x' => NoCd H7 D → Nx1 (upd H7 D (S.O D x'))) else Nx1 H6)
    else Nx H3)
theorem sC2_core (S : SKd X.prog X.w X.K) (hu : X.A.units + 64 < cLine) {pins : List (Addr × Obj)} {s : Shared} {σ : L2.St} {H : Hp} {Q : VK} {elt tg iter tg1 iter1 : Expr} {ifs ifs1 : List Expr} {scope : Scope} {own : List (Str × Nat)} {vs1 : List Nat} {pos pos' : Pos} {wi wi1 : TI} {g g1 : TG} {tt tt1 : TT} {te : TE} {use : Option (Value → Sem Unit)} {Qf : Value → Shared → Prop}
    (hc : X.calm = true) (hN : X.N.Nodup) (I : Inv X pins σ H s) (hi : PI X tg iter wi) (ok : BlkOk X.N X.env.scope scope own) (hv : ∀ i ∈ vs1, i ∈ own.map (·.2))
    (hg : ∀ (s : Shared) (H : Hp) (C : Addr) (cl : List (Str × Addr)) (fp : List Addr), PG (X.blk s H scope (compEnvC scope cl C X.env) fp) tg g) (ht : ∀ (s : Shared) (H : Hp) (C : Addr) (cl : List (Str × Addr)) (fp : List Addr), PTs (X.blk s H scope (compEnvC scope cl C X.env) fp) ifs tt)
    (he : ∀ (s : Shared) (H : Hp) (C : Addr) (cl : List (Str × Addr)) (fp : List Addr), PE (X.blk s H scope (compEnvC scope cl C X.env) fp) elt te) (hs : ∀ x, foldedSetIterable iter X.env x = pure x)
    (hi1 : ∀ (s : Shared) (H : Hp) (C : Addr) (cl : List (Str × Addr)) (fp : List Addr), PI (X.blk s H scope (compEnvC scope cl C X.env) fp) tg1 iter1 wi1)
    (hg1 : ∀ (s : Shared) (H : Hp) (C : Addr) (cl : List (Str × Addr)) (fp : List Addr), PG (X.blk s H scope (compEnvC scope cl C X.env) fp) tg1 g1)
    (ht1 : ∀ (s : Shared) (H : Hp) (C : Addr) (cl : List (Str × Addr)) (fp : List Addr), PTs (X.blk s H scope (compEnvC scope cl C X.env) fp) ifs1 tt1)
    (hs1 : ∀ env x, foldedSetIterable iter1 env x = pure x)
    (h : tSC2 S wi g tt wi1 g1 tt1 te (own.map (·.2)) vs1 σ H Q)
    (hRR : ∀ D C s' m H', Inv X pins σ H' s' → Q (.ref D) H' → s'.heap.Ns C m → FpOk X pins H' C → compPost (model X.prog X.w) X.A X.xe use Qf (.ref D) C (.ok .next) s') :
    wpAny (model X.prog X.w) X.A (comprehension (.SetComp elt [⟨tg, iter, ifs, 0⟩, ⟨tg1, iter1, ifs1, 0⟩] scope pos) scope X.env pos' (newSet (.type "set")) false (eval iter X.env) use) Qf X.xe s := by
  have hfree : ∀ y ∈ scope.names, y.2 = .free → ∃ c, X.env.cells.lookup y.1 = some c := fun y hy e => by
    rcases ok.free y hy e with k | k
    · exact I.ok.has _ (.inl k)
    · exact I.ok.has _ (.inr k)
  refine wpAny_comprehension_free (use := use) rfl hs (closure_ok hfree) ok.kind (fun y hy e => by rw [ok.uniq y hy, e])
    (thn (hi.run pins s σ H _ I h) fun xv s1 hx => thn hx fun itv s2 h2 => ?_)
  obtain ⟨it, fp, tn, J, H2, e, I2, T, st2, f2, q⟩ := h2
  subst e
  refine PpSet.newSet_ok (newEnv_comp ?_)
  generalize hD : s2.heap.objs.size = D
  have hDn : H2 D = none := I2.hok.fresh (Nat.le_of_eq hD)
  obtain ⟨W, ⟨m0, w0⟩, turn⟩ := q D hDn
  -- the new list
  generalize hs3 : ({ s2 with heap := s2.heap.push { cls := .type "set", dict := none, data := .set #[] 0 (.fresh 0 0 (!X.w.params.followText "set-order")) } } : Shared) = s3
  have I3 : Inv X pins σ (upd H2 D (S.O D S.z)) s3 := by
    rw [← hs3]
    refine I2.laid (t' := s2.toks) (fun b o e => Heap.get?_push_of_some _ e) (Nat.le_of_eq hD) ?_
    rw [← hD]
    exact S.new _ _ _ (Heap.get?_push_size _ rfl)
  have h3 : s3.heap = s2.heap.push { cls := .type "set", dict := none, data := .set #[] 0 (.fresh 0 0 (!X.w.params.followText "set-order")) } := by rw [← hs3]
  have sz : ∀ b ∈ fp, b < s2.heap.objs.size := fun b hb => by
    obtain ⟨o, e, _⟩ := T.obj _ _ st2 b hb
    exact Heap.lt_size e
  have f3 : ∀ b ∈ fp, FpOk X pins (upd H2 D (S.O D S.z)) b ∧ b < s3.heap.objs.size := fun b hb => by
    have hlt := sz b hb
    refine ⟨⟨?_, (f2 b hb).2⟩, by rw [h3, Heap.size_push]; exact Nat.lt_succ_of_lt hlt⟩
    rw [upd_ne (by rw [← hD]; exact Nat.ne_of_lt hlt)]
    exact (f2 b hb).1
  have st3 : tn 0 s3.heap := T.keep _ _ _ st2 fun b _ o e => by rw [h3]; exact Heap.get?_push_of_some _ e
  have I4 := block_start I3 ok hN f3
  have pg := hg s3 (upd H2 D (S.O D S.z)) s3.heap.objs.size (cellsFrom (s3.heap.objs.size + 1) scope.names (cloFrom X.env.cells scope.names [])) fp
  have pt := ht s3 (upd H2 D (S.O D S.z)) s3.heap.objs.size (cellsFrom (s3.heap.objs.size + 1) scope.names (cloFrom X.env.cells scope.names [])) fp
  have pe := he s3 (upd H2 D (S.O D S.z)) s3.heap.objs.size (cellsFrom (s3.heap.objs.size + 1) scope.names (cloFrom X.env.cells scope.names [])) fp
  have pi1 := hi1 s3 (upd H2 D (S.O D S.z)) s3.heap.objs.size (cellsFrom (s3.heap.objs.size + 1) scope.names (cloFrom X.env.cells scope.names [])) fp
  have pg1 := hg1 s3 (upd H2 D (S.O D S.z)) s3.heap.objs.size (cellsFrom (s3.heap.objs.size + 1) scope.names (cloFrom X.env.cells scope.names [])) fp
  have pt1 := ht1 s3 (upd H2 D (S.O D S.z)) s3.heap.objs.size (cellsFrom (s3.heap.objs.size + 1) scope.names (cloFrom X.env.cells scope.names [])) fp
  show codeAny _ _ (.compStart (.SetComp elt [⟨tg, iter, ifs, 0⟩, ⟨tg1, iter1, ifs1, 0⟩] scope pos) 0 (.ref it) (.ref D) (compEnvC scope (cellsFrom (s3.heap.objs.size + 1) scope.names (cloFrom X.env.cells scope.names [])) s3.heap.objs.size X.env)) (compPost (model X.prog X.w) X.A X.xe use Qf (.ref D) s3.heap.objs.size) { s3 with heap := pushCells (s3.heap.push { cls := .type "dict", data := .dict #[] }) scope.names }
  have nfp : ∀ b ∈ fp, (upd H2 D (S.O D S.z)) b = none := fun b hb => (f3 b hb).1.1
  generalize hce : compEnvC scope (cellsFrom (s3.heap.objs.size + 1) scope.names (cloFrom X.env.cells scope.names [])) s3.heap.objs.size X.env = ce at I4 pg pt pe pi1 pg1 pt1 ⊢
  have cL : ce.locals = s3.heap.objs.size := by subst hce; rfl
  generalize hH3 : upd H2 D (S.O D S.z) = H3 at I3 I4 pg pt pe pi1 pg1 pt1 w0 nfp f3
  generalize hs4 : ({ s3 with heap := pushCells (s3.heap.push { cls := .type "dict", data := .dict #[] }) scope.names } : Shared) = s4 at I4 ⊢
  have st4 : tn 0 s4.heap := T.keep _ _ _ st3 fun b _ o e => by rw [← hs4]; exact pushCells_keeps _ _ _ _ (Heap.get?_push_of_some _ e)
  have stat : ∀ {σ' : L2.St} {H' : Hp} {s' : Shared}, Inv (X.blk s3 H3 scope ce fp) [] σ' H' s' → (∀ b ∈ fp, H' b = none) → ∀ b ∈ fp, FpOk (X.blk s3 H3 scope ce fp) [] H' b := fun {σ' H' s'} I' hn b hb =>
    ⟨hn b hb, (I'.ok.exf b hb).1, I'.ok.exfs b hb, .inl hb, fun x c e => (I'.ok.exf b hb).2 x c e, fun p hp => absurd (show p ∈ ([] : List (Addr × Obj)) ++ [] from hp) (by simp)⟩
  have loop : codeAny (model X.prog X.w) X.A (.compLoop (.SetComp elt [⟨tg, iter, ifs, 0⟩, ⟨tg1, iter1, ifs1, 0⟩] scope pos) 0 (.ref it) (.ref D) ce) (compPost (model X.prog X.w) X.A X.xe use Qf (.ref D) s3.heap.objs.size) s4 := by
    refine compLoopS2_out (hs1 ce) (fun n s' => ∃ i H', Inv (X.blk s3 H3 scope ce fp) [] (wipe σ (own.map (·.2))) H' s' ∧ tn i s'.heap ∧ (∀ b ∈ fp, H' b = none) ∧ W i n H') ?_ m0 ⟨0, H3, I4, st4, nfp, w0⟩
    rintro n s5 ⟨i, H5, I5, st5, n5, w5⟩
    rcases turn i n H5 w5 with ⟨stop, qq⟩ | ⟨go, Nx, hNx, step⟩
    · have td := T.done (X.blk s3 H3 scope ce fp) rfl rfl rfl hc i [] s5 _ H5 (fun _ _ => False) I5 (stat I5 n5) st5 stop
      refine thnF td fun r s6 ⟨hr, I6⟩ => ?_
      subst hr
      -- back in the def's context
      have I7 : Inv X pins σ H5 s6 := I3.call' (ch := fp) I6.os I6.base I6.hok I6.bare fun b hb => ⟨(f3 b hb).1.2.2.2.1, (f3 b hb).1.2.1, (f3 b hb).1.2.2.2.2.1, (f3 b hb).1.2.2.2.2.2⟩
      have nC : H5 s3.heap.objs.size = none := by
        have z : H5 ce.locals = none := I6.free
        rw [cL] at z
        exact z
      obtain ⟨m, hn, _⟩ := I6.loc
      have hn : s6.heap.Ns ce.locals m := hn
      rw [cL] at hn
      exact hRR D s3.heap.objs.size s6 m H5 I7 qq hn (I3.fpOk (Nat.le_refl _) nC)
    · have ti := T.item (X.blk s3 H3 scope ce fp) rfl rfl rfl hc i [] s5 _ H5 (fun _ _ => False) I5 (stat I5 n5) st5 go
      refine thnF ti fun r s6 ⟨u, hr, h6⟩ => ?_
      subst hr
      refine thnF h6 fun _ s7 ⟨x, H7, I7, r7, y7, st7, n7⟩ => ?_
      have I7' := I7.pinned (stat I7 n7) (T.obj _ _ st7)
      refine thnF (pg.run _ s7 _ H7 x u _ I7' r7 (step x H7 y7)) fun _ s8 ⟨σ8, H8, I8, hw8, q8⟩ => ?_
      refine thnF (pt.run _ s8 σ8 H8 _ I8 q8) fun b s9 ⟨H9, I9, q9⟩ => ?_
      -- the turn's end, from any slots that know what the block knew at its start
      have fin : ∀ {σ9 : L2.St} {s' : Shared} {H' : Hp}, Inv (X.blk s3 H3 scope ce fp) ([] ++ pinsAt fp s7.heap) σ9 H' s' → (wipe σ (own.map (·.2))).length = σ9.length → (∀ (j : Nat) v, (wipe σ (own.map (·.2)))[j]? = some (some v) → σ9[j]? = some (some v)) → Nx H' →
          ∃ m, m < n ∧ ∃ i H', Inv (X.blk s3 H3 scope ce fp) [] (wipe σ (own.map (·.2))) H' s' ∧ tn i s'.heap ∧ (∀ b ∈ fp, H' b = none) ∧ W i m H' := fun {σ9 s' H'} I' hl hk nx => by
        obtain ⟨m', hm, w'⟩ := hNx H' nx
        have pin' : ∀ b ∈ fp, ∀ o, s7.heap.get? b = some o → s'.heap.get? b = some o ∧ H' b = none := fun b hb o e =>
          let z := I'.pin (b, o) (List.mem_append_right _ (List.mem_append_right _ (mem_pinsAt hb e)))
          ⟨z.1, z.2.1⟩
        refine ⟨m', hm, i + 1, H', (I'.unpinned (pins := [])).weak hl hk, T.keep _ _ _ st7 fun b hb o e => (pin' b hb o e).1, fun b hb => ?_, w'⟩
        obtain ⟨o, e, _⟩ := T.obj _ _ st7 b hb
        exact (pin' b hb o e).2
      have hl8 : (wipe σ (own.map (·.2))).length = σ8.length := by rw [← hw8, wipe_length]
      have hk8 : ∀ (j : Nat) v, (wipe σ (own.map (·.2)))[j]? = some (some v) → σ8[j]? = some (some v) := fun j v e => by
        rw [← hw8] at e
        exact (wipe_some e).1
      have hk9 : ∀ (j : Nat) v, (wipe σ (own.map (·.2)))[j]? = some (some v) → (wipe σ8 vs1)[j]? = some (some v) := fun j v e => by
        rw [← hw8] at e
        obtain ⟨e1, e2⟩ := wipe_some e
        rw [wipe_out fun z => e2 (hv j z)]
        exact e1
      cases b with
      | false =>
        simp only [Bool.false_eq_true, if_false] at q9 ⊢
        exact fin I9 hl8 hk8 q9
      | true =>
        simp only [if_true] at q9 ⊢
        refine thnF (pi1.run _ s9 σ8 H9 _ I9 q9) fun xv s10 hx => thnF hx fun itv s11 h11 => ?_
        obtain ⟨it1, fp1, tn1, J1, H11, e1, I11, T1, st11, f11, W1, ⟨m1, w1⟩, turn1⟩ := h11
        subst e1
        -- the inner loop
        have stat1 : ∀ {H' : Hp}, (∀ b ∈ fp1, H' b = none) → ∀ b ∈ fp1, FpOk (X.blk s3 H3 scope ce fp) ([] ++ pinsAt fp s7.heap) H' b := fun hn b hb => ⟨hn b hb, (f11 b hb).2⟩
        have loop1 : codeAny (model X.prog X.w) X.A (.compLoop (.SetComp elt [⟨tg, iter, ifs, 0⟩, ⟨tg1, iter1, ifs1, 0⟩] scope pos) 1 (.ref it1) (.ref D) ce)
            (fun r s' => match r with
              | .ok _ => ∃ m, m < n ∧ ∃ i H', Inv (X.blk s3 H3 scope ce fp) [] (wipe σ (own.map (·.2))) H' s' ∧ tn i s'.heap ∧ (∀ b ∈ fp, H' b = none) ∧ W i m H'
              | .error _ => False) s11 := by
          refine compLoopS2_in (fun k s' => ∃ j H', Inv (X.blk s3 H3 scope ce fp) ([] ++ pinsAt fp s7.heap) (wipe σ8 vs1) H' s' ∧ tn1 j s'.heap ∧ (∀ b ∈ fp1, H' b = none) ∧ W1 j k H') ?_ m1 ⟨0, H11, I11.weak (wipe_length _ _) (fun j v e => (wipe_some e).1), st11, fun b hb => (f11 b hb).1, w1⟩
          rintro k s12 ⟨j, H12, I12, st12, n12, w12⟩
          rcases turn1 j k H12 w12 with ⟨stop1, nx1⟩ | ⟨go1, Nx1, hNx1, step1⟩
          · refine thnF (T1.done (X.blk s3 H3 scope ce fp) rfl rfl rfl hc j _ s12 (wipe σ8 vs1) H12 (fun _ _ => False) I12 (stat1 n12) st12 stop1) fun r s13 ⟨hr, I13⟩ => ?_
            subst hr
            exact fin I13 (hl8.trans (wipe_length σ8 vs1).symm) hk9 nx1
          · refine thnF (T1.item (X.blk s3 H3 scope ce fp) rfl rfl rfl hc j _ s12 (wipe σ8 vs1) H12 (fun _ _ => False) I12 (stat1 n12) st12 go1) fun r s13 ⟨u1, hr, h13⟩ => ?_
            subst hr
            refine thnF h13 fun _ s14 ⟨x1, H14, I14, r14, y14, st14, n14⟩ => ?_
            have I14' := I14.pinned (stat1 n14) (T1.obj _ _ st14)
            refine thnF (pg1.run _ s14 (wipe σ8 vs1) H14 x1 u1 _ I14' r14 (step1 x1 H14 y14)) fun _ s15 ⟨σ15, H15, I15, hw15, q15⟩ => ?_
            refine thnF (pt1.run _ s15 σ15 H15 _ I15 q15) fun b1 s16 ⟨H16, I16, q16⟩ => ?_
            have fin1 : ∀ {s' : Shared} {H' : Hp}, Inv (X.blk s3 H3 scope ce fp) (([] ++ pinsAt fp s7.heap) ++ pinsAt fp1 s14.heap) σ15 H' s' → Nx1 H' → ∃ m, m < k ∧ ∃ j H', Inv (X.blk s3 H3 scope ce fp) ([] ++ pinsAt fp s7.heap) (wipe σ8 vs1) H' s' ∧ tn1 j s'.heap ∧ (∀ b ∈ fp1, H' b = none) ∧ W1 j m H' := fun {s' H'} I' nx => by
              obtain ⟨m', hm, w'⟩ := hNx1 H' nx
              have pin' : ∀ b ∈ fp1, ∀ o, s14.heap.get? b = some o → s'.heap.get? b = some o ∧ H' b = none := fun b hb o e =>
                let z := I'.pin (b, o) (List.mem_append_right _ (List.mem_append_right _ (mem_pinsAt hb e)))
                ⟨z.1, z.2.1⟩
              refine ⟨m', hm, j + 1, H', I'.unpinned.weak (by rw [← hw15, wipe_length]) (fun j v e => by rw [← hw15] at e; exact (wipe_some e).1), T1.keep _ _ _ st14 fun b hb o e => (pin' b hb o e).1, fun b hb => ?_, w'⟩
              obtain ⟨o, e, _⟩ := T1.obj _ _ st14 b hb
              exact (pin' b hb o e).2
            cases b1 with
            | false =>
              simp only [Bool.false_eq_true, if_false] at q16 ⊢
              exact fin1 I16 q16
            | true =>
              simp only [if_true] at q16 ⊢
              refine thnF (pe.run _ s16 σ15 H16 _ I16 q16) fun z s17 ⟨yv, H17, I17, r17, x0, hD17, ad⟩ => ?_
              exact S.add (X.blk s3 H3 scope ce fp) _ _ _ _ _ _ _ _ _ _ _ rfl rfl rfl hu I17 hD17 ad r17 fun x' s18 hN I18 => fin1 I18 (hN (noCd_of S I17 hD17))
        exact compStartS1_ok loop1 (T1.self X.A 0 _ _ _ st11 loop1)
  exact PpSet.codeAny_compStart_set loop (T.self X.A 0 _ _ _ st4 loop)
/-- as a value -/
theorem pe_sC2 (S : SKd X.prog X.w X.K) (hu : X.A.units + 64 < cLine) {elt tg iter tg1 iter1 : Expr} {ifs ifs1 : List Expr} {scope : Scope} {own : List (Str × Nat)} {vs1 : List Nat} {pos : Pos} {wi wi1 : TI} {g g1 : TG} {tt tt1 : TT} {te : TE} (hc : X.calm = true) (hN : X.N.Nodup) (hi : PI X tg iter wi) (ok : BlkOk X.N X.env.scope scope own) (hv : ∀ i ∈ vs1, i ∈ own.map (·.2))
    (hg : ∀ (s : Shared) (H : Hp) (C : Addr) (cl : List (Str × Addr)) (fp : List Addr), PG (X.blk s H scope (compEnvC scope cl C X.env) fp) tg g) (ht : ∀ (s : Shared) (H : Hp) (C : Addr) (cl : List (Str × Addr)) (fp : List Addr), PTs (X.blk s H scope (compEnvC scope cl C X.env) fp) ifs tt)
    (hi1 : ∀ (s : Shared) (H : Hp) (C : Addr) (cl : List (Str × Addr)) (fp : List Addr), PI (X.blk s H scope (compEnvC scope cl C X.env) fp) tg1 iter1 wi1)
    (hg1 : ∀ (s : Shared) (H : Hp) (C : Addr) (cl : List (Str × Addr)) (fp : List Addr), PG (X.blk s H scope (compEnvC scope cl C X.env) fp) tg1 g1) (ht1 : ∀ (s : Shared) (H : Hp) (C : Addr) (cl : List (Str × Addr)) (fp : List Addr), PTs (X.blk s H scope (compEnvC scope cl C X.env) fp) ifs1 tt1)
    (he : ∀ (s : Shared) (H : Hp) (C : Addr) (cl : List (Str × Addr)) (fp : List Addr), PE (X.blk s H scope (compEnvC scope cl C X.env) fp) elt te) (hs : ∀ x, foldedSetIterable iter X.env x = pure x) (hs1 : ∀ env x, foldedSetIterable iter1 env x = pure x) :
    PE X (.SetComp elt [⟨tg, iter, ifs, 0⟩, ⟨tg1, iter1, ifs1, 0⟩] scope pos) (tSC2 S wi g tt wi1 g1 tt1 te (own.map (·.2)) vs1) := by
  refine ⟨fun pins s σ H Q I h => ?_⟩
  rw [PpSet.eval_SetComp]
  refine sC2_core S hu hc hN I hi ok hv hg ht he hs hi1 hg1 ht1 hs1 h fun D C s' m H' I' q hn f => ⟨m, hn, fun h'' sb => ?_⟩
  obtain ⟨f0, f1, f2, f3, f4, f5⟩ := f
  exact ⟨.ref D, H', I'.turned (t' := s'.toks) (fun b o hb e => (sb.2 b hb).trans e) f0 f1 f3 f4 f5, rfl, q⟩
end
end Mi

set_option maxHeartbeats 2000000
namespace Mi
open PySem PySem.Spec PyProof.Rows L2
/-- sets of ints -/
def intKd (P : Program) (w : World) (K : PySem.W.Frag) : SKd P w K where
  α := (Int → Bool) × Nat
  f := fun a x h => SetR w h a x.1 x.2
  z := (fun j => decide (j ∈ ([] : List Int).take 0), 0)
  new := fun H h a ho => setO_new (setR_new_at (ns := []) ho)
  isS := fun h a x ⟨o, es, ep, t, h1, h2, h3, _⟩ => ⟨o, es, ep, t, h1, h3⟩
  Ad := fun H x y N => ∃ k, y = .int k ∧ x.2 + 1 < scanBound ∧ N (fun j => x.1 j || decide (j = k), if x.1 k = true then x.2 else x.2 + 1)
  add := fun X pins σ H s E D x y u N Q e1 e2 e3 hu I hD ⟨k, ey, room, hN⟩ r hQ => by
    subst ey
    subst e2
    obtain ⟨tk, rfl⟩ := r
    have R : SetR X.w s.heap D x.1 x.2 := (I.hok D _ hD).1
    refine setR_add R room fun h' sb new => ?_
    have he : ∃ u, h'.get? D = some u := by
      have ⟨o, _, _, _, ho, _⟩ := new
      exact ⟨o, ho⟩
    exact hQ _ _ hN (I.write (e := D) (t' := s.toks + 1) (by rw [hD]; trivial) (.inl rfl) (fun b u hb hu => (sb.2 b hb).trans hu) he (setO_new new))
/-- sets of tuples of ints -/
def tupKd (P : Program) (w : World) (K : PySem.W.Frag) : SKd P w K where
  α := List (Addr × List Int)
  f := fun a L h => SetT0 P w h a L
  z := []
  new := fun H h a ho => setTO_new (setTR_fresh ho).t0
  isS := fun h a x R => by
    obtain ⟨es, ep, t, ⟨o, h1, h2, h3⟩, _⟩ := R.ex
    exact ⟨o, es, ep, t, h1, h3⟩
  Ad := fun H L y N => ∃ a k, y = .ref a ∧ SqT K H a (k.map V.int) ∧ (∀ p ∈ L, SqT K H p.1 (p.2.map V.int)) ∧ L.length + 1 < 64 ∧ ∀ L', (k ∈ L.map (·.2) → L' = L) → (k ∉ L.map (·.2) → L'.Perm ((a, k) :: L)) → N L'
  add := fun X pins σ H s E D L y u N Q e1 e2 e3 hu I hD ⟨a, k, ey, hs, hL, room, hN⟩ r hQ => by
    subst ey
    subst e1
    subst e2
    subst e3
    cases r
    have R0 : SetT0 X.prog X.w s.heap D L := (I.hok D _ hD).1
    obtain ⟨es, ep, t, R⟩ := R0.full fun p hp => I.isT (hL p hp)
    obtain ⟨o, ho, hex, hd⟩ := R.ob
    have hx := I.isT hs
    refine wpAny_call_entry F.slot_set_add ⟨o, ho, hex.1⟩ F.entry_set_add ?_ (F.args_set_add_2 _ _)
    unfold Builtin.«set.add» Builtin.Frozenset.oneOther
    simp only [List.isEmpty_nil, bind_assoc]
    unfold Builtin.Frozenset.addrOf setAdd
    refine wpAny_bind (wpAny_pure ?_)
    try dsimp only
    refine wpAny_bind (wpAny_pure ?_)
    try dsimp only
    refine wpAny_bind ?_
    refine wpAny_holding ?_
    refine wpAny_bind (wpAny_pyHash_tuple (by show X.A.units + 1 < _; omega) hx ?_)
    refine add_at (s := { s with toks := s.toks + (k.length + 1) }) (es := es) (ep := ep) (t := t) R hx (by show X.A.units + 1 < _; omega) room fun b h' L' es' ep' t' sb R' c1 c2 => ?_
    have he : ∃ u, h'.get? D = some u := by
      obtain ⟨o', ho', _⟩ := R'.ob
      exact ⟨o', ho'⟩
    show wpAny _ _ (ret Value.none) _ _ _
    exact wpAny_pure ⟨_, rfl, hQ L' _ (hN L' c1 c2) (I.write (e := D) (t' := s.toks + (k.length + 1)) (by rw [hD]; trivial) (.inl rfl) (fun b u hb hu => (sb.2 b hb).trans hu) he (setTO_new R'.t0))⟩
end Mi

set_option maxHeartbeats 2000000
namespace Mi
open PySem PySem.Spec PyProof.Rows L2
/-! ### writing a set that stands beside the places -/
theorem HM.updX {K : PySem.W.Frag} {m : List Addr} {H : Hp} {D : Addr} {q : Heap → Prop} {o : HO} (hD : H D = some (.ext q)) (nc : NoCd H D) : HM K m H m (L2.upd H D o) := by
  have ne : ∀ a u, H a = some u → (∀ q, u ≠ .ext q) → a ≠ D := fun a u e n z => by rw [z, hD] at e; cases e; exact n _ rfl
  refine ⟨⟨[], by simp⟩, fun a vs h => ?_, fun a vs h => ?_, fun n P h => TD.ext (fun P ps e => ?_) (fun c P e => ?_) h, fun c P e => ?_⟩
  · rcases h with h | h
    · refine .inl ?_
      rcases h with h | ⟨ob, h⟩
      · exact .inl (by rw [upd_ne (ne _ _ h (fun _ z => by cases z))]; exact h)
      · exact .inr ⟨ob, by rw [upd_ne (ne _ _ h (fun _ z => by cases z))]; exact h⟩
    · exact .inr h
  · rcases h with ⟨ob, h⟩ | h
    · exact .inl ⟨ob, by rw [upd_ne (ne _ _ h (fun _ z => by cases z))]; exact h⟩
    · exact .inr h
  · rw [upd_ne (ne _ _ e (fun _ z => by cases z))]; exact e
  · rw [upd_ne (nc _ _ e)]; exact e
  · rw [upd_ne (nc _ _ e)]; exact e
theorem HX.overX {K : PySem.W.Frag} {m m1 : List Addr} {H H1 : Hp} {D : Addr} {q : Heap → Prop} {o : HO} (x : HX K m H m1 H1) (hn : H D = none) (hD : H1 D = some (.ext q)) (nc : NoCd H1 D) : HX K m H m1 (upd H1 D o) :=
  ⟨x.toHM.trans (HM.updX hD nc), fun a u z h n => by rw [upd_ne (ne_of_none h hn)]; exact x.fr a u z h n, x.nw, fun a h => ex_upd a (x.ex a h)⟩
theorem HR.besideX {W : Wd} {m : List Addr} {H : Hp} {st : Store} (h : HR W m H st) {D : Addr} {q : Heap → Prop} {u : HO} (hD : H D = some (.ext q)) (nc : NoCd H D) (hn : D ∉ m) : HR W m (upd H D u) st := by
  have X : HM W.K m H m (upd H D u) := HM.updX hD nc
  refine ⟨h.len, h.uniq, fun l o e => ?_, fun P hP => X.td _ _ (h.tab P hP)⟩
  obtain ⟨a, g, r⟩ := h.at_ l o e
  have ne : a ≠ D := fun z => hn (z ▸ List.mem_of_getElem? g)
  refine ⟨a, g, ?_⟩
  cases o with
  | lst xs =>
    obtain ⟨vs, h1, h2⟩ := r
    exact ⟨vs, by rw [upd_ne ne]; exact h1, h2.mono0 X⟩
  | dic xs =>
    obtain ⟨vs, h1, h2⟩ := r
    exact ⟨vs, by rw [upd_ne ne]; exact h1, h2.mono0 X⟩
  | set xs =>
    obtain ⟨ks, L, h1, h2, h3, h4⟩ := r
    exact ⟨ks, L, h1, by rw [upd_ne ne]; exact h2, fun p hp => X.sq _ _ (h3 p hp), h4⟩
/-- a set that stands beside the places becomes one -/
theorem HR.adoptS {W : Wd} {m : List Addr} {H : Hp} {st : Store} (h : HR W m H st) {p : Addr} {xs : List PV} (hn : p ∉ m) (r : SetOf W.K W.P W.w H p xs) : HR W (m ++ [p]) H (st ++ [.set xs]) := by
  have M : HM W.K m H (m ++ [p]) H := ⟨⟨[p], rfl⟩, fun _ _ h => h, fun _ _ h => h, fun _ _ h => h, fun _ _ h => h⟩
  have rm : ∀ {a : Addr} {o : MO}, RM W.K W.P W.w m H a o → RM W.K W.P W.w (m ++ [p]) H a o := fun {a o} q => by
    cases o with
    | lst xs => obtain ⟨vs, h1, h2⟩ := q; exact ⟨vs, h1, h2.mono0 M⟩
    | dic xs => obtain ⟨vs, h1, h2⟩ := q; exact ⟨vs, h1, h2.mono0 M⟩
    | set xs => exact q
  have old : ∀ {l : Nat} {a : Addr}, (m ++ [p])[l]? = some a → (l < st.length ∧ m[l]? = some a ∧ a ≠ p) ∨ (l = st.length ∧ a = p) := fun {l a} g => by
    by_cases hl : l < m.length
    · rw [List.getElem?_append_left hl] at g
      exact .inl ⟨by rw [← h.len]; exact hl, g, fun e => hn (by rw [← e]; exact List.mem_of_getElem? g)⟩
    · rw [List.getElem?_append_right (by omega)] at g
      have : l - m.length = 0 := by
        have := (List.getElem?_eq_some_iff.mp g).1
        rw [List.length_singleton] at this
        omega
      rw [this] at g
      exact .inr ⟨by rw [← h.len]; omega, (Option.some.inj g).symm⟩
  refine ⟨by rw [List.length_append, List.length_append, h.len]; rfl, fun l l' a g g' z z' => ?_, fun l o e => ?_, h.tab⟩
  · rcases old g with ⟨a1, a2, a3⟩ | ⟨a1, a2⟩ <;> rcases old g' with ⟨b1, b2, b3⟩ | ⟨b1, b2⟩
    · rw [List.getElem?_append_left a1] at z
      rw [List.getElem?_append_left b1] at z'
      exact h.uniq l l' a a2 b2 z z'
    · exact absurd b2 a3
    · exact absurd a2 b3
    · omega
  · by_cases hl : l < st.length
    · rw [List.getElem?_append_left hl] at e
      obtain ⟨a, g, r'⟩ := h.at_ l o e
      exact ⟨a, by rw [List.getElem?_append_left (by rw [h.len]; exact hl)]; exact g, rm r'⟩
    · have hl2 : l = st.length := by
        have := (List.getElem?_eq_some_iff.mp e).1
        rw [List.length_append, List.length_singleton] at this
        omega
      subst hl2
      rw [List.getElem?_append_right (Nat.le_refl _), Nat.sub_self] at e
      cases e
      refine ⟨p, ?_, r⟩
      rw [← h.len, List.getElem?_append_right (Nat.le_refl _), Nat.sub_self]
      rfl
theorem SR0.monoM {W : Wd} {base : Heap} {code : Value} {n : Nat} {ρ : Env} {m m' : List Addr} {σ : L2.St} {H H' : Hp} {st st' : Store} (h : SR0 W base code n ρ m σ H st) (x : HM W.K m H m' H') (hr : HR W m' H' st') : SR0 W base code n ρ m' σ H' st' := by
  refine ⟨fun i y e => ?_, h.len, hr, ?_⟩
  · obtain ⟨v, h1, h2⟩ := h.rs i y e
    exact ⟨v, h1, h2.mono0 x⟩
  · obtain ⟨c, P, h1, h2, h3⟩ := h.ct
    exact ⟨c, P, h1, h2.imp id (x.cd _ _), x.td _ _ h3⟩
/-! ### what is gathered, told by values -/
structure AccK (X : Cx) (S : SKd X.prog X.w X.K) where
  A : Hp → List PV → S.α → Prop
  gd : List PV → Prop
  Am : ∀ m H m' H' acc x, HM X.K m H m' H' → A H acc x → A H' acc x
  Az : ∀ H, A H [] S.z
  As : ∀ m H acc x z u (N : S.α → Prop), gd (acc ++ [z]) → A H acc x → RV X.K m H z u → (∀ x', A H (acc ++ [z]) x' → N x') → S.Ad H x u N
  Ap : ∀ a b, gd (a ++ b) → gd a
theorem loopC_pre {chk : Store → Bool} {g : PV → Env → Store → Option (Env × Store)} {t : Env → Store → Option (Bool × Store)} {e : Env → Store → Out} {ρ : Env} : ∀ {items acc : List PV} {st : Store} {ys : List PV} {st2 : Store}, loopC chk g t e ρ items acc st = some (ys, st2) → ∃ r, ys = acc ++ r
  | [], acc, st, ys, st2, h => by
    unfold loopC at h
    split at h
    · cases h; exact ⟨[], by simp⟩
    · cases h
  | x :: r, acc, st, ys, st2, h => by
    unfold loopC at h
    split at h
    · split at h
      · cases h
      · split at h
        · cases h
        · exact loopC_pre h
        · split at h
          · cases h
          · obtain ⟨r', e⟩ := loopC_pre h
            exact ⟨_, by rw [e, List.append_assoc]⟩
    · cases h
section
variable {X : Cx} {p : Pr}
theorem loopSW (S : SKd X.prog X.w X.K) (K : AccK X S) {t e f : IR} {vs : List Nat} {items : List PV} {src : Option Nat} {J : It} {ρ : Env} {σ : L2.St} {mb mz m1 : List Addr} {Hb Hz H1 : Hp} {stb st1 : Store} {D : Addr} {acc0 : List PV} {x0 : S.α} {ys : List PV} {st2 : Store}
    (hsl : ∀ j ∈ slG t, j ∈ vs) (it : ItM (wo X p.tb p.D) mb Hb items src J) (sr : SR X p ρ mb σ Hb stb) (hb : HM X.K mb Hb m1 H1) (hz : HX X.K mz Hz m1 H1) (hDz : Hz D = none) (hr1 : HR (wo X p.tb p.D) m1 H1 st1) (hn1 : D ∉ m1) (hD1 : H1 D = some (S.O D x0)) (a0 : K.A H1 acc0 x0)
    (lp0 : loopC (stands src items) (evG p.C t) (fun ρ st => evT p.C f ρ st) (fun ρ st => evE p.C e ρ st) (wipeP ρ vs) items acc0 st1 = some (ys, st2)) (hg : K.gd ys) {Fin : Hp → Prop}
    (fin : ∀ m H x, HM X.K m1 H1 m H → HX X.K mz Hz m H → HR (wo X p.tb p.D) m H st2 → D ∉ m → H D = some (S.O D x) → K.A H ys x → Fin H) :
    ∃ W : Nat → Nat → Hp → Prop, (∃ m, W 0 m H1) ∧ ∀ i m H, W i m H →
      (J.stop i H ∧ Fin H) ∨ (J.go i H ∧ ∃ Nx : Hp → Prop, (∀ H', Nx H' → ∃ m', m' < m ∧ W (i + 1) m' H') ∧ ∀ x H', J.yld i H x H' → tG X p t x (wipe σ vs) H' fun σ2 H2 => wipe σ2 vs = wipe σ vs ∧ tTs X p f σ2 H2 fun b H3 =>
        if b = true then tE X p e σ2 H3 fun y H4 => ∃ x, H4 D = some (S.O D x) ∧ S.Ad H4 x y (fun x' => NoCd H4 D → Nx (upd H4 D (S.O D x'))) else Nx H3) := by
  let St : Nat → Hp → Prop := fun i H => ∃ m st acc x, HM X.K m1 H1 m H ∧ HX X.K mz Hz m H ∧ HR (wo X p.tb p.D) m H st ∧ D ∉ m ∧ H D = some (S.O D x) ∧ K.A H acc x ∧
    loopC (stands src items) (evG p.C t) (fun ρ st => evT p.C f ρ st) (fun ρ st => evE p.C e ρ st) (wipeP ρ vs) (items.drop i) acc st = some (ys, st2)
  refine ⟨fun i mm H => mm = items.length - i ∧ i ≤ items.length ∧ St i H, ⟨items.length, by simp, Nat.zero_le _, m1, st1, acc0, x0, HX.refl.toHM, hz, hr1, hn1, hD1, a0, lp0⟩, ?_⟩
  rintro i mm H' ⟨em, hi, m, st, acc, x, hm, hx, hr, hn, hDl, ac, lp⟩
  have keep : ∀ {m2 : List Addr} {H2 : Hp}, HX X.K m H' m2 H2 → D ∉ m2 := fun {m2 H2} x hm => by
    have := x.nw D hm hn
    rw [hDl] at this
    cases this
  by_cases hlt : i < items.length
  · have ed : items.drop i = items[i] :: items.drop (i + 1) := List.drop_eq_getElem_cons hlt
    rw [ed] at lp
    simp only [loopC] at lp
    split at lp
    · rename_i hck
      rw [Bool.and_eq_true, decide_eq_true_eq] at hck
      obtain ⟨it1, _⟩ := it m H' st (hb.trans hm) hr hck.1
      obtain ⟨go, yl⟩ := it1 i items[i] (List.getElem?_eq_getElem hlt)
      refine .inr ⟨go, St (i + 1), fun H4 z => ⟨items.length - (i + 1), by omega, rfl, hlt, z⟩, fun v Hy y => ?_⟩
      obtain ⟨hxy, hry, rvy⟩ := yl v Hy y
      split at lp
      · cases lp
      · rename_i ρ1 sta eg
        have srw := ((sr.monoM ((hb.trans hm).trans hxy.toHM) hry).wiped vs)
        refine ⟨wipeP ρ vs, m, st, items[i], ρ1, sta, srw, rvy, eg, fun σ2 m2 H2 hx2 sr2 hw => ⟨by rw [hw _ hsl, wipe_wipe], ?_⟩⟩
        split at lp
        · cases lp
        · rename_i stb' et
          refine ⟨ρ1, m2, sta, false, stb', sr2, et, fun m3 H3 hx3 hr3 => ?_⟩
          show (if false = true then _ else _)
          rw [if_neg (by decide)]
          have xx := (hxy.trans hx2).trans hx3
          exact ⟨m3, stb', acc, x, hm.trans xx.toHM, hx.trans xx, hr3, keep xx, xx.fr D _ trivial hDl hn, K.Am _ _ _ _ _ _ xx.toHM ac, lp⟩
        · rename_i stb' et
          refine ⟨ρ1, m2, sta, true, stb', sr2, et, fun m3 H3 hx3 hr3 => ?_⟩
          show (if true = true then _ else _)
          rw [if_pos rfl]
          split at lp
          · cases lp
          · rename_i z stc ee
            refine ⟨ρ1, m3, stb', z, stc, sr2.mono hx3 hr3, ee, fun u m4 H4 hx4 hr4 rv4 => ?_⟩
            have xx := ((hxy.trans hx2).trans hx3).trans hx4
            have hD4 : H4 D = some (S.O D x) := xx.fr D _ trivial hDl hn
            have nD4 := keep xx
            refine ⟨x, hD4, K.As m4 H4 acc x z u _ ?_ (K.Am _ _ _ _ _ _ xx.toHM ac) rv4 fun x' ax nc => ?_⟩
            · obtain ⟨r, er⟩ := loopC_pre lp
              rw [er] at hg
              exact K.Ap _ _ hg
            · have XM : HM X.K m4 H4 m4 (upd H4 D (S.O D x')) := HM.updX hD4 nc
              exact ⟨m4, stc, acc ++ [z], x', (hm.trans xx.toHM).trans XM, (hx.trans xx).overX hDz hD4 nc, hr4.besideX hD4 nc nD4, nD4, upd_same, K.Am _ _ _ _ _ _ XM ax, lp⟩
    · cases lp
  · have ei : i = items.length := by omega
    subst ei
    rw [List.drop_length] at lp
    simp only [loopC] at lp
    split at lp
    · rename_i hck
      cases lp
      obtain ⟨_, stop⟩ := it m H' _ (hb.trans hm) hr hck
      exact .inl ⟨stop, fin m H' x hm hx hr hn hDl ac⟩
    · cases lp
end
end Mi

set_option maxHeartbeats 2000000
namespace Mi
open PySem PySem.Spec PyProof.Rows L2
theorem toInts_app : ∀ {a b : List PV} {is : List Int}, toInts (a ++ b) = some is → ∃ i1 i2, toInts a = some i1 ∧ toInts b = some i2 ∧ is = i1 ++ i2
  | [], b, is, h => ⟨[], is, rfl, h, rfl⟩
  | x :: a, b, is, h => by
    cases x <;> simp only [List.cons_append, toInts] at h <;> try cases h
    split at h
    · rename_i is0 e
      obtain ⟨i1, i2, e1, e2, e3⟩ := toInts_app e
      cases h
      refine ⟨_ :: i1, i2, ?_, e2, by rw [e3]; rfl⟩
      rw [toInts, e1]
    · cases h
theorem toTups_app : ∀ {a b : List PV} {is : List (List Int)}, toTups (a ++ b) = some is → ∃ i1 i2, toTups a = some i1 ∧ toTups b = some i2 ∧ is = i1 ++ i2
  | [], b, is, h => ⟨[], is, rfl, h, rfl⟩
  | x :: a, b, is, h => by
    cases x <;> simp only [List.cons_append, toTups] at h <;> try cases h
    split at h
    · rename_i k is0 e0 e
      obtain ⟨i1, i2, e1, e2, e3⟩ := toTups_app e
      cases h
      refine ⟨_ :: i1, i2, ?_, e2, by rw [e3]; rfl⟩
      rw [toTups, e0, e1]
    · cases h
theorem toInts_one {z : PV} {is : List Int} (h : toInts [z] = some is) : ∃ k, z = .int k ∧ is = [k] := by
  cases z <;> simp only [toInts] at h <;> try cases h
  exact ⟨_, rfl, rfl⟩
theorem toTups_one {z : PV} {is : List (List Int)} (h : toTups [z] = some is) : ∃ t k, z = .tup t ∧ toInts t = some k ∧ is = [k] := by
  cases z <;> simp only [toTups] at h <;> try cases h
  split at h
  · rename_i k is0 e0 e
    cases e
    cases h
    exact ⟨_, _, rfl, e0, rfl⟩
  · cases h
theorem dedupI_mem {k : Int} : ∀ {l : List Int}, k ∈ dedupI l ↔ k ∈ l
  | [] => Iff.rfl
  | x :: r => by
    rw [dedupI]
    split
    · rename_i h
      rw [dedupI_mem, List.mem_cons]
      exact ⟨.inr, fun z => z.elim (fun e => e ▸ h) id⟩
    · rw [List.mem_cons, List.mem_cons, dedupI_mem]
theorem dedupI_len_le : ∀ l : List Int, (dedupI l).length ≤ l.length
  | [] => Nat.le_refl _
  | x :: r => by
    rw [dedupI]
    have := dedupI_len_le r
    split <;> simp only [List.length_cons] <;> omega
theorem dedupI_snoc {k : Int} : ∀ l : List Int, (dedupI (l ++ [k])).length = if k ∈ l then (dedupI l).length else (dedupI l).length + 1
  | [] => by simp [dedupI]
  | x :: r => by
    have ih := dedupI_snoc (k := k) r
    rw [List.cons_append, dedupI, dedupI]
    by_cases h1 : x ∈ r
    · rw [if_pos (List.mem_append_left _ h1), if_pos h1, ih]
      by_cases h2 : k ∈ r
      · rw [if_pos h2, if_pos (List.mem_cons_of_mem _ h2)]
      · rw [if_neg h2, if_neg (fun z => (List.mem_cons.mp z).elim (fun e => h2 (by rw [e]; exact h1)) h2)]
    · by_cases h3 : x = k
      · subst h3
        rw [if_pos (List.mem_append_right _ (List.mem_singleton.mpr rfl)), if_neg h1, if_pos List.mem_cons_self, ih, if_neg h1]
        rfl
      · have n1 : x ∉ r ++ [k] := fun z => (List.mem_append.mp z).elim h1 fun z => h3 (List.mem_singleton.mp z)
        rw [if_neg n1, if_neg h1, List.length_cons, ih]
        by_cases h2 : k ∈ r
        · rw [if_pos h2, if_pos (List.mem_cons_of_mem _ h2)]; rfl
        · rw [if_neg h2, if_neg (fun z => (List.mem_cons.mp z).elim (fun e => h3 e.symm) h2)]; rfl
def accI (X : Cx) : AccK X (intKd X.prog X.w X.K) where
  A := fun H acc x => ∃ is, toInts acc = some is ∧ x.1 = (fun j => decide (j ∈ is)) ∧ x.2 = (dedupI is).length
  gd := fun acc => ∃ is, toInts acc = some is ∧ is.length < 64
  Am := fun _ _ _ _ _ _ _ h => h
  Az := fun H => ⟨[], rfl, by show (fun j : Int => decide (j ∈ ([] : List Int).take 0)) = _; rfl, rfl⟩
  As := fun m H acc x z u N ⟨is, e1, e2⟩ ⟨is0, a1, a2, a3⟩ r hN => by
    obtain ⟨i1, i2, h1, h2, h3⟩ := toInts_app e1
    rw [a1] at h1
    cases h1
    obtain ⟨k, rfl, rfl⟩ := toInts_one h2
    have hl : is0.length < 63 := by rw [h3, List.length_append, List.length_singleton] at e2; omega
    have hd := dedupI_len_le is0
    refine ⟨k, r, by rw [a3]; unfold scanBound; omega, hN _ ⟨is0 ++ [k], by rw [e1, h3], ?_, ?_⟩⟩
    · funext j
      show (x.1 j || decide (j = k)) = _
      rw [a2]
      simp [Bool.decide_or]
    · show (if x.1 k = true then x.2 else x.2 + 1) = _
      rw [dedupI_snoc, a2, a3]
      simp only [decide_eq_true_eq]
  Ap := fun a b ⟨is, e1, e2⟩ => by
    obtain ⟨i1, i2, h1, h2, h3⟩ := toInts_app e1
    exact ⟨i1, h1, by rw [h3, List.length_append] at e2; omega⟩
def accT (X : Cx) : AccK X (tupKd X.prog X.w X.K) where
  A := fun H acc (L : List (Addr × List Int)) => ∃ ks, toTups acc = some ks ∧ (∀ p ∈ L, SqT X.K H p.1 (p.2.map V.int)) ∧ (∀ k, k ∈ L.map (fun q : Addr × List Int => q.2) ↔ k ∈ ks) ∧ L.length ≤ ks.length
  gd := fun acc => ∃ is, toTups acc = some is ∧ is.length < 64
  Am := fun _ _ _ _ _ (L : List (Addr × List Int)) x ⟨ks, h1, h2, h3⟩ => ⟨ks, h1, fun p hp => x.sq _ _ (h2 p hp), h3⟩
  Az := fun H => ⟨[], rfl, fun p (hp : p ∈ ([] : List (Addr × List Int))) => (List.not_mem_nil hp).elim, fun k => Iff.rfl, Nat.le_refl _⟩
  As := fun m H acc (L : List (Addr × List Int)) z u N ⟨is, e1, e2⟩ ⟨ks, a1, a2, a3, a4⟩ r hN => by
    obtain ⟨i1, i2, h1, h2, h3⟩ := toTups_app e1
    rw [a1] at h1
    cases h1
    obtain ⟨t, k, rfl, e3, rfl⟩ := toTups_one h2
    have hl : ks.length < 63 := by rw [h3, List.length_append, List.length_singleton] at e2; omega
    obtain ⟨a, vs, ev, sq, rv⟩ := r
    rw [toInts_of rv e3] at sq
    refine ⟨a, k, ev, sq, a2, by omega, fun L' c1 c2 => hN L' ⟨ks ++ [k], by rw [e1, h3], ?_, ?_, ?_⟩⟩
    · intro q hq
      by_cases hk : k ∈ L.map (·.2)
      · rw [c1 hk] at hq; exact a2 q hq
      · rcases List.mem_cons.mp ((c2 hk).mem_iff.mp hq) with e | hq
        · rw [e]; exact sq
        · exact a2 q hq
    · intro k'
      by_cases hk : k ∈ L.map (·.2)
      · rw [c1 hk, a3, List.mem_append, List.mem_singleton]
        exact ⟨.inl, fun z => z.elim id fun e => by rw [e]; exact (a3 k).mp hk⟩
      · rw [((c2 hk).map (·.2)).mem_iff, List.map_cons, List.mem_cons, a3, List.mem_append, List.mem_singleton]
        exact Or.comm
    · rw [List.length_append, List.length_singleton]
      by_cases hk : k ∈ L.map (·.2)
      · rw [c1 hk]; omega
      · rw [(c2 hk).length_eq, List.length_cons]; omega
  Ap := fun a b ⟨is, e1, e2⟩ => by
    obtain ⟨i1, i2, h1, h2, h3⟩ := toTups_app e1
    exact ⟨i1, h1, by rw [h3, List.length_append] at e2; omega⟩
theorem loopO_pre {chk : Store → Bool} {g : PV → Env → Store → Option (Env × Store)} {t : Env → Store → Option (Bool × Store)} {inner : Env → List PV → Store → Option (List PV × Store)} {ρ : Env} (hi : ∀ ρ acc st ys st2, inner ρ acc st = some (ys, st2) → ∃ r, ys = acc ++ r) :
    ∀ {items acc : List PV} {st : Store} {ys : List PV} {st2 : Store}, loopO chk g t inner ρ items acc st = some (ys, st2) → ∃ r, ys = acc ++ r
  | [], acc, st, ys, st2, h => by
    unfold loopO at h
    split at h
    · cases h; exact ⟨[], by simp⟩
    · cases h
  | x :: r, acc, st, ys, st2, h => by
    unfold loopO at h
    split at h
    · split at h
      · cases h
      · split at h
        · cases h
        · exact loopO_pre hi h
        · split at h
          · cases h
          · rename_i acc' st3 e
            obtain ⟨r1, e1⟩ := hi _ _ _ _ _ e
            obtain ⟨r', e2⟩ := loopO_pre hi h
            exact ⟨r1 ++ r', by rw [e2, e1, List.append_assoc]⟩
    · cases h
variable {p : Pr} {k : Nat}
theorem s_lsc {e t i f : IR} {own : List (Str × Nat)} (he : SE p k e) (ht : SG p k t) (hi : SI p k i) (hf : STs p k f) : SE p k (.lsc e t i f own) := by
  intro c X ex o h
  have hp : plainT ex = true := by cases ex <;> first | rfl | exact Bool.noConfusion h
  have hu := o.room.units
  refine ⟨?_, pt_of ?_ hp⟩ <;>
  · unfold chkE at h
    split at h
    · rename_i x p1 elt tg it ifs scope p2 p3
      simp only [Bool.and_eq_true, decide_eq_true_eq] at h
      obtain ⟨⟨⟨⟨⟨⟨⟨⟨h1, h2⟩, h3⟩, h4⟩, h5⟩, h6⟩, h7⟩, h8⟩, h9⟩ := h
      subst h1
      have pe := pe_sC (intKd X.prog X.w X.K) hu (pos := p2) (elt := elt) (tg := tg) (iter := it) (ifs := ifs) (wi := tI X p i) (g := tG X p t) (tt := tTs X p f) (te := tE X p e) o.calm (by rw [o.N]; exact o.nd) (hi c X _ _ o h3) (blkOk_by (by rw [o.N, o.sc]; exact h5)) (fun s H C cl fp => ht _ _ _ (okx_blk o _ s H C cl fp) h7) (fun s H C cl fp => hf _ _ _ (okx_blk o _ s H C cl fp) h8)
        (fun s H C cl fp => (he _ _ _ (okx_blk o _ s H C cl fp) h9).1) (noSet_fold h4)
      refine ⟨fun pins s σ H Q I ⟨ρ, m, st, pv, st', sr, ev, n⟩ => ?_⟩
      have hsl : ∀ j ∈ slG t, j ∈ own.map (·.2) := fun j hj => of_decide_eq_true (List.all_eq_true.mp h6 j hj)
      simp only [evE] at ev
      split at ev
      · rename_i items src st1 e1
        split at ev
        · rename_i ys st2 e2
          split at ev
          · rename_i is e3
            split at ev
            · rename_i hl
              cases ev
              refine Call_ (ld_blt I (glC_of o.sc h2) (o.bl _ (by decide)) PySem.boot_len ?_)
              refine PyProof.Rows.callWith_builtin1 (PyProof.Rows.args_cons (thn (pe.run pins s σ H (fun v H1 => ∃ D m1, v = .ref D ∧ H1 D = some (SetO X.w D (fun j => decide (j ∈ is)) (dedupI is).length) ∧ HX X.K m H m1 H1 ∧ HR (wo X p.tb p.D) m1 H1 st') I ?_) fun v s1 ⟨y, H1, I1, r1, D, m1, e4, hD, hx, hr⟩ => PyProof.Rows.args_nil ?_) rfl) rfl rfl
              · refine ⟨ρ, m, st, items, src, st1, sr, e1, fun J m1 H1 hx1 hr1 it D hD => ?_⟩
                have sD : HX X.K m1 H1 m1 (upd H1 D ((intKd X.prog X.w X.K).O D (intKd X.prog X.w X.K).z)) := HX.side hD
                exact loopSW (intKd X.prog X.w X.K) (accI X) hsl it (sr.mono hx1 hr1) sD.toHM sD hD (hr1.side hD) (fun hm => hr1.in_ hm hD) upd_same ((accI X).Az _) e2 ⟨is, e3, hl⟩ fun m2 H2 x hm2 hz2 hr2 hn2 hD2 ⟨is', a1, a2, a3⟩ => by
                  rw [e3] at a1
                  cases a1
                  refine ⟨D, m2, rfl, ?_, hx1.trans hz2, hr2⟩
                  rw [hD2]
                  show some (SetO X.w D x.1 x.2) = _
                  rw [a2, a3]
              · subst e4
                cases r1
                have R := setO_get I1 hD
                obtain ⟨ob, es, ep, tt, ho, hex, hd, _, _, _, _, hf, hn, _⟩ := R
                have hdl := dedupI_len_le is
                refine call_len_set ho hex hd hf (by rw [hn]; omega) ⟨.int (dedupI is).length, H1, I1.tok _, ⟨_, by rw [hn]⟩, n _ m1 H1 hx hr rfl⟩
            · cases ev
          · cases ev
        · cases ev
      · cases ev
    · cases h
theorem s_sc2 {e t1 i1 f1 t2 i2 f2 : IR} {own : List (Str × Nat)} {own2 : List Nat} (he : SE p k e) (ht1 : SG p k t1) (hi1 : SI p k i1) (hf1 : STs p k f1) (ht2 : SG p k t2) (hi2 : SI p k i2) (hf2 : STs p k f2) : SE p k (.sc2 e t1 i1 f1 t2 i2 f2 own own2) := by
  intro c X ex o h
  have hp : plainT ex = true := by cases ex <;> first | rfl | exact Bool.noConfusion h
  have hu := o.room.units
  refine ⟨?_, pt_of ?_ hp⟩ <;>
  · unfold chkE at h
    split at h
    · rename_i elt tg it ifs tg2 it2 ifs2 scope pos
      simp only [Bool.and_eq_true] at h
      obtain ⟨⟨⟨⟨⟨⟨⟨⟨⟨⟨⟨⟨h1, h2⟩, h3⟩, h4⟩, h5⟩, h6⟩, h7⟩, h8⟩, h9⟩, h10⟩, h11⟩, h12⟩, h13⟩ := h
      have hsl : ∀ j ∈ slG t1, j ∈ own.map (·.2) := fun j hj => of_decide_eq_true (List.all_eq_true.mp h4 j hj)
      have hv : ∀ j ∈ own2, j ∈ own.map (·.2) := fun j hj => of_decide_eq_true (List.all_eq_true.mp h7 j hj)
      have hsl2 : ∀ j ∈ slG t2, j ∈ own2 := fun j hj => of_decide_eq_true (List.all_eq_true.mp h10 j hj)
      have pe := pe_sC2 (tupKd X.prog X.w X.K) hu (pos := pos) (elt := elt) (tg := tg) (iter := it) (ifs := ifs) (tg1 := tg2) (iter1 := it2) (ifs1 := ifs2) (wi := tI X p i1) (g := tG X p t1) (tt := tTs X p f1) (wi1 := tI X p i2) (g1 := tG X p t2) (tt1 := tTs X p f2) (te := tE X p e) o.calm (by rw [o.N]; exact o.nd) (hi1 c X _ _ o h1) (blkOk_by (by rw [o.N, o.sc]; exact h3)) hv
        (fun s H C cl fp => ht1 _ _ _ (okx_blk o _ s H C cl fp) h5) (fun s H C cl fp => hf1 _ _ _ (okx_blk o _ s H C cl fp) h6) (fun s H C cl fp => hi2 _ _ _ _ (okx_blk o _ s H C cl fp) h8) (fun s H C cl fp => ht2 _ _ _ (okx_blk o _ s H C cl fp) h11) (fun s H C cl fp => hf2 _ _ _ (okx_blk o _ s H C cl fp) h12)
        (fun s H C cl fp => (he _ _ _ (okx_blk o _ s H C cl fp) h13).1) (noSet_fold h2) (fun env x => noSet_fold h9 x)
      refine PE_imp pe fun σ H Q ⟨ρ, m, st, pv, st', sr, ev, n⟩ => ?_
      simp only [evE] at ev
      split at ev
      · rename_i items src st1 e1
        split at ev
        · rename_i ys st2 e2
          split at ev
          · rename_i ks e3
            split at ev
            · rename_i hl
              cases ev
              have ipre : ∀ ρ acc st ys st2, (match evI p.C i2 ρ st with
                  | some (items2, src2, st') => loopC (stands src2 items2) (evG p.C t2) (fun ρ st => evT p.C f2 ρ st) (fun ρ st => evE p.C e ρ st) (wipeP ρ own2) items2 acc st'
                  | none => none) = some (ys, st2) → ∃ r, ys = acc ++ r := fun ρ acc st ys st2 h => by
                split at h
                · exact loopC_pre h
                · cases h
              refine ⟨ρ, m, st, items, src, st1, sr, e1, fun J m1 H1 hx1 hr1 itm D hD => ?_⟩
              have sD : HX X.K m1 H1 m1 (upd H1 D ((tupKd X.prog X.w X.K).O D (tupKd X.prog X.w X.K).z)) := HX.side hD
              let St : Nat → Hp → Prop := fun i H => ∃ m st acc x, HX X.K m1 H1 m H ∧ HR (wo X p.tb p.D) m H st ∧ D ∉ m ∧ H D = some ((tupKd X.prog X.w X.K).O D x) ∧ (accT X).A H acc x ∧
                loopO (stands src items) (evG p.C t1) (fun ρ st => evT p.C f1 ρ st) (fun ρ acc st => match evI p.C i2 ρ st with
                  | some (items2, src2, st') => loopC (stands src2 items2) (evG p.C t2) (fun ρ st => evT p.C f2 ρ st) (fun ρ st => evE p.C e ρ st) (wipeP ρ own2) items2 acc st'
                  | none => none) (wipeP ρ (own.map (·.2))) (items.drop i) acc st = some (ys, st2)
              refine ⟨fun i mm H => mm = items.length - i ∧ i ≤ items.length ∧ St i H, ⟨items.length, by simp, Nat.zero_le _, m1, st1, [], _, sD, hr1.side hD, (fun hm => hr1.in_ hm hD), upd_same, (accT X).Az _, e2⟩, ?_⟩
              rintro i mm H' ⟨em, hi, m, st, acc, x, hx, hr, hn, hDl, ac, lp⟩
              have keep : ∀ {m2 : List Addr} {H2 : Hp}, HX X.K m H' m2 H2 → D ∉ m2 := fun {m2 H2} x hm => by
                have := x.nw D hm hn
                rw [hDl] at this
                cases this
              by_cases hlt : i < items.length
              · have ed : items.drop i = items[i] :: items.drop (i + 1) := List.drop_eq_getElem_cons hlt
                rw [ed] at lp
                simp only [loopO] at lp
                split at lp
                · rename_i hck
                  obtain ⟨it1, _⟩ := itm m H' st hx.toHM hr hck
                  obtain ⟨go, yl⟩ := it1 i items[i] (List.getElem?_eq_getElem hlt)
                  refine .inr ⟨go, St (i + 1), fun H4 z => ⟨items.length - (i + 1), by omega, rfl, hlt, z⟩, fun v Hy y => ?_⟩
                  obtain ⟨hxy, hry, rvy⟩ := yl v Hy y
                  split at lp
                  · cases lp
                  · rename_i ρ1 sta eg
                    have srw := ((sr.mono ((hx1.trans hx).trans hxy) hry).wiped (own.map (·.2)))
                    refine ⟨wipeP ρ (own.map (·.2)), m, st, items[i], ρ1, sta, srw, rvy, eg, fun σ2 m2 H2 hx2 sr2 hw => ⟨by rw [hw _ hsl, wipe_wipe], ?_⟩⟩
                    split at lp
                    · cases lp
                    · rename_i stb' et
                      refine ⟨ρ1, m2, sta, false, stb', sr2, et, fun m3 H3 hx3 hr3 => ?_⟩
                      show (if false = true then _ else _)
                      rw [if_neg (by decide)]
                      have xx := (hxy.trans hx2).trans hx3
                      exact ⟨m3, stb', acc, x, hx.trans xx, hr3, keep xx, xx.fr D _ trivial hDl hn, (accT X).Am _ _ _ _ _ _ xx.toHM ac, lp⟩
                    · rename_i stb' et
                      refine ⟨ρ1, m2, sta, true, stb', sr2, et, fun m3 H3 hx3 hr3 => ?_⟩
                      show (if true = true then _ else _)
                      rw [if_pos rfl]
                      split at lp
                      · cases lp
                      · rename_i acc' stc ein
                        obtain ⟨r, er⟩ := loopO_pre ipre lp
                        split at ein
                        · rename_i items2 src2 std ei
                          refine ⟨ρ1, m3, stb', items2, src2, std, sr2.mono hx3 hr3, ei, fun J1 m4 H4 hx4 hr4 it2' => ?_⟩
                          have xx := ((hxy.trans hx2).trans hx3).trans hx4
                          refine loopSW (tupKd X.prog X.w X.K) (accT X) hsl2 it2' (sr2.mono (hx3.trans hx4) hr4) HX.refl.toHM (hx.trans xx) hD hr4 (keep xx) (xx.fr D _ trivial hDl hn) ((accT X).Am _ _ _ _ _ _ xx.toHM ac) ein ?_ fun m5 H5 x5 hm5 hz5 hr5 hn5 hD5 ac5 => ⟨m5, stc, acc', x5, hz5, hr5, hn5, hD5, ac5, lp⟩
                          have hgd : (accT X).gd ys := ⟨ks, e3, hl⟩
                          rw [er] at hgd
                          exact (accT X).Ap _ _ hgd
                        · cases ein
                · cases lp
              · have ei : i = items.length := by omega
                subst ei
                rw [List.drop_length] at lp
                simp only [loopO] at lp
                split at lp
                · rename_i hck
                  cases lp
                  obtain ⟨_, stop⟩ := itm m H' _ hx.toHM hr hck
                  refine .inl ⟨stop, ?_⟩
                  have xx := hx1.trans hx
                  have hD0 : H D = none := by
                    by_cases hz : H D = none
                    · exact hz
                    · exact absurd hD (hx1.ex D hz)
                  obtain ⟨ks', a1, a2, a3, a4⟩ := ac
                  refine n _ (m ++ [D]) H' (xx.adopt hD0) (hr.adoptS hn ⟨ks', x, a1, hDl, a2, a3⟩) ⟨D, rfl, ?_⟩
                  rw [← hr.len, List.getElem?_append_right (Nat.le_refl _), Nat.sub_self]; rfl
                · cases lp
            · cases ev
          · cases ev
        · cases ev
      · cases ev
    · cases h
end Mi

namespace Mi
open PySem PySem.Spec PyProof.Rows L2
structure Roles (k : Nat) (ir : IR) : Prop where
  e : ∀ p, SE p k ir
  a : ∀ p, SA p k ir
  b : ∀ p, SB p k ir
  o : ∀ p, SO p k ir
  t : ∀ p, STs p k ir
  i : ∀ p, SI p k ir
  g : ∀ p, SG p k ir
  gs : ∀ p, SGs p k ir
  p : ∀ p, SP p k ir
/-- every tree that passes the look stands for its expression -/
theorem roles (k : Nat) (ir : IR) : Roles k ir := by
  induction ir with
  | v i =>
    exact ⟨fun p => s_v _, (fun p c X es o h => Bool.noConfusion h), (fun p w c X es pos o h => Bool.noConfusion h), (fun p c X e o h => Bool.noConfusion h), (fun p c X es o h => Bool.noConfusion h), (fun p c X tg e o h => Bool.noConfusion h), (fun p c X e o h => Bool.noConfusion h), (fun p c X es o h => Bool.noConfusion h), (fun p c X ks keys vals pos o hk h => Bool.noConfusion h)⟩
  | k c =>
    exact ⟨fun p => s_k _, (fun p c X es o h => Bool.noConfusion h), (fun p w c X es pos o h => Bool.noConfusion h), (fun p c X e o h => Bool.noConfusion h), (fun p c X es o h => Bool.noConfusion h), (fun p c X tg e o h => Bool.noConfusion h), (fun p c X e o h => Bool.noConfusion h), (fun p c X es o h => Bool.noConfusion h), (fun p c X ks keys vals pos o hk h => Bool.noConfusion h)⟩
  | g x c =>
    exact ⟨fun p => s_g _ _, (fun p c X es o h => Bool.noConfusion h), (fun p w c X es pos o h => Bool.noConfusion h), (fun p c X e o h => Bool.noConfusion h), (fun p c X es o h => Bool.noConfusion h), (fun p c X tg e o h => Bool.noConfusion h), (fun p c X e o h => Bool.noConfusion h), (fun p c X es o h => Bool.noConfusion h), (fun p c X ks keys vals pos o hk h => Bool.noConfusion h)⟩
  | tp a Ra =>
    exact ⟨fun p => s_tp (Ra.a p), (fun p c X es o h => Bool.noConfusion h), (fun p w c X es pos o h => Bool.noConfusion h), (fun p c X e o h => Bool.noConfusion h), (fun p c X es o h => Bool.noConfusion h), (fun p c X tg e o h => Bool.noConfusion h), (fun p c X e o h => Bool.noConfusion h), (fun p c X es o h => Bool.noConfusion h), (fun p c X ks keys vals pos o hk h => Bool.noConfusion h)⟩
  | ls a Ra =>
    exact ⟨fun p => s_ls (Ra.a p), (fun p c X es o h => Bool.noConfusion h), (fun p w c X es pos o h => Bool.noConfusion h), (fun p c X e o h => Bool.noConfusion h), (fun p c X es o h => Bool.noConfusion h), (fun p c X tg e o h => Bool.noConfusion h), (fun p c X e o h => Bool.noConfusion h), (fun p c X es o h => Bool.noConfusion h), (fun p c X ks keys vals pos o hk h => Bool.noConfusion h)⟩
  | d0 =>
    exact ⟨fun p => s_d0, (fun p c X es o h => Bool.noConfusion h), (fun p w c X es pos o h => Bool.noConfusion h), (fun p c X e o h => Bool.noConfusion h), (fun p c X es o h => Bool.noConfusion h), (fun p c X tg e o h => Bool.noConfusion h), (fun p c X e o h => Bool.noConfusion h), (fun p c X es o h => Bool.noConfusion h), (fun p c X ks keys vals pos o hk h => Bool.noConfusion h)⟩
  | dk ks a Ra =>
    exact ⟨fun p => s_dk (Ra.p p), (fun p c X es o h => Bool.noConfusion h), (fun p w c X es pos o h => Bool.noConfusion h), (fun p c X e o h => Bool.noConfusion h), (fun p c X es o h => Bool.noConfusion h), (fun p c X tg e o h => Bool.noConfusion h), (fun p c X e o h => Bool.noConfusion h), (fun p c X es o h => Bool.noConfusion h), (fun p c X ks keys vals pos o hk h => Bool.noConfusion h)⟩
  | bo op a b Ra Rb =>
    exact ⟨fun p => s_bo (Ra.e p) (Rb.e p), (fun p c X es o h => Bool.noConfusion h), (fun p w c X es pos o h => Bool.noConfusion h), (fun p c X e o h => Bool.noConfusion h), (fun p c X es o h => Bool.noConfusion h), (fun p c X tg e o h => Bool.noConfusion h), (fun p c X e o h => Bool.noConfusion h), (fun p c X es o h => Bool.noConfusion h), (fun p c X ks keys vals pos o hk h => Bool.noConfusion h)⟩
  | cm op a b Ra Rb =>
    exact ⟨fun p => s_cm (Ra.e p) (Rb.e p), (fun p c X es o h => Bool.noConfusion h), (fun p w c X es pos o h => Bool.noConfusion h), (fun p c X e o h => Bool.noConfusion h), (fun p c X es o h => Bool.noConfusion h), (fun p c X tg e o h => Bool.noConfusion h), (fun p c X e o h => Bool.noConfusion h), (fun p c X es o h => Bool.noConfusion h), (fun p c X ks keys vals pos o hk h => Bool.noConfusion h)⟩
  | ch o1 o2 a b d Ra Rb Rd =>
    exact ⟨fun p => s_ch (Ra.e p) (Rb.e p) (Rd.e p), (fun p c X es o h => Bool.noConfusion h), (fun p w c X es pos o h => Bool.noConfusion h), (fun p c X e o h => Bool.noConfusion h), (fun p c X es o h => Bool.noConfusion h), (fun p c X tg e o h => Bool.noConfusion h), (fun p c X e o h => Bool.noConfusion h), (fun p c X es o h => Bool.noConfusion h), (fun p c X ks keys vals pos o hk h => Bool.noConfusion h)⟩
  | bl w a Ra =>
    exact ⟨fun p => s_bl (Ra.b p), (fun p c X es o h => Bool.noConfusion h), (fun p w c X es pos o h => Bool.noConfusion h), (fun p c X e o h => Bool.noConfusion h), (fun p c X es o h => Bool.noConfusion h), (fun p c X tg e o h => Bool.noConfusion h), (fun p c X e o h => Bool.noConfusion h), (fun p c X es o h => Bool.noConfusion h), (fun p c X ks keys vals pos o hk h => Bool.noConfusion h)⟩
  | nt a Ra =>
    exact ⟨fun p => s_nt (Ra.e p), (fun p c X es o h => Bool.noConfusion h), (fun p w c X es pos o h => Bool.noConfusion h), (fun p c X e o h => Bool.noConfusion h), (fun p c X es o h => Bool.noConfusion h), (fun p c X tg e o h => Bool.noConfusion h), (fun p c X e o h => Bool.noConfusion h), (fun p c X es o h => Bool.noConfusion h), (fun p c X ks keys vals pos o hk h => Bool.noConfusion h)⟩
  | ie t a b Rt Ra Rb =>
    exact ⟨fun p => s_ie (Rt.e p) (Ra.e p) (Rb.e p), (fun p c X es o h => Bool.noConfusion h), (fun p w c X es pos o h => Bool.noConfusion h), (fun p c X e o h => Bool.noConfusion h), (fun p c X es o h => Bool.noConfusion h), (fun p c X tg e o h => Bool.noConfusion h), (fun p c X e o h => Bool.noConfusion h), (fun p c X es o h => Bool.noConfusion h), (fun p c X ks keys vals pos o hk h => Bool.noConfusion h)⟩
  | ix a b Ra Rb =>
    exact ⟨fun p => s_ix (Ra.e p) (Rb.e p), (fun p c X es o h => Bool.noConfusion h), (fun p w c X es pos o h => Bool.noConfusion h), (fun p c X e o h => Bool.noConfusion h), (fun p c X es o h => Bool.noConfusion h), (fun p c X tg e o h => Bool.noConfusion h), (fun p c X e o h => Bool.noConfusion h), (fun p c X es o h => Bool.noConfusion h), (fun p c X ks keys vals pos o hk h => Bool.noConfusion h)⟩
  | sl a lo hi Ra Rlo Rhi =>
    exact ⟨fun p => s_sl (Ra.e p) (Rlo.o p) (Rhi.o p), (fun p c X es o h => Bool.noConfusion h), (fun p w c X es pos o h => Bool.noConfusion h), (fun p c X e o h => Bool.noConfusion h), (fun p c X es o h => Bool.noConfusion h), (fun p c X tg e o h => Bool.noConfusion h), (fun p c X e o h => Bool.noConfusion h), (fun p c X es o h => Bool.noConfusion h), (fun p c X ks keys vals pos o hk h => Bool.noConfusion h)⟩
  | ca f a Ra =>
    exact ⟨fun p => s_ca (Ra.a p), (fun p c X es o h => Bool.noConfusion h), (fun p w c X es pos o h => Bool.noConfusion h), (fun p c X e o h => Bool.noConfusion h), (fun p c X es o h => Bool.noConfusion h), (fun p c X tg e o h => Bool.noConfusion h), (fun p c X e o h => Bool.noConfusion h), (fun p c X es o h => Bool.noConfusion h), (fun p c X ks keys vals pos o hk h => Bool.noConfusion h)⟩
  | bi f a Ra =>
    exact ⟨fun p => s_bi (Ra.a p), (fun p c X es o h => Bool.noConfusion h), (fun p w c X es pos o h => Bool.noConfusion h), (fun p c X e o h => Bool.noConfusion h), (fun p c X es o h => Bool.noConfusion h), (fun p c X tg e o h => Bool.noConfusion h), (fun p c X e o h => Bool.noConfusion h), (fun p c X es o h => Bool.noConfusion h), (fun p c X ks keys vals pos o hk h => Bool.noConfusion h)⟩
  | nb f a Ra =>
    exact ⟨fun p => s_nb (Ra.e p), (fun p c X es o h => Bool.noConfusion h), (fun p w c X es pos o h => Bool.noConfusion h), (fun p c X e o h => Bool.noConfusion h), (fun p c X es o h => Bool.noConfusion h), (fun p c X tg e o h => Bool.noConfusion h), (fun p c X e o h => Bool.noConfusion h), (fun p c X es o h => Bool.noConfusion h), (fun p c X ks keys vals pos o hk h => Bool.noConfusion h)⟩
  | isi a many ts Ra =>
    exact ⟨fun p => s_isi (Ra.e p), (fun p c X es o h => Bool.noConfusion h), (fun p w c X es pos o h => Bool.noConfusion h), (fun p c X e o h => Bool.noConfusion h), (fun p c X es o h => Bool.noConfusion h), (fun p c X tg e o h => Bool.noConfusion h), (fun p c X e o h => Bool.noConfusion h), (fun p c X es o h => Bool.noConfusion h), (fun p c X ks keys vals pos o hk h => Bool.noConfusion h)⟩
  | mth m o a Ro Ra =>
    exact ⟨fun p => s_mth (Ro.e p) (Ra.a p), (fun p c X es o h => Bool.noConfusion h), (fun p w c X es pos o h => Bool.noConfusion h), (fun p c X e o h => Bool.noConfusion h), (fun p c X es o h => Bool.noConfusion h), (fun p c X tg e o h => Bool.noConfusion h), (fun p c X e o h => Bool.noConfusion h), (fun p c X es o h => Bool.noConfusion h), (fun p c X ks keys vals pos o hk h => Bool.noConfusion h)⟩
  | lc e t i f own Re Rt Ri Rf =>
    exact ⟨fun p => s_lc (Re.e p) (Rt.g p) (Ri.i p) (Rf.t p), (fun p c X es o h => Bool.noConfusion h), (fun p w c X es pos o h => Bool.noConfusion h), (fun p c X e o h => Bool.noConfusion h), (fun p c X es o h => Bool.noConfusion h), (fun p c X tg e o h => Bool.noConfusion h), (fun p c X e o h => Bool.noConfusion h), (fun p c X es o h => Bool.noConfusion h), (fun p c X ks keys vals pos o hk h => Bool.noConfusion h)⟩
  | gx w e t i f own Re Rt Ri Rf =>
    exact ⟨fun p => s_gx Re.e Rt.g Ri.i Rf.t p, (fun p c X es o h => Bool.noConfusion h), (fun p w c X es pos o h => Bool.noConfusion h), (fun p c X e o h => Bool.noConfusion h), (fun p c X es o h => Bool.noConfusion h), (fun p c X tg e o h => Bool.noConfusion h), (fun p c X e o h => Bool.noConfusion h), (fun p c X es o h => Bool.noConfusion h), (fun p c X ks keys vals pos o hk h => Bool.noConfusion h)⟩
  | sc2 e t1 i1 f1 t2 i2 f2 own own2 Re Rt1 Ri1 Rf1 Rt2 Ri2 Rf2 =>
    exact ⟨fun p => s_sc2 (Re.e p) (Rt1.g p) (Ri1.i p) (Rf1.t p) (Rt2.g p) (Ri2.i p) (Rf2.t p), (fun p c X es o h => Bool.noConfusion h), (fun p w c X es pos o h => Bool.noConfusion h), (fun p c X e o h => Bool.noConfusion h), (fun p c X es o h => Bool.noConfusion h), (fun p c X tg e o h => Bool.noConfusion h), (fun p c X e o h => Bool.noConfusion h), (fun p c X es o h => Bool.noConfusion h), (fun p c X ks keys vals pos o hk h => Bool.noConfusion h)⟩
  | no =>
    exact ⟨(fun p c X e o h => Bool.noConfusion h), (fun p c X es o h => Bool.noConfusion h), (fun p w c X es pos o h => Bool.noConfusion h), fun p => s_no, (fun p c X es o h => Bool.noConfusion h), (fun p c X tg e o h => Bool.noConfusion h), (fun p c X e o h => Bool.noConfusion h), (fun p c X es o h => Bool.noConfusion h), (fun p c X ks keys vals pos o hk h => Bool.noConfusion h)⟩
  | an =>
    exact ⟨(fun p c X e o h => Bool.noConfusion h), fun p => s_an, (fun p w c X es pos o h => Bool.noConfusion h), (fun p c X e o h => Bool.noConfusion h), fun p => s_tan, (fun p c X tg e o h => Bool.noConfusion h), (fun p c X e o h => Bool.noConfusion h), fun p => s_gan, fun p => s_pan⟩
  | ac a r Ra Rr =>
    exact ⟨(fun p c X e o h => Bool.noConfusion h), fun p => s_ac (Ra.e p) (Rr.a p), fun p => s_bac (Ra.e p) (Rr.b p), (fun p c X e o h => Bool.noConfusion h), fun p => s_tac (Ra.e p), (fun p c X tg e o h => Bool.noConfusion h), (fun p c X e o h => Bool.noConfusion h), fun p => s_gac (Ra.g p) (Rr.gs p), fun p => s_pac (Ra.e p) (Rr.p p)⟩
  | rg1 a Ra =>
    exact ⟨(fun p c X e o h => Bool.noConfusion h), (fun p c X es o h => Bool.noConfusion h), (fun p w c X es pos o h => Bool.noConfusion h), (fun p c X e o h => Bool.noConfusion h), (fun p c X es o h => Bool.noConfusion h), fun p => s_rg1 (Ra.e p), (fun p c X e o h => Bool.noConfusion h), (fun p c X es o h => Bool.noConfusion h), (fun p c X ks keys vals pos o hk h => Bool.noConfusion h)⟩
  | rg2 a b Ra Rb =>
    exact ⟨(fun p c X e o h => Bool.noConfusion h), (fun p c X es o h => Bool.noConfusion h), (fun p w c X es pos o h => Bool.noConfusion h), (fun p c X e o h => Bool.noConfusion h), (fun p c X es o h => Bool.noConfusion h), fun p => s_rg2 (Ra.e p) (Rb.e p), (fun p c X e o h => Bool.noConfusion h), (fun p c X es o h => Bool.noConfusion h), (fun p c X ks keys vals pos o hk h => Bool.noConfusion h)⟩
  | en a Ra =>
    exact ⟨(fun p c X e o h => Bool.noConfusion h), (fun p c X es o h => Bool.noConfusion h), (fun p w c X es pos o h => Bool.noConfusion h), (fun p c X e o h => Bool.noConfusion h), (fun p c X es o h => Bool.noConfusion h), fun p => s_en (Ra.e p), (fun p c X e o h => Bool.noConfusion h), (fun p c X es o h => Bool.noConfusion h), (fun p c X ks keys vals pos o hk h => Bool.noConfusion h)⟩
  | zp a b Ra Rb =>
    exact ⟨(fun p c X e o h => Bool.noConfusion h), (fun p c X es o h => Bool.noConfusion h), (fun p w c X es pos o h => Bool.noConfusion h), (fun p c X e o h => Bool.noConfusion h), (fun p c X es o h => Bool.noConfusion h), fun p => s_zp (Ra.e p) (Rb.e p), (fun p c X e o h => Bool.noConfusion h), (fun p c X es o h => Bool.noConfusion h), (fun p c X ks keys vals pos o hk h => Bool.noConfusion h)⟩
  | it a Ra =>
    exact ⟨(fun p c X e o h => Bool.noConfusion h), (fun p c X es o h => Bool.noConfusion h), (fun p w c X es pos o h => Bool.noConfusion h), fun p => s_oit (Ra.e p), (fun p c X es o h => Bool.noConfusion h), fun p => s_it (Ra.e p), (fun p c X e o h => Bool.noConfusion h), (fun p c X es o h => Bool.noConfusion h), (fun p c X ks keys vals pos o hk h => Bool.noConfusion h)⟩
  | tn i =>
    exact ⟨(fun p c X e o h => Bool.noConfusion h), (fun p c X es o h => Bool.noConfusion h), (fun p w c X es pos o h => Bool.noConfusion h), (fun p c X e o h => Bool.noConfusion h), (fun p c X es o h => Bool.noConfusion h), (fun p c X tg e o h => Bool.noConfusion h), fun p => s_tn _, (fun p c X es o h => Bool.noConfusion h), (fun p c X ks keys vals pos o hk h => Bool.noConfusion h)⟩
  | tt a Ra =>
    exact ⟨(fun p c X e o h => Bool.noConfusion h), (fun p c X es o h => Bool.noConfusion h), (fun p w c X es pos o h => Bool.noConfusion h), (fun p c X e o h => Bool.noConfusion h), (fun p c X es o h => Bool.noConfusion h), (fun p c X tg e o h => Bool.noConfusion h), fun p => s_tt (Ra.gs p), (fun p c X es o h => Bool.noConfusion h), (fun p c X ks keys vals pos o hk h => Bool.noConfusion h)⟩
  | ts o i Ro Ri =>
    exact ⟨(fun p c X e o h => Bool.noConfusion h), (fun p c X es o h => Bool.noConfusion h), (fun p w c X es pos o h => Bool.noConfusion h), (fun p c X e o h => Bool.noConfusion h), (fun p c X es o h => Bool.noConfusion h), (fun p c X tg e o h => Bool.noConfusion h), fun p => s_ts (Ro.e p) (Ri.e p), (fun p c X es o h => Bool.noConfusion h), (fun p c X ks keys vals pos o hk h => Bool.noConfusion h)⟩
  | sn =>
    exact ⟨(fun p c X e o h => Bool.noConfusion h), (fun p c X es o h => Bool.noConfusion h), (fun p w c X es pos o h => Bool.noConfusion h), (fun p c X e o h => Bool.noConfusion h), (fun p c X es o h => Bool.noConfusion h), (fun p c X tg e o h => Bool.noConfusion h), (fun p c X e o h => Bool.noConfusion h), (fun p c X es o h => Bool.noConfusion h), (fun p c X ks keys vals pos o hk h => Bool.noConfusion h)⟩
  | sq s r Rs Rr =>
    exact ⟨(fun p c X e o h => Bool.noConfusion h), (fun p c X es o h => Bool.noConfusion h), (fun p w c X es pos o h => Bool.noConfusion h), (fun p c X e o h => Bool.noConfusion h), (fun p c X es o h => Bool.noConfusion h), (fun p c X tg e o h => Bool.noConfusion h), (fun p c X e o h => Bool.noConfusion h), (fun p c X es o h => Bool.noConfusion h), (fun p c X ks keys vals pos o hk h => Bool.noConfusion h)⟩
  | pr2 i j a b Ra Rb =>
    exact ⟨(fun p c X e o h => Bool.noConfusion h), (fun p c X es o h => Bool.noConfusion h), (fun p w c X es pos o h => Bool.noConfusion h), (fun p c X e o h => Bool.noConfusion h), (fun p c X es o h => Bool.noConfusion h), (fun p c X tg e o h => Bool.noConfusion h), (fun p c X e o h => Bool.noConfusion h), (fun p c X es o h => Bool.noConfusion h), (fun p c X ks keys vals pos o hk h => Bool.noConfusion h)⟩
  | pr3 i j l a b c Ra Rb Rc =>
    exact ⟨(fun p c X e o h => Bool.noConfusion h), (fun p c X es o h => Bool.noConfusion h), (fun p w c X es pos o h => Bool.noConfusion h), (fun p c X e o h => Bool.noConfusion h), (fun p c X es o h => Bool.noConfusion h), (fun p c X tg e o h => Bool.noConfusion h), (fun p c X e o h => Bool.noConfusion h), (fun p c X es o h => Bool.noConfusion h), (fun p c X ks keys vals pos o hk h => Bool.noConfusion h)⟩
  | au i op e Re =>
    exact ⟨(fun p c X e o h => Bool.noConfusion h), (fun p c X es o h => Bool.noConfusion h), (fun p w c X es pos o h => Bool.noConfusion h), (fun p c X e o h => Bool.noConfusion h), (fun p c X es o h => Bool.noConfusion h), (fun p c X tg e o h => Bool.noConfusion h), (fun p c X e o h => Bool.noConfusion h), (fun p c X es o h => Bool.noConfusion h), (fun p c X ks keys vals pos o hk h => Bool.noConfusion h)⟩
  | ex e Re =>
    exact ⟨(fun p c X e o h => Bool.noConfusion h), (fun p c X es o h => Bool.noConfusion h), (fun p w c X es pos o h => Bool.noConfusion h), (fun p c X e o h => Bool.noConfusion h), (fun p c X es o h => Bool.noConfusion h), (fun p c X tg e o h => Bool.noConfusion h), (fun p c X e o h => Bool.noConfusion h), (fun p c X es o h => Bool.noConfusion h), (fun p c X ks keys vals pos o hk h => Bool.noConfusion h)⟩
  | cnd c a b Rc Ra Rb =>
    exact ⟨(fun p c X e o h => Bool.noConfusion h), (fun p c X es o h => Bool.noConfusion h), (fun p w c X es pos o h => Bool.noConfusion h), (fun p c X e o h => Bool.noConfusion h), (fun p c X es o h => Bool.noConfusion h), (fun p c X tg e o h => Bool.noConfusion h), (fun p c X e o h => Bool.noConfusion h), (fun p c X es o h => Bool.noConfusion h), (fun p c X ks keys vals pos o hk h => Bool.noConfusion h)⟩
  | fo t i b Rt Ri Rb =>
    exact ⟨(fun p c X e o h => Bool.noConfusion h), (fun p c X es o h => Bool.noConfusion h), (fun p w c X es pos o h => Bool.noConfusion h), (fun p c X e o h => Bool.noConfusion h), (fun p c X es o h => Bool.noConfusion h), (fun p c X tg e o h => Bool.noConfusion h), (fun p c X e o h => Bool.noConfusion h), (fun p c X es o h => Bool.noConfusion h), (fun p c X ks keys vals pos o hk h => Bool.noConfusion h)⟩
  | wh c b Rc Rb =>
    exact ⟨(fun p c X e o h => Bool.noConfusion h), (fun p c X es o h => Bool.noConfusion h), (fun p w c X es pos o h => Bool.noConfusion h), (fun p c X e o h => Bool.noConfusion h), (fun p c X es o h => Bool.noConfusion h), (fun p c X tg e o h => Bool.noConfusion h), (fun p c X e o h => Bool.noConfusion h), (fun p c X es o h => Bool.noConfusion h), (fun p c X ks keys vals pos o hk h => Bool.noConfusion h)⟩
  | re e Re =>
    exact ⟨(fun p c X e o h => Bool.noConfusion h), (fun p c X es o h => Bool.noConfusion h), (fun p w c X es pos o h => Bool.noConfusion h), (fun p c X e o h => Bool.noConfusion h), (fun p c X es o h => Bool.noConfusion h), (fun p c X tg e o h => Bool.noConfusion h), (fun p c X e o h => Bool.noConfusion h), (fun p c X es o h => Bool.noConfusion h), (fun p c X ks keys vals pos o hk h => Bool.noConfusion h)⟩
  | rn =>
    exact ⟨(fun p c X e o h => Bool.noConfusion h), (fun p c X es o h => Bool.noConfusion h), (fun p w c X es pos o h => Bool.noConfusion h), (fun p c X e o h => Bool.noConfusion h), (fun p c X es o h => Bool.noConfusion h), (fun p c X tg e o h => Bool.noConfusion h), (fun p c X e o h => Bool.noConfusion h), (fun p c X es o h => Bool.noConfusion h), (fun p c X ks keys vals pos o hk h => Bool.noConfusion h)⟩
  | br =>
    exact ⟨(fun p c X e o h => Bool.noConfusion h), (fun p c X es o h => Bool.noConfusion h), (fun p w c X es pos o h => Bool.noConfusion h), (fun p c X e o h => Bool.noConfusion h), (fun p c X es o h => Bool.noConfusion h), (fun p c X tg e o h => Bool.noConfusion h), (fun p c X e o h => Bool.noConfusion h), (fun p c X es o h => Bool.noConfusion h), (fun p c X ks keys vals pos o hk h => Bool.noConfusion h)⟩
  | ct =>
    exact ⟨(fun p c X e o h => Bool.noConfusion h), (fun p c X es o h => Bool.noConfusion h), (fun p w c X es pos o h => Bool.noConfusion h), (fun p c X e o h => Bool.noConfusion h), (fun p c X es o h => Bool.noConfusion h), (fun p c X tg e o h => Bool.noConfusion h), (fun p c X e o h => Bool.noConfusion h), (fun p c X es o h => Bool.noConfusion h), (fun p c X ks keys vals pos o hk h => Bool.noConfusion h)⟩
  | ne =>
    exact ⟨(fun p c X e o h => Bool.noConfusion h), (fun p c X es o h => Bool.noConfusion h), (fun p w c X es pos o h => Bool.noConfusion h), (fun p c X e o h => Bool.noConfusion h), (fun p c X es o h => Bool.noConfusion h), (fun p c X tg e o h => Bool.noConfusion h), (fun p c X e o h => Bool.noConfusion h), (fun p c X es o h => Bool.noConfusion h), (fun p c X ks keys vals pos o hk h => Bool.noConfusion h)⟩
  | pa =>
    exact ⟨(fun p c X e o h => Bool.noConfusion h), (fun p c X es o h => Bool.noConfusion h), (fun p w c X es pos o h => Bool.noConfusion h), (fun p c X e o h => Bool.noConfusion h), (fun p c X es o h => Bool.noConfusion h), (fun p c X tg e o h => Bool.noConfusion h), (fun p c X e o h => Bool.noConfusion h), (fun p c X es o h => Bool.noConfusion h), (fun p c X ks keys vals pos o hk h => Bool.noConfusion h)⟩
  | «as» t e Rt Re =>
    exact ⟨(fun p c X e o h => Bool.noConfusion h), (fun p c X es o h => Bool.noConfusion h), (fun p w c X es pos o h => Bool.noConfusion h), (fun p c X e o h => Bool.noConfusion h), (fun p c X es o h => Bool.noConfusion h), (fun p c X tg e o h => Bool.noConfusion h), (fun p c X e o h => Bool.noConfusion h), (fun p c X es o h => Bool.noConfusion h), (fun p c X ks keys vals pos o hk h => Bool.noConfusion h)⟩
  | asl i e t f it own Re Rt Rf Rit =>
    exact ⟨(fun p c X e o h => Bool.noConfusion h), (fun p c X es o h => Bool.noConfusion h), (fun p w c X es pos o h => Bool.noConfusion h), (fun p c X e o h => Bool.noConfusion h), (fun p c X es o h => Bool.noConfusion h), (fun p c X tg e o h => Bool.noConfusion h), (fun p c X e o h => Bool.noConfusion h), (fun p c X es o h => Bool.noConfusion h), (fun p c X ks keys vals pos o hk h => Bool.noConfusion h)⟩
  | lsc e t i f own Re Rt Ri Rf =>
    exact ⟨fun p => s_lsc (Re.e p) (Rt.g p) (Ri.i p) (Rf.t p), (fun p c X es o h => Bool.noConfusion h), (fun p w c X es pos o h => Bool.noConfusion h), (fun p c X e o h => Bool.noConfusion h), (fun p c X es o h => Bool.noConfusion h), (fun p c X tg e o h => Bool.noConfusion h), (fun p c X e o h => Bool.noConfusion h), (fun p c X es o h => Bool.noConfusion h), (fun p c X ks keys vals pos o hk h => Bool.noConfusion h)⟩
end Mi

namespace Mi
open PySem PySem.Spec PyProof.Rows L2
/-! ### statements: the look -/
def isLoc (sc : Scope) (x : Str) : Bool := decide (sc.names.lookup x = some .local)
def noComp : Expr → Bool
  | .ListComp .. => false
  | .SetComp .. => false
  | .DictComp .. => false
  | _ => true
/-- a list comprehension that is not stored at once -/
def noSwE (sc : Scope) (tg e : Expr) : Bool := match e with
  | .ListComp .. => (match tg with
    | .Name y _ => !isLoc sc y
    | _ => true)
  | .SetComp .. => false
  | .DictComp .. => false
  | _ => true
/-- not stored in another sequence -/
def noSwap (sc : Scope) (tg e : Expr) : Bool := match tg, e with
  | .Tuple ts _ _, .Tuple vs _ _ => !(ts.all fun t => match t with | .Name x _ => isLoc sc x | _ => false)
  | .List .. , _ => false
  | _, _ => true
mutual
def chkS (c : Ck) : IR → Stmt → Bool
  | .as t e => fun s => match s with
    | .Assign [tg] ex _ => nst tg && chkG c t tg && chkE c e ex && noSwE c.sc tg ex && noSwap c.sc tg ex
    | _ => false
  | .asl i e t f it own => fun s => match s with
    | .Assign [.Name y py] (.ListComp elt [⟨tg, iter, ifs, 0⟩] scope pos) _ => decide (c.N[i]? = some y) && isLoc c.sc y && (py.line == pos.line) && !(scope.names.any fun (n, k) => n == y && (k == .local || k == .cell)) &&
        chkI c it tg iter && noSet iter && blkC c.N c.sc scope own && (slG t).all (fun i => decide (i ∈ own.map (·.2))) && chkG (c.blk scope) t tg && chkT (c.blk scope) f ifs && chkE (c.blk scope) e elt && decide (c.sc.kind = .function)
    | _ => false
  | .pr2 i j a b => fun s => match s with
    | .Assign [.Tuple [.Name x px, .Name y py] _ _] (.Tuple [ea, eb] _ _) _ => decide (c.N[i]? = some x) && decide (c.N[j]? = some y) && decide (i ≠ j) && isLoc c.sc x && isLoc c.sc y && (py.line == px.line) && nst ea && nst eb && !(foldedForSure 8 ea && foldedForSure 8 eb) && !(constantsAlone 8 ea && constantsAlone 8 eb) &&
        chkE c a ea && chkE c b eb && decide (c.sc.kind = .function)
    | _ => false
  | .pr3 i j l a b d => fun s => match s with
    | .Assign [.Tuple [.Name x px, .Name y py, .Name z pz] _ _] (.Tuple [ea, eb, ed] _ _) _ => decide (c.N[i]? = some x) && decide (c.N[j]? = some y) && decide (c.N[l]? = some z) && decide (i ≠ j) && decide (i ≠ l) && decide (j ≠ l) && isLoc c.sc x && isLoc c.sc y && isLoc c.sc z && (py.line == px.line) && (pz.line == px.line) && nst ea && nst eb && nst ed &&
        !(foldedForSure 8 ea && (foldedForSure 8 eb && foldedForSure 8 ed)) && !(constantsAlone 8 ea && (constantsAlone 8 eb && constantsAlone 8 ed)) && chkE c a ea && chkE c b eb && chkE c d ed && decide (c.sc.kind = .function)
    | _ => false
  | .au i op e => fun s => match s with
    | .AugAssign (.Name x _) op' ex _ => decide (op = op') && decide (c.N[i]? = some x) && locC c x && chkE c e ex
    | _ => false
  | .ex e => fun s => match s with
    | .Expr ex _ => chkE c e ex && noComp ex
    | _ => false
  | .cnd t a b => fun s => match s with
    | .If test x y _ => chkE c t test && chkSs c a x && chkSs c b y
    | _ => false
  | .fo t i b => fun s => match s with
    | .For tg iter body [] _ => chkI c i tg iter && noSet iter && chkG c t tg && chkSs c b body
    | _ => false
  | .wh t b => fun s => match s with
    | .While test body [] _ => chkE c t test && chkSs c b body
    | _ => false
  | .re e => fun s => match s with
    | .Return (some ex) _ => chkE c e ex
    | _ => false
  | .rn => fun s => match s with
    | .Return none _ => true
    | _ => false
  | .br => fun s => match s with
    | .Break _ => true
    | _ => false
  | .ct => fun s => match s with
    | .Continue _ => true
    | _ => false
  | .pa => fun s => match s with
    | .Pass _ => true
    | .Expr (.Constant (.str _) _ _) _ => true
    | _ => false
  | .ne => fun _ => true
  | _ => fun _ => false
def chkSs (c : Ck) : IR → List Stmt → Bool
  | .sn => fun ss => match ss with
    | [] => true
    | _ => false
  | .sq s r => fun ss => match ss with
    | st :: rest => chkS c s st && chkSs c r rest
    | _ => false
  | _ => fun _ => false
end

/-! ### statements: meanings -/
/-- what is wanted of an end -/
def Rw (X : Cx) (p : Pr) (m : List Addr) (H : Hp) (D : Ends) : Res → Prop
  | .nx ρ st => ∀ σ' m' H', HX X.K m H m' H' → SR X p ρ m' σ' H' st → D.nx σ' H'
  | .bk ρ st => ∀ σ' m' H', HX X.K m H m' H' → SR X p ρ m' σ' H' st → D.bk σ' H'
  | .cn ρ st => ∀ σ' m' H', HX X.K m H m' H' → SR X p ρ m' σ' H' st → D.ct σ' H'
  | .rt x st => Nx (wo X p.tb p.D) m H st x D.rt
theorem Rw.more {X : Cx} {p : Pr} {m m1 : List Addr} {H H1 : Hp} {D : Ends} {r : Res} (h : Rw X p m H D r) (x : HX X.K m H m1 H1) : Rw X p m1 H1 D r := by
  cases r with
  | nx ρ st => exact fun σ' m' H' hx sr => h σ' m' H' (x.trans hx) sr
  | bk ρ st => exact fun σ' m' H' hx sr => h σ' m' H' (x.trans hx) sr
  | cn ρ st => exact fun σ' m' H' hx sr => h σ' m' H' (x.trans hx) sr
  | rt v st => exact Nx.more h x
def tS (X : Cx) (p : Pr) (N : Nat) (ir : IR) : TS := fun D σ H => ∃ ρ m st r, SR X p ρ m σ H st ∧ evS p.C N ir ρ st = some r ∧ Rw X p m H D r
def SS (p : Pr) (k N : Nat) (ir : IR) : Prop := ∀ c X st, Okx p k c X → X.xe = (fun _ _ => False) → chkS c ir st = true → PS X st (tS X p N ir)
def SSs (p : Pr) (k N : Nat) (ir : IR) : Prop := ∀ c X st, Okx p k c X → X.xe = (fun _ _ => False) → chkSs c ir st = true → PSs X st (tS X p N ir)
theorem PS_imp {X : Cx} {st : Stmt} {t t' : TS} (h : PS X st t) (i : ∀ D σ H, t' D σ H → t D σ H) : PS X st t' := ⟨fun pins s σ H D I q => h.run pins s σ H D I (i _ _ _ q)⟩
theorem PSs_imp {X : Cx} {st : List Stmt} {t t' : TS} (h : PSs X st t) (i : ∀ D σ H, t' D σ H → t D σ H) : PSs X st t' := ⟨fun pins s σ H D I q => h.run pins s σ H D I (i _ _ _ q)⟩
variable {p : Pr} {k N : Nat}
theorem st_sn : SSs p k N .sn := by
  intro c X st o hxe h
  unfold chkSs at h
  split at h
  · refine PSs_imp pss_nil fun D σ H ⟨ρ, m, st, r, sr, ev, w⟩ => ?_
    simp only [evS] at ev
    cases ev
    exact w σ m H HX.refl sr
  · cases h
theorem st_sq {a r : IR} (ha : SS p k N a) (hr : SSs p k N r) : SSs p k N (.sq a r) := by
  intro c X st o hxe h
  unfold chkSs at h
  split at h
  · rw [Bool.and_eq_true] at h
    refine PSs_imp (pss_cons (ha c X _ o hxe h.1) (hr c X _ o hxe h.2)) fun D σ H ⟨ρ, m, st, r', sr, ev, w⟩ => ?_
    simp only [evS] at ev
    cases e1 : evS p.C N a ρ st with
    | none => rw [e1] at ev; cases ev
    | some q =>
      rw [e1] at ev
      refine ⟨ρ, m, st, q, sr, e1, ?_⟩
      cases q with
      | nx ρ1 st1 => exact fun σ' m' H' hx sr' => ⟨ρ1, m', st1, r', sr', ev, w.more hx⟩
      | rt x st1 => cases ev; exact w
      | bk ρ1 st1 => cases ev; exact w
      | cn ρ1 st1 => cases ev; exact w
  · cases h
theorem swaps_no {env : PySem.Env} {sc : Scope} {tg e : Expr} {line : Nat} (hs : env.scope = sc) (h : noSwE sc tg e = true) : swapsWithSole [tg] e line env = pure false := by
  cases e with
  | ListComp elt gs scope pos =>
    cases tg with
    | Name y py =>
      have h : (!isLoc sc y) = true := h
      unfold isLoc at h
      rw [Bool.not_eq_true', decide_eq_false_iff_not] at h
      unfold swapsWithSole swapsWith
      have e2 : (env.kindOf y == some NameKind.local) = false := by
        rw [beq_eq_false_iff_ne]
        show env.scope.names.lookup y ≠ _
        rw [hs]
        exact h
      simp only [e2, Bool.and_false, Bool.false_and]
    | _ => rfl
  | SetComp _ _ _ _ => cases h
  | DictComp _ _ _ _ _ => cases h
  | _ => first | rfl | (cases tg <;> rfl)
theorem stores_no {env : PySem.Env} {sc : Scope} {tg e : Expr} (hs : env.scope = sc) (h : noSwap sc tg e = true) : swappedStores [tg] e env = pure none := by
  cases tg with
  | Tuple ts kt pt =>
    cases e with
    | Tuple vs kv pv =>
      have h : (!(ts.all fun t => match t with | .Name x _ => isLoc sc x | _ => false)) = true := h
      rw [Bool.not_eq_true'] at h
      unfold swappedStores
      dsimp only
      split
      · rfl
      · split
        · rfl
        · have ne : ∀ line, (ts.filterMap fun t => match t with
              | .Name id pos => if (env.kindOf id == some NameKind.local && pos.line == line) = true then some id else none
              | _ => none).length ≠ ts.length := fun line z => by
            rw [List.filterMap_length_eq_length] at z
            have : (ts.all fun t => match t with | .Name x _ => isLoc sc x | _ => false) = true := by
              rw [List.all_eq_true]
              intro t ht
              have q := z t ht
              cases t with
              | Name x px =>
                simp only at q ⊢
                split at q
                · rename_i hh
                  rw [Bool.and_eq_true] at hh
                  unfold isLoc
                  rw [decide_eq_true_eq, ← hs]
                  exact eq_of_beq hh.1
                · cases q
              | _ => cases q
            rw [h] at this
            cases this
          rw [if_pos]
          rw [Bool.or_eq_true]
          exact .inl (bne_iff_ne.mpr (ne _))
    | _ => rfl
  | List ts pt => cases h
  | _ => cases e <;> rfl
theorem st_as {t e : IR} (ht : SG p k t) (he : SE p k e) : SS p k N (.as t e) := by
  intro c X st o hxe h
  unfold chkS at h
  split at h
  · simp only [Bool.and_eq_true] at h
    obtain ⟨⟨⟨⟨h1, h2⟩, h3⟩, h4⟩, h5⟩ := h
    refine PS_imp (ps_asg (he c X _ o h3).1 (ht c X _ o h2) (swaps_no o.sc h4) (stores_no o.sc h5) (by rw [asg_cons h1]; rfl)) fun D σ H ⟨ρ, m, st, r, sr, ev, w⟩ => ?_
    simp only [evS] at ev
    split at ev
    · rename_i x st1 e1
      split at ev
      · rename_i ρ1 st2 e2
        cases ev
        exact ⟨ρ, m, st, x, st1, sr, e1, fun v m1 H1 hx hr rv => ⟨ρ, m1, st1, x, ρ1, st2, sr.mono hx hr, rv, e2, fun σ' m' H' hx' sr' _ => w σ' m' H' (hx.trans hx') sr'⟩⟩
      · cases ev
    · cases ev
  · cases h
theorem isLoc_of {X : Cx} {c : Ck} (hs : X.env.scope = c.sc) {x : Str} (h : isLoc c.sc x = true) : X.env.scope.names.lookup x = some .local := by
  rw [hs]; exact of_decide_eq_true h
theorem st_asl {i : Nat} {e t f it : IR} {own : List (Str × Nat)} (he : SE p k e) (ht : SG p k t) (hi : SI p k it) (hf : STs p k f) : SS p k N (.asl i e t f it own) := by
  intro c X st o hxe h
  unfold chkS at h
  split at h
  · simp only [Bool.and_eq_true, decide_eq_true_eq] at h
    obtain ⟨⟨⟨⟨⟨⟨⟨⟨⟨⟨⟨a1, a2⟩, a3⟩, a4⟩, a5⟩, a6⟩, a7⟩, a8⟩, a9⟩, a10⟩, a11⟩, a12⟩ := h
    have hl := isLoc_of o.sc a2
    refine PS_imp (ps_setLc (te := tE X p e) (g := tG X p t) (tt := tTs X p f) o.calm (by rw [o.N]; exact o.nd) (by rw [o.N]; exact a1) hl (sw_true (by rw [o.sc]; exact a12) hl a3 (by simpa using a4)) (hi c X _ _ o a5) (blkOk_by (by rw [o.N, o.sc]; exact a7)) (fun s H C cl fp => ht _ _ _ (okx_blk o _ s H C cl fp) a9) (fun s H C cl fp => hf _ _ _ (okx_blk o _ s H C cl fp) a10)
      (fun s H C cl fp => (he _ _ _ (okx_blk o _ s H C cl fp) a11).1) (noSet_fold a6)) fun D σ H ⟨ρ, m, st, r, sr, ev, w⟩ => ?_
    simp only [evS] at ev
    split at ev
    · rename_i x st1 e1
      cases ev
      exact lc_core' (Q := fun x H1 => gName i x σ H1 D.nx) ⟨ρ, m, st, x, st1, sr, e1, fun v m' H' hx hr rv => w _ m' H' hx ((sr.mono hx hr).put i rv)⟩ a8
    · cases ev
  · cases h
theorem anyStar : ∀ {l : List Expr}, (∀ e ∈ l, nst e = true) → (l.any fun | .Starred .. => true | _ => false) = false
  | [], _ => rfl
  | e :: l, h => by
    have h1 := h e (List.mem_cons_self ..)
    have h2 := anyStar (l := l) fun x hx => h x (List.mem_cons_of_mem _ hx)
    rw [List.any_cons, h2, Bool.or_false]
    cases e <;> first | rfl | cases h1
theorem swap2 {env : PySem.Env} {x y : Str} {px py pt pt2 : Pos} {kt k2 : Nat} {a b : Expr} (hk : env.scope.kind = .function) (hx : env.scope.names.lookup x = some .local) (hy : env.scope.names.lookup y = some .local) (hl : (py.line == px.line) = true) (hxy : x ≠ y) (sa : nst a = true) (sb : nst b = true)
    (hf : (foldedForSure 8 a && foldedForSure 8 b) = false) (hc : (constantsAlone 8 a && constantsAlone 8 b) = false) : swappedStores [.Tuple [.Name x px, .Name y py] kt pt] (.Tuple [a, b] k2 pt2) env = pure (some [x, y]) := by
  have hb : env.blockKind = .function := by unfold Env.blockKind; rw [hk]; rfl
  have hx' : env.kindOf x = some .local := hx
  have hy' : env.kindOf y = some .local := hy
  have ns := anyStar (l := [a, b]) fun e he => by
    rcases List.mem_cons.mp he with rfl | he
    · exact sa
    · rw [List.mem_singleton.mp he]; exact sb
  have yx : (y == x) = false := beq_eq_false_iff_ne.mpr (Ne.symm hxy)
  have hf' : [a, b].all (foldedForSure 8) = false := by simpa using hf
  have hc' : [a, b].all (constantsAlone 8) = false := by simpa using hc
  unfold swappedStores
  dsimp only
  rw [if_neg (by simp [hb]), if_neg (by exact fun z => Bool.noConfusion (ns.symm.trans z))]
  simp only [Bool.false_eq_true, if_false, hf', hc']
  have hl' : py.line = px.line := eq_of_beq hl
  simp [hx', hy', Expr.pos, hl', List.filterMap_cons, List.eraseDups_cons, yx]
theorem swap3 {env : PySem.Env} {x y z : Str} {px py pz pt pt2 : Pos} {kt k2 : Nat} {a b d : Expr} (hk : env.scope.kind = .function) (hx : env.scope.names.lookup x = some .local) (hy : env.scope.names.lookup y = some .local) (hz : env.scope.names.lookup z = some .local) (hl : (py.line == px.line) = true) (hl2 : (pz.line == px.line) = true) (hxy : x ≠ y) (hxz : x ≠ z) (hyz : y ≠ z)
    (sa : nst a = true) (sb : nst b = true) (sd : nst d = true) (hf : (foldedForSure 8 a && (foldedForSure 8 b && foldedForSure 8 d)) = false) (hc : (constantsAlone 8 a && (constantsAlone 8 b && constantsAlone 8 d)) = false) :
    swappedStores [.Tuple [.Name x px, .Name y py, .Name z pz] kt pt] (.Tuple [a, b, d] k2 pt2) env = pure (some [x, y, z]) := by
  have hb : env.blockKind = .function := by unfold Env.blockKind; rw [hk]; rfl
  have hx' : env.kindOf x = some .local := hx
  have hy' : env.kindOf y = some .local := hy
  have hz' : env.kindOf z = some .local := hz
  have ns := anyStar (l := [a, b, d]) fun e he => by
    rcases List.mem_cons.mp he with rfl | he
    · exact sa
    · rcases List.mem_cons.mp he with rfl | he
      · exact sb
      · rw [List.mem_singleton.mp he]; exact sd
  have yx : (y == x) = false := beq_eq_false_iff_ne.mpr (Ne.symm hxy)
  have zx : (z == x) = false := beq_eq_false_iff_ne.mpr (Ne.symm hxz)
  have zy : (z == y) = false := beq_eq_false_iff_ne.mpr (Ne.symm hyz)
  have hf' : [a, b, d].all (foldedForSure 8) = false := by simpa using hf
  have hc' : [a, b, d].all (constantsAlone 8) = false := by simpa using hc
  unfold swappedStores
  dsimp only
  rw [if_neg (by simp [hb]), if_neg (by exact fun z => Bool.noConfusion (ns.symm.trans z))]
  simp only [Bool.false_eq_true, if_false, hf', hc']
  have hl' : py.line = px.line := eq_of_beq hl
  have hl2' : pz.line = px.line := eq_of_beq hl2
  simp [hx', hy', hz', Expr.pos, hl', hl2', List.filterMap_cons, List.eraseDups_cons, yx, zx, zy]
theorem ne_names {N : List Str} (nd : N.Nodup) {i j : Nat} {x y : Str} (hi : N[i]? = some x) (hj : N[j]? = some y) (h : i ≠ j) : x ≠ y := fun e => h (nodup_ix nd hi (by rw [e]; exact hj))
theorem st_pr2 {i j : Nat} {a b : IR} (ha : SE p k a) (hb : SE p k b) : SS p k N (.pr2 i j a b) := by
  intro c X st o hxe h
  unfold chkS at h
  split at h
  · simp only [Bool.and_eq_true, decide_eq_true_eq, Bool.not_eq_true'] at h
    obtain ⟨⟨⟨⟨⟨⟨⟨⟨⟨⟨⟨⟨a1, a2⟩, a3⟩, a4⟩, a5⟩, a6⟩, a7⟩, a8⟩, a9⟩, a10⟩, a11⟩, a12⟩, a13⟩ := h
    have hx := isLoc_of o.sc a4
    have hy := isLoc_of o.sc a5
    refine PS_imp (ps_par o.calm (by rw [o.N]; exact o.nd) (by rw [o.N]; exact a1) (by rw [o.N]; exact a2) a3 hx hy (pa_cons (ha c X _ o a11).1 (pa_cons (hb c X _ o a12).1 pa_nil (star_cons a8)) (star_cons a7))
      (swap2 (by rw [o.sc]; exact a13) hx hy a6 (ne_names o.nd a1 a2 a3) a7 a8 a9 a10)) fun D σ H ⟨ρ, m, st, r, sr, ev, w⟩ => ?_
    simp only [evS] at ev
    split at ev
    · rename_i x st1 e1
      split at ev
      · rename_i y st2 e2
        cases ev
        refine ⟨ρ, m, st, x, st1, sr, e1, fun v m1 H1 hx1 hr1 rv => ⟨ρ, m1, st1, y, _, sr.mono hx1 hr1, e2, fun u m2 H2 hx2 hr2 ru => ⟨v, u, rfl, ?_⟩⟩⟩
        exact w _ m2 H2 (hx1.trans hx2) (((sr.mono (hx1.trans hx2) hr2).put i (rv.mono hx2)).put j ru)
      · cases ev
    · cases ev
  · cases h
theorem st_pr3 {i j l : Nat} {a b d : IR} (ha : SE p k a) (hb : SE p k b) (hd : SE p k d) : SS p k N (.pr3 i j l a b d) := by
  intro c X st o hxe h
  unfold chkS at h
  split at h
  · simp only [Bool.and_eq_true, decide_eq_true_eq, Bool.not_eq_true'] at h
    obtain ⟨⟨⟨⟨⟨⟨⟨⟨⟨⟨⟨⟨⟨⟨⟨⟨⟨⟨⟨a1, a2⟩, a3⟩, a4⟩, a5⟩, a6⟩, a7⟩, a8⟩, a9⟩, a10⟩, a11⟩, a12⟩, a13⟩, a14⟩, a15⟩, a16⟩, a17⟩, a18⟩, a19⟩, a20⟩ := h
    have hx := isLoc_of o.sc a7
    have hy := isLoc_of o.sc a8
    have hz := isLoc_of o.sc a9
    refine PS_imp (ps_par3 o.calm (by rw [o.N]; exact o.nd) (by rw [o.N]; exact a1) (by rw [o.N]; exact a2) (by rw [o.N]; exact a3) a4 a5 a6 hx hy hz (pa_cons (ha c X _ o a17).1 (pa_cons (hb c X _ o a18).1 (pa_cons (hd c X _ o a19).1 pa_nil (star_cons a14)) (star_cons a13)) (star_cons a12))
      (swap3 (by rw [o.sc]; exact a20) hx hy hz a10 a11 (ne_names o.nd a1 a2 a4) (ne_names o.nd a1 a3 a5) (ne_names o.nd a2 a3 a6) a12 a13 a14 a15 a16)) fun D σ H ⟨ρ, m, st, r, sr, ev, w⟩ => ?_
    simp only [evS] at ev
    split at ev
    · rename_i x st1 e1
      split at ev
      · rename_i y st2 e2
        split at ev
        · rename_i z st3 e3
          cases ev
          refine ⟨ρ, m, st, x, st1, sr, e1, fun v m1 H1 hx1 hr1 rv => ⟨ρ, m1, st1, y, st2, sr.mono hx1 hr1, e2, fun u m2 H2 hx2 hr2 ru => ⟨ρ, m2, st2, z, _, sr.mono (hx1.trans hx2) hr2, e3, fun q m3 H3 hx3 hr3 rq => ⟨v, u, q, rfl, ?_⟩⟩⟩⟩
          exact w _ m3 H3 ((hx1.trans hx2).trans hx3) ((((sr.mono ((hx1.trans hx2).trans hx3) hr3).put i (rv.mono (hx2.trans hx3))).put j (ru.mono hx3)).put l rq)
        · cases ev
      · cases ev
    · cases ev
  · cases h
theorem st_au {i : Nat} {op : Operator} {e : IR} (he : SE p k e) : SS p k N (.au i op e) := by
  intro c X st o hxe h
  unfold chkS at h
  split at h
  · rename_i x px op' ex pos
    simp only [Bool.and_eq_true, decide_eq_true_eq] at h
    obtain ⟨⟨⟨a1, a2⟩, a3⟩, a4⟩ := h
    subst a1
    obtain ⟨q1, q2⟩ := locC_of o.sc o.fn a3
    have core : ∀ (f : Int → Int → Int) (ti : TIp) (hti : ti = ipI f), (∀ {x y : PV} {r : Res} {ρ : Env} {st1 : Store}, (match x, y, op with
          | .int a, .int b, .Add => some (.nx (ρ.set i (some (.int (a + b)))) st1)
          | .int a, .int b, .Sub => some (.nx (ρ.set i (some (.int (a - b)))) st1)
          | _, _, _ => none) = some r → ∃ a b, x = .int a ∧ y = .int b ∧ r = .nx (ρ.set i (some (.int (f a b)))) st1) → PIp X op ti → PS X (.AugAssign (.Name x px) op ex pos) (tS X p N (.au i op e)) := fun f ti hti hop hp => by
      refine PS_imp (ps_aug (by rw [o.N]; exact o.nd) (by rw [o.N]; exact a2) q1 (he c X _ o a4).1 hp q2) fun D σ H ⟨ρ, m, st, r, sr, ev, w⟩ => ?_
      simp only [evS] at ev
      split at ev
      · rename_i x ex
        split at ev
        · rename_i y st1 e1
          obtain ⟨a, b, h1, h2, h3⟩ := hop ev
          subst h1 h2 h3 hti
          obtain ⟨v, z1, z2⟩ := sr.rs i _ ex
          refine ⟨v, z1, ρ, m, st, _, st1, sr, e1, fun u m1 H1 hx hr ru => ⟨a, b, z2, ru, w _ m1 H1 hx ((sr.mono hx hr).put i rfl)⟩⟩
        · cases ev
      · cases ev
    cases op with
    | Add => exact core (fun a b => a + b) _ rfl (fun {x y r ρ st1} h => by cases x <;> cases y <;> simp at h; exact ⟨_, _, rfl, rfl, h.symm⟩) ip_add
    | Sub => exact core (fun a b => a - b) _ rfl (fun {x y r ρ st1} h => by cases x <;> cases y <;> simp at h; exact ⟨_, _, rfl, rfl, h.symm⟩) ip_sub
    | _ =>
      refine PS_imp ps_never fun D σ H ⟨ρ, m, st, r, sr, ev, w⟩ => ?_
      simp only [evS] at ev
      split at ev
      · split at ev
        · first | (cases ev; done) | (split at ev <;> first | (rename_i hh; cases hh) | cases ev)
        · cases ev
      · cases ev
  · cases h
end Mi

namespace Mi
open PySem PySem.Spec PyProof.Rows L2
variable {p : Pr} {k N : Nat}
theorem noComp_sw {env : PySem.Env} {e : Expr} {line : Nat} (h : noComp e = true) : swapsWith e none line env = pure false := by
  cases e <;> first | rfl | cases h
theorem st_ex {e : IR} (he : SE p k e) : SS p k N (.ex e) := by
  intro c X st o hxe h
  unfold chkS at h
  split at h
  · rw [Bool.and_eq_true] at h
    refine PS_imp (ps_expr (he c X _ o h.1).1 (noComp_sw h.2)) fun D σ H ⟨ρ, m, st, r, sr, ev, w⟩ => ?_
    simp only [evS] at ev
    split at ev
    · rename_i x st1 e1
      cases ev
      exact ⟨ρ, m, st, x, _, sr, e1, fun v m1 H1 hx hr rv => w σ m1 H1 hx (sr.mono hx hr)⟩
    · cases ev
  · cases h
theorem st_cnd {t a b : IR} (ht : SE p k t) (ha : SSs p k N a) (hb : SSs p k N b) : SS p k N (.cnd t a b) := by
  intro c X st o hxe h
  unfold chkS at h
  split at h
  · simp only [Bool.and_eq_true] at h
    obtain ⟨⟨h1, h2⟩, h3⟩ := h
    refine PS_imp (ps_if (ht c X _ o h1).2 (ha c X _ o hxe h2) (hb c X _ o hxe h3)) fun D σ H ⟨ρ, m, st, r, sr, ev, w⟩ => ?_
    simp only [evS] at ev
    split at ev
    · rename_i x st1 e1
      split at ev
      · rename_i e2
        refine ⟨ρ, m, st, true, st1, sr, by unfold evQ; rw [e1]; simp only [e2], fun m1 H1 hx hr => ?_⟩
        show (if true = true then tS X p N a D σ H1 else tS X p N b D σ H1)
        rw [if_pos rfl]
        exact ⟨ρ, m1, st1, r, sr.mono hx hr, ev, w.more hx⟩
      · rename_i e2
        refine ⟨ρ, m, st, false, st1, sr, by unfold evQ; rw [e1]; simp only [e2], fun m1 H1 hx hr => ?_⟩
        show (if false = true then tS X p N a D σ H1 else tS X p N b D σ H1)
        rw [if_neg (by decide)]
        exact ⟨ρ, m1, st1, r, sr.mono hx hr, ev, w.more hx⟩
      · cases ev
    · cases ev
  · cases h
theorem st_re {e : IR} (he : SE p k e) : SS p k N (.re e) := by
  intro c X st o hxe h
  unfold chkS at h
  split at h
  · refine PS_imp (ps_ret (he c X _ o h).1) fun D σ H ⟨ρ, m, st, r, sr, ev, w⟩ => ?_
    simp only [evS] at ev
    split at ev
    · rename_i x st1 e1
      cases ev
      exact ⟨ρ, m, st, x, _, sr, e1, w⟩
    · cases ev
  · cases h
theorem st_rn : SS p k N .rn := by
  intro c X st o hxe h
  unfold chkS at h
  split at h
  · refine PS_imp ps_retN fun D σ H ⟨ρ, m, st, r, sr, ev, w⟩ => ?_
    simp only [evS] at ev
    cases ev
    exact Nx.here w sr.hr rfl
  · cases h
theorem st_br : SS p k N .br := by
  intro c X st o hxe h
  unfold chkS at h
  split at h
  · refine PS_imp ps_break fun D σ H ⟨ρ, m, st, r, sr, ev, w⟩ => ?_
    simp only [evS] at ev
    cases ev
    exact w σ m H HX.refl sr
  · cases h
theorem st_ct : SS p k N .ct := by
  intro c X st o hxe h
  unfold chkS at h
  split at h
  · refine PS_imp ps_continue fun D σ H ⟨ρ, m, st, r, sr, ev, w⟩ => ?_
    simp only [evS] at ev
    cases ev
    exact w σ m H HX.refl sr
  · cases h
theorem st_pa : SS p k N .pa := by
  intro c X st o hxe h
  unfold chkS at h
  split at h
  · refine PS_imp ps_pass fun D σ H ⟨ρ, m, st, r, sr, ev, w⟩ => ?_
    simp only [evS] at ev
    cases ev
    exact w σ m H HX.refl sr
  · refine PS_imp ps_doc fun D σ H ⟨ρ, m, st, r, sr, ev, w⟩ => ?_
    simp only [evS] at ev
    cases ev
    exact w σ m H HX.refl sr
  · cases h
theorem st_ne : SS p k N .ne := by
  intro c X st o hxe h
  refine PS_imp ps_never fun D σ H ⟨ρ, m, st, r, sr, ev, w⟩ => ?_
  simp only [evS] at ev
  cases ev
theorem owns {X : Cx} (h : X.xe = fun _ _ => False) : PassesOwn (model X.prog X.w) X.A X.env X.xe := by rw [h]; exact PassesOwn.never
theorem st_fo {t i b : IR} (ht : SG p k t) (hi : SI p k i) (hb : SSs p k N b) : SS p k N (.fo t i b) := by
  intro c X st o hxe h
  unfold chkS at h
  split at h
  · simp only [Bool.and_eq_true] at h
    obtain ⟨⟨⟨h1, h2⟩, h3⟩, h4⟩ := h
    refine PS_imp (ps_for (owns hxe) o.calm (hi c X _ _ o h1) (ht c X _ o h3) (hb c X _ o hxe h4) (noSet_fold h2)) fun D σ H ⟨ρ, m0, st0, r, sr, ev, w⟩ => ?_
    simp only [evS] at ev
    split at ev
    · rename_i items src st1 e1
      refine ⟨ρ, m0, st0, items, src, st1, sr, e1, fun J m1 H1 hx1 hr1 itm => ?_⟩
      refine ⟨fun i mm σ' H' => mm = items.length - i ∧ i ≤ items.length ∧ ∃ ρ' m st, HX X.K m1 H1 m H' ∧ SR X p ρ' m σ' H' st ∧ loopF (stands src items) (evG p.C t) (fun ρ st => evS p.C N b ρ st) (items.drop i) ρ' st = some r,
        ⟨items.length, by simp, Nat.zero_le _, ρ, m1, st1, HX.refl, sr.mono hx1 hr1, ev⟩, ?_⟩
      rintro i mm σ' H' ⟨em, hle, ρ', m, st, hx, sr', lp⟩
      by_cases hlt : i < items.length
      · rw [List.drop_eq_getElem_cons hlt] at lp
        simp only [loopF] at lp
        split at lp
        · rename_i hck
          obtain ⟨itA, _⟩ := itm m H' st hx.toHM sr'.hr hck
          obtain ⟨go, yl⟩ := itA i items[i] (List.getElem?_eq_getElem hlt)
          refine .inr ⟨go, fun σ3 H3 => ∃ ρ' m st, HX X.K m1 H1 m H3 ∧ SR X p ρ' m σ3 H3 st ∧ loopF (stands src items) (evG p.C t) (fun ρ st => evS p.C N b ρ st) (items.drop (i + 1)) ρ' st = some r, fun σ3 H3 z => ⟨items.length - (i + 1), by omega, rfl, hlt, z⟩, fun v Hy y => ?_⟩
          obtain ⟨hxy, hry, rvy⟩ := yl v Hy y
          split at lp
          · cases lp
          · rename_i ρ1 sta eg
            refine ⟨ρ', m, st, items[i], ρ1, sta, sr'.mono hxy hry, rvy, eg, fun σ2 m2 H2 hx2 sr2 _ => ?_⟩
            have xx := (hx.trans hxy).trans hx2
            cases eb : evS p.C N b ρ1 sta with
            | none => rw [eb] at lp; cases lp
            | some q =>
              rw [eb] at lp
              refine ⟨ρ1, m2, sta, q, sr2, eb, ?_⟩
              cases q with
              | nx ρ3 st3 => exact fun σ3 m3 H3 hx3 sr3 => ⟨ρ3, m3, st3, xx.trans hx3, sr3, lp⟩
              | cn ρ3 st3 => exact fun σ3 m3 H3 hx3 sr3 => ⟨ρ3, m3, st3, xx.trans hx3, sr3, lp⟩
              | bk ρ3 st3 => cases lp; exact fun σ3 m3 H3 hx3 sr3 => w σ3 m3 H3 ((hx1.trans xx).trans hx3) sr3
              | rt x st3 => cases lp; exact Nx.more w (hx1.trans xx)
        · cases lp
      · have ei : i = items.length := by omega
        subst ei
        rw [List.drop_length] at lp
        simp only [loopF] at lp
        split at lp
        · rename_i hck
          cases lp
          obtain ⟨_, stop⟩ := itm m H' st hx.toHM sr'.hr hck
          exact .inl ⟨stop, w σ' m H' (hx1.trans hx) sr'⟩
        · cases lp
    · cases ev
  · cases h
theorem st_wh {t b : IR} (ht : SE p k t) (hb : SSs p k N b) : SS p k N (.wh t b) := by
  intro c X st o hxe h
  unfold chkS at h
  split at h
  · rw [Bool.and_eq_true] at h
    obtain ⟨h1, h2⟩ := h
    refine PS_imp (ps_while (owns hxe) (ht c X _ o h1).2 (hb c X _ o hxe h2)) fun D σ H ⟨ρ, m0, st0, r, sr, ev, w⟩ => ?_
    simp only [evS] at ev
    refine ⟨fun mm σ' H' => ∃ ρ' m st, HX X.K m0 H m H' ∧ SR X p ρ' m σ' H' st ∧ loopW (fun ρ st => evQ p.C t ρ st) (fun ρ st => evS p.C N b ρ st) mm ρ' st = some r, ⟨N, ρ, m0, st0, HX.refl, sr, ev⟩, ?_⟩
    rintro mm σ' H' ⟨ρ', m, st, hx, sr', lp⟩
    cases mm with
    | zero => simp only [loopW] at lp; cases lp
    | succ n =>
      simp only [loopW] at lp
      split at lp
      · cases lp
      · rename_i st1 ec
        cases lp
        refine ⟨ρ', m, st, false, st1, sr', ec, fun m1 H1 hx1 hr1 => ?_⟩
        show (if false = true then _ else _)
        rw [if_neg (by decide)]
        exact w σ' m1 H1 (hx.trans hx1) (sr'.mono hx1 hr1)
      · rename_i st1 ec
        refine ⟨ρ', m, st, true, st1, sr', ec, fun m1 H1 hx1 hr1 => ?_⟩
        show (if true = true then _ else _)
        rw [if_pos rfl]
        refine ⟨fun σ3 H3 => ∃ ρ' m st, HX X.K m0 H m H3 ∧ SR X p ρ' m σ3 H3 st ∧ loopW (fun ρ st => evQ p.C t ρ st) (fun ρ st => evS p.C N b ρ st) n ρ' st = some r, fun σ3 H3 z => ⟨n, Nat.lt_succ_self _, z⟩, ?_⟩
        have xx := hx.trans hx1
        cases eb : evS p.C N b ρ' st1 with
        | none => rw [eb] at lp; cases lp
        | some q =>
          rw [eb] at lp
          refine ⟨ρ', m1, st1, q, sr'.mono hx1 hr1, eb, ?_⟩
          cases q with
          | nx ρ3 st3 => exact fun σ3 m3 H3 hx3 sr3 => ⟨ρ3, m3, st3, xx.trans hx3, sr3, lp⟩
          | cn ρ3 st3 => exact fun σ3 m3 H3 hx3 sr3 => ⟨ρ3, m3, st3, xx.trans hx3, sr3, lp⟩
          | bk ρ3 st3 => cases lp; exact fun σ3 m3 H3 hx3 sr3 => w σ3 m3 H3 (xx.trans hx3) sr3
          | rt x st3 => cases lp; exact Nx.more w xx
  · cases h
/-! ### all statements -/
structure SRoles (k N : Nat) (ir : IR) : Prop where
  s : ∀ p, SS p k N ir
  ss : ∀ p, SSs p k N ir
theorem sroles (k N : Nat) (ir : IR) : SRoles k N ir := by
  induction ir with
  | v i =>
    exact ⟨(fun p c X st o hxe h => Bool.noConfusion h), (fun p c X st o hxe h => Bool.noConfusion h)⟩
  | k c =>
    exact ⟨(fun p c X st o hxe h => Bool.noConfusion h), (fun p c X st o hxe h => Bool.noConfusion h)⟩
  | g x c =>
    exact ⟨(fun p c X st o hxe h => Bool.noConfusion h), (fun p c X st o hxe h => Bool.noConfusion h)⟩
  | tp a Ra =>
    exact ⟨(fun p c X st o hxe h => Bool.noConfusion h), (fun p c X st o hxe h => Bool.noConfusion h)⟩
  | ls a Ra =>
    exact ⟨(fun p c X st o hxe h => Bool.noConfusion h), (fun p c X st o hxe h => Bool.noConfusion h)⟩
  | d0 =>
    exact ⟨(fun p c X st o hxe h => Bool.noConfusion h), (fun p c X st o hxe h => Bool.noConfusion h)⟩
  | dk ks a Ra =>
    exact ⟨(fun p c X st o hxe h => Bool.noConfusion h), (fun p c X st o hxe h => Bool.noConfusion h)⟩
  | bo op a b Ra Rb =>
    exact ⟨(fun p c X st o hxe h => Bool.noConfusion h), (fun p c X st o hxe h => Bool.noConfusion h)⟩
  | cm op a b Ra Rb =>
    exact ⟨(fun p c X st o hxe h => Bool.noConfusion h), (fun p c X st o hxe h => Bool.noConfusion h)⟩
  | ch o1 o2 a b d Ra Rb Rd =>
    exact ⟨(fun p c X st o hxe h => Bool.noConfusion h), (fun p c X st o hxe h => Bool.noConfusion h)⟩
  | bl w a Ra =>
    exact ⟨(fun p c X st o hxe h => Bool.noConfusion h), (fun p c X st o hxe h => Bool.noConfusion h)⟩
  | nt a Ra =>
    exact ⟨(fun p c X st o hxe h => Bool.noConfusion h), (fun p c X st o hxe h => Bool.noConfusion h)⟩
  | ie t a b Rt Ra Rb =>
    exact ⟨(fun p c X st o hxe h => Bool.noConfusion h), (fun p c X st o hxe h => Bool.noConfusion h)⟩
  | ix a b Ra Rb =>
    exact ⟨(fun p c X st o hxe h => Bool.noConfusion h), (fun p c X st o hxe h => Bool.noConfusion h)⟩
  | sl a lo hi Ra Rlo Rhi =>
    exact ⟨(fun p c X st o hxe h => Bool.noConfusion h), (fun p c X st o hxe h => Bool.noConfusion h)⟩
  | ca f a Ra =>
    exact ⟨(fun p c X st o hxe h => Bool.noConfusion h), (fun p c X st o hxe h => Bool.noConfusion h)⟩
  | bi f a Ra =>
    exact ⟨(fun p c X st o hxe h => Bool.noConfusion h), (fun p c X st o hxe h => Bool.noConfusion h)⟩
  | nb f a Ra =>
    exact ⟨(fun p c X st o hxe h => Bool.noConfusion h), (fun p c X st o hxe h => Bool.noConfusion h)⟩
  | isi a many ts Ra =>
    exact ⟨(fun p c X st o hxe h => Bool.noConfusion h), (fun p c X st o hxe h => Bool.noConfusion h)⟩
  | mth m o a Ro Ra =>
    exact ⟨(fun p c X st o hxe h => Bool.noConfusion h), (fun p c X st o hxe h => Bool.noConfusion h)⟩
  | lc e t i f own Re Rt Ri Rf =>
    exact ⟨(fun p c X st o hxe h => Bool.noConfusion h), (fun p c X st o hxe h => Bool.noConfusion h)⟩
  | gx w e t i f own Re Rt Ri Rf =>
    exact ⟨(fun p c X st o hxe h => Bool.noConfusion h), (fun p c X st o hxe h => Bool.noConfusion h)⟩
  | sc2 e t1 i1 f1 t2 i2 f2 own own2 Re Rt1 Ri1 Rf1 Rt2 Ri2 Rf2 =>
    exact ⟨(fun p c X st o hxe h => Bool.noConfusion h), (fun p c X st o hxe h => Bool.noConfusion h)⟩
  | no =>
    exact ⟨(fun p c X st o hxe h => Bool.noConfusion h), (fun p c X st o hxe h => Bool.noConfusion h)⟩
  | an =>
    exact ⟨(fun p c X st o hxe h => Bool.noConfusion h), (fun p c X st o hxe h => Bool.noConfusion h)⟩
  | ac a r Ra Rr =>
    exact ⟨(fun p c X st o hxe h => Bool.noConfusion h), (fun p c X st o hxe h => Bool.noConfusion h)⟩
  | rg1 a Ra =>
    exact ⟨(fun p c X st o hxe h => Bool.noConfusion h), (fun p c X st o hxe h => Bool.noConfusion h)⟩
  | rg2 a b Ra Rb =>
    exact ⟨(fun p c X st o hxe h => Bool.noConfusion h), (fun p c X st o hxe h => Bool.noConfusion h)⟩
  | en a Ra =>
    exact ⟨(fun p c X st o hxe h => Bool.noConfusion h), (fun p c X st o hxe h => Bool.noConfusion h)⟩
  | zp a b Ra Rb =>
    exact ⟨(fun p c X st o hxe h => Bool.noConfusion h), (fun p c X st o hxe h => Bool.noConfusion h)⟩
  | it a Ra =>
    exact ⟨(fun p c X st o hxe h => Bool.noConfusion h), (fun p c X st o hxe h => Bool.noConfusion h)⟩
  | tn i =>
    exact ⟨(fun p c X st o hxe h => Bool.noConfusion h), (fun p c X st o hxe h => Bool.noConfusion h)⟩
  | tt a Ra =>
    exact ⟨(fun p c X st o hxe h => Bool.noConfusion h), (fun p c X st o hxe h => Bool.noConfusion h)⟩
  | ts o i Ro Ri =>
    exact ⟨(fun p c X st o hxe h => Bool.noConfusion h), (fun p c X st o hxe h => Bool.noConfusion h)⟩
  | sn =>
    exact ⟨(fun p c X st o hxe h => Bool.noConfusion h), fun p => st_sn⟩
  | sq s r Rs Rr =>
    exact ⟨(fun p c X st o hxe h => Bool.noConfusion h), fun p => st_sq (Rs.s p) (Rr.ss p)⟩
  | pr2 i j a b Ra Rb =>
    exact ⟨fun p => st_pr2 ((roles k a).e p) ((roles k b).e p), (fun p c X st o hxe h => Bool.noConfusion h)⟩
  | pr3 i j l a b c Ra Rb Rc =>
    exact ⟨fun p => st_pr3 ((roles k a).e p) ((roles k b).e p) ((roles k c).e p), (fun p c X st o hxe h => Bool.noConfusion h)⟩
  | au i op e Re =>
    exact ⟨fun p => st_au ((roles k e).e p), (fun p c X st o hxe h => Bool.noConfusion h)⟩
  | ex e Re =>
    exact ⟨fun p => st_ex ((roles k e).e p), (fun p c X st o hxe h => Bool.noConfusion h)⟩
  | cnd c a b Rc Ra Rb =>
    exact ⟨fun p => st_cnd ((roles k c).e p) (Ra.ss p) (Rb.ss p), (fun p c X st o hxe h => Bool.noConfusion h)⟩
  | fo t i b Rt Ri Rb =>
    exact ⟨fun p => st_fo ((roles k t).g p) ((roles k i).i p) (Rb.ss p), (fun p c X st o hxe h => Bool.noConfusion h)⟩
  | wh c b Rc Rb =>
    exact ⟨fun p => st_wh ((roles k c).e p) (Rb.ss p), (fun p c X st o hxe h => Bool.noConfusion h)⟩
  | re e Re =>
    exact ⟨fun p => st_re ((roles k e).e p), (fun p c X st o hxe h => Bool.noConfusion h)⟩
  | rn =>
    exact ⟨fun p => st_rn, (fun p c X st o hxe h => Bool.noConfusion h)⟩
  | br =>
    exact ⟨fun p => st_br, (fun p c X st o hxe h => Bool.noConfusion h)⟩
  | ct =>
    exact ⟨fun p => st_ct, (fun p c X st o hxe h => Bool.noConfusion h)⟩
  | ne =>
    exact ⟨fun p => st_ne, (fun p c X st o hxe h => Bool.noConfusion h)⟩
  | pa =>
    exact ⟨fun p => st_pa, (fun p c X st o hxe h => Bool.noConfusion h)⟩
  | «as» t e Rt Re =>
    exact ⟨fun p => st_as ((roles k t).g p) ((roles k e).e p), (fun p c X st o hxe h => Bool.noConfusion h)⟩
  | asl i e t f it own Re Rt Rf Rit =>
    exact ⟨fun p => st_asl ((roles k e).e p) ((roles k t).g p) ((roles k it).i p) ((roles k f).t p), (fun p c X st o hxe h => Bool.noConfusion h)⟩
  | lsc e t i f own Re Rt Ri Rf =>
    exact ⟨(fun p c X st o hxe h => Bool.noConfusion h), (fun p c X st o hxe h => Bool.noConfusion h)⟩
end Mi

namespace Mi
open PySem PySem.Spec PyProof.Rows L2

/-! ### a table of defs -/
structure FDe where
  x : Str
  d : Df
  N : List Str
  ps : List Str
  pa : Arguments
  bd : List Stmt
  sc : Scope
/-- the def stands in the heap, its code's table is one of tb -/
structure Kn (K : PySem.W.Frag) (mg : Str → Option Value) (base : Heap) (tb : List Addr) (e : FDe) : Prop where
  ex : ∃ (f : Addr) (fd : FuncData) (c P : Addr), FunD K e.x e.x e.pa e.bd e.sc [] [] f fd ∧ mg e.x = some (.ref f) ∧ fd.code = .ref c ∧ PySem.W.CodeHd base c P ∧ P ∈ tb
/-- the look at a def -/
structure Chk (cs : List (Str × PV)) (DF : List Str) (G : Nat) (e : FDe) : Prop where
  S : FnScope e.N e.ps e.sc
  b : ∀ (kV doc pm : Value) (an : Option Addr) (cdv ct : Value) (us : List Value), us.length = e.ps.length → bindArgs (PySem.W.fnOf e.x e.x e.pa e.bd e.sc .none kV doc pm an cdv ct) ⟨us, []⟩ = pure (e.ps.zip us)
  par : e.d.par = e.ps.length
  nam : e.d.nam = e.N.length
  ok : chkSs ⟨e.N, e.sc, fun _ => true, cs, DF, G⟩ e.d.body e.bd = true

theorem TD.le : ∀ {n j : Nat} {H : Hp} {P : Addr}, TD n H P → j ≤ n → TD j H P
  | 0, 0, _, _, h, _ => h
  | n + 1, 0, _, _, h, _ => by
    obtain ⟨ps, h1, h2, _⟩ := h
    exact ⟨ps, h1, h2⟩
  | n + 1, j + 1, _, _, h, l => by
    obtain ⟨ps, h1, h2, h3⟩ := h
    exact ⟨ps, h1, h2, fun pos cv e => by
      obtain ⟨c, P', e1, e2, e3⟩ := h3 pos cv e
      exact ⟨c, P', e1, e2, e3.le (Nat.le_of_succ_le_succ l)⟩⟩
theorem TD.empty {H : Hp} {P : Addr} (h : H P = some (.tbl #[])) (n : Nat) : TD n H P := by
  cases n with
  | zero => exact ⟨#[], h, by trivial⟩
  | succ n => exact ⟨#[], h, by trivial, fun pos cv e => by cases e⟩
section
variable {P : Program} {w : World} {K : PySem.W.Frag} {mg : Str → Option Value} {base : Heap} {tb : List Addr} {G : Nat} {cs : List (Str × PV)} {T : Str → Option Df} {N : Nat} {tbl : List FDe}
theorem evF_len {j : Nat} {f : Str} {d : Df} (hT : T f = some d) {xs : List PV} {st : Store} {r : PV × Store} (h : evF T N j f xs st = some r) : xs.length = d.par := by
  cases j with
  | zero => cases h
  | succ j =>
    rw [evF, hT] at h
    simp only at h
    split at h
    · assumption
    · cases h
/-- the start of a body -/
theorem start_get {N : List Str} {vs : List V} {xs : List PV} {m : List Addr} {H : Hp} (r : RVs K m H xs vs) (n : Nat) : ∀ (i : Nat) (x : PV), (xs.map some ++ List.replicate n none)[i]? = some (some x) → ∃ v, (start N vs)[i]? = some (some v) ∧ RV K m H x v := fun i x e => by
  by_cases hi : i < xs.length
  · rw [List.getElem?_append_left (by rw [List.length_map]; exact hi), List.getElem?_map] at e
    cases q : xs[i]? with
    | none => rw [q] at e; cases e
    | some y =>
      rw [q] at e
      cases e
      obtain ⟨v, h1, h2⟩ := r.get q
      refine ⟨v, ?_, h2⟩
      unfold L2.start
      rw [List.getElem?_append_left (by rw [List.length_map, r.length]; exact hi), List.getElem?_map, h1]
      rfl
  · rw [List.getElem?_append_right (by rw [List.length_map]; omega)] at e
    rw [List.getElem?_replicate] at e
    split at e <;> cases e
theorem fns (hT : ∀ e ∈ tbl, T e.x = some e.d) (hk : ∀ e ∈ tbl, Kn K mg base tb e) (hc : ∀ e ∈ tbl, Chk cs (tbl.map (·.x)) G e) (bm : BM base mg)
    (hcs : ∀ x pv, (x, pv) ∈ cs → ∃ v u, mg x = some u ∧ RelV v u ∧ ∀ m H, RV K m H pv v) (hbl : ∀ x ∈ blts, mg x = none) :
    ∀ (j : Nat), ∀ e ∈ tbl, ∃ (f : Addr) (fd : FuncData), FunD K e.x e.x e.pa e.bd e.sc [] [] f fd ∧ mg e.x = some (.ref f) ∧ FnOk P w K mg base C8.CX0 (j * (1 + G)) f fd e.ps (spM ⟨K, P, w, tb, G⟩ (evF T N j) e.x)
  | 0, e, he => by
    obtain ⟨f, fd, c, Q, F, h1, h2, h3, h4⟩ := (hk e he).ex
    refine ⟨f, fd, F, h1, ⟨fun vs H Q E h => ?_, fun A outer s H args us vs Q E _ _ _ _ h => ?_⟩⟩
    · obtain ⟨m, st, xs, pv, st', _, _, h, _⟩ := h
      cases h
    · obtain ⟨m, st, xs, pv, st', _, _, h, _⟩ := h
      cases h
  | j + 1, e, he => by
    have ih := fns hT hk hc bm hcs hbl j
    have C := hc e he
    obtain ⟨f, fd, c, Pt, F, h1, h2, h3, h4⟩ := (hk e he).ex
    refine ⟨f, fd, F, h1, ?_⟩
    have len : ∀ vs H Q E, spM ⟨K, P, w, tb, G⟩ (evF T N (j + 1)) e.x vs H Q E → vs.length = e.ps.length := fun vs H Q E h => by
      obtain ⟨m, st, xs, pv, st', _, r, h, _⟩ := h
      rw [r.length, evF_len (hT e he) h, C.par]
    obtain ⟨oc, od, dV, kV, doc, pm, an, cdv, ct, osl, rfl, lk, hcd, hD, hKw⟩ := F.ex
    have ec : cdv = .ref c := h2
    subst ec
    have el : (j + 1) * (1 + G) = (j * (1 + G) + G) + 1 := by rw [Nat.succ_mul]; omega
    rw [el]
    refine fn_of lk hcd C.S len fun A outer s H vs Q E hr hsp => ?_
    obtain ⟨m, st, xs, pv, st', hR, r, hev, nx⟩ := hsp
    let X : Cx := (cxOf C8.CX0 P w K mg base e.N e.x e.sc f (.ref c) A outer s H E).nox
    let p : Pr := ⟨tb, G, evF T N j, G⟩
    have ok : Okx p (j * (1 + G)) ⟨e.N, e.sc, fun _ => true, cs, tbl.map (·.x), G⟩ X := {
      N := rfl
      nd := C.S.nd
      sc := rfl
      fn := rfl
      calm := rfl
      room := hr
      gn := rfl
      bm := bm
      cs := hcs
      bl := hbl
      fns := fun y hy => by
        obtain ⟨e', he', rfl⟩ := List.mem_map.mp hy
        obtain ⟨f', fd', F', g', ok'⟩ := ih e' he'
        exact ⟨f', fd', e'.ps, [], ok', g', F'.kp, F'.bindsN (hc e' he').b, .nil⟩ }
    refine ⟨_, PSs.nox (((sroles (j * (1 + G)) N e.d.body).ss p) _ X e.bd ok rfl C.ok), ?_⟩
    have hxl := evF_len (hT e he) hev
    rw [evF, hT e he] at hev
    simp only at hev
    rw [if_pos hxl] at hev
    have sr : SR X p (xs.map some ++ List.replicate (e.d.nam - e.d.par) none) m (start e.N vs) H st := {
      rs := start_get r _
      len := by
        have := r.length
        unfold L2.start
        rw [List.length_append, List.length_append, List.length_map, List.length_map, List.length_replicate, List.length_replicate, C.nam, ← hxl, this]
      hr := hR
      ct := ⟨c, Pt, rfl, .inl h3, hR.tab Pt h4⟩ }
    split at hev
    · rename_i y st1 q
      cases hev
      exact ⟨_, m, st, _, sr, q, nx⟩
    · rename_i ρ1 st1 q
      cases hev
      exact ⟨_, m, st, _, sr, q, fun σ' m' H' hx sr' => nx .non m' H' hx sr'.hr rfl⟩
    · cases hev
end
end Mi

namespace Mi
open PySem PySem.Spec PyProof.Rows L2
/-! ### wanted ends of the interpreter -/
def Wo {α : Type} (o : Option (α × Store)) (Q : α → Store → Prop) : Prop := ∃ x st, o = some (x, st) ∧ Q x st
theorem wo_some {α : Type} {x : α} {st : Store} {Q : α → Store → Prop} : Wo (some (x, st)) Q ↔ Q x st := ⟨fun ⟨_, _, e, h⟩ => by cases e; exact h, fun h => ⟨_, _, rfl, h⟩⟩
theorem wo_none {α : Type} {Q : α → Store → Prop} : Wo none Q ↔ False := ⟨fun ⟨_, _, e, _⟩ => by (cases e), False.elim⟩
theorem wo_ite {α : Type} {c : Prop} [Decidable c] {o : Option (α × Store)} {Q : α → Store → Prop} : Wo (if c then o else none) Q ↔ c ∧ Wo o Q := by
  by_cases h : c
  · rw [if_pos h]; exact ⟨fun q => ⟨h, q⟩, fun q => q.2⟩
  · rw [if_neg h, wo_none]; exact ⟨False.elim, fun q => h q.1⟩
section
variable {C : Fn} {N : Nat} {ρ : Env} {st : Store} {Q : PV → Store → Prop}
abbrev WE (C : Fn) (ir : IR) (ρ : Env) (st : Store) (Q : PV → Store → Prop) : Prop := Wo (evE C ir ρ st) Q
abbrev WA (C : Fn) (ir : IR) (ρ : Env) (st : Store) (Q : List PV → Store → Prop) : Prop := Wo (evA C ir ρ st) Q
abbrev WB (C : Fn) (w : Bool) (ir : IR) (ρ : Env) (st : Store) (Q : PV → Store → Prop) : Prop := Wo (evB C w ir ρ st) Q
abbrev WOp (C : Fn) (ir : IR) (ρ : Env) (st : Store) (Q : Option Int → Store → Prop) : Prop := Wo (evO C ir ρ st) Q
abbrev WT (C : Fn) (ir : IR) (ρ : Env) (st : Store) (Q : Bool → Store → Prop) : Prop := Wo (evT C ir ρ st) Q
abbrev WG (C : Fn) (ir : IR) (x : PV) (ρ : Env) (st : Store) (Q : Env → Store → Prop) : Prop := Wo (evG C ir x ρ st) Q
abbrev WGs (C : Fn) (ir : IR) (xs : List PV) (ρ : Env) (st : Store) (Q : Env → Store → Prop) : Prop := Wo (evGs C ir xs ρ st) Q
def WI (C : Fn) (ir : IR) (ρ : Env) (st : Store) (Q : List PV → Option Nat → Store → Prop) : Prop := ∃ xs src st', evI C ir ρ st = some (xs, src, st') ∧ Q xs src st'
def WS (C : Fn) (N : Nat) (ir : IR) (ρ : Env) (st : Store) (Q : Res → Prop) : Prop := ∃ r, evS C N ir ρ st = some r ∧ Q r
/-- the truth of a value -/
def Tr (st : Store) (x : PV) (Q : Bool → Prop) : Prop := ∃ b, truP st x = some b ∧ Q b
theorem tr_bl {b : Bool} {Q : Bool → Prop} : Tr st (.bl b) Q ↔ Q b := ⟨fun ⟨_, e, h⟩ => by (simp only [truP, Option.some.injEq] at e; rw [e]; exact h), fun h => ⟨b, rfl, h⟩⟩
theorem we_v {i : Nat} : WE C (.v i) ρ st Q ↔ ∃ x, ρ[i]? = some (some x) ∧ Q x st := by
  show Wo (evE C (.v i) ρ st) Q ↔ _
  rw [evE]
  constructor
  · rintro ⟨x, st', e, h⟩
    split at e
    · rename_i y hy
      cases e
      exact ⟨_, hy, h⟩
    · cases e
  · rintro ⟨x, e, h⟩
    rw [e]
    exact ⟨x, st, rfl, h⟩
theorem we_k {c : PV} : WE C (.k c) ρ st Q ↔ Q c st := by rw [WE, evE, wo_some]
theorem we_g {x : Str} {c : PV} : WE C (.g x c) ρ st Q ↔ Q c st := by rw [WE, evE, wo_some]
theorem we_d0 : WE C .d0 ρ st Q ↔ Q (.loc st.length) (st ++ [.dic []]) := by rw [WE, evE, wo_some]
theorem we_tp {a : IR} : WE C (.tp a) ρ st Q ↔ WA C a ρ st fun x st1 => (x.length ≤ LIM ∧ Q (.tup x) st1) := by
  show Wo (evE C (.tp a) ρ st) Q ↔ Wo (evA C a ρ st) _
  rw [evE]
  cases h : evA C a ρ st with
  | none => simp only [wo_none]
  | some p =>
    obtain ⟨x, st1⟩ := p
    simp only [wo_some]
    rw [wo_ite, wo_some]
theorem we_ls {a : IR} : WE C (.ls a) ρ st Q ↔ WA C a ρ st fun x st1 => (x.length ≤ LIM ∧ Q (.loc st1.length) (st1 ++ [.lst x])) := by
  show Wo (evE C (.ls a) ρ st) Q ↔ Wo (evA C a ρ st) _
  rw [evE]
  cases h : evA C a ρ st with
  | none => simp only [wo_none]
  | some p =>
    obtain ⟨x, st1⟩ := p
    simp only [wo_some]
    rw [wo_ite, wo_some]
theorem we_bo {op : Operator} {a b : IR} : WE C (.bo op a b) ρ st Q ↔ WE C a ρ st fun x st1 => WE C b ρ st1 fun y st2 => Wo (bop op x y st2) Q := by
  show Wo (evE C (.bo op a b) ρ st) Q ↔ Wo (evE C a ρ st) _
  rw [evE]
  cases h : evE C a ρ st with
  | none => simp only [wo_none]
  | some p =>
    obtain ⟨x, st1⟩ := p
    simp only [wo_some]
    cases h2 : evE C b ρ st1 with
    | none => simp only [WE, h2, wo_none]
    | some p => obtain ⟨y, st2⟩ := p; simp only [WE, h2, wo_some]
theorem we_ix {a b : IR} : WE C (.ix a b) ρ st Q ↔ WE C a ρ st fun x st1 => WE C b ρ st1 fun y st2 => Wo (ixP x y st2) Q := by
  show Wo (evE C (.ix a b) ρ st) Q ↔ Wo (evE C a ρ st) _
  rw [evE]
  cases h : evE C a ρ st with
  | none => simp only [wo_none]
  | some p =>
    obtain ⟨x, st1⟩ := p
    simp only [wo_some]
    cases h2 : evE C b ρ st1 with
    | none => simp only [WE, h2, wo_none]
    | some p => obtain ⟨y, st2⟩ := p; simp only [WE, h2, wo_some]
theorem we_cm {op : CmpOp} {a b : IR} : WE C (.cm op a b) ρ st Q ↔ WE C a ρ st fun x st1 => WE C b ρ st1 fun y st2 => ∃ c, cmp op st2 x y = some c ∧ Q (.bl c) st2 := by
  show Wo (evE C (.cm op a b) ρ st) Q ↔ Wo (evE C a ρ st) _
  rw [evE]
  cases h : evE C a ρ st with
  | none => simp only [wo_none]
  | some p =>
    obtain ⟨x, st1⟩ := p
    simp only [wo_some]
    cases h2 : evE C b ρ st1 with
    | none => simp only [WE, h2, wo_none]
    | some p =>
      obtain ⟨y, st2⟩ := p
      simp only [WE, h2, wo_some]
      cases h3 : cmp op st2 x y with
      | none => simp [wo_none]
      | some c => simp [wo_some]
theorem we_nt {a : IR} : WE C (.nt a) ρ st Q ↔ WE C a ρ st fun x st1 => Tr st1 x fun b => Q (.bl (!b)) st1 := by
  show Wo (evE C (.nt a) ρ st) Q ↔ Wo (evE C a ρ st) _
  rw [evE]
  cases h : evE C a ρ st with
  | none => simp only [wo_none]
  | some p =>
    obtain ⟨x, st1⟩ := p
    simp only [wo_some]
    unfold Tr
    cases h3 : truP st1 x with
    | none => simp [wo_none]
    | some c => simp [wo_some]
theorem we_ie {c a b : IR} : WE C (.ie c a b) ρ st Q ↔ WE C c ρ st fun x st1 => Tr st1 x fun d => if d = true then WE C a ρ st1 Q else WE C b ρ st1 Q := by
  show Wo (evE C (.ie c a b) ρ st) Q ↔ Wo (evE C c ρ st) _
  rw [evE]
  cases h : evE C c ρ st with
  | none => simp only [wo_none]
  | some p =>
    obtain ⟨x, st1⟩ := p
    simp only [wo_some]
    unfold Tr
    cases h3 : truP st1 x with
    | none => simp [wo_none]
    | some c => cases c <;> simp
theorem we_ca {f : Str} {a : IR} : WE C (.ca f a) ρ st Q ↔ WA C a ρ st fun x st1 => Wo (C f x st1) Q := by
  show Wo (evE C (.ca f a) ρ st) Q ↔ Wo (evA C a ρ st) _
  rw [evE]
  cases h : evA C a ρ st with
  | none => simp only [wo_none]
  | some p =>
    obtain ⟨x, st1⟩ := p
    simp only [wo_some]
theorem we_bi {f : Bi} {a : IR} : WE C (.bi f a) ρ st Q ↔ WA C a ρ st fun x st1 => Wo (biP f x st1) Q := by
  show Wo (evE C (.bi f a) ρ st) Q ↔ Wo (evA C a ρ st) _
  rw [evE]
  cases h : evA C a ρ st with
  | none => simp only [wo_none]
  | some p =>
    obtain ⟨x, st1⟩ := p
    simp only [wo_some]
theorem we_nb {f : Nb} {a : IR} : WE C (.nb f a) ρ st Q ↔ WE C a ρ st fun x st1 => Wo (nbP f x st1) Q := by
  show Wo (evE C (.nb f a) ρ st) Q ↔ Wo (evE C a ρ st) _
  rw [evE]
  cases h : evE C a ρ st with
  | none => simp only [wo_none]
  | some p =>
    obtain ⟨x, st1⟩ := p
    simp only [wo_some]
theorem we_isi {a : IR} {w : Bool} {ts : List String} : WE C (.isi a w ts) ρ st Q ↔ WE C a ρ st fun x st1 => ∃ b, isiP st1 x ts = some b ∧ Q (.bl b) st1 := by
  show Wo (evE C (.isi a w ts) ρ st) Q ↔ Wo (evE C a ρ st) _
  rw [evE]
  cases h : evE C a ρ st with
  | none => simp only [wo_none]
  | some p =>
    obtain ⟨x, st1⟩ := p
    simp only [wo_some]
    cases h3 : isiP st1 x ts with
    | none => simp [wo_none]
    | some c => simp [wo_some]
theorem we_mth {m : Me} {o a : IR} : WE C (.mth m o a) ρ st Q ↔ WE C o ρ st fun x st1 => recvP m x st1 = true ∧ WA C a ρ st1 fun xs st2 => Wo (methP m x xs st2) Q := by
  show Wo (evE C (.mth m o a) ρ st) Q ↔ Wo (evE C o ρ st) _
  rw [evE]
  cases h : evE C o ρ st with
  | none => simp only [wo_none]
  | some p =>
    obtain ⟨x, st1⟩ := p
    simp only [wo_some]
    rw [wo_ite]
    cases h2 : evA C a ρ st1 with
    | none => simp only [WA, h2, wo_none]
    | some p => obtain ⟨y, st2⟩ := p; simp only [WA, h2, wo_some]
theorem we_sl {a lo hi : IR} : WE C (.sl a lo hi) ρ st Q ↔ WE C a ρ st fun x st1 => WOp C lo ρ st1 fun l st2 => WOp C hi ρ st2 fun h st3 => Wo (slP x l h st3) Q := by
  show Wo (evE C (.sl a lo hi) ρ st) Q ↔ Wo (evE C a ρ st) _
  rw [evE]
  cases h : evE C a ρ st with
  | none => simp only [wo_none]
  | some p =>
    obtain ⟨x, st1⟩ := p
    simp only [wo_some]
    cases h2 : evO C lo ρ st1 with
    | none => simp only [WOp, h2, wo_none]
    | some p =>
      obtain ⟨l, st2⟩ := p
      simp only [WOp, h2, wo_some]
      cases h3 : evO C hi ρ st2 with
      | none => simp only [wo_none]
      | some p => obtain ⟨y, st3⟩ := p; simp only [wo_some]
theorem we_bl {w : Bool} {a : IR} : WE C (.bl w a) ρ st Q ↔ WB C w a ρ st Q := by rw [WE, evE]
theorem we_ch {o1 o2 : CmpOp} {a b c : IR} : WE C (.ch o1 o2 a b c) ρ st Q ↔ WE C a ρ st fun x st1 => WE C b ρ st1 fun y st2 => ∃ d, cmp o1 st2 x y = some d ∧ if d = true then (WE C c ρ st2 fun z st3 => ∃ d, cmp o2 st3 y z = some d ∧ Q (.bl d) st3) else Q (.bl false) st2 := by
  show Wo (evE C (.ch o1 o2 a b c) ρ st) Q ↔ Wo (evE C a ρ st) _
  rw [evE]
  cases h : evE C a ρ st with
  | none => simp only [wo_none]
  | some p =>
    obtain ⟨x, st1⟩ := p
    simp only [wo_some]
    cases h2 : evE C b ρ st1 with
    | none => simp only [WE, h2, wo_none]
    | some p =>
      obtain ⟨y, st2⟩ := p
      simp only [WE, h2, wo_some]
      cases h3 : cmp o1 st2 x y with
      | none => simp [wo_none]
      | some d =>
        cases d with
        | false => simp [wo_some]
        | true =>
          simp only [Option.some.injEq, exists_eq_left', if_true]
          cases h4 : evE C c ρ st2 with
          | none => simp only [wo_none]
          | some p =>
            obtain ⟨z, st3⟩ := p
            simp only [wo_some]
            cases h5 : cmp o2 st3 y z with
            | none => simp [wo_none]
            | some d => simp [wo_some]
theorem wa_an {Q : List PV → Store → Prop} : WA C .an ρ st Q ↔ Q [] st := by rw [WA, evA, wo_some]
theorem wa_ac {a r : IR} {Q : List PV → Store → Prop} : WA C (.ac a r) ρ st Q ↔ WE C a ρ st fun x st1 => WA C r ρ st1 fun xs st2 => Q (x :: xs) st2 := by
  show Wo (evA C (.ac a r) ρ st) Q ↔ Wo (evE C a ρ st) _
  rw [evA]
  cases h : evE C a ρ st with
  | none => simp only [wo_none]
  | some p =>
    obtain ⟨x, st1⟩ := p
    simp only [wo_some]
    cases h2 : evA C r ρ st1 with
    | none => simp only [WA, h2, wo_none]
    | some p => obtain ⟨y, st2⟩ := p; simp only [WA, h2, wo_some]
theorem wb_last {w : Bool} {a : IR} : WB C w (.ac a .an) ρ st Q ↔ WE C a ρ st Q := by
  show Wo (evB C w (.ac a .an) ρ st) Q ↔ Wo (evE C a ρ st) _
  rw [evB]
  cases h : evE C a ρ st with
  | none => simp only [wo_none]
  | some p => obtain ⟨x, st1⟩ := p; simp only [isAn, wo_some]
theorem wb_ac {w : Bool} {a b r : IR} : WB C w (.ac a (.ac b r)) ρ st Q ↔ WE C a ρ st fun x st1 => Tr st1 x fun d => if d = w then WB C w (.ac b r) ρ st1 Q else Q x st1 := by
  show Wo (evB C w (.ac a (.ac b r)) ρ st) Q ↔ Wo (evE C a ρ st) _
  rw [evB]
  cases h : evE C a ρ st with
  | none => simp only [wo_none]
  | some p =>
    obtain ⟨x, st1⟩ := p
    simp only [isAn, wo_some]
    unfold Tr
    cases h3 : truP st1 x with
    | none => simp [wo_none]
    | some d =>
      by_cases e : d = w
      · simp [e]
      · simp [e, wo_some]
theorem wop_no {Q : Option Int → Store → Prop} : WOp C .no ρ st Q ↔ Q none st := by rw [WOp, evO, wo_some]
theorem wop_it {e : IR} {Q : Option Int → Store → Prop} : WOp C (.it e) ρ st Q ↔ WE C e ρ st fun x st1 => ∃ i, x = .int i ∧ Q (some i) st1 := by
  show Wo (evO C (.it e) ρ st) Q ↔ Wo (evE C e ρ st) _
  rw [evO]
  cases h : evE C e ρ st with
  | none => simp only [wo_none]
  | some p =>
    obtain ⟨x, st1⟩ := p
    cases x <;> simp [wo_some, wo_none]
theorem wt_an {Q : Bool → Store → Prop} : WT C .an ρ st Q ↔ Q true st := by rw [WT, evT, wo_some]
theorem wt_ac {e r : IR} {Q : Bool → Store → Prop} : WT C (.ac e r) ρ st Q ↔ WE C e ρ st fun x st1 => Tr st1 x fun b => Q b st1 := by
  show Wo (evT C (.ac e r) ρ st) Q ↔ Wo (evE C e ρ st) _
  rw [evT]
  cases h : evE C e ρ st with
  | none => simp only [wo_none]
  | some p =>
    obtain ⟨x, st1⟩ := p
    simp only [wo_some]
    unfold Tr
    cases h3 : truP st1 x with
    | none => simp [wo_none]
    | some d => simp [wo_some]
theorem wg_tn {i : Nat} {x : PV} {Q : Env → Store → Prop} : WG C (.tn i) x ρ st Q ↔ Q (ρ.set i (some x)) st := by rw [WG, evG, wo_some]
theorem wg_tt {a : IR} {xs : List PV} {Q : Env → Store → Prop} : WG C (.tt a) (.tup xs) ρ st Q ↔ WGs C a xs ρ st Q := by rw [WG, evG]
theorem wg_ts {o i : IR} {x : PV} {Q : Env → Store → Prop} : WG C (.ts o i) x ρ st Q ↔ WE C o ρ st fun y st1 => WE C i ρ st1 fun z st2 => ∃ st3, stP y z x st2 = some st3 ∧ Q ρ st3 := by
  show Wo (evG C (.ts o i) x ρ st) Q ↔ Wo (evE C o ρ st) _
  rw [evG]
  cases h : evE C o ρ st with
  | none => simp only [wo_none]
  | some p =>
    obtain ⟨y, st1⟩ := p
    simp only [wo_some]
    cases h2 : evE C i ρ st1 with
    | none => simp only [WE, h2, wo_none]
    | some p =>
      obtain ⟨z, st2⟩ := p
      simp only [WE, h2, wo_some]
      cases h3 : stP y z x st2 with
      | none => simp [wo_none]
      | some d => simp [wo_some]
theorem wgs_an {Q : Env → Store → Prop} : WGs C .an [] ρ st Q ↔ Q ρ st := by rw [WGs, evGs, wo_some]
theorem wgs_ac {t r : IR} {x : PV} {xs : List PV} {Q : Env → Store → Prop} : WGs C (.ac t r) (x :: xs) ρ st Q ↔ WG C t x ρ st fun ρ1 st1 => WGs C r xs ρ1 st1 Q := by
  show Wo (evGs C (.ac t r) (x :: xs) ρ st) Q ↔ Wo (evG C t x ρ st) _
  rw [evGs]
  cases h : evG C t x ρ st with
  | none => simp only [wo_none]
  | some p => obtain ⟨y, st1⟩ := p; simp only [wo_some]
end
end Mi

namespace Mi
open PySem PySem.Spec PyProof.Rows L2
/-- only new places -/
def Ext (st st' : Store) : Prop := ∃ t, st' = st ++ t
theorem Ext.refl (st : Store) : Ext st st := ⟨[], by simp⟩
theorem Ext.trans {a b c : Store} (h : Ext a b) (h' : Ext b c) : Ext a c := by
  obtain ⟨t, rfl⟩ := h
  obtain ⟨u, rfl⟩ := h'
  exact ⟨t ++ u, by rw [List.append_assoc]⟩
theorem Ext.app (st t : Store) : Ext st (st ++ t) := ⟨t, rfl⟩
theorem Ext.get {a b : Store} (h : Ext a b) {l : Nat} {o : MO} (e : a[l]? = some o) : b[l]? = some o := by
  obtain ⟨t, rfl⟩ := h
  rw [List.getElem?_append_left (List.getElem?_eq_some_iff.mp e).1]
  exact e
theorem Ext.len {a b : Store} (h : Ext a b) : a.length ≤ b.length := by
  obtain ⟨t, rfl⟩ := h
  rw [List.length_append]; omega
theorem wo_mono {α : Type} {o : Option (α × Store)} {Q Q' : α → Store → Prop} (h : Wo o Q) (i : ∀ x s, Q x s → Q' x s) : Wo o Q' := by
  obtain ⟨x, s, e, q⟩ := h
  exact ⟨x, s, e, i x s q⟩
section
variable {C : Fn} {N : Nat} {ρ : Env} {st : Store}
/-! ### what is walked -/
theorem wi_rg1 {a : IR} {Q : List PV → Option Nat → Store → Prop} (h : WE C a ρ st fun x st1 => ∃ n, x = .int n ∧ (-1000000 < n ∧ n < 1000000) ∧ Q ((List.range n.toNat).map fun i => PV.int (i : Nat)) none st1) : WI C (.rg1 a) ρ st Q := by
  obtain ⟨x, st1, e1, n, rfl, hb, q⟩ := h
  unfold WI
  rw [evI, e1]
  simp only
  rw [if_pos hb]
  exact ⟨_, _, _, rfl, q⟩
theorem wi_rg2 {a b : IR} {Q : List PV → Option Nat → Store → Prop} (h : WE C a ρ st fun x st1 => WE C b ρ st1 fun y st2 => ∃ i j, x = .int i ∧ y = .int j ∧ (-1000000 < i ∧ i < 1000000 ∧ -1000000 < j ∧ j < 1000000) ∧ Q ((List.range (j - i).toNat).map fun k => PV.int (i + (k : Nat))) none st2) : WI C (.rg2 a b) ρ st Q := by
  obtain ⟨x, st1, e1, y, st2, e2, i, j, rfl, rfl, hb, q⟩ := h
  unfold WI
  rw [evI, e1]
  simp only
  rw [e2]
  simp only
  rw [if_pos hb]
  exact ⟨_, _, _, rfl, q⟩
theorem wi_en {a : IR} {Q : List PV → Option Nat → Store → Prop} (h : WE C a ρ st fun x st1 => ∃ xs, x = .tup xs ∧ Q (xs.zipIdx.map fun p => .tup [.int p.2, p.1]) none st1) : WI C (.en a) ρ st Q := by
  obtain ⟨x, st1, e1, xs, rfl, q⟩ := h
  unfold WI
  rw [evI, e1]
  exact ⟨_, _, _, rfl, q⟩
theorem wi_zp {a b : IR} {Q : List PV → Option Nat → Store → Prop} (h : WE C a ρ st fun x st1 => WE C b ρ st1 fun y st2 => ∃ xs ys, x = .tup xs ∧ y = .tup ys ∧ Q ((xs.zip ys).map fun p => .tup [p.1, p.2]) none st2) : WI C (.zp a b) ρ st Q := by
  obtain ⟨x, st1, e1, y, st2, e2, xs, ys, rfl, rfl, q⟩ := h
  unfold WI
  rw [evI, e1]
  simp only
  rw [e2]
  exact ⟨_, _, _, rfl, q⟩
/-- what `it` walks -/
def Walk (x : PV) (st : Store) (Q : List PV → Option Nat → Prop) : Prop := match x with
  | .tup xs => Q xs none
  | .frl xs => Q xs none
  | .str z => Q (z.cps.toList.map fun c => .str ⟨#[c]⟩) none
  | .loc l => ∃ xs, st[l]? = some (.lst xs) ∧ Q xs (some l)
  | _ => False
theorem wi_it {a : IR} {Q : List PV → Option Nat → Store → Prop} (h : WE C a ρ st fun x st1 => Walk x st1 fun xs src => Q xs src st1) : WI C (.it a) ρ st Q := by
  obtain ⟨x, st1, e1, q⟩ := h
  unfold WI
  rw [evI, e1]
  cases x <;> simp only [Walk] at q <;> first | exact q.elim | skip
  · exact ⟨_, _, _, rfl, q⟩
  · exact ⟨_, _, _, rfl, q⟩
  · exact ⟨_, _, _, rfl, q⟩
  · obtain ⟨xs, hl, q⟩ := q
    simp only
    rw [hl]
    exact ⟨_, _, _, rfl, q⟩
/-! ### comprehensions -/
theorem loopC_inv {chk : Store → Bool} {g : PV → Env → Store → Option (Env × Store)} {t : Env → Store → Option (Bool × Store)} {e : Env → Store → Out} {ρ : Env} {Q : List PV → Store → Prop} :
    ∀ (items : List PV) (acc : List PV) (st : Store) (J : List PV → List PV → Store → Prop), J items acc st →
      (∀ x r acc st, J (x :: r) acc st → chk st = true ∧ acc.length < LIM ∧ Wo (g x ρ st) fun ρ1 s1 => Wo (t ρ1 s1) fun b s2 => if b = true then Wo (e ρ1 s2) fun y s3 => J r (acc ++ [y]) s3 else J r acc s2) →
      (∀ acc st, J [] acc st → chk st = true ∧ Q acc st) → Wo (loopC chk g t e ρ items acc st) Q
  | [], acc, st, J, h0, hs, hd => by
    obtain ⟨h1, h2⟩ := hd _ _ h0
    rw [loopC, if_pos h1, wo_some]
    exact h2
  | x :: r, acc, st, J, h0, hs, hd => by
    obtain ⟨h1, h2, ρ1, s1, e1, b, s2, e2, q⟩ := hs _ _ _ _ h0
    rw [loopC, if_pos (by rw [h1, decide_eq_true h2]; rfl), e1]
    simp only
    rw [e2]
    cases b with
    | false => exact loopC_inv r acc s2 J q hs hd
    | true =>
      obtain ⟨y, s3, e3, q⟩ := q
      simp only
      rw [e3]
      exact loopC_inv r (acc ++ [y]) s3 J q hs hd
/-- a body that only makes new places, told item by item -/
theorem loopC_pure {chk : Store → Bool} {g : PV → Env → Store → Option (Env × Store)} {t : Env → Store → Option (Bool × Store)} {e : Env → Store → Out} {ρ : Env} {st : Store} {items : List PV} (r : PV → Option PV)
    (hc : ∀ s, Ext st s → chk s = true) (hl : items.length < LIM)
    (h : ∀ x ∈ items, ∀ s, Ext st s → Wo (g x ρ s) fun ρ1 s1 => Wo (t ρ1 s1) fun b s2 => match r x with
      | some y => b = true ∧ Wo (e ρ1 s2) fun z s3 => z = y ∧ Ext st s3
      | none => b = false ∧ Ext st s2) : Wo (loopC chk g t e ρ items [] st) fun ys s => ys = items.filterMap r ∧ Ext st s := by
  refine loopC_inv items [] st (fun rest acc s => (∃ pre, items = pre ++ rest ∧ acc = pre.filterMap r) ∧ Ext st s) ⟨⟨[], rfl, rfl⟩, Ext.refl _⟩ ?_ ?_
  · rintro x rest acc s ⟨⟨pre, e1, e2⟩, hx⟩
    have hm : x ∈ items := by rw [e1]; simp
    refine ⟨hc s hx, ?_, wo_mono (h x hm s hx) fun ρ1 s1 q => wo_mono q fun b s2 q => ?_⟩
    · rw [e2]
      have := List.length_filterMap_le r pre
      have : items.length = pre.length + (rest.length + 1) := by rw [e1, List.length_append, List.length_cons]
      omega
    · cases hr : r x with
      | none =>
        rw [hr] at q
        obtain ⟨rfl, q⟩ := q
        rw [if_neg (by decide)]
        exact ⟨⟨pre ++ [x], by rw [e1, List.append_assoc]; rfl, by rw [List.filterMap_append, e2]; simp [hr]⟩, q⟩
      | some y =>
        rw [hr] at q
        obtain ⟨rfl, q⟩ := q
        rw [if_pos rfl]
        refine wo_mono q fun z s3 q3 => ?_
        obtain ⟨ez, q3⟩ := q3
        exact ⟨⟨pre ++ [x], by rw [e1, List.append_assoc]; rfl, by rw [List.filterMap_append, e2, ez]; simp [hr]⟩, q3⟩
  · rintro acc s ⟨⟨pre, e1, e2⟩, hx⟩
    rw [List.append_nil] at e1
    subst e1
    exact ⟨hc s hx, e2, hx⟩
/-- any, all of a body that only makes new places -/
theorem loopB_pure {stop : Bool} {chk : Store → Bool} {g : PV → Env → Store → Option (Env × Store)} {t : Env → Store → Option (Bool × Store)} {e : Env → Store → Out} {ρ : Env} {st : Store} (r : PV → Bool) :
    ∀ {items : List PV} {s0 : Store}, Ext st s0 → (∀ s, Ext st s → chk s = true) →
    (∀ x ∈ items, ∀ s, Ext st s → Wo (g x ρ s) fun ρ1 s1 => Wo (t ρ1 s1) fun b s2 => b = true ∧ Wo (e ρ1 s2) fun z s3 => z = .bl (r x) ∧ Ext st s3) → Wo (loopB stop chk g t e ρ items s0) fun b s => b = (if stop = true then items.any r else items.all r) ∧ Ext st s
  | [], s0, h0, hc, h => by
    rw [loopB, if_pos (hc _ h0), wo_some]
    exact ⟨by cases stop <;> rfl, h0⟩
  | x :: rest, s0, h0, hc, h => by
    obtain ⟨ρ1, s1, e1, b, s2, e2, rfl, z, s3, e3, rfl, h3⟩ := h x List.mem_cons_self s0 h0
    rw [loopB, if_pos (hc _ h0), e1]
    simp only
    rw [e2]
    simp only
    rw [e3]
    simp only
    by_cases hb : r x = stop
    · rw [if_pos hb, wo_some]
      refine ⟨?_, h3⟩
      rw [List.any_cons, List.all_cons, hb]
      cases stop <;> rfl
    · rw [if_neg hb]
      refine wo_mono (loopB_pure r h3 hc fun y hy => h y (List.mem_cons_of_mem _ hy)) fun b s q => ⟨?_, q.2⟩
      rw [q.1, List.any_cons, List.all_cons]
      cases stop <;> simp only [Bool.not_eq_true, Bool.not_eq_false, ne_eq] at hb <;> simp [hb]
theorem we_lc {e t i f : IR} {own : List (Str × Nat)} {Q : PV → Store → Prop} (h : WI C i ρ st fun items src st1 => Wo (loopC (stands src items) (evG C t) (fun ρ st => evT C f ρ st) (fun ρ st => evE C e ρ st) (wipeP ρ (own.map (·.2))) items [] st1) fun ys st2 => Q (.loc st2.length) (st2 ++ [.lst ys])) : WE C (.lc e t i f own) ρ st Q := by
  obtain ⟨items, src, st1, e1, ys, st2, e2, q⟩ := h
  rw [WE, evE, e1]
  simp only
  rw [e2]
  exact ⟨_, _, rfl, q⟩
theorem we_lsc {e t i f : IR} {own : List (Str × Nat)} {Q : PV → Store → Prop} (h : WI C i ρ st fun items src st1 => Wo (loopC (stands src items) (evG C t) (fun ρ st => evT C f ρ st) (fun ρ st => evE C e ρ st) (wipeP ρ (own.map (·.2))) items [] st1) fun ys st2 => ∃ is, toInts ys = some is ∧ is.length < 64 ∧ Q (.int (dedupI is).length) st2) : WE C (.lsc e t i f own) ρ st Q := by
  obtain ⟨items, src, st1, e1, ys, st2, e2, is, e3, hl, q⟩ := h
  rw [WE, evE, e1]
  simp only
  rw [e2]
  simp only
  rw [e3]
  simp only
  rw [if_pos hl]
  exact ⟨_, _, rfl, q⟩
theorem we_any {e t i f : IR} {own : List (Str × Nat)} {Q : PV → Store → Prop} (h : WI C i ρ st fun items src st1 => Wo (loopB true (stands src items) (evG C t) (fun ρ st => evT C f ρ st) (fun ρ st => evE C e ρ st) (wipeP ρ (own.map (·.2))) items st1) fun b st2 => Q (.bl b) st2) : WE C (.gx .any e t i f own) ρ st Q := by
  obtain ⟨items, src, st1, e1, b, st2, e2, q⟩ := h
  rw [WE, evE, e1]
  simp only
  rw [e2]
  exact ⟨_, _, rfl, q⟩
theorem we_all {e t i f : IR} {own : List (Str × Nat)} {Q : PV → Store → Prop} (h : WI C i ρ st fun items src st1 => Wo (loopB false (stands src items) (evG C t) (fun ρ st => evT C f ρ st) (fun ρ st => evE C e ρ st) (wipeP ρ (own.map (·.2))) items st1) fun b st2 => Q (.bl b) st2) : WE C (.gx .all e t i f own) ρ st Q := by
  obtain ⟨items, src, st1, e1, b, st2, e2, q⟩ := h
  rw [WE, evE, e1]
  simp only
  rw [e2]
  exact ⟨_, _, rfl, q⟩
theorem we_tuple {e t i f : IR} {own : List (Str × Nat)} {Q : PV → Store → Prop} (h : WI C i ρ st fun items src st1 => Wo (loopC (stands src items) (evG C t) (fun ρ st => evT C f ρ st) (fun ρ st => evE C e ρ st) (wipeP ρ (own.map (·.2))) items [] st1) fun ys st2 => Q (.tup ys) st2) : WE C (.gx .tuple e t i f own) ρ st Q := by
  obtain ⟨items, src, st1, e1, b, st2, e2, q⟩ := h
  rw [WE, evE, e1]
  simp only
  rw [e2]
  exact ⟨_, _, rfl, q⟩
theorem we_sum {e t i f : IR} {own : List (Str × Nat)} {Q : PV → Store → Prop} (h : WI C i ρ st fun items src st1 => Wo (loopC (stands src items) (evG C t) (fun ρ st => evT C f ρ st) (fun ρ st => evE C e ρ st) (wipeP ρ (own.map (·.2))) items [] st1) fun ys st2 => ∃ n, sumP ys = some n ∧ Q (.int n) st2) : WE C (.gx .sum e t i f own) ρ st Q := by
  obtain ⟨items, src, st1, e1, b, st2, e2, n, e3, q⟩ := h
  rw [WE, evE, e1]
  simp only
  rw [e2]
  simp only
  rw [e3]
  exact ⟨_, _, rfl, q⟩
end
end Mi

namespace Mi
open PySem PySem.Spec PyProof.Rows L2
section
variable {C : Fn} {N : Nat} {ρ : Env} {st : Store} {Q : Res → Prop}
theorem ws_mono {ir : IR} {Q' : Res → Prop} (h : WS C N ir ρ st Q) (i : ∀ r, Q r → Q' r) : WS C N ir ρ st Q' := by
  obtain ⟨r, e, q⟩ := h
  exact ⟨r, e, i r q⟩
/-- behind a statement: the rest, or the end -/
def Then (C : Fn) (N : Nat) (rest : IR) (Q : Res → Prop) : Res → Prop
  | .nx ρ1 st1 => WS C N rest ρ1 st1 Q
  | r => Q r
theorem ws_sn (h : Q (.nx ρ st)) : WS C N .sn ρ st Q := ⟨_, by rw [evS], h⟩
theorem ws_sq {s r : IR} (h : WS C N s ρ st (Then C N r Q)) : WS C N (.sq s r) ρ st Q := by
  obtain ⟨x, e, q⟩ := h
  unfold WS
  rw [evS, e]
  cases x <;> first | exact q | exact ⟨_, rfl, q⟩
theorem ws_as {t e : IR} (h : WE C e ρ st fun x st1 => WG C t x ρ st1 fun ρ1 st2 => Q (.nx ρ1 st2)) : WS C N (.as t e) ρ st Q := by
  obtain ⟨x, st1, e1, ρ1, st2, e2, q⟩ := h
  unfold WS
  rw [evS, e1]
  simp only
  rw [e2]
  exact ⟨_, rfl, q⟩
theorem ws_asl {i : Nat} {e t f it : IR} {own : List (Str × Nat)} (h : WE C (.lc e t it f own) ρ st fun x st1 => Q (.nx (ρ.set i (some x)) st1)) : WS C N (.asl i e t f it own) ρ st Q := by
  obtain ⟨x, st1, e1, q⟩ := h
  unfold WS
  rw [evS, e1]
  exact ⟨_, rfl, q⟩
theorem ws_pr2 {i j : Nat} {a b : IR} (h : WE C a ρ st fun x st1 => WE C b ρ st1 fun y st2 => Q (.nx ((ρ.set i (some x)).set j (some y)) st2)) : WS C N (.pr2 i j a b) ρ st Q := by
  obtain ⟨x, st1, e1, y, st2, e2, q⟩ := h
  unfold WS
  rw [evS, e1]
  simp only
  rw [e2]
  exact ⟨_, rfl, q⟩
theorem ws_pr3 {i j l : Nat} {a b c : IR} (h : WE C a ρ st fun x st1 => WE C b ρ st1 fun y st2 => WE C c ρ st2 fun z st3 => Q (.nx (((ρ.set i (some x)).set j (some y)).set l (some z)) st3)) : WS C N (.pr3 i j l a b c) ρ st Q := by
  obtain ⟨x, st1, e1, y, st2, e2, z, st3, e3, q⟩ := h
  unfold WS
  rw [evS, e1]
  simp only
  rw [e2]
  simp only
  rw [e3]
  exact ⟨_, rfl, q⟩
theorem ws_add {i : Nat} {e : IR} (h : ∃ a, ρ[i]? = some (some (.int a)) ∧ WE C e ρ st fun y st1 => ∃ b, y = .int b ∧ Q (.nx (ρ.set i (some (.int (a + b)))) st1)) : WS C N (.au i .Add e) ρ st Q := by
  obtain ⟨a, e0, y, st1, e1, b, rfl, q⟩ := h
  unfold WS
  rw [evS, e0]
  simp only
  rw [e1]
  exact ⟨_, rfl, q⟩
theorem ws_ex {e : IR} (h : WE C e ρ st fun _ st1 => Q (.nx ρ st1)) : WS C N (.ex e) ρ st Q := by
  obtain ⟨x, st1, e1, q⟩ := h
  unfold WS
  rw [evS, e1]
  exact ⟨_, rfl, q⟩
theorem ws_cnd {c a b : IR} (h : WE C c ρ st fun x st1 => Tr st1 x fun d => if d = true then WS C N a ρ st1 Q else WS C N b ρ st1 Q) : WS C N (.cnd c a b) ρ st Q := by
  obtain ⟨x, st1, e1, d, e2, q⟩ := h
  unfold WS
  rw [evS, e1]
  simp only
  rw [e2]
  cases d <;> exact q
theorem ws_re {e : IR} (h : WE C e ρ st fun x st1 => Q (.rt x st1)) : WS C N (.re e) ρ st Q := by
  obtain ⟨x, st1, e1, q⟩ := h
  unfold WS
  rw [evS, e1]
  exact ⟨_, rfl, q⟩
theorem ws_rn (h : Q (.rt .non st)) : WS C N .rn ρ st Q := ⟨_, by rw [evS], h⟩
theorem ws_br (h : Q (.bk ρ st)) : WS C N .br ρ st Q := ⟨_, by rw [evS], h⟩
theorem ws_ct (h : Q (.cn ρ st)) : WS C N .ct ρ st Q := ⟨_, by rw [evS], h⟩
theorem ws_pa (h : Q (.nx ρ st)) : WS C N .pa ρ st Q := ⟨_, by rw [evS], h⟩
/-- for, by what stands at each turn -/
theorem ws_fo {t i b : IR} (J : List PV → Env → Store → Prop)
    (h : WI C i ρ st fun items src st1 => J items ρ st1 ∧
      (∀ x r ρ st, J (x :: r) ρ st → stands src items st = true ∧ WG C t x ρ st fun ρ1 st1 => WS C N b ρ1 st1 fun q => match q with
        | .nx ρ2 st2 => J r ρ2 st2
        | .cn ρ2 st2 => J r ρ2 st2
        | .bk ρ2 st2 => Q (.nx ρ2 st2)
        | .rt y st2 => Q (.rt y st2)) ∧
      ∀ ρ st, J [] ρ st → stands src items st = true ∧ Q (.nx ρ st)) : WS C N (.fo t i b) ρ st Q := by
  obtain ⟨items, src, st1, e1, h0, hs, hd⟩ := h
  unfold WS
  rw [evS, e1]
  simp only
  have key : ∀ (l : List PV) ρ st, J l ρ st → ∃ r, loopF (stands src items) (evG C t) (fun ρ st => evS C N b ρ st) l ρ st = some r ∧ Q r := by
    intro l
    induction l with
    | nil =>
      intro ρ st h0
      obtain ⟨h1, h2⟩ := hd _ _ h0
      rw [loopF, if_pos h1]
      exact ⟨_, rfl, h2⟩
    | cons x r ih =>
      intro ρ st h0
      obtain ⟨h1, ρ1, s1, e1, q, e2, h2⟩ := hs _ _ _ _ h0
      rw [loopF, if_pos h1, e1]
      simp only
      rw [e2]
      cases q with
      | nx ρ2 st2 => exact ih _ _ h2
      | cn ρ2 st2 => exact ih _ _ h2
      | bk ρ2 st2 => exact ⟨_, rfl, h2⟩
      | rt y st2 => exact ⟨_, rfl, h2⟩
  exact key items ρ st1 h0
/-- while, by a measure -/
theorem ws_wh {c b : IR} (J : Nat → Env → Store → Prop) {n : Nat} (h0 : J n ρ st) (hn : n < N)
    (hs : ∀ m ρ st, J m ρ st → WE C c ρ st fun x st1 => Tr st1 x fun d => if d = true then (WS C N b ρ st1 fun q => match q with
        | .nx ρ2 st2 => ∃ m', m' < m ∧ J m' ρ2 st2
        | .cn ρ2 st2 => ∃ m', m' < m ∧ J m' ρ2 st2
        | .bk ρ2 st2 => Q (.nx ρ2 st2)
        | .rt y st2 => Q (.rt y st2)) else Q (.nx ρ st1)) : WS C N (.wh c b) ρ st Q := by
  unfold WS
  rw [evS]
  have key : ∀ (k m : Nat) ρ st, m < k → J m ρ st → ∃ r, loopW (fun ρ st => match evE C c ρ st with
      | some (x, st1) => match truP st1 x with
        | some d => some (d, st1)
        | none => none
      | none => none) (fun ρ st => evS C N b ρ st) k ρ st = some r ∧ Q r := by
    intro k
    induction k with
    | zero => intro m ρ st hm; omega
    | succ k ih =>
      intro m ρ st hm h0
      obtain ⟨x, st1, e1, d, e2, h⟩ := hs _ _ _ h0
      rw [loopW, e1]
      simp only
      rw [e2]
      cases d with
      | false => exact ⟨_, rfl, h⟩
      | true =>
        obtain ⟨q, e3, h⟩ := h
        simp only
        rw [e3]
        cases q with
        | nx ρ2 st2 => obtain ⟨m', h1, h2⟩ := h; exact ih m' _ _ (by omega) h2
        | cn ρ2 st2 => obtain ⟨m', h1, h2⟩ := h; exact ih m' _ _ (by omega) h2
        | bk ρ2 st2 => exact ⟨_, rfl, h⟩
        | rt y st2 => exact ⟨_, rfl, h⟩
  exact key N n ρ st hn h0
end
/-- what a def gives back -/
def Ret (Q : PV → Store → Prop) : Res → Prop
  | .rt x st => Q x st
  | .nx _ st => Q .non st
  | _ => False
/-- a call, by its body -/
theorem wf {T : Str → Option Df} {N k : Nat} {f : Str} {d : Df} (hT : T f = some d) {xs : List PV} {st : Store} {Q : PV → Store → Prop} (hl : xs.length = d.par) (h : WS (evF T N k) N d.body (xs.map some ++ List.replicate (d.nam - d.par) none) st (Ret Q)) : Wo (evF T N (k + 1) f xs st) Q := by
  obtain ⟨r, e, q⟩ := h
  rw [evF, hT]
  simp only
  rw [if_pos hl, e]
  cases r with
  | rt x s => exact ⟨_, _, rfl, q⟩
  | nx ρ s => exact ⟨_, _, rfl, q⟩
  | bk ρ s => exact q.elim
  | cn ρ s => exact q.elim
end Mi

namespace Mi
open PySem PySem.Spec PyProof.Rows L2
mutual
/-- plain values: None, ints, texts of known signs, tuples of such -/
def PV.pl (n : Nat) : PV → Bool
  | .non => true
  | .int _ => true
  | .str x => PyData.strOk x
  | .tup xs => match n with
    | 0 => false
    | n + 1 => pls n xs
  | _ => false
def pls (n : Nat) : List PV → Bool
  | [] => true
  | x :: xs => x.pl n && pls n xs
end
mutual
theorem pl_fine : ∀ {n : Nat} {x : PV}, x.pl n = true → x.fine n = true
  | n, .non, _ => by rw [PV.fine]
  | n, .int _, _ => by rw [PV.fine]
  | n, .str x, h => by rw [PV.pl] at h; rw [PV.fine]; exact h
  | 0, .tup xs, h => by rw [PV.pl] at h; cases h
  | n + 1, .tup xs, h => by rw [PV.pl] at h; rw [PV.fine]; exact pls_fine h
  | n, .bl _, h => by rw [PV.pl] at h <;> first | cases h | (intros; contradiction)
  | n, .frl _, h => by rw [PV.pl] at h <;> first | cases h | (intros; contradiction)
  | n, .loc _, h => by rw [PV.pl] at h <;> first | cases h | (intros; contradiction)
theorem pls_fine : ∀ {n : Nat} {x : List PV}, pls n x = true → fines n x = true
  | n, [], _ => by rw [fines]
  | n, x :: xs, h => by
    rw [pls, Bool.and_eq_true] at h
    rw [fines, Bool.and_eq_true]
    exact ⟨pl_fine h.1, pls_fine h.2⟩
end
mutual
theorem eqv_pl : ∀ {n m : Nat} {a b : PV}, a.pl n = true → b.pl m = true → (PyData.eqv a.toD b.toD = true ↔ a = b)
  | n, m, .non, .non, _, _ => by simp [PV.toD, PyData.eqv]
  | n, m, .non, .int _, _, _ => by simp [PV.toD, PyData.eqv]
  | n, m, .non, .str _, _, _ => by simp [PV.toD, PyData.eqv]
  | n, m, .non, .tup _, _, _ => by simp [PV.toD, PyData.eqv]
  | n, m, .int _, .non, _, _ => by simp [PV.toD, PyData.eqv]
  | n, m, .int _, .int _, _, _ => by simp [PV.toD, PyData.eqv]
  | n, m, .int _, .str _, _, _ => by simp [PV.toD, PyData.eqv]
  | n, m, .int _, .tup _, _, _ => by simp [PV.toD, PyData.eqv]
  | n, m, .str _, .non, _, _ => by simp [PV.toD, PyData.eqv]
  | n, m, .str _, .int _, _, _ => by simp [PV.toD, PyData.eqv]
  | n, m, .str _, .str _, _, _ => by simp [PV.toD, PyData.eqv]
  | n, m, .str _, .tup _, _, _ => by simp [PV.toD, PyData.eqv]
  | n, m, .tup _, .non, _, _ => by simp [PV.toD, PyData.eqv]
  | n, m, .tup _, .int _, _, _ => by simp [PV.toD, PyData.eqv]
  | n, m, .tup _, .str _, _, _ => by simp [PV.toD, PyData.eqv]
  | 0, _, .tup _, .tup _, h, _ => by rw [PV.pl] at h; cases h
  | _ + 1, 0, .tup _, .tup _, _, h => by rw [PV.pl] at h; cases h
  | n + 1, m + 1, .tup xs, .tup ys, h1, h2 => by
    rw [PV.pl] at h1 h2
    rw [PV.toD, PV.toD, PyData.eqv, eqvs_pl h1 h2]
    exact ⟨fun e => by rw [e], fun e => by cases e; rfl⟩
  | n, _, .bl _, _, h, _ => by rw [PV.pl] at h <;> first | cases h | (intros; contradiction)
  | n, _, .frl _, _, h, _ => by rw [PV.pl] at h <;> first | cases h | (intros; contradiction)
  | n, _, .loc _, _, h, _ => by rw [PV.pl] at h <;> first | cases h | (intros; contradiction)
  | _, n, _, .bl _, _, h => by rw [PV.pl] at h <;> first | cases h | (intros; contradiction)
  | _, n, _, .frl _, _, h => by rw [PV.pl] at h <;> first | cases h | (intros; contradiction)
  | _, n, _, .loc _, _, h => by rw [PV.pl] at h <;> first | cases h | (intros; contradiction)
theorem eqvs_pl : ∀ {n m : Nat} {a b : List PV}, pls n a = true → pls m b = true → (PyData.eqvAll (toDs a) (toDs b) = true ↔ a = b)
  | n, m, [], [], _, _ => by simp [toDs, PyData.eqvAll]
  | n, m, [], _ :: _, _, _ => by simp [toDs, PyData.eqvAll]
  | n, m, _ :: _, [], _, _ => by simp [toDs, PyData.eqvAll]
  | n, m, x :: xs, y :: ys, h1, h2 => by
    rw [pls, Bool.and_eq_true] at h1 h2
    rw [toDs, toDs, PyData.eqvAll, Bool.and_eq_true, eqv_pl h1.1 h2.1, eqvs_pl h1.2 h2.2]
    simp
end
theorem pl_eqP {st : Store} {a b : PV} (ha : a.pl 30 = true) (hb : b.pl 30 = true) : ∃ c, eqP st a b = some c ∧ (c = true ↔ a = b) := by
  refine ⟨PyData.eqv a.toD b.toD, ?_, eqv_pl ha hb⟩
  have h1 := pl_fine ha
  have h2 := pl_fine hb
  cases a <;> cases b <;> simp_all [eqP, PV.pl]
theorem cmp_eq {st : Store} {a b : PV} {Q : Bool → Prop} (ha : a.pl 30 = true) (hb : b.pl 30 = true) (h : ∀ c, (c = true ↔ a = b) → Q c) : ∃ c, cmp .Eq st a b = some c ∧ Q c := by
  obtain ⟨c, e, i⟩ := pl_eqP (st := st) ha hb
  exact ⟨c, e, h c i⟩
theorem cmp_ne {st : Store} {a b : PV} {Q : Bool → Prop} (ha : a.pl 30 = true) (hb : b.pl 30 = true) (h : ∀ c, (c = true ↔ a ≠ b) → Q c) : ∃ c, cmp .NotEq st a b = some c ∧ Q c := by
  obtain ⟨c, e, i⟩ := pl_eqP (st := st) ha hb
  refine ⟨!c, by rw [cmp, e]; rfl, h _ ?_⟩
  cases c <;> simp_all
end Mi

namespace Mi
open PySem PySem.Spec PyProof.Rows L2
/-! ### the data that the laws speak of -/
abbrev Let := List Str
def eL (l : Let) : PV := .tup (l.map .str)
def eP (p : List Let) : PV := .tup (p.map eL)
def eN (l : List Nat) : List PV := l.map fun i => .int (i : Nat)
def eO : Option Nat → PV
  | none => .non
  | some i => .int (i : Nat)
theorem toVs_str (l : List Str) : toVs (l.map .str) = some (l.map V.str) := by
  induction l with
  | nil => rfl
  | cons x l ih => rw [List.map_cons, toVs, ih]; rfl
theorem toVs_nat (l : List Nat) : toVs (eN l) = some (l.map fun i => V.int (i : Nat)) := by
  unfold eN
  induction l with
  | nil => rfl
  | cons x l ih => rw [List.map_cons, toVs, ih]; rfl
theorem toVs_opt (l : List (Option Nat)) : toVs (l.map eO) = some (l.map fun o => match o with | none => V.non | some i => V.int (i : Nat)) := by
  induction l with
  | nil => rfl
  | cons x l ih => rw [List.map_cons, toVs, ih]; cases x <;> rfl
theorem in_str {st : Store} {x : Str} {l : List Str} : inP st (.str x) (.tup (l.map .str)) = some (decide (x ∈ l)) := by
  unfold inP
  simp only
  rw [toVs_str]
  show some (inV (.str x) (l.map V.str)) = _
  congr 1
  unfold inV
  induction l with
  | nil => rfl
  | cons y l ih =>
    rw [List.map_cons, List.any_cons, ih]
    show (y == x || _) = _
    by_cases e : y = x
    · subst e; simp
    · have e2 : ¬ x = y := fun z => e z.symm
      simp [e, e2]
theorem inV_nat {i : Nat} {l : List Nat} : inV (.int (i : Nat)) (l.map fun i => V.int (i : Nat)) = decide (i ∈ l) := by
  unfold inV
  induction l with
  | nil => rfl
  | cons y l ih =>
    rw [List.map_cons, List.any_cons, ih]
    show (((y : Nat) : Int) == ((i : Nat) : Int) || _) = _
    by_cases e : y = i
    · subst e; simp
    · have e2 : ¬ i = y := fun z => e z.symm
      have e3 : ¬ ((y : Nat) : Int) = ((i : Nat) : Int) := fun z => e (by omega)
      simp [e2, e3]
theorem in_nat {st : Store} {i : Nat} {l : List Nat} : inP st (.int (i : Nat)) (.tup (eN l)) = some (decide (i ∈ l)) := by
  unfold inP
  simp only
  rw [toVs_nat]
  show some (inV _ _) = _
  rw [inV_nat]
theorem in_natL {st : Store} {i p : Nat} {l : List Nat} (h : st[p]? = some (.lst (eN l))) : inP st (.int (i : Nat)) (.loc p) = some (decide (i ∈ l)) := by
  unfold inP
  simp only
  rw [h]
  simp only
  rw [toVs_nat]
  show some (inV _ _) = _
  rw [inV_nat]
theorem inV_opt {i : Nat} {l : List (Option Nat)} : inV (.int (i : Nat)) (l.map fun o => match o with | none => V.non | some i => V.int (i : Nat)) = decide (some i ∈ l) := by
  unfold inV
  induction l with
  | nil => rfl
  | cons y l ih =>
    rw [List.map_cons, List.any_cons, ih]
    cases y with
    | none => show (false || _) = _; simp
    | some y =>
      show (((y : Nat) : Int) == ((i : Nat) : Int) || _) = _
      by_cases e : y = i
      · subst e; simp
      · have e2 : ¬ i = y := fun z => e z.symm
        have e3 : ¬ ((y : Nat) : Int) = ((i : Nat) : Int) := fun z => e (by omega)
        simp [e2, e3]
theorem in_opt {st : Store} {i : Nat} {l : List (Option Nat)} : inP st (.int (i : Nat)) (.tup (l.map eO)) = some (decide (some i ∈ l)) := by
  unfold inP
  simp only
  rw [toVs_opt]
  show some (inV _ _) = _
  rw [inV_opt]
theorem in_optL {st : Store} {i p : Nat} {l : List (Option Nat)} (h : st[p]? = some (.lst (l.map eO))) : inP st (.int (i : Nat)) (.loc p) = some (decide (some i ∈ l)) := by
  unfold inP
  simp only
  rw [h]
  simp only
  rw [toVs_opt]
  show some (inV _ _) = _
  rw [inV_opt]
theorem cmp_in {st : Store} {a b : PV} {c : Bool} {Q : Bool → Prop} (e : inP st a b = some c) (h : Q c) : ∃ c, cmp .In st a b = some c ∧ Q c := ⟨c, e, h⟩
theorem cmp_nin {st : Store} {a b : PV} {c : Bool} {Q : Bool → Prop} (e : inP st a b = some c) (h : Q (!c)) : ∃ c, cmp .NotIn st a b = some c ∧ Q c := ⟨!c, by rw [cmp, e]; rfl, h⟩
theorem pls_of {n : Nat} : ∀ {l : List PV}, (∀ x ∈ l, x.pl n = true) → pls n l = true
  | [], _ => by rw [pls]
  | x :: l, h => by
    rw [pls, Bool.and_eq_true]
    exact ⟨h x List.mem_cons_self, pls_of fun y hy => h y (List.mem_cons_of_mem _ hy)⟩
/-- texts of known signs -/
def okL (l : Let) : Prop := ∀ x ∈ l, PyData.strOk x = true
def okP (p : List Let) : Prop := ∀ l ∈ p, okL l
theorem pl_L {n : Nat} {l : Let} (h : okL l) : (eL l).pl (n + 1) = true := by
  unfold eL
  rw [PV.pl]
  refine pls_of fun x hx => ?_
  obtain ⟨y, hy, rfl⟩ := List.mem_map.mp hx
  rw [PV.pl]
  exact h y hy
theorem pl_P {n : Nat} {l : List Let} (h : okP l) : (eP l).pl (n + 2) = true := by
  unfold eP
  rw [PV.pl]
  refine pls_of fun x hx => ?_
  obtain ⟨y, hy, rfl⟩ := List.mem_map.mp hx
  exact pl_L (h y hy)
theorem pl_N {n : Nat} {l : List Nat} : (PV.tup (eN l)).pl (n + 1) = true := by
  unfold eN
  rw [PV.pl]
  refine pls_of fun x hx => ?_
  obtain ⟨y, hy, rfl⟩ := List.mem_map.mp hx
  rw [PV.pl]
theorem eN_inj {a b : List Nat} (h : eN a = eN b) : a = b := by
  unfold eN at h
  induction a generalizing b with
  | nil => cases b with
    | nil => rfl
    | cons y b => cases h
  | cons x a ih => cases b with
    | nil => cases h
    | cons y b =>
      rw [List.map_cons, List.map_cons] at h
      injection h with h1 h2
      injection h1 with h1
      rw [ih h2]
      congr 1
      omega
theorem eL_inj {a b : Let} (h : eL a = eL b) : a = b := by
  unfold eL at h
  injection h with h
  induction a generalizing b with
  | nil => cases b with
    | nil => rfl
    | cons y b => cases h
  | cons x a ih => cases b with
    | nil => cases h
    | cons y b =>
      rw [List.map_cons, List.map_cons] at h
      injection h with h1 h2
      injection h1 with h1
      rw [ih h2, h1]
end Mi

namespace Mi
open PySem PySem.Spec PyProof.Rows L2
/-! ### built-in functions, by what they are asked of -/
variable {st : Store} {Q : PV → Store → Prop}
theorem bi_len_tup {xs : List PV} (h : Q (.int xs.length) st) : Wo (biP .len [.tup xs] st) Q := ⟨_, _, rfl, h⟩
theorem bi_len_frl {xs : List PV} (h : Q (.int xs.length) st) : Wo (biP .len [.frl xs] st) Q := ⟨_, _, rfl, h⟩
theorem bi_len_str {x : Str} (hl : x.length ≤ LIM) (h : Q (.int x.length) st) : Wo (biP .len [.str x] st) Q := ⟨_, _, by simp only [biP]; rw [if_pos hl], h⟩
theorem bi_len_loc {l : Nat} {xs : List PV} (e : st[l]? = some (.lst xs)) (h : Q (.int xs.length) st) : Wo (biP .len [.loc l] st) Q := ⟨_, _, by simp only [biP]; rw [e], h⟩
theorem bi_tuple_loc {l : Nat} {xs : List PV} (e : st[l]? = some (.lst xs)) (h : Q (.tup xs) st) : Wo (biP .tuple [.loc l] st) Q := ⟨_, _, by simp only [biP]; rw [e], h⟩
theorem bi_tuple_tup {xs : List PV} (h : Q (.tup xs) st) : Wo (biP .tuple [.tup xs] st) Q := ⟨_, _, rfl, h⟩
theorem bi_list_tup {xs : List PV} (hl : xs.length ≤ LIM) (h : Q (.loc st.length) (st ++ [.lst xs])) : Wo (biP .list [.tup xs] st) Q := ⟨_, _, by simp only [biP]; rw [if_pos hl], h⟩
theorem bi_list_loc {l : Nat} {xs : List PV} (e : st[l]? = some (.lst xs)) (h : Q (.loc st.length) (st ++ [.lst xs])) : Wo (biP .list [.loc l] st) Q := ⟨_, _, by simp only [biP]; rw [e], h⟩
theorem bi_all_loc {l : Nat} {xs : List PV} {bs : List Bool} (e : st[l]? = some (.lst xs)) (e2 : toBools xs = some bs) (h : Q (.bl (bs.all id)) st) : Wo (biP .all [.loc l] st) Q := ⟨_, _, by simp only [biP]; rw [e]; simp only; rw [e2], h⟩
theorem bi_abs {i : Int} (h : Q (.int (if i < 0 then -i else i)) st) : Wo (biP .abs [.int i] st) Q := ⟨_, _, rfl, h⟩
theorem bi_int_int {i : Int} (h : Q (.int i) st) : Wo (biP .int [.int i] st) Q := ⟨_, _, rfl, h⟩
theorem bi_int_bl {b : Bool} (h : Q (.int (if b = true then 1 else 0)) st) : Wo (biP .int [.bl b] st) Q := ⟨_, _, rfl, h⟩
theorem bi_min {i j : Int} (h : Q (.int (if j < i then j else i)) st) : Wo (biP .min [.int i, .int j] st) Q := ⟨_, _, rfl, h⟩
theorem new_get {st : Store} {o : MO} : (st ++ [o])[st.length]? = some o := by rw [List.getElem?_append_right (Nat.le_refl _), Nat.sub_self]; rfl
theorem cmp_le {i j : Int} {Q : Bool → Prop} (h : Q (decide (i ≤ j))) : ∃ c, cmp .LtE st (.int i) (.int j) = some c ∧ Q c := ⟨_, rfl, h⟩
theorem cmp_lt {i j : Int} {Q : Bool → Prop} (h : Q (decide (i < j))) : ∃ c, cmp .Lt st (.int i) (.int j) = some c ∧ Q c := ⟨_, rfl, h⟩
theorem cmp_gt {i j : Int} {Q : Bool → Prop} (h : Q (decide (j < i))) : ∃ c, cmp .Gt st (.int i) (.int j) = some c ∧ Q c := ⟨_, rfl, h⟩
theorem cmp_ge {i j : Int} {Q : Bool → Prop} (h : Q (decide (j ≤ i))) : ∃ c, cmp .GtE st (.int i) (.int j) = some c ∧ Q c := ⟨_, rfl, h⟩
theorem cmp_lts {i j : Str} {Q : Bool → Prop} (h : Q (decide (i.cps.toList < j.cps.toList))) : ∃ c, cmp .Lt st (.str i) (.str j) = some c ∧ Q c := ⟨_, rfl, h⟩
theorem toBools_map {α : Type} (f : α → Bool) : ∀ l : List α, toBools (l.map fun x => PV.bl (f x)) = some (l.map f)
  | [] => rfl
  | x :: l => by rw [List.map_cons, toBools, toBools_map f l]; rfl
theorem all_id {α : Type} (f : α → Bool) (l : List α) : (l.map f).all id = l.all f := by rw [List.all_map]; rfl
/-- every item is kept -/
theorem filterMap_enc {α β γ : Type} {e : α → β} {r : β → Option γ} {f : α → γ} (h : ∀ x, r (e x) = some (f x)) : ∀ l : List α, (l.map e).filterMap r = l.map f
  | [] => rfl
  | x :: l => by rw [List.map_cons, List.filterMap_cons, h, List.map_cons, filterMap_enc h l]
theorem atI_nat {xs : List PV} {i : Nat} {x : PV} (h : xs[i]? = some x) : atI xs (i : Nat) = some x := by
  have := (List.getElem?_eq_some_iff.mp h).1
  unfold atI
  have e : ixN xs.length ((i : Nat) : Int) = some i := by
    unfold ixN
    rw [if_pos (by omega), if_pos (by omega)]
    simp
  rw [e]
  exact h
theorem ix_tup {xs : List PV} {i : Nat} {x : PV} (e : xs[i]? = some x) (h : Q x st) : Wo (ixP (.tup xs) (.int (i : Nat)) st) Q := ⟨x, st, by rw [ixP, atI_nat e]; rfl, h⟩
theorem ix_loc {l : Nat} {xs : List PV} {i : Nat} {x : PV} (e0 : st[l]? = some (.lst xs)) (e : xs[i]? = some x) (h : Q x st) : Wo (ixP (.loc l) (.int (i : Nat)) st) Q := ⟨x, st, by simp only [ixP]; rw [e0]; simp only; rw [atI_nat e]; rfl, h⟩
theorem bo_sub {i j : Int} (h : Q (.int (i - j)) st) : Wo (bop .Sub (.int i) (.int j) st) Q := ⟨_, _, rfl, h⟩
theorem bo_add {i j : Int} (h : Q (.int (i + j)) st) : Wo (bop .Add (.int i) (.int j) st) Q := ⟨_, _, rfl, h⟩
theorem bo_tup {xs ys : List PV} (hl : xs.length + ys.length ≤ LIM) (h : Q (.tup (xs ++ ys)) st) : Wo (bop .Add (.tup xs) (.tup ys) st) Q := ⟨_, _, by simp only [bop, addP]; rw [if_pos hl], h⟩
end Mi

namespace Mi.K32
open PySem PySem.Spec PyProof.Rows L2
def mb : List Stmt := PySem.Challenge.pw_protestproof_k32_whole_seats_and_seating.main.body
def top (i : Nat) : Stmt := mb.getD i (.Pass ⟨0, 0, 0, 0⟩)
/-- is_name (10): 0 thing, 1 sign -/
def b_is_name : IR := (.sq (.cnd (.bl false (.ac (.nt (.isi (.v 0) false ["str"])) (.ac (.nt (.ch .LtE .LtE (.k (.int 1)) (.bi .len (.ac (.v 0) .an)) (.g (PySem.Str.ofString "LONGEST") (.int 8)))) .an))) (.sq (.re (.k (.bl false))) .sn) .sn) (.sq (.re (.bl true (.ac (.bi .all (.ac (.lc (.cm .In (.v 1) (.g (PySem.Str.ofString "SIGNS") (.str (PySem.Str.ofString "abcdefghijklmnopqrstuvwxyz")))) (.tn 1) (.it (.v 0)) .an [((PySem.Str.ofString "sign"), 1)]) .an)) (.ac (.cm .NotIn (.v 0) (.g (PySem.Str.ofString "KEPT") (.tup [(.str (PySem.Str.ofString "all")), (.str (PySem.Str.ofString "award")), (.str (PySem.Str.ofString "behind")), (.str (PySem.Str.ofString "bid")), (.str (PySem.Str.ofString "bidder")), (.str (PySem.Str.ofString "cap")), (.str (PySem.Str.ofString "come")), (.str (PySem.Str.ofString "contract")), (.str (PySem.Str.ofString "first")), (.str (PySem.Str.ofString "formula")), (.str (PySem.Str.ofString "journal")), (.str (PySem.Str.ofString "leave")), (.str (PySem.Str.ofString "low")), (.str (PySem.Str.ofString "mark")), (.str (PySem.Str.ofString "match")), (.str (PySem.Str.ofString "mean")), (.str (PySem.Str.ofString "no")), (.str (PySem.Str.ofString "none")), (.str (PySem.Str.ofString "order")), (.str (PySem.Str.ofString "plain")), (.str (PySem.Str.ofString "range")), (.str (PySem.Str.ofString "rule")), (.str (PySem.Str.ofString "seats")), (.str (PySem.Str.ofString "share")), (.str (PySem.Str.ofString "size")), (.str (PySem.Str.ofString "state")), (.str (PySem.Str.ofString "strike")), (.str (PySem.Str.ofString "tender")), (.str (PySem.Str.ofString "wishes"))]))) .an)))) .sn))
def d_is_name : Df := ⟨1, 2, b_is_name⟩
def e_is_name : FDe := ⟨(PySem.Str.ofString "is_name"), d_is_name, [(PySem.Str.ofString "thing"), (PySem.Str.ofString "sign")], [(PySem.Str.ofString "thing")], C8.fnArgs (top 10), C8.fnBody (top 10), C8.fnScope (top 10)⟩
/-- are_rising (13): 0 names, 1 index, 2 name -/
def b_are_rising : IR := (.sq (.fo (.tt (.ac (.tn 1) (.ac (.tn 2) .an))) (.en (.v 0)) (.sq (.cnd (.bl false (.ac (.nt (.ca (PySem.Str.ofString "is_name") (.ac (.v 2) .an))) (.ac (.bl true (.ac (.cm .Gt (.v 1) (.k (.int 0))) (.ac (.nt (.cm .Lt (.ix (.v 0) (.bo .Sub (.v 1) (.k (.int 1)))) (.v 2))) .an))) .an))) (.sq (.re (.k (.bl false))) .sn) .sn) .sn)) (.sq (.re (.k (.bl true))) .sn))
def d_are_rising : Df := ⟨1, 3, b_are_rising⟩
def e_are_rising : FDe := ⟨(PySem.Str.ofString "are_rising"), d_are_rising, [(PySem.Str.ofString "names"), (PySem.Str.ofString "index"), (PySem.Str.ofString "name")], [(PySem.Str.ofString "names")], C8.fnArgs (top 13), C8.fnBody (top 13), C8.fnScope (top 13)⟩
/-- is_letter (14): 0 thing -/
def b_is_letter : IR := (.sq (.re (.bl true (.ac (.isi (.v 0) false ["tuple"]) (.ac (.cm .LtE (.bi .len (.ac (.v 0) .an)) (.g (PySem.Str.ofString "MOST_CLASSES") (.int 3))) (.ac (.ca (PySem.Str.ofString "are_rising") (.ac (.v 0) .an)) .an))))) .sn)
def d_is_letter : Df := ⟨1, 1, b_is_letter⟩
def e_is_letter : FDe := ⟨(PySem.Str.ofString "is_letter"), d_is_letter, [(PySem.Str.ofString "thing")], [(PySem.Str.ofString "thing")], C8.fnArgs (top 14), C8.fnBody (top 14), C8.fnScope (top 14)⟩
/-- is_count (23): 0 thing, 1 low, 2 high -/
def b_is_count : IR := (.sq (.re (.bl true (.ac (.isi (.v 0) false ["int"]) (.ac (.nt (.isi (.v 0) false ["bool"])) (.ac (.ch .LtE .LtE (.v 1) (.v 0) (.v 2)) .an))))) .sn)
def d_is_count : Df := ⟨3, 3, b_is_count⟩
def e_is_count : FDe := ⟨(PySem.Str.ofString "is_count"), d_is_count, [(PySem.Str.ofString "thing"), (PySem.Str.ofString "low"), (PySem.Str.ofString "high")], [(PySem.Str.ofString "thing"), (PySem.Str.ofString "low"), (PySem.Str.ofString "high")], C8.fnArgs (top 23), C8.fnBody (top 23), C8.fnScope (top 23)⟩
/-- are_seats (24): 0 thing, 1 most, 2 seat -/
def b_are_seats : IR := (.sq (.re (.bl true (.ac (.isi (.v 0) false ["tuple"]) (.ac (.cm .LtE (.bi .len (.ac (.v 0) .an)) (.v 1)) (.ac (.gx .all (.ca (PySem.Str.ofString "is_letter") (.ac (.v 2) .an)) (.tn 2) (.it (.v 0)) .an [((PySem.Str.ofString "seat"), 2)]) .an))))) .sn)
def d_are_seats : Df := ⟨2, 3, b_are_seats⟩
def e_are_seats : FDe := ⟨(PySem.Str.ofString "are_seats"), d_are_seats, [(PySem.Str.ofString "thing"), (PySem.Str.ofString "most"), (PySem.Str.ofString "seat")], [(PySem.Str.ofString "thing"), (PySem.Str.ofString "most")], C8.fnArgs (top 24), C8.fnBody (top 24), C8.fnScope (top 24)⟩
/-- is_pool (25): 0 thing, 1 letter -/
def b_is_pool : IR := (.sq (.re (.bl true (.ac (.isi (.v 0) true ["list", "tuple"]) (.ac (.cm .LtE (.bi .len (.ac (.v 0) .an)) (.g (PySem.Str.ofString "MOST_POOL") (.int 200))) (.ac (.gx .all (.ca (PySem.Str.ofString "is_letter") (.ac (.v 1) .an)) (.tn 1) (.it (.v 0)) .an [((PySem.Str.ofString "letter"), 1)]) .an))))) .sn)
def d_is_pool : Df := ⟨1, 2, b_is_pool⟩
def e_is_pool : FDe := ⟨(PySem.Str.ofString "is_pool"), d_is_pool, [(PySem.Str.ofString "thing"), (PySem.Str.ofString "letter")], [(PySem.Str.ofString "thing")], C8.fnArgs (top 25), C8.fnBody (top 25), C8.fnScope (top 25)⟩
/-- fits (26): 0 letter, 1 seat, 2 name -/
def b_fits : IR := (.sq (.re (.bl false (.ac (.cm .Eq (.v 1) (.tp .an)) (.ac (.gx .any (.cm .In (.v 2) (.v 1)) (.tn 2) (.it (.v 0)) .an [((PySem.Str.ofString "name"), 2)]) .an)))) .sn)
def d_fits : Df := ⟨2, 3, b_fits⟩
def e_fits : FDe := ⟨(PySem.Str.ofString "fits"), d_fits, [(PySem.Str.ofString "letter"), (PySem.Str.ofString "seat"), (PySem.Str.ofString "name")], [(PySem.Str.ofString "letter"), (PySem.Str.ofString "seat")], C8.fnArgs (top 26), C8.fnBody (top 26), C8.fnScope (top 26)⟩
/-- is_single (27): 0 thing, 1 word -/
def b_is_single : IR := (.sq (.as (.tn 1) (.ix (.v 0) (.k (.int 0)))) (.sq (.cnd (.cm .Eq (.v 1) (.k (.str (PySem.Str.ofString "size")))) (.sq (.re (.bl true (.ac (.cm .Eq (.bi .len (.ac (.v 0) .an)) (.k (.int 2))) (.ac (.ca (PySem.Str.ofString "is_count") (.ac (.ix (.v 0) (.k (.int 1))) (.ac (.k (.int 0)) (.ac (.g (PySem.Str.ofString "MOST_COUNT") (.int 30)) .an)))) .an)))) .sn) .sn) (.sq (.cnd (.cm .In (.v 1) (.tp (.ac (.k (.str (PySem.Str.ofString "cap"))) (.ac (.k (.str (PySem.Str.ofString "behind"))) .an)))) (.sq (.re (.bl true (.ac (.cm .Eq (.bi .len (.ac (.v 0) .an)) (.k (.int 3))) (.ac (.ca (PySem.Str.ofString "is_name") (.ac (.ix (.v 0) (.k (.int 1))) .an)) (.ac (.ca (PySem.Str.ofString "is_count") (.ac (.ix (.v 0) (.k (.int 2))) (.ac (.k (.int 0)) (.ac (.g (PySem.Str.ofString "MOST_COUNT") (.int 30)) .an)))) .an))))) .sn) .sn) (.sq (.cnd (.cm .Eq (.v 1) (.k (.str (PySem.Str.ofString "share")))) (.sq (.cnd (.bl false (.ac (.cm .NotEq (.bi .len (.ac (.v 0) .an)) (.k (.int 4))) (.ac (.nt (.ca (PySem.Str.ofString "is_name") (.ac (.ix (.v 0) (.k (.int 1))) .an))) .an))) (.sq (.re (.k (.bl false))) .sn) .sn) (.sq (.re (.bl true (.ac (.ca (PySem.Str.ofString "is_count") (.ac (.ix (.v 0) (.k (.int 2))) (.ac (.k (.int 1)) (.ac (.g (PySem.Str.ofString "MOST_SHARE") (.int 9)) .an)))) (.ac (.ca (PySem.Str.ofString "is_count") (.ac (.ix (.v 0) (.k (.int 3))) (.ac (.k (.int 1)) (.ac (.g (PySem.Str.ofString "MOST_SHARE") (.int 9)) .an)))) .an)))) .sn)) .sn) (.sq (.re (.bl true (.ac (.cm .In (.v 1) (.tp (.ac (.k (.str (PySem.Str.ofString "seats"))) (.ac (.k (.str (PySem.Str.ofString "match"))) .an)))) (.ac (.cm .Eq (.bi .len (.ac (.v 0) .an)) (.k (.int 2))) (.ac (.ca (PySem.Str.ofString "are_seats") (.ac (.ix (.v 0) (.k (.int 1))) (.ac (.g (PySem.Str.ofString "MOST_SEATS") (.int 6)) .an))) .an))))) .sn)))))
def d_is_single : Df := ⟨1, 2, b_is_single⟩
def e_is_single : FDe := ⟨(PySem.Str.ofString "is_single"), d_is_single, [(PySem.Str.ofString "thing"), (PySem.Str.ofString "word")], [(PySem.Str.ofString "thing")], C8.fnArgs (top 27), C8.fnBody (top 27), C8.fnScope (top 27)⟩
/-- quotas_in (28): 0 thing, 1 levels, 2 total, 3 part, 4 found -/
def b_quotas_in : IR := (.sq (.cnd (.bl false (.ac (.cm .Lt (.v 1) (.k (.int 1))) (.ac (.nt (.isi (.v 0) false ["tuple"])) (.ac (.cm .Eq (.v 0) (.tp .an)) (.ac (.nt (.isi (.ix (.v 0) (.k (.int 0))) false ["str"])) .an))))) (.sq (.re (.k (.int 0))) .sn) .sn) (.sq (.cnd (.cm .NotIn (.ix (.v 0) (.k (.int 0))) (.tp (.ac (.k (.str (PySem.Str.ofString "all"))) (.ac (.k (.str (PySem.Str.ofString "first"))) .an)))) (.sq (.re (.bi .int (.ac (.ca (PySem.Str.ofString "is_single") (.ac (.v 0) .an)) .an))) .sn) .sn) (.sq (.cnd (.bl false (.ac (.cm .NotEq (.bi .len (.ac (.v 0) .an)) (.k (.int 2))) (.ac (.nt (.isi (.ix (.v 0) (.k (.int 1))) false ["tuple"])) (.ac (.nt (.ch .LtE .LtE (.k (.int 1)) (.bi .len (.ac (.ix (.v 0) (.k (.int 1))) .an)) (.g (PySem.Str.ofString "MOST_PARTS") (.int 8)))) .an)))) (.sq (.re (.k (.int 0))) .sn) .sn) (.sq (.as (.tn 2) (.k (.int 1))) (.sq (.fo (.tn 3) (.it (.ix (.v 0) (.k (.int 1)))) (.sq (.as (.tn 4) (.ca (PySem.Str.ofString "quotas_in") (.ac (.v 3) (.ac (.bo .Sub (.v 1) (.k (.int 1))) .an)))) (.sq (.au 2 .Add (.v 4)) (.sq (.cnd (.bl false (.ac (.cm .Eq (.v 4) (.k (.int 0))) (.ac (.cm .Gt (.v 2) (.g (PySem.Str.ofString "MOST_QUOTAS") (.int 40))) .an))) (.sq (.re (.k (.int 0))) .sn) .sn) .sn)))) (.sq (.re (.v 2)) .sn))))))
def d_quotas_in : Df := ⟨2, 5, b_quotas_in⟩
def e_quotas_in : FDe := ⟨(PySem.Str.ofString "quotas_in"), d_quotas_in, [(PySem.Str.ofString "thing"), (PySem.Str.ofString "levels"), (PySem.Str.ofString "total"), (PySem.Str.ofString "part"), (PySem.Str.ofString "found")], [(PySem.Str.ofString "thing"), (PySem.Str.ofString "levels")], C8.fnArgs (top 28), C8.fnBody (top 28), C8.fnScope (top 28)⟩
/-- is_quota (29): 0 thing -/
def b_is_quota : IR := (.sq (.re (.cm .Gt (.ca (PySem.Str.ofString "quotas_in") (.ac (.v 0) (.ac (.g (PySem.Str.ofString "MOST_LEVELS") (.int 6)) .an))) (.k (.int 0)))) .sn)
def d_is_quota : Df := ⟨1, 1, b_is_quota⟩
def e_is_quota : FDe := ⟨(PySem.Str.ofString "is_quota"), d_is_quota, [(PySem.Str.ofString "thing")], [(PySem.Str.ofString "thing")], C8.fnArgs (top 29), C8.fnBody (top 29), C8.fnScope (top 29)⟩
/-- first_state (30): 0 quota, 1 word, 2 part -/
def b_first_state : IR := (.sq (.as (.tn 1) (.ix (.v 0) (.k (.int 0)))) (.sq (.cnd (.cm .In (.v 1) (.tp (.ac (.k (.str (PySem.Str.ofString "all"))) (.ac (.k (.str (PySem.Str.ofString "first"))) .an)))) (.sq (.re (.gx .tuple (.ca (PySem.Str.ofString "first_state") (.ac (.v 2) .an)) (.tn 2) (.it (.ix (.v 0) (.k (.int 1)))) .an [((PySem.Str.ofString "part"), 2)])) .sn) .sn) (.sq (.cnd (.cm .Eq (.v 1) (.k (.str (PySem.Str.ofString "share")))) (.sq (.re (.tp (.ac (.k (.int 0)) (.ac (.k (.int 0)) .an)))) .sn) .sn) (.sq (.cnd (.cm .Eq (.v 1) (.k (.str (PySem.Str.ofString "seats")))) (.sq (.re (.tp .an)) .sn) .sn) (.sq (.re (.ie (.cm .Eq (.v 1) (.k (.str (PySem.Str.ofString "match")))) (.tp (.ac (.tp .an) .an)) (.k (.int 0)))) .sn)))))
def d_first_state : Df := ⟨1, 3, b_first_state⟩
def e_first_state : FDe := ⟨(PySem.Str.ofString "first_state"), d_first_state, [(PySem.Str.ofString "quota"), (PySem.Str.ofString "word"), (PySem.Str.ofString "part")], [(PySem.Str.ofString "quota")], C8.fnArgs (top 30), C8.fnBody (top 30), C8.fnScope (top 30)⟩
/-- counted (31): 0 quota, 1 state, 2 letter, 3 limit, 4 bearer -/
def b_counted : IR := (.sq .ne (.sq (.cnd (.cm .Eq (.ix (.v 0) (.k (.int 0))) (.k (.str (PySem.Str.ofString "size")))) (.sq (.re (.ie (.cm .Lt (.v 1) (.v 3)) (.bo .Add (.v 1) (.k (.int 1))) (.k .non))) .sn) .sn) (.sq (.as (.tn 4) (.cm .In (.ix (.v 0) (.k (.int 1))) (.v 2))) (.sq (.cnd (.cm .Eq (.ix (.v 0) (.k (.int 0))) (.k (.str (PySem.Str.ofString "cap")))) (.sq (.cnd (.nt (.v 4)) (.sq (.re (.v 1)) .sn) .sn) (.sq (.re (.ie (.cm .Lt (.v 1) (.v 3)) (.bo .Add (.v 1) (.k (.int 1))) (.k .non))) .sn)) .sn) (.sq (.cnd (.v 4) (.sq (.re (.bi .min (.ac (.v 3) (.ac (.bo .Add (.v 1) (.k (.int 1))) .an)))) .sn) .sn) (.sq (.re (.ie (.cm .Eq (.v 1) (.v 3)) (.v 1) (.k .non))) .sn))))))
def d_counted : Df := ⟨3, 5, b_counted⟩
def e_counted : FDe := ⟨(PySem.Str.ofString "counted"), d_counted, [(PySem.Str.ofString "quota"), (PySem.Str.ofString "state"), (PySem.Str.ofString "letter"), (PySem.Str.ofString "limit"), (PySem.Str.ofString "bearer")], [(PySem.Str.ofString "quota"), (PySem.Str.ofString "state"), (PySem.Str.ofString "letter")], C8.fnArgs (top 31), C8.fnBody (top 31), C8.fnScope (top 31)⟩
/-- shared (32): 0 quota, 1 state, 2 letter, 3 bearers, 4 total -/
def b_shared : IR := (.sq (.as (.tt (.ac (.tn 3) (.ac (.tn 4) .an))) (.v 1)) (.sq (.cnd (.cm .NotIn (.ix (.v 0) (.k (.int 1))) (.v 2)) (.sq (.re (.tp (.ac (.v 3) (.ac (.bo .Add (.v 4) (.k (.int 1))) .an)))) .sn) .sn) (.sq (.cnd (.cm .Gt (.bo .Mult (.ix (.v 0) (.k (.int 3))) (.bo .Add (.v 3) (.k (.int 1)))) (.bo .Mult (.ix (.v 0) (.k (.int 2))) (.bo .Add (.v 4) (.k (.int 1))))) (.sq (.re (.k .non)) .sn) .sn) (.sq (.re (.tp (.ac (.bo .Add (.v 3) (.k (.int 1))) (.ac (.bo .Add (.v 4) (.k (.int 1))) .an)))) .sn))))
def d_shared : Df := ⟨3, 5, b_shared⟩
def e_shared : FDe := ⟨(PySem.Str.ofString "shared"), d_shared, [(PySem.Str.ofString "quota"), (PySem.Str.ofString "state"), (PySem.Str.ofString "letter"), (PySem.Str.ofString "bearers"), (PySem.Str.ofString "total")], [(PySem.Str.ofString "quota"), (PySem.Str.ofString "state"), (PySem.Str.ofString "letter")], C8.fnArgs (top 32), C8.fnBody (top 32), C8.fnScope (top 32)⟩
/-- sat (33): 0 quota, 1 state, 2 letter, 3 index, 4 seat -/
def b_sat : IR := (.sq (.fo (.tt (.ac (.tn 3) (.ac (.tn 4) .an))) (.en (.ix (.v 0) (.k (.int 1)))) (.sq (.cnd (.bl true (.ac (.cm .NotIn (.v 3) (.v 1)) (.ac (.ca (PySem.Str.ofString "fits") (.ac (.v 2) (.ac (.v 4) .an))) .an))) (.sq (.re (.bi .tuple (.ac (.bi .sorted (.ac (.bo .Add (.v 1) (.tp (.ac (.v 3) .an))) .an)) .an))) .sn) .sn) .sn)) (.sq (.re (.k .non)) .sn))
def d_sat : Df := ⟨3, 5, b_sat⟩
def e_sat : FDe := ⟨(PySem.Str.ofString "sat"), d_sat, [(PySem.Str.ofString "quota"), (PySem.Str.ofString "state"), (PySem.Str.ofString "letter"), (PySem.Str.ofString "index"), (PySem.Str.ofString "seat")], [(PySem.Str.ofString "quota"), (PySem.Str.ofString "state"), (PySem.Str.ofString "letter")], C8.fnArgs (top 33), C8.fnBody (top 33), C8.fnScope (top 33)⟩
/-- matched (34): 0 quota, 1 state, 2 letter, 3 places, 4 filled, 5 index, 6 seat, 7 some -/
def b_matched : IR := (.sq (.as (.tn 3) (.lc (.v 5) (.tt (.ac (.tn 5) (.ac (.tn 6) .an))) (.en (.ix (.v 0) (.k (.int 1)))) (.ac (.ca (PySem.Str.ofString "fits") (.ac (.v 2) (.ac (.v 6) .an))) .an) [((PySem.Str.ofString "index"), 5), ((PySem.Str.ofString "seat"), 6)])) (.sq (.as (.tn 4) (.bi .sorted (.ac (.sc2 (.bi .tuple (.ac (.bi .sorted (.ac (.bo .Add (.v 7) (.tp (.ac (.v 5) .an))) .an)) .an)) (.tn 7) (.it (.v 1)) .an (.tn 5) (.it (.v 3)) (.ac (.cm .NotIn (.v 5) (.v 7)) .an) [((PySem.Str.ofString "some"), 7), ((PySem.Str.ofString "index"), 5)] [5]) .an))) (.sq (.re (.ie (.v 4) (.bi .tuple (.ac (.v 4) .an)) (.k .non))) .sn)))
def d_matched : Df := ⟨3, 8, b_matched⟩
def e_matched : FDe := ⟨(PySem.Str.ofString "matched"), d_matched, [(PySem.Str.ofString "quota"), (PySem.Str.ofString "state"), (PySem.Str.ofString "letter"), (PySem.Str.ofString "places"), (PySem.Str.ofString "filled"), (PySem.Str.ofString "index"), (PySem.Str.ofString "seat"), (PySem.Str.ofString "some")], [(PySem.Str.ofString "quota"), (PySem.Str.ofString "state"), (PySem.Str.ofString "letter")], C8.fnArgs (top 34), C8.fnBody (top 34), C8.fnScope (top 34)⟩
/-- together (35): 0 quota, 1 state, 2 letter, 3 later, 4 part, 5 own, 6 moved -/
def b_together : IR := (.sq (.as (.tn 3) (.ls .an)) (.sq (.fo (.tt (.ac (.tn 4) (.ac (.tn 5) .an))) (.zp (.ix (.v 0) (.k (.int 1))) (.v 1)) (.sq (.as (.tn 6) (.ca (PySem.Str.ofString "step") (.ac (.v 4) (.ac (.v 5) (.ac (.v 2) .an))))) (.sq (.cnd (.cm .Is (.v 6) (.k .non)) (.sq (.re (.k .non)) .sn) .sn) (.sq (.ex (.mth .append (.v 3) (.ac (.v 6) .an))) .sn)))) (.sq (.re (.bi .tuple (.ac (.v 3) .an))) .sn)))
def d_together : Df := ⟨3, 7, b_together⟩
def e_together : FDe := ⟨(PySem.Str.ofString "together"), d_together, [(PySem.Str.ofString "quota"), (PySem.Str.ofString "state"), (PySem.Str.ofString "letter"), (PySem.Str.ofString "later"), (PySem.Str.ofString "part"), (PySem.Str.ofString "own"), (PySem.Str.ofString "moved")], [(PySem.Str.ofString "quota"), (PySem.Str.ofString "state"), (PySem.Str.ofString "letter")], C8.fnArgs (top 35), C8.fnBody (top 35), C8.fnScope (top 35)⟩
/-- step (36): 0 quota, 1 state, 2 letter, 3 word, 4 index, 5 part, 6 moved -/
def b_step : IR := (.sq (.as (.tn 3) (.ix (.v 0) (.k (.int 0)))) (.sq (.cnd (.cm .Eq (.v 3) (.k (.str (PySem.Str.ofString "all")))) (.sq (.re (.ca (PySem.Str.ofString "together") (.ac (.v 0) (.ac (.v 1) (.ac (.v 2) .an))))) .sn) .sn) (.sq (.cnd (.cm .Eq (.v 3) (.k (.str (PySem.Str.ofString "first")))) (.sq (.fo (.tt (.ac (.tn 4) (.ac (.tn 5) .an))) (.en (.ix (.v 0) (.k (.int 1)))) (.sq (.as (.tn 6) (.ca (PySem.Str.ofString "step") (.ac (.v 5) (.ac (.ix (.v 1) (.v 4)) (.ac (.v 2) .an))))) (.sq (.cnd (.cm .IsNot (.v 6) (.k .non)) (.sq (.re (.bo .Add (.bo .Add (.sl (.v 1) .no (.it (.v 4))) (.tp (.ac (.v 6) .an))) (.sl (.v 1) (.it (.bo .Add (.v 4) (.k (.int 1)))) .no))) .sn) .sn) .sn))) (.sq (.re (.k .non)) .sn)) .sn) (.sq (.cnd (.cm .Eq (.v 3) (.k (.str (PySem.Str.ofString "share")))) (.sq (.re (.ca (PySem.Str.ofString "shared") (.ac (.v 0) (.ac (.v 1) (.ac (.v 2) .an))))) .sn) .sn) (.sq (.cnd (.cm .Eq (.v 3) (.k (.str (PySem.Str.ofString "seats")))) (.sq (.re (.ca (PySem.Str.ofString "sat") (.ac (.v 0) (.ac (.v 1) (.ac (.v 2) .an))))) .sn) .sn) (.sq (.re (.ie (.cm .Eq (.v 3) (.k (.str (PySem.Str.ofString "match")))) (.ca (PySem.Str.ofString "matched") (.ac (.v 0) (.ac (.v 1) (.ac (.v 2) .an)))) (.ca (PySem.Str.ofString "counted") (.ac (.v 0) (.ac (.v 1) (.ac (.v 2) .an)))))) .sn))))))
def d_step : Df := ⟨3, 7, b_step⟩
def e_step : FDe := ⟨(PySem.Str.ofString "step"), d_step, [(PySem.Str.ofString "quota"), (PySem.Str.ofString "state"), (PySem.Str.ofString "letter"), (PySem.Str.ofString "word"), (PySem.Str.ofString "index"), (PySem.Str.ofString "part"), (PySem.Str.ofString "moved")], [(PySem.Str.ofString "quota"), (PySem.Str.ofString "state"), (PySem.Str.ofString "letter")], C8.fnArgs (top 36), C8.fnBody (top 36), C8.fnScope (top 36)⟩
/-- taken_of (37): 0 quota, 1 pool, 2 indexes, 3 state, 4 found, 5 index, 6 moved -/
def b_taken_of : IR := (.sq (.as (.tn 3) (.ca (PySem.Str.ofString "first_state") (.ac (.v 0) .an))) (.sq (.as (.tn 4) (.ls .an)) (.sq (.fo (.tn 5) (.it (.v 2)) (.sq (.as (.tn 6) (.ca (PySem.Str.ofString "step") (.ac (.v 0) (.ac (.v 3) (.ac (.ix (.v 1) (.v 5)) .an))))) (.sq (.cnd (.cm .IsNot (.v 6) (.k .non)) (.sq (.as (.tn 3) (.v 6)) (.sq (.ex (.mth .append (.v 4) (.ac (.v 5) .an))) .sn)) .sn) .sn))) (.sq (.re (.bi .tuple (.ac (.v 4) .an))) .sn))))
def d_taken_of : Df := ⟨3, 7, b_taken_of⟩
def e_taken_of : FDe := ⟨(PySem.Str.ofString "taken_of"), d_taken_of, [(PySem.Str.ofString "quota"), (PySem.Str.ofString "pool"), (PySem.Str.ofString "indexes"), (PySem.Str.ofString "state"), (PySem.Str.ofString "found"), (PySem.Str.ofString "index"), (PySem.Str.ofString "moved")], [(PySem.Str.ofString "quota"), (PySem.Str.ofString "pool"), (PySem.Str.ofString "indexes")], C8.fnArgs (top 37), C8.fnBody (top 37), C8.fnScope (top 37)⟩
/-- takes (38): 0 quota, 1 pool -/
def b_takes : IR := (.sq (.cnd (.nt (.ca (PySem.Str.ofString "is_quota") (.ac (.v 0) .an))) (.sq .ne .sn) .sn) (.sq (.cnd (.nt (.ca (PySem.Str.ofString "is_pool") (.ac (.v 1) .an))) (.sq .ne .sn) .sn) (.sq (.re (.ca (PySem.Str.ofString "taken_of") (.ac (.v 0) (.ac (.v 1) (.ac (.nb .lrg (.bi .len (.ac (.v 1) .an))) .an))))) .sn)))
def d_takes : Df := ⟨2, 2, b_takes⟩
def e_takes : FDe := ⟨(PySem.Str.ofString "takes"), d_takes, [(PySem.Str.ofString "quota"), (PySem.Str.ofString "pool")], [(PySem.Str.ofString "quota"), (PySem.Str.ofString "pool")], C8.fnArgs (top 38), C8.fnBody (top 38), C8.fnScope (top 38)⟩
/-- chosen_by (41): 0 seats, 1 pool, 2 skipped, 3 found, 4 seat, 5 best, 6 index, 7 letter -/
def b_chosen_by : IR := (.sq (.as (.tn 3) (.ls .an)) (.sq (.fo (.tn 4) (.it (.v 0)) (.sq (.as (.tn 5) (.k .non)) (.sq (.fo (.tt (.ac (.tn 6) (.ac (.tn 7) .an))) (.en (.v 1)) (.sq (.cnd (.bl true (.ac (.cm .NotEq (.v 6) (.v 2)) (.ac (.cm .NotIn (.v 6) (.v 3)) (.ac (.ca (PySem.Str.ofString "fits") (.ac (.v 7) (.ac (.v 4) .an))) .an)))) (.sq (.as (.tn 5) (.v 6)) (.sq .br .sn)) .sn) .sn)) (.sq (.ex (.mth .append (.v 3) (.ac (.v 5) .an))) .sn)))) (.sq (.re (.v 3)) .sn)))
def d_chosen_by : Df := ⟨3, 8, b_chosen_by⟩
def e_chosen_by : FDe := ⟨(PySem.Str.ofString "chosen_by"), d_chosen_by, [(PySem.Str.ofString "seats"), (PySem.Str.ofString "pool"), (PySem.Str.ofString "skipped"), (PySem.Str.ofString "found"), (PySem.Str.ofString "seat"), (PySem.Str.ofString "best"), (PySem.Str.ofString "index"), (PySem.Str.ofString "letter")], [(PySem.Str.ofString "seats"), (PySem.Str.ofString "pool"), (PySem.Str.ofString "skipped")], C8.fnArgs (top 41), C8.fnBody (top 41), C8.fnScope (top 41)⟩
/-- seat_by_seat (42): 0 seats, 1 pool -/
def b_seat_by_seat : IR := (.sq (.cnd (.nt (.ca (PySem.Str.ofString "are_seats") (.ac (.v 0) (.ac (.g (PySem.Str.ofString "MOST_ROW") (.int 40)) .an)))) (.sq .ne .sn) .sn) (.sq (.cnd (.nt (.ca (PySem.Str.ofString "is_pool") (.ac (.v 1) .an))) (.sq .ne .sn) .sn) (.sq (.re (.bi .tuple (.ac (.ca (PySem.Str.ofString "chosen_by") (.ac (.v 0) (.ac (.v 1) (.ac (.k .non) .an)))) .an))) .sn)))
def d_seat_by_seat : Df := ⟨2, 2, b_seat_by_seat⟩
def e_seat_by_seat : FDe := ⟨(PySem.Str.ofString "seat_by_seat"), d_seat_by_seat, [(PySem.Str.ofString "seats"), (PySem.Str.ofString "pool")], [(PySem.Str.ofString "seats"), (PySem.Str.ofString "pool")], C8.fnArgs (top 42), C8.fnBody (top 42), C8.fnScope (top 42)⟩
/-- moved (43): 0 seats, 1 pool, 2 out, 3 full, 4 rest, 5 seat -/
def b_moved : IR := (.sq (.as (.tn 3) (.ca (PySem.Str.ofString "seat_by_seat") (.ac (.v 0) (.ac (.v 1) .an)))) (.sq (.cnd (.bl false (.ac (.nt (.isi (.v 2) false ["int"])) (.ac (.isi (.v 2) false ["bool"]) (.ac (.nt (.ch .LtE .Lt (.k (.int 0)) (.v 2) (.bi .len (.ac (.v 1) .an)))) .an)))) (.sq .ne .sn) .sn) (.sq (.as (.tn 4) (.ca (PySem.Str.ofString "chosen_by") (.ac (.v 0) (.ac (.v 1) (.ac (.v 2) .an))))) (.sq (.re (.gx .tuple (.tp (.ac (.v 5) (.ac (.ix (.v 3) (.v 5)) (.ac (.ix (.v 4) (.v 5)) .an)))) (.tn 5) (.rg1 (.bi .len (.ac (.v 0) .an))) (.ac (.cm .NotEq (.ix (.v 3) (.v 5)) (.ix (.v 4) (.v 5))) .an) [((PySem.Str.ofString "seat"), 5)])) .sn))))
def d_moved : Df := ⟨3, 6, b_moved⟩
def e_moved : FDe := ⟨(PySem.Str.ofString "moved"), d_moved, [(PySem.Str.ofString "seats"), (PySem.Str.ofString "pool"), (PySem.Str.ofString "out"), (PySem.Str.ofString "full"), (PySem.Str.ofString "rest"), (PySem.Str.ofString "seat")], [(PySem.Str.ofString "seats"), (PySem.Str.ofString "pool"), (PySem.Str.ofString "out")], C8.fnArgs (top 43), C8.fnBody (top 43), C8.fnScope (top 43)⟩
/-- check (45): 0 seats, 1 pool -/
def b_check : IR := (.sq (.cnd (.nt (.ca (PySem.Str.ofString "are_seats") (.ac (.v 0) (.ac (.g (PySem.Str.ofString "MOST_ROW") (.int 40)) .an)))) (.sq .ne .sn) .sn) (.sq (.cnd (.nt (.ca (PySem.Str.ofString "is_pool") (.ac (.v 1) .an))) (.sq .ne .sn) .sn) .sn))
def d_check : Df := ⟨2, 2, b_check⟩
def e_check : FDe := ⟨(PySem.Str.ofString "check"), d_check, [(PySem.Str.ofString "seats"), (PySem.Str.ofString "pool")], [(PySem.Str.ofString "seats"), (PySem.Str.ofString "pool")], C8.fnArgs (top 45), C8.fnBody (top 45), C8.fnScope (top 45)⟩
/-- walked (46): 0 seats, 1 pool, 2 holder, 3 index, 4 line, 5 came, 6 at, 7 seat, 8 names -/
def b_walked : IR := (.sq (.as (.tn 4) (.ls (.ac (.v 3) .an))) (.sq (.as (.tn 5) .d0) (.sq (.as (.tn 6) (.k (.int 0))) (.sq (.wh (.cm .Lt (.v 6) (.bi .len (.ac (.v 4) .an))) (.sq (.fo (.tt (.ac (.tn 7) (.ac (.tn 8) .an))) (.en (.v 0)) (.sq (.cnd (.bl true (.ac (.cm .NotIn (.v 7) (.v 5)) (.ac (.ca (PySem.Str.ofString "fits") (.ac (.ix (.v 1) (.ix (.v 4) (.v 6))) (.ac (.v 8) .an))) .an))) (.sq (.as (.ts (.v 5) (.v 7)) (.ix (.v 4) (.v 6))) (.sq (.cnd (.cm .NotIn (.v 7) (.v 2)) (.sq (.re (.tp (.ac (.v 7) (.ac (.v 5) (.ac (.v 4) .an))))) .sn) .sn) (.sq (.ex (.mth .append (.v 4) (.ac (.ix (.v 2) (.v 7)) .an))) .sn))) .sn) .sn)) (.sq (.au 6 .Add (.k (.int 1))) .sn))) (.sq (.re (.tp (.ac (.k .non) (.ac (.v 5) (.ac (.v 4) .an))))) .sn)))))
def d_walked : Df := ⟨4, 9, b_walked⟩
def e_walked : FDe := ⟨(PySem.Str.ofString "walked"), d_walked, [(PySem.Str.ofString "seats"), (PySem.Str.ofString "pool"), (PySem.Str.ofString "holder"), (PySem.Str.ofString "index"), (PySem.Str.ofString "line"), (PySem.Str.ofString "came"), (PySem.Str.ofString "at"), (PySem.Str.ofString "seat"), (PySem.Str.ofString "names")], [(PySem.Str.ofString "seats"), (PySem.Str.ofString "pool"), (PySem.Str.ofString "holder"), (PySem.Str.ofString "index")], C8.fnArgs (top 46), C8.fnBody (top 46), C8.fnScope (top 46)⟩
/-- shifted (47): 0 holder, 1 places, 2 came, 3 seat, 4 index, 5 before -/
def b_shifted : IR := (.sq (.wh (.cm .IsNot (.v 3) (.k .non)) (.sq (.as (.tn 4) (.ix (.v 2) (.v 3))) (.sq (.as (.tn 5) (.mth .get (.v 1) (.ac (.v 4) .an))) (.sq (.as (.ts (.v 0) (.v 3)) (.v 4)) (.sq (.as (.ts (.v 1) (.v 4)) (.v 3)) (.sq (.as (.tn 3) (.v 5)) .sn)))))) .sn)
def d_shifted : Df := ⟨4, 6, b_shifted⟩
def e_shifted : FDe := ⟨(PySem.Str.ofString "shifted"), d_shifted, [(PySem.Str.ofString "holder"), (PySem.Str.ofString "places"), (PySem.Str.ofString "came"), (PySem.Str.ofString "seat"), (PySem.Str.ofString "index"), (PySem.Str.ofString "before")], [(PySem.Str.ofString "holder"), (PySem.Str.ofString "places"), (PySem.Str.ofString "came"), (PySem.Str.ofString "seat")], C8.fnArgs (top 47), C8.fnBody (top 47), C8.fnScope (top 47)⟩
/-- seated (48): 0 seats, 1 pool, 2 holder, 3 places, 4 index, 5 free, 6 came, 7 line -/
def b_seated : IR := (.sq (.ex (.ca (PySem.Str.ofString "check") (.ac (.v 0) (.ac (.v 1) .an)))) (.sq (.as (.tn 2) .d0) (.sq (.as (.tn 3) .d0) (.sq (.fo (.tn 4) (.rg1 (.bi .len (.ac (.v 1) .an))) (.sq (.as (.tt (.ac (.tn 5) (.ac (.tn 6) (.ac (.tn 7) .an)))) (.ca (PySem.Str.ofString "walked") (.ac (.v 0) (.ac (.v 1) (.ac (.v 2) (.ac (.v 4) .an)))))) (.sq (.cnd (.cm .Is (.v 5) (.k .non)) (.sq (.re (.tp (.ac (.k (.str (PySem.Str.ofString "short"))) (.ac (.bi .tuple (.ac (.bi .sorted (.ac (.v 7) .an)) .an)) .an)))) .sn) .sn) (.sq (.ex (.ca (PySem.Str.ofString "shifted") (.ac (.v 2) (.ac (.v 3) (.ac (.v 6) (.ac (.v 5) .an)))))) .sn)))) (.sq (.re (.tp (.ac (.k (.str (PySem.Str.ofString "seated"))) (.ac (.gx .tuple (.ix (.v 3) (.v 4)) (.tn 4) (.rg1 (.bi .len (.ac (.v 1) .an))) .an [((PySem.Str.ofString "index"), 4)]) .an)))) .sn)))))
def d_seated : Df := ⟨2, 8, b_seated⟩
def e_seated : FDe := ⟨(PySem.Str.ofString "seated"), d_seated, [(PySem.Str.ofString "seats"), (PySem.Str.ofString "pool"), (PySem.Str.ofString "holder"), (PySem.Str.ofString "places"), (PySem.Str.ofString "index"), (PySem.Str.ofString "free"), (PySem.Str.ofString "came"), (PySem.Str.ofString "line")], [(PySem.Str.ofString "seats"), (PySem.Str.ofString "pool")], C8.fnArgs (top 48), C8.fnBody (top 48), C8.fnScope (top 48)⟩
/-- is_seating (49): 0 seats, 1 pool, 2 thing, 3 letter, 4 seat -/
def b_is_seating : IR := (.sq (.ex (.ca (PySem.Str.ofString "check") (.ac (.v 0) (.ac (.v 1) .an)))) (.sq (.cnd (.bl false (.ac (.nt (.isi (.v 2) false ["tuple"])) (.ac (.cm .NotEq (.bi .len (.ac (.v 2) .an)) (.bi .len (.ac (.v 1) .an))) .an))) (.sq (.re (.k (.bl false))) .sn) .sn) (.sq (.cnd (.bl false (.ac (.nt (.gx .all (.ca (PySem.Str.ofString "is_count") (.ac (.v 4) (.ac (.k (.int 0)) (.ac (.bo .Sub (.bi .len (.ac (.v 0) .an)) (.k (.int 1))) .an)))) (.tn 4) (.it (.v 2)) .an [((PySem.Str.ofString "seat"), 4)])) (.ac (.cm .NotEq (.nb .lenset (.v 2)) (.bi .len (.ac (.v 2) .an))) .an))) (.sq (.re (.k (.bl false))) .sn) .sn) (.sq (.re (.gx .all (.ca (PySem.Str.ofString "fits") (.ac (.v 3) (.ac (.ix (.v 0) (.v 4)) .an))) (.tt (.ac (.tn 3) (.ac (.tn 4) .an))) (.zp (.v 1) (.v 2)) .an [((PySem.Str.ofString "letter"), 3), ((PySem.Str.ofString "seat"), 4)])) .sn))))
def d_is_seating : Df := ⟨3, 5, b_is_seating⟩
def e_is_seating : FDe := ⟨(PySem.Str.ofString "is_seating"), d_is_seating, [(PySem.Str.ofString "seats"), (PySem.Str.ofString "pool"), (PySem.Str.ofString "thing"), (PySem.Str.ofString "letter"), (PySem.Str.ofString "seat")], [(PySem.Str.ofString "seats"), (PySem.Str.ofString "pool"), (PySem.Str.ofString "thing")], C8.fnArgs (top 49), C8.fnBody (top 49), C8.fnScope (top 49)⟩
/-- is_lot (50): 0 thing, 1 many, 2 at, 3 index -/
def b_is_lot : IR := (.sq (.cnd (.bl false (.ac (.nt (.isi (.v 0) false ["tuple"])) (.ac (.nt (.gx .all (.ca (PySem.Str.ofString "is_count") (.ac (.v 3) (.ac (.k (.int 0)) (.ac (.bo .Sub (.v 1) (.k (.int 1))) .an)))) (.tn 3) (.it (.v 0)) .an [((PySem.Str.ofString "index"), 3)])) .an))) (.sq (.re (.k (.bl false))) .sn) .sn) (.sq (.re (.gx .all (.cm .Lt (.ix (.v 0) (.bo .Sub (.v 2) (.k (.int 1)))) (.ix (.v 0) (.v 2))) (.tn 2) (.rg2 (.k (.int 1)) (.bi .len (.ac (.v 0) .an))) .an [((PySem.Str.ofString "at"), 2)])) .sn))
def d_is_lot : Df := ⟨2, 4, b_is_lot⟩
def e_is_lot : FDe := ⟨(PySem.Str.ofString "is_lot"), d_is_lot, [(PySem.Str.ofString "thing"), (PySem.Str.ofString "many"), (PySem.Str.ofString "at"), (PySem.Str.ofString "index")], [(PySem.Str.ofString "thing"), (PySem.Str.ofString "many")], C8.fnArgs (top 50), C8.fnBody (top 50), C8.fnScope (top 50)⟩
/-- fitted (51): 0 seats, 1 pool, 2 lot, 3 seat, 4 index -/
def b_fitted : IR := (.sq (.re (.gx .sum (.k (.int 1)) (.tn 3) (.it (.v 0)) (.ac (.gx .any (.ca (PySem.Str.ofString "fits") (.ac (.ix (.v 1) (.v 4)) (.ac (.v 3) .an))) (.tn 4) (.it (.v 2)) .an [((PySem.Str.ofString "index"), 4)]) .an) [((PySem.Str.ofString "seat"), 3)])) .sn)
def d_fitted : Df := ⟨3, 5, b_fitted⟩
def e_fitted : FDe := ⟨(PySem.Str.ofString "fitted"), d_fitted, [(PySem.Str.ofString "seats"), (PySem.Str.ofString "pool"), (PySem.Str.ofString "lot"), (PySem.Str.ofString "seat"), (PySem.Str.ofString "index")], [(PySem.Str.ofString "seats"), (PySem.Str.ofString "pool"), (PySem.Str.ofString "lot")], C8.fnArgs (top 51), C8.fnBody (top 51), C8.fnScope (top 51)⟩
/-- is_short (52): 0 seats, 1 pool, 2 thing -/
def b_is_short : IR := (.sq (.ex (.ca (PySem.Str.ofString "check") (.ac (.v 0) (.ac (.v 1) .an)))) (.sq (.re (.bl true (.ac (.ca (PySem.Str.ofString "is_lot") (.ac (.v 2) (.ac (.bi .len (.ac (.v 1) .an)) .an))) (.ac (.cm .Lt (.ca (PySem.Str.ofString "fitted") (.ac (.v 0) (.ac (.v 1) (.ac (.v 2) .an)))) (.bi .len (.ac (.v 2) .an))) .an)))) .sn))
def d_is_short : Df := ⟨3, 3, b_is_short⟩
def e_is_short : FDe := ⟨(PySem.Str.ofString "is_short"), d_is_short, [(PySem.Str.ofString "seats"), (PySem.Str.ofString "pool"), (PySem.Str.ofString "thing")], [(PySem.Str.ofString "seats"), (PySem.Str.ofString "pool"), (PySem.Str.ofString "thing")], C8.fnArgs (top 52), C8.fnBody (top 52), C8.fnScope (top 52)⟩
/-- seat_all (54): 0 seats, 1 pool, 2 holder, 3 places, 4 lots, 5 index, 6 free, 7 came, 8 line -/
def b_seat_all : IR := (.sq (.as (.tn 2) .d0) (.sq (.as (.tn 3) .d0) (.sq (.as (.tn 4) .d0) (.sq (.fo (.tn 5) (.rg1 (.bi .len (.ac (.v 1) .an))) (.sq (.as (.tt (.ac (.tn 6) (.ac (.tn 7) (.ac (.tn 8) .an)))) (.ca (PySem.Str.ofString "walked") (.ac (.v 0) (.ac (.v 1) (.ac (.v 2) (.ac (.v 5) .an)))))) (.sq (.cnd (.cm .Is (.v 6) (.k .non)) (.sq (.as (.ts (.v 4) (.v 5)) (.bi .tuple (.ac (.bi .sorted (.ac (.sl (.v 8) (.it (.k (.int 1))) .no) .an)) .an))) .sn) (.sq (.ex (.ca (PySem.Str.ofString "shifted") (.ac (.v 2) (.ac (.v 3) (.ac (.v 7) (.ac (.v 6) .an)))))) .sn)) .sn))) (.sq (.re (.tp (.ac (.v 3) (.ac (.v 4) .an)))) .sn)))))
def d_seat_all : Df := ⟨2, 9, b_seat_all⟩
def e_seat_all : FDe := ⟨(PySem.Str.ofString "seat_all"), d_seat_all, [(PySem.Str.ofString "seats"), (PySem.Str.ofString "pool"), (PySem.Str.ofString "holder"), (PySem.Str.ofString "places"), (PySem.Str.ofString "lots"), (PySem.Str.ofString "index"), (PySem.Str.ofString "free"), (PySem.Str.ofString "came"), (PySem.Str.ofString "line")], [(PySem.Str.ofString "seats"), (PySem.Str.ofString "pool")], C8.fnArgs (top 54), C8.fnBody (top 54), C8.fnScope (top 54)⟩
/-- best_lot (55): 0 seats, 1 pool -/
def b_best_lot : IR := (.sq (.ex (.ca (PySem.Str.ofString "check") (.ac (.v 0) (.ac (.v 1) .an)))) (.sq (.re (.bi .tuple (.ac (.bi .sorted (.ac (.ix (.ca (PySem.Str.ofString "seat_all") (.ac (.v 0) (.ac (.v 1) .an))) (.k (.int 0))) .an)) .an))) .sn))
def d_best_lot : Df := ⟨2, 2, b_best_lot⟩
def e_best_lot : FDe := ⟨(PySem.Str.ofString "best_lot"), d_best_lot, [(PySem.Str.ofString "seats"), (PySem.Str.ofString "pool")], [(PySem.Str.ofString "seats"), (PySem.Str.ofString "pool")], C8.fnArgs (top 55), C8.fnBody (top 55), C8.fnScope (top 55)⟩
/-- best_paper (56): 0 seats, 1 pool, 2 seating, 3 places, 4 lots, 5 index -/
def b_best_paper : IR := (.sq (.ex (.ca (PySem.Str.ofString "check") (.ac (.v 0) (.ac (.v 1) .an)))) (.sq (.as (.tt (.ac (.tn 3) (.ac (.tn 4) .an))) (.ca (PySem.Str.ofString "seat_all") (.ac (.v 0) (.ac (.v 1) .an)))) (.sq (.as (.tn 2) (.gx .tuple (.tp (.ac (.v 5) (.ac (.ix (.v 3) (.v 5)) .an))) (.tn 5) (.it (.bi .sorted (.ac (.v 3) .an))) .an [((PySem.Str.ofString "index"), 5)])) (.sq (.re (.tp (.ac (.k (.str (PySem.Str.ofString "best"))) (.ac (.v 2) (.ac (.gx .tuple (.tp (.ac (.v 5) (.ac (.ix (.v 4) (.v 5)) .an))) (.tn 5) (.it (.bi .sorted (.ac (.v 4) .an))) .an [((PySem.Str.ofString "index"), 5)]) .an))))) .sn))))
def d_best_paper : Df := ⟨2, 6, b_best_paper⟩
def e_best_paper : FDe := ⟨(PySem.Str.ofString "best_paper"), d_best_paper, [(PySem.Str.ofString "seats"), (PySem.Str.ofString "pool"), (PySem.Str.ofString "seating"), (PySem.Str.ofString "places"), (PySem.Str.ofString "lots"), (PySem.Str.ofString "index")], [(PySem.Str.ofString "seats"), (PySem.Str.ofString "pool")], C8.fnArgs (top 56), C8.fnBody (top 56), C8.fnScope (top 56)⟩
/-- are_pairs (57): 0 thing, 1 pair -/
def b_are_pairs : IR := (.sq (.re (.bl true (.ac (.isi (.v 0) false ["tuple"]) (.ac (.gx .all (.bl true (.ac (.isi (.v 1) false ["tuple"]) (.ac (.cm .Eq (.bi .len (.ac (.v 1) .an)) (.k (.int 2))) .an))) (.tn 1) (.it (.v 0)) .an [((PySem.Str.ofString "pair"), 1)]) .an)))) .sn)
def d_are_pairs : Df := ⟨1, 2, b_are_pairs⟩
def e_are_pairs : FDe := ⟨(PySem.Str.ofString "are_pairs"), d_are_pairs, [(PySem.Str.ofString "thing"), (PySem.Str.ofString "pair")], [(PySem.Str.ofString "thing")], C8.fnArgs (top 57), C8.fnBody (top 57), C8.fnScope (top 57)⟩
/-- is_seating_part (58): 0 seats, 1 pool, 2 seating, 3 pair, 4 index, 5 seat -/
def b_is_seating_part : IR := (.sq (.cnd (.nt (.ca (PySem.Str.ofString "is_lot") (.ac (.gx .tuple (.ix (.v 3) (.k (.int 0))) (.tn 3) (.it (.v 2)) .an [((PySem.Str.ofString "pair"), 3)]) (.ac (.bi .len (.ac (.v 1) .an)) .an)))) (.sq (.re (.k (.bl false))) .sn) .sn) (.sq (.cnd (.nt (.gx .all (.ca (PySem.Str.ofString "is_count") (.ac (.ix (.v 3) (.k (.int 1))) (.ac (.k (.int 0)) (.ac (.bo .Sub (.bi .len (.ac (.v 0) .an)) (.k (.int 1))) .an)))) (.tn 3) (.it (.v 2)) .an [((PySem.Str.ofString "pair"), 3)])) (.sq (.re (.k (.bl false))) .sn) .sn) (.sq (.cnd (.cm .NotEq (.lsc (.ix (.v 3) (.k (.int 1))) (.tn 3) (.it (.v 2)) .an [((PySem.Str.ofString "pair"), 3)]) (.bi .len (.ac (.v 2) .an))) (.sq (.re (.k (.bl false))) .sn) .sn) (.sq (.re (.gx .all (.ca (PySem.Str.ofString "fits") (.ac (.ix (.v 1) (.v 4)) (.ac (.ix (.v 0) (.v 5)) .an))) (.tt (.ac (.tn 4) (.ac (.tn 5) .an))) (.it (.v 2)) .an [((PySem.Str.ofString "index"), 4), ((PySem.Str.ofString "seat"), 5)])) .sn))))
def d_is_seating_part : Df := ⟨3, 6, b_is_seating_part⟩
def e_is_seating_part : FDe := ⟨(PySem.Str.ofString "is_seating_part"), d_is_seating_part, [(PySem.Str.ofString "seats"), (PySem.Str.ofString "pool"), (PySem.Str.ofString "seating"), (PySem.Str.ofString "pair"), (PySem.Str.ofString "index"), (PySem.Str.ofString "seat")], [(PySem.Str.ofString "seats"), (PySem.Str.ofString "pool"), (PySem.Str.ofString "seating")], C8.fnArgs (top 58), C8.fnBody (top 58), C8.fnScope (top 58)⟩
/-- is_refusal (59): 0 seats, 1 pool, 2 accepted, 3 pair, 4 index, 5 lot, 6 other -/
def b_is_refusal : IR := (.sq (.as (.tt (.ac (.tn 4) (.ac (.tn 5) .an))) (.v 3)) (.sq (.cnd (.bl false (.ac (.nt (.ca (PySem.Str.ofString "is_lot") (.ac (.v 5) (.ac (.v 4) .an)))) (.ac (.nt (.gx .all (.cm .In (.v 6) (.v 2)) (.tn 6) (.it (.v 5)) .an [((PySem.Str.ofString "other"), 6)])) .an))) (.sq (.re (.k (.bl false))) .sn) .sn) (.sq (.re (.cm .Eq (.ca (PySem.Str.ofString "fitted") (.ac (.v 0) (.ac (.v 1) (.ac (.bo .Add (.v 5) (.tp (.ac (.v 4) .an))) .an)))) (.bi .len (.ac (.v 5) .an)))) .sn)))
def d_is_refusal : Df := ⟨4, 7, b_is_refusal⟩
def e_is_refusal : FDe := ⟨(PySem.Str.ofString "is_refusal"), d_is_refusal, [(PySem.Str.ofString "seats"), (PySem.Str.ofString "pool"), (PySem.Str.ofString "accepted"), (PySem.Str.ofString "pair"), (PySem.Str.ofString "index"), (PySem.Str.ofString "lot"), (PySem.Str.ofString "other")], [(PySem.Str.ofString "seats"), (PySem.Str.ofString "pool"), (PySem.Str.ofString "accepted"), (PySem.Str.ofString "pair")], C8.fnArgs (top 59), C8.fnBody (top 59), C8.fnScope (top 59)⟩
/-- is_best_paper (60): 0 seats, 1 pool, 2 thing, 3 accepted, 4 refused, 5 seating, 6 refusals, 7 pair, 8 index -/
def b_is_best_paper : IR := (.sq (.ex (.ca (PySem.Str.ofString "check") (.ac (.v 0) (.ac (.v 1) .an)))) (.sq (.cnd (.bl false (.ac (.nt (.isi (.v 2) false ["tuple"])) (.ac (.cm .NotEq (.bi .len (.ac (.v 2) .an)) (.k (.int 3))) (.ac (.nt (.isi (.ix (.v 2) (.k (.int 0))) false ["str"])) (.ac (.cm .NotEq (.ix (.v 2) (.k (.int 0))) (.k (.str (PySem.Str.ofString "best")))) .an))))) (.sq (.re (.k (.bl false))) .sn) .sn) (.sq (.pr2 5 6 (.ix (.v 2) (.k (.int 1))) (.ix (.v 2) (.k (.int 2)))) (.sq (.cnd (.bl false (.ac (.nt (.ca (PySem.Str.ofString "are_pairs") (.ac (.v 5) .an))) (.ac (.nt (.ca (PySem.Str.ofString "are_pairs") (.ac (.v 6) .an))) (.ac (.nt (.ca (PySem.Str.ofString "is_seating_part") (.ac (.v 0) (.ac (.v 1) (.ac (.v 5) .an))))) .an)))) (.sq (.re (.k (.bl false))) .sn) .sn) (.sq (.as (.tn 3) (.lc (.ix (.v 7) (.k (.int 0))) (.tn 7) (.it (.v 5)) .an [((PySem.Str.ofString "pair"), 7)])) (.sq (.asl 4 (.v 8) (.tn 8) (.ac (.cm .NotIn (.v 8) (.v 3)) .an) (.rg1 (.bi .len (.ac (.v 1) .an))) [((PySem.Str.ofString "index"), 8)]) (.sq (.cnd (.bl false (.ac (.nt (.ca (PySem.Str.ofString "is_lot") (.ac (.gx .tuple (.ix (.v 7) (.k (.int 0))) (.tn 7) (.it (.v 6)) .an [((PySem.Str.ofString "pair"), 7)]) (.ac (.bi .len (.ac (.v 1) .an)) .an)))) (.ac (.cm .NotEq (.lc (.ix (.v 7) (.k (.int 0))) (.tn 7) (.it (.v 6)) .an [((PySem.Str.ofString "pair"), 7)]) (.v 4)) .an))) (.sq (.re (.k (.bl false))) .sn) .sn) (.sq (.re (.gx .all (.ca (PySem.Str.ofString "is_refusal") (.ac (.v 0) (.ac (.v 1) (.ac (.v 3) (.ac (.v 7) .an))))) (.tn 7) (.it (.v 6)) .an [((PySem.Str.ofString "pair"), 7)])) .sn))))))))
def d_is_best_paper : Df := ⟨3, 9, b_is_best_paper⟩
def e_is_best_paper : FDe := ⟨(PySem.Str.ofString "is_best_paper"), d_is_best_paper, [(PySem.Str.ofString "seats"), (PySem.Str.ofString "pool"), (PySem.Str.ofString "thing"), (PySem.Str.ofString "accepted"), (PySem.Str.ofString "refused"), (PySem.Str.ofString "seating"), (PySem.Str.ofString "refusals"), (PySem.Str.ofString "pair"), (PySem.Str.ofString "index")], [(PySem.Str.ofString "seats"), (PySem.Str.ofString "pool"), (PySem.Str.ofString "thing")], C8.fnArgs (top 60), C8.fnBody (top 60), C8.fnScope (top 60)⟩
/-- _law_begun (62): 0 script, 1 wide, 2 grain -/
def b__law_begun : IR := (.sq (.asl 1 (.bo .Sub (.bi .abs (.ac (.v 2) .an)) (.bo .Pow (.k (.int 10)) (.k (.int 18)))) (.tn 2) (.ac (.cm .GtE (.bi .abs (.ac (.v 2) .an)) (.bo .Pow (.k (.int 10)) (.k (.int 18)))) .an) (.it (.v 0)) [((PySem.Str.ofString "grain"), 2)]) (.sq (.re (.dk [(PySem.Str.ofString "wide"), (PySem.Str.ofString "cells"), (PySem.Str.ofString "rest"), (PySem.Str.ofString "turn")] (.ac (.v 1) (.ac (.lc (.bo .Mod (.bi .int (.ac (.bi .abs (.ac (.v 2) .an)) .an)) (.k (.int 2147483629))) (.tn 2) (.it (.v 0)) .an [((PySem.Str.ofString "grain"), 2)]) (.ac (.k (.int 0)) (.ac (.k (.int 0)) .an)))))) .sn))
def d__law_begun : Df := ⟨1, 3, b__law_begun⟩
def e__law_begun : FDe := ⟨(PySem.Str.ofString "_law_begun"), d__law_begun, [(PySem.Str.ofString "script"), (PySem.Str.ofString "wide"), (PySem.Str.ofString "grain")], [(PySem.Str.ofString "script")], C8.fnArgs (top 62), C8.fnBody (top 62), C8.fnScope (top 62)⟩
/-- _law_mixed (63): 0 draw, 1 prime, 2 turn, 3 found, 4 blend, 5 grain -/
def b__law_mixed : IR := (.sq (.pr2 2 3 (.bo .Add (.ix (.v 0) (.k (.str (PySem.Str.ofString "turn")))) (.k (.int 1))) (.k (.int 0))) (.sq (.as (.ts (.v 0) (.k (.str (PySem.Str.ofString "turn")))) (.v 2)) (.sq (.fo (.tn 1) (.it (.ls (.ac (.k (.int 2147483647)) (.ac (.k (.int 2147483629)) (.ac (.k (.int 2147483587)) (.ac (.k (.int 2147483579)) .an)))))) (.sq (.as (.tn 4) (.bo .Add (.bo .Mult (.k (.int 48271)) (.v 2)) (.bo .FloorDiv (.v 1) (.k (.int 37))))) (.sq (.fo (.tn 5) (.it (.ix (.v 0) (.k (.str (PySem.Str.ofString "cells"))))) (.sq (.as (.tn 4) (.bo .Mod (.bi .int (.ac (.bo .Add (.bo .Add (.bo .Mult (.v 4) (.k (.int 69621))) (.v 5)) (.v 2)) .an)) (.v 1))) .sn)) (.sq (.as (.tn 3) (.bo .Add (.bo .Mult (.v 3) (.k (.int 2147483647))) (.bo .Mod (.bi .int (.ac (.bo .Pow (.v 4) (.k (.int 5))) .an)) (.v 1)))) .sn)))) (.sq (.re (.v 3)) .sn))))
def d__law_mixed : Df := ⟨1, 6, b__law_mixed⟩
def e__law_mixed : FDe := ⟨(PySem.Str.ofString "_law_mixed"), d__law_mixed, [(PySem.Str.ofString "draw"), (PySem.Str.ofString "prime"), (PySem.Str.ofString "turn"), (PySem.Str.ofString "found"), (PySem.Str.ofString "blend"), (PySem.Str.ofString "grain")], [(PySem.Str.ofString "draw")], C8.fnArgs (top 63), C8.fnBody (top 63), C8.fnScope (top 63)⟩
/-- _law_take (64): 0 draw, 1 many, 2 found -/
def b__law_take : IR := (.sq (.cnd (.cm .Eq (.ix (.v 0) (.k (.str (PySem.Str.ofString "rest")))) (.k (.int 0))) (.sq (.as (.ts (.v 0) (.k (.str (PySem.Str.ofString "rest")))) (.ie (.cm .NotEq (.ix (.v 0) (.k (.str (PySem.Str.ofString "wide")))) (.ls .an)) (.mth .pop (.ix (.v 0) (.k (.str (PySem.Str.ofString "wide")))) (.ac (.k (.int 0)) .an)) (.ca (PySem.Str.ofString "_law_mixed") (.ac (.v 0) .an)))) .sn) .sn) (.sq (.as (.tn 2) (.bo .Mod (.bi .int (.ac (.ix (.v 0) (.k (.str (PySem.Str.ofString "rest")))) .an)) (.v 1))) (.sq (.as (.ts (.v 0) (.k (.str (PySem.Str.ofString "rest")))) (.bo .FloorDiv (.ix (.v 0) (.k (.str (PySem.Str.ofString "rest")))) (.v 1))) (.sq (.re (.v 2)) .sn))))
def d__law_take : Df := ⟨2, 3, b__law_take⟩
def e__law_take : FDe := ⟨(PySem.Str.ofString "_law_take"), d__law_take, [(PySem.Str.ofString "draw"), (PySem.Str.ofString "many"), (PySem.Str.ofString "found")], [(PySem.Str.ofString "draw"), (PySem.Str.ofString "many")], C8.fnArgs (top 64), C8.fnBody (top 64), C8.fnScope (top 64)⟩
/-- _law_pick (65): 0 draw, 1 some -/
def b__law_pick : IR := (.sq (.re (.ix (.v 1) (.ca (PySem.Str.ofString "_law_take") (.ac (.v 0) (.ac (.bi .len (.ac (.v 1) .an)) .an))))) .sn)
def d__law_pick : Df := ⟨2, 2, b__law_pick⟩
def e__law_pick : FDe := ⟨(PySem.Str.ofString "_law_pick"), d__law_pick, [(PySem.Str.ofString "draw"), (PySem.Str.ofString "some")], [(PySem.Str.ofString "draw"), (PySem.Str.ofString "some")], C8.fnArgs (top 65), C8.fnBody (top 65), C8.fnScope (top 65)⟩
/-- _law_shuffled (66): 0 draw, 1 some, 2 left, 3 found -/
def b__law_shuffled : IR := (.sq (.pr2 2 3 (.bi .list (.ac (.v 1) .an)) (.ls .an)) (.sq (.wh (.cm .NotEq (.v 2) (.ls .an)) (.sq (.ex (.mth .append (.v 3) (.ac (.mth .pop (.v 2) (.ac (.ca (PySem.Str.ofString "_law_take") (.ac (.v 0) (.ac (.bi .len (.ac (.v 2) .an)) .an))) .an)) .an))) .sn)) (.sq (.re (.v 3)) .sn)))
def d__law_shuffled : Df := ⟨2, 4, b__law_shuffled⟩
def e__law_shuffled : FDe := ⟨(PySem.Str.ofString "_law_shuffled"), d__law_shuffled, [(PySem.Str.ofString "draw"), (PySem.Str.ofString "some"), (PySem.Str.ofString "left"), (PySem.Str.ofString "found")], [(PySem.Str.ofString "draw"), (PySem.Str.ofString "some")], C8.fnArgs (top 66), C8.fnBody (top 66), C8.fnScope (top 66)⟩
/-- _law_drawn (67): 0 draw, 1 seats, 2 pool, 3 names, 4 sets, 5 lap -/
def b__law_drawn : IR := (.sq (.as (.tt (.ac (.tn 3) (.ac (.tn 4) .an))) (.tp (.ac (.ls (.ac (.k (.str (PySem.Str.ofString "ab"))) (.ac (.k (.str (PySem.Str.ofString "cc"))) (.ac (.k (.str (PySem.Str.ofString "eh"))) .an)))) (.ac (.ls .an) .an)))) (.sq (.as (.tn 1) (.bi .tuple (.ac (.lc (.bi .tuple (.ac (.bi .sorted (.ac (.sl (.ca (PySem.Str.ofString "_law_shuffled") (.ac (.v 0) (.ac (.v 3) .an))) .no (.it (.ca (PySem.Str.ofString "_law_pick") (.ac (.v 0) (.ac (.ls (.ac (.k (.int 0)) (.ac (.k (.int 1)) (.ac (.k (.int 1)) (.ac (.k (.int 2)) (.ac (.k (.int 2)) (.ac (.k (.int 3)) .an))))))) .an))))) .an)) .an)) (.tn 5) (.rg1 (.ca (PySem.Str.ofString "_law_take") (.ac (.v 0) (.ac (.k (.int 7)) .an)))) .an [((PySem.Str.ofString "lap"), 5)]) .an))) (.sq (.as (.tn 2) (.bi .tuple (.ac (.lc (.bi .tuple (.ac (.bi .sorted (.ac (.sl (.ca (PySem.Str.ofString "_law_shuffled") (.ac (.v 0) (.ac (.v 3) .an))) .no (.it (.ca (PySem.Str.ofString "_law_pick") (.ac (.v 0) (.ac (.ls (.ac (.k (.int 0)) (.ac (.k (.int 1)) (.ac (.k (.int 1)) (.ac (.k (.int 2)) (.ac (.k (.int 3)) .an)))))) .an))))) .an)) .an)) (.tn 5) (.rg1 (.ca (PySem.Str.ofString "_law_take") (.ac (.v 0) (.ac (.k (.int 8)) .an)))) .an [((PySem.Str.ofString "lap"), 5)]) .an))) (.sq (.re (.tp (.ac (.v 1) (.ac (.v 2) .an)))) .sn))))
def d__law_drawn : Df := ⟨1, 6, b__law_drawn⟩
def e__law_drawn : FDe := ⟨(PySem.Str.ofString "_law_drawn"), d__law_drawn, [(PySem.Str.ofString "draw"), (PySem.Str.ofString "seats"), (PySem.Str.ofString "pool"), (PySem.Str.ofString "names"), (PySem.Str.ofString "sets"), (PySem.Str.ofString "lap")], [(PySem.Str.ofString "draw")], C8.fnArgs (top 67), C8.fnBody (top 67), C8.fnScope (top 67)⟩
/-- _law_fits (68): 0 letter, 1 seat, 2 name -/
def b__law_fits : IR := (.sq (.re (.bl false (.ac (.cm .Eq (.v 1) (.tp .an)) (.ac (.cm .NotEq (.lc (.v 2) (.tn 2) (.it (.v 1)) (.ac (.cm .In (.v 2) (.v 0)) .an) [((PySem.Str.ofString "name"), 2)]) (.ls .an)) .an)))) .sn)
def d__law_fits : Df := ⟨2, 3, b__law_fits⟩
def e__law_fits : FDe := ⟨(PySem.Str.ofString "_law_fits"), d__law_fits, [(PySem.Str.ofString "letter"), (PySem.Str.ofString "seat"), (PySem.Str.ofString "name")], [(PySem.Str.ofString "letter"), (PySem.Str.ofString "seat")], C8.fnArgs (top 68), C8.fnBody (top 68), C8.fnScope (top 68)⟩
/-- _law_one_by_one (69): 0 seats, 1 pool, 2 found, 3 seat, 4 left, 5 k, 6 letter -/
def b__law_one_by_one : IR := (.sq (.as (.tn 2) (.ls .an)) (.sq (.fo (.tn 3) (.it (.v 0)) (.sq (.asl 4 (.v 5) (.tt (.ac (.tn 5) (.ac (.tn 6) .an))) (.ac (.bl true (.ac (.ca (PySem.Str.ofString "_law_fits") (.ac (.v 6) (.ac (.v 3) .an))) (.ac (.cm .NotIn (.v 5) (.v 2)) .an))) .an) (.en (.v 1)) [((PySem.Str.ofString "k"), 5), ((PySem.Str.ofString "letter"), 6)]) (.sq (.ex (.mth .append (.v 2) (.ac (.ie (.cm .NotEq (.v 4) (.ls .an)) (.ix (.v 4) (.k (.int 0))) (.k .non)) .an))) .sn))) (.sq (.re (.bi .tuple (.ac (.v 2) .an))) .sn)))
def d__law_one_by_one : Df := ⟨2, 7, b__law_one_by_one⟩
def e__law_one_by_one : FDe := ⟨(PySem.Str.ofString "_law_one_by_one"), d__law_one_by_one, [(PySem.Str.ofString "seats"), (PySem.Str.ofString "pool"), (PySem.Str.ofString "found"), (PySem.Str.ofString "seat"), (PySem.Str.ofString "left"), (PySem.Str.ofString "k"), (PySem.Str.ofString "letter")], [(PySem.Str.ofString "seats"), (PySem.Str.ofString "pool")], C8.fnArgs (top 69), C8.fnBody (top 69), C8.fnScope (top 69)⟩
/-- _law_seated (70): 0 seats, 1 letters, 2 lots, 3 letter, 4 later, 5 lot, 6 k, 7 seat -/
def b__law_seated : IR := (.sq (.as (.tn 2) (.ls (.ac (.tp .an) .an))) (.sq (.fo (.tn 3) (.it (.v 1)) (.sq (.as (.tn 4) (.ls .an)) (.sq (.fo (.tn 5) (.it (.v 2)) (.sq (.as (.tn 4) (.bo .Add (.v 4) (.lc (.bi .tuple (.ac (.bi .sorted (.ac (.bo .Add (.v 5) (.tp (.ac (.v 6) .an))) .an)) .an)) (.tt (.ac (.tn 6) (.ac (.tn 7) .an))) (.en (.v 0)) (.ac (.bl true (.ac (.cm .NotIn (.v 6) (.v 5)) (.ac (.ca (PySem.Str.ofString "_law_fits") (.ac (.v 3) (.ac (.v 7) .an))) .an))) .an) [((PySem.Str.ofString "k"), 6), ((PySem.Str.ofString "seat"), 7)]))) .sn)) (.sq (.as (.tn 2) (.bi .sorted (.ac (.bi .set (.ac (.v 4) .an)) .an))) .sn)))) (.sq (.re (.cm .NotEq (.v 2) (.ls .an))) .sn)))
def d__law_seated : Df := ⟨2, 8, b__law_seated⟩
def e__law_seated : FDe := ⟨(PySem.Str.ofString "_law_seated"), d__law_seated, [(PySem.Str.ofString "seats"), (PySem.Str.ofString "letters"), (PySem.Str.ofString "lots"), (PySem.Str.ofString "letter"), (PySem.Str.ofString "later"), (PySem.Str.ofString "lot"), (PySem.Str.ofString "k"), (PySem.Str.ofString "seat")], [(PySem.Str.ofString "seats"), (PySem.Str.ofString "letters")], C8.fnArgs (top 70), C8.fnBody (top 70), C8.fnScope (top 70)⟩
/-- _law_best (71): 0 seats, 1 pool, 2 found, 3 k, 4 at -/
def b__law_best : IR := (.sq (.as (.tn 2) (.ls .an)) (.sq (.fo (.tn 3) (.rg1 (.bi .len (.ac (.v 1) .an))) (.sq (.cnd (.ca (PySem.Str.ofString "_law_seated") (.ac (.v 0) (.ac (.lc (.ix (.v 1) (.v 4)) (.tn 4) (.it (.bo .Add (.v 2) (.ls (.ac (.v 3) .an)))) .an [((PySem.Str.ofString "at"), 4)]) .an))) (.sq (.ex (.mth .append (.v 2) (.ac (.v 3) .an))) .sn) .sn) .sn)) (.sq (.re (.bi .tuple (.ac (.v 2) .an))) .sn)))
def d__law_best : Df := ⟨2, 5, b__law_best⟩
def e__law_best : FDe := ⟨(PySem.Str.ofString "_law_best"), d__law_best, [(PySem.Str.ofString "seats"), (PySem.Str.ofString "pool"), (PySem.Str.ofString "found"), (PySem.Str.ofString "k"), (PySem.Str.ofString "at")], [(PySem.Str.ofString "seats"), (PySem.Str.ofString "pool")], C8.fnArgs (top 71), C8.fnBody (top 71), C8.fnScope (top 71)⟩
/-- _law_seats_of (72): 0 seats, 1 letters, 2 k, 3 seat, 4 letter -/
def b__law_seats_of : IR := (.sq (.re (.lc (.v 2) (.tt (.ac (.tn 2) (.ac (.tn 3) .an))) (.en (.v 0)) (.ac (.cm .NotEq (.lc (.v 4) (.tn 4) (.it (.v 1)) (.ac (.ca (PySem.Str.ofString "_law_fits") (.ac (.v 4) (.ac (.v 3) .an))) .an) [((PySem.Str.ofString "letter"), 4)]) (.ls .an)) .an) [((PySem.Str.ofString "k"), 2), ((PySem.Str.ofString "seat"), 3)])) .sn)
def d__law_seats_of : Df := ⟨2, 5, b__law_seats_of⟩
def e__law_seats_of : FDe := ⟨(PySem.Str.ofString "_law_seats_of"), d__law_seats_of, [(PySem.Str.ofString "seats"), (PySem.Str.ofString "letters"), (PySem.Str.ofString "k"), (PySem.Str.ofString "seat"), (PySem.Str.ofString "letter")], [(PySem.Str.ofString "seats"), (PySem.Str.ofString "letters")], C8.fnArgs (top 72), C8.fnBody (top 72), C8.fnScope (top 72)⟩
/-- _law_least_lot (73): 0 seats, 1 pool, 2 best, 3 out, 4 ahead, 5 gone, 6 rest, 7 k -/
def b__law_least_lot : IR := (.sq (.asl 4 (.v 7) (.tn 7) (.ac (.cm .Lt (.v 7) (.v 3)) .an) (.it (.v 2)) [((PySem.Str.ofString "k"), 7)]) (.sq (.fo (.tn 5) (.it (.bi .list (.ac (.v 4) .an))) (.sq (.asl 6 (.v 7) (.tn 7) (.ac (.cm .NotEq (.v 7) (.v 5)) .an) (.it (.v 4)) [((PySem.Str.ofString "k"), 7)]) (.sq (.cnd (.nt (.ca (PySem.Str.ofString "_law_seated") (.ac (.v 0) (.ac (.lc (.ix (.v 1) (.v 7)) (.tn 7) (.it (.bo .Add (.v 6) (.ls (.ac (.v 3) .an)))) .an [((PySem.Str.ofString "k"), 7)]) .an)))) (.sq (.as (.tn 4) (.v 6)) .sn) .sn) .sn))) (.sq (.re (.bi .tuple (.ac (.v 4) .an))) .sn)))
def d__law_least_lot : Df := ⟨4, 8, b__law_least_lot⟩
def e__law_least_lot : FDe := ⟨(PySem.Str.ofString "_law_least_lot"), d__law_least_lot, [(PySem.Str.ofString "seats"), (PySem.Str.ofString "pool"), (PySem.Str.ofString "best"), (PySem.Str.ofString "out"), (PySem.Str.ofString "ahead"), (PySem.Str.ofString "gone"), (PySem.Str.ofString "rest"), (PySem.Str.ofString "k")], [(PySem.Str.ofString "seats"), (PySem.Str.ofString "pool"), (PySem.Str.ofString "best"), (PySem.Str.ofString "out")], C8.fnArgs (top 73), C8.fnBody (top 73), C8.fnScope (top 73)⟩
/-- _law_paper_is_right (74): 0 seats, 1 pool, 2 paper, 3 best, 4 k, 5 seat, 6 lot, 7 at -/
def b__law_paper_is_right : IR := (.sq (.as (.tn 3) (.ca (PySem.Str.ofString "_law_best") (.ac (.v 0) (.ac (.v 1) .an)))) (.sq (.cnd (.bl false (.ac (.cm .NotEq (.ix (.v 2) (.k (.int 0))) (.k (.str (PySem.Str.ofString "best")))) (.ac (.cm .NotEq (.bi .tuple (.ac (.lc (.v 4) (.tt (.ac (.tn 4) (.ac (.tn 5) .an))) (.it (.ix (.v 2) (.k (.int 1)))) .an [((PySem.Str.ofString "k"), 4), ((PySem.Str.ofString "seat"), 5)]) .an)) (.v 3)) (.ac (.cm .NotEq (.nb .lenset (.lc (.v 5) (.tt (.ac (.tn 4) (.ac (.tn 5) .an))) (.it (.ix (.v 2) (.k (.int 1)))) .an [((PySem.Str.ofString "k"), 4), ((PySem.Str.ofString "seat"), 5)])) (.bi .len (.ac (.v 3) .an))) .an)))) (.sq (.re (.k (.bl false))) .sn) .sn) (.sq (.cnd (.cm .NotEq (.lc (.v 4) (.tt (.ac (.tn 4) (.ac (.tn 5) .an))) (.it (.ix (.v 2) (.k (.int 1)))) (.ac (.nt (.ca (PySem.Str.ofString "_law_fits") (.ac (.ix (.v 1) (.v 4)) (.ac (.ix (.v 0) (.v 5)) .an)))) .an) [((PySem.Str.ofString "k"), 4), ((PySem.Str.ofString "seat"), 5)]) (.ls .an)) (.sq (.re (.k (.bl false))) .sn) .sn) (.sq (.cnd (.cm .NotEq (.lc (.v 4) (.tt (.ac (.tn 4) (.ac (.tn 6) .an))) (.it (.ix (.v 2) (.k (.int 2)))) .an [((PySem.Str.ofString "k"), 4), ((PySem.Str.ofString "lot"), 6)]) (.lc (.v 4) (.tn 4) (.rg1 (.bi .len (.ac (.v 1) .an))) (.ac (.cm .NotIn (.v 4) (.v 3)) .an) [((PySem.Str.ofString "k"), 4)])) (.sq (.re (.k (.bl false))) .sn) .sn) (.sq (.re (.cm .Eq (.lc (.v 4) (.tt (.ac (.tn 4) (.ac (.tn 6) .an))) (.it (.ix (.v 2) (.k (.int 2)))) (.ac (.bl false (.ac (.cm .NotEq (.bi .len (.ac (.ca (PySem.Str.ofString "_law_seats_of") (.ac (.v 0) (.ac (.lc (.ix (.v 1) (.v 7)) (.tn 7) (.it (.bo .Add (.v 6) (.tp (.ac (.v 4) .an)))) .an [((PySem.Str.ofString "at"), 7)]) .an))) .an)) (.bi .len (.ac (.v 6) .an))) (.ac (.cm .NotEq (.v 6) (.ca (PySem.Str.ofString "_law_least_lot") (.ac (.v 0) (.ac (.v 1) (.ac (.v 3) (.ac (.v 4) .an)))))) .an))) .an) [((PySem.Str.ofString "k"), 4), ((PySem.Str.ofString "lot"), 6)]) (.ls .an))) .sn)))))
def d__law_paper_is_right : Df := ⟨3, 8, b__law_paper_is_right⟩
def e__law_paper_is_right : FDe := ⟨(PySem.Str.ofString "_law_paper_is_right"), d__law_paper_is_right, [(PySem.Str.ofString "seats"), (PySem.Str.ofString "pool"), (PySem.Str.ofString "paper"), (PySem.Str.ofString "best"), (PySem.Str.ofString "k"), (PySem.Str.ofString "seat"), (PySem.Str.ofString "lot"), (PySem.Str.ofString "at")], [(PySem.Str.ofString "seats"), (PySem.Str.ofString "pool"), (PySem.Str.ofString "paper")], C8.fnArgs (top 74), C8.fnBody (top 74), C8.fnScope (top 74)⟩
/-- _law_seatings_are_same (75): 0 draw, 1 seats, 2 pool, 3 other, 4 can, 5 here, 6 more, 7 told, 8 best, 9 one, 10 last, 11 lap, 12 k -/
def b__law_seatings_are_same : IR := (.sq (.as (.tn 4) (.ca (PySem.Str.ofString "_law_seated") (.ac (.v 1) (.ac (.bi .list (.ac (.v 2) .an)) .an)))) (.sq (.fo (.tn 5) (.it (.ls (.ac (.v 1) (.ac (.v 3) .an)))) (.sq (.as (.tn 7) (.ca (PySem.Str.ofString "seated") (.ac (.v 5) (.ac (.v 2) .an)))) (.sq (.cnd (.cm .NotEq (.ix (.v 7) (.k (.int 0))) (.ie (.v 4) (.k (.str (PySem.Str.ofString "seated"))) (.k (.str (PySem.Str.ofString "short"))))) (.sq (.re (.k (.bl false))) .sn) .sn) (.sq (.cnd (.bl true (.ac (.v 4) (.ac (.bl false (.ac (.cm .IsNot (.ca (PySem.Str.ofString "is_seating") (.ac (.v 5) (.ac (.v 2) (.ac (.ix (.v 7) (.k (.int 1))) .an)))) (.k (.bl true))) (.ac (.cm .NotEq (.lc (.v 12) (.tn 12) (.rg1 (.bi .len (.ac (.v 2) .an))) (.ac (.nt (.ca (PySem.Str.ofString "_law_fits") (.ac (.ix (.v 2) (.v 12)) (.ac (.ix (.v 5) (.ix (.ix (.v 7) (.k (.int 1))) (.v 12))) .an)))) .an) [((PySem.Str.ofString "k"), 12)]) (.ls .an)) (.ac (.cm .NotEq (.nb .lenset (.ix (.v 7) (.k (.int 1)))) (.bi .len (.ac (.v 2) .an))) .an)))) .an))) (.sq (.re (.k (.bl false))) .sn) .sn) (.sq (.cnd (.bl true (.ac (.nt (.v 4)) (.ac (.bl false (.ac (.cm .IsNot (.ca (PySem.Str.ofString "is_short") (.ac (.v 5) (.ac (.v 2) (.ac (.ix (.v 7) (.k (.int 1))) .an)))) (.k (.bl true))) (.ac (.cm .GtE (.bi .len (.ac (.ca (PySem.Str.ofString "_law_seats_of") (.ac (.v 5) (.ac (.lc (.ix (.v 2) (.v 12)) (.tn 12) (.it (.ix (.v 7) (.k (.int 1)))) .an [((PySem.Str.ofString "k"), 12)]) .an))) .an)) (.bi .len (.ac (.ix (.v 7) (.k (.int 1))) .an))) .an))) .an))) (.sq (.re (.k (.bl false))) .sn) .sn) (.sq (.cnd (.bl true (.ac (.nt (.v 4)) (.ac (.cm .IsNot (.ca (PySem.Str.ofString "is_short") (.ac (.v 3) (.ac (.v 2) (.ac (.ix (.v 7) (.k (.int 1))) .an)))) (.k (.bl true))) .an))) (.sq (.re (.k (.bl false))) .sn) .sn) .sn)))))) (.sq (.pr3 8 9 10 (.ca (PySem.Str.ofString "_law_best") (.ac (.v 1) (.ac (.v 2) .an))) (.ca (PySem.Str.ofString "best_paper") (.ac (.v 1) (.ac (.v 2) .an))) (.ca (PySem.Str.ofString "best_paper") (.ac (.v 3) (.ac (.v 2) .an)))) (.sq (.cnd (.bl false (.ac (.cm .NotEq (.ca (PySem.Str.ofString "best_lot") (.ac (.v 1) (.ac (.v 2) .an))) (.v 8)) (.ac (.cm .NotEq (.ca (PySem.Str.ofString "best_lot") (.ac (.v 3) (.ac (.v 2) .an))) (.v 8)) (.ac (.cm .NotEq (.ix (.v 9) (.k (.int 2))) (.ix (.v 10) (.k (.int 2)))) (.ac (.nt (.ca (PySem.Str.ofString "_law_paper_is_right") (.ac (.v 1) (.ac (.v 2) (.ac (.v 9) .an))))) (.ac (.nt (.ca (PySem.Str.ofString "_law_paper_is_right") (.ac (.v 3) (.ac (.v 2) (.ac (.v 10) .an))))) .an)))))) (.sq (.re (.k (.bl false))) .sn) .sn) (.sq (.cnd (.bl false (.ac (.cm .IsNot (.ca (PySem.Str.ofString "is_best_paper") (.ac (.v 3) (.ac (.v 2) (.ac (.v 10) .an)))) (.k (.bl true))) (.ac (.cm .IsNot (.ca (PySem.Str.ofString "is_best_paper") (.ac (.v 1) (.ac (.v 2) (.ac (.tp (.ac (.k (.str (PySem.Str.ofString "best"))) (.ac (.ix (.v 9) (.k (.int 1))) (.ac (.ix (.v 10) (.k (.int 2))) .an)))) .an)))) (.k (.bl true))) .an))) (.sq (.re (.k (.bl false))) .sn) .sn) (.sq (.as (.tn 6) (.bo .Add (.v 2) (.bi .tuple (.ac (.lc (.ca (PySem.Str.ofString "_law_pick") (.ac (.v 0) (.ac (.ls (.ac (.tp .an) (.ac (.tp (.ac (.k (.str (PySem.Str.ofString "ab"))) .an)) (.ac (.tp (.ac (.k (.str (PySem.Str.ofString "cc"))) .an)) (.ac (.tp (.ac (.k (.str (PySem.Str.ofString "ab"))) (.ac (.k (.str (PySem.Str.ofString "cc"))) (.ac (.k (.str (PySem.Str.ofString "eh"))) .an)))) .an))))) .an))) (.tn 11) (.rg1 (.bo .Add (.k (.int 1)) (.ca (PySem.Str.ofString "_law_take") (.ac (.v 0) (.ac (.k (.int 2)) .an))))) .an [((PySem.Str.ofString "lap"), 11)]) .an)))) (.sq (.cnd (.cm .NotEq (.bi .tuple (.ac (.lc (.v 12) (.tn 12) (.it (.ca (PySem.Str.ofString "best_lot") (.ac (.v 1) (.ac (.v 6) .an)))) (.ac (.cm .Lt (.v 12) (.bi .len (.ac (.v 2) .an))) .an) [((PySem.Str.ofString "k"), 12)]) .an)) (.v 8)) (.sq (.re (.k (.bl false))) .sn) .sn) (.sq (.re (.bl false (.ac (.cm .Gt (.bi .len (.ac (.v 1) .an)) (.k (.int 6))) (.ac (.cm .Eq (.ca (PySem.Str.ofString "takes") (.ac (.tp (.ac (.k (.str (PySem.Str.ofString "match"))) (.ac (.v 3) .an))) (.ac (.v 2) .an))) (.v 8)) .an)))) .sn))))))))
def d__law_seatings_are_same : Df := ⟨4, 13, b__law_seatings_are_same⟩
def e__law_seatings_are_same : FDe := ⟨(PySem.Str.ofString "_law_seatings_are_same"), d__law_seatings_are_same, [(PySem.Str.ofString "draw"), (PySem.Str.ofString "seats"), (PySem.Str.ofString "pool"), (PySem.Str.ofString "other"), (PySem.Str.ofString "can"), (PySem.Str.ofString "here"), (PySem.Str.ofString "more"), (PySem.Str.ofString "told"), (PySem.Str.ofString "best"), (PySem.Str.ofString "one"), (PySem.Str.ofString "last"), (PySem.Str.ofString "lap"), (PySem.Str.ofString "k")], [(PySem.Str.ofString "draw"), (PySem.Str.ofString "seats"), (PySem.Str.ofString "pool"), (PySem.Str.ofString "other")], C8.fnArgs (top 75), C8.fnBody (top 75), C8.fnScope (top 75)⟩
/-- _law_moves_are_right (76): 0 draw, 1 seats, 2 pool, 3 told, 4 out, 5 rest, 6 later, 7 due, 8 k, 9 seat -/
def b__law_moves_are_right : IR := (.sq (.as (.tn 3) (.ca (PySem.Str.ofString "_law_one_by_one") (.ac (.v 1) (.ac (.v 2) .an)))) (.sq (.cnd (.bl false (.ac (.cm .NotEq (.ca (PySem.Str.ofString "seat_by_seat") (.ac (.v 1) (.ac (.v 2) .an))) (.v 3)) (.ac (.bl true (.ac (.cm .LtE (.bi .len (.ac (.v 1) .an)) (.k (.int 6))) (.ac (.cm .NotEq (.ca (PySem.Str.ofString "takes") (.ac (.tp (.ac (.k (.str (PySem.Str.ofString "seats"))) (.ac (.v 1) .an))) (.ac (.v 2) .an))) (.bi .tuple (.ac (.bi .sorted (.ac (.lc (.v 8) (.tn 8) (.it (.v 3)) (.ac (.cm .IsNot (.v 8) (.k .non)) .an) [((PySem.Str.ofString "k"), 8)]) .an)) .an))) .an))) .an))) (.sq (.re (.k (.bl false))) .sn) .sn) (.sq (.fo (.tn 4) (.rg1 (.bi .len (.ac (.v 2) .an))) (.sq (.as (.tn 5) (.lc (.v 8) (.tn 8) (.rg1 (.bi .len (.ac (.v 2) .an))) (.ac (.cm .NotEq (.v 8) (.v 4)) .an) [((PySem.Str.ofString "k"), 8)])) (.sq (.as (.tn 6) (.lc (.ie (.cm .Is (.v 8) (.k .non)) (.k .non) (.ix (.v 5) (.v 8))) (.tn 8) (.it (.ca (PySem.Str.ofString "_law_one_by_one") (.ac (.v 1) (.ac (.bo .Add (.sl (.v 2) .no (.it (.v 4))) (.sl (.v 2) (.it (.bo .Add (.v 4) (.k (.int 1)))) .no)) .an)))) .an [((PySem.Str.ofString "k"), 8)])) (.sq (.asl 7 (.tp (.ac (.v 9) (.ac (.ix (.v 3) (.v 9)) (.ac (.ix (.v 6) (.v 9)) .an)))) (.tn 9) (.ac (.cm .NotEq (.ix (.v 3) (.v 9)) (.ix (.v 6) (.v 9))) .an) (.rg1 (.bi .len (.ac (.v 1) .an))) [((PySem.Str.ofString "seat"), 9)]) (.sq (.cnd (.bl false (.ac (.cm .NotEq (.ca (PySem.Str.ofString "moved") (.ac (.v 1) (.ac (.v 2) (.ac (.v 4) .an)))) (.bi .tuple (.ac (.v 7) .an))) (.ac (.cm .NotEq (.cm .Eq (.v 7) (.ls .an)) (.cm .NotIn (.v 4) (.v 3))) .an))) (.sq (.re (.k (.bl false))) .sn) .sn) (.sq (.fo (.tn 8) (.rg1 (.bi .len (.ac (.v 7) .an))) (.sq (.cnd (.bl false (.ac (.cm .NotEq (.ix (.ix (.v 7) (.v 8)) (.k (.int 1))) (.ie (.cm .Gt (.v 8) (.k (.int 0))) (.ix (.ix (.v 7) (.bo .Sub (.v 8) (.k (.int 1)))) (.k (.int 2))) (.v 4))) (.ac (.cm .NotEq (.cm .Is (.ix (.ix (.v 7) (.v 8)) (.k (.int 2))) (.k .non)) (.bl true (.ac (.cm .Is (.ix (.ix (.v 7) (.v 8)) (.k (.int 2))) (.k .non)) (.ac (.cm .Eq (.v 8) (.bo .Sub (.bi .len (.ac (.v 7) .an)) (.k (.int 1)))) .an)))) .an))) (.sq (.re (.k (.bl false))) .sn) .sn) .sn)) .sn)))))) (.sq (.re (.k (.bl true))) .sn))))
def d__law_moves_are_right : Df := ⟨3, 10, b__law_moves_are_right⟩
def e__law_moves_are_right : FDe := ⟨(PySem.Str.ofString "_law_moves_are_right"), d__law_moves_are_right, [(PySem.Str.ofString "draw"), (PySem.Str.ofString "seats"), (PySem.Str.ofString "pool"), (PySem.Str.ofString "told"), (PySem.Str.ofString "out"), (PySem.Str.ofString "rest"), (PySem.Str.ofString "later"), (PySem.Str.ofString "due"), (PySem.Str.ofString "k"), (PySem.Str.ofString "seat")], [(PySem.Str.ofString "draw"), (PySem.Str.ofString "seats"), (PySem.Str.ofString "pool")], C8.fnArgs (top 76), C8.fnBody (top 76), C8.fnScope (top 76)⟩
/-- law (77): 0 script, 1 draw, 2 turn, 3 other, 4 wide, 5 names, 6 far, 7 named, 8 seats, 9 pool, 10 seat, 11 letter, 12 name -/
def b_law : IR := (.sq (.as (.tn 1) (.ca (PySem.Str.ofString "_law_begun") (.ac (.v 0) .an))) (.sq (.fo (.tn 2) (.rg1 (.bo .Add (.k (.int 1)) (.bi .min (.ac (.bi .len (.ac (.v 0) .an)) (.ac (.k (.int 3)) .an))))) (.sq (.as (.tt (.ac (.tn 8) (.ac (.tn 9) .an))) (.ca (PySem.Str.ofString "_law_drawn") (.ac (.v 1) .an))) (.sq (.as (.tn 3) (.bi .tuple (.ac (.ca (PySem.Str.ofString "_law_shuffled") (.ac (.v 1) (.ac (.bi .list (.ac (.v 8) .an)) .an))) .an))) (.sq (.cnd (.bl false (.ac (.nt (.ca (PySem.Str.ofString "_law_seatings_are_same") (.ac (.v 1) (.ac (.v 8) (.ac (.v 9) (.ac (.v 3) .an)))))) (.ac (.nt (.ca (PySem.Str.ofString "_law_moves_are_right") (.ac (.v 1) (.ac (.v 8) (.ac (.v 9) .an))))) .an))) (.sq (.re (.k (.bl false))) .sn) .sn) (.sq (.as (.tn 4) (.bo .Add (.v 8) (.tp (.ac (.tp (.ac (.k (.str (PySem.Str.ofString "zoo"))) .an)) .an)))) (.sq (.cnd (.bl false (.ac (.cm .NotEq (.ca (PySem.Str.ofString "best_lot") (.ac (.v 4) (.ac (.v 9) .an))) (.ca (PySem.Str.ofString "best_lot") (.ac (.v 8) (.ac (.v 9) .an)))) (.ac (.cm .NotEq (.ca (PySem.Str.ofString "seat_by_seat") (.ac (.v 4) (.ac (.v 9) .an))) (.bo .Add (.ca (PySem.Str.ofString "seat_by_seat") (.ac (.v 8) (.ac (.v 9) .an))) (.tp (.ac (.k .non) .an)))) .an))) (.sq (.re (.k (.bl false))) .sn) .sn) (.sq (.as (.tn 5) (.dk [(PySem.Str.ofString "ab"), (PySem.Str.ofString "cc"), (PySem.Str.ofString "eh")] (.ac (.k (.str (PySem.Str.ofString "b"))) (.ac (.k (.str (PySem.Str.ofString "d"))) (.ac (.k (.str (PySem.Str.ofString "x"))) .an))))) (.sq (.as (.tn 6) (.bi .tuple (.ac (.lc (.bi .tuple (.ac (.lc (.ix (.v 5) (.v 12)) (.tn 12) (.it (.v 10)) .an [((PySem.Str.ofString "name"), 12)]) .an)) (.tn 10) (.it (.v 8)) .an [((PySem.Str.ofString "seat"), 10)]) .an))) (.sq (.as (.tn 7) (.bi .tuple (.ac (.lc (.bi .tuple (.ac (.lc (.ix (.v 5) (.v 12)) (.tn 12) (.it (.v 11)) .an [((PySem.Str.ofString "name"), 12)]) .an)) (.tn 11) (.it (.v 9)) .an [((PySem.Str.ofString "letter"), 11)]) .an))) (.sq (.cnd (.bl false (.ac (.cm .NotEq (.ca (PySem.Str.ofString "seat_by_seat") (.ac (.v 6) (.ac (.v 7) .an))) (.ca (PySem.Str.ofString "seat_by_seat") (.ac (.v 8) (.ac (.v 9) .an)))) (.ac (.cm .NotEq (.ix (.ca (PySem.Str.ofString "best_paper") (.ac (.v 6) (.ac (.v 7) .an))) (.k (.int 2))) (.ix (.ca (PySem.Str.ofString "best_paper") (.ac (.v 8) (.ac (.v 9) .an))) (.k (.int 2)))) .an))) (.sq (.re (.k (.bl false))) .sn) .sn) .sn)))))))))) (.sq (.re (.k (.bl true))) .sn)))
def d_law : Df := ⟨1, 13, b_law⟩
def e_law : FDe := ⟨(PySem.Str.ofString "law"), d_law, [(PySem.Str.ofString "script"), (PySem.Str.ofString "draw"), (PySem.Str.ofString "turn"), (PySem.Str.ofString "other"), (PySem.Str.ofString "wide"), (PySem.Str.ofString "names"), (PySem.Str.ofString "far"), (PySem.Str.ofString "named"), (PySem.Str.ofString "seats"), (PySem.Str.ofString "pool"), (PySem.Str.ofString "seat"), (PySem.Str.ofString "letter"), (PySem.Str.ofString "name")], [(PySem.Str.ofString "script")], C8.fnArgs (top 77), C8.fnBody (top 77), C8.fnScope (top 77)⟩
def tbl : List FDe := [e_is_name, e_are_rising, e_is_letter, e_is_count, e_are_seats, e_is_pool, e_fits, e_is_single, e_quotas_in, e_is_quota, e_first_state, e_counted, e_shared, e_sat, e_matched, e_together, e_step, e_taken_of, e_takes, e_chosen_by, e_seat_by_seat, e_moved, e_check, e_walked, e_shifted, e_seated, e_is_seating, e_is_lot, e_fitted, e_is_short, e_seat_all, e_best_lot, e_best_paper, e_are_pairs, e_is_seating_part, e_is_refusal, e_is_best_paper, e__law_begun, e__law_mixed, e__law_take, e__law_pick, e__law_shuffled, e__law_drawn, e__law_fits, e__law_one_by_one, e__law_seated, e__law_best, e__law_seats_of, e__law_least_lot, e__law_paper_is_right, e__law_seatings_are_same, e__law_moves_are_right, e_law]
def cst : List (Str × PV) := [((PySem.Str.ofString "KEPT"), (.tup [(.str (PySem.Str.ofString "all")), (.str (PySem.Str.ofString "award")), (.str (PySem.Str.ofString "behind")), (.str (PySem.Str.ofString "bid")), (.str (PySem.Str.ofString "bidder")), (.str (PySem.Str.ofString "cap")), (.str (PySem.Str.ofString "come")), (.str (PySem.Str.ofString "contract")), (.str (PySem.Str.ofString "first")), (.str (PySem.Str.ofString "formula")), (.str (PySem.Str.ofString "journal")), (.str (PySem.Str.ofString "leave")), (.str (PySem.Str.ofString "low")), (.str (PySem.Str.ofString "mark")), (.str (PySem.Str.ofString "match")), (.str (PySem.Str.ofString "mean")), (.str (PySem.Str.ofString "no")), (.str (PySem.Str.ofString "none")), (.str (PySem.Str.ofString "order")), (.str (PySem.Str.ofString "plain")), (.str (PySem.Str.ofString "range")), (.str (PySem.Str.ofString "rule")), (.str (PySem.Str.ofString "seats")), (.str (PySem.Str.ofString "share")), (.str (PySem.Str.ofString "size")), (.str (PySem.Str.ofString "state")), (.str (PySem.Str.ofString "strike")), (.str (PySem.Str.ofString "tender")), (.str (PySem.Str.ofString "wishes"))])), ((PySem.Str.ofString "SIGNS"), (.str (PySem.Str.ofString "abcdefghijklmnopqrstuvwxyz"))), ((PySem.Str.ofString "LONGEST"), (.int 8)), ((PySem.Str.ofString "MOST_CLASSES"), (.int 3)), ((PySem.Str.ofString "MOST_POOL"), (.int 200)), ((PySem.Str.ofString "MOST_QUOTAS"), (.int 40)), ((PySem.Str.ofString "MOST_LEVELS"), (.int 6)), ((PySem.Str.ofString "MOST_PARTS"), (.int 8)), ((PySem.Str.ofString "MOST_SEATS"), (.int 6)), ((PySem.Str.ofString "MOST_COUNT"), (.int 30)), ((PySem.Str.ofString "MOST_SHARE"), (.int 9)), ((PySem.Str.ofString "MOST_ROW"), (.int 40))]
theorem c_is_name : Chk cst (tbl.map (·.x)) 2 e_is_name := ⟨C8.fnScope_by (by decide +kernel), fun _ _ _ _ _ _ us hl => match us, hl with | [_], _ => rfl, rfl, rfl, by decide +kernel⟩
theorem c_are_rising : Chk cst (tbl.map (·.x)) 2 e_are_rising := ⟨C8.fnScope_by (by decide +kernel), fun _ _ _ _ _ _ us hl => match us, hl with | [_], _ => rfl, rfl, rfl, by decide +kernel⟩
theorem c_is_letter : Chk cst (tbl.map (·.x)) 2 e_is_letter := ⟨C8.fnScope_by (by decide +kernel), fun _ _ _ _ _ _ us hl => match us, hl with | [_], _ => rfl, rfl, rfl, by decide +kernel⟩
theorem c_is_count : Chk cst (tbl.map (·.x)) 2 e_is_count := ⟨C8.fnScope_by (by decide +kernel), fun _ _ _ _ _ _ us hl => match us, hl with | [_, _, _], _ => rfl, rfl, rfl, by decide +kernel⟩
theorem c_are_seats : Chk cst (tbl.map (·.x)) 2 e_are_seats := ⟨C8.fnScope_by (by decide +kernel), fun _ _ _ _ _ _ us hl => match us, hl with | [_, _], _ => rfl, rfl, rfl, by decide +kernel⟩
theorem c_is_pool : Chk cst (tbl.map (·.x)) 2 e_is_pool := ⟨C8.fnScope_by (by decide +kernel), fun _ _ _ _ _ _ us hl => match us, hl with | [_], _ => rfl, rfl, rfl, by decide +kernel⟩
theorem c_fits : Chk cst (tbl.map (·.x)) 2 e_fits := ⟨C8.fnScope_by (by decide +kernel), fun _ _ _ _ _ _ us hl => match us, hl with | [_, _], _ => rfl, rfl, rfl, by decide +kernel⟩
theorem c_is_single : Chk cst (tbl.map (·.x)) 2 e_is_single := ⟨C8.fnScope_by (by decide +kernel), fun _ _ _ _ _ _ us hl => match us, hl with | [_], _ => rfl, rfl, rfl, by decide +kernel⟩
theorem c_quotas_in : Chk cst (tbl.map (·.x)) 2 e_quotas_in := ⟨C8.fnScope_by (by decide +kernel), fun _ _ _ _ _ _ us hl => match us, hl with | [_, _], _ => rfl, rfl, rfl, by decide +kernel⟩
theorem c_is_quota : Chk cst (tbl.map (·.x)) 2 e_is_quota := ⟨C8.fnScope_by (by decide +kernel), fun _ _ _ _ _ _ us hl => match us, hl with | [_], _ => rfl, rfl, rfl, by decide +kernel⟩
theorem c_first_state : Chk cst (tbl.map (·.x)) 2 e_first_state := ⟨C8.fnScope_by (by decide +kernel), fun _ _ _ _ _ _ us hl => match us, hl with | [_], _ => rfl, rfl, rfl, by decide +kernel⟩
theorem c_counted : Chk cst (tbl.map (·.x)) 2 e_counted := ⟨C8.fnScope_by (by decide +kernel), fun _ _ _ _ _ _ us hl => match us, hl with | [_, _, _], _ => rfl, rfl, rfl, by decide +kernel⟩
theorem c_shared : Chk cst (tbl.map (·.x)) 2 e_shared := ⟨C8.fnScope_by (by decide +kernel), fun _ _ _ _ _ _ us hl => match us, hl with | [_, _, _], _ => rfl, rfl, rfl, by decide +kernel⟩
theorem c_sat : Chk cst (tbl.map (·.x)) 2 e_sat := ⟨C8.fnScope_by (by decide +kernel), fun _ _ _ _ _ _ us hl => match us, hl with | [_, _, _], _ => rfl, rfl, rfl, by decide +kernel⟩
theorem c_matched : Chk cst (tbl.map (·.x)) 2 e_matched := ⟨C8.fnScope_by (by decide +kernel), fun _ _ _ _ _ _ us hl => match us, hl with | [_, _, _], _ => rfl, rfl, rfl, by decide +kernel⟩
theorem c_together : Chk cst (tbl.map (·.x)) 2 e_together := ⟨C8.fnScope_by (by decide +kernel), fun _ _ _ _ _ _ us hl => match us, hl with | [_, _, _], _ => rfl, rfl, rfl, by decide +kernel⟩
theorem c_step : Chk cst (tbl.map (·.x)) 2 e_step := ⟨C8.fnScope_by (by decide +kernel), fun _ _ _ _ _ _ us hl => match us, hl with | [_, _, _], _ => rfl, rfl, rfl, by decide +kernel⟩
theorem c_taken_of : Chk cst (tbl.map (·.x)) 2 e_taken_of := ⟨C8.fnScope_by (by decide +kernel), fun _ _ _ _ _ _ us hl => match us, hl with | [_, _, _], _ => rfl, rfl, rfl, by decide +kernel⟩
theorem c_takes : Chk cst (tbl.map (·.x)) 2 e_takes := ⟨C8.fnScope_by (by decide +kernel), fun _ _ _ _ _ _ us hl => match us, hl with | [_, _], _ => rfl, rfl, rfl, by decide +kernel⟩
theorem c_chosen_by : Chk cst (tbl.map (·.x)) 2 e_chosen_by := ⟨C8.fnScope_by (by decide +kernel), fun _ _ _ _ _ _ us hl => match us, hl with | [_, _, _], _ => rfl, rfl, rfl, by decide +kernel⟩
theorem c_seat_by_seat : Chk cst (tbl.map (·.x)) 2 e_seat_by_seat := ⟨C8.fnScope_by (by decide +kernel), fun _ _ _ _ _ _ us hl => match us, hl with | [_, _], _ => rfl, rfl, rfl, by decide +kernel⟩
theorem c_moved : Chk cst (tbl.map (·.x)) 2 e_moved := ⟨C8.fnScope_by (by decide +kernel), fun _ _ _ _ _ _ us hl => match us, hl with | [_, _, _], _ => rfl, rfl, rfl, by decide +kernel⟩
theorem c_check : Chk cst (tbl.map (·.x)) 2 e_check := ⟨C8.fnScope_by (by decide +kernel), fun _ _ _ _ _ _ us hl => match us, hl with | [_, _], _ => rfl, rfl, rfl, by decide +kernel⟩
theorem c_walked : Chk cst (tbl.map (·.x)) 2 e_walked := ⟨C8.fnScope_by (by decide +kernel), fun _ _ _ _ _ _ us hl => match us, hl with | [_, _, _, _], _ => rfl, rfl, rfl, by decide +kernel⟩
theorem c_shifted : Chk cst (tbl.map (·.x)) 2 e_shifted := ⟨C8.fnScope_by (by decide +kernel), fun _ _ _ _ _ _ us hl => match us, hl with | [_, _, _, _], _ => rfl, rfl, rfl, by decide +kernel⟩
theorem c_seated : Chk cst (tbl.map (·.x)) 2 e_seated := ⟨C8.fnScope_by (by decide +kernel), fun _ _ _ _ _ _ us hl => match us, hl with | [_, _], _ => rfl, rfl, rfl, by decide +kernel⟩
theorem c_is_seating : Chk cst (tbl.map (·.x)) 2 e_is_seating := ⟨C8.fnScope_by (by decide +kernel), fun _ _ _ _ _ _ us hl => match us, hl with | [_, _, _], _ => rfl, rfl, rfl, by decide +kernel⟩
theorem c_is_lot : Chk cst (tbl.map (·.x)) 2 e_is_lot := ⟨C8.fnScope_by (by decide +kernel), fun _ _ _ _ _ _ us hl => match us, hl with | [_, _], _ => rfl, rfl, rfl, by decide +kernel⟩
theorem c_fitted : Chk cst (tbl.map (·.x)) 2 e_fitted := ⟨C8.fnScope_by (by decide +kernel), fun _ _ _ _ _ _ us hl => match us, hl with | [_, _, _], _ => rfl, rfl, rfl, by decide +kernel⟩
theorem c_is_short : Chk cst (tbl.map (·.x)) 2 e_is_short := ⟨C8.fnScope_by (by decide +kernel), fun _ _ _ _ _ _ us hl => match us, hl with | [_, _, _], _ => rfl, rfl, rfl, by decide +kernel⟩
theorem c_seat_all : Chk cst (tbl.map (·.x)) 2 e_seat_all := ⟨C8.fnScope_by (by decide +kernel), fun _ _ _ _ _ _ us hl => match us, hl with | [_, _], _ => rfl, rfl, rfl, by decide +kernel⟩
theorem c_best_lot : Chk cst (tbl.map (·.x)) 2 e_best_lot := ⟨C8.fnScope_by (by decide +kernel), fun _ _ _ _ _ _ us hl => match us, hl with | [_, _], _ => rfl, rfl, rfl, by decide +kernel⟩
theorem c_best_paper : Chk cst (tbl.map (·.x)) 2 e_best_paper := ⟨C8.fnScope_by (by decide +kernel), fun _ _ _ _ _ _ us hl => match us, hl with | [_, _], _ => rfl, rfl, rfl, by decide +kernel⟩
theorem c_are_pairs : Chk cst (tbl.map (·.x)) 2 e_are_pairs := ⟨C8.fnScope_by (by decide +kernel), fun _ _ _ _ _ _ us hl => match us, hl with | [_], _ => rfl, rfl, rfl, by decide +kernel⟩
theorem c_is_seating_part : Chk cst (tbl.map (·.x)) 2 e_is_seating_part := ⟨C8.fnScope_by (by decide +kernel), fun _ _ _ _ _ _ us hl => match us, hl with | [_, _, _], _ => rfl, rfl, rfl, by decide +kernel⟩
theorem c_is_refusal : Chk cst (tbl.map (·.x)) 2 e_is_refusal := ⟨C8.fnScope_by (by decide +kernel), fun _ _ _ _ _ _ us hl => match us, hl with | [_, _, _, _], _ => rfl, rfl, rfl, by decide +kernel⟩
theorem c_is_best_paper : Chk cst (tbl.map (·.x)) 2 e_is_best_paper := ⟨C8.fnScope_by (by decide +kernel), fun _ _ _ _ _ _ us hl => match us, hl with | [_, _, _], _ => rfl, rfl, rfl, by decide +kernel⟩
theorem c__law_begun : Chk cst (tbl.map (·.x)) 2 e__law_begun := ⟨C8.fnScope_by (by decide +kernel), fun _ _ _ _ _ _ us hl => match us, hl with | [_], _ => rfl, rfl, rfl, by decide +kernel⟩
theorem c__law_mixed : Chk cst (tbl.map (·.x)) 2 e__law_mixed := ⟨C8.fnScope_by (by decide +kernel), fun _ _ _ _ _ _ us hl => match us, hl with | [_], _ => rfl, rfl, rfl, by decide +kernel⟩
theorem c__law_take : Chk cst (tbl.map (·.x)) 2 e__law_take := ⟨C8.fnScope_by (by decide +kernel), fun _ _ _ _ _ _ us hl => match us, hl with | [_, _], _ => rfl, rfl, rfl, by decide +kernel⟩
theorem c__law_pick : Chk cst (tbl.map (·.x)) 2 e__law_pick := ⟨C8.fnScope_by (by decide +kernel), fun _ _ _ _ _ _ us hl => match us, hl with | [_, _], _ => rfl, rfl, rfl, by decide +kernel⟩
theorem c__law_shuffled : Chk cst (tbl.map (·.x)) 2 e__law_shuffled := ⟨C8.fnScope_by (by decide +kernel), fun _ _ _ _ _ _ us hl => match us, hl with | [_, _], _ => rfl, rfl, rfl, by decide +kernel⟩
theorem c__law_drawn : Chk cst (tbl.map (·.x)) 2 e__law_drawn := ⟨C8.fnScope_by (by decide +kernel), fun _ _ _ _ _ _ us hl => match us, hl with | [_], _ => rfl, rfl, rfl, by decide +kernel⟩
theorem c__law_fits : Chk cst (tbl.map (·.x)) 2 e__law_fits := ⟨C8.fnScope_by (by decide +kernel), fun _ _ _ _ _ _ us hl => match us, hl with | [_, _], _ => rfl, rfl, rfl, by decide +kernel⟩
theorem c__law_one_by_one : Chk cst (tbl.map (·.x)) 2 e__law_one_by_one := ⟨C8.fnScope_by (by decide +kernel), fun _ _ _ _ _ _ us hl => match us, hl with | [_, _], _ => rfl, rfl, rfl, by decide +kernel⟩
theorem c__law_seated : Chk cst (tbl.map (·.x)) 2 e__law_seated := ⟨C8.fnScope_by (by decide +kernel), fun _ _ _ _ _ _ us hl => match us, hl with | [_, _], _ => rfl, rfl, rfl, by decide +kernel⟩
theorem c__law_best : Chk cst (tbl.map (·.x)) 2 e__law_best := ⟨C8.fnScope_by (by decide +kernel), fun _ _ _ _ _ _ us hl => match us, hl with | [_, _], _ => rfl, rfl, rfl, by decide +kernel⟩
theorem c__law_seats_of : Chk cst (tbl.map (·.x)) 2 e__law_seats_of := ⟨C8.fnScope_by (by decide +kernel), fun _ _ _ _ _ _ us hl => match us, hl with | [_, _], _ => rfl, rfl, rfl, by decide +kernel⟩
theorem c__law_least_lot : Chk cst (tbl.map (·.x)) 2 e__law_least_lot := ⟨C8.fnScope_by (by decide +kernel), fun _ _ _ _ _ _ us hl => match us, hl with | [_, _, _, _], _ => rfl, rfl, rfl, by decide +kernel⟩
theorem c__law_paper_is_right : Chk cst (tbl.map (·.x)) 2 e__law_paper_is_right := ⟨C8.fnScope_by (by decide +kernel), fun _ _ _ _ _ _ us hl => match us, hl with | [_, _, _], _ => rfl, rfl, rfl, by decide +kernel⟩
theorem c__law_seatings_are_same : Chk cst (tbl.map (·.x)) 2 e__law_seatings_are_same := ⟨C8.fnScope_by (by decide +kernel), fun _ _ _ _ _ _ us hl => match us, hl with | [_, _, _, _], _ => rfl, rfl, rfl, by decide +kernel⟩
theorem c__law_moves_are_right : Chk cst (tbl.map (·.x)) 2 e__law_moves_are_right := ⟨C8.fnScope_by (by decide +kernel), fun _ _ _ _ _ _ us hl => match us, hl with | [_, _, _], _ => rfl, rfl, rfl, by decide +kernel⟩
theorem c_law : Chk cst (tbl.map (·.x)) 2 e_law := ⟨C8.fnScope_by (by decide +kernel), fun _ _ _ _ _ _ us hl => match us, hl with | [_], _ => rfl, rfl, rfl, by decide +kernel⟩
end Mi.K32

namespace Mi.K32
open PySem PySem.Spec PyProof.Rows L2
def dOf (e : FDe) : He.DefD := ⟨(e.x, none), e.x, e.x, e.pa, e.bd, e.sc, [], []⟩
def fn : List He.DefD := tbl.map dOf
def tf : List He.Defn := tbl.map fun e => (e.x, none)
def keptP : PV → List He.Dv
  | .tup xs => xs.map fun z => match z with
    | .str x => .str x
    | _ => .non
  | _ => []
def kept : List He.Dv := keptP ((cst.lookup ("KEPT" : Str)).getD .non)
def ex (K : PySem.W.Frag) : Bool := He.tupB K "KEPT" kept
def faC : List He.Fa := cst.map fun q => match q.2 with
  | .int i => .int q.1 i
  | .str z => .str q.1 z
  | _ => .glo q.1
def fa : List He.Fa := tbl.map (fun e => .glo e.x) ++ (faC ++ blts.map .free)
def loose1 : List Str := (["__name__", "TenderError", "BadIndex", "BadPool", "BadQuota", "BadSeats", "KEPT", "SIGNS", "LONGEST", "is_name"] : List Str) ++ (["MOST_CLASSES", "are_rising", "is_letter", "MOST_POOL", "MOST_QUOTAS", "MOST_LEVELS", "MOST_PARTS", "MOST_SEATS", "MOST_COUNT", "MOST_SHARE"] : List Str) ++ (["is_count", "are_seats", "is_pool", "fits", "is_single", "quotas_in", "is_quota", "first_state", "counted", "shared"] : List Str) ++ (["sat", "matched", "together", "step", "taken_of", "takes"] : List Str)
def loose2 : List Str := (["MOST_ROW", "chosen_by", "seat_by_seat", "moved", "check", "walked", "shifted", "seated", "is_seating", "is_lot"] : List Str) ++ (["fitted", "is_short", "seat_all", "best_lot", "best_paper", "are_pairs", "is_seating_part", "is_refusal", "is_best_paper", "_law_begun"] : List Str) ++ (["_law_mixed", "_law_take", "_law_pick", "_law_shuffled", "_law_drawn", "_law_fits", "_law_one_by_one", "_law_seated", "_law_best", "_law_seats_of"] : List Str) ++ (["_law_least_lot", "_law_paper_is_right", "_law_seatings_are_same", "_law_moves_are_right"] : List Str)
def loose : List Str := loose1 ++ loose2
abbrev R : PySem.W.OpenRow := PySem.W.OpenLaw.row PySem.Challenge.rw_protestproof_k32_whole_seats_and_seating
abbrev hk : PySem.W.Hook := He.hookX 4 fa fn [] tf ex
def ob (s : PySem.W.SharedT) : He.AlX := He.obsX 4 fa fn [] tf ex (HandSHeadRun.getT s)
theorem ob_eq (s : PySem.W.SharedT) : ob s = hk.obs s.abs := He.obsX_eq (HandSHeadRun.getT_eq s)
set_option maxHeartbeats 0 in
theorem run (w : World) : HandSHeadRun.RunEq R (PySem.W.view R.prog [77]) hk ob 6000 loose w := by
  intro os
  kernel_rfl
end Mi.K32

namespace Mi.K32
open PySem PySem.Spec PyProof.Rows L2
def T (x : Str) : Option Df := (tbl.map fun e => (e.x, e.d)).lookup x
theorem lookup_of {α : Type} : ∀ {l : List (Str × α)} {x : Str} {d : α}, (l.map (·.1)).Nodup → (x, d) ∈ l → l.lookup x = some d
  | (y, u) :: r, x, d, hn, h => by
    rw [List.map_cons, List.nodup_cons] at hn
    rcases List.mem_cons.mp h with e | h
    · cases e
      rw [List.lookup_cons, beq_self_eq_true]
    · have : x ≠ y := fun e => hn.1 (e ▸ List.mem_map.mpr ⟨_, h, rfl⟩)
      rw [List.lookup_cons]
      have e2 : (x == y) = false := beq_eq_false_iff_ne.mpr this
      rw [e2]
      exact lookup_of hn.2 h
theorem names_nodup : (tbl.map (·.x)).Nodup := by decide +kernel
theorem hT : ∀ e ∈ tbl, T e.x = some e.d := fun e he => lookup_of (by rw [List.map_map]; exact names_nodup) (List.mem_map.mpr ⟨e, he, rfl⟩)
def strsOk : List PV → List He.Dv → Bool
  | [], [] => true
  | .str x :: xs, .str y :: ys => decide (x = y) && strsOk xs ys
  | _, _ => false
theorem strs_rv {K : PySem.W.Frag} {m : List Addr} {H : Hp} : ∀ {xs : List PV} {ds : List He.Dv}, strsOk xs ds = true → RVs K m H xs (ds.map (He.Dv.v K))
  | [], [], _ => rfl
  | .str x :: xs, .str y :: ys, h => by
    rw [strsOk, Bool.and_eq_true, decide_eq_true_eq] at h
    exact ⟨.str y, _, rfl, by rw [h.1]; rfl, strs_rv h.2⟩
theorem cst_ok : (cst.all fun q => match q.2 with
    | .int _ => true
    | .str _ => true
    | .tup xs => decide (q.1 = ("KEPT" : Str)) && strsOk xs kept
    | _ => false) = true := by decide +kernel
theorem fa_glo {e : FDe} (h : e ∈ tbl) : He.Fa.glo e.x ∈ fa := List.mem_append_left _ (List.mem_map.mpr ⟨e, h, rfl⟩)
theorem fa_free {x : Str} (h : x ∈ blts) : He.Fa.free x ∈ fa := List.mem_append_right _ (List.mem_append_right _ (List.mem_map.mpr ⟨x, h, rfl⟩))
theorem fa_cst {q : Str × PV} (h : q ∈ cst) : (match q.2 with
  | .int i => He.Fa.int q.1 i
  | .str z => .str q.1 z
  | _ => .glo q.1) ∈ fa := List.mem_append_right _ (List.mem_append_left _ (List.mem_map.mpr ⟨q, h, rfl⟩))
theorem fcons {α : Type} {P : α → Prop} {x : α} {l : List α} (h : P x) (t : ∀ e ∈ l, P e) : ∀ e ∈ x :: l, P e := fun e he => (List.mem_cons.mp he).elim (fun q => q ▸ h) (t e)
theorem chk_all : ∀ e ∈ tbl, Chk cst (tbl.map (·.x)) 2 e := fcons c_is_name (fcons c_are_rising (fcons c_is_letter (fcons c_is_count (fcons c_are_seats (fcons c_is_pool (fcons c_fits (fcons c_is_single (fcons c_quotas_in (fcons c_is_quota (fcons c_first_state (fcons c_counted (fcons c_shared (fcons c_sat (fcons c_matched (fcons c_together (fcons c_step (fcons c_taken_of (fcons c_takes (fcons c_chosen_by (fcons c_seat_by_seat (fcons c_moved (fcons c_check (fcons c_walked (fcons c_shifted (fcons c_seated (fcons c_is_seating (fcons c_is_lot (fcons c_fitted (fcons c_is_short (fcons c_seat_all (fcons c_best_lot (fcons c_best_paper (fcons c_are_pairs (fcons c_is_seating_part (fcons c_is_refusal (fcons c_is_best_paper (fcons c__law_begun (fcons c__law_mixed (fcons c__law_take (fcons c__law_pick (fcons c__law_shuffled (fcons c__law_drawn (fcons c__law_fits (fcons c__law_one_by_one (fcons c__law_seated (fcons c__law_best (fcons c__law_seats_of (fcons c__law_least_lot (fcons c__law_paper_is_right (fcons c__law_seatings_are_same (fcons c__law_moves_are_right (fcons c_law (fun _ h => nomatch h)))))))))))))))))))))))))))))))))))))))))))))))))))))
section
variable {P : Program} {w : World} {K : PySem.W.Frag} {mg : Str → Option Value} {h base : Heap}
theorem consts (X : K.In h) (G : h.Ns mainGlobals mg) (c : He.SaysX fa fn [] tf ex w h K) : ∀ x pv, (x, pv) ∈ cst → ∃ v u, mg x = some u ∧ RelV v u ∧ ∀ m H, RV K m H pv v := fun x pv hm => by
  have ok := List.all_eq_true.mp cst_ok _ hm
  have hf := c.t.d.facts (fa_cst hm)
  cases pv with
  | int i =>
    obtain ⟨t, e⟩ := He.int_ok X G hf
    exact ⟨.int i, _, e, ⟨t, rfl⟩, fun _ _ => rfl⟩
  | str z =>
    obtain ⟨t, e⟩ := He.str_ok X G hf
    exact ⟨.str z, _, e, ⟨t, rfl⟩, fun _ _ => rfl⟩
  | tup xs =>
    simp only [Bool.and_eq_true, decide_eq_true_eq] at ok
    have e := He.glo_ok X G hf
    refine ⟨.ref (He.ga K x), _, e, rfl, fun m H => ⟨_, kept.map (He.Dv.v K), rfl, ?_, strs_rv ok.2⟩⟩
    rw [ok.1]
    exact He.tupB_ok c.more H
  | _ => cases ok
theorem known (X : K.In h) (G : h.Ns mainGlobals mg) (c : He.SaysX fa fn [] tf ex w h K) (XB : K.In base) : ∀ e ∈ tbl, Kn K mg base ((tf.map (He.cT K)).map (·.2)) e := fun e he => by
  obtain ⟨fd, F⟩ := c.t.d.defs (d := dOf e) (List.mem_map.mpr ⟨e, he, rfl⟩)
  have F : FunD K e.x e.x e.pa e.bd e.sc [] [] (He.ga K e.x) fd := F
  have hp : ((e.x, none) : He.Defn) ∈ tf := List.mem_map.mpr ⟨e, he, rfl⟩
  obtain ⟨oc, od, dV, kV, doc, pm, an, cdv, ct, osl, e1, lk, hcd, _, _⟩ := id F.ex
  obtain ⟨cc, ec⟩ := He.codeIn_ref hcd
  have ef : fd.code = .ref cc := by rw [e1]; exact ec
  have e2 : (He.cT K (e.x, none)).1 = cc := He.codeOf_eq (p := (e.x, none)) lk ef
  refine ⟨He.ga K e.x, fd, cc, (He.cT K (e.x, none)).2, F, He.glo_ok X G (c.t.d.facts (fa_glo he)), ef, ?_, List.mem_map.mpr ⟨_, List.mem_map.mpr ⟨_, hp, rfl⟩, rfl⟩⟩
  rw [← e2]
  exact PySem.W.codeHd_of_K XB (c.hd _ hp)
end
/-- what is left: the law's own answer, by the interpreter -/
def Main (N : Nat) : Prop := ∀ ns : List Int, ns.length ≤ 63 → (∀ z ∈ ns, Builtin.Int.intBits z ≤ 1048576) →
  (∃ st, evF T N 12 "law" [.frl (ns.map .int)] [] = some (.bl true, st)) ∧ ∃ st, evF T N 12 "law" [.loc 0] [.lst (ns.map .int)] = some (.bl true, st)
theorem e_law_mem : e_law ∈ tbl := List.mem_of_getElem? (i := 52) rfl
theorem law_sp {P : Program} {w : World} {K : PySem.W.Frag} {tb : List Addr} {N : Nat} (M : Main N) {H : Hp} {a : Addr} {ns : List Int} (hl : ns.length ≤ 63) (hb : ∀ z ∈ ns, Builtin.Int.intBits z ≤ 1048576) (ht : ∀ Q ∈ tb, H Q = some (.tbl #[])) (hs : SqL K H a (ns.map V.int)) :
    spM ⟨K, P, w, tb, 2⟩ (evF T N 12) "law" [.ref a] H (fun v _ => v = .bl true) fun _ _ _ => False := by
  obtain ⟨⟨st1, h1⟩, st2, h2⟩ := M ns hl hb
  have td : ∀ Q ∈ tb, TD 2 H Q := fun Q hQ => TD.empty (ht Q hQ) 2
  have fr : SqF K H a (ns.map V.int) → spM ⟨K, P, w, tb, 2⟩ (evF T N 12) "law" [.ref a] H (fun v _ => v = .bl true) fun _ _ _ => False := fun hf =>
    ⟨[], [], [.frl (ns.map .int)], .bl true, st1, ⟨rfl, fun l l' a e => (by cases e), fun l o e => (by cases e), td⟩, ⟨_, _, rfl, ⟨a, _, rfl, hf, RVs.ints _⟩, rfl⟩, h1, fun v m' H' _ _ r => r⟩
  rcases hs with (hs | hs) | hs
  · refine ⟨[a], [.lst (ns.map .int)], [.loc 0], .bl true, st2, ⟨rfl, fun l l' b e e' _ _ => ?_, fun l o e => ?_, td⟩, ⟨_, _, rfl, ⟨a, rfl, rfl⟩, rfl⟩, h2, fun v m' H' _ _ r => r⟩
    · have := (List.getElem?_eq_some_iff.mp e).1
      have := (List.getElem?_eq_some_iff.mp e').1
      simp only [List.length_singleton] at *
      omega
    · have hlt := (List.getElem?_eq_some_iff.mp e).1
      have : l = 0 := by simp only [List.length_singleton] at hlt; omega
      subst this
      cases e
      exact ⟨a, rfl, _, hs, RVs.ints _⟩
  · exact fr (.inl hs)
  · exact fr (.inr hs)
end Mi.K32
open PySem PySem.W PySem.Calls PyProof.Rows Mi.K32 in
theorem holds_of {N : Nat} (M : Mi.K32.Main N) : PySem.Challenge.rw_protestproof_k32_whole_seats_and_seating.Holds := by
  w_on; o_law
  refine HandSHeadRun.head_any (r := OpenLaw.row PySem.Challenge.rw_protestproof_k32_whole_seats_and_seating) (q := view (OpenLaw.row PySem.Challenge.rw_protestproof_k32_whole_seats_and_seating).prog [77]) (H := Mi.K32.hk) (ob := Mi.K32.ob) (M := 6000) (loose := Mi.K32.loose) (d := HandSHeadRun.topDef (OpenLaw.row PySem.Challenge.rw_protestproof_k32_whole_seats_and_seating).prog 77) (kwd := []) Mi.K32.ob_eq
    (by kernel_rfl) (fun s => by kernel_rfl) Mi.K32.run (by kernel_rfl) (by kernel_rfl) (by kernel_rfl) (by rfl) (by first | assumption | decide +kernel) (by decide +kernel) ⟨rfl, rfl, rfl, rfl, rfl, by decide +kernel⟩ ?hw ?hc
  case hw => w_witness2
  case hc =>
    refine LamX.walk_ofTsE (l := PySem.Challenge.rw_protestproof_k32_whole_seats_and_seating) (n := 63) (k := 36) (x := "script") (CX := fun _ => C8.CX0) rfl (by decide) (by kernel_rfl) ⟨rfl, by decide, by decide⟩ ?F (fun _ _ _ _ _ z => z)
    intro w mg fa h Y G hmg0
    obtain ⟨K, KX, c⟩ := Y
    have hmg : mg ("law" : PySem.Str) = some (.ref fa) := by
      have e : (HandSHeadRun.topDef (OpenLaw.row PySem.Challenge.rw_protestproof_k32_whole_seats_and_seating).prog 77).name = ("law" : PySem.Str) := by kernel_rfl
      rw [← e]
      exact hmg0
    obtain ⟨fd, F⟩ := c.t.d.defs (d := dOf e_law) (List.mem_map.mpr ⟨e_law, e_law_mem, rfl⟩)
    have F : L2.FunD K e_law.x e_law.x e_law.pa e_law.bd e_law.sc [] [] (He.ga K e_law.x) fd := F
    have ef : fa = He.ga K e_law.x := by
      have e := hmg.symm.trans (He.glo_ok KX G (c.t.d.facts (fa_glo e_law_mem)))
      cases e
      rfl
    subst ef
    have b := L2.FunD.bindsA (ps := ["script"]) F (chk_all e_law e_law_mem).b
    refine ⟨K, KX, fd, tf.map (He.cT K), Mi.spM ⟨K, PySem.Challenge.rw_protestproof_k32_whole_seats_and_seating.prog, w, (tf.map (He.cT K)).map (·.2), 2⟩ (Mi.evF T N 12) "law", ?_, ?_, ?_, fun s v => b s [v] rfl, ?_, ?_⟩
    · intro p hp
      obtain ⟨q, hq, rfl⟩ := List.mem_map.mp hp
      exact c.empty q hq
    · intro p hp
      obtain ⟨q, hq, rfl⟩ := List.mem_map.mp hp
      exact c.out q hq
    · intro p hp
      obtain ⟨q, hq, rfl⟩ := List.mem_map.mp hp
      exact codeHd_of_K KX (c.hd q hq)
    · intro H a ns hl hb hT hS
      refine law_sp M hl hb (fun Q hQ => ?_) hS
      obtain ⟨p, hp, rfl⟩ := List.mem_map.mp hQ
      exact hT p hp
    · intro base XB GB TB
      have bm : Mi.BM base mg := by
        have hp : He.cT K (e_law.x, none) ∈ tf.map (He.cT K) := List.mem_map.mpr ⟨_, List.mem_map.mpr ⟨e_law, e_law_mem, rfl⟩, rfl⟩
        obtain ⟨bm, o, h1, h2, _, _, h3, h4, h5, h6⟩ := (TB _ hp).bm
        exact ⟨bm, o, h1, h2, h3, h4, h5, h6⟩
      obtain ⟨f', fd', F', g', ok⟩ := Mi.fns (T := T) (N := N) (G := 2) (P := PySem.Challenge.rw_protestproof_k32_whole_seats_and_seating.prog) (w := w) hT (known KX G c XB) chk_all bm (consts KX G c) (fun x hx => He.free_ok KX G (c.t.d.facts (fa_free hx))) 12 e_law e_law_mem
      have e1 : f' = He.ga K e_law.x := by
        have e := g'.symm.trans (He.glo_ok KX G (c.t.d.facts (fa_glo e_law_mem)))
        cases e
        rfl
      subst e1
      have e2 : fd' = fd := by
        obtain ⟨oc, od, dV, kV, doc, pm, an, cdv, ct, osl, _, lk, _⟩ := F.ex
        obtain ⟨oc', od', dV', kV', doc', pm', an', cdv', ct', osl', _, lk', _⟩ := F'.ex
        rw [lk] at lk'
        cases lk'
        rfl
      subst e2
      exact ok

namespace Mi.K32
open PySem PySem.Spec PyProof.Rows L2 Mi
def fitsP (l s : Let) : Bool := decide (s = []) || l.any fun x => decide (x ∈ s)
variable {N : Nat}
theorem ev_fits {k : Nat} {l s : Let} {st : Store} (hs : okL s) : Wo (evF T N (k + 1) "fits" [eL l, eL s] st) fun x st' => x = .bl (fitsP l s) ∧ Ext st st' := by
  refine wf (d := d_fits) (hT e_fits (List.mem_of_getElem? (i := 6) rfl)) rfl ?_
  show WS _ _ b_fits _ _ _
  unfold b_fits
  refine ws_sq (ws_re ?_)
  simp only [we_bl, wb_ac, wb_last, we_cm, we_v, we_tp, wa_an]
  refine ⟨eL s, rfl, Nat.zero_le _, cmp_eq (pl_L hs) (pl_L (n := 29) (l := []) (fun _ h => by cases h)) fun c hc => ?_⟩
  rw [tr_bl]
  have hc : c = true ↔ s = [] := hc.trans ⟨fun e => eL_inj (b := []) e, fun e => by rw [e]; rfl⟩
  cases c with
  | true =>
    rw [if_neg (by decide)]
    exact ⟨by unfold fitsP; rw [hc.mp rfl]; rfl, Ext.refl _⟩
  | false =>
    rw [if_pos rfl]
    refine we_any (wi_it ?_)
    rw [we_v]
    refine ⟨eL l, rfl, ?_⟩
    show Wo (loopB _ _ _ _ _ _ _ _) _
    refine wo_mono (loopB_pure (fun x => match x with | .str z => decide (z ∈ s) | _ => false) (Ext.refl _) (fun _ _ => rfl) fun x hx s1 h1 => ?_) fun b s2 ⟨e, h2⟩ => ?_
    · obtain ⟨z, hz, rfl⟩ := List.mem_map.mp hx
      refine wg_tn.mpr (wt_an.mpr ⟨rfl, ?_⟩)
      refine we_cm.mpr (we_v.mpr ?_)
      simp only [we_v]
      exact ⟨.str z, rfl, eL s, rfl, cmp_in in_str ⟨rfl, h1⟩⟩
    · refine ⟨?_, h2⟩
      rw [e]
      unfold fitsP
      have n : ¬ s = [] := fun z => by have := hc.mpr z; cases this
      rw [decide_eq_false n, if_pos rfl, Bool.false_or, List.any_map]
      rfl
end Mi.K32

namespace Mi.K32
open PySem PySem.Spec PyProof.Rows L2 Mi
variable {N : Nat}
def keptOf : PV → Let
  | .tup xs => xs.filterMap fun z => match z with
    | .str x => some x
    | _ => none
  | _ => []
def keptL : Let := keptOf ((cst.lookup ("KEPT" : Str)).getD .non)
def signs : Str := "abcdefghijklmnopqrstuvwxyz"
def okName (x : Str) : Bool := decide (1 ≤ x.length) && decide (x.length ≤ 8) && x.cps.toList.all (fun c => decide (c ∈ signs.cps.toList)) && decide (x ∉ keptL)
theorem ev_is_name {k : Nat} {x : Str} {st : Store} (hx : okName x = true) : Wo (evF T N (k + 1) "is_name" [.str x] st) fun r st' => r = .bl true ∧ Ext st st' := by
  unfold okName at hx
  simp only [Bool.and_eq_true, decide_eq_true_eq] at hx
  obtain ⟨⟨⟨h1, h2⟩, h3⟩, h4⟩ := hx
  refine wf (d := d_is_name) (hT e_is_name (List.mem_of_getElem? (i := 0) rfl)) rfl ?_
  show WS _ _ b_is_name _ _ _
  unfold b_is_name
  refine ws_sq (ws_cnd ?_)
  simp only [we_bl, wb_ac, wb_last, we_nt, we_isi, we_v, we_ch, we_k, we_g, we_bi, wa_ac, wa_an]
  refine ⟨.str x, rfl, true, rfl, ?_⟩
  simp only [tr_bl, Bool.not_true, ite_true]
  have hl : x.length ≤ LIM := Nat.le_trans h2 (by decide)
  refine ⟨.str x, rfl, bi_len_str hl (cmp_le ?_)⟩
  rw [if_pos (decide_eq_true (by omega))]
  refine cmp_le ?_
  rw [decide_eq_true (show (x.length : Int) ≤ 8 by omega)]
  rw [if_neg (by decide)]
  refine ws_sn (ws_sq (ws_re ?_))
  simp only [we_bl, wb_ac, wb_last, we_bi, wa_ac, wa_an]
  refine we_lc (wi_it ?_)
  simp only [we_v]
  refine ⟨.str x, rfl, ?_⟩
  refine wo_mono (loopC_pure (fun z => match z with | .str z => some (.bl (z.cps.toList.all fun c => decide (c ∈ signs.cps.toList))) | _ => none) (fun _ _ => rfl) ?_ fun z hz s1 e1 => ?_) fun ys s2 ⟨e2, h5⟩ => ?_
  · rw [List.length_map, Array.length_toList]
    exact Nat.lt_of_le_of_lt (show x.cps.size ≤ 8 from h2) (by decide)
  · obtain ⟨c, hc, rfl⟩ := List.mem_map.mp hz
    refine wg_tn.mpr (wt_an.mpr ⟨rfl, ?_⟩)
    simp only [we_cm, we_v, we_g]
    refine ⟨_, rfl, cmp_in (c := decide (c ∈ signs.cps.toList)) rfl ⟨?_, e1⟩⟩
    show PV.bl _ = PV.bl ([c].all _)
    simp
  · rw [filterMap_enc (f := fun c => PV.bl (decide (c ∈ signs.cps.toList))) (fun c => by show some (PV.bl ([c].all _)) = _; simp)] at e2
    subst e2
    refine bi_all_loc new_get (toBools_map _ _) (tr_bl.mpr ?_)
    rw [all_id, h3, if_pos rfl]
    simp only [we_cm, we_v, we_g]
    refine ⟨.str x, rfl, cmp_nin (in_str (l := keptL)) ⟨?_, h5.trans (Ext.app _ _)⟩⟩
    rw [decide_eq_false h4]
    rfl
end Mi.K32

namespace Mi.K32
open PySem PySem.Spec PyProof.Rows L2 Mi
variable {N : Nat}
theorem cons_drop {α : Type} {L : List α} {i : Nat} {x : α} {r : List α} (h : x :: r = L.drop i) : L[i]? = some x ∧ r = L.drop (i + 1) := by
  have hi : i < L.length := by
    apply Nat.lt_of_not_le
    intro hle
    rw [List.drop_eq_nil_of_le hle] at h
    cases h
  rw [List.drop_eq_getElem_cons hi] at h
  injection h with h1 h2
  exact ⟨by rw [List.getElem?_eq_getElem hi, h1], h2⟩
def ltS (x y : Str) : Bool := decide (x.cps.toList < y.cps.toList)
def rising : Let → Bool
  | x :: y :: r => ltS x y && rising (y :: r)
  | _ => true
theorem rising_get : ∀ {l : Let} {i : Nat} {x y : Str}, rising l = true → l[i]? = some x → l[i + 1]? = some y → ltS x y = true
  | [], i, x, y, _, h, _ => by simp at h
  | [a], i, x, y, _, h, h' => by simp at h'
  | a :: b :: r, 0, x, y, hr, h, h' => by
    rw [rising, Bool.and_eq_true] at hr
    simp at h h'
    subst h h'
    exact hr.1
  | a :: b :: r, i + 1, x, y, hr, h, h' => by
    rw [rising, Bool.and_eq_true] at hr
    rw [List.getElem?_cons_succ] at h h'
    exact rising_get hr.2 h h'
def okLet (l : Let) : Bool := decide (l.length ≤ 3) && l.all okName && rising l
theorem ev_are_rising {k : Nat} {l : Let} {st : Store} (hn : l.all okName = true) (hr : rising l = true) : Wo (evF T N (k + 2) "are_rising" [eL l] st) fun r st' => r = .bl true ∧ Ext st st' := by
  refine wf (d := d_are_rising) (hT e_are_rising (List.mem_of_getElem? (i := 1) rfl)) rfl ?_
  show WS _ _ b_are_rising _ _ _
  unfold b_are_rising
  refine ws_sq (ws_fo (fun rest ρ s => ∃ i a b, rest = ((l.map PV.str).zipIdx.map fun p => PV.tup [.int p.2, p.1]).drop i ∧ ρ = [some (eL l), a, b] ∧ Ext st s) (wi_en ?_))
  simp only [we_v]
  refine ⟨eL l, rfl, l.map .str, rfl, ⟨0, none, none, rfl, rfl, Ext.refl _⟩, ?_, ?_⟩
  · rintro x r ρ s ⟨i, a, b, h1, rfl, hx⟩
    obtain ⟨g, h2⟩ := cons_drop h1
    rw [List.getElem?_map, List.getElem?_zipIdx, List.getElem?_map] at g
    cases hli : l[i]? with
    | none => rw [hli] at g; cases g
    | some z =>
      rw [hli] at g
      simp at g
      subst g
      have hz : okName z = true := List.all_eq_true.mp hn z (List.mem_of_getElem? hli)
      refine ⟨rfl, wg_tt.mpr (wgs_ac.mpr (wg_tn.mpr (wgs_ac.mpr (wg_tn.mpr (wgs_an.mpr ?_)))))⟩
      refine ws_sq (ws_cnd ?_)
      simp only [we_bl, wb_ac, wb_last, we_nt, we_ca, wa_ac, wa_an, we_v, we_cm, we_k]
      refine ⟨.str z, rfl, wo_mono (ev_is_name hz) fun q s1 ⟨e1, x1⟩ => ?_⟩
      subst e1
      simp only [tr_bl, Bool.not_true, ite_true]
      refine ⟨.int i, rfl, cmp_gt ?_⟩
      have hx1 := hx.trans x1
      by_cases hi : (0 : Int) < (i : Int)
      · rw [if_pos (decide_eq_true hi)]
        obtain ⟨j, rfl⟩ : ∃ j, i = j + 1 := ⟨i - 1, by omega⟩
        obtain ⟨y, hy⟩ : ∃ y, l[j]? = some y := ⟨_, List.getElem?_eq_getElem (by have := (List.getElem?_eq_some_iff.mp hli).1; omega)⟩
        simp only [we_ix, we_bo, we_v, we_k]
        refine ⟨_, rfl, _, rfl, bo_sub ?_⟩
        rw [show ((j + 1 : Nat) : Int) - 1 = ((j : Nat) : Int) by omega]
        refine ix_tup (x := .str y) (by rw [List.getElem?_map, hy]; rfl) ⟨.str z, rfl, cmp_lts ?_⟩
        rw [show decide (y.cps.toList < z.cps.toList) = true from rising_get hr hy hli]
        rw [if_neg (by decide)]
        refine ws_sn (ws_sn ?_)
        exact ⟨j + 1 + 1, _, _, h2, rfl, hx1⟩
      · rw [if_neg (by simpa using hi), decide_eq_false hi, if_neg (by decide)]
        refine ws_sn (ws_sn ?_)
        exact ⟨i + 1, _, _, h2, rfl, hx1⟩
  · rintro ρ s ⟨i, a, b, h1, rfl, hx⟩
    refine ⟨rfl, ?_⟩
    refine ws_sq (ws_re ?_)
    simp only [we_k]
    exact ⟨rfl, hx⟩
end Mi.K32

namespace Mi.K32
open PySem PySem.Spec PyProof.Rows L2 Mi
variable {N : Nat}
theorem ev_is_letter {k : Nat} {l : Let} {st : Store} (h : okLet l = true) : Wo (evF T N (k + 3) "is_letter" [eL l] st) fun r st' => r = .bl true ∧ Ext st st' := by
  unfold okLet at h
  simp only [Bool.and_eq_true, decide_eq_true_eq] at h
  obtain ⟨⟨h1, h2⟩, h3⟩ := h
  refine wf (d := d_is_letter) (hT e_is_letter (List.mem_of_getElem? (i := 2) rfl)) rfl ?_
  show WS _ _ b_is_letter _ _ _
  unfold b_is_letter
  refine ws_sq (ws_re ?_)
  simp only [we_bl, wb_ac, wb_last, we_isi, we_v, we_cm, we_g, we_bi, we_ca, wa_ac, wa_an]
  refine ⟨eL l, rfl, true, rfl, ?_⟩
  simp only [tr_bl, ite_true]
  refine ⟨eL l, rfl, bi_len_tup (cmp_le ?_)⟩
  rw [List.length_map, if_pos (decide_eq_true (by omega))]
  exact ⟨eL l, rfl, wo_mono (ev_are_rising h2 h3) fun q s1 ⟨e1, x1⟩ => ⟨e1, x1⟩⟩
theorem all_true {α : Type} {l : List α} {f : α → Bool} (h : ∀ x ∈ l, f x = true) : l.all f = true := List.all_eq_true.mpr h
theorem ev_are_seats {k m : Nat} {p : List Let} {st : Store} (h : ∀ l ∈ p, okLet l = true) (hl : p.length ≤ m) : Wo (evF T N (k + 4) "are_seats" [eP p, .int (m : Nat)] st) fun r st' => r = .bl true ∧ Ext st st' := by
  refine wf (d := d_are_seats) (hT e_are_seats (List.mem_of_getElem? (i := 4) rfl)) rfl ?_
  show WS _ _ b_are_seats _ _ _
  unfold b_are_seats
  refine ws_sq (ws_re ?_)
  simp only [we_bl, wb_ac, wb_last, we_isi, we_v, we_cm, we_g, we_bi, wa_ac, wa_an]
  refine ⟨eP p, rfl, true, rfl, ?_⟩
  simp only [tr_bl, ite_true]
  refine ⟨eP p, rfl, bi_len_tup ⟨.int (m : Nat), rfl, cmp_le ?_⟩⟩
  rw [List.length_map, if_pos (decide_eq_true (by omega))]
  refine we_all (wi_it ?_)
  simp only [we_v]
  refine ⟨eP p, rfl, ?_⟩
  show Wo (loopB _ _ _ _ _ _ _ _) _
  refine wo_mono (loopB_pure (fun _ => true) (Ext.refl _) (fun _ _ => rfl) fun x hx s1 h1 => ?_) fun b s2 ⟨e, h2⟩ => ?_
  · obtain ⟨z, hz, rfl⟩ := List.mem_map.mp hx
    refine wg_tn.mpr (wt_an.mpr ⟨rfl, ?_⟩)
    simp only [we_ca, wa_ac, wa_an, we_v]
    exact ⟨eL z, rfl, wo_mono (ev_is_letter (h z hz)) fun q s2 ⟨e1, x1⟩ => ⟨e1, h1.trans x1⟩⟩
  · refine ⟨?_, h2⟩
    rw [e, if_neg (by decide), all_true (fun _ _ => rfl)]
theorem ev_is_pool {k : Nat} {p : List Let} {st : Store} (h : ∀ l ∈ p, okLet l = true) (hl : p.length ≤ 200) : Wo (evF T N (k + 4) "is_pool" [eP p] st) fun r st' => r = .bl true ∧ Ext st st' := by
  refine wf (d := d_is_pool) (hT e_is_pool (List.mem_of_getElem? (i := 5) rfl)) rfl ?_
  show WS _ _ b_is_pool _ _ _
  unfold b_is_pool
  refine ws_sq (ws_re ?_)
  simp only [we_bl, wb_ac, wb_last, we_isi, we_v, we_cm, we_g, we_bi, wa_ac, wa_an]
  refine ⟨eP p, rfl, true, rfl, ?_⟩
  simp only [tr_bl, ite_true]
  refine ⟨eP p, rfl, bi_len_tup (cmp_le ?_)⟩
  rw [List.length_map, if_pos (decide_eq_true (by omega))]
  refine we_all (wi_it ?_)
  simp only [we_v]
  refine ⟨eP p, rfl, ?_⟩
  show Wo (loopB _ _ _ _ _ _ _ _) _
  refine wo_mono (loopB_pure (fun _ => true) (Ext.refl _) (fun _ _ => rfl) fun x hx s1 h1 => ?_) fun b s2 ⟨e, h2⟩ => ?_
  · obtain ⟨z, hz, rfl⟩ := List.mem_map.mp hx
    refine wg_tn.mpr (wt_an.mpr ⟨rfl, ?_⟩)
    simp only [we_ca, wa_ac, wa_an, we_v]
    exact ⟨eL z, rfl, wo_mono (ev_is_letter (h z hz)) fun q s2 ⟨e1, x1⟩ => ⟨e1, h1.trans x1⟩⟩
  · refine ⟨?_, h2⟩
    rw [e, if_neg (by decide), all_true (fun _ _ => rfl)]
theorem ev_check {k : Nat} {p q : List Let} {st : Store} (h : ∀ l ∈ p, okLet l = true) (hl : p.length ≤ 40) (h' : ∀ l ∈ q, okLet l = true) (hl' : q.length ≤ 200) : Wo (evF T N (k + 5) "check" [eP p, eP q] st) fun r st' => r = .non ∧ Ext st st' := by
  refine wf (d := d_check) (hT e_check (List.mem_of_getElem? (i := 22) rfl)) rfl ?_
  show WS _ _ b_check _ _ _
  unfold b_check
  refine ws_sq (ws_cnd ?_)
  simp only [we_nt, we_ca, wa_ac, wa_an, we_v, we_g]
  refine ⟨eP p, rfl, wo_mono (ev_are_seats (m := 40) h hl) fun r s1 ⟨e1, x1⟩ => ?_⟩
  subst e1
  simp only [tr_bl, Bool.not_true]
  rw [if_neg (by decide)]
  refine ws_sn (ws_sq (ws_cnd ?_))
  simp only [we_nt, we_ca, wa_ac, wa_an, we_v, we_g]
  refine ⟨eP q, rfl, wo_mono (ev_is_pool h' hl') fun r s2 ⟨e2, x2⟩ => ?_⟩
  subst e2
  simp only [tr_bl, Bool.not_true]
  rw [if_neg (by decide)]
  exact ws_sn (ws_sn ⟨rfl, x1.trans x2⟩)
end Mi.K32

namespace Mi.K32
open PySem PySem.Spec PyProof.Rows L2 Mi
variable {N : Nat}
/-- one new place that is written, then only new ones -/
def Hd (st : Store) (o : MO) (s : Store) : Prop := ∃ t, s = st ++ o :: t
theorem Hd.get {st s : Store} {o : MO} (h : Hd st o s) : s[st.length]? = some o := by
  obtain ⟨t, rfl⟩ := h
  rw [List.getElem?_append_right (Nat.le_refl _), Nat.sub_self]; rfl
theorem Hd.ext {st s s' : Store} {o : MO} (h : Hd st o s) (x : Ext s s') : Hd st o s' := by
  obtain ⟨t, rfl⟩ := h
  obtain ⟨u, rfl⟩ := x
  exact ⟨t ++ u, by rw [List.append_assoc]; rfl⟩
theorem Hd.set {st s : Store} {o o' : MO} (h : Hd st o s) : Hd st o' (s.set st.length o') := by
  obtain ⟨t, rfl⟩ := h
  exact ⟨t, by rw [List.set_append_right _ _ (Nat.le_refl _), Nat.sub_self]; rfl⟩
theorem Hd.out {st s : Store} {o : MO} (h : Hd st o s) : Ext st s := by
  obtain ⟨t, rfl⟩ := h
  exact ⟨_, rfl⟩
theorem mt_append {st : Store} {l : Nat} {xs : List PV} {x : PV} {Q : PV → Store → Prop} (e : st[l]? = some (.lst xs)) (hl : xs.length < LIM) (h : Q .non (st.set l (.lst (xs ++ [x])))) : Wo (methP .append (.loc l) [x] st) Q := ⟨_, _, by simp only [methP]; rw [e]; simp only; rw [if_pos hl], h⟩
theorem recv_append {st : Store} {l : Nat} {xs : List PV} (e : st[l]? = some (.lst xs)) : recvP .append (.loc l) st = true := by simp only [recvP]; rw [e]
theorem pl_O {n : Nat} {o : Option Nat} : (eO o).pl n = true := by cases o <;> rw [eO, PV.pl]
theorem pl_int {n : Nat} {i : Int} : (PV.int i).pl n = true := by rw [PV.pl]
theorem eO_int {i : Nat} {o : Option Nat} : PV.int (i : Nat) = eO o ↔ o = some i := by
  cases o with
  | none => exact ⟨fun h => (by cases h), fun h => (by cases h)⟩
  | some j => exact ⟨fun h => (by injection h with h; congr 1; omega), fun h => (by cases h; rfl)⟩
def okAt (pool : List Let) (skip : Option Nat) (found : List (Option Nat)) (seat : Let) (i : Nat) : Bool := decide (skip ≠ some i) && decide (some i ∉ found) && fitsP (pool.getD i []) seat
def firstFit (pool : List Let) (skip : Option Nat) (found : List (Option Nat)) (seat : Let) : Option Nat := (List.range pool.length).find? (okAt pool skip found seat)
def chosen (pool : List Let) (skip : Option Nat) : List Let → List (Option Nat) → List (Option Nat)
  | [], found => found
  | seat :: r, found => chosen pool skip r (found ++ [firstFit pool skip found seat])
theorem chosen_len (pool : List Let) (skip : Option Nat) : ∀ (seats : List Let) (found : List (Option Nat)), (chosen pool skip seats found).length = found.length + seats.length
  | [], found => rfl
  | s :: r, found => by rw [chosen, chosen_len pool skip r, List.length_append]; simp only [List.length_cons, List.length_nil]; omega
theorem chosen_snoc (pool : List Let) (skip : Option Nat) (seat : Let) : ∀ (seats : List Let) (found : List (Option Nat)), chosen pool skip (seats ++ [seat]) found = chosen pool skip seats found ++ [firstFit pool skip (chosen pool skip seats found) seat]
  | [], found => rfl
  | s :: r, found => by rw [List.cons_append, chosen, chosen, chosen_snoc pool skip seat r]
theorem find_range_some {n i : Nat} {p : Nat → Bool} (hi : i < n) (hp : p i = true) (hb : ∀ j, j < i → p j = false) : (List.range n).find? p = some i := by
  rw [List.find?_range_eq_some]
  exact ⟨hp, List.mem_range.mpr hi, fun j hj => by rw [hb j hj]; rfl⟩
theorem find_range_none {n : Nat} {p : Nat → Bool} (hb : ∀ j, j < n → p j = false) : (List.range n).find? p = none := by
  rw [List.find?_eq_none]
  intro x hx
  rw [hb x (List.mem_range.mp hx)]
  decide
theorem ev_chosen_by {k : Nat} {seats pool : List Let} {skip : Option Nat} {st : Store} (hs : okP seats) (hl : seats.length < 1000) : Wo (evF T N (k + 2) "chosen_by" [eP seats, eP pool, eO skip] st) fun r s => r = .loc st.length ∧ Hd st (.lst ((chosen pool skip seats []).map eO)) s := by
  refine wf (d := d_chosen_by) (hT e_chosen_by (List.mem_of_getElem? (i := 19) rfl)) rfl ?_
  show WS _ _ b_chosen_by _ _ _
  unfold b_chosen_by
  refine ws_sq (ws_as ?_)
  simp only [we_ls, wa_an]
  refine ⟨Nat.zero_le _, wg_tn.mpr ?_⟩
  refine ws_sq (ws_fo (fun rest ρ s => ∃ done left a b c d, seats = done ++ left ∧ rest = left.map eL ∧ ρ = [some (eP seats), some (eP pool), some (eO skip), some (.loc st.length), a, b, c, d] ∧ Hd st (.lst ((chosen pool skip done []).map eO)) s) (wi_it ?_))
  simp only [we_v]
  refine ⟨eP seats, rfl, ⟨[], seats, none, none, none, none, rfl, rfl, rfl, ⟨[], rfl⟩⟩, ?_, ?_⟩
  · rintro x r ρ s ⟨done, left, a, b, c, d, e1, e2, rfl, h⟩
    cases left with
    | nil => cases e2
    | cons seat left =>
      injection e2 with e2 e3
      subst e2 e3
      have hseat : okL seat := hs seat (by rw [e1]; simp)
      refine ⟨rfl, wg_tn.mpr ?_⟩
      refine ws_sq (ws_as ?_)
      simp only [we_k]
      refine wg_tn.mpr ?_
      generalize hf : chosen pool skip done [] = found at h
      have hfl : found.length = done.length := by rw [← hf, chosen_len]; simp
      have hdl : done.length < 1000 := by rw [e1, List.length_append] at hl; omega
      refine ws_sq (ws_fo (fun rest ρ s => ∃ i c d, rest = ((pool.map eL).zipIdx.map fun p => PV.tup [.int p.2, p.1]).drop i ∧ i ≤ pool.length ∧ ρ = [some (eP seats), some (eP pool), some (eO skip), some (.loc st.length), some (eL seat), some .non, c, d] ∧ Hd st (.lst (found.map eO)) s ∧ ∀ j, j < i → okAt pool skip found seat j = false) (wi_en ?_))
      simp only [we_v]
      -- what follows the inner loop
      have fin : ∀ {best : Option Nat} {s1 : Store} {c d : Option PV}, firstFit pool skip found seat = best → Hd st (.lst (found.map eO)) s1 → WS (evF T N (k + 1)) N (.sq (.ex (.mth .append (.v 3) (.ac (.v 5) .an))) .sn) [some (eP seats), some (eP pool), some (eO skip), some (.loc st.length), some (eL seat), some (eO best), c, d] s1 fun q => match q with
          | .nx ρ2 st2 => ∃ done' left' a b c d, seats = done' ++ left' ∧ left.map eL = left'.map eL ∧ ρ2 = [some (eP seats), some (eP pool), some (eO skip), some (.loc st.length), a, b, c, d] ∧ Hd st (.lst ((chosen pool skip done' []).map eO)) st2
          | _ => False := fun {best s1 c d} hb h1 => by
        refine ws_sq (ws_ex ?_)
        simp only [we_mth, we_v, wa_ac, wa_an]
        refine ⟨_, rfl, recv_append h1.get, _, rfl, mt_append h1.get (by rw [List.length_map, hfl]; exact Nat.lt_trans hdl (by decide)) ?_⟩
        refine ws_sn ⟨done ++ [seat], left, _, _, _, _, by rw [e1, List.append_assoc]; rfl, rfl, rfl, ?_⟩
        rw [chosen_snoc, hf, hb, List.map_append]
        exact h1.set
      refine ⟨eP pool, rfl, pool.map eL, rfl, ⟨0, c, d, rfl, Nat.zero_le _, rfl, h, fun j hj => by omega⟩, ?_, ?_⟩
      · rintro x r ρ s ⟨i, c, d, h1, hi, rfl, h, hb⟩
        obtain ⟨g, h2⟩ := cons_drop h1
        rw [List.getElem?_map, List.getElem?_zipIdx, List.getElem?_map] at g
        cases hli : pool[i]? with
        | none => rw [hli] at g; cases g
        | some z =>
          rw [hli] at g
          simp at g
          subst g
          have hip := (List.getElem?_eq_some_iff.mp hli).1
          have hz : pool.getD i [] = z := by rw [List.getD_eq_getElem?_getD, hli]; rfl
          refine ⟨rfl, wg_tt.mpr (wgs_ac.mpr (wg_tn.mpr (wgs_ac.mpr (wg_tn.mpr (wgs_an.mpr ?_)))))⟩
          refine ws_sq (ws_cnd ?_)
          simp only [we_bl, wb_ac, wb_last, we_ca, wa_ac, wa_an, we_v, we_cm]
          have next : ∀ {s1 : Store}, Ext s s1 → okAt pool skip found seat i = false → ∃ i' c d, r = ((pool.map eL).zipIdx.map fun p => PV.tup [.int p.2, p.1]).drop i' ∧ i' ≤ pool.length ∧ [some (eP seats), some (eP pool), some (eO skip), some (.loc st.length), some (eL seat), some .non, some (.int (i : Nat)), some (eL z)] = [some (eP seats), some (eP pool), some (eO skip), some (.loc st.length), some (eL seat), some .non, c, d] ∧ Hd st (.lst (found.map eO)) s1 ∧ ∀ j, j < i' → okAt pool skip found seat j = false := fun {s1} x1 hno =>
            ⟨i + 1, _, _, h2, hip, rfl, h.ext x1, fun j hj => by
              by_cases e : j = i
              · rw [e]; exact hno
              · exact hb j (by omega)⟩
          refine ⟨_, rfl, _, rfl, cmp_ne pl_int pl_O fun c1 hc1 => tr_bl.mpr ?_⟩
          rw [ne_eq, eO_int] at hc1
          cases c1 with
          | false =>
            rw [if_neg (by decide), tr_bl, if_neg (by decide)]
            have q : skip = some i := Classical.byContradiction fun z => by have := hc1.mpr z; cases this
            refine ws_sn (ws_sn ?_)
            exact next (Ext.refl _) (by unfold okAt; rw [decide_eq_false (by simpa using q)]; rfl)
          | true =>
            have q := hc1.mp rfl
            rw [if_pos rfl]
            refine ⟨_, rfl, _, rfl, cmp_nin (in_optL h.get) (tr_bl.mpr ?_)⟩
            by_cases hin : some i ∈ found
            · rw [decide_eq_true hin, if_neg (by decide), tr_bl, if_neg (by decide)]
              refine ws_sn (ws_sn ?_)
              exact next (Ext.refl _) (by unfold okAt; rw [decide_eq_false (show ¬ some i ∉ found by simpa using hin)]; simp)
            · rw [decide_eq_false hin, if_pos (by decide)]
              refine ⟨_, rfl, _, rfl, wo_mono (ev_fits hseat) fun y s1 ⟨ey, x1⟩ => ?_⟩
              subst ey
              rw [tr_bl]
              have eok : okAt pool skip found seat i = fitsP z seat := by unfold okAt; rw [hz, decide_eq_true q, decide_eq_true hin]; rfl
              cases hfit : fitsP z seat with
              | false =>
                rw [if_neg (by decide)]
                refine ws_sn (ws_sn ?_)
                exact next x1 (by rw [eok, hfit])
              | true =>
                rw [if_pos rfl]
                refine ws_sq (ws_as ?_)
                simp only [we_v]
                refine ⟨_, rfl, wg_tn.mpr (ws_sq (ws_br ?_))⟩
                show WS _ _ (.sq (.ex (.mth .append (.v 3) (.ac (.v 5) .an))) .sn) _ _ _
                exact ws_mono (fin (best := some i) (find_range_some hip (by rw [eok, hfit]) hb) (h.ext x1)) fun q hq => by cases q <;> first | exact hq | exact hq.elim
      · rintro ρ s ⟨i, c, d, h1, hi, rfl, h, hb⟩
        refine ⟨rfl, ?_⟩
        have : pool.length ≤ i := by
          have := congrArg List.length h1
          simp at this
          omega
        show WS _ _ (.sq (.ex (.mth .append (.v 3) (.ac (.v 5) .an))) .sn) _ _ _
        exact ws_mono (fin (best := none) (find_range_none fun j hj => hb j (by omega)) h) fun q hq => by cases q <;> first | exact hq | exact hq.elim
  · rintro ρ s ⟨done, left, a, b, c, d, e1, e2, rfl, h⟩
    refine ⟨rfl, ws_sq (ws_re ?_)⟩
    simp only [we_v]
    refine ⟨_, rfl, rfl, ?_⟩
    have : left = [] := by cases left <;> first | rfl | cases e2
    rw [this, List.append_nil] at e1
    rw [e1]
    exact h
end Mi.K32

namespace Mi.K32
open PySem PySem.Spec PyProof.Rows L2 Mi
variable {N : Nat}
theorem okL_of {l : Let} (h : okLet l = true) : okL l := fun x hx => by
  unfold okLet at h
  simp only [Bool.and_eq_true, decide_eq_true_eq] at h
  have hn := List.all_eq_true.mp h.1.2 x hx
  unfold okName at hn
  simp only [Bool.and_eq_true, decide_eq_true_eq] at hn
  have h3 := List.all_eq_true.mp hn.1.2
  unfold PyData.strOk
  rw [← Array.all_toList]
  refine List.all_eq_true.mpr fun c hc => ?_
  have := of_decide_eq_true (h3 c hc)
  have key : signs.cps.toList.all (fun c => decide (c < 0x110000)) = true := by decide +kernel
  exact List.all_eq_true.mp key c this
theorem okP_of {p : List Let} (h : ∀ l ∈ p, okLet l = true) : okP p := fun l hl => okL_of (h l hl)
def sbs (seats pool : List Let) : List (Option Nat) := chosen pool none seats []
theorem ev_seat_by_seat {k : Nat} {p q : List Let} {st : Store} (h : ∀ l ∈ p, okLet l = true) (hl : p.length ≤ 40) (h' : ∀ l ∈ q, okLet l = true) (hl' : q.length ≤ 200) : Wo (evF T N (k + 5) "seat_by_seat" [eP p, eP q] st) fun r st' => r = .tup ((sbs p q).map eO) ∧ Ext st st' := by
  refine wf (d := d_seat_by_seat) (hT e_seat_by_seat (List.mem_of_getElem? (i := 20) rfl)) rfl ?_
  show WS _ _ b_seat_by_seat _ _ _
  unfold b_seat_by_seat
  refine ws_sq (ws_cnd ?_)
  simp only [we_nt, we_ca, wa_ac, wa_an, we_v, we_g]
  refine ⟨eP p, rfl, wo_mono (ev_are_seats (m := 40) h hl) fun r s1 ⟨e1, x1⟩ => ?_⟩
  subst e1
  simp only [tr_bl, Bool.not_true]
  rw [if_neg (by decide)]
  refine ws_sn (ws_sq (ws_cnd ?_))
  simp only [we_nt, we_ca, wa_ac, wa_an, we_v, we_g]
  refine ⟨eP q, rfl, wo_mono (ev_is_pool h' hl') fun r s2 ⟨e2, x2⟩ => ?_⟩
  subst e2
  simp only [tr_bl, Bool.not_true]
  rw [if_neg (by decide)]
  refine ws_sn (ws_sq (ws_re ?_))
  simp only [we_bi, we_ca, wa_ac, wa_an, we_v, we_k]
  refine ⟨eP p, rfl, eP q, rfl, wo_mono (ev_chosen_by (skip := none) (okP_of h) (by omega)) fun r s3 ⟨e3, h3⟩ => ?_⟩
  subst e3
  exact bi_tuple_loc h3.get ⟨rfl, (x1.trans x2).trans h3.out⟩
end Mi.K32

namespace Mi.K32
open PySem PySem.Spec PyProof.Rows L2 Mi
variable {N : Nat}
theorem eO_inj {a b : Option Nat} : eO a = eO b ↔ a = b := by
  cases a with
  | none => cases b with
    | none => exact ⟨fun _ => rfl, fun _ => rfl⟩
    | some j => exact ⟨fun h => (by cases h), fun h => (by cases h)⟩
  | some i =>
    show PV.int _ = eO b ↔ _
    rw [eO_int]
    exact ⟨fun h => h.symm, fun h => h.symm⟩
def mvAt (full rest : List (Option Nat)) (i : Nat) : Option PV := if full.getD i none = rest.getD i none then none else some (.tup [.int (i : Nat), eO (full.getD i none), eO (rest.getD i none)])
def mvs (full rest : List (Option Nat)) (n : Nat) : List PV := (List.range n).filterMap (mvAt full rest)
theorem ev_moved {k out : Nat} {p q : List Let} {st : Store} (h : ∀ l ∈ p, okLet l = true) (hl : p.length ≤ 40) (h' : ∀ l ∈ q, okLet l = true) (hl' : q.length ≤ 200) (ho : out < q.length) : Wo (evF T N (k + 6) "moved" [eP p, eP q, .int (out : Nat)] st) fun r st' => r = .tup (mvs (sbs p q) (chosen q (some out) p []) p.length) ∧ Ext st st' := by
  refine wf (d := d_moved) (hT e_moved (List.mem_of_getElem? (i := 21) rfl)) rfl ?_
  show WS _ _ b_moved _ _ _
  unfold b_moved
  refine ws_sq (ws_as ?_)
  simp only [we_ca, wa_ac, wa_an, we_v]
  refine ⟨eP p, rfl, eP q, rfl, wo_mono (ev_seat_by_seat h hl h' hl') fun r s1 ⟨e1, x1⟩ => ?_⟩
  subst e1
  refine wg_tn.mpr (ws_sq (ws_cnd ?_))
  simp only [we_bl, wb_ac, wb_last, we_nt, we_isi, we_v, we_ch, we_k, we_g, we_bi, wa_ac, wa_an]
  refine ⟨.int (out : Nat), rfl, true, rfl, ?_⟩
  simp only [tr_bl, Bool.not_true, ite_true]
  refine ⟨.int (out : Nat), rfl, false, rfl, ?_⟩
  simp only [tr_bl, ite_true]
  refine ⟨.int (out : Nat), rfl, cmp_le ?_⟩
  rw [if_pos (decide_eq_true (by omega))]
  refine ⟨eP q, rfl, bi_len_tup (cmp_lt ?_)⟩
  rw [List.length_map, decide_eq_true (show ((out : Nat) : Int) < (q.length : Int) by omega)]
  rw [if_neg (by decide)]
  refine ws_sn (ws_sq (ws_as ?_))
  simp only [we_ca, wa_ac, wa_an, we_v]
  refine ⟨eP p, rfl, eP q, rfl, _, rfl, wo_mono (ev_chosen_by (skip := some out) (okP_of h) (by omega)) fun r s2 ⟨e2, h2⟩ => ?_⟩
  subst e2
  refine wg_tn.mpr (ws_sq (ws_re ?_))
  refine we_tuple (wi_rg1 ?_)
  simp only [we_bi, wa_ac, wa_an, we_v]
  refine ⟨eP p, rfl, bi_len_tup ⟨p.length, by rw [List.length_map], by omega, ?_⟩⟩
  have lf : (sbs p q).length = p.length := by unfold sbs; rw [chosen_len]; simp
  have lr : (chosen q (some out) p []).length = p.length := by rw [chosen_len]; simp
  refine wo_mono (loopC_pure (fun z => match z with | .int i => mvAt (sbs p q) (chosen q (some out) p []) i.toNat | _ => none) (fun _ _ => rfl) ?_ fun z hz s3 x3 => ?_) fun ys s3 ⟨e3, x3⟩ => ?_
  · rw [List.length_map, List.length_range]
    exact Nat.lt_of_le_of_lt (show (p.length : Int).toNat ≤ 40 by omega) (by decide)
  · obtain ⟨i, hi, rfl⟩ := List.mem_map.mp hz
    have hi : i < p.length := by have := List.mem_range.mp hi; omega
    have g1 : ((sbs p q).map eO)[i]? = some (eO ((sbs p q).getD i none)) := by rw [List.getElem?_map, List.getD_eq_getElem?_getD, List.getElem?_eq_getElem (by omega)]; rfl
    have g2 : ((chosen q (some out) p []).map eO)[i]? = some (eO ((chosen q (some out) p []).getD i none)) := by rw [List.getElem?_map, List.getD_eq_getElem?_getD, List.getElem?_eq_getElem (by omega)]; rfl
    have hL : s3[s1.length]? = some (.lst ((chosen q (some out) p []).map eO)) := (h2.ext x3).get
    refine wg_tn.mpr (wt_ac.mpr ?_)
    simp only [we_cm, we_ix, we_v, we_tp, wa_ac, wa_an]
    refine ⟨_, rfl, _, rfl, ix_tup g1 ⟨_, rfl, _, rfl, ix_loc hL g2 (cmp_ne pl_O pl_O fun c hc => tr_bl.mpr ?_)⟩⟩
    rw [ne_eq, eO_inj] at hc
    have et : ((i : Nat) : Int).toNat = i := by omega
    by_cases he : (sbs p q).getD i none = (chosen q (some out) p []).getD i none
    · have em : mvAt (sbs p q) (chosen q (some out) p []) ((i : Nat) : Int).toNat = none := by unfold mvAt; rw [et, if_pos he]
      simp only [em]
      cases c with
      | false => exact ⟨rfl, x3⟩
      | true => exact absurd he (hc.mp rfl)
    · have em : mvAt (sbs p q) (chosen q (some out) p []) ((i : Nat) : Int).toNat = some (.tup [.int (i : Nat), eO ((sbs p q).getD i none), eO ((chosen q (some out) p []).getD i none)]) := by unfold mvAt; rw [et, if_neg he]
      simp only [em]
      refine ⟨hc.mpr he, _, rfl, _, rfl, _, rfl, ix_tup g1 ⟨_, rfl, _, rfl, ix_loc hL g2 ⟨show 3 ≤ LIM by decide, rfl, x3⟩⟩⟩
  · refine ⟨?_, (x1.trans h2.out).trans x3⟩
    rw [e3]
    unfold mvs
    congr 1
    rw [List.filterMap_map]
    rw [show (p.length : Int).toNat = p.length by omega]
    rfl
end Mi.K32

namespace Mi.K32
open PySem PySem.Spec PyProof.Rows L2 Mi
variable {N : Nat}
theorem cmp_eqs {st : Store} {a b : Str} {Q : Bool → Prop} (ha : PyData.strOk a = true) (hb : PyData.strOk b = true) (h : Q (decide (a = b))) : ∃ c, cmp .Eq st (.str a) (.str b) = some c ∧ Q c :=
  cmp_eq (by rw [PV.pl]; exact ha) (by rw [PV.pl]; exact hb) fun c hc => by
    have : c = decide (a = b) := by
      cases c with
      | true => have := hc.mp rfl; injection this with e; rw [decide_eq_true e]
      | false => rw [decide_eq_false]; intro e; have := hc.mpr (by rw [e]); cases this
    rw [this]; exact h
theorem cmp_eqi {st : Store} {a b : Int} {Q : Bool → Prop} (h : Q (decide (a = b))) : ∃ c, cmp .Eq st (.int a) (.int b) = some c ∧ Q c :=
  cmp_eq pl_int pl_int fun c hc => by
    have : c = decide (a = b) := by
      cases c with
      | true => have := hc.mp rfl; injection this with e; rw [decide_eq_true e]
      | false => rw [decide_eq_false]; intro e; have := hc.mpr (by rw [e]); cases this
    rw [this]; exact h
theorem cmp_nei {st : Store} {a b : Int} {Q : Bool → Prop} (h : Q (decide (a ≠ b))) : ∃ c, cmp .NotEq st (.int a) (.int b) = some c ∧ Q c :=
  cmp_ne pl_int pl_int fun c hc => by
    have : c = decide (a ≠ b) := by
      cases c with
      | true => have := hc.mp rfl; rw [decide_eq_true]; intro e; exact this (by rw [e])
      | false => rw [decide_eq_false]; intro e; have := hc.mpr (fun z => e (by injection z)); cases this
    rw [this]; exact h
/-- a quota of seats, by its word -/
abbrev qt (w : Str) (p : List Let) : PV := .tup [.str w, eP p]
theorem ev_is_single {k : Nat} {w : Str} {p : List Let} {st : Store} (hw : w = "match" ∨ w = "seats") (h : ∀ l ∈ p, okLet l = true) (hl : p.length ≤ 6) : Wo (evF T N (k + 5) "is_single" [qt w p] st) fun r st' => r = .bl true ∧ Ext st st' := by
  have ok : PyData.strOk w = true := by rcases hw with rfl | rfl <;> decide +kernel
  have n1 : w ≠ "size" := by rcases hw with rfl | rfl <;> decide +kernel
  have n2 : w ∉ ([("cap" : Str), "behind"] : List Str) := by rcases hw with rfl | rfl <;> decide +kernel
  have n3 : w ≠ "share" := by rcases hw with rfl | rfl <;> decide +kernel
  have n4 : w ∈ ([("seats" : Str), "match"] : List Str) := by rcases hw with rfl | rfl <;> decide +kernel
  refine wf (d := d_is_single) (hT e_is_single (List.mem_of_getElem? (i := 7) rfl)) rfl ?_
  show WS _ _ b_is_single _ _ _
  unfold b_is_single
  refine ws_sq (ws_as ?_)
  simp only [we_ix, we_v, we_k]
  refine ⟨_, rfl, ix_tup (i := 0) rfl (wg_tn.mpr ?_)⟩
  refine ws_sq (ws_cnd ?_)
  simp only [we_cm, we_v, we_k]
  refine ⟨_, rfl, cmp_eqs ok (by decide +kernel) (tr_bl.mpr ?_)⟩
  rw [decide_eq_false n1, if_neg (by decide)]
  refine ws_sn (ws_sq (ws_cnd ?_))
  simp only [we_cm, we_v, we_k, we_tp, wa_ac, wa_an]
  refine ⟨_, rfl, show 2 ≤ LIM by decide, cmp_in (in_str (l := ["cap", "behind"])) (tr_bl.mpr ?_)⟩
  rw [decide_eq_false n2, if_neg (by decide)]
  refine ws_sn (ws_sq (ws_cnd ?_))
  simp only [we_cm, we_v, we_k]
  refine ⟨_, rfl, cmp_eqs ok (by decide +kernel) (tr_bl.mpr ?_)⟩
  rw [decide_eq_false n3, if_neg (by decide)]
  refine ws_sn (ws_sq (ws_re ?_))
  simp only [we_bl, wb_ac, wb_last, we_cm, we_v, we_k, we_tp, wa_ac, wa_an, we_bi, we_ca, we_ix, we_g]
  refine ⟨_, rfl, show 2 ≤ LIM by decide, cmp_in (in_str (l := ["seats", "match"])) (tr_bl.mpr ?_)⟩
  rw [decide_eq_true n4, if_pos rfl]
  refine ⟨_, rfl, bi_len_tup (cmp_eqi (tr_bl.mpr ?_))⟩
  rw [if_pos (show decide (((([PV.str w, eP p] : List PV).length : Nat) : Int) = 2) = true from rfl)]
  exact ⟨_, rfl, ix_tup (i := 1) rfl (wo_mono (ev_are_seats (m := 6) h hl) fun q s1 ⟨e1, x1⟩ => ⟨e1, x1⟩)⟩
theorem ev_is_quota {k : Nat} {w : Str} {p : List Let} {st : Store} (hw : w = "match" ∨ w = "seats") (h : ∀ l ∈ p, okLet l = true) (hl : p.length ≤ 6) : Wo (evF T N (k + 7) "is_quota" [qt w p] st) fun r st' => r = .bl true ∧ Ext st st' := by
  refine wf (d := d_is_quota) (hT e_is_quota (List.mem_of_getElem? (i := 9) rfl)) rfl ?_
  show WS _ _ b_is_quota _ _ _
  unfold b_is_quota
  refine ws_sq (ws_re ?_)
  simp only [we_cm, we_v, we_k, wa_ac, wa_an, we_ca, we_g]
  refine ⟨_, rfl, ?_⟩
  have hq : ∀ st : Store, Wo (evF T N (k + 6) "quotas_in" [qt w p, .int 6] st) fun r st' => r = .int 1 ∧ Ext st st' := fun st => by
    have okq : (qt w p).pl 30 = true := by
      have ok : PyData.strOk w = true := by rcases hw with rfl | rfl <;> decide +kernel
      rw [PV.pl, pls, pls, pls, PV.pl, ok, pl_P (n := 27) (okP_of h)]
      rfl
    have n5 : w ∉ ([("all" : Str), "first"] : List Str) := by rcases hw with rfl | rfl <;> decide +kernel
    refine wf (d := d_quotas_in) (hT e_quotas_in (List.mem_of_getElem? (i := 8) rfl)) rfl ?_
    show WS _ _ b_quotas_in _ _ _
    unfold b_quotas_in
    refine ws_sq (ws_cnd ?_)
    simp only [we_bl, wb_ac, wb_last, we_cm, we_v, we_k, we_nt, we_isi, we_tp, wa_an, we_ix]
    refine ⟨_, rfl, cmp_lt (tr_bl.mpr ?_)⟩
    rw [if_pos (by decide)]
    refine ⟨_, rfl, true, rfl, ?_⟩
    simp only [tr_bl, Bool.not_true, ite_true]
    refine ⟨_, rfl, Nat.zero_le _, cmp_eq okq (by rw [PV.pl, pls]) fun c hc => ?_⟩
    have : c = false := by
      cases c with
      | false => rfl
      | true => have := hc.mp rfl; injection this with z; cases z
    subst this
    rw [if_pos rfl]
    refine ⟨_, rfl, ix_tup (i := 0) rfl ⟨true, rfl, ?_⟩⟩
    rw [if_neg (by decide)]
    refine ws_sn (ws_sq (ws_cnd ?_))
    simp only [we_cm, we_v, we_k, we_tp, wa_ac, wa_an, we_ix]
    refine ⟨_, rfl, ix_tup (i := 0) rfl ⟨show 2 ≤ LIM by decide, cmp_nin (in_str (l := ["all", "first"])) (tr_bl.mpr ?_)⟩⟩
    rw [decide_eq_false n5, if_pos (by decide)]
    refine ws_sq (ws_re ?_)
    simp only [we_bi, we_ca, wa_ac, wa_an, we_v]
    exact ⟨_, rfl, wo_mono (ev_is_single hw h hl) fun q s1 ⟨e1, x1⟩ => by subst e1; exact bi_int_bl ⟨rfl, x1⟩⟩
  exact wo_mono (hq st) fun r s1 ⟨e1, x1⟩ => by
    subst e1
    exact cmp_gt ⟨rfl, x1⟩
end Mi.K32

namespace Mi.K32
open PySem PySem.Spec PyProof.Rows L2 Mi
variable {N : Nat}
/-! ### sorting numbers -/
def insN (x : Nat) : List Nat → List Nat
  | [] => [x]
  | y :: r => if x ≤ y then x :: y :: r else y :: insN x r
def srt : List Nat → List Nat
  | [] => []
  | x :: r => insN x (srt r)
abbrev toI (l : List Nat) : List Int := l.map fun i => ((i : Nat) : Int)
theorem insI_nat (x : Nat) : ∀ l : List Nat, insI (x : Nat) (toI l) = toI (insN x l)
  | [] => rfl
  | y :: r => by
    show (if ((x : Nat) : Int) ≤ ((y : Nat) : Int) then _ else _) = toI (if x ≤ y then _ else _)
    by_cases h : x ≤ y
    · rw [if_pos h, if_pos (by omega)]; rfl
    · rw [if_neg h, if_neg (by omega)]
      show _ :: insI _ (toI r) = _
      rw [insI_nat x r]; rfl
theorem isortI_nat : ∀ l : List Nat, isortI (toI l) = toI (srt l)
  | [] => rfl
  | x :: r => by
    show insI _ (isortI (toI r)) = _
    rw [isortI_nat r, insI_nat]; rfl
theorem toInts_nat : ∀ l : List Nat, toInts (eN l) = some (toI l)
  | [] => rfl
  | x :: r => by
    show toInts (.int _ :: eN r) = _
    rw [toInts, toInts_nat r]; rfl
theorem eN_toI (l : List Nat) : (toI l).map PV.int = eN l := by
  unfold eN
  rw [List.map_map]; rfl
theorem insN_perm (x : Nat) : ∀ l : List Nat, (insN x l).Perm (x :: l)
  | [] => List.Perm.refl _
  | y :: r => by
    unfold insN
    by_cases h : x ≤ y
    · rw [if_pos h]
    · rw [if_neg h]
      exact ((insN_perm x r).cons y).trans (List.Perm.swap x y r)
theorem srt_perm : ∀ l : List Nat, (srt l).Perm l
  | [] => List.Perm.refl _
  | x :: r => (insN_perm x (srt r)).trans ((srt_perm r).cons x)
theorem insN_sorted (x : Nat) : ∀ {l : List Nat}, l.Pairwise (· ≤ ·) → (insN x l).Pairwise (· ≤ ·)
  | [], _ => List.pairwise_singleton _ _
  | y :: r, h => by
    unfold insN
    have h' := List.pairwise_cons.mp h
    by_cases hxy : x ≤ y
    · rw [if_pos hxy]
      exact List.pairwise_cons.mpr ⟨fun z hz => (List.mem_cons.mp hz).elim (fun e => e ▸ hxy) fun hz => Nat.le_trans hxy (h'.1 z hz), h⟩
    · rw [if_neg hxy]
      refine List.pairwise_cons.mpr ⟨fun z hz => ?_, insN_sorted x h'.2⟩
      rcases List.mem_cons.mp ((insN_perm x r).mem_iff.mp hz) with e | hz
      · omega
      · exact h'.1 z hz
theorem srt_sorted : ∀ l : List Nat, (srt l).Pairwise (· ≤ ·)
  | [] => List.Pairwise.nil
  | x :: r => insN_sorted x (srt_sorted r)
theorem srt_len (l : List Nat) : (srt l).length = l.length := (srt_perm l).length_eq
theorem srt_mem {l : List Nat} {x : Nat} : x ∈ srt l ↔ x ∈ l := (srt_perm l).mem_iff
theorem bi_sorted_tup {st : Store} {Q : PV → Store → Prop} {l : List Nat} (hl : l.length < 64) (h : Q (.loc st.length) (st ++ [.lst (eN (srt l))])) : Wo (biP .sorted [.tup (eN l)] st) Q := by
  refine ⟨_, _, ?_, h⟩
  simp only [biP, sortP]
  rw [toInts_nat]
  simp only
  rw [if_pos (by rw [List.length_map]; exact hl), isortI_nat, eN_toI]
theorem bi_sorted_loc {st : Store} {Q : PV → Store → Prop} {p : Nat} {l : List Nat} (e : st[p]? = some (.lst (eN l))) (hl : l.length < 64) (h : Q (.loc st.length) (st ++ [.lst (eN (srt l))])) : Wo (biP .sorted [.loc p] st) Q := by
  refine ⟨_, _, ?_, h⟩
  simp only [biP, sortP]
  rw [e]
  simp only [sortL]
  rw [toInts_nat]
  simp only
  rw [if_pos (by rw [List.length_map]; exact hl), isortI_nat, eN_toI]
/-- sorted lists with the same members, each once, are one -/
theorem sorted_ext {a b : List Nat} (ha : a.Pairwise (· < ·)) (hb : b.Pairwise (· < ·)) (h : ∀ x, x ∈ a ↔ x ∈ b) : a = b := by
  have na : a.Nodup := ha.imp (fun h => Nat.ne_of_lt h)
  have nb : b.Nodup := hb.imp (fun h => Nat.ne_of_lt h)
  have pm : a.Perm b := (List.perm_ext_iff_of_nodup na nb).mpr h
  exact pm.eq_of_pairwise (fun x y _ _ h1 h2 => absurd h1 (Nat.lt_asymm h2)) ha hb
end Mi.K32

namespace Mi.K32
open PySem PySem.Spec PyProof.Rows L2 Mi
variable {N : Nat}
def eS : Option (List Nat) → PV
  | none => .non
  | some l => .tup (eN l)
def satAt (seats : List Let) (state : List Nat) (letter : Let) (i : Nat) : Bool := decide (i ∉ state) && fitsP letter (seats.getD i [])
def satF (seats : List Let) (state : List Nat) (letter : Let) : Option (List Nat) := ((List.range seats.length).find? (satAt seats state letter)).map fun i => srt (state ++ [i])
theorem eN_snoc (l : List Nat) (i : Nat) : eN l ++ [PV.int (i : Nat)] = eN (l ++ [i]) := by unfold eN; rw [List.map_append]; rfl
theorem eN_len (l : List Nat) : (eN l).length = l.length := by unfold eN; rw [List.length_map]
/-- enumerate(..) of seats: what comes next -/
theorem en_next {p : List Let} {i : Nat} {x : PV} {r : List PV} (h : x :: r = ((p.map eL).zipIdx.map fun q => PV.tup [.int q.2, q.1]).drop i) :
    ∃ z, p[i]? = some z ∧ x = .tup [.int (i : Nat), eL z] ∧ r = ((p.map eL).zipIdx.map fun q => PV.tup [.int q.2, q.1]).drop (i + 1) := by
  obtain ⟨g, h2⟩ := cons_drop h
  rw [List.getElem?_map, List.getElem?_zipIdx, List.getElem?_map] at g
  cases hli : p[i]? with
  | none => rw [hli] at g; cases g
  | some z =>
    rw [hli] at g
    simp at g
    exact ⟨z, rfl, g.symm, h2⟩
theorem en_done {p : List Let} {i : Nat} (h : [] = ((p.map eL).zipIdx.map fun q => PV.tup [.int q.2, q.1]).drop i) : p.length ≤ i := by
  have := congrArg List.length h
  simp at this
  omega
theorem ev_sat {k : Nat} {w : Str} {p : List Let} {state : List Nat} {letter : Let} {st : Store} (hp : okP p) (hs : state.length < 63) : Wo (evF T N (k + 2) "sat" [qt w p, .tup (eN state), eL letter] st) fun r s => r = eS (satF p state letter) ∧ Ext st s := by
  refine wf (d := d_sat) (hT e_sat (List.mem_of_getElem? (i := 13) rfl)) rfl ?_
  show WS _ _ b_sat _ _ _
  unfold b_sat
  refine ws_sq (ws_fo (fun rest ρ s => ∃ i a b, rest = ((p.map eL).zipIdx.map fun q => PV.tup [.int q.2, q.1]).drop i ∧ i ≤ p.length ∧ ρ = [some (qt w p), some (.tup (eN state)), some (eL letter), a, b] ∧ Ext st s ∧ ∀ j, j < i → satAt p state letter j = false) (wi_en ?_))
  simp only [we_ix, we_v, we_k]
  refine ⟨_, rfl, ix_tup (i := 1) rfl ⟨p.map eL, rfl, ⟨0, none, none, rfl, Nat.zero_le _, rfl, Ext.refl _, fun j hj => by omega⟩, ?_, ?_⟩⟩
  · rintro x r ρ s ⟨i, a, b, h1, hi, rfl, hx, hb⟩
    obtain ⟨z, hli, rfl, h2⟩ := en_next h1
    have hip := (List.getElem?_eq_some_iff.mp hli).1
    have hz : p.getD i [] = z := by rw [List.getD_eq_getElem?_getD, hli]; rfl
    have hzo : okL z := hp z (List.mem_of_getElem? hli)
    have next : ∀ {s1 : Store}, Ext s s1 → satAt p state letter i = false → ∃ i' a b, r = ((p.map eL).zipIdx.map fun q => PV.tup [.int q.2, q.1]).drop i' ∧ i' ≤ p.length ∧ [some (qt w p), some (.tup (eN state)), some (eL letter), some (.int (i : Nat)), some (eL z)] = [some (qt w p), some (.tup (eN state)), some (eL letter), a, b] ∧ Ext st s1 ∧ ∀ j, j < i' → satAt p state letter j = false := fun {s1} x1 hno =>
      ⟨i + 1, _, _, h2, hip, rfl, hx.trans x1, fun j hj => by
        by_cases e : j = i
        · rw [e]; exact hno
        · exact hb j (by omega)⟩
    refine ⟨rfl, wg_tt.mpr (wgs_ac.mpr (wg_tn.mpr (wgs_ac.mpr (wg_tn.mpr (wgs_an.mpr ?_)))))⟩
    refine ws_sq (ws_cnd ?_)
    simp only [we_bl, wb_ac, wb_last, we_ca, wa_ac, wa_an, we_v, we_cm]
    refine ⟨_, rfl, _, rfl, cmp_nin in_nat (tr_bl.mpr ?_)⟩
    by_cases hin : i ∈ state
    · rw [decide_eq_true hin, if_neg (by decide), tr_bl, if_neg (by decide)]
      refine ws_sn (ws_sn ?_)
      exact next (Ext.refl _) (by unfold satAt; rw [decide_eq_false (show ¬ i ∉ state by simpa using hin)]; rfl)
    · rw [decide_eq_false hin, if_pos (by decide)]
      refine ⟨_, rfl, _, rfl, wo_mono (ev_fits hzo) fun y s1 ⟨ey, x1⟩ => ?_⟩
      subst ey
      rw [tr_bl]
      have eok : satAt p state letter i = fitsP letter z := by unfold satAt; rw [hz, decide_eq_true hin]; rfl
      cases hfit : fitsP letter z with
      | false =>
        rw [if_neg (by decide)]
        refine ws_sn (ws_sn ?_)
        exact next x1 (by rw [eok, hfit])
      | true =>
        rw [if_pos rfl]
        refine ws_sq (ws_re ?_)
        simp only [we_bi, we_bo, we_tp, wa_ac, wa_an, we_v]
        refine ⟨_, rfl, _, rfl, show 1 ≤ LIM by decide, bo_tup ?_ ?_⟩
        · rw [eN_len]
          exact Nat.le_trans (Nat.add_le_add_right (Nat.le_of_lt hs) _) (show 63 + 1 ≤ LIM by decide)
        · rw [eN_snoc]
          refine bi_sorted_tup (by rw [List.length_append]; simp; omega) (bi_tuple_loc new_get ?_)
          refine ⟨?_, (hx.trans x1).trans (Ext.app _ _)⟩
          unfold satF
          rw [find_range_some hip (by rw [eok, hfit]) hb]
          rfl
  · rintro ρ s ⟨i, a, b, h1, hi, rfl, hx, hb⟩
    have hd := en_done h1
    refine ⟨rfl, ws_sq (ws_re ?_)⟩
    simp only [we_k]
    refine ⟨?_, hx⟩
    unfold satF
    rw [find_range_none fun j hj => hb j (by omega)]
    rfl
end Mi.K32

namespace Mi.K32
open PySem PySem.Spec PyProof.Rows L2 Mi
variable {N : Nat}
theorem dedupT_mem' {k : List Int} : ∀ {l : List (List Int)}, k ∈ dedupT l ↔ k ∈ l := dedupT_mem
theorem insT_perm (x : List Int) : ∀ l : List (List Int), (insT x l).Perm (x :: l)
  | [] => List.Perm.refl _
  | y :: r => by
    unfold insT
    split
    · exact List.Perm.refl _
    · exact ((insT_perm x r).cons y).trans (List.Perm.swap x y r)
theorem isortT_perm : ∀ l : List (List Int), (isortT l).Perm l
  | [] => List.Perm.refl _
  | x :: r => (insT_perm x (isortT r)).trans ((isortT_perm r).cons x)
/-- each once, sorted -/
def msort (all : List (List Nat)) : List (List Nat) := (isortT (dedupT (all.map toI))).map fun k => k.map Int.toNat
theorem toNat_toI (l : List Nat) : (toI l).map Int.toNat = l := by
  rw [List.map_map]
  conv => rhs; rw [← List.map_id l]
  exact List.map_congr_left fun x _ => by simp
theorem msort_mem {all : List (List Nat)} {l : List Nat} : l ∈ msort all ↔ l ∈ all := by
  unfold msort
  rw [List.mem_map]
  constructor
  · rintro ⟨k, hk, rfl⟩
    have := dedupT_mem.mp ((isortT_perm _).mem_iff.mp hk)
    obtain ⟨a, ha, rfl⟩ := List.mem_map.mp this
    rw [toNat_toI]; exact ha
  · intro h
    exact ⟨toI l, (isortT_perm _).mem_iff.mpr (dedupT_mem.mpr (List.mem_map.mpr ⟨l, h, rfl⟩)), toNat_toI l⟩
theorem msort_toI (all : List (List Nat)) : (msort all).map toI = isortT (dedupT (all.map toI)) := by
  unfold msort
  rw [List.map_map]
  conv => rhs; rw [← List.map_id (isortT _)]
  refine List.map_congr_left fun k hk => ?_
  have := dedupT_mem.mp ((isortT_perm _).mem_iff.mp hk)
  obtain ⟨a, ha, rfl⟩ := List.mem_map.mp this
  show toI ((toI a).map Int.toNat) = toI a
  rw [toNat_toI]
theorem toI_inj {a b : List Nat} (h : toI a = toI b) : a = b := by rw [← toNat_toI a, ← toNat_toI b, h]
theorem msort_nodup (all : List (List Nat)) : (msort all).Nodup := by
  have h : ((msort all).map toI).Nodup := by
    rw [msort_toI]
    exact (isortT_perm _).nodup_iff.mpr (dedupT_nodup _)
  exact List.Pairwise.of_map toI (fun a b hne e => hne (congrArg toI e)) h
def eM (l : List (List Nat)) : List PV := l.map fun k => .tup (eN k)
theorem toTups_nat : ∀ l : List (List Nat), toTups (eM l) = some (l.map toI)
  | [] => rfl
  | x :: r => by
    show toTups (.tup (eN x) :: eM r) = _
    rw [toTups, toInts_nat, toTups_nat r]; rfl
/-- lots of one length, of small numbers -/
def boxN (m : Nat) (l : List (List Nat)) : Prop := 1 ≤ m ∧ ∀ k ∈ l, k.length = m ∧ ∀ i ∈ k, i < 64
theorem boxT_nat {m : Nat} {l : List (List Nat)} (h : boxN m l) : boxT (l.map toI) = true := by
  cases l with
  | nil => rfl
  | cons k r =>
    obtain ⟨h1, h2⟩ := h
    have hk := h2 k List.mem_cons_self
    show (decide (1 ≤ (toI k).length) && _) = true
    rw [Bool.and_eq_true, decide_eq_true_eq, List.all_eq_true]
    refine ⟨by rw [List.length_map]; omega, fun q hq => ?_⟩
    obtain ⟨a, ha, rfl⟩ := List.mem_map.mp (show q ∈ (k :: r).map toI from hq)
    obtain ⟨g1, g2⟩ := h2 a ha
    rw [Bool.and_eq_true, decide_eq_true_eq, List.all_eq_true]
    refine ⟨by rw [List.length_map, List.length_map, g1, hk.1], fun i hi => ?_⟩
    obtain ⟨j, hj, rfl⟩ := List.mem_map.mp hi
    have := g2 j hj
    rw [Bool.and_eq_true, decide_eq_true_eq, decide_eq_true_eq]
    omega
theorem bi_sorted_set {st : Store} {Q : PV → Store → Prop} {p m : Nat} {l : List (List Nat)} (e : st[p]? = some (.set (eM l))) (hl : l.length < 64) (hb : boxN m l) (h : Q (.loc st.length) (st ++ [.lst (eM (msort l))])) : Wo (biP .sorted [.loc p] st) Q := by
  refine ⟨_, _, ?_, h⟩
  simp only [biP, sortP]
  rw [e]
  simp only
  rw [toTups_nat]
  simp only
  rw [if_pos (by rw [boxT_nat hb, List.length_map, decide_eq_true hl]; rfl), ← msort_toI]
  unfold eM
  rw [List.map_map]
  congr 5
  exact List.map_congr_left fun k _ => by show PV.tup ((toI k).map PV.int) = _; rw [eN_toI]
end Mi.K32

namespace Mi
open PySem PySem.Spec PyProof.Rows L2
/-- loopC_pure, behind what is there already -/
theorem loopC_pureA {chk : Store → Bool} {g : PV → Env → Store → Option (Env × Store)} {t : Env → Store → Option (Bool × Store)} {e : Env → Store → Out} {ρ : Env} {st : Store} {items acc0 : List PV} (r : PV → Option PV)
    (hc : ∀ s, Ext st s → chk s = true) (hl : acc0.length + items.length < LIM)
    (h : ∀ x ∈ items, ∀ s, Ext st s → Wo (g x ρ s) fun ρ1 s1 => Wo (t ρ1 s1) fun b s2 => match r x with
      | some y => b = true ∧ Wo (e ρ1 s2) fun z s3 => z = y ∧ Ext st s3
      | none => b = false ∧ Ext st s2) : Wo (loopC chk g t e ρ items acc0 st) fun ys s => ys = acc0 ++ items.filterMap r ∧ Ext st s := by
  refine loopC_inv items acc0 st (fun rest acc s => (∃ pre, items = pre ++ rest ∧ acc = acc0 ++ pre.filterMap r) ∧ Ext st s) ⟨⟨[], rfl, by simp⟩, Ext.refl _⟩ ?_ ?_
  · rintro x rest acc s ⟨⟨pre, e1, e2⟩, hx⟩
    have hm : x ∈ items := by rw [e1]; simp
    refine ⟨hc s hx, ?_, wo_mono (h x hm s hx) fun ρ1 s1 q => wo_mono q fun b s2 q => ?_⟩
    · rw [e2, List.length_append]
      have := List.length_filterMap_le r pre
      have : items.length = pre.length + (rest.length + 1) := by rw [e1, List.length_append, List.length_cons]
      omega
    · cases hr : r x with
      | none =>
        rw [hr] at q
        obtain ⟨rfl, q⟩ := q
        rw [if_neg (by decide)]
        exact ⟨⟨pre ++ [x], by rw [e1, List.append_assoc]; rfl, by rw [List.filterMap_append, e2]; simp [hr]⟩, q⟩
      | some y =>
        rw [hr] at q
        obtain ⟨rfl, q⟩ := q
        rw [if_pos rfl]
        refine wo_mono q fun z s3 q3 => ?_
        obtain ⟨ez, q3⟩ := q3
        exact ⟨⟨pre ++ [x], by rw [e1, List.append_assoc]; rfl, by rw [List.filterMap_append, e2, ez]; simp [hr]⟩, q3⟩
  · rintro acc s ⟨⟨pre, e1, e2⟩, hx⟩
    rw [List.append_nil] at e1
    subst e1
    exact ⟨hc s hx, e2, hx⟩
theorem loopO_inv {chk : Store → Bool} {g : PV → Env → Store → Option (Env × Store)} {t : Env → Store → Option (Bool × Store)} {inner : Env → List PV → Store → Option (List PV × Store)} {ρ : Env} {Q : List PV → Store → Prop} :
    ∀ (items : List PV) (acc : List PV) (st : Store) (J : List PV → List PV → Store → Prop), J items acc st →
      (∀ x r acc st, J (x :: r) acc st → chk st = true ∧ Wo (g x ρ st) fun ρ1 s1 => Wo (t ρ1 s1) fun b s2 => if b = true then Wo (inner ρ1 acc s2) fun acc' s3 => J r acc' s3 else J r acc s2) →
      (∀ acc st, J [] acc st → chk st = true ∧ Q acc st) → Wo (loopO chk g t inner ρ items acc st) Q
  | [], acc, st, J, h0, hs, hd => by
    obtain ⟨h1, h2⟩ := hd _ _ h0
    rw [loopO, if_pos h1, wo_some]
    exact h2
  | x :: r, acc, st, J, h0, hs, hd => by
    obtain ⟨h1, ρ1, s1, e1, b, s2, e2, q⟩ := hs _ _ _ _ h0
    rw [loopO, if_pos h1, e1]
    simp only
    rw [e2]
    cases b with
    | false => exact loopO_inv r acc s2 J q hs hd
    | true =>
      obtain ⟨acc', s3, e3, q⟩ := q
      simp only
      rw [e3]
      exact loopO_inv r acc' s3 J q hs hd
theorem we_sc2 {C : Fn} {ρ : Env} {st : Store} {e t1 i1 f1 t2 i2 f2 : IR} {own : List (Str × Nat)} {own2 : List Nat} {Q : PV → Store → Prop} (h : WI C i1 ρ st fun items src st1 => Wo (loopO (stands src items) (evG C t1) (fun ρ st => evT C f1 ρ st) (fun ρ acc st => match evI C i2 ρ st with
        | some (items2, src2, st') => loopC (stands src2 items2) (evG C t2) (fun ρ st => evT C f2 ρ st) (fun ρ st => evE C e ρ st) (wipeP ρ own2) items2 acc st'
        | none => none) (wipeP ρ (own.map (·.2))) items [] st1) fun ys st2 => ∃ ks, toTups ys = some ks ∧ ks.length < 64 ∧ Q (.loc st2.length) (st2 ++ [.set ys])) : WE C (.sc2 e t1 i1 f1 t2 i2 f2 own own2) ρ st Q := by
  obtain ⟨items, src, st1, e1, ys, st2, e2, ks, e3, hl, q⟩ := h
  rw [WE, evE, e1]
  simp only
  split
  · rename_i ys' st2' e2'
    have e4 := e2'.symm.trans e2
    cases e4
    rw [e3]
    simp only
    rw [if_pos hl]
    exact ⟨_, _, rfl, q⟩
  · rename_i e2'
    have e4 := e2'.symm.trans e2
    cases e4
/-- the inner turns of two fors -/
theorem inner_of {C : Fn} {ρ : Env} {acc : List PV} {st : Store} {i2 t2 f2 e : IR} {own2 : List Nat} {Q : List PV → Store → Prop} (h : WI C i2 ρ st fun items2 src2 st' => Wo (loopC (stands src2 items2) (evG C t2) (fun ρ st => evT C f2 ρ st) (fun ρ st => evE C e ρ st) (wipeP ρ own2) items2 acc st') Q) :
    Wo (match evI C i2 ρ st with
        | some (items2, src2, st') => loopC (stands src2 items2) (evG C t2) (fun ρ st => evT C f2 ρ st) (fun ρ st => evE C e ρ st) (wipeP ρ own2) items2 acc st'
        | none => none) Q := by
  obtain ⟨items, src, st1, e1, q⟩ := h
  rw [e1]
  exact q
end Mi

namespace Mi
/-! ### dicts by their pairs -/
section
variable {α : Type}
def look (d : List (Nat × α)) (k : Nat) : Option α := (d.find? fun p => decide (p.1 = k)).map (·.2)
def put (d : List (Nat × α)) (k : Nat) (v : α) : List (Nat × α) := if (d.any fun p => decide (p.1 = k)) then d.map fun p => if p.1 = k then (p.1, v) else p else d ++ [(k, v)]
abbrev keysD (d : List (Nat × α)) : List Nat := d.map (·.1)
theorem look_nil {k : Nat} : look ([] : List (Nat × α)) k = none := rfl
theorem look_cons {p : Nat × α} {d : List (Nat × α)} {k : Nat} : look (p :: d) k = if p.1 = k then some p.2 else look d k := by
  unfold look
  rw [List.find?_cons]
  by_cases h : p.1 = k
  · rw [if_pos h, decide_eq_true h]; rfl
  · rw [if_neg h, decide_eq_false h]
theorem look_none {d : List (Nat × α)} {k : Nat} : look d k = none ↔ k ∉ keysD d := by
  induction d with
  | nil => simp [look_nil]
  | cons p d ih =>
    rw [look_cons, keysD, List.map_cons, List.mem_cons]
    by_cases h : p.1 = k
    · rw [if_pos h]; simp [h]
    · rw [if_neg h, ih]
      constructor
      · intro q z; rcases z with z | z
        · exact h z.symm
        · exact q z
      · intro q z; exact q (.inr z)
theorem look_some {d : List (Nat × α)} {k : Nat} : (∃ v, look d k = some v) ↔ k ∈ keysD d := by
  have := look_none (d := d) (k := k)
  cases h : look d k with
  | none => rw [h] at this; simp only [true_iff] at this; simp [this]
  | some v => rw [h] at this; simp at this; simp; exact this
theorem look_snoc {d : List (Nat × α)} {q : Nat × α} {k : Nat} : look (d ++ [q]) k = match look d k with
    | some v => some v
    | none => if q.1 = k then some q.2 else none := by
  induction d with
  | nil => rw [List.nil_append, look_cons, look_nil]
  | cons p d ih =>
    rw [List.cons_append, look_cons, look_cons, ih]
    by_cases h : p.1 = k
    · rw [if_pos h, if_pos h]
    · rw [if_neg h, if_neg h]
theorem look_put {d : List (Nat × α)} {k k' : Nat} {v : α} : look (put d k v) k' = if k' = k then some v else look d k' := by
  unfold put
  by_cases h : (d.any fun p => decide (p.1 = k)) = true
  · rw [if_pos h]
    induction d with
    | nil => simp at h
    | cons p d ih =>
      rw [List.map_cons, look_cons, look_cons]
      by_cases e : p.1 = k
      · rw [if_pos e]
        by_cases e' : k' = k
        · rw [if_pos e', if_pos (by rw [e, e'])]
        · rw [if_neg e', if_neg (by rw [e]; exact fun z => e' z.symm), if_neg (by rw [e]; exact fun z => e' z.symm)]
          by_cases h2 : (d.any fun p => decide (p.1 = k)) = true
          · rw [ih h2, if_neg e']
          · have : (d.map fun p => if p.1 = k then (p.1, v) else p) = d := by
              conv => rhs; rw [← List.map_id d]
              refine List.map_congr_left fun q hq => ?_
              have : ¬ q.1 = k := fun z => h2 (List.any_eq_true.mpr ⟨q, hq, decide_eq_true z⟩)
              rw [if_neg this]; rfl
            rw [this]
      · rw [if_neg e]
        rw [List.any_cons, decide_eq_false e, Bool.false_or] at h
        rw [ih h]
        by_cases e' : k' = k
        · rw [if_pos e', if_neg (by rw [e']; exact e), if_pos e']
        · rw [if_neg e', if_neg e']
  · rw [if_neg h, look_snoc]
    have hn : k ∉ keysD d := fun z => by
      obtain ⟨p, hp, e⟩ := List.mem_map.mp z
      exact h (List.any_eq_true.mpr ⟨p, hp, decide_eq_true e⟩)
    by_cases e' : k' = k
    · rw [if_pos e', e', look_none.mpr hn]; simp
    · rw [if_neg e']
      cases look d k' with
      | none => simp only; rw [if_neg (fun z => e' z.symm)]
      | some v => rfl
theorem keys_put {d : List (Nat × α)} {k : Nat} {v : α} : keysD (put d k v) = if k ∈ keysD d then keysD d else keysD d ++ [k] := by
  unfold put
  by_cases h : k ∈ keysD d
  · rw [if_pos h]
    obtain ⟨p, hp, e⟩ := List.mem_map.mp h
    rw [if_pos (List.any_eq_true.mpr ⟨p, hp, decide_eq_true e⟩), keysD, List.map_map]
    refine List.map_congr_left fun q hq => ?_
    show (if q.1 = k then (q.1, v) else q).1 = q.1
    split <;> rfl
  · rw [if_neg h, if_neg]
    · rw [keysD, List.map_append]; rfl
    · intro z
      obtain ⟨p, hp, e⟩ := List.any_eq_true.mp z
      exact h (List.mem_map.mpr ⟨p, hp, of_decide_eq_true e⟩)
theorem put_new {d : List (Nat × α)} {k : Nat} {v : α} (h : k ∉ keysD d) : put d k v = d ++ [(k, v)] := by
  unfold put
  rw [if_neg]
  intro z
  obtain ⟨p, hp, e⟩ := List.any_eq_true.mp z
  exact h (List.mem_map.mpr ⟨p, hp, of_decide_eq_true e⟩)
theorem keys_put_nodup {d : List (Nat × α)} {k : Nat} {v : α} (h : (keysD d).Nodup) : (keysD (put d k v)).Nodup := by
  rw [keys_put]
  by_cases e : k ∈ keysD d
  · rw [if_pos e]; exact h
  · rw [if_neg e]
    refine List.nodup_append.mpr ⟨h, by simp, ?_⟩
    intro a ha b hb z
    simp at hb
    subst hb z
    exact e ha
theorem look_mem {d : List (Nat × α)} {k : Nat} {v : α} (h : look d k = some v) : (k, v) ∈ d := by
  induction d with
  | nil => simp [look_nil] at h
  | cons p d ih =>
    rw [look_cons] at h
    by_cases e : p.1 = k
    · rw [if_pos e] at h
      injection h with h
      subst e h
      exact List.mem_cons_self
    · rw [if_neg e] at h
      exact List.mem_cons_of_mem _ (ih h)
theorem look_of_mem {d : List (Nat × α)} {k : Nat} {v : α} (hn : (keysD d).Nodup) (h : (k, v) ∈ d) : look d k = some v := by
  induction d with
  | nil => cases h
  | cons p d ih =>
    rw [keysD, List.map_cons, List.nodup_cons] at hn
    rw [look_cons]
    rcases List.mem_cons.mp h with e | h
    · subst e; rw [if_pos rfl]
    · have : ¬ p.1 = k := fun e => hn.1 (e ▸ List.mem_map.mpr ⟨_, h, rfl⟩)
      rw [if_neg this]
      exact ih hn.2 h
end
/-! ### seatings -/
section
variable (F : Nat → Nat → Bool) (n : Nat)
/-- an assignment of letters to seats -/
def Sit (f : Nat → Nat) (S : Nat → Prop) : Prop := (∀ k, S k → f k < n ∧ F k (f k) = true) ∧ ∀ k k', S k → S k' → f k = f k' → k = k'
def Can (S : Nat → Prop) : Prop := ∃ f, Sit F n f S
structure Mat (H P : List (Nat × Nat)) : Prop where
  hp : ∀ s k, look H s = some k ↔ look P k = some s
  ft : ∀ s k, look H s = some k → s < n ∧ F k s = true
/-- a walk's seats and letters, all its seats held -/
structure Wk (H : List (Nat × Nat)) (i : Nat) (came : List (Nat × Nat)) (line : List Nat) : Prop where
  nod : (keysD came).Nodup
  ok : ∀ pre s k post, came = pre ++ (s, k) :: post → s < n ∧ F k s = true ∧ (k = i ∨ ∃ s' ∈ keysD pre, look H s' = some k)
  ln : line.map some = some i :: (keysD came).map (look H)
end
variable {F : Nat → Nat → Bool} {n : Nat}
theorem Can.mono {S S' : Nat → Prop} (h : ∀ k, S' k → S k) (c : Can F n S) : Can F n S' := by
  obtain ⟨f, h1, h2⟩ := c
  exact ⟨f, fun k hk => h1 k (h k hk), fun k k' hk hk' => h2 k k' (h k hk) (h k' hk')⟩
theorem Mat.inj {H P : List (Nat × Nat)} (m : Mat F n H P) {s s' k : Nat} (h : look H s = some k) (h' : look H s' = some k) : s = s' := by
  have a := (m.hp s k).mp h
  have b := (m.hp s' k).mp h'
  rw [a] at b
  injection b
theorem Wk.len {H : List (Nat × Nat)} {i : Nat} {came : List (Nat × Nat)} {line : List Nat} (w : Wk F n H i came line) : line.length = came.length + 1 := by
  have := congrArg List.length w.ln
  simpa using this
theorem Wk.mem {H : List (Nat × Nat)} {i : Nat} {came : List (Nat × Nat)} {line : List Nat} (w : Wk F n H i came line) {k : Nat} : k ∈ line ↔ k = i ∨ ∃ s ∈ keysD came, look H s = some k := by
  have : k ∈ line ↔ some k ∈ line.map some := by simp
  rw [this, w.ln, List.mem_cons, List.mem_map]
  simp
theorem Wk.held {H : List (Nat × Nat)} {i : Nat} {came : List (Nat × Nat)} {line : List Nat} (w : Wk F n H i came line) {s : Nat} (hs : s ∈ keysD came) : ∃ k, k ∈ line ∧ look H s = some k := by
  have : look H s ∈ line.map some := by rw [w.ln]; exact List.mem_cons_of_mem _ (List.mem_map.mpr ⟨s, hs, rfl⟩)
  obtain ⟨k, hk, e⟩ := List.mem_map.mp this
  exact ⟨k, hk, e.symm⟩
theorem nodup_map_inj {α β : Type} {f : α → β} : ∀ {l : List α}, l.Nodup → (∀ a ∈ l, ∀ b ∈ l, f a = f b → a = b) → (l.map f).Nodup
  | [], _, _ => List.nodup_nil
  | x :: l, h, hi => by
    rw [List.nodup_cons] at h
    rw [List.map_cons, List.nodup_cons]
    refine ⟨fun z => ?_, nodup_map_inj h.2 fun a ha b hb => hi a (List.mem_cons_of_mem _ ha) b (List.mem_cons_of_mem _ hb)⟩
    obtain ⟨y, hy, e⟩ := List.mem_map.mp z
    have := hi y (List.mem_cons_of_mem _ hy) x List.mem_cons_self e
    subst this
    exact h.1 hy
theorem nodup_of_map {α β : Type} {f : α → β} : ∀ {l : List α}, (l.map f).Nodup → l.Nodup
  | [], _ => List.nodup_nil
  | x :: l, h => by
    rw [List.map_cons, List.nodup_cons] at h
    rw [List.nodup_cons]
    exact ⟨fun z => h.1 (List.mem_map.mpr ⟨x, z, rfl⟩), nodup_of_map h.2⟩
theorem Wk.nodup {H P : List (Nat × Nat)} {i : Nat} {came : List (Nat × Nat)} {line : List Nat} (w : Wk F n H i came line) (m : Mat F n H P) (hi : look P i = none) : line.Nodup := by
  refine nodup_of_map (f := some) ?_
  rw [w.ln, List.nodup_cons]
  constructor
  · intro z
    obtain ⟨s, _, e⟩ := List.mem_map.mp z
    rw [(m.hp s i).mp e] at hi
    cases hi
  · refine nodup_map_inj w.nod fun a ha b hb e => ?_
    obtain ⟨k, _, ek⟩ := w.held ha
    exact m.inj ek (by rw [← e]; exact ek)
/-- one seat more: held -/
theorem Wk.more {H : List (Nat × Nat)} {i : Nat} {came : List (Nat × Nat)} {line : List Nat} (w : Wk F n H i came line) {s k k' : Nat} (hs : s ∉ keysD came) (hk : k ∈ line) (hn : s < n) (hf : F k s = true) (h : look H s = some k') : Wk F n H i (came ++ [(s, k)]) (line ++ [k']) where
  nod := by
    rw [keysD, List.map_append]
    refine List.nodup_append.mpr ⟨w.nod, by simp, ?_⟩
    intro a ha b hb z
    simp at hb
    subst hb z
    exact hs ha
  ok := fun pre s1 k1 post e => by
    rcases List.eq_nil_or_concat post with rfl | ⟨post', q, rfl⟩
    · have e : came ++ [(s, k)] = pre ++ [(s1, k1)] := e
      obtain ⟨e1, e2⟩ := List.append_inj' e rfl
      injection e2 with e2
      injection e2 with e2 e3
      subst e1 e2 e3
      exact ⟨hn, hf, w.mem.mp hk⟩
    · rw [List.concat_eq_append, ← List.cons_append, ← List.append_assoc] at e
      obtain ⟨e1, _⟩ := List.append_inj' e rfl
      exact w.ok _ _ _ _ e1
  ln := by
    have e : keysD (came ++ [(s, k)]) = keysD came ++ [s] := by rw [keysD, List.map_append]; rfl
    rw [e, List.map_append, w.ln, List.map_append, List.map_cons, List.map_cons, h]; rfl
theorem Wk.begun {H : List (Nat × Nat)} {i : Nat} : Wk F n H i [] [i] where
  nod := List.nodup_nil
  ok := fun pre s k post e => by cases pre <;> cases e
  ln := rfl
theorem Wk.small {H : List (Nat × Nat)} {i : Nat} {came : List (Nat × Nat)} {line : List Nat} (w : Wk F n H i came line) {s : Nat} (hs : s ∈ keysD came) : s < n := by
  obtain ⟨p, hp, e⟩ := List.mem_map.mp hs
  obtain ⟨pre, post, e2⟩ := List.append_of_mem hp
  have := (w.ok pre p.1 p.2 post e2).1
  rw [← e]; exact this
theorem nodup_len_le {l : List Nat} {n : Nat} (h : l.Nodup) (hb : ∀ x ∈ l, x < n) : l.length ≤ n := by
  have := List.Nodup.length_le_of_subset h (l₂ := List.range n) fun x hx => List.mem_range.mpr (hb x hx)
  rwa [List.length_range] at this
theorem Wk.size {H : List (Nat × Nat)} {i : Nat} {came : List (Nat × Nat)} {line : List Nat} (w : Wk F n H i came line) : came.length ≤ n := by
  have := nodup_len_le w.nod fun x hx => w.small hx
  rwa [keysD, List.length_map] at this
/-- all that fit are met -/
def Shut (F : Nat → Nat → Bool) (n : Nat) (came : List (Nat × Nat)) (line : List Nat) : Prop := ∀ k ∈ line, ∀ s, s < n → F k s = true → s ∈ keysD came
theorem not_can {H P : List (Nat × Nat)} {i : Nat} {came : List (Nat × Nat)} {line : List Nat} (w : Wk F n H i came line) (c : Shut F n came line) (m : Mat F n H P) (hi : look P i = none) : ¬ Can F n (· ∈ line) := by
  rintro ⟨f, h1, h2⟩
  have nd := w.nodup m hi
  have nd2 : (line.map f).Nodup := nodup_map_inj nd fun a ha b hb e => h2 a b ha hb e
  have := List.Nodup.length_le_of_subset nd2 (l₂ := keysD came) fun x hx => by
    obtain ⟨k, hk, rfl⟩ := List.mem_map.mp hx
    exact c k hk _ (h1 k hk).1 (h1 k hk).2
  rw [List.length_map, List.length_map, w.len] at this
  omega
/-- as many seats as they fit -/
theorem fit_count {H P : List (Nat × Nat)} {i : Nat} {came : List (Nat × Nat)} {line : List Nat} (w : Wk F n H i came line) (c : Shut F n came line) (m : Mat F n H P) {q : Nat → Bool} (hq : ∀ s, s < n → (q s = true ↔ ∃ k ∈ line, F k s = true)) : ((List.range n).filter q).length + 1 = line.length := by
  rw [w.len]
  have : ((List.range n).filter q).Perm (keysD came) := by
    refine (List.perm_ext_iff_of_nodup (List.Pairwise.filter _ List.nodup_range) w.nod).mpr fun s => ?_
    rw [List.mem_filter, List.mem_range]
    constructor
    · rintro ⟨h1, h2⟩
      obtain ⟨k, hk, hf⟩ := (hq s h1).mp h2
      exact c k hk s h1 hf
    · intro hs
      have hn := w.small hs
      refine ⟨hn, (hq s hn).mpr ?_⟩
      obtain ⟨p, hp, e⟩ := List.mem_map.mp hs
      obtain ⟨pre, post, e2⟩ := List.append_of_mem hp
      obtain ⟨h1, h2, h3⟩ := w.ok pre p.1 p.2 post e2
      refine ⟨p.2, w.mem.mpr ?_, by rw [← e]; exact h2⟩
      rcases h3 with h3 | ⟨s', hs', h3⟩
      · exact .inl h3
      · refine .inr ⟨s', ?_, h3⟩
        rw [e2, keysD, List.map_append]
        exact List.mem_append_left _ hs'
  rw [this.length_eq, keysD, List.length_map]
/-- without one of the walk's letters the others can be seated -/
theorem can_without {H P : List (Nat × Nat)} {i : Nat} {came : List (Nat × Nat)} {line : List Nat} (w : Wk F n H i came line) (m : Mat F n H P) (hi : look P i = none) :
    ∀ (pre : List (Nat × Nat)) (s k r : Nat) (post : List (Nat × Nat)), came = pre ++ (s, k) :: post → look H s = some r →
      ∃ f, Sit F n f (fun x => ((∃ t, look P x = some t) ∨ x = i) ∧ x ≠ r) ∧ ∀ x, ((∃ t, look P x = some t) ∨ x = i) → x ≠ r → look P x = some (f x) ∨ f x ∈ keysD (pre ++ [(s, k)]) := by
  intro pre
  induction hl : pre.length using Nat.strongRecOn generalizing pre with
  | _ N ih =>
    intro s k r post e hr
    obtain ⟨h1, h2, h3⟩ := w.ok pre s k post e
    have hr' := (m.hp s r).mp hr
    have hri : r ≠ i := fun z => by rw [z, hi] at hr'; cases hr'
    have hsk : s ∈ keysD (pre ++ [(s, k)]) := by rw [keysD, List.map_append]; exact List.mem_append_right _ (by simp)
    rcases h3 with rfl | ⟨s', hs', h3⟩
    · -- from the first letter itself
      refine ⟨fun x => if x = k then s else (look P x).getD 0, ⟨fun x hx => ?_, fun x x' hx hx' he => ?_⟩, fun x hx hxr => ?_⟩
      · obtain ⟨hx, hxr⟩ := hx
        by_cases ex : x = k
        · simp only [ex, if_true]; exact ⟨h1, h2⟩
        · simp only [if_neg ex]
          rcases hx with ⟨t, ht⟩ | hx
          · rw [ht]
            exact m.ft t x ((m.hp t x).mpr ht)
          · exact absurd hx ex
      · obtain ⟨hx, hxr⟩ := hx
        obtain ⟨hx', hxr'⟩ := hx'
        by_cases ex : x = k <;> by_cases ex' : x' = k
        · rw [ex, ex']
        · simp only [ex, if_true, if_neg ex'] at he
          rcases hx' with ⟨t, ht⟩ | hx'
          · rw [ht] at he
            have he : s = t := he
            rw [← he] at ht
            have a := (m.hp s x').mpr ht
            rw [hr] at a
            injection a with a
            exact absurd a.symm hxr'
          · exact absurd hx' ex'
        · simp only [ex', if_true, if_neg ex] at he
          rcases hx with ⟨t, ht⟩ | hx
          · rw [ht] at he
            have he : t = s := he
            rw [he] at ht
            have a := (m.hp s x).mpr ht
            rw [hr] at a
            injection a with a
            exact absurd a.symm hxr
          · exact absurd hx ex
        · simp only [if_neg ex, if_neg ex'] at he
          rcases hx with ⟨t, ht⟩ | hx
          · rcases hx' with ⟨t', ht'⟩ | hx'
            · rw [ht, ht'] at he
              have he : t = t' := he
              rw [← he] at ht'
              have a := (m.hp t x).mpr ht
              have b := (m.hp t x').mpr ht'
              rw [a] at b
              injection b
            · exact absurd hx' ex'
          · exact absurd hx ex
      · by_cases ex : x = k
        · simp only [ex, if_true]; exact .inr hsk
        · simp only [if_neg ex]
          rcases hx with ⟨t, ht⟩ | hx
          · rw [ht]; exact .inl rfl
          · exact absurd hx ex
    · -- from a held letter
      obtain ⟨q, hq, eq⟩ := List.mem_map.mp hs'
      obtain ⟨a, b, eab⟩ := List.append_of_mem hq
      have e' : came = a ++ (s', q.2) :: (b ++ (s, k) :: post) := by
        rw [e, eab, List.append_assoc, ← eq]; rfl
      have hal : a.length < N := by rw [← hl, eab, List.length_append, List.length_cons]; omega
      obtain ⟨f, ⟨f1, f2⟩, f3⟩ := ih a.length hal a rfl s' q.2 k _ e' h3
      have hk := (m.hp s' k).mp h3
      have hki : k ≠ i := fun z => by rw [z, hi] at hk; cases hk
      have ssn : s ∉ keysD (a ++ [(s', q.2)]) := fun z => by
        have nd := w.nod
        rw [e, keysD, List.map_append, List.nodup_append] at nd
        refine nd.2.2 s ?_ s List.mem_cons_self rfl
        rw [eab]
        rw [keysD, List.map_append] at z
        rw [List.map_append]
        rcases List.mem_append.mp z with z | z
        · exact List.mem_append_left _ z
        · refine List.mem_append_right _ ?_
          simp at z
          rw [List.map_cons, z]
          exact List.mem_cons.mpr (.inl eq.symm)
      have sub : ∀ z, z ∈ keysD (a ++ [(s', q.2)]) → z ∈ keysD (pre ++ [(s, k)]) := fun z hz => by
        rw [keysD, List.map_append] at hz ⊢
        refine List.mem_append_left _ ?_
        rw [eab, List.map_append]
        rcases List.mem_append.mp hz with hz | hz
        · exact List.mem_append_left _ hz
        · refine List.mem_append_right _ ?_
          simp at hz
          rw [List.map_cons, hz]
          exact List.mem_cons.mpr (.inl eq.symm)
      -- who sits at s by f is r
      have at_s : ∀ x, ((∃ t, look P x = some t) ∨ x = i) → x ≠ k → f x = s → x = r := fun x hx hxk hf => by
        rcases f3 x hx hxk with g | g
        · rw [hf] at g
          have := (m.hp s x).mpr g
          rw [hr] at this
          injection this with this
          exact this.symm
        · rw [hf] at g
          exact absurd g ssn
      by_cases hkr : k = r
      · -- it cannot be: s' would be s
        have : s' = s := m.inj h3 (by rw [hkr]; exact hr)
        refine absurd ?_ ssn
        rw [keysD, List.map_append, ← this]
        exact List.mem_append_right _ (by simp)
      refine ⟨fun x => if x = k then s else f x, ⟨fun x hx => ?_, fun x x' hx hx' he => ?_⟩, fun x hx hxr => ?_⟩
      · obtain ⟨hx, hxr⟩ := hx
        by_cases ex : x = k
        · simp only [ex, if_true]; exact ⟨h1, h2⟩
        · simp only [if_neg ex]
          exact f1 x ⟨hx, ex⟩
      · obtain ⟨hx, hxr⟩ := hx
        obtain ⟨hx', hxr'⟩ := hx'
        by_cases ex : x = k <;> by_cases ex' : x' = k
        · rw [ex, ex']
        · simp only [ex, if_true, if_neg ex'] at he
          exact absurd (at_s x' hx' ex' he.symm) hxr'
        · simp only [ex', if_true, if_neg ex] at he
          exact absurd (at_s x hx ex he) hxr
        · simp only [if_neg ex, if_neg ex'] at he
          exact f2 x x' ⟨hx, ex⟩ ⟨hx', ex'⟩ he
      · by_cases ex : x = k
        · simp only [ex, if_true]; exact .inr hsk
        · simp only [if_neg ex]
          rcases f3 x hx ex with g | g
          · exact .inl g
          · exact .inr (sub _ g)
theorem can_line {H P : List (Nat × Nat)} {i : Nat} {came : List (Nat × Nat)} {line : List Nat} (w : Wk F n H i came line) (m : Mat F n H P) (hi : look P i = none) {r : Nat} (hr : r ∈ line) (hri : r ≠ i) : Can F n (fun x => ((∃ t, look P x = some t) ∨ x = i) ∧ x ≠ r) := by
  rcases w.mem.mp hr with h | ⟨s, hs, h⟩
  · exact absurd h hri
  · obtain ⟨q, hq, eq⟩ := List.mem_map.mp hs
    obtain ⟨a, b, eab⟩ := List.append_of_mem hq
    have e : came = a ++ (s, q.2) :: b := by rw [eab, ← eq]
    obtain ⟨f, hf, _⟩ := can_without w m hi a s q.2 r b e h
    exact ⟨f, hf⟩
/-! ### shifting -/
structure Sh (F : Nat → Nat → Bool) (n : Nat) (H P : List (Nat × Nat)) (i : Nat) (came : List (Nat × Nat)) (pre : List (Nat × Nat)) (s k : Nat) (H' P' : List (Nat × Nat)) : Prop where
  sp : ∃ post, came = pre ++ (s, k) :: post
  a : ∀ s' ∈ keysD pre, look H' s' = look H s'
  b : ∀ s' ∈ keysD pre, ∀ k', look H s' = some k' → look P' k' = some s'
  bi : look P' i = none
  c : ∀ s' k', s' ≠ s → (look H' s' = some k' ↔ look P' k' = some s')
  d : ∀ k', look P' k' ≠ some s
  e : ∀ s' k', s' ≠ s → look H' s' = some k' → s' < n ∧ F k' s' = true
  g : keysD P' = keysD P
/-- the walk's seats: each from the first letter, or from one that is held by an earlier seat -/
structure Way (F : Nat → Nat → Bool) (n : Nat) (H : List (Nat × Nat)) (i : Nat) (came : List (Nat × Nat)) : Prop where
  nod : (keysD came).Nodup
  ok : ∀ pre s k post, came = pre ++ (s, k) :: post → s < n ∧ F k s = true ∧ (k = i ∨ ∃ s' ∈ keysD pre, look H s' = some k)
theorem Wk.way {H : List (Nat × Nat)} {i : Nat} {came : List (Nat × Nat)} {line : List Nat} (w : Wk F n H i came line) {s k : Nat} (hs : s ∉ keysD came) (hk : k ∈ line) (hn : s < n) (hf : F k s = true) : Way F n H i (came ++ [(s, k)]) where
  nod := by
    rw [keysD, List.map_append]
    refine List.nodup_append.mpr ⟨w.nod, by simp, ?_⟩
    intro a ha b hb z
    simp at hb
    subst hb z
    exact hs ha
  ok := fun pre s1 k1 post e => by
    rcases List.eq_nil_or_concat post with rfl | ⟨post', q, rfl⟩
    · have e : came ++ [(s, k)] = pre ++ [(s1, k1)] := e
      obtain ⟨e1, e2⟩ := List.append_inj' e rfl
      injection e2 with e2
      injection e2 with e2 e3
      subst e1 e2 e3
      exact ⟨hn, hf, w.mem.mp hk⟩
    · rw [List.concat_eq_append, ← List.cons_append, ← List.append_assoc] at e
      obtain ⟨e1, _⟩ := List.append_inj' e rfl
      exact w.ok _ _ _ _ e1
theorem Sh.begun {H P : List (Nat × Nat)} {i : Nat} {came : List (Nat × Nat)} {s k : Nat} (m : Mat F n H P) (hi : look P i = none) (hs : look H s = none) : Sh F n H P i (came ++ [(s, k)]) came s k H P where
  sp := ⟨[], rfl⟩
  a := fun _ _ => rfl
  b := fun s' _ k' h => (m.hp s' k').mp h
  bi := hi
  c := fun s' k' _ => m.hp s' k'
  d := fun k' h => by rw [(m.hp s k').mpr h] at hs; cases hs
  e := fun s' k' _ h => m.ft s' k' h
  g := rfl
/-- a turn that ends it -/
theorem Sh.last {H P : List (Nat × Nat)} {i : Nat} {came pre : List (Nat × Nat)} {s k : Nat} {H' P' : List (Nat × Nat)} (h : Sh F n H P i came pre s k H' P') (w : Way F n H i came) (hk : k = i) : Mat F n (put H' s k) (put P' k s) ∧ keysD (put P' k s) = keysD P ++ [i] := by
  subst hk
  obtain ⟨post, e⟩ := h.sp
  obtain ⟨h1, h2, _⟩ := w.ok pre s k post e
  refine ⟨⟨fun s' k' => ?_, fun s' k' g => ?_⟩, ?_⟩
  · rw [look_put, look_put]
    by_cases es : s' = s <;> by_cases ek : k' = k
    · rw [if_pos es, if_pos ek, es, ek]; simp
    · rw [if_pos es, if_neg ek]
      constructor
      · intro z; injection z with z; exact absurd z.symm ek
      · intro z; rw [es] at z; exact absurd z (h.d k')
    · rw [if_neg es, if_pos ek]
      constructor
      · intro z
        have := (h.c s' k' es).mp z
        rw [ek, h.bi] at this
        cases this
      · intro z; injection z with z; exact absurd z.symm es
    · rw [if_neg es, if_neg ek]
      exact h.c s' k' es
  · rw [look_put] at g
    by_cases es : s' = s
    · rw [if_pos es] at g
      injection g with g
      rw [es, ← g]
      exact ⟨h1, h2⟩
    · rw [if_neg es] at g
      exact h.e s' k' es g
  · rw [keys_put, h.g, if_neg]
    have := look_none.mp h.bi
    rwa [h.g] at this
/-- a turn that goes on -/
theorem Sh.next {H P : List (Nat × Nat)} {i : Nat} {came pre : List (Nat × Nat)} {s k : Nat} {H' P' : List (Nat × Nat)} (m : Mat F n H P) (hi : look P i = none) (h : Sh F n H P i came pre s k H' P') (w : Way F n H i came) (hk : k ≠ i) :
    ∃ pre' s' k', pre'.length < pre.length ∧ look P' k = some s' ∧ Sh F n H P i came pre' s' k' (put H' s k) (put P' k s) := by
  obtain ⟨post, e⟩ := h.sp
  obtain ⟨h1, h2, h3⟩ := w.ok pre s k post e
  rcases h3 with h3 | ⟨s', hs', h3⟩
  · exact absurd h3 hk
  obtain ⟨q, hq, eq⟩ := List.mem_map.mp hs'
  obtain ⟨a, b, eab⟩ := List.append_of_mem hq
  have e' : came = a ++ (s', q.2) :: (b ++ (s, k) :: post) := by
    rw [e, eab, List.append_assoc, ← eq]; rfl
  have hb := h.b s' hs' k h3
  have nd := w.nod
  have ss : s' ≠ s := fun z => by
    rw [e, keysD, List.map_append, List.nodup_append] at nd
    exact nd.2.2 s' hs' s List.mem_cons_self z
  have asub : ∀ t, t ∈ keysD a → t ∈ keysD pre := fun t ht => by
    rw [eab, keysD, List.map_append]; exact List.mem_append_left _ ht
  have as : ∀ t, t ∈ keysD a → t ≠ s := fun t ht z => by
    rw [e, keysD, List.map_append, List.nodup_append] at nd
    exact nd.2.2 t (asub t ht) s List.mem_cons_self z
  have as' : ∀ t, t ∈ keysD a → t ≠ s' := fun t ht z => by
    rw [e', keysD, List.map_append, List.nodup_append] at nd
    exact nd.2.2 t ht s' List.mem_cons_self z
  have kP := (m.hp s' k).mp h3
  refine ⟨a, s', q.2, by rw [eab, List.length_append, List.length_cons]; omega, hb, ⟨⟨_, e'⟩, fun t ht => ?_, fun t ht k' hk' => ?_, ?_, fun t k' hts => ?_, fun k' z => ?_, fun t k' hts z => ?_, ?_⟩⟩
  · rw [look_put, if_neg (as t ht)]
    exact h.a t (asub t ht)
  · rw [look_put]
    have : k' ≠ k := fun z => as' t ht (m.inj hk' (by rw [z]; exact h3))
    rw [if_neg this]
    exact h.b t (asub t ht) k' hk'
  · rw [look_put, if_neg (fun z => hk z.symm)]
    exact h.bi
  · rw [look_put, look_put]
    by_cases es : t = s <;> by_cases ek : k' = k
    · rw [if_pos es, if_pos ek, es, ek]; simp
    · rw [if_pos es, if_neg ek]
      constructor
      · intro z; injection z with z; exact absurd z.symm ek
      · intro z; rw [es] at z; exact absurd z (h.d k')
    · rw [if_neg es, if_pos ek]
      constructor
      · intro z
        have := (h.c t k' es).mp z
        rw [ek, hb] at this
        injection this with this
        exact absurd this.symm hts
      · intro z; injection z with z; exact absurd z.symm es
    · rw [if_neg es, if_neg ek]
      exact h.c t k' es
  · rw [look_put] at z
    by_cases ek : k' = k
    · rw [if_pos ek] at z
      injection z with z
      exact ss z.symm
    · rw [if_neg ek] at z
      have := (h.c s' k' ss).mpr z
      rw [h.a s' hs', h3] at this
      injection this with this
      exact ek this.symm
  · rw [look_put] at z
    by_cases es : t = s
    · rw [if_pos es] at z
      injection z with z
      rw [es, ← z]
      exact ⟨h1, h2⟩
    · rw [if_neg es] at z
      exact h.e t k' es z
  · rw [keys_put, h.g, if_pos]
    exact look_some.mp ⟨_, kP⟩
end Mi

namespace Mi
/-! ### the best lot, letter by letter -/
section
variable (can : List Nat → Bool)
def grd : Nat → List Nat
  | 0 => []
  | j + 1 => if can (grd j ++ [j]) = true then grd j ++ [j] else grd j
/-- the least lot behind a refused letter -/
def lotOf (j : Nat) : List Nat := (grd can j).filter fun r => can ((grd can j).filter (fun x => decide (x ≠ r)) ++ [j])
/-- letters dropped one by one, as long as the rest can not be seated -/
def leanF (out : Nat) : List Nat → List Nat → List Nat
  | [], ahead => ahead
  | g :: r, ahead => if can (ahead.filter (fun x => decide (x ≠ g)) ++ [out]) = true then leanF out r ahead else leanF out r (ahead.filter fun x => decide (x ≠ g))
end
variable {can can' : List Nat → Bool}
theorem grd_lt : ∀ {j x : Nat}, x ∈ grd can j → x < j
  | 0, x, h => by cases h
  | j + 1, x, h => by
    unfold grd at h
    by_cases e : can (grd can j ++ [j]) = true
    · rw [if_pos e] at h
      rcases List.mem_append.mp h with h | h
      · have := grd_lt h; omega
      · simp at h; omega
    · rw [if_neg e] at h
      have := grd_lt h; omega
theorem grd_sorted : ∀ {j : Nat}, (grd can j).Pairwise (· < ·)
  | 0 => List.Pairwise.nil
  | j + 1 => by
    unfold grd
    by_cases e : can (grd can j ++ [j]) = true
    · rw [if_pos e]
      refine List.pairwise_append.mpr ⟨grd_sorted, List.pairwise_singleton _ _, fun a ha b hb => ?_⟩
      simp at hb
      subst hb
      exact grd_lt ha
    · rw [if_neg e]
      exact grd_sorted
theorem grd_nodup {j : Nat} : (grd can j).Nodup := grd_sorted.imp fun h => Nat.ne_of_lt h
theorem grd_snoc_nodup {j : Nat} : (grd can j ++ [j]).Nodup := by
  refine List.nodup_append.mpr ⟨grd_nodup, by simp, ?_⟩
  intro a ha b hb z
  simp at hb
  subst hb z
  exact Nat.lt_irrefl _ (grd_lt ha)
theorem filter_lt_all {l : List Nat} {j : Nat} (h : ∀ x ∈ l, x < j) : l.filter (fun x => decide (x < j)) = l := by
  rw [List.filter_eq_self]
  intro x hx
  exact decide_eq_true (h x hx)
theorem grd_prefix {j : Nat} : ∀ {m : Nat}, j ≤ m → (grd can m).filter (fun x => decide (x < j)) = grd can j
  | 0, h => by
    have : j = 0 := by omega
    subst this
    rfl
  | m + 1, h => by
    by_cases e : j = m + 1
    · subst e
      exact filter_lt_all fun x hx => grd_lt hx
    · have ih := grd_prefix (j := j) (m := m) (by omega)
      rw [grd]
      by_cases e : can (grd can m ++ [m]) = true
      · rw [if_pos e, List.filter_append, ih]
        have : ¬ m < j := by omega
        simp [this]
      · rw [if_neg e]; exact ih
theorem grd_mem {j m : Nat} (h : j < m) : j ∈ grd can m ↔ can (grd can j ++ [j]) = true := by
  have e := grd_prefix (can := can) (j := j + 1) (m := m) h
  have : j ∈ grd can m ↔ j ∈ grd can (j + 1) := by
    rw [← e, List.mem_filter]
    simp
  rw [this, grd]
  by_cases q : can (grd can j ++ [j]) = true
  · rw [if_pos q]; simp [q]
  · rw [if_neg q]
    constructor
    · intro z; exact absurd (grd_lt z) (Nat.lt_irrefl _)
    · intro z; exact absurd z q
theorem grd_congr : ∀ {m : Nat}, (∀ ks, ks.Nodup → (∀ k ∈ ks, k < m) → can ks = can' ks) → grd can m = grd can' m
  | 0, _ => rfl
  | m + 1, h => by
    have ih := grd_congr (m := m) fun ks hn hk => h ks hn fun k hk' => Nat.lt_succ_of_lt (hk k hk')
    rw [grd, grd, ← ih]
    rw [h (grd can m ++ [m]) grd_snoc_nodup fun k hk => by
      rcases List.mem_append.mp hk with hk | hk
      · exact Nat.lt_succ_of_lt (grd_lt hk)
      · simp at hk; omega]
theorem filter_ne_nodup {l : List Nat} {r j : Nat} (h : l.Nodup) (hj : j ∉ l) : (l.filter (fun x => decide (x ≠ r)) ++ [j]).Nodup := by
  refine List.nodup_append.mpr ⟨List.Pairwise.filter _ h, by simp, ?_⟩
  intro a ha b hb z
  simp at hb
  subst hb z
  exact hj (List.mem_filter.mp ha).1
theorem not_mem_grd {j : Nat} : j ∉ grd can j := fun h => Nat.lt_irrefl _ (grd_lt h)
theorem lotOf_congr {j : Nat} (h : ∀ ks, ks.Nodup → (∀ k ∈ ks, k < j + 1) → can ks = can' ks) : lotOf can j = lotOf can' j := by
  have e := grd_congr (m := j) fun ks hn hk => h ks hn fun k hk' => Nat.lt_succ_of_lt (hk k hk')
  unfold lotOf
  rw [← e]
  refine List.filter_congr fun r hr => ?_
  rw [h _ (filter_ne_nodup grd_nodup not_mem_grd)]
  intro k hk
  rcases List.mem_append.mp hk with hk | hk
  · exact Nat.lt_succ_of_lt (grd_lt (List.mem_filter.mp hk).1)
  · simp at hk; omega
/-! ### letters dropped one by one end at the least lot -/
theorem leanF_eq {out : Nat} {D base : List Nat} (hb : base.Nodup) (ho : out ∉ base) (hD : ∀ x ∈ D, x ∈ base)
    (hm : ∀ a b : List Nat, a.Nodup → b.Nodup → (∀ x ∈ a, x ∈ b) → can b = true → can a = true)
    (h1 : ∀ r ∈ base, r ∈ D ↔ can (base.filter (fun x => decide (x ≠ r)) ++ [out]) = true) (h2 : D.Nodup) (h3 : can (D ++ [out]) ≠ true) :
    ∀ (l ahead : List Nat), (∀ x ∈ l, x ∈ base) → ahead.Nodup → (∀ x ∈ ahead, x ∈ base) → (∀ x ∈ D, x ∈ ahead) →
      leanF can out l ahead = ahead.filter fun x => decide (x ∈ D) || decide (x ∉ l)
  | [], ahead, hl, na, ha, hd => by
    rw [leanF]
    symm
    rw [List.filter_eq_self]
    intro x _
    simp
  | g :: r, ahead, hl, na, ha, hd => by
    have hg : g ∈ base := hl g List.mem_cons_self
    have noD : (D ++ [out]).Nodup := by
      refine List.nodup_append.mpr ⟨h2, by simp, ?_⟩
      intro a ha b hb z
      simp at hb
      subst hb z
      exact ho (hD _ ha)
    rw [leanF]
    by_cases hgD : g ∈ D
    · have : can (ahead.filter (fun x => decide (x ≠ g)) ++ [out]) = true := by
        refine hm _ _ (filter_ne_nodup na fun z => ho (ha _ z)) (filter_ne_nodup hb ho) ?_ ((h1 g hg).mp hgD)
        intro x hx
        rcases List.mem_append.mp hx with hx | hx
        · refine List.mem_append_left _ ?_
          rw [List.mem_filter] at hx ⊢
          exact ⟨ha _ hx.1, hx.2⟩
        · exact List.mem_append_right _ hx
      rw [if_pos this, leanF_eq hb ho hD hm h1 h2 h3 r ahead (fun x hx => hl x (List.mem_cons_of_mem _ hx)) na ha hd]
      refine List.filter_congr fun x hx => ?_
      by_cases e : x = g
      · subst e; simp [hgD]
      · simp [e]
    · have hno : ¬ can (ahead.filter (fun x => decide (x ≠ g)) ++ [out]) = true := fun z => h3 (hm _ _ noD (filter_ne_nodup na fun z => ho (ha _ z)) (fun x hx => by
        rcases List.mem_append.mp hx with hx | hx
        · refine List.mem_append_left _ (List.mem_filter.mpr ⟨hd _ hx, decide_eq_true ?_⟩)
          intro e; rw [e] at hx; exact hgD hx
        · exact List.mem_append_right _ hx) z)
      rw [if_neg hno, leanF_eq hb ho hD hm h1 h2 h3 r (ahead.filter fun x => decide (x ≠ g)) (fun x hx => hl x (List.mem_cons_of_mem _ hx)) (List.Pairwise.filter _ na) (fun x hx => ha x (List.mem_filter.mp hx).1) (fun x hx => List.mem_filter.mpr ⟨hd x hx, decide_eq_true (fun (e : x = g) => hgD (e ▸ hx))⟩)]
      rw [List.filter_filter]
      refine List.filter_congr fun x hx => ?_
      by_cases e : x = g
      · subst e; simp [hgD]
      · simp [e]
/-! ### what a walk tells -/
variable {F : Nat → Nat → Bool} {n : Nat}
def Tells (F : Nat → Nat → Bool) (n : Nat) (can : List Nat → Bool) : Prop := ∀ ks : List Nat, ks.Nodup → (can ks = true ↔ Can F n (· ∈ ks))
theorem Tells.mono (t : Tells F n can) : ∀ a b : List Nat, a.Nodup → b.Nodup → (∀ x ∈ a, x ∈ b) → can b = true → can a = true := fun a b ha hb h c => (t a ha).mpr (Can.mono h ((t b hb).mp c))
theorem Mat.cov {H P : List (Nat × Nat)} (m : Mat F n H P) : Can F n (fun k => ∃ t, look P k = some t) :=
  ⟨fun k => (look P k).getD 0, fun k ⟨t, ht⟩ => by simp only [ht]; exact m.ft t k ((m.hp t k).mpr ht), fun k k' ⟨t, ht⟩ ⟨t', ht'⟩ e => by
    simp only [ht, ht'] at e
    have e : t = t' := e
    rw [← e] at ht'
    have a := (m.hp t k).mpr ht
    have b := (m.hp t k').mpr ht'
    rw [a] at b
    injection b⟩
/-- the seats held are just those of the letters taken so far -/
def Of (can : List Nat → Bool) (j : Nat) (P : List (Nat × Nat)) : Prop := ∀ k, (∃ t, look P k = some t) ↔ k ∈ grd can j
section
variable {H P : List (Nat × Nat)} {j : Nat} {came : List (Nat × Nat)} {line : List Nat}
theorem Of.none (o : Of can j P) : look P j = none := by
  cases h : look P j with
  | none => rfl
  | some t => exact absurd ((o j).mp ⟨t, h⟩) not_mem_grd
theorem line_sub (w : Wk F n H j came line) (m : Mat F n H P) (o : Of can j P) : ∀ k ∈ line, k ∈ grd can j ++ [j] := fun k hk => by
  rcases w.mem.mp hk with e | ⟨s, _, h⟩
  · exact List.mem_append_right _ (by simp [e])
  · exact List.mem_append_left _ ((o k).mp ⟨s, (m.hp s k).mp h⟩)
theorem no_more (w : Wk F n H j came line) (c : Shut F n came line) (m : Mat F n H P) (o : Of can j P) (t : Tells F n can) : can (grd can j ++ [j]) ≠ true := fun z =>
  not_can w c m o.none (Can.mono (fun k hk => line_sub w m o k hk) ((t _ grd_snoc_nodup).mp z))
theorem on_line (w : Wk F n H j came line) (c : Shut F n came line) (m : Mat F n H P) (o : Of can j P) (t : Tells F n can) {r : Nat} (hr : r ∈ grd can j) : r ∈ line ↔ can ((grd can j).filter (fun x => decide (x ≠ r)) ++ [j]) = true := by
  rw [t _ (filter_ne_nodup grd_nodup not_mem_grd)]
  constructor
  · intro h
    have hrj : r ≠ j := fun e => Nat.lt_irrefl _ (e ▸ grd_lt hr)
    refine Can.mono (fun k hk => ?_) (can_line w m o.none h hrj)
    rcases List.mem_append.mp hk with hk | hk
    · rw [List.mem_filter] at hk
      exact ⟨.inl ((o k).mpr hk.1), of_decide_eq_true hk.2⟩
    · simp at hk
      exact ⟨.inr hk, fun e => hrj (e ▸ hk)⟩
  · intro h
    apply Classical.byContradiction
    intro hn
    refine not_can w c m o.none (Can.mono (fun k hk => ?_) h)
    rcases List.mem_append.mp (line_sub w m o k hk) with hk' | hk'
    · exact List.mem_append_left _ (List.mem_filter.mpr ⟨hk', decide_eq_true fun e => hn (e ▸ hk)⟩)
    · exact List.mem_append_right _ hk'
theorem mem_lotOf (w : Wk F n H j came line) (c : Shut F n came line) (m : Mat F n H P) (o : Of can j P) (t : Tells F n can) {r : Nat} : r ∈ lotOf can j ↔ r ∈ line ∧ r ≠ j := by
  unfold lotOf
  rw [List.mem_filter]
  constructor
  · rintro ⟨h1, h2⟩
    exact ⟨(on_line w c m o t h1).mpr h2, fun e => Nat.lt_irrefl _ (e ▸ grd_lt h1)⟩
  · rintro ⟨h1, h2⟩
    have : r ∈ grd can j := by
      rcases List.mem_append.mp (line_sub w m o r h1) with h | h
      · exact h
      · simp at h; exact absurd h h2
    exact ⟨this, (on_line w c m o t this).mp h1⟩
theorem lotOf_sorted : (lotOf can j).Pairwise (· < ·) := List.Pairwise.filter _ grd_sorted
theorem lotOf_nodup : (lotOf can j).Nodup := List.Pairwise.filter _ grd_nodup
theorem lotOf_sub {x : Nat} (h : x ∈ lotOf can j) : x ∈ grd can j := (List.mem_filter.mp h).1
theorem lot_no (w : Wk F n H j came line) (c : Shut F n came line) (m : Mat F n H P) (o : Of can j P) (t : Tells F n can) : can (lotOf can j ++ [j]) ≠ true := by
  have nd : (lotOf can j ++ [j]).Nodup := by
    refine List.nodup_append.mpr ⟨lotOf_nodup, by simp, ?_⟩
    intro a ha b hb z
    simp at hb
    subst hb z
    exact not_mem_grd (lotOf_sub ha)
  intro z
  refine not_can w c m o.none (Can.mono (fun k hk => ?_) ((t _ nd).mp z))
  by_cases e : k = j
  · exact List.mem_append_right _ (by simp [e])
  · exact List.mem_append_left _ ((mem_lotOf w c m o t).mpr ⟨hk, e⟩)
theorem lot_perm (w : Wk F n H j came line) (c : Shut F n came line) (m : Mat F n H P) (o : Of can j P) (t : Tells F n can) : (j :: lotOf can j).Perm line := by
  refine (List.perm_ext_iff_of_nodup ?_ (w.nodup m o.none)).mpr fun x => ?_
  · exact List.nodup_cons.mpr ⟨fun h => not_mem_grd (lotOf_sub h), lotOf_nodup⟩
  · rw [List.mem_cons, mem_lotOf w c m o t]
    constructor
    · rintro (e | h)
      · exact w.mem.mpr (.inl e)
      · exact h.1
    · intro h
      by_cases e : x = j
      · exact .inl e
      · exact .inr ⟨h, e⟩
/-- by the law's own dropping -/
theorem lot_lean (w : Wk F n H j came line) (c : Shut F n came line) (m : Mat F n H P) (o : Of can j P) (t : Tells F n can) : leanF can j (grd can j) (grd can j) = lotOf can j := by
  rw [leanF_eq (D := lotOf can j) (base := grd can j) grd_nodup not_mem_grd (fun x hx => lotOf_sub hx) t.mono (fun r hr => ?_) lotOf_nodup (lot_no w c m o t) _ _ (fun _ h => h) grd_nodup (fun _ h => h) (fun x hx => lotOf_sub hx)]
  · unfold lotOf
    refine List.filter_congr fun x hx => ?_
    simp [hx]
  · unfold lotOf
    rw [List.mem_filter]
    exact ⟨fun h => h.2, fun h => ⟨hr, h⟩⟩
theorem Of.go (o : Of can j P) (h : can (grd can j ++ [j]) ≠ true) : Of can (j + 1) P := fun k => by rw [o k, grd, if_neg h]
theorem Of.took {P' : List (Nat × Nat)} (o : Of can j P) (h : can (grd can j ++ [j]) = true) (hk : keysD P' = keysD P ++ [j]) : Of can (j + 1) P' := fun k => by
  rw [look_some, hk, List.mem_append, ← look_some, o k, grd, if_pos h, List.mem_append]
theorem can_more {H' P' : List (Nat × Nat)} (m' : Mat F n H' P') (o : Of can j P) (t : Tells F n can) (hk : keysD P' = keysD P ++ [j]) : can (grd can j ++ [j]) = true := by
  rw [t _ grd_snoc_nodup]
  refine Can.mono (fun k hk' => ?_) m'.cov
  rw [look_some, hk]
  rcases List.mem_append.mp hk' with h | h
  · exact List.mem_append_left _ (look_some.mp ((o k).mpr h))
  · exact List.mem_append_right _ h
end
end Mi

namespace Mi
/-! ### seats that choose one after the other -/
def firstN (m : Nat) (p : Nat → Bool) : Option Nat := (List.range m).find? p
theorem firstN_some {m i : Nat} {p : Nat → Bool} : firstN m p = some i ↔ i < m ∧ p i = true ∧ ∀ j, j < i → p j = false := by
  unfold firstN
  rw [List.find?_range_eq_some, List.mem_range]
  constructor
  · rintro ⟨h1, h2, h3⟩
    exact ⟨h2, h1, fun j hj => by have := h3 j hj; simpa using this⟩
  · rintro ⟨h1, h2, h3⟩
    exact ⟨h2, h1, fun j hj => by rw [h3 j hj]; rfl⟩
theorem firstN_none {m : Nat} {p : Nat → Bool} : firstN m p = none ↔ ∀ j, j < m → p j = false := by
  unfold firstN
  rw [List.find?_eq_none]
  constructor
  · intro h j hj
    have := h j (List.mem_range.mpr hj)
    simpa using this
  · intro h j hj
    rw [h j (List.mem_range.mp hj)]; decide
theorem firstN_congr {m : Nat} {p q : Nat → Bool} (h : ∀ j, j < m → p j = q j) : firstN m p = firstN m q := by
  cases e : firstN m q with
  | none => exact firstN_none.mpr fun j hj => by rw [h j hj]; exact firstN_none.mp e j hj
  | some i =>
    obtain ⟨h1, h2, h3⟩ := firstN_some.mp e
    exact firstN_some.mpr ⟨h1, by rw [h i h1]; exact h2, fun j hj => by rw [h j (by omega)]; exact h3 j hj⟩
section
variable (ok : Nat → Nat → Bool) (m : Nat)
def pick : Nat → List (Option Nat)
  | 0 => []
  | s + 1 => pick s ++ [firstN m fun k => decide (some k ∉ pick s) && ok s k]
def pkAt (s : Nat) : Option Nat := firstN m fun k => decide (some k ∉ pick ok m s) && ok s k
end
variable {ok : Nat → Nat → Bool} {m : Nat}
theorem pick_succ {s : Nat} : pick ok m (s + 1) = pick ok m s ++ [pkAt ok m s] := rfl
theorem pick_len : ∀ {s : Nat}, (pick ok m s).length = s
  | 0 => rfl
  | s + 1 => by rw [pick_succ, List.length_append, pick_len]; rfl
theorem pick_map : ∀ {s : Nat}, pick ok m s = (List.range s).map (pkAt ok m)
  | 0 => rfl
  | s + 1 => by rw [pick_succ, pick_map, List.range_succ, List.map_append]; rfl
theorem pick_mem {s k : Nat} : some k ∈ pick ok m s ↔ ∃ t, t < s ∧ pkAt ok m t = some k := by
  rw [pick_map, List.mem_map]
  constructor
  · rintro ⟨t, ht, e⟩; exact ⟨t, List.mem_range.mp ht, e⟩
  · rintro ⟨t, ht, e⟩; exact ⟨t, List.mem_range.mpr ht, e⟩
theorem pkAt_some {s k : Nat} : pkAt ok m s = some k ↔ k < m ∧ ok s k = true ∧ (∀ t, t < s → pkAt ok m t ≠ some k) ∧ ∀ k', k' < k → ok s k' = true → ∃ t, t < s ∧ pkAt ok m t = some k' := by
  unfold pkAt
  rw [firstN_some]
  show _ ∧ _ ∧ _ ↔ _ ∧ _ ∧ (∀ t, t < s → pkAt ok m t ≠ some k) ∧ ∀ k', k' < k → ok s k' = true → ∃ t, t < s ∧ pkAt ok m t = some k'
  constructor
  · rintro ⟨h1, h2, h3⟩
    rw [Bool.and_eq_true, decide_eq_true_eq] at h2
    refine ⟨h1, h2.2, fun t ht e => h2.1 (pick_mem.mpr ⟨t, ht, e⟩), fun k' hk' ho => ?_⟩
    have := h3 k' hk'
    rw [ho, Bool.and_true] at this
    exact pick_mem.mp (by simpa using this)
  · rintro ⟨h1, h2, h3, h4⟩
    refine ⟨h1, ?_, fun k' hk' => ?_⟩
    · rw [h2, Bool.and_true, decide_eq_true_eq]
      intro z
      obtain ⟨t, ht, e⟩ := pick_mem.mp z
      exact h3 t ht e
    · cases ho : ok s k' with
      | false => rw [Bool.and_false]
      | true =>
        rw [Bool.and_true, decide_eq_false]
        intro z
        exact z (pick_mem.mpr (h4 k' hk' ho))
theorem pkAt_lt {s k : Nat} (h : pkAt ok m s = some k) : k < m := (pkAt_some.mp h).1
theorem pkAt_inj {s t k : Nat} (h : pkAt ok m s = some k) (h' : pkAt ok m t = some k) : s = t := by
  apply Classical.byContradiction
  intro e
  rcases Nat.lt_or_gt_of_ne e with q | q
  · exact (pkAt_some.mp h').2.2.1 s q h
  · exact (pkAt_some.mp h).2.2.1 t q h'
/-- a letter that is not chosen: its seats chose earlier ones -/
theorem pkAt_before {s k : Nat} (hk : k < m) (ho : ok s k = true) (hn : ∀ t, t < s → pkAt ok m t ≠ some k) : ∃ k', k' ≤ k ∧ pkAt ok m s = some k' := by
  cases e : pkAt ok m s with
  | none =>
    exfalso
    have := firstN_none.mp e k hk
    rw [ho, Bool.and_true] at this
    have : some k ∈ pick ok m s := by simpa using this
    obtain ⟨t, ht, q⟩ := pick_mem.mp this
    exact hn t ht q
  | some k' =>
    refine ⟨k', ?_, rfl⟩
    apply Nat.le_of_not_lt
    intro q
    obtain ⟨t, ht, q⟩ := (pkAt_some.mp e).2.2.2 k q ho
    exact hn t ht q
/-- seat by seat, or letter by letter: the same -/
theorem pick_sym {n : Nat} {ok' : Nat → Nat → Bool} (h : ∀ s k, ok' k s = ok s k) : ∀ (N s k : Nat), s + k = N → s < n → k < m → (pkAt ok m s = some k ↔ pkAt ok' n k = some s) := by
  intro N
  induction N using Nat.strongRecOn with
  | _ N ih =>
    intro s k hN hs hk
    constructor
    · intro e
      obtain ⟨h1, h2, h3, h4⟩ := pkAt_some.mp e
      refine pkAt_some.mpr ⟨hs, by rw [h]; exact h2, fun k' hk' e' => ?_, fun s' hs' ho => ?_⟩
      · have := (ih (s + k') (by omega) s k' rfl hs (by omega)).mpr e'
        rw [e] at this
        injection this with this
        omega
      · rw [h] at ho
        obtain ⟨k', hk', e'⟩ := pkAt_before (m := m) hk ho fun t ht => h3 t (by omega)
        have : k' ≠ k := fun z => h3 s' hs' (by rw [e', z])
        exact ⟨k', by omega, (ih (s' + k') (by omega) s' k' rfl (by omega) (by omega)).mp e'⟩
    · intro e
      obtain ⟨h1, h2, h3, h4⟩ := pkAt_some.mp e
      refine pkAt_some.mpr ⟨hk, by rw [← h]; exact h2, fun s' hs' e' => ?_, fun k' hk' ho => ?_⟩
      · have := (ih (s' + k) (by omega) s' k rfl (by omega) hk).mp e'
        rw [e] at this
        injection this with this
        omega
      · rw [← h] at ho
        obtain ⟨s', hs', e'⟩ := pkAt_before (m := n) hs ho fun t ht => h3 t (by omega)
        have : s' ≠ s := fun z => h3 k' hk' (by rw [e', z])
        exact ⟨s', by omega, (ih (s' + k') (by omega) s' k' rfl (by omega) (by omega)).mpr e'⟩
theorem pick_iff {n : Nat} {ok' : Nat → Nat → Bool} (h : ∀ s k, ok' k s = ok s k) {s k : Nat} (hs : s < n) (hk : k < m) : pkAt ok m s = some k ↔ pkAt ok' n k = some s := pick_sym h _ s k rfl hs hk
/-- who is taken -/
theorem taken_iff {n : Nat} {ok' : Nat → Nat → Bool} (h : ∀ s k, ok' k s = ok s k) {k : Nat} (hk : k < m) : some k ∈ pick ok m n ↔ pkAt ok' n k ≠ none := by
  rw [pick_mem]
  constructor
  · rintro ⟨s, hs, e⟩
    rw [(pick_iff h hs hk).mp e]
    intro z; cases z
  · intro hn
    cases e : pkAt ok' n k with
    | none => exact absurd e hn
    | some s =>
      have hs := pkAt_lt e
      exact ⟨s, hs, (pick_iff h hs hk).mpr e⟩
/-! ### one letter less: a hole moves -/
def Chain : Option Nat → List (Option Nat × Option Nat) → Prop
  | _, [] => True
  | none, _ :: _ => False
  | some x, (a, b) :: r => a = some x ∧ Chain b r
theorem Chain.at : ∀ {D : List (Option Nat × Option Nat)} {h : Option Nat} {k : Nat} {a b : Option Nat}, Chain h D → D[k]? = some (a, b) → (k = 0 → a = h) ∧ (∀ k', k = k' + 1 → ∃ a', D[k']? = some (a', a)) ∧ (b = none → k + 1 = D.length)
  | [], _, k, a, b, _, e => by simp at e
  | (a0, b0) :: r, none, k, a, b, c, e => c.elim
  | (a0, b0) :: r, some x, 0, a, b, c, e => by
    simp at e
    obtain ⟨rfl, rfl⟩ := e
    refine ⟨fun _ => c.1, fun k' hk' => (by omega), fun hb => ?_⟩
    subst hb
    have := c.2
    cases r with
    | nil => rfl
    | cons q r => exact this.elim
  | (a0, b0) :: r, some x, k + 1, a, b, c, e => by
    rw [List.getElem?_cons_succ] at e
    obtain ⟨h1, h2, h3⟩ := Chain.at c.2 e
    refine ⟨fun z => (by omega), fun k' hk' => ?_, fun hb => by rw [List.length_cons, h3 hb]⟩
    have : k' = k := by omega
    subst this
    cases k' with
    | zero => exact ⟨a0, by rw [h1 rfl]; rfl⟩
    | succ k'' =>
      obtain ⟨a', e'⟩ := h2 k'' rfl
      exact ⟨a', by rw [List.getElem?_cons_succ]; exact e'⟩
/-- what differs, from one seat on -/
def diffs (a b : Nat → Option Nat) (s r : Nat) : List (Option Nat × Option Nat) := (List.range' s r).filterMap fun t => if a t = b t then none else some (a t, b t)
theorem diffs_succ {a b : Nat → Option Nat} {s r : Nat} : diffs a b s (r + 1) = if a s = b s then diffs a b (s + 1) r else (a s, b s) :: diffs a b (s + 1) r := by
  unfold diffs
  rw [List.range'_succ, List.filterMap_cons]
  by_cases h : a s = b s
  · rw [if_pos h, if_pos h]
  · rw [if_neg h, if_neg h]
section
variable {ok' : Nat → Nat → Bool} {out : Nat}
/-- the letters free for the one are those free for the other, and the hole -/
def Hole (ok ok' : Nat → Nat → Bool) (m out : Nat) (s : Nat) : Option Nat → Prop
  | none => ∀ k, k < m → (some k ∉ pick ok m s ↔ k ≠ out ∧ some k ∉ pick ok' m s)
  | some x => x < m ∧ some x ∉ pick ok m s ∧ (x = out ∨ some x ∈ pick ok' m s) ∧ ∀ k, k < m → k ≠ x → (some k ∉ pick ok m s ↔ k ≠ out ∧ some k ∉ pick ok' m s)
theorem mem_succ {s k : Nat} : some k ∈ pick ok m (s + 1) ↔ some k ∈ pick ok m s ∨ pkAt ok m s = some k := by
  rw [pick_succ, List.mem_append]
  simp [eq_comm]
theorem holes (h : ∀ s k, ok' s k = (decide (k ≠ out) && ok s k)) : ∀ (r s : Nat) (x : Option Nat), Hole ok ok' m out s x → Chain x (diffs (pkAt ok m) (pkAt ok' m) s r)
  | 0, s, x, _ => by
    show Chain x []
    cases x <;> trivial
  | r + 1, s, none, hx => by
    have e : pkAt ok m s = pkAt ok' m s := firstN_congr fun k hk => by
      rw [h]
      have := hx k hk
      by_cases e1 : k = out <;> by_cases e2 : some k ∈ pick ok m s <;> by_cases e3 : some k ∈ pick ok' m s <;> simp_all
    rw [diffs_succ, if_pos e]
    refine holes h r (s + 1) none fun k hk => ?_
    rw [mem_succ, mem_succ, ← e]
    have := hx k hk
    constructor
    · intro z
      have a := this.mp fun y => z (.inl y)
      exact ⟨a.1, fun y => y.elim a.2 fun y => z (.inr y)⟩
    · rintro ⟨z1, z2⟩ y
      rcases y with y | y
      · exact (this.mpr ⟨z1, fun q => z2 (.inl q)⟩) y
      · exact z2 (.inr y)
  | r + 1, s, some x, hx => by
    obtain ⟨x1, x2, x3, x4⟩ := hx
    have nx' : pkAt ok' m s ≠ some x := fun z => by
      obtain ⟨_, q1, q2, _⟩ := pkAt_some.mp z
      rcases x3 with x3 | x3
      · rw [h, x3] at q1; simp at q1
      · obtain ⟨t, ht, e⟩ := pick_mem.mp x3
        exact q2 t ht e
    by_cases hp : pkAt ok m s = some x
    · rw [diffs_succ, if_neg (by rw [hp]; exact fun z => nx' z.symm)]
      refine ⟨hp, ?_⟩
      cases hz : pkAt ok' m s with
      | none =>
        refine holes h r (s + 1) none fun k hk => ?_
        rw [mem_succ, mem_succ, hz, hp]
        by_cases e : k = x
        · subst e
          constructor
          · intro z; exact absurd (.inr rfl) z
          · rintro ⟨z1, z2⟩
            rcases x3 with x3 | x3
            · exact absurd x3 z1
            · exact absurd (.inl x3) z2
        · have := x4 k hk e
          have e' : ¬ some x = some k := fun z => e (by injection z with z; exact z.symm)
          simp only [e', or_false]
          rw [this]
          simp
      | some z =>
        have zx : z ≠ x := fun q => nx' (by rw [hz, q])
        obtain ⟨z1, z2, z3, _⟩ := pkAt_some.mp hz
        refine holes h r (s + 1) (some z) ⟨z1, ?_, .inr (mem_succ.mpr (.inr hz)), fun k hk hkz => ?_⟩
        · rw [mem_succ, hp]
          have a : some z ∉ pick ok' m s := fun q => by
            obtain ⟨t, ht, e⟩ := pick_mem.mp q
            exact z3 t ht e
          have b : z ≠ out := fun q => by rw [h, q] at z2; simp at z2
          have c := (x4 z z1 zx).mpr ⟨b, a⟩
          intro y
          rcases y with y | y
          · exact c y
          · injection y with y; exact zx y.symm
        · rw [mem_succ, mem_succ, hz, hp]
          have e2 : ¬ some z = some k := fun q => hkz (by injection q with q; exact q.symm)
          by_cases e : k = x
          · subst e
            constructor
            · intro q; exact absurd (.inr rfl) q
            · rintro ⟨q1, q2⟩
              rcases x3 with x3 | x3
              · exact absurd x3 q1
              · exact absurd (.inl x3) q2
          · have := x4 k hk e
            have e' : ¬ some x = some k := fun z => e (by injection z with z; exact z.symm)
            simp only [e', e2, or_false]
            exact this
    · have e : pkAt ok m s = pkAt ok' m s := by
        cases hz : pkAt ok m s with
        | none =>
          symm
          refine firstN_none.mpr fun k hk => ?_
          have a := firstN_none.mp hz k hk
          by_cases e : k = x
          · subst e
            rw [h]
            rcases x3 with x3 | x3
            · simp [x3]
            · simp [x3]
          · have := x4 k hk e
            rw [h]
            by_cases e1 : k = out <;> by_cases e2 : some k ∈ pick ok m s <;> by_cases e3 : some k ∈ pick ok' m s <;> simp_all
        | some z =>
          have zx : z ≠ x := fun q => hp (by rw [hz, q])
          obtain ⟨z1, z2, z3, z4⟩ := pkAt_some.mp hz
          have zn : some z ∉ pick ok m s := fun q => by
            obtain ⟨t, ht, e⟩ := pick_mem.mp q
            exact z3 t ht e
          obtain ⟨a1, a2⟩ := (x4 z z1 zx).mp zn
          symm
          refine pkAt_some.mpr ⟨z1, by rw [h, z2, decide_eq_true a1]; rfl, fun t ht q => a2 (pick_mem.mpr ⟨t, ht, q⟩), fun k' hk' ho => ?_⟩
          rw [h, Bool.and_eq_true, decide_eq_true_eq] at ho
          have hk'x : k' < m := by omega
          have b := pick_mem.mpr (z4 k' hk' ho.2)
          by_cases e : k' = x
          · subst e; exact absurd b x2
          · have := x4 k' hk'x e
            refine pick_mem.mp ?_
            apply Classical.byContradiction
            intro q
            exact this.mpr ⟨ho.1, q⟩ b
      rw [diffs_succ, if_pos e]
      refine holes h r (s + 1) (some x) ⟨x1, fun z => ?_, ?_, fun k hk hkx => ?_⟩
      · rcases mem_succ.mp z with z | z
        · exact x2 z
        · exact hp z
      · rcases x3 with x3 | x3
        · exact .inl x3
        · exact .inr (mem_succ.mpr (.inl x3))
      · rw [mem_succ, mem_succ, ← e]
        have := x4 k hk hkx
        constructor
        · intro z
          have a := this.mp fun y => z (.inl y)
          exact ⟨a.1, fun y => y.elim a.2 fun y => z (.inr y)⟩
        · rintro ⟨z1, z2⟩ y
          rcases y with y | y
          · exact (this.mpr ⟨z1, fun q => z2 (.inl q)⟩) y
          · exact z2 (.inr y)
theorem hole_chain (h : ∀ s k, ok' s k = (decide (k ≠ out) && ok s k)) (ho : out < m) (n : Nat) : Chain (some out) (diffs (pkAt ok m) (pkAt ok' m) 0 n) :=
  holes h n 0 (some out) ⟨ho, by simp [pick], .inl rfl, fun k hk hko => by simp [pick, hko]⟩
theorem diffs_nil {a b : Nat → Option Nat} {n : Nat} : diffs a b 0 n = [] ↔ ∀ s, s < n → a s = b s := by
  unfold diffs
  rw [List.filterMap_eq_nil_iff]
  constructor
  · intro h s hs
    have := h s (by simp; omega)
    by_cases e : a s = b s
    · exact e
    · rw [if_neg e] at this; cases this
  · intro h s hs
    rw [if_pos (h s (by simp at hs; omega))]
/-- nothing moves just if it was not chosen -/
theorem hole_nil (h : ∀ s k, ok' s k = (decide (k ≠ out) && ok s k)) (ho : out < m) (n : Nat) : diffs (pkAt ok m) (pkAt ok' m) 0 n = [] ↔ some out ∉ pick ok m n := by
  constructor
  · intro e z
    obtain ⟨s, hs, q⟩ := pick_mem.mp z
    rw [diffs_nil.mp e s hs] at q
    have := (pkAt_some.mp q).2.1
    rw [h] at this
    simp at this
  · intro hn
    have c := hole_chain h ho n
    cases e : diffs (pkAt ok m) (pkAt ok' m) 0 n with
    | nil => rfl
    | cons q r =>
      exfalso
      rw [e] at c
      have hm : q ∈ diffs (pkAt ok m) (pkAt ok' m) 0 n := by rw [e]; exact List.mem_cons_self
      unfold diffs at hm
      obtain ⟨t, ht, g⟩ := List.mem_filterMap.mp hm
      have ht : t < n := by simp at ht; omega
      split at g
      · cases g
      · injection g with g
        have c1 : q.1 = some out := c.1
        rw [← g] at c1
        exact hn (pick_mem.mpr ⟨t, ht, c1⟩)
end
/-! ### the same without the letter, under its new numbers -/
def upN (out k : Nat) : Nat := if k < out then k else k + 1
theorem upN_lt {out a b : Nat} : upN out a < upN out b ↔ a < b := by unfold upN; split <;> split <;> omega
theorem upN_ne {out k : Nat} : upN out k ≠ out := by unfold upN; split <;> omega
theorem upN_inj {out a b : Nat} (h : upN out a = upN out b) : a = b := by unfold upN at h; split at h <;> split at h <;> omega
theorem upN_sur {out k : Nat} (h : k ≠ out) : ∃ j, upN out j = k ∧ j ≤ k := by
  unfold upN
  by_cases e : k < out
  · exact ⟨k, by rw [if_pos e], Nat.le_refl _⟩
  · exact ⟨k - 1, by rw [if_neg (by omega)]; omega, by omega⟩
theorem pick_up {ok ok' : Nat → Nat → Bool} {m out : Nat} (ho : out < m + 1) (h : ∀ s k, ok' s k = ok s (upN out k)) : ∀ s, pkAt (fun s k => decide (k ≠ out) && ok s k) (m + 1) s = (pkAt ok' m s).map (upN out) := by
  intro s
  induction s using Nat.strongRecOn with
  | _ s ih =>
    have um : ∀ k, k < m → upN out k < m + 1 := fun k hk => by unfold upN; split <;> omega
    cases e : pkAt ok' m s with
    | some k =>
      obtain ⟨h1, h2, h3, h4⟩ := pkAt_some.mp e
      refine pkAt_some.mpr ⟨um k h1, ?_, fun t ht q => ?_, fun k' hk' hok => ?_⟩
      · rw [decide_eq_true upN_ne, Bool.true_and, ← h]; exact h2
      · rw [ih t ht] at q
        cases e2 : pkAt ok' m t with
        | none => rw [e2] at q; cases q
        | some j =>
          rw [e2] at q
          injection q with q
          exact h3 t ht (by rw [e2, upN_inj q])
      · rw [Bool.and_eq_true, decide_eq_true_eq] at hok
        obtain ⟨j, rfl, _⟩ := upN_sur hok.1
        obtain ⟨t, ht, q⟩ := h4 j (upN_lt.mp hk') (by rw [h]; exact hok.2)
        exact ⟨t, ht, by rw [ih t ht, q]; rfl⟩
    | none =>
      refine firstN_none.mpr fun k hk => ?_
      cases hok : (decide (k ≠ out) && ok s k) with
      | false => show (_ && (decide (k ≠ out) && ok s k)) = false; rw [hok, Bool.and_false]
      | true =>
        show (_ && (decide (k ≠ out) && ok s k)) = false
        rw [hok, Bool.and_true, decide_eq_false]
        intro z
        rw [Bool.and_eq_true, decide_eq_true_eq] at hok
        obtain ⟨j, rfl, _⟩ := upN_sur hok.1
        have hj : j < m := by
          unfold upN at hk
          split at hk <;> omega
        have := firstN_none.mp e j hj
        rw [h, hok.2, Bool.and_true] at this
        have : some j ∈ pick ok' m s := by simpa using this
        obtain ⟨t, ht, q⟩ := pick_mem.mp this
        exact z (pick_mem.mpr ⟨t, ht, by rw [ih t ht, q]; rfl⟩)
end Mi

namespace Mi.K32
open PySem PySem.Spec PyProof.Rows L2 Mi
/-! ### lots of seats that letters can take -/
def lotsG (seats : List Let) (letter : Let) (lot : List Nat) : List (List Nat) := (List.range seats.length).filterMap fun k => if (decide (k ∉ lot) && fitsP letter (seats.getD k [])) = true then some (srt (lot ++ [k])) else none
def lotsC (seats : List Let) (letter : Let) (lots : List (List Nat)) : List (List Nat) := lots.flatMap (lotsG seats letter)
def lotsS (seats : List Let) (lots : List (List Nat)) (letter : Let) : List (List Nat) := msort (lotsC seats letter lots)
def lotsOf (seats : List Let) (letters : List Let) : List (List Nat) := letters.foldl (lotsS seats) [[]]
theorem lotsOf_snoc {seats letters : List Let} {x : Let} : lotsOf seats (letters ++ [x]) = lotsS seats (lotsOf seats letters) x := by
  unfold lotsOf
  rw [List.foldl_append]; rfl
/-- a seating, by a list of seats -/
def SitL (seats : List Let) (ss : List Nat) (letters : List Let) : Prop := ss.length = letters.length ∧ ss.Nodup ∧ ∀ p ∈ ss.zip letters, p.1 < seats.length ∧ fitsP p.2 (seats.getD p.1 []) = true
theorem sitL_snoc {seats letters : List Let} {x : Let} {ss : List Nat} {k : Nat} (hl : ss.length = letters.length) : SitL seats (ss ++ [k]) (letters ++ [x]) ↔ SitL seats ss letters ∧ k ∉ ss ∧ k < seats.length ∧ fitsP x (seats.getD k []) = true := by
  unfold SitL
  rw [List.zip_append hl]
  constructor
  · rintro ⟨h1, h2, h3⟩
    rw [List.nodup_append] at h2
    have := h3 (k, x) (List.mem_append_right _ (by simp))
    exact ⟨⟨hl, h2.1, fun p hp => h3 p (List.mem_append_left _ hp)⟩, fun z => h2.2.2 k z k (by simp) rfl, this.1, this.2⟩
  · rintro ⟨⟨h1, h2, h3⟩, h4, h5, h6⟩
    refine ⟨by rw [List.length_append, List.length_append, hl]; rfl, ?_, fun p hp => ?_⟩
    · refine List.nodup_append.mpr ⟨h2, by simp, ?_⟩
      intro a ha b hb z
      simp at hb
      subst hb z
      exact h4 ha
    · rcases List.mem_append.mp hp with hp | hp
      · exact h3 p hp
      · simp at hp
        subst hp
        exact ⟨h5, h6⟩
theorem srt_eq_of_perm {a b : List Nat} (h : a.Perm b) : srt a = srt b :=
  List.Perm.eq_of_pairwise (fun x y _ _ h1 h2 => Nat.le_antisymm h1 h2) (srt_sorted a) (srt_sorted b) ((srt_perm a).trans (h.trans (srt_perm b).symm))
theorem mem_lotsG {seats : List Let} {letter : Let} {lot l : List Nat} : l ∈ lotsG seats letter lot ↔ ∃ k, k < seats.length ∧ k ∉ lot ∧ fitsP letter (seats.getD k []) = true ∧ l = srt (lot ++ [k]) := by
  unfold lotsG
  rw [List.mem_filterMap]
  constructor
  · rintro ⟨k, hk, e⟩
    split at e
    · rename_i h
      rw [Bool.and_eq_true, decide_eq_true_eq] at h
      injection e with e
      exact ⟨k, List.mem_range.mp hk, h.1, h.2, e.symm⟩
    · cases e
  · rintro ⟨k, hk, h1, h2, rfl⟩
    refine ⟨k, List.mem_range.mpr hk, ?_⟩
    rw [if_pos (by rw [h2, decide_eq_true h1]; rfl)]
theorem snoc_cases {α : Type} {l : List α} : l = [] ∨ ∃ r x, l = r ++ [x] := by
  rcases List.eq_nil_or_concat l with h | ⟨r, x, h⟩
  · exact .inl h
  · exact .inr ⟨r, x, by rw [h, List.concat_eq_append]⟩
theorem mem_lots {seats : List Let} : ∀ {N : Nat} {letters : List Let}, letters.length = N → ∀ {l : List Nat}, l ∈ lotsOf seats letters ↔ ∃ ss, SitL seats ss letters ∧ l = srt ss := by
  intro N
  induction N with
  | zero =>
    intro letters h l
    have : letters = [] := List.length_eq_zero_iff.mp h
    subst this
    constructor
    · intro h
      have : l = [] := by simpa [lotsOf] using h
      exact ⟨[], ⟨rfl, List.nodup_nil, fun p hp => by cases hp⟩, this⟩
    · rintro ⟨ss, ⟨h1, _⟩, rfl⟩
      have : ss = [] := List.length_eq_zero_iff.mp h1
      subst this
      simp [lotsOf, srt]
  | succ N ih =>
    intro letters h l
    rcases snoc_cases (l := letters) with e | ⟨r, x, e⟩
    · rw [e] at h; cases h
    subst e
    have hr : r.length = N := by rw [List.length_append] at h; simpa using h
    rw [lotsOf_snoc, lotsS, msort_mem, lotsC, List.mem_flatMap]
    constructor
    · rintro ⟨lot, hlot, hl⟩
      obtain ⟨ss, hs, rfl⟩ := (ih hr).mp hlot
      obtain ⟨k, hk, hn, hf, rfl⟩ := mem_lotsG.mp hl
      refine ⟨ss ++ [k], (sitL_snoc hs.1).mpr ⟨hs, fun z => hn (srt_mem.mpr z), hk, hf⟩, ?_⟩
      exact srt_eq_of_perm ((srt_perm ss).append_right _)
    · rintro ⟨ss, hs, rfl⟩
      rcases snoc_cases (l := ss) with e | ⟨ss', k, e⟩
      · have := hs.1
        rw [e, List.length_append] at this
        simp at this
      subst e
      have hl : ss'.length = r.length := by
        have := hs.1
        rw [List.length_append, List.length_append] at this
        simpa using this
      obtain ⟨h1, h2, h3, h4⟩ := (sitL_snoc hl).mp hs
      exact ⟨srt ss', (ih hr).mpr ⟨ss', h1, rfl⟩, mem_lotsG.mpr ⟨k, h3, fun z => h2 (srt_mem.mp z), h4, srt_eq_of_perm ((srt_perm ss').symm.append_right _)⟩⟩
def seatB (seats letters : List Let) : Bool := !(lotsOf seats letters).isEmpty
theorem seatB_iff {seats letters : List Let} : seatB seats letters = true ↔ ∃ ss, SitL seats ss letters := by
  unfold seatB
  cases e : lotsOf seats letters with
  | nil =>
    simp only [List.isEmpty_nil, Bool.not_true]
    constructor
    · intro h; cases h
    · rintro ⟨ss, h⟩
      have := (mem_lots rfl).mpr ⟨ss, h, rfl⟩
      rw [e] at this
      cases this
  | cons l r =>
    simp only [List.isEmpty_cons, Bool.not_false]
    constructor
    · intro _
      have : l ∈ lotsOf seats letters := by rw [e]; exact List.mem_cons_self
      obtain ⟨ss, h, _⟩ := (mem_lots rfl).mp this
      exact ⟨ss, h⟩
    · intro _; trivial
/-- the letters of some indexes -/
def lets (pool : List Let) (ks : List Nat) : List Let := ks.map fun k => pool.getD k []
def canB (seats pool : List Let) (ks : List Nat) : Bool := seatB seats (lets pool ks)
def FF (seats pool : List Let) (k s : Nat) : Bool := fitsP (pool.getD k []) (seats.getD s [])
theorem tells (seats pool : List Let) : Tells (FF seats pool) seats.length (canB seats pool) := fun ks hn => by
  unfold canB
  rw [seatB_iff]
  constructor
  · rintro ⟨ss, h1, h2, h3⟩
    have hl : ss.length = ks.length := by rw [h1]; unfold lets; rw [List.length_map]
    have hk : keysD (ks.zip ss) = ks := by
      unfold keysD
      rw [List.map_fst_zip (by omega)]
    have hv : (ks.zip ss).map (·.2) = ss := List.map_snd_zip (by omega)
    have get : ∀ k ∈ ks, ∃ s, look (ks.zip ss) k = some s := fun k hk' => look_some.mpr (by rw [hk]; exact hk')
    have at_ : ∀ k s, look (ks.zip ss) k = some s → s < seats.length ∧ FF seats pool k s = true := fun k s e => by
      have hm := look_mem e
      obtain ⟨i, hi, ei⟩ := List.mem_iff_getElem.mp hm
      rw [List.getElem_zip] at ei
      injection ei with e1 e2
      rw [List.length_zip] at hi
      have hm2 : (s, pool.getD k []) ∈ ss.zip (lets pool ks) := by
        refine List.mem_iff_getElem.mpr ⟨i, by rw [List.length_zip]; unfold lets; rw [List.length_map]; omega, ?_⟩
        rw [List.getElem_zip]
        unfold lets
        rw [List.getElem_map, e1, e2]
      exact h3 _ hm2
    refine ⟨fun k => (look (ks.zip ss) k).getD 0, fun k hk' => ?_, fun k k' hk1 hk2 e => ?_⟩
    · obtain ⟨s, e⟩ := get k hk'
      simp only [e]
      exact at_ k s e
    · obtain ⟨s, e1⟩ := get k hk1
      obtain ⟨s', e2⟩ := get k' hk2
      simp only [e1, e2] at e
      have e : s = s' := e
      subst e
      obtain ⟨i, hi, ei⟩ := List.mem_iff_getElem.mp (look_mem e1)
      obtain ⟨j, hj, ej⟩ := List.mem_iff_getElem.mp (look_mem e2)
      rw [List.getElem_zip] at ei ej
      injection ei with a1 a2
      injection ej with b1 b2
      rw [List.length_zip] at hi hj
      have : i = j := (List.getElem_inj (xs := ss) (h₀ := by omega) (h₁ := by omega) h2).mp (by rw [a2, b2])
      subst this
      rw [← a1, ← b1]
  · rintro ⟨f, h1, h2⟩
    refine ⟨ks.map f, by unfold lets; rw [List.length_map, List.length_map], nodup_map_inj hn fun a ha b hb e => h2 a b ha hb e, fun p hp => ?_⟩
    unfold lets at hp
    rw [List.zip_map'] at hp
    obtain ⟨k, hk, rfl⟩ := List.mem_map.mp hp
    exact h1 k hk
/-! ### how many lots there are -/
def asc : Nat → Nat → List (List Nat)
  | 0, 0 => [[]]
  | 0, _ + 1 => []
  | _ + 1, 0 => [[]]
  | n + 1, t + 1 => asc n (t + 1) ++ (asc n t).map (· ++ [n])
theorem mem_asc : ∀ {n t : Nat} {l : List Nat}, l.Pairwise (· < ·) → (∀ x ∈ l, x < n) → l.length = t → l ∈ asc n t
  | 0, 0, l, _, _, h => by rw [List.length_eq_zero_iff.mp h]; exact List.mem_singleton.mpr rfl
  | 0, t + 1, l, _, hb, h => by
    cases l with
    | nil => cases h
    | cons x l => exact absurd (hb x List.mem_cons_self) (Nat.not_lt_zero _)
  | n + 1, 0, l, _, _, h => by rw [List.length_eq_zero_iff.mp h]; exact List.mem_singleton.mpr rfl
  | n + 1, t + 1, l, hp, hb, h => by
    rw [asc, List.mem_append]
    rcases snoc_cases (l := l) with e | ⟨r, x, e⟩
    · rw [e] at h; cases h
    subst e
    rw [List.pairwise_append] at hp
    by_cases hx : x = n
    · subst hx
      refine .inr (List.mem_map.mpr ⟨r, mem_asc hp.1 (fun y hy => hp.2.2 y hy x (by simp)) (by rw [List.length_append] at h; simpa using h), rfl⟩)
    · refine .inl (mem_asc (by rw [List.pairwise_append]; exact hp) (fun y hy => ?_) h)
      have hxn : x < n + 1 := hb x (by simp)
      rcases List.mem_append.mp hy with hy | hy
      · have := hp.2.2 y hy x (by simp)
        omega
      · simp at hy; omega
theorem asc_small : ∀ n, n ≤ 6 → ∀ t, t ≤ 6 → (asc n t).length * (n - t) ≤ 60 := by decide +kernel
theorem srt_lt {l : List Nat} (h : l.Nodup) : (srt l).Pairwise (· < ·) := by
  have h1 := srt_sorted l
  have h2 : (srt l).Nodup := (srt_perm l).nodup_iff.mpr h
  exact (List.Pairwise.and h1 h2).imp fun ⟨a, b⟩ => Nat.lt_of_le_of_ne a b
theorem lot_ok {seats letters : List Let} {l : List Nat} (h : l ∈ lotsOf seats letters) : l.Pairwise (· < ·) ∧ (∀ x ∈ l, x < seats.length) ∧ l.length = letters.length := by
  obtain ⟨ss, ⟨h1, h2, h3⟩, rfl⟩ := (mem_lots rfl).mp h
  refine ⟨srt_lt h2, fun x hx => ?_, by rw [srt_len, h1]⟩
  obtain ⟨i, hi, e⟩ := List.mem_iff_getElem.mp (srt_mem.mp hx)
  have := h3 (ss[i], letters[i]'(by omega)) (List.mem_iff_getElem.mpr ⟨i, by rw [List.length_zip]; omega, by rw [List.getElem_zip]⟩)
  rw [← e]; exact this.1
theorem lotsOf_nodup {seats letters : List Let} : (lotsOf seats letters).Nodup := by
  rcases snoc_cases (l := letters) with e | ⟨r, x, e⟩
  · subst e; exact (by simp [lotsOf])
  · subst e
    rw [lotsOf_snoc]; exact msort_nodup _
theorem filterMap_ite {α β : Type} (p : α → Bool) (f : α → β) : ∀ l : List α, (l.filterMap fun k => if p k = true then some (f k) else none) = (l.filter p).map f
  | [] => rfl
  | x :: l => by
    rw [List.filterMap_cons, List.filter_cons]
    by_cases h : p x = true
    · rw [if_pos h, if_pos h, List.map_cons, filterMap_ite p f l]
    · rw [if_neg h, if_neg h]; exact filterMap_ite p f l
theorem lotsG_len {seats : List Let} {letter : Let} {lot : List Nat} (hn : lot.Nodup) (hb : ∀ x ∈ lot, x < seats.length) : (lotsG seats letter lot).length ≤ seats.length - lot.length := by
  unfold lotsG
  have e : ((List.range seats.length).filterMap fun k => if (decide (k ∉ lot) && fitsP letter (seats.getD k [])) = true then some (srt (lot ++ [k])) else none) = ((List.range seats.length).filter fun k => decide (k ∉ lot) && fitsP letter (seats.getD k [])).map fun k => srt (lot ++ [k]) := by
    exact filterMap_ite _ _ _
  rw [e, List.length_map]
  have : (lot ++ (List.range seats.length).filter fun k => decide (k ∉ lot) && fitsP letter (seats.getD k [])).length ≤ seats.length := by
    refine nodup_len_le (List.nodup_append.mpr ⟨hn, List.Pairwise.filter _ List.nodup_range, fun a ha b hb z => ?_⟩) fun x hx => ?_
    · subst z
      have := (List.mem_filter.mp hb).2
      rw [Bool.and_eq_true, decide_eq_true_eq] at this
      exact this.1 ha
    · rcases List.mem_append.mp hx with hx | hx
      · exact hb x hx
      · exact List.mem_range.mp (List.mem_filter.mp hx).1
  rw [List.length_append] at this
  omega
theorem flatMap_len {α β : Type} {f : α → List β} {b : Nat} : ∀ {l : List α}, (∀ x ∈ l, (f x).length ≤ b) → (l.flatMap f).length ≤ l.length * b
  | [], _ => by simp
  | x :: l, h => by
    rw [List.flatMap_cons, List.length_append, List.length_cons, Nat.succ_mul]
    have := h x List.mem_cons_self
    have := flatMap_len (l := l) fun y hy => h y (List.mem_cons_of_mem _ hy)
    omega
theorem lots_few {seats letters : List Let} {letter : Let} (h : seats.length ≤ 6) : (lotsC seats letter (lotsOf seats letters)).length ≤ 60 := by
  unfold lotsC
  have ok : ∀ l ∈ lotsOf seats letters, (lotsG seats letter l).length ≤ seats.length - letters.length := fun l hl => by
    obtain ⟨h1, h2, h3⟩ := lot_ok hl
    have := lotsG_len (letter := letter) (h1.imp fun h => Nat.ne_of_lt h) h2
    rwa [h3] at this
  have := flatMap_len ok
  refine Nat.le_trans this ?_
  by_cases ht : letters.length ≤ 6
  · have a := asc_small seats.length h letters.length ht
    have b := List.Nodup.length_le_of_subset (lotsOf_nodup (seats := seats) (letters := letters)) (l₂ := asc seats.length letters.length) fun l hl => by
      obtain ⟨h1, h2, h3⟩ := lot_ok hl
      exact mem_asc h1 h2 h3
    exact Nat.le_trans (Nat.mul_le_mul_right _ b) a
  · have : seats.length - letters.length = 0 := by omega
    rw [this]; simp
theorem lots_box {seats letters : List Let} {letter : Let} (h : seats.length ≤ 6) : boxN (letters.length + 1) (lotsC seats letter (lotsOf seats letters)) := by
  refine ⟨by omega, fun k hk => ?_⟩
  unfold lotsC at hk
  obtain ⟨l, hl, hk⟩ := List.mem_flatMap.mp hk
  obtain ⟨h1, h2, h3⟩ := lot_ok hl
  obtain ⟨j, hj, _, _, rfl⟩ := mem_lotsG.mp hk
  refine ⟨by rw [srt_len, List.length_append, h3]; rfl, fun i hi => ?_⟩
  rcases List.mem_append.mp (srt_mem.mp hi) with hi | hi
  · have := h2 i hi; omega
  · simp at hi; omega
theorem lotsC_len {seats letters : List Let} {letter : Let} {k : List Nat} (hk : k ∈ lotsC seats letter (lotsOf seats letters)) : k.length = letters.length + 1 := by
  unfold lotsC at hk
  obtain ⟨l, hl, hk⟩ := List.mem_flatMap.mp hk
  obtain ⟨h1, h2, h3⟩ := lot_ok hl
  obtain ⟨j, hj, _, _, rfl⟩ := mem_lotsG.mp hk
  rw [srt_len, List.length_append, h3]; rfl
end Mi.K32

namespace Mi
open PySem PySem.Spec PyProof.Rows L2
/-! ### statements, both ways -/
section
variable {C : Fn} {N : Nat} {ρ : Env} {st : Store} {Q : Res → Prop}
theorem wi_sn : WS C N .sn ρ st Q ↔ Q (.nx ρ st) := ⟨fun ⟨r, e, q⟩ => by rw [evS] at e; cases e; exact q, ws_sn⟩
theorem wi_sq {s r : IR} : WS C N (.sq s r) ρ st Q ↔ WS C N s ρ st (Then C N r Q) := by
  refine ⟨fun ⟨x, e, q⟩ => ?_, ws_sq⟩
  rw [evS] at e
  cases h : evS C N s ρ st with
  | none => rw [h] at e; cases e
  | some y =>
    rw [h] at e
    refine ⟨y, h, ?_⟩
    cases y with
    | nx ρ1 st1 => exact ⟨x, e, q⟩
    | rt _ _ => cases e; exact q
    | bk _ _ => cases e; exact q
    | cn _ _ => cases e; exact q
theorem wi_as {t e : IR} : WS C N (.as t e) ρ st Q ↔ WE C e ρ st fun x st1 => WG C t x ρ st1 fun ρ1 st2 => Q (.nx ρ1 st2) := by
  refine ⟨fun ⟨x, h, q⟩ => ?_, ws_as⟩
  rw [evS] at h
  cases h1 : evE C e ρ st with
  | none => rw [h1] at h; cases h
  | some y =>
    obtain ⟨y, st1⟩ := y
    rw [h1] at h
    simp only at h
    cases h2 : evG C t y ρ st1 with
    | none => rw [h2] at h; cases h
    | some z =>
      obtain ⟨ρ1, st2⟩ := z
      rw [h2] at h
      cases h
      exact ⟨y, st1, h1, ρ1, st2, h2, q⟩
theorem wi_asl {i : Nat} {e t f it : IR} {own : List (Str × Nat)} : WS C N (.asl i e t f it own) ρ st Q ↔ WE C (.lc e t it f own) ρ st fun x st1 => Q (.nx (ρ.set i (some x)) st1) := by
  refine ⟨fun ⟨x, h, q⟩ => ?_, ws_asl⟩
  rw [evS] at h
  cases h1 : evE C (.lc e t it f own) ρ st with
  | none => rw [h1] at h; cases h
  | some y =>
    obtain ⟨y, st1⟩ := y
    rw [h1] at h
    cases h
    exact ⟨y, st1, h1, q⟩
theorem wi_pr2 {i j : Nat} {a b : IR} : WS C N (.pr2 i j a b) ρ st Q ↔ WE C a ρ st fun x st1 => WE C b ρ st1 fun y st2 => Q (.nx ((ρ.set i (some x)).set j (some y)) st2) := by
  refine ⟨fun ⟨x, h, q⟩ => ?_, ws_pr2⟩
  rw [evS] at h
  cases h1 : evE C a ρ st with
  | none => rw [h1] at h; cases h
  | some y =>
    obtain ⟨y, st1⟩ := y
    rw [h1] at h
    simp only at h
    cases h2 : evE C b ρ st1 with
    | none => rw [h2] at h; cases h
    | some z =>
      obtain ⟨z, st2⟩ := z
      rw [h2] at h
      cases h
      exact ⟨y, st1, h1, z, st2, h2, q⟩
theorem wi_pr3 {i j l : Nat} {a b c : IR} : WS C N (.pr3 i j l a b c) ρ st Q ↔ WE C a ρ st fun x st1 => WE C b ρ st1 fun y st2 => WE C c ρ st2 fun z st3 => Q (.nx (((ρ.set i (some x)).set j (some y)).set l (some z)) st3) := by
  refine ⟨fun ⟨x, h, q⟩ => ?_, ws_pr3⟩
  rw [evS] at h
  cases h1 : evE C a ρ st with
  | none => rw [h1] at h; cases h
  | some y =>
    obtain ⟨y, st1⟩ := y
    rw [h1] at h
    simp only at h
    cases h2 : evE C b ρ st1 with
    | none => rw [h2] at h; cases h
    | some z =>
      obtain ⟨z, st2⟩ := z
      rw [h2] at h
      simp only at h
      cases h3 : evE C c ρ st2 with
      | none => rw [h3] at h; cases h
      | some w =>
        obtain ⟨w, st3⟩ := w
        rw [h3] at h
        cases h
        exact ⟨y, st1, h1, z, st2, h2, w, st3, h3, q⟩
theorem wi_ex {e : IR} : WS C N (.ex e) ρ st Q ↔ WE C e ρ st fun _ st1 => Q (.nx ρ st1) := by
  refine ⟨fun ⟨x, h, q⟩ => ?_, ws_ex⟩
  rw [evS] at h
  cases h1 : evE C e ρ st with
  | none => rw [h1] at h; cases h
  | some y =>
    obtain ⟨y, st1⟩ := y
    rw [h1] at h
    cases h
    exact ⟨y, st1, h1, q⟩
theorem wi_cnd {c a b : IR} : WS C N (.cnd c a b) ρ st Q ↔ WE C c ρ st fun x st1 => Tr st1 x fun d => if d = true then WS C N a ρ st1 Q else WS C N b ρ st1 Q := by
  refine ⟨fun ⟨x, h, q⟩ => ?_, ws_cnd⟩
  rw [evS] at h
  cases h1 : evE C c ρ st with
  | none => rw [h1] at h; cases h
  | some y =>
    obtain ⟨y, st1⟩ := y
    rw [h1] at h
    simp only at h
    refine ⟨y, st1, h1, ?_⟩
    cases h2 : truP st1 y with
    | none => rw [h2] at h; cases h
    | some d =>
      rw [h2] at h
      refine ⟨d, h2, ?_⟩
      cases d
      · rw [if_neg (by decide)]; exact ⟨x, h, q⟩
      · rw [if_pos rfl]; exact ⟨x, h, q⟩
theorem wi_re {e : IR} : WS C N (.re e) ρ st Q ↔ WE C e ρ st fun x st1 => Q (.rt x st1) := by
  refine ⟨fun ⟨x, h, q⟩ => ?_, ws_re⟩
  rw [evS] at h
  cases h1 : evE C e ρ st with
  | none => rw [h1] at h; cases h
  | some y =>
    obtain ⟨y, st1⟩ := y
    rw [h1] at h
    cases h
    exact ⟨y, st1, h1, q⟩
theorem wi_rn : WS C N .rn ρ st Q ↔ Q (.rt .non st) := ⟨fun ⟨r, e, q⟩ => by rw [evS] at e; cases e; exact q, ws_rn⟩
theorem wi_br : WS C N .br ρ st Q ↔ Q (.bk ρ st) := ⟨fun ⟨r, e, q⟩ => by rw [evS] at e; cases e; exact q, ws_br⟩
theorem wi_ct : WS C N .ct ρ st Q ↔ Q (.cn ρ st) := ⟨fun ⟨r, e, q⟩ => by rw [evS] at e; cases e; exact q, ws_ct⟩
theorem wi_pa : WS C N .pa ρ st Q ↔ Q (.nx ρ st) := ⟨fun ⟨r, e, q⟩ => by rw [evS] at e; cases e; exact q, ws_pa⟩
theorem th_nx {r : IR} {ρ1 : Env} {st1 : Store} : Then C N r Q (.nx ρ1 st1) ↔ WS C N r ρ1 st1 Q := Iff.rfl
theorem th_rt {r : IR} {x : PV} {st1 : Store} : Then C N r Q (.rt x st1) ↔ Q (.rt x st1) := Iff.rfl
theorem th_bk {r : IR} {ρ1 : Env} {st1 : Store} : Then C N r Q (.bk ρ1 st1) ↔ Q (.bk ρ1 st1) := Iff.rfl
theorem th_cn {r : IR} {ρ1 : Env} {st1 : Store} : Then C N r Q (.cn ρ1 st1) ↔ Q (.cn ρ1 st1) := Iff.rfl
theorem ret_rt {Q : PV → Store → Prop} {x : PV} {st1 : Store} : Ret Q (.rt x st1) ↔ Q x st1 := Iff.rfl
theorem ret_nx {Q : PV → Store → Prop} {ρ1 : Env} {st1 : Store} : Ret Q (.nx ρ1 st1) ↔ Q .non st1 := Iff.rfl
end
/-! ### turns over coded items -/
section
variable {chk : Store → Bool} {g : PV → Env → Store → Option (Env × Store)} {t : Env → Store → Option (Bool × Store)} {e : Env → Store → Out} {ρ : Env} {st : Store}
theorem loopC_enc {α : Type} {enc : α → PV} {xs : List α} (J : Store → Prop) (r : α → Option PV) (h0 : J st)
    (hc : ∀ s, J s → chk s = true) (hl : xs.length < LIM)
    (h : ∀ x ∈ xs, ∀ s, J s → Wo (g (enc x) ρ s) fun ρ1 s1 => Wo (t ρ1 s1) fun b s2 => match r x with
      | some y => b = true ∧ Wo (e ρ1 s2) fun z s3 => z = y ∧ J s3
      | none => b = false ∧ J s2) : Wo (loopC chk g t e ρ (xs.map enc) [] st) fun ys s => ys = xs.filterMap r ∧ J s := by
  refine loopC_inv (xs.map enc) [] st (fun rest acc s => (∃ pre post, xs = pre ++ post ∧ rest = post.map enc ∧ acc = pre.filterMap r) ∧ J s) ⟨⟨[], xs, rfl, rfl, rfl⟩, h0⟩ ?_ ?_
  · rintro x rest acc s ⟨⟨pre, post, e1, e2, e3⟩, hx⟩
    cases post with
    | nil => cases e2
    | cons y post =>
      injection e2 with e2 e4
      subst e2 e4
      have hm : y ∈ xs := by rw [e1]; simp
      refine ⟨hc s hx, ?_, wo_mono (h y hm s hx) fun ρ1 s1 q => wo_mono q fun b s2 q => ?_⟩
      · rw [e3]
        have := List.length_filterMap_le r pre
        have : xs.length = pre.length + (post.length + 1) := by rw [e1, List.length_append, List.length_cons]
        omega
      · cases hr : r y with
        | none =>
          rw [hr] at q
          obtain ⟨rfl, q⟩ := q
          rw [if_neg (by decide)]
          exact ⟨⟨pre ++ [y], post, by rw [e1, List.append_assoc]; rfl, rfl, by rw [List.filterMap_append, e3]; simp [hr]⟩, q⟩
        | some w =>
          rw [hr] at q
          obtain ⟨rfl, q⟩ := q
          rw [if_pos rfl]
          refine wo_mono q fun z s3 q3 => ?_
          obtain ⟨ez, q3⟩ := q3
          exact ⟨⟨pre ++ [y], post, by rw [e1, List.append_assoc]; rfl, rfl, by rw [List.filterMap_append, e3, ez]; simp [hr]⟩, q3⟩
  · rintro acc s ⟨⟨pre, post, e1, e2, e3⟩, hx⟩
    cases post with
    | cons y post => cases e2
    | nil =>
      rw [List.append_nil] at e1
      subst e1
      exact ⟨hc s hx, e3, hx⟩
theorem filterMap_if {α β : Type} (p : α → Bool) (f : α → β) : ∀ l : List α, (l.filterMap fun k => if p k = true then some (f k) else none) = (l.filter p).map f
  | [] => rfl
  | x :: l => by
    rw [List.filterMap_cons, List.filter_cons]
    by_cases h : p x = true
    · rw [if_pos h, if_pos h, List.map_cons, filterMap_if p f l]
    · rw [if_neg h, if_neg h]; exact filterMap_if p f l
/-- [f x for x in xs if p x] -/
theorem loopC_fil {α : Type} {enc : α → PV} {xs : List α} (J : Store → Prop) (p : α → Bool) (f : α → PV) (h0 : J st)
    (hc : ∀ s, J s → chk s = true) (hl : xs.length < LIM)
    (h : ∀ x ∈ xs, ∀ s, J s → Wo (g (enc x) ρ s) fun ρ1 s1 => Wo (t ρ1 s1) fun b s2 => b = p x ∧ J s2 ∧ (p x = true → Wo (e ρ1 s2) fun z s3 => z = f x ∧ J s3)) : Wo (loopC chk g t e ρ (xs.map enc) [] st) fun ys s => ys = (xs.filter p).map f ∧ J s := by
  refine wo_mono (loopC_enc J (fun x => if p x = true then some (f x) else none) h0 hc hl fun x hx s hj => wo_mono (h x hx s hj) fun ρ1 s1 q => wo_mono q fun b s2 ⟨q1, q2, q3⟩ => ?_) fun ys s ⟨q1, q2⟩ => ⟨?_, q2⟩
  · by_cases hp : p x = true
    · rw [if_pos hp]; exact ⟨q1.trans hp, q3 hp⟩
    · rw [if_neg hp]; exact ⟨by rw [q1]; simpa using hp, q2⟩
  · rw [q1, filterMap_if]
/-- [f x for x in xs] -/
theorem loopC_all {α : Type} {enc : α → PV} {xs : List α} (J : Store → Prop) (f : α → PV) (h0 : J st)
    (hc : ∀ s, J s → chk s = true) (hl : xs.length < LIM)
    (h : ∀ x ∈ xs, ∀ s, J s → Wo (g (enc x) ρ s) fun ρ1 s1 => Wo (t ρ1 s1) fun b s2 => b = true ∧ Wo (e ρ1 s2) fun z s3 => z = f x ∧ J s3) : Wo (loopC chk g t e ρ (xs.map enc) [] st) fun ys s => ys = xs.map f ∧ J s := by
  refine wo_mono (loopC_enc J (fun x => some (f x)) h0 hc hl h) fun ys s ⟨q1, q2⟩ => ⟨?_, q2⟩
  rw [q1, ← List.filterMap_eq_map]; rfl
theorem loopB_enc {α : Type} {stop : Bool} {enc : α → PV} (J : Store → Prop) (r : α → Bool) (hc : ∀ s, J s → chk s = true) :
    ∀ {xs : List α} {s0 : Store}, J s0 →
    (∀ x ∈ xs, ∀ s, J s → Wo (g (enc x) ρ s) fun ρ1 s1 => Wo (t ρ1 s1) fun b s2 => b = true ∧ Wo (e ρ1 s2) fun z s3 => z = .bl (r x) ∧ J s3) → Wo (loopB stop chk g t e ρ (xs.map enc) s0) fun b s => b = (if stop = true then xs.any r else xs.all r) ∧ J s
  | [], s0, h0, h => by
    rw [List.map_nil, loopB, if_pos (hc _ h0), wo_some]
    exact ⟨by cases stop <;> rfl, h0⟩
  | x :: rest, s0, h0, h => by
    obtain ⟨ρ1, s1, e1, b, s2, e2, rfl, z, s3, e3, rfl, h3⟩ := h x List.mem_cons_self s0 h0
    rw [List.map_cons, loopB, if_pos (hc _ h0), e1]
    simp only
    rw [e2]
    simp only
    rw [e3]
    simp only
    by_cases hb : r x = stop
    · rw [if_pos hb, wo_some]
      refine ⟨?_, h3⟩
      rw [List.any_cons, List.all_cons, hb]
      cases stop <;> rfl
    · rw [if_neg hb]
      refine wo_mono (loopB_enc J r hc h3 fun y hy => h y (List.mem_cons_of_mem _ hy)) fun b s q => ⟨?_, q.2⟩
      rw [q.1, List.any_cons, List.all_cons]
      cases stop <;> simp only [Bool.not_eq_true, Bool.not_eq_false, ne_eq] at hb <;> simp [hb]
end
/-! ### equality of lists -/
theorem cmpL_eq {st : Store} {a b : Nat} {xs ys : List PV} {Q : Bool → Prop} (ha : st[a]? = some (.lst xs)) (hb : st[b]? = some (.lst ys)) (px : pls 30 xs = true) (py : pls 30 ys = true) (h : ∀ c, (c = true ↔ xs = ys) → Q c) : ∃ c, cmp .Eq st (.loc a) (.loc b) = some c ∧ Q c := by
  refine ⟨PyData.eqvAll (toDs xs) (toDs ys), ?_, h _ (eqvs_pl px py)⟩
  simp only [cmp, eqP]
  rw [ha, hb]
  simp only
  rw [pls_fine px, pls_fine py]
  rfl
theorem cmpL_ne {st : Store} {a b : Nat} {xs ys : List PV} {Q : Bool → Prop} (ha : st[a]? = some (.lst xs)) (hb : st[b]? = some (.lst ys)) (px : pls 30 xs = true) (py : pls 30 ys = true) (h : ∀ c, (c = true ↔ xs ≠ ys) → Q c) : ∃ c, cmp .NotEq st (.loc a) (.loc b) = some c ∧ Q c := by
  obtain ⟨c, e, q⟩ := cmpL_eq (Q := fun c => (c = true ↔ xs = ys)) ha hb px py fun c q => q
  refine ⟨!c, ?_, h _ ?_⟩
  · show (cmp .Eq st (.loc a) (.loc b)).map (!·) = _
    rw [e]; rfl
  · cases c <;> simp_all
theorem Ext.new {a b : Store} (h : Ext a b) (o : MO) : Ext a (b ++ [o]) := h.trans (Ext.app _ _)
theorem Ext.new1 {a : Store} (o : MO) : Ext a (a ++ [o]) := Ext.app _ _
theorem pls_nil {n : Nat} : pls n [] = true := by rw [pls]
theorem pls_map {α : Type} {n : Nat} {enc : α → PV} {l : List α} (h : ∀ x ∈ l, (enc x).pl n = true) : pls n (l.map enc) = true := pls_of fun x hx => by
  obtain ⟨y, hy, rfl⟩ := List.mem_map.mp hx
  exact h y hy
theorem pl_str {n : Nat} {x : Str} (h : PyData.strOk x = true) : (PV.str x).pl n = true := by rw [PV.pl]; exact h
theorem bool_eq {c d : Bool} (h : c = true ↔ d = true) : c = d := by cases c <;> cases d <;> simp_all
end Mi
namespace Mi.K32
open PySem PySem.Spec PyProof.Rows L2 Mi
variable {N : Nat}
local macro_rules | `(tactic| trivial) => `(tactic| simp only [wi_sn, wi_sq, wi_as, wi_asl, wi_pr2, wi_pr3, wi_ex, wi_cnd, wi_re, wi_rn, wi_br, wi_ct, wi_pa, th_nx, th_rt, th_bk, th_cn, ret_rt, ret_nx, we_bl, wb_ac, wb_last, we_cm, we_v, we_tp, we_ls, wa_an, wa_ac, we_nt, we_isi, we_ch, we_k, we_g, we_bi, we_nb, we_ca, we_ix, we_bo, we_ie, we_mth, we_sl, wop_no, wop_it, we_d0, wt_an, wt_ac, wg_tn, wg_tt, wgs_ac, wgs_an, tr_bl, List.getElem?_cons_zero, List.getElem?_cons_succ, List.set_cons_zero, List.set_cons_succ, Option.some.injEq, exists_eq_left', List.length_cons, List.length_nil, List.map_cons, List.map_nil, wipeP, Bool.not_true, Bool.not_false, reduceIte, Bool.false_eq_true, and_true, true_and])
theorem fits_sym {l s : Let} : (decide (s = []) || s.any fun x => decide (x ∈ l)) = fitsP l s := by
  unfold fitsP
  congr 1
  rw [Bool.eq_iff_iff, List.any_eq_true, List.any_eq_true]
  constructor
  · rintro ⟨x, h1, h2⟩; exact ⟨x, of_decide_eq_true h2, decide_eq_true h1⟩
  · rintro ⟨x, h1, h2⟩; exact ⟨x, of_decide_eq_true h2, decide_eq_true h1⟩
theorem okLet_len {l : Let} (h : okLet l = true) : l.length ≤ 3 := by
  unfold okLet at h
  simp only [Bool.and_eq_true, decide_eq_true_eq] at h
  exact h.1.1
theorem lim_small {n : Nat} (h : n ≤ 1000) : n < LIM := Nat.lt_of_le_of_lt h (by decide)
theorem ev_law_fits {k : Nat} {l s : Let} {st : Store} (hs : okLet s = true) : Wo (evF T N (k + 1) "_law_fits" [eL l, eL s] st) fun x st' => x = .bl (fitsP l s) ∧ Ext st st' := by
  refine wf (d := d__law_fits) (hT e__law_fits (List.mem_of_getElem? (i := 43) rfl)) rfl ?_
  show WS _ _ b__law_fits [some (eL l), some (eL s), none] _ _
  unfold b__law_fits
  trivial
  have hs' := okL_of hs
  refine ⟨Nat.zero_le _, cmp_eq (pl_L hs') (pl_L (n := 29) (l := []) (fun _ h => by cases h)) fun c hc => ?_⟩
  have hc : c = true ↔ s = [] := hc.trans ⟨fun e => eL_inj (b := []) e, fun e => by rw [e]; rfl⟩
  cases c with
  | true =>
    rw [if_neg (by decide)]
    exact ⟨by unfold fitsP; rw [hc.mp rfl]; rfl, Ext.refl _⟩
  | false =>
    have n : ¬ s = [] := fun z => by have := hc.mpr z; cases this
    rw [if_pos rfl]
    refine we_lc (wi_it ?_)
    trivial
    refine wo_mono (loopC_fil (xs := s) (enc := PV.str) (Ext st) (fun x => decide (x ∈ l)) PV.str (Ext.refl _) (fun _ _ => rfl) (lim_small (Nat.le_trans (okLet_len hs) (by decide))) fun x hx s1 h1 => ?_) fun ys s2 ⟨e, h2⟩ => ?_
    · trivial
      exact cmp_in in_str ⟨rfl, h1, fun _ => h1⟩
    · subst e
      refine ⟨Nat.zero_le _, cmpL_ne ((Ext.new1 _).get new_get) new_get (pls_map fun x hx => pl_str (hs' x (List.mem_filter.mp hx).1)) pls_nil fun c hc => ⟨?_, (h2.new _).new _⟩⟩
      rw [← fits_sym]
      rw [decide_eq_false n, Bool.false_or]
      congr 1
      refine bool_eq (hc.trans ?_)
      rw [List.any_eq_true]
      constructor
      · intro q
        cases hq : s.filter (fun x => decide (x ∈ l)) with
        | nil => rw [hq] at q; exact absurd rfl q
        | cons x r =>
          have : x ∈ s.filter (fun x => decide (x ∈ l)) := by rw [hq]; exact List.mem_cons_self
          exact ⟨x, (List.mem_filter.mp this).1, (List.mem_filter.mp this).2⟩
      · rintro ⟨x, h1, h2⟩ q
        have : x ∈ s.filter (fun x => decide (x ∈ l)) := List.mem_filter.mpr ⟨h1, h2⟩
        rw [List.map_eq_nil_iff.mp q] at this
        cases this
/-- a count -/
theorem ev_is_count {k : Nat} {i lo hi : Int} {st : Store} : Wo (evF T N (k + 1) "is_count" [.int i, .int lo, .int hi] st) fun x st' => x = .bl (decide (lo ≤ i) && decide (i ≤ hi)) ∧ st' = st := by
  refine wf (d := d_is_count) (hT e_is_count (List.mem_of_getElem? (i := 3) rfl)) rfl ?_
  show WS _ _ b_is_count [some (.int i), some (.int lo), some (.int hi)] _ _
  unfold b_is_count
  trivial
  refine ⟨true, rfl, ?_⟩
  rw [if_pos rfl]
  refine ⟨false, rfl, ?_⟩
  trivial
  refine cmp_le ?_
  by_cases h : lo ≤ i
  · rw [decide_eq_true h, if_pos rfl]
    exact cmp_le (by rw [Bool.true_and])
  · rw [decide_eq_false h, if_neg (by decide)]
    rw [Bool.false_and]
end Mi.K32

namespace Mi.K32
open PySem PySem.Spec PyProof.Rows L2 Mi
variable {N : Nat}
local macro_rules | `(tactic| trivial) => `(tactic| simp only [wi_sn, wi_sq, wi_as, wi_asl, wi_pr2, wi_pr3, wi_ex, wi_cnd, wi_re, wi_rn, wi_br, wi_ct, wi_pa, th_nx, th_rt, th_bk, th_cn, ret_rt, ret_nx, we_bl, wb_ac, wb_last, we_cm, we_v, we_tp, we_ls, wa_an, wa_ac, we_nt, we_isi, we_ch, we_k, we_g, we_bi, we_nb, we_ca, we_ix, we_bo, we_ie, we_mth, we_sl, wop_no, wop_it, we_d0, wt_an, wt_ac, wg_tn, wg_tt, wg_ts, wgs_ac, wgs_an, tr_bl, List.getElem?_cons_zero, List.getElem?_cons_succ, List.set_cons_zero, List.set_cons_succ, Option.some.injEq, exists_eq_left', List.length_cons, List.length_nil, List.map_cons, List.map_nil, wipeP, Bool.not_true, Bool.not_false, reduceIte, Bool.false_eq_true, and_true, true_and])
section
variable {C : Fn} {ρ : Env} {st : Store} {Q : Res → Prop}
/-- for x in coded items, by what has been walked -/
theorem ws_fo_enc {α : Type} {enc : α → PV} {t i b : IR} (xs : List α) (J : List α → Env → Store → Prop)
    (h : WI C i ρ st fun items src st1 => items = xs.map enc ∧ J [] ρ st1 ∧ (∀ done ρ s, J done ρ s → stands src items s = true) ∧
      (∀ done x rest ρ s, xs = done ++ x :: rest → J done ρ s → WG C t (enc x) ρ s fun ρ1 s1 => WS C N b ρ1 s1 fun q => match q with
        | .nx ρ2 s2 => J (done ++ [x]) ρ2 s2
        | .cn ρ2 s2 => J (done ++ [x]) ρ2 s2
        | .bk ρ2 s2 => Q (.nx ρ2 s2)
        | .rt y s2 => Q (.rt y s2)) ∧
      ∀ ρ s, J xs ρ s → Q (.nx ρ s)) : WS C N (.fo t i b) ρ st Q := by
  obtain ⟨items, src, st1, e1, e2, h0, hc, hs, hd⟩ := h
  subst e2
  refine ws_fo (fun rest ρ s => ∃ done post, xs = done ++ post ∧ rest = post.map enc ∧ J done ρ s) ⟨_, src, st1, e1, ⟨[], xs, rfl, rfl, h0⟩, ?_, ?_⟩
  · rintro x r ρ s ⟨done, post, e, e', hj⟩
    cases post with
    | nil => cases e'
    | cons y post =>
      injection e' with e' e''
      subst e' e''
      refine ⟨hc _ _ _ hj, wo_mono (hs done y post ρ s e hj) fun ρ1 s1 q => ws_mono q fun q hq => ?_⟩
      cases q with
      | nx ρ2 s2 => exact ⟨done ++ [y], post, by rw [e, List.append_assoc]; rfl, rfl, hq⟩
      | cn ρ2 s2 => exact ⟨done ++ [y], post, by rw [e, List.append_assoc]; rfl, rfl, hq⟩
      | bk ρ2 s2 => exact hq
      | rt y s2 => exact hq
  · rintro ρ s ⟨done, post, e, e', hj⟩
    cases post with
    | cons y post => cases e'
    | nil =>
      rw [List.append_nil] at e
      subst e
      exact ⟨hc _ _ _ hj, hd ρ s hj⟩
/-- for i in range(n), or items told by their places -/
theorem ws_fo_n {enc : Nat → PV} {t i b : IR} (n : Nat) (J : Nat → Env → Store → Prop)
    (h : WI C i ρ st fun items src st1 => items = (List.range n).map enc ∧ J 0 ρ st1 ∧ (∀ j ρ s, J j ρ s → stands src items s = true) ∧
      (∀ j ρ s, j < n → J j ρ s → WG C t (enc j) ρ s fun ρ1 s1 => WS C N b ρ1 s1 fun q => match q with
        | .nx ρ2 s2 => J (j + 1) ρ2 s2
        | .cn ρ2 s2 => J (j + 1) ρ2 s2
        | .bk ρ2 s2 => Q (.nx ρ2 s2)
        | .rt y s2 => Q (.rt y s2)) ∧
      ∀ ρ s, J n ρ s → Q (.nx ρ s)) : WS C N (.fo t i b) ρ st Q := by
  obtain ⟨items, src, st1, e1, e2, h0, hc, hs, hd⟩ := h
  refine ws_fo_enc (enc := enc) (List.range n) (fun done ρ s => J done.length ρ s) ⟨items, src, st1, e1, e2, h0, fun done ρ s hj => hc _ _ _ hj, ?_, ?_⟩
  · intro done x rest ρ s e hj
    have hl : done.length < n := by
      have := congrArg List.length e
      rw [List.length_range, List.length_append, List.length_cons] at this
      omega
    have hx : x = done.length := by
      have : (List.range n)[done.length]? = some x := by rw [e, List.getElem?_append_right (Nat.le_refl _), Nat.sub_self]; rfl
      rw [List.getElem?_range hl] at this
      injection this with this
      exact this.symm
    subst hx
    refine wo_mono (hs _ ρ s hl hj) fun ρ1 s1 q => ws_mono q fun q hq => ?_
    have e : (done ++ [done.length]).length = done.length + 1 := by simp
    cases q with
    | nx ρ2 s2 => simp only [e]; exact hq
    | cn ρ2 s2 => simp only [e]; exact hq
    | bk ρ2 s2 => exact hq
    | rt y s2 => exact hq
  · intro ρ s hj
    rw [List.length_range] at hj
    exact hd ρ s hj
end
/-- enumerate(..) -/
def enE (p : List Let) (i : Nat) : PV := .tup [.int (i : Nat), eL (p.getD i [])]
theorem en_map (p : List Let) : ((p.map eL).zipIdx.map fun q => PV.tup [.int q.2, q.1]) = (List.range p.length).map (enE p) := by
  refine List.ext_getElem? fun i => ?_
  rw [List.getElem?_map, List.getElem?_zipIdx, List.getElem?_map, List.getElem?_map]
  by_cases h : i < p.length
  · rw [List.getElem?_range h, List.getElem?_eq_getElem h]
    simp [enE, List.getD_eq_getElem?_getD, List.getElem?_eq_getElem h]
  · rw [List.getElem?_eq_none (by omega), List.getElem?_eq_none (by simp; omega)]; rfl
theorem map_range {α : Type} (p : List Let) (f : Let → α) : p.map f = (List.range p.length).map fun i => f (p.getD i []) := by
  refine List.ext_getElem? fun i => ?_
  rw [List.getElem?_map, List.getElem?_map]
  by_cases h : i < p.length
  · rw [List.getElem?_range h, List.getElem?_eq_getElem h]
    simp [List.getD_eq_getElem?_getD, List.getElem?_eq_getElem h]
  · rw [List.getElem?_eq_none (by omega), List.getElem?_eq_none (by simp; omega)]; rfl
theorem getD_ok {p : List Let} (h : ∀ l ∈ p, okLet l = true) (i : Nat) : okLet (p.getD i []) = true := by
  rw [List.getD_eq_getElem?_getD]
  cases e : p[i]? with
  | none => rfl
  | some l => exact h l (List.mem_of_getElem? e)
theorem bi_set_loc {st : Store} {Q : PV → Store → Prop} {p : Nat} {l : List (List Nat)} (e : st[p]? = some (.lst (eM l))) (hl : l.length < 64) (h : Q (.loc st.length) (st ++ [.set (eM l)])) : Wo (biP .set [.loc p] st) Q := by
  refine ⟨_, _, ?_, h⟩
  simp only [biP]
  rw [e]
  simp only
  rw [toTups_nat]
  simp only
  rw [if_pos (by rw [List.length_map]; exact hl)]
theorem pl_M {n : Nat} {l : List (List Nat)} : pls (n + 1) (eM l) = true := pls_map fun x _ => pl_N
theorem eM_app (a b : List (List Nat)) : eM a ++ eM b = eM (a ++ b) := by unfold eM; rw [List.map_append]
theorem eM_len (l : List (List Nat)) : (eM l).length = l.length := by unfold eM; rw [List.length_map]
theorem bo_lst {st : Store} {Q : PV → Store → Prop} {a b : Nat} {xs ys : List PV} (ha : st[a]? = some (.lst xs)) (hb : st[b]? = some (.lst ys)) (hl : xs.length + ys.length ≤ LIM) (h : Q (.loc st.length) (st ++ [.lst (xs ++ ys)])) : Wo (bop .Add (.loc a) (.loc b) st) Q := by
  refine ⟨_, _, ?_, h⟩
  simp only [bop, addP]
  rw [ha, hb]
  simp only
  rw [if_pos hl]
theorem ev_law_seated {k : Nat} {seats letters : List Let} {q : Nat} {st : Store} (hs : ∀ l ∈ seats, okLet l = true) (hn : seats.length ≤ 6) (hq : st[q]? = some (.lst (letters.map eL))) : Wo (evF T N (k + 2) "_law_seated" [eP seats, .loc q] st) fun x st' => x = .bl (seatB seats letters) ∧ Ext st st' := by
  refine wf (d := d__law_seated) (hT e__law_seated (List.mem_of_getElem? (i := 45) rfl)) rfl ?_
  show WS _ _ b__law_seated [some (eP seats), some (.loc q), none, none, none, none, none, none] _ _
  unfold b__law_seated
  trivial
  refine ⟨Nat.zero_le _, show 1 ≤ LIM by decide, ?_⟩
  refine ws_fo_enc (enc := eL) letters (fun done ρ s => ∃ p a b c d e, ρ = [some (eP seats), some (.loc q), some (.loc p), a, b, c, d, e] ∧ s[p]? = some (.lst (eM (lotsOf seats done))) ∧ Ext st s) (wi_it ?_)
  trivial
  refine ⟨_, hq |> fun h => (Ext.app st _).get h, rfl, ⟨_, _, _, _, _, _, rfl, new_get, Ext.app _ _⟩, ?_, ?_, ?_⟩
  · rintro done ρ s ⟨p, a, b, c, d, e, rfl, hp, hx⟩
    exact decide_eq_true (hx.get hq)
  · rintro done x rest ρ s es ⟨p, a, b, c, d, e, rfl, hp, hx⟩
    trivial
    refine ⟨Nat.zero_le _, ?_⟩
    refine ws_fo_enc (enc := fun l => .tup (eN l)) (lotsOf seats done) (fun sofar ρ s1 => ∃ p' c d e, ρ = [some (eP seats), some (.loc q), some (.loc p), some (eL x), some (.loc p'), c, d, e] ∧ s1[p']? = some (.lst (eM (sofar.flatMap (lotsG seats x)))) ∧ Ext s s1) (wi_it ?_)
    trivial
    refine ⟨_, (Ext.app s _).get hp, rfl, ⟨_, _, _, _, rfl, new_get, Ext.app _ _⟩, ?_, ?_, ?_⟩
    · rintro sofar ρ s1 ⟨p', c, d, e, rfl, hp', hx1⟩
      exact decide_eq_true (hx1.get hp)
    · rintro sofar l rest' ρ s1 el ⟨p', c, d, e, rfl, hp', hx1⟩
      trivial
      refine we_lc (wi_en ?_)
      trivial
      refine ⟨_, rfl, ?_⟩
      rw [en_map]
      have hlim : (lotsC seats x (lotsOf seats done)).length ≤ 60 := lots_few hn
      obtain ⟨l1, l2, l3⟩ := lot_ok (show l ∈ lotsOf seats done by rw [el]; simp)
      have hl6 : l.length ≤ seats.length := by
        have := nodup_len_le (l1.imp fun h => Nat.ne_of_lt h) l2
        exact this
      refine wo_mono (loopC_fil (xs := List.range seats.length) (enc := enE seats) (Ext s1) (fun i => decide (i ∉ l) && fitsP x (seats.getD i [])) (fun i => .tup (eN (srt (l ++ [i])))) (Ext.refl _) (fun _ _ => rfl) (lim_small (by rw [List.length_range]; omega)) fun i hi s2 h2 => ?_) fun ys s2 ⟨e2, h2⟩ => ?_
      · unfold enE
        trivial
        refine cmp_nin in_nat ?_
        by_cases hil : i ∈ l
        · rw [decide_eq_true hil, decide_eq_false (show ¬ i ∉ l from fun z => z hil)]
          trivial
          exact ⟨rfl, h2, fun z => by cases z⟩
        · rw [decide_eq_false hil]
          trivial
          refine wo_mono (ev_law_fits (getD_ok hs i)) fun r s3 ⟨e3, h3⟩ => ?_
          subst e3
          trivial
          refine ⟨by rw [decide_eq_true hil]; rfl, h2.trans h3, fun _ => ⟨show 1 ≤ LIM by decide, bo_tup ?_ ?_⟩⟩
          · rw [eN_len]; exact Nat.le_of_lt (lim_small (by simp; omega))
          · have e5 : eN l ++ [PV.int (i : Nat)] = eN (l ++ [i]) := eN_snoc l i
            rw [e5]
            refine bi_sorted_tup (by rw [List.length_append]; simp; omega) (bi_tuple_loc new_get ⟨rfl, (h2.trans h3).new _⟩)
      · have eG : ys = eM (lotsG seats x l) := by
          rw [e2]; unfold lotsG eM
          rw [filterMap_if, List.map_map]; rfl
        subst eG
        have e6 : (sofar ++ [l]).flatMap (lotsG seats x) = sofar.flatMap (lotsG seats x) ++ lotsG seats x l := by rw [List.flatMap_append]; simp
        refine bo_lst ((h2.new _).get hp') new_get ?_ ?_
        · rw [← List.length_append, eM_app, eM_len, ← e6]
          refine Nat.le_of_lt (lim_small (Nat.le_trans (Nat.le_trans ?_ hlim) (by decide)))
          unfold lotsC
          rw [el, show sofar ++ l :: rest' = (sofar ++ [l]) ++ rest' by rw [List.append_assoc]; rfl, List.flatMap_append (xs := sofar ++ [l]), List.length_append]
          exact Nat.le_add_right _ _
        · refine ⟨_, _, _, _, rfl, ?_, ((hx1.trans h2).new _).new _⟩
          rw [e6, ← eM_app]
          exact new_get
    · rintro ρ s1 ⟨p', c, d, e, rfl, hp', hx1⟩
      trivial
      refine bi_set_loc (l := lotsC seats x (lotsOf seats done)) hp' (Nat.lt_of_le_of_lt (lots_few hn) (by decide)) ?_
      refine bi_sorted_set new_get (Nat.lt_of_le_of_lt (lots_few hn) (by decide)) (lots_box hn) ?_
      refine ⟨_, _, _, _, _, _, rfl, ?_, ((hx.trans hx1).new _).new _⟩
      rw [lotsOf_snoc]
      exact new_get
  · rintro ρ s ⟨p, a, b, c, d, e, rfl, hp, hx⟩
    trivial
    refine ⟨Nat.zero_le _, cmpL_ne ((Ext.new1 _).get hp) new_get pl_M pls_nil fun c hc => ⟨?_, hx.new _⟩⟩
    congr 1
    refine bool_eq (hc.trans ?_)
    unfold seatB
    cases lotsOf seats letters <;> simp [eM]
end Mi.K32

namespace Mi.K32
open PySem PySem.Spec PyProof.Rows L2 Mi
variable {N : Nat}
local macro_rules | `(tactic| trivial) => `(tactic| simp only [wi_sn, wi_sq, wi_as, wi_asl, wi_pr2, wi_pr3, wi_ex, wi_cnd, wi_re, wi_rn, wi_br, wi_ct, wi_pa, th_nx, th_rt, th_bk, th_cn, ret_rt, ret_nx, we_bl, wb_ac, wb_last, we_cm, we_v, we_tp, we_ls, wa_an, wa_ac, we_nt, we_isi, we_ch, we_k, we_g, we_bi, we_nb, we_ca, we_ix, we_bo, we_ie, we_mth, we_sl, wop_no, wop_it, we_d0, wt_an, wt_ac, wg_tn, wg_tt, wg_ts, wgs_ac, wgs_an, tr_bl, List.getElem?_cons_zero, List.getElem?_cons_succ, List.set_cons_zero, List.set_cons_succ, Option.some.injEq, exists_eq_left', List.length_cons, List.length_nil, List.map_cons, List.map_nil, wipeP, Bool.not_true, Bool.not_false, reduceIte, Bool.false_eq_true, and_true, true_and])
theorem lets_eL {pool : List Let} {ks : List Nat} : (ks.map fun i => eL (pool.getD i [])) = (lets pool ks).map eL := by unfold lets; rw [List.map_map]; rfl
theorem ix_P {pool : List Let} {i : Nat} {st : Store} {Q : PV → Store → Prop} (hi : i < pool.length) (h : Q (eL (pool.getD i [])) st) : Wo (ixP (eP pool) (.int (i : Nat)) st) Q := by
  refine ix_tup ?_ h
  rw [List.getElem?_map, List.getD_eq_getElem?_getD, List.getElem?_eq_getElem hi]; rfl
/-- [pool[i] for i in some list of numbers] -/
theorem lc_lets {C : Fn} {pool : List Let} {ks : List Nat} {ρ : Env} {st : Store} {src : Option Nat} {v w : Nat} (hv : v ≠ w) (hρ : ρ[v]? = some (some (eP pool))) (hw : w < ρ.length) (hk : ∀ k ∈ ks, k < pool.length) (hl : ks.length ≤ 1000) (hs : ∀ s, Ext st s → stands src (eN ks) s = true) :
    Wo (loopC (stands src (eN ks)) (evG C (.tn w)) (fun ρ st => evT C .an ρ st) (fun ρ st => evE C (.ix (.v v) (.v w)) ρ st) ρ (eN ks) [] st) fun ys s => ys = (lets pool ks).map eL ∧ Ext st s := by
  refine wo_mono (loopC_all (xs := ks) (enc := fun i => PV.int (i : Nat)) (Ext st) (fun i => eL (pool.getD i [])) (Ext.refl _) hs (lim_small hl) fun i hi s1 h1 => ?_) fun ys s2 ⟨e2, h2⟩ => ⟨by rw [e2, lets_eL], h2⟩
  trivial
  have e1 : (ρ.set w (some (PV.int (i : Nat))))[v]? = some (some (eP pool)) := by rw [List.getElem?_set_ne (by omega), hρ]
  have e2 : (ρ.set w (some (PV.int (i : Nat))))[w]? = some (some (PV.int (i : Nat))) := by rw [List.getElem?_set_self hw]
  refine ⟨_, e1, _, e2, ix_P (hk i hi) ⟨rfl, h1⟩⟩
theorem grd_len_le {can : List Nat → Bool} {m : Nat} : (grd can m).length ≤ m := nodup_len_le grd_nodup fun x hx => grd_lt hx
theorem ev_law_best {k : Nat} {seats pool : List Let} {st : Store} (hs : ∀ l ∈ seats, okLet l = true) (hn : seats.length ≤ 6) (hm : pool.length ≤ 200) : Wo (evF T N (k + 3) "_law_best" [eP seats, eP pool] st) fun x st' => x = .tup (eN (grd (canB seats pool) pool.length)) ∧ Ext st st' := by
  refine wf (d := d__law_best) (hT e__law_best (List.mem_of_getElem? (i := 46) rfl)) rfl ?_
  show WS _ _ b__law_best [some (eP seats), some (eP pool), none, none, none] _ _
  unfold b__law_best
  trivial
  refine ⟨Nat.zero_le _, ?_⟩
  refine ws_fo_n (enc := fun i => PV.int (i : Nat)) pool.length (fun j ρ s => ∃ a b, ρ = [some (eP seats), some (eP pool), some (.loc st.length), a, b] ∧ Hd st (.lst (eN (grd (canB seats pool) j))) s) (wi_rg1 ?_)
  trivial
  refine bi_len_tup ⟨(pool.length : Nat), by rw [List.length_map], by omega, by rw [Int.toNat_natCast], ⟨_, _, rfl, ⟨[], rfl⟩⟩, ?_, ?_, ?_⟩
  · rintro j ρ s ⟨a, b, rfl, h⟩; rfl
  · rintro j ρ s hj ⟨a, b, rfl, h⟩
    trivial
    refine we_lc (wi_it ?_)
    trivial
    have gl : (grd (canB seats pool) j).length ≤ j := grd_len_le
    refine ⟨show 1 ≤ LIM by decide, bo_lst ((Ext.new1 _).get h.get) new_get ?_ ?_⟩
    · rw [eN_len]; exact Nat.le_of_lt (lim_small (by simp; omega))
    · have e5 : eN (grd (canB seats pool) j) ++ [PV.int (j : Nat)] = eN (grd (canB seats pool) j ++ [j]) := eN_snoc _ _
      rw [e5]
      refine ⟨_, new_get, ?_⟩
      refine wo_mono (lc_lets (v := 1) (w := 4) (pool := pool) (by omega) rfl (by simp only [List.length_cons, List.length_nil]; omega) (fun k hk => ?_) (by simp; omega) fun s1 h1 => decide_eq_true (h1.get new_get)) fun ys s2 ⟨e2, h2⟩ => ?_
      · rcases List.mem_append.mp hk with hk | hk
        · have := grd_lt hk; omega
        · simp at hk; omega
      · subst e2
        refine wo_mono (ev_law_seated hs hn new_get) fun x s3 ⟨e3, h3⟩ => ?_
        subst e3
        trivial
        have h' : Hd st (.lst (eN (grd (canB seats pool) j))) s3 := h.ext (((((Ext.new1 _).new _).trans h2).new _).trans h3)
        by_cases c : seatB seats (lets pool (grd (canB seats pool) j ++ [j])) = true
        · rw [if_pos c]
          refine ⟨recv_append h'.get, mt_append h'.get (by rw [eN_len]; exact lim_small (by omega)) ?_⟩
          refine ⟨_, _, rfl, ?_⟩
          rw [grd, if_pos (show canB seats pool (grd (canB seats pool) j ++ [j]) = true from c), ← e5]
          exact h'.set
        · rw [if_neg c]
          refine ⟨_, _, rfl, ?_⟩
          rw [grd, if_neg (show ¬ canB seats pool (grd (canB seats pool) j ++ [j]) = true from c)]
          exact h'
  · rintro ρ s ⟨a, b, rfl, h⟩
    trivial
    exact bi_tuple_loc h.get ⟨rfl, h.out⟩
/-- the seats that some letters fit -/
def seatsOf (seats letters : List Let) : List Nat := (List.range seats.length).filter fun s => letters.any fun l => fitsP l (seats.getD s [])
theorem ev_law_seats_of {k : Nat} {seats letters : List Let} {q : Nat} {st : Store} (hs : ∀ l ∈ seats, okLet l = true) (hn : seats.length ≤ 40) (hm : ∀ l ∈ letters, okLet l = true) (hl : letters.length ≤ 200) (hq : st[q]? = some (.lst (letters.map eL))) : Wo (evF T N (k + 2) "_law_seats_of" [eP seats, .loc q] st) fun x st' => ∃ p, x = .loc p ∧ st'[p]? = some (.lst (eN (seatsOf seats letters))) ∧ Ext st st' := by
  refine wf (d := d__law_seats_of) (hT e__law_seats_of (List.mem_of_getElem? (i := 47) rfl)) rfl ?_
  show WS _ _ b__law_seats_of [some (eP seats), some (.loc q), none, none, none] _ _
  unfold b__law_seats_of
  trivial
  refine we_lc (wi_en ?_)
  trivial
  refine ⟨_, rfl, ?_⟩
  rw [en_map]
  refine wo_mono (loopC_fil (xs := List.range seats.length) (enc := enE seats) (Ext st) (fun s => letters.any fun l => fitsP l (seats.getD s [])) (fun i => .int (i : Nat)) (Ext.refl _) (fun _ _ => rfl) (lim_small (by rw [List.length_range]; omega)) fun i hi s1 h1 => ?_) fun ys s2 ⟨e2, h2⟩ => ?_
  · unfold enE
    trivial
    refine we_lc (wi_it ?_)
    trivial
    refine ⟨_, h1.get hq, ?_⟩
    refine wo_mono (loopC_fil (xs := letters) (enc := eL) (Ext s1) (fun l => fitsP l (seats.getD i [])) eL (Ext.refl _) (fun s h => decide_eq_true (h.get (h1.get hq))) (lim_small (by omega)) fun l hl s2 h2 => ?_) fun ys s2 ⟨e2, h2⟩ => ?_
    · trivial
      refine wo_mono (ev_law_fits (getD_ok hs i)) fun r s3 ⟨e3, h3⟩ => ?_
      subst e3
      trivial
      exact ⟨h2.trans h3, fun _ => h2.trans h3⟩
    · subst e2
      refine ⟨Nat.zero_le _, cmpL_ne ((Ext.new1 _).get new_get) new_get (pls_map fun x hx => pl_L (okL_of (hm x (List.mem_filter.mp hx).1))) pls_nil fun c hc => ⟨?_, h1.trans ((h2.new _).new _), fun _ => h1.trans ((h2.new _).new _)⟩⟩
      refine bool_eq (hc.trans ?_)
      rw [List.any_eq_true, ne_eq, List.map_eq_nil_iff, List.filter_eq_nil_iff]
      constructor
      · intro h
        apply Classical.byContradiction
        intro h'
        exact h fun a ha z => h' ⟨a, ha, z⟩
      · rintro ⟨a, ha, z⟩ h
        exact h a ha z
  · subst e2
    exact ⟨_, rfl, new_get, h2.new _⟩
theorem eN_filter {p : Nat → Bool} {l : List Nat} : (l.filter p).map (fun i => PV.int (i : Nat)) = eN (l.filter p) := rfl
theorem ev_law_least_lot {k out : Nat} {seats pool : List Let} {best : List Nat} {st : Store} (hs : ∀ l ∈ seats, okLet l = true) (hn : seats.length ≤ 6) (hb : ∀ x ∈ best, x < pool.length) (hbl : best.length ≤ 200) (ho : out < pool.length) : Wo (evF T N (k + 3) "_law_least_lot" [eP seats, eP pool, .tup (eN best), .int (out : Nat)] st) fun x st' => x = .tup (eN (leanF (canB seats pool) out (best.filter fun x => decide (x < out)) (best.filter fun x => decide (x < out)))) ∧ Ext st st' := by
  refine wf (d := d__law_least_lot) (hT e__law_least_lot (List.mem_of_getElem? (i := 48) rfl)) rfl ?_
  show WS _ _ b__law_least_lot [some (eP seats), some (eP pool), some (.tup (eN best)), some (.int (out : Nat)), none, none, none, none] _ _
  unfold b__law_least_lot
  trivial
  refine we_lc (wi_it ?_)
  trivial
  refine wo_mono (loopC_fil (xs := best) (enc := fun i => PV.int (i : Nat)) (Ext st) (fun x => decide (x < out)) (fun i => .int (i : Nat)) (Ext.refl _) (fun _ _ => rfl) (lim_small (by omega)) fun i hi s1 h1 => ?_) fun ys s2 ⟨e2, h2⟩ => ?_
  · trivial
    refine cmp_lt ⟨?_, h1, fun _ => h1⟩
    exact decide_eq_decide.mpr (by omega)
  subst e2
  rw [eN_filter]
  generalize hA : best.filter (fun x => decide (x < out)) = A
  have hAb : ∀ x ∈ A, x < pool.length := fun x hx => hb x (by rw [← hA] at hx; exact (List.mem_filter.mp hx).1)
  have hAl : A.length ≤ 200 := by rw [← hA]; exact Nat.le_trans (List.length_filter_le _ _) hbl
  refine ws_fo_enc (enc := fun i => PV.int (i : Nat)) A (fun done ρ s => ∃ p ahead a b c, ρ = [some (eP seats), some (eP pool), some (.tup (eN best)), some (.int (out : Nat)), some (.loc p), a, b, c] ∧ s[p]? = some (.lst (eN ahead)) ∧ (∀ rest, A = done ++ rest → leanF (canB seats pool) out A A = leanF (canB seats pool) out rest ahead) ∧ (∀ x ∈ ahead, x < pool.length) ∧ ahead.length ≤ 200 ∧ Ext (s2 ++ [.lst (eN A)] ++ [.lst (eN A)]) s) (wi_it ?_)
  trivial
  refine bi_list_loc new_get ⟨_, new_get, rfl, ⟨_, A, _, _, _, rfl, (Ext.new1 _).get new_get, fun rest e => by rw [List.nil_append] at e; rw [← e], hAb, hAl, Ext.refl _⟩, ?_, ?_, ?_⟩
  · rintro done ρ s ⟨p, ahead, a, b, c, rfl, hp, _, _, _, hx⟩
    exact decide_eq_true (hx.get new_get)
  · rintro done g rest ρ s eA ⟨p, ahead, a, b, c, rfl, hp, hlean, hah, hal, hx⟩
    trivial
    refine we_lc (wi_it ?_)
    trivial
    refine ⟨_, hp, ?_⟩
    refine wo_mono (loopC_fil (xs := ahead) (enc := fun i => PV.int (i : Nat)) (Ext s) (fun x => decide (x ≠ g)) (fun i => .int (i : Nat)) (Ext.refl _) (fun s h => decide_eq_true (h.get hp)) (lim_small (by omega)) fun i hi s1 h1 => ?_) fun ys s3 ⟨e3, h3⟩ => ?_
    · trivial
      refine cmp_nei ⟨?_, h1, fun _ => h1⟩
      exact decide_eq_decide.mpr (by omega)
    subst e3
    rw [eN_filter]
    generalize hR : ahead.filter (fun x => decide (x ≠ g)) = R
    have hRb : ∀ x ∈ R, x < pool.length := fun x hx => hah x (by rw [← hR] at hx; exact (List.mem_filter.mp hx).1)
    have hRl : R.length ≤ 200 := by rw [← hR]; exact Nat.le_trans (List.length_filter_le _ _) hal
    refine we_lc (wi_it ?_)
    trivial
    refine ⟨show 1 ≤ LIM by decide, bo_lst ((Ext.new1 _).get new_get) new_get ?_ ?_⟩
    · rw [eN_len]; exact Nat.le_of_lt (lim_small (by simp; omega))
    have e5 : eN R ++ [PV.int (out : Nat)] = eN (R ++ [out]) := eN_snoc _ _
    rw [e5]
    refine ⟨_, new_get, ?_⟩
    refine wo_mono (lc_lets (v := 1) (w := 7) (pool := pool) (by omega) rfl (by simp only [List.length_cons, List.length_nil]; omega) (fun k hk => ?_) (by simp; omega) fun s1 h1 => decide_eq_true (h1.get new_get)) fun ys s4 ⟨e4, h4⟩ => ?_
    · rcases List.mem_append.mp hk with hk | hk
      · exact hRb _ hk
      · simp at hk; omega
    subst e4
    refine wo_mono (ev_law_seated hs hn new_get) fun x s5 ⟨e6, h5⟩ => ?_
    subst e6
    trivial
    have hy : Ext (s3 ++ [.lst (eN R)]) s5 := ((((Ext.new1 _).new _).trans h4).new _).trans h5
    have hz : Ext s s5 := (h3.new _).trans hy
    by_cases c : seatB seats (lets pool (R ++ [out])) = true
    · rw [c]
      trivial
      refine ⟨p, ahead, _, _, _, rfl, hz.get hp, fun rest' e' => ?_, hah, hal, hx.trans hz⟩
      rw [hlean (g :: rest') (by rw [e', List.append_assoc]; rfl), leanF, if_pos]
      rw [hR]; exact c
    · rw [(by simpa using c : seatB seats (lets pool (R ++ [out])) = false)]
      trivial
      refine ⟨_, R, _, _, _, rfl, hy.get new_get, fun rest' e' => ?_, hRb, hRl, hx.trans hz⟩
      rw [hlean (g :: rest') (by rw [e', List.append_assoc]; rfl), leanF, if_neg]
      · rw [hR]
      · rw [hR]; exact c
  · rintro ρ s ⟨p, ahead, a, b, c, rfl, hp, hlean, _, _, hx⟩
    trivial
    refine bi_tuple_loc hp ⟨?_, ((h2.new _).new _).trans hx⟩
    rw [hlean [] (by simp)]
    rfl
theorem filter_head {n : Nat} {p : Nat → Bool} : ((List.range n).filter p).head? = firstN n p := by
  unfold firstN
  rw [List.head?_filter]
theorem ev_law_one_by_one {k : Nat} {seats pool : List Let} {st : Store} (hs : ∀ l ∈ seats, okLet l = true) (hn : seats.length ≤ 40) (hm : pool.length ≤ 200) : Wo (evF T N (k + 2) "_law_one_by_one" [eP seats, eP pool] st) fun x st' => x = .tup ((sbs seats pool).map eO) ∧ Ext st st' := by
  refine wf (d := d__law_one_by_one) (hT e__law_one_by_one (List.mem_of_getElem? (i := 44) rfl)) rfl ?_
  show WS _ _ b__law_one_by_one [some (eP seats), some (eP pool), none, none, none, none, none] _ _
  unfold b__law_one_by_one
  trivial
  refine ⟨Nat.zero_le _, ?_⟩
  refine ws_fo_enc (enc := eL) seats (fun done ρ s => ∃ a b c d, ρ = [some (eP seats), some (eP pool), some (.loc st.length), a, b, c, d] ∧ Hd st (.lst ((chosen pool none done []).map eO)) s) (wi_it ?_)
  trivial
  refine ⟨rfl, ⟨_, _, _, _, rfl, ⟨[], rfl⟩⟩, ?_, ?_, ?_⟩
  · rintro done ρ s ⟨a, b, c, d, rfl, h⟩; rfl
  · rintro done seat rest ρ s es ⟨a, b, c0, d0, rfl, h⟩
    trivial
    refine we_lc (wi_en ?_)
    trivial
    refine ⟨_, rfl, ?_⟩
    rw [en_map]
    have hseat : okLet seat = true := hs seat (by rw [es]; simp)
    generalize hf : chosen pool none done [] = found at h
    have hfl : found.length = done.length := by rw [← hf, chosen_len]; simp
    have hdl : done.length ≤ 40 := by rw [es, List.length_append] at hn; omega
    refine wo_mono (loopC_fil (xs := List.range pool.length) (enc := enE pool) (Ext s) (fun i => fitsP (pool.getD i []) seat && decide (some i ∉ found)) (fun i => .int (i : Nat)) (Ext.refl _) (fun _ _ => rfl) (lim_small (by rw [List.length_range]; omega)) fun i hi s1 h1 => ?_) fun ys s2 ⟨e2, h2⟩ => ?_
    · unfold enE
      trivial
      refine wo_mono (ev_law_fits hseat) fun r s3 ⟨e3, h3⟩ => ?_
      subst e3
      trivial
      have hx := h1.trans h3
      cases fitsP (pool.getD i []) seat with
      | false => trivial; exact ⟨rfl, hx, fun z => by cases z⟩
      | true =>
        trivial
        exact cmp_nin (in_optL (h.ext hx).get) ⟨by simp, hx, fun _ => hx⟩
    · subst e2
      rw [eN_filter]
      have hh := h.ext h2
      have ef : ((List.range pool.length).filter fun i => fitsP (pool.getD i []) seat && decide (some i ∉ found)).head? = firstFit pool none found seat := by
        rw [filter_head]
        refine firstN_congr fun j _ => ?_
        unfold okAt
        simp [Bool.and_comm]
      refine ⟨recv_append (((Ext.new1 _)).get hh.get), Nat.zero_le _, cmpL_ne ((Ext.new1 _).get new_get) new_get (pls_map fun x hx => pl_int) pls_nil fun c hc => ?_⟩
      have fin : ∀ {o : Option Nat} {s3 : Store}, firstFit pool none found seat = o → Hd st (.lst (found.map eO)) s3 → Wo (methP .append (.loc st.length) [eO o] s3) fun x st1 => ∃ a b c d, [some (eP seats), some (eP pool), some (PV.loc st.length), some (eL seat), some (.loc s2.length), c0, d0] = [some (eP seats), some (eP pool), some (.loc st.length), a, b, c, d] ∧ Hd st (.lst ((chosen pool none (done ++ [seat]) []).map eO)) st1 := fun {o s3} ho h3 => by
        refine mt_append h3.get (by rw [List.length_map]; exact lim_small (by omega)) ⟨_, _, _, _, rfl, ?_⟩
        rw [chosen_snoc, hf, ho, List.map_append]
        exact h3.set
      cases hl : (List.range pool.length).filter fun i => fitsP (pool.getD i []) seat && decide (some i ∉ found) with
      | nil =>
        rw [hl] at ef hc
        have : c = false := by
          cases c with
          | false => rfl
          | true => exact absurd rfl (hc.mp rfl)
        subst this
        trivial
        exact fin (o := none) (ef.symm.trans rfl) ((hh.ext (Ext.new1 _)).ext (Ext.new1 _))
      | cons y r =>
        rw [hl] at ef hc
        have : c = true := hc.mpr (by simp [eN])
        subst this
        trivial
        refine ix_loc (i := 0) (x := .int (y : Nat)) ((Ext.new1 _).get new_get) rfl ?_
        exact fin (o := some y) (ef.symm.trans rfl) ((hh.ext (Ext.new1 _)).ext (Ext.new1 _))
  · rintro ρ s ⟨a, b, c, d, rfl, h⟩
    trivial
    exact bi_tuple_loc h.get ⟨rfl, h.out⟩
end Mi.K32

namespace Mi.K32
open PySem PySem.Spec PyProof.Rows L2 Mi
variable {N : Nat}
local macro_rules | `(tactic| trivial) => `(tactic| simp only [wi_sn, wi_sq, wi_as, wi_asl, wi_pr2, wi_pr3, wi_ex, wi_cnd, wi_re, wi_rn, wi_br, wi_ct, wi_pa, th_nx, th_rt, th_bk, th_cn, ret_rt, ret_nx, we_bl, wb_ac, wb_last, we_cm, we_v, we_tp, we_ls, wa_an, wa_ac, we_nt, we_isi, we_ch, we_k, we_g, we_bi, we_nb, we_ca, we_ix, we_bo, we_ie, we_mth, we_sl, wop_no, wop_it, we_d0, wt_an, wt_ac, wg_tn, wg_tt, wg_ts, wgs_ac, wgs_an, tr_bl, List.getElem?_cons_zero, List.getElem?_cons_succ, List.set_cons_zero, List.set_cons_succ, Option.some.injEq, exists_eq_left', List.length_cons, List.length_nil, List.map_cons, List.map_nil, wipeP, Bool.not_true, Bool.not_false, reduceIte, Bool.false_eq_true, and_true, true_and])
def Good (m : Nat) (p : List Let) : Prop := (∀ l ∈ p, okLet l = true) ∧ p.length ≤ m
theorem any_nat {f : Nat → PV} {l : List Nat} : l.map f = l.map f := rfl
theorem ev_is_lot {k m : Nat} {l : List Nat} {st : Store} (h1 : l.Pairwise (· < ·)) (h2 : ∀ x ∈ l, x < m) (h3 : l.length ≤ 1000) : Wo (evF T N (k + 2) "is_lot" [.tup (eN l), .int (m : Nat)] st) fun x st' => x = .bl true ∧ st' = st := by
  refine wf (d := d_is_lot) (hT e_is_lot (List.mem_of_getElem? (i := 27) rfl)) rfl ?_
  show WS _ _ b_is_lot [some (.tup (eN l)), some (.int (m : Nat)), none, none] _ _
  unfold b_is_lot
  trivial
  refine ⟨true, rfl, ?_⟩
  trivial
  refine we_all (wi_it ?_)
  trivial
  refine wo_mono (loopB_enc (xs := l) (enc := fun i => PV.int (i : Nat)) (· = st) (fun _ => true) (fun _ _ => rfl) rfl fun i hi s1 h1 => ?_) fun b s2 ⟨e, h2⟩ => ?_
  · subst h1
    trivial
    refine bo_sub (wo_mono ev_is_count fun r s3 ⟨e3, h3⟩ => ⟨?_, h3⟩)
    rw [e3]
    have := h2 i hi
    rw [decide_eq_true (by omega), decide_eq_true (by omega)]; rfl
  · subst h2
    have : b = true := by rw [e]; simp
    subst this
    trivial
    refine we_all (wi_rg2 ?_)
    trivial
    refine bi_len_tup ⟨1, (l.length : Nat), rfl, by rw [eN_len], by omega, ?_⟩
    have e4 : ((List.range (((l.length : Nat) : Int) - 1).toNat).map fun k => PV.int (1 + (k : Nat))) = (List.range (l.length - 1)).map fun k => PV.int ((k + 1 : Nat)) := by
      rw [show (((l.length : Nat) : Int) - 1).toNat = l.length - 1 by omega]
      refine List.map_congr_left fun k _ => ?_
      congr 1; omega
    rw [e4]
    refine wo_mono (loopB_enc (xs := List.range (l.length - 1)) (enc := fun k => PV.int ((k + 1 : Nat))) (· = s2) (fun _ => true) (fun _ _ => rfl) rfl fun i hi s1 hs1 => ?_) fun b s3 ⟨e, hs3⟩ => ?_
    · subst hs1
      have hi : i + 1 < l.length := by have := List.mem_range.mp hi; omega
      trivial
      refine bo_sub ?_
      rw [show ((i + 1 : Nat) : Int) - 1 = ((i : Nat) : Int) by omega]
      refine ix_tup (x := .int (l[i] : Nat)) (by unfold eN; rw [List.getElem?_map, List.getElem?_eq_getElem (by omega)]; rfl) ?_
      refine ix_tup (x := .int (l[i + 1] : Nat)) (by unfold eN; rw [List.getElem?_map, List.getElem?_eq_getElem (by omega)]; rfl) ?_
      refine cmp_lt ?_
      have := List.pairwise_iff_getElem.mp h1 i (i + 1) (by omega) hi (by omega)
      rw [decide_eq_true (by omega)]
      exact ⟨rfl, rfl⟩
    · have : b = true := by rw [e]; simp
      subst this
      exact ⟨rfl, hs3⟩
/-- how many seats some letters fit -/
def fitN (seats pool : List Let) (lot : List Nat) : Nat := ((List.range seats.length).filter fun s => lot.any fun i => FF seats pool i s).length
theorem range_filter {α : Type} {d : α} {q : α → Bool} (p : List α) : (p.filter q).length = ((List.range p.length).filter fun i => q (p.getD i d)).length := by
  have : p = (List.range p.length).map fun i => p.getD i d := by
    refine List.ext_getElem? fun i => ?_
    rw [List.getElem?_map]
    by_cases h : i < p.length
    · rw [List.getElem?_range h, List.getElem?_eq_getElem h]
      simp [List.getD_eq_getElem?_getD, List.getElem?_eq_getElem h]
    · rw [List.getElem?_eq_none (by omega), List.getElem?_eq_none (by simp; omega)]; rfl
  conv => lhs; rw [this, List.filter_map, List.length_map]
  rfl
theorem sumP_ones {α : Type} (l : List α) : sumP (l.map fun _ => PV.int 1) = some (l.length : Nat) := by
  induction l with
  | nil => rfl
  | cons x l ih => rw [List.map_cons, sumP, ih]; simp; omega
theorem ev_fitted {k : Nat} {seats pool : List Let} {lot : List Nat} {st : Store} (hs : Good 40 seats) (hl : ∀ i ∈ lot, i < pool.length) : Wo (evF T N (k + 2) "fitted" [eP seats, eP pool, .tup (eN lot)] st) fun x st' => x = .int (fitN seats pool lot : Nat) ∧ Ext st st' := by
  refine wf (d := d_fitted) (hT e_fitted (List.mem_of_getElem? (i := 28) rfl)) rfl ?_
  show WS _ _ b_fitted [some (eP seats), some (eP pool), some (.tup (eN lot)), none, none] _ _
  unfold b_fitted
  trivial
  refine we_sum (wi_it ?_)
  trivial
  refine wo_mono (loopC_fil (xs := seats) (enc := eL) (Ext st) (fun s => lot.any fun i => fitsP (pool.getD i []) s) (fun _ => .int 1) (Ext.refl _) (fun _ _ => rfl) (lim_small (by have := hs.2; omega)) fun seat hseat s1 h1 => ?_) fun ys s2 ⟨e2, h2⟩ => ?_
  · trivial
    refine we_any (wi_it ?_)
    trivial
    refine wo_mono (loopB_enc (xs := lot) (enc := fun i => PV.int (i : Nat)) (Ext s1) (fun i => fitsP (pool.getD i []) seat) (fun _ _ => rfl) (Ext.refl _) fun i hi s2 h2 => ?_) fun b s3 ⟨e, h3⟩ => ?_
    · trivial
      refine ix_P (hl i hi) (wo_mono (ev_fits (okL_of (hs.1 seat hseat))) fun r s4 ⟨e4, h4⟩ => ⟨e4, h2.trans h4⟩)
    · exact ⟨by rw [e]; rfl, h1.trans h3, fun _ => h1.trans h3⟩
  · subst e2
    refine ⟨_, sumP_ones _, ?_, h2⟩
    rw [range_filter (d := [])]; rfl
theorem we_nblen {l : List Nat} {st : Store} {Q : PV → Store → Prop} (hn : l.Nodup) (hl : l.length < 64) (h : Q (.int (l.length : Nat)) st) : Wo (nbP .lenset (.tup (eN l)) st) Q := by
  refine ⟨_, _, ?_, h⟩
  simp only [nbP, itemsP]
  rw [toInts_nat]
  simp only
  have hq : (toI l).length < 64 ∧ (toI l).Nodup := ⟨by rw [List.length_map]; exact hl, nodup_map_inj hn fun a _ b _ e => by omega⟩
  rw [if_pos hq, List.length_map]
theorem we_nblenL {l : List Nat} {p : Nat} {st : Store} {Q : PV → Store → Prop} (hp : st[p]? = some (.lst (eN l))) (hn : l.Nodup) (hl : l.length < 64) (h : Q (.int (l.length : Nat)) st) : Wo (nbP .lenset (.loc p) st) Q := by
  refine ⟨_, _, ?_, h⟩
  simp only [nbP, itemsP]
  rw [hp]
  simp only
  rw [toInts_nat]
  simp only
  have hq : (toI l).length < 64 ∧ (toI l).Nodup := ⟨by rw [List.length_map]; exact hl, nodup_map_inj hn fun a _ b _ e => by omega⟩
  rw [if_pos hq, List.length_map]
theorem zip_map {pool : List Let} {ss : List Nat} (h : ss.length = pool.length) : (((pool.map eL).zip (eN ss)).map fun p => PV.tup [p.1, p.2]) = (List.range pool.length).map fun i => .tup [eL (pool.getD i []), .int (ss.getD i 0 : Nat)] := by
  refine List.ext_getElem? fun i => ?_
  rw [List.getElem?_map, List.getElem?_map]
  by_cases hi : i < pool.length
  · rw [List.getElem?_range hi, List.getElem?_eq_getElem (by rw [List.length_zip, List.length_map, eN_len]; omega), List.getElem_zip]
    simp [eN, List.getD_eq_getElem?_getD, List.getElem?_eq_getElem hi, List.getElem?_eq_getElem (show i < ss.length by omega)]
  · rw [List.getElem?_eq_none (by rw [List.length_zip, List.length_map, eN_len]; omega), List.getElem?_eq_none (by simp; omega)]; rfl
theorem ev_is_seating {k : Nat} {seats pool : List Let} {ss : List Nat} {st : Store} (hs : Good 40 seats) (hp : Good 60 pool) (h1 : ss.length = pool.length) (h2 : ∀ s ∈ ss, s < seats.length) (h3 : ss.Nodup) (h4 : ∀ i, i < pool.length → FF seats pool i (ss.getD i 0) = true) : Wo (evF T N (k + 6) "is_seating" [eP seats, eP pool, .tup (eN ss)] st) fun x st' => x = .bl true ∧ Ext st st' := by
  refine wf (d := d_is_seating) (hT e_is_seating (List.mem_of_getElem? (i := 26) rfl)) rfl ?_
  show WS _ _ b_is_seating [some (eP seats), some (eP pool), some (.tup (eN ss)), none, none] _ _
  unfold b_is_seating
  have hpl := hp.2
  trivial
  refine wo_mono (ev_check hs.1 hs.2 hp.1 (by omega)) fun r s1 ⟨_, x1⟩ => ?_
  refine ⟨true, rfl, ?_⟩
  trivial
  refine bi_len_tup (bi_len_tup (cmp_nei ?_))
  rw [eN_len, List.length_map, decide_eq_false (by omega)]
  trivial
  refine we_all (wi_it ?_)
  trivial
  refine wo_mono (loopB_enc (xs := ss) (enc := fun i => PV.int (i : Nat)) (Ext s1) (fun _ => true) (fun _ _ => rfl) (Ext.refl _) fun i hi s2 hs2 => ?_) fun b s2 ⟨e, hs2⟩ => ?_
  · trivial
    refine bi_len_tup (bo_sub (wo_mono ev_is_count fun r s3 ⟨e3, h3⟩ => ⟨?_, by rw [h3]; exact hs2⟩))
    rw [e3]
    have := h2 i hi
    rw [List.length_map, decide_eq_true (by omega), decide_eq_true (by omega)]; rfl
  · have : b = true := by rw [e]; simp
    subst this
    trivial
    refine we_nblen h3 (by omega) (bi_len_tup (cmp_nei ?_))
    rw [eN_len, decide_eq_false (by omega)]
    trivial
    refine we_all (wi_zp ?_)
    trivial
    refine ⟨pool.map eL, eN ss, rfl, rfl, ?_⟩
    rw [zip_map h1]
    refine wo_mono (loopB_enc (xs := List.range pool.length) (enc := fun i => .tup [eL (pool.getD i []), .int (ss.getD i 0 : Nat)]) (Ext s2) (fun _ => true) (fun _ _ => rfl) (Ext.refl _) fun i hi s3 hs3 => ?_) fun b s3 ⟨e, hs3⟩ => ?_
    · have hi := List.mem_range.mp hi
      trivial
      refine ix_P (h2 _ ?_) (wo_mono (ev_fits (okL_of (getD_ok hs.1 _))) fun r s4 ⟨e4, h4'⟩ => ⟨?_, hs3.trans h4'⟩)
      · rw [List.getD_eq_getElem?_getD, List.getElem?_eq_getElem (by omega)]; exact List.getElem_mem _
      · rw [e4]; exact congrArg PV.bl (h4 i hi)
    · have : b = true := by rw [e]; simp
      subst this
      exact ⟨rfl, (x1.trans hs2).trans hs3⟩
theorem ev_is_short {k : Nat} {seats pool : List Let} {l : List Nat} {st : Store} (hs : Good 40 seats) (hp : Good 60 pool) (h1 : l.Pairwise (· < ·)) (h2 : ∀ x ∈ l, x < pool.length) (h3 : fitN seats pool l < l.length) : Wo (evF T N (k + 6) "is_short" [eP seats, eP pool, .tup (eN l)] st) fun x st' => x = .bl true ∧ Ext st st' := by
  refine wf (d := d_is_short) (hT e_is_short (List.mem_of_getElem? (i := 29) rfl)) rfl ?_
  show WS _ _ b_is_short [some (eP seats), some (eP pool), some (.tup (eN l))] _ _
  unfold b_is_short
  have hpl := hp.2
  trivial
  refine wo_mono (ev_check hs.1 hs.2 hp.1 (by omega)) fun r s1 ⟨_, x1⟩ => ?_
  refine bi_len_tup ?_
  rw [List.length_map]
  have hll : l.length ≤ pool.length := nodup_len_le (h1.imp fun h => Nat.ne_of_lt h) h2
  refine wo_mono (ev_is_lot h1 h2 (by omega)) fun r s2 ⟨e2, x2⟩ => ?_
  subst e2 x2
  trivial
  refine wo_mono (ev_fitted hs h2) fun r s3 ⟨e3, x3⟩ => ?_
  subst e3
  refine bi_len_tup (cmp_lt ⟨?_, x1.trans x3⟩)
  rw [eN_len, decide_eq_true (by omega)]
/-! ### papers -/
def eQ (p : Nat × Nat) : PV := .tup [.int (p.1 : Nat), .int (p.2 : Nat)]
def eR (p : Nat × List Nat) : PV := .tup [.int (p.1 : Nat), .tup (eN p.2)]
theorem ev_are_pairs {α : Type} {enc : α → PV} {l : List α} {k : Nat} {st : Store} (h : ∀ x ∈ l, ∃ a b, enc x = .tup [a, b]) : Wo (evF T N (k + 1) "are_pairs" [.tup (l.map enc)] st) fun x st' => x = .bl true ∧ st' = st := by
  refine wf (d := d_are_pairs) (hT e_are_pairs (List.mem_of_getElem? (i := 33) rfl)) rfl ?_
  show WS _ _ b_are_pairs [some (.tup (l.map enc)), none] _ _
  unfold b_are_pairs
  trivial
  refine ⟨true, rfl, ?_⟩
  trivial
  refine we_all (wi_it ?_)
  trivial
  refine wo_mono (loopB_enc (xs := l) (enc := enc) (· = st) (fun _ => true) (fun _ _ => rfl) rfl fun x hx s1 h1 => ?_) fun b s2 ⟨e, h2⟩ => ?_
  · obtain ⟨a, b, e⟩ := h x hx
    rw [e]
    trivial
    refine ⟨true, rfl, ?_⟩
    trivial
    exact bi_len_tup (cmp_eqi ⟨rfl, h1⟩)
  · have : b = true := by rw [e]; simp
    subst this
    exact ⟨rfl, h2⟩
theorem dedupI_nodup' : ∀ {l : List Int}, l.Nodup → dedupI l = l
  | [], _ => rfl
  | x :: r, h => by
    rw [List.nodup_cons] at h
    unfold dedupI
    rw [if_neg h.1, dedupI_nodup' h.2]
theorem ev_is_seating_part {k : Nat} {seats pool : List Let} {l : List (Nat × Nat)} {st : Store} (hs : Good 40 seats) (hp : Good 60 pool) (h1 : (l.map (·.1)).Pairwise (· < ·)) (h2 : ∀ p ∈ l, p.1 < pool.length ∧ p.2 < seats.length ∧ FF seats pool p.1 p.2 = true) (h3 : (l.map (·.2)).Nodup) : Wo (evF T N (k + 3) "is_seating_part" [eP seats, eP pool, .tup (l.map eQ)] st) fun x st' => x = .bl true ∧ Ext st st' := by
  refine wf (d := d_is_seating_part) (hT e_is_seating_part (List.mem_of_getElem? (i := 34) rfl)) rfl ?_
  show WS _ _ b_is_seating_part [some (eP seats), some (eP pool), some (.tup (l.map eQ)), none, none, none] _ _
  unfold b_is_seating_part
  have hpl := hp.2
  have hll : l.length ≤ pool.length := by
    have := nodup_len_le (n := pool.length) (h1.imp fun h => Nat.ne_of_lt h) fun x hx => by
      obtain ⟨p, hp', rfl⟩ := List.mem_map.mp hx
      exact (h2 p hp').1
    rwa [List.length_map] at this
  trivial
  refine we_tuple (wi_it ?_)
  trivial
  refine wo_mono (loopC_all (xs := l) (enc := eQ) (Ext st) (fun p => .int (p.1 : Nat)) (Ext.refl _) (fun _ _ => rfl) (lim_small (by omega)) fun p hp' s1 h1 => ?_) fun ys s2 ⟨e2, x2⟩ => ?_
  · unfold eQ
    trivial
    exact ix_tup (i := 0) rfl ⟨rfl, h1⟩
  have e2 : ys = eN (l.map (·.1)) := by rw [e2]; unfold eN; rw [List.map_map]; rfl
  subst e2
  refine bi_len_tup ?_
  rw [List.length_map]
  refine wo_mono (ev_is_lot h1 (fun x hx => by
    obtain ⟨p, hp', rfl⟩ := List.mem_map.mp hx
    exact (h2 p hp').1) (by rw [List.length_map]; omega)) fun r s3 ⟨e3, x3⟩ => ?_
  subst e3 x3
  trivial
  refine we_all (wi_it ?_)
  trivial
  refine wo_mono (loopB_enc (xs := l) (enc := eQ) (Ext s3) (fun _ => true) (fun _ _ => rfl) (Ext.refl _) fun p hp' s1 h1 => ?_) fun b s4 ⟨e4, x4⟩ => ?_
  · unfold eQ
    trivial
    refine ix_tup (i := 1) rfl (bi_len_tup (bo_sub (wo_mono ev_is_count fun r s3 ⟨e3, h3⟩ => ⟨?_, by rw [h3]; exact h1⟩)))
    rw [e3]
    have := (h2 p hp').2.1
    rw [List.length_map, decide_eq_true (by omega), decide_eq_true (by omega)]; rfl
  have : b = true := by rw [e4]; simp
  subst this
  trivial
  refine we_lsc (wi_it ?_)
  trivial
  refine wo_mono (loopC_all (xs := l) (enc := eQ) (Ext s4) (fun p => .int (p.2 : Nat)) (Ext.refl _) (fun _ _ => rfl) (lim_small (by omega)) fun p hp' s1 h1 => ?_) fun ys s5 ⟨e5, x5⟩ => ?_
  · unfold eQ
    trivial
    exact ix_tup (i := 1) rfl ⟨rfl, h1⟩
  have e5 : ys = eN (l.map (·.2)) := by rw [e5]; unfold eN; rw [List.map_map]; rfl
  subst e5
  refine ⟨_, toInts_nat _, by rw [List.length_map, List.length_map]; omega, ?_⟩
  refine bi_len_tup (cmp_nei ?_)
  rw [dedupI_nodup' (nodup_map_inj h3 fun a _ b _ e => by omega), List.length_map, List.length_map, List.length_map, decide_eq_false (by omega)]
  trivial
  refine we_all (wi_it ?_)
  trivial
  refine wo_mono (loopB_enc (xs := l) (enc := eQ) (Ext s5) (fun _ => true) (fun _ _ => rfl) (Ext.refl _) fun p hp' s1 h1 => ?_) fun b s6 ⟨e6, x6⟩ => ?_
  · unfold eQ
    trivial
    obtain ⟨g1, g2, g3⟩ := h2 p hp'
    refine ix_P g1 (ix_P g2 (wo_mono (ev_fits (okL_of (getD_ok hs.1 _))) fun r s4 ⟨e4, h4'⟩ => ⟨?_, h1.trans h4'⟩))
    rw [e4]; exact congrArg PV.bl g3
  have : b = true := by rw [e6]; simp
  subst this
  exact ⟨rfl, ((x2.trans x4).trans x5).trans x6⟩
theorem ev_is_refusal {k q : Nat} {seats pool : List Let} {acc : List Nat} {p : Nat × List Nat} {st : Store} (hs : Good 40 seats) (hp : Good 60 pool) (hq : st[q]? = some (.lst (eN acc))) (h1 : p.2.Pairwise (· < ·)) (h2 : ∀ x ∈ p.2, x < p.1 ∧ x ∈ acc) (h3 : p.1 < pool.length) (h4 : fitN seats pool (p.2 ++ [p.1]) = p.2.length) : Wo (evF T N (k + 3) "is_refusal" [eP seats, eP pool, .loc q, eR p] st) fun x st' => x = .bl true ∧ Ext st st' := by
  refine wf (d := d_is_refusal) (hT e_is_refusal (List.mem_of_getElem? (i := 35) rfl)) rfl ?_
  show WS _ _ b_is_refusal [some (eP seats), some (eP pool), some (.loc q), some (eR p), none, none, none] _ _
  unfold b_is_refusal eR
  have hpl := hp.2
  have hll : p.2.length ≤ p.1 := nodup_len_le (h1.imp fun h => Nat.ne_of_lt h) fun x hx => (h2 x hx).1
  trivial
  refine wo_mono (ev_is_lot h1 (fun x hx => (h2 x hx).1) (by omega)) fun r s1 ⟨e1, x1⟩ => ?_
  subst e1 x1
  trivial
  refine we_all (wi_it ?_)
  trivial
  refine wo_mono (loopB_enc (xs := p.2) (enc := fun i => PV.int (i : Nat)) (Ext s1) (fun _ => true) (fun _ _ => rfl) (Ext.refl _) fun i hi s2 x2 => ?_) fun b s2 ⟨e2, x2⟩ => ?_
  · trivial
    refine cmp_in (in_natL (x2.get hq)) ⟨?_, x2⟩
    rw [decide_eq_true (h2 i hi).2]
  have : b = true := by rw [e2]; simp
  subst this
  trivial
  refine ⟨show 1 ≤ LIM by decide, bo_tup ?_ ?_⟩
  · rw [eN_len]; exact Nat.le_of_lt (lim_small (by simp; omega))
  have e5 : eN p.2 ++ [PV.int (p.1 : Nat)] = eN (p.2 ++ [p.1]) := eN_snoc _ _
  rw [e5]
  refine wo_mono (ev_fitted hs fun i hi => ?_) fun r s3 ⟨e3, x3⟩ => ?_
  · rcases List.mem_append.mp hi with hi | hi
    · have := (h2 i hi).1; omega
    · simp at hi; omega
  subst e3
  refine bi_len_tup (cmp_eqi ⟨?_, x2.trans x3⟩)
  rw [eN_len, h4, decide_eq_true rfl]
end Mi.K32

namespace Mi.K32
open PySem PySem.Spec PyProof.Rows L2 Mi
variable {N : Nat}
local macro_rules | `(tactic| trivial) => `(tactic| simp only [wi_sn, wi_sq, wi_as, wi_asl, wi_pr2, wi_pr3, wi_ex, wi_cnd, wi_re, wi_rn, wi_br, wi_ct, wi_pa, th_nx, th_rt, th_bk, th_cn, ret_rt, ret_nx, we_bl, wb_ac, wb_last, we_cm, we_v, we_tp, we_ls, wa_an, wa_ac, we_nt, we_isi, we_ch, we_k, we_g, we_bi, we_nb, we_ca, we_ix, we_bo, we_ie, we_mth, we_sl, wop_no, wop_it, we_d0, wt_an, wt_ac, wg_tn, wg_tt, wg_ts, wgs_ac, wgs_an, tr_bl, List.getElem?_cons_zero, List.getElem?_cons_succ, List.set_cons_zero, List.set_cons_succ, Option.some.injEq, exists_eq_left', List.length_cons, List.length_nil, List.map_cons, List.map_nil, wipeP, Bool.not_true, Bool.not_false, reduceIte, Bool.false_eq_true, and_true, true_and])
theorem ev_is_best_paper {k : Nat} {seats pool : List Let} {l : List (Nat × Nat)} {r : List (Nat × List Nat)} {st : Store} (hs : Good 40 seats) (hp : Good 60 pool) (h1 : (l.map (·.1)).Pairwise (· < ·)) (h2 : ∀ p ∈ l, p.1 < pool.length ∧ p.2 < seats.length ∧ FF seats pool p.1 p.2 = true) (h3 : (l.map (·.2)).Nodup)
    (h4 : r.map (·.1) = (List.range pool.length).filter fun k => decide (k ∉ l.map (·.1))) (h5 : ∀ p ∈ r, p.2.Pairwise (· < ·) ∧ (∀ x ∈ p.2, x < p.1 ∧ x ∈ l.map (·.1)) ∧ fitN seats pool (p.2 ++ [p.1]) = p.2.length) : Wo (evF T N (k + 6) "is_best_paper" [eP seats, eP pool, .tup [.str "best", .tup (l.map eQ), .tup (r.map eR)]] st) fun x st' => x = .bl true ∧ Ext st st' := by
  refine wf (d := d_is_best_paper) (hT e_is_best_paper (List.mem_of_getElem? (i := 36) rfl)) rfl ?_
  show WS _ _ b_is_best_paper [some (eP seats), some (eP pool), some (.tup [.str "best", .tup (l.map eQ), .tup (r.map eR)]), none, none, none, none, none, none] _ _
  unfold b_is_best_paper
  have hpl := hp.2
  have hll : l.length ≤ pool.length := by
    have := nodup_len_le (n := pool.length) (h1.imp fun h => Nat.ne_of_lt h) fun x hx => by
      obtain ⟨p, hp', rfl⟩ := List.mem_map.mp hx
      exact (h2 p hp').1
    rwa [List.length_map] at this
  have hrl : r.length ≤ pool.length := by
    have := congrArg List.length h4
    rw [List.length_map] at this
    rw [this]
    exact Nat.le_trans (List.length_filter_le _ _) (by rw [List.length_range]; exact Nat.le_refl _)
  trivial
  refine wo_mono (ev_check hs.1 hs.2 hp.1 (by omega)) fun x s1 ⟨_, x1⟩ => ?_
  refine ⟨true, rfl, ?_⟩
  trivial
  refine bi_len_tup (cmp_nei ?_)
  rw [decide_eq_false (show ¬ ((([PV.str "best", .tup (l.map eQ), .tup (r.map eR)] : List PV).length : Nat) : Int) ≠ 3 from fun h => h rfl)]
  trivial
  refine ix_tup (i := 0) rfl ⟨true, rfl, ?_⟩
  trivial
  refine ix_tup (i := 0) rfl (cmp_ne (pl_str (by decide +kernel)) (pl_str (by decide +kernel)) fun c hc => ?_)
  have : c = false := by
    cases c with
    | false => rfl
    | true => exact absurd rfl (hc.mp rfl)
  subst this
  trivial
  refine ix_tup (i := 1) rfl (ix_tup (i := 2) rfl ?_)
  refine wo_mono (ev_are_pairs fun p _ => ⟨_, _, rfl⟩) fun x s2 ⟨e2, x2⟩ => ?_
  subst e2 x2
  trivial
  refine wo_mono (ev_are_pairs fun p _ => ⟨_, _, rfl⟩) fun x s3 ⟨e3, x3⟩ => ?_
  subst e3 x3
  trivial
  refine wo_mono (ev_is_seating_part hs hp h1 h2 h3) fun x s4 ⟨e4, x4⟩ => ?_
  subst e4
  trivial
  refine we_lc (wi_it ?_)
  trivial
  refine wo_mono (loopC_all (xs := l) (enc := eQ) (Ext s4) (fun p => .int (p.1 : Nat)) (Ext.refl _) (fun _ _ => rfl) (lim_small (by omega)) fun p hp' s5 h1 => ?_) fun ys s5 ⟨e5, x5⟩ => ?_
  · unfold eQ
    trivial
    exact ix_tup (i := 0) rfl ⟨rfl, h1⟩
  have e5 : ys = eN (l.map (·.1)) := by rw [e5]; unfold eN; rw [List.map_map]; rfl
  subst e5
  refine we_lc (wi_rg1 ?_)
  trivial
  refine bi_len_tup ⟨(pool.length : Nat), by rw [List.length_map], by omega, ?_⟩
  rw [Int.toNat_natCast]
  refine wo_mono (loopC_fil (xs := List.range pool.length) (enc := fun i => PV.int (i : Nat)) (Ext (s5 ++ [.lst (eN (l.map (·.1)))])) (fun k => decide (k ∉ l.map (·.1))) (fun i => .int (i : Nat)) (Ext.refl _) (fun _ _ => rfl) (lim_small (by rw [List.length_range]; omega)) fun i hi s6 h1 => ?_) fun ys s6 ⟨e6, x6⟩ => ?_
  · trivial
    exact cmp_nin (in_natL (h1.get new_get)) ⟨by simp, h1, fun _ => h1⟩
  rw [eN_filter, ← h4] at e6
  subst e6
  refine we_tuple (wi_it ?_)
  trivial
  refine wo_mono (loopC_all (xs := r) (enc := eR) (Ext (s6 ++ [.lst (eN (r.map (·.1)))])) (fun p => .int (p.1 : Nat)) (Ext.refl _) (fun _ _ => rfl) (lim_small (by omega)) fun p hp' s5 h1 => ?_) fun ys s7 ⟨e7, x7⟩ => ?_
  · unfold eR
    trivial
    exact ix_tup (i := 0) rfl ⟨rfl, h1⟩
  have e7 : ys = eN (r.map (·.1)) := by rw [e7]; unfold eN; rw [List.map_map]; rfl
  subst e7
  refine bi_len_tup ?_
  rw [List.length_map]
  refine wo_mono (ev_is_lot (by rw [h4]; exact List.Pairwise.filter _ List.pairwise_lt_range) (fun x hx => by rw [h4] at hx; exact List.mem_range.mp (List.mem_filter.mp hx).1) (by rw [List.length_map]; omega)) fun x s8 ⟨e8, x8⟩ => ?_
  subst e8 x8
  trivial
  refine we_lc (wi_it ?_)
  trivial
  refine wo_mono (loopC_all (xs := r) (enc := eR) (Ext s8) (fun p => .int (p.1 : Nat)) (Ext.refl _) (fun _ _ => rfl) (lim_small (by omega)) fun p hp' s5 h1 => ?_) fun ys s9 ⟨e9, x9⟩ => ?_
  · unfold eR
    trivial
    exact ix_tup (i := 0) rfl ⟨rfl, h1⟩
  have e9 : ys = eN (r.map (·.1)) := by rw [e9]; unfold eN; rw [List.map_map]; rfl
  subst e9
  have pN : ∀ z : List Nat, pls 30 (eN z) = true := fun z => pls_map fun x _ => pl_int
  refine cmpL_ne new_get (((x7.trans x9).new _).get new_get) (pN _) (pN _) fun c hc => ?_
  have : c = false := by
    cases c with
    | false => rfl
    | true => exact absurd rfl (hc.mp rfl)
  subst this
  trivial
  refine we_all (wi_it ?_)
  trivial
  have hx : Ext (s5 ++ [.lst (eN (l.map (·.1)))]) (s9 ++ [.lst (eN (r.map (·.1)))]) := ((x6.new _).trans (x7.trans x9)).new _
  refine wo_mono (loopB_enc (xs := r) (enc := eR) (Ext (s9 ++ [.lst (eN (r.map (·.1)))])) (fun _ => true) (fun _ _ => rfl) (Ext.refl _) fun p hp' s10 x10 => ?_) fun b s10 ⟨e10, x10⟩ => ?_
  · trivial
    obtain ⟨g1, g2, g3⟩ := h5 p hp'
    have hpk : p.1 < pool.length := by
      have : p.1 ∈ r.map (·.1) := List.mem_map.mpr ⟨p, hp', rfl⟩
      rw [h4] at this
      exact List.mem_range.mp (List.mem_filter.mp this).1
    exact wo_mono (ev_is_refusal hs hp ((hx.trans x10).get new_get) g1 g2 hpk g3) fun x s11 ⟨e11, x11⟩ => ⟨e11, x10.trans x11⟩
  · have : b = true := by rw [e10]; simp
    subst this
    exact ⟨rfl, (((x1.trans x4).trans x5).new _).trans (hx.trans x10)⟩
/-! ### dicts of numbers -/
def eDg {α : Type} (enc : α → PV) (d : List (Nat × α)) : List (Key × PV) := d.map fun p => (.inl ((p.1 : Nat) : Int), enc p.2)
abbrev eD (d : List (Nat × Nat)) : List (Key × PV) := eDg (fun i => PV.int (i : Nat)) d
theorem key_inj {a b : Nat} : ((Sum.inl ((a : Nat) : Int) : Key) = Sum.inl ((b : Nat) : Int)) ↔ a = b := ⟨fun h => by injection h with h; omega, fun h => by rw [h]⟩
theorem lookK_D {α : Type} {enc : α → PV} {d : List (Nat × α)} {k : Nat} : lookK (eDg enc d) (.inl ((k : Nat) : Int)) = (look d k).map enc := by
  induction d with
  | nil => rfl
  | cons p d ih =>
    rw [look_cons]
    unfold lookK eDg
    rw [List.map_cons, List.find?_cons]
    by_cases h : p.1 = k
    · rw [if_pos h, decide_eq_true (key_inj.mpr h)]; rfl
    · rw [if_neg h, decide_eq_false (fun z => h (key_inj.mp z))]
      exact ih
theorem putP_D {α : Type} {enc : α → PV} {d : List (Nat × α)} {k : Nat} {v : α} : putP (eDg enc d) (.inl ((k : Nat) : Int)) (enc v) = eDg enc (put d k v) := by
  have ea : ((eDg enc d).any fun kv => decide (kv.1 = .inl ((k : Nat) : Int))) = d.any fun p => decide (p.1 = k) := by
    unfold eDg
    rw [List.any_map]
    congr 1
    funext p
    exact decide_eq_decide.mpr key_inj
  unfold putP put
  rw [ea]
  by_cases h : (d.any fun p => decide (p.1 = k)) = true
  · rw [if_pos h, if_pos h]
    unfold eDg
    rw [List.map_map, List.map_map]
    refine List.map_congr_left fun p _ => ?_
    show (if (Sum.inl ((p.1 : Nat) : Int) : Key) = Sum.inl ((k : Nat) : Int) then _ else _) = _
    by_cases e : p.1 = k
    · rw [if_pos (key_inj.mpr e)]; simp [e]
    · rw [if_neg (fun z => e (key_inj.mp z))]; simp [e]
  · rw [if_neg h, if_neg h]
    unfold eDg
    rw [List.map_append]; rfl
theorem eDg_len {α : Type} {enc : α → PV} {d : List (Nat × α)} : (eDg enc d).length = d.length := by unfold eDg; rw [List.length_map]
theorem in_D {α : Type} {enc : α → PV} {d : List (Nat × α)} {k h : Nat} {st : Store} (e : st[h]? = some (.dic (eDg enc d))) : inP st (.int (k : Nat)) (.loc h) = some (decide (k ∈ keysD d)) := by
  unfold inP
  simp only
  rw [e]
  simp only [PV.key]
  rw [lookK_D]
  congr 1
  by_cases hk : k ∈ keysD d
  · obtain ⟨v, hv⟩ := look_some.mpr hk
    rw [hv, decide_eq_true hk]; rfl
  · rw [look_none.mpr hk, decide_eq_false hk]; rfl
theorem ix_D {α : Type} {enc : α → PV} {d : List (Nat × α)} {k h : Nat} {v : α} {st : Store} {Q : PV → Store → Prop} (e : st[h]? = some (.dic (eDg enc d))) (hk : look d k = some v) (q : Q (enc v) st) : Wo (ixP (.loc h) (.int (k : Nat)) st) Q := by
  refine ⟨_, _, ?_, q⟩
  simp only [ixP]
  rw [e]
  simp only
  rw [lookK_D, hk]; rfl
theorem st_D {α : Type} {enc : α → PV} {d : List (Nat × α)} {k h : Nat} {v : α} {st : Store} {Q : Store → Prop} (e : st[h]? = some (.dic (eDg enc d))) (hl : d.length < LIM) (q : Q (st.set h (.dic (eDg enc (put d k v))))) : ∃ st3, stP (.loc h) (.int (k : Nat)) (enc v) st = some st3 ∧ Q st3 := by
  refine ⟨_, ?_, q⟩
  simp only [stP]
  rw [e]
  simp only [PV.key]
  rw [if_pos (by rw [eDg_len]; exact hl), putP_D]
theorem mt_get {α : Type} {enc : α → PV} {d : List (Nat × α)} {k h : Nat} {st : Store} {Q : PV → Store → Prop} (e : st[h]? = some (.dic (eDg enc d))) (q : Q (((look d k).map enc).getD .non) st) : Wo (methP .get (.loc h) [.int (k : Nat)] st) Q := by
  refine ⟨_, _, ?_, q⟩
  simp only [methP]
  rw [e]
  simp only [PV.key]
  rw [lookK_D]
theorem recv_get {h : Nat} {st : Store} {kvs : List (Key × PV)} (e : st[h]? = some (.dic kvs)) : recvP .get (.loc h) st = true := by simp only [recvP]; rw [e]
theorem keyInts_D {α : Type} {enc : α → PV} (d : List (Nat × α)) : keyInts (eDg enc d) = some (toI (keysD d)) := by
  induction d with
  | nil => rfl
  | cons p d ih =>
    show keyInts ((.inl _, _) :: eDg enc d) = _
    rw [keyInts, ih]; rfl
theorem bi_sorted_dic {α : Type} {enc : α → PV} {d : List (Nat × α)} {h : Nat} {st : Store} {Q : PV → Store → Prop} (e : st[h]? = some (.dic (eDg enc d))) (hl : d.length < 64) (q : Q (.loc st.length) (st ++ [.lst (eN (srt (keysD d)))])) : Wo (biP .sorted [.loc h] st) Q := by
  refine ⟨_, _, ?_, q⟩
  simp only [biP, sortP]
  rw [e]
  simp only
  rw [keyInts_D]
  simp only
  rw [if_pos (by rw [List.length_map, List.length_map]; exact hl), isortI_nat, eN_toI]
theorem cut_from {α : Type} {xs : List α} {i : Nat} : cutP xs (some ((i : Nat) : Int)) none = xs.drop i := by
  unfold cutP
  rw [HT.sIx_nat, HT.sIx_none]
  by_cases h : i ≤ xs.length
  · rw [Nat.min_eq_left h]
    rw [List.take_of_length_le (by rw [List.length_drop]; exact Nat.le_refl _)]
  · rw [Nat.min_eq_right (by omega), List.drop_length, List.drop_eq_nil_of_le (by omega), List.take_nil]
theorem cut_to {α : Type} {xs : List α} {i : Nat} : cutP xs none (some ((i : Nat) : Int)) = xs.take i := by
  unfold cutP
  rw [HT.sIx_nat, HT.sIx_none, List.drop_zero, Nat.sub_zero]
  by_cases h : i ≤ xs.length
  · rw [Nat.min_eq_left h]
  · rw [Nat.min_eq_right (by omega), List.take_of_length_le (Nat.le_refl _), List.take_of_length_le (by omega)]
theorem sl_loc {xs : List PV} {l : Nat} {lo hi : Option Int} {st : Store} {Q : PV → Store → Prop} (e : st[l]? = some (.lst xs)) (q : Q (.loc st.length) (st ++ [.lst (cutP xs lo hi)])) : Wo (slP (.loc l) lo hi st) Q := ⟨_, _, by simp only [slP]; rw [e], q⟩
theorem sl_tup {xs : List PV} {lo hi : Option Int} {st : Store} {Q : PV → Store → Prop} (q : Q (.tup (cutP xs lo hi)) st) : Wo (slP (.tup xs) lo hi st) Q := ⟨_, _, rfl, q⟩
theorem ext_of_get {a b : Store} (h : ∀ (l : Nat) (o : MO), a[l]? = some o → b[l]? = some o) : Ext a b := by
  refine ⟨b.drop a.length, ?_⟩
  have : b.take a.length = a := by
    refine List.ext_getElem? fun i => ?_
    rw [List.getElem?_take]
    by_cases hi : i < a.length
    · rw [if_pos hi, List.getElem?_eq_getElem hi]
      exact h i _ (List.getElem?_eq_getElem hi)
    · rw [if_neg hi, List.getElem?_eq_none (by omega)]
  conv => lhs; rw [← List.take_append_drop a.length b, this]
theorem _root_.Mi.Ext.set {a b : Store} (h : Ext a b) {l : Nat} {o : MO} (hl : a.length ≤ l) : Ext a (b.set l o) := by
  refine ext_of_get fun i o' e => ?_
  have hi := (List.getElem?_eq_some_iff.mp e).1
  rw [List.getElem?_set_ne (by omega)]
  exact h.get e
theorem get_set_self {st : Store} {l : Nat} {o o' : MO} (h : st[l]? = some o) : (st.set l o')[l]? = some o' := by
  rw [List.getElem?_set_self (List.getElem?_eq_some_iff.mp h).1]
theorem get_set_ne {st : Store} {l l' : Nat} {o o' : MO} (h : st[l]? = some o) (hn : l' ≠ l) : (st.set l' o')[l]? = some o := by
  rw [List.getElem?_set_ne hn]; exact h
theorem get_lt {st : Store} {l : Nat} {o : MO} (h : st[l]? = some o) : l < st.length := (List.getElem?_eq_some_iff.mp h).1
end Mi.K32

namespace Mi.K32
open PySem PySem.Spec PyProof.Rows L2 Mi
variable {N : Nat}
local macro_rules | `(tactic| trivial) => `(tactic| simp only [wi_sn, wi_sq, wi_as, wi_asl, wi_pr2, wi_pr3, wi_ex, wi_cnd, wi_re, wi_rn, wi_br, wi_ct, wi_pa, th_nx, th_rt, th_bk, th_cn, ret_rt, ret_nx, we_bl, wb_ac, wb_last, we_cm, we_v, we_tp, we_ls, wa_an, wa_ac, we_nt, we_isi, we_ch, we_k, we_g, we_bi, we_nb, we_ca, we_ix, we_bo, we_ie, we_mth, we_sl, wop_no, wop_it, we_d0, wt_an, wt_ac, wg_tn, wg_tt, wg_ts, wgs_ac, wgs_an, tr_bl, List.getElem?_cons_zero, List.getElem?_cons_succ, List.set_cons_zero, List.set_cons_succ, Option.some.injEq, exists_eq_left', List.length_cons, List.length_nil, List.map_cons, List.map_nil, wipeP, Bool.not_true, Bool.not_false, reduceIte, Bool.false_eq_true, and_true, true_and])
def WEnd (F : Nat → Nat → Bool) (n : Nat) (H : List (Nat × Nat)) (i : Nat) (came : List (Nat × Nat)) (line : List Nat) : Option Nat → Prop
  | none => Wk F n H i came line ∧ Shut F n came line
  | some s => ∃ came0 k, came = came0 ++ [(s, k)] ∧ Wk F n H i came0 line ∧ k ∈ line ∧ s ∉ keysD came0 ∧ s < n ∧ F k s = true ∧ look H s = none
theorem tr_go {st : Store} {b : Bool} {Q : Bool → Prop} (h : Q b) : Tr st (.bl b) Q := tr_bl.mpr h
set_option maxHeartbeats 1000000 in
theorem ev_walked {k i h : Nat} {seats pool : List Let} {H : List (Nat × Nat)} {st : Store} (hs : Good 40 seats) (hp : pool.length ≤ 200) (hi : i < pool.length) (hH : ∀ s k, look H s = some k → k < pool.length) (hh : st[h]? = some (.dic (eD H))) (hN : 100 < N) : Wo (evF T N (k + 2) "walked" [eP seats, eP pool, .loc h, .int (i : Nat)] st) fun x st' => ∃ free came line c q, x = .tup [eO free, .loc c, .loc q] ∧ st'[c]? = some (.dic (eD came)) ∧ st'[q]? = some (.lst (eN line)) ∧ st.length ≤ c ∧ st.length ≤ q ∧ Ext st st' ∧ WEnd (FF seats pool) seats.length H i came line free := by
  refine wf (d := d_walked) (hT e_walked (List.mem_of_getElem? (i := 23) rfl)) rfl ?_
  show WS _ _ b_walked [some (eP seats), some (eP pool), some (.loc h), some (.int (i : Nat)), none, none, none, none, none] _ _
  unfold b_walked
  have hn := hs.2
  have hhl := get_lt hh
  trivial
  refine ⟨show 1 ≤ LIM by decide, ?_⟩
  have eC : (st ++ [MO.lst [PV.int (i : Nat)]]).length = st.length + 1 := by simp
  rw [eC]
  refine ws_wh (fun m ρ s => ∃ at_ came line a b, ρ = [some (eP seats), some (eP pool), some (.loc h), some (.int (i : Nat)), some (.loc st.length), some (.loc (st.length + 1)), some (.int (at_ : Nat)), a, b] ∧ s[st.length]? = some (.lst (eN line)) ∧ s[st.length + 1]? = some (.dic (eD came)) ∧ Ext st s ∧ Wk (FF seats pool) seats.length H i came line ∧ at_ ≤ line.length ∧ (∀ j, j < at_ → ∀ k', line[j]? = some k' → ∀ s', s' < seats.length → FF seats pool k' s' = true → s' ∈ keysD came) ∧ (∀ k' ∈ line, k' < pool.length) ∧ m = seats.length + 2 - at_) (n := seats.length + 2) ⟨0, [], [i], none, none, rfl, ?_, ?_, (Ext.new1 _).new _, Wk.begun, Nat.zero_le _, fun j hj => by omega, fun k' hk' => ?_, rfl⟩ (by omega) ?_
  · exact (Ext.new1 _).get new_get
  · rw [← eC]; exact new_get
  · simp at hk'; omega
  rintro m ρ s ⟨at_, came, line, a, b, rfl, gl, gc, hx, w, hat, hdone, hlp, rfl⟩
  trivial
  refine bi_len_loc gl (cmp_lt ?_)
  rw [eN_len]
  have hsz := w.size
  have hln := w.len
  by_cases hlt : at_ < line.length
  case neg =>
    rw [decide_eq_false (by omega)]
    trivial
    refine ⟨show 3 ≤ LIM by decide, none, came, line, st.length + 1, st.length, rfl, gc, gl, by omega, Nat.le_refl _, hx, w, fun k' hk' s' hs' hf => ?_⟩
    obtain ⟨j, hj, e⟩ := List.mem_iff_getElem.mp hk'
    exact hdone j (by omega) k' (by rw [List.getElem?_eq_getElem hj, e]) s' hs' hf
  case pos =>
    rw [decide_eq_true (by omega)]
    trivial
    obtain ⟨k0, hk0⟩ : ∃ k0, line[at_]? = some k0 := ⟨_, List.getElem?_eq_getElem hlt⟩
    have hk0p : k0 < pool.length := hlp k0 (List.mem_of_getElem? hk0)
    refine ws_fo_n (enc := enE seats) seats.length (fun j ρ s => ∃ came line a b, ρ = [some (eP seats), some (eP pool), some (.loc h), some (.int (i : Nat)), some (.loc st.length), some (.loc (st.length + 1)), some (.int (at_ : Nat)), a, b] ∧ s[st.length]? = some (.lst (eN line)) ∧ s[st.length + 1]? = some (.dic (eD came)) ∧ Ext st s ∧ Wk (FF seats pool) seats.length H i came line ∧ line[at_]? = some k0 ∧ (∀ j, j < at_ → ∀ k', line[j]? = some k' → ∀ s', s' < seats.length → FF seats pool k' s' = true → s' ∈ keysD came) ∧ (∀ k' ∈ line, k' < pool.length) ∧ ∀ s', s' < j → FF seats pool k0 s' = true → s' ∈ keysD came) (wi_en ?_)
    trivial
    refine ⟨_, rfl, en_map seats, ⟨came, line, a, b, rfl, gl, gc, hx, w, hk0, hdone, hlp, fun s' hs' => by omega⟩, ?_, ?_, ?_⟩
    · rintro j ρ s ⟨came, line, a, b, rfl, _⟩; rfl
    · clear gl gc hx w hat hdone hlp hsz hln hlt hk0
      rintro j ρ s hj ⟨came, line, a, b, rfl, gl, gc, hx, w, hk0, hdone, hlp, hin⟩
      unfold enE
      trivial
      have hhs := hx.get hh
      refine cmp_nin (in_D gc) ?_
      by_cases hjc : j ∈ keysD came
      · rw [decide_eq_true hjc]
        trivial
        refine ⟨came, line, _, _, rfl, gl, gc, hx, w, hk0, hdone, hlp, fun s' hs' hf => ?_⟩
        by_cases e : s' = j
        · rw [e]; exact hjc
        · exact hin s' (by omega) hf
      · rw [decide_eq_false hjc]
        trivial
        have gk : (eN line)[at_]? = some (.int (k0 : Nat)) := by unfold eN; rw [List.getElem?_map, hk0]; rfl
        refine ix_loc gl gk (ix_P hk0p (wo_mono (ev_fits (okL_of (getD_ok hs.1 j))) fun r s1 ⟨e1, x1⟩ => ?_))
        subst e1
        trivial
        have gl1 := x1.get gl
        have gc1 := x1.get gc
        have hx1 := hx.trans x1
        cases hf : fitsP (pool.getD k0 []) (seats.getD j []) with
        | false =>
          trivial
          refine ⟨came, line, _, _, rfl, gl1, gc1, hx1, w, hk0, hdone, hlp, fun s' hs' hf' => ?_⟩
          by_cases e : s' = j
          · rw [e] at hf'
            have : FF seats pool k0 j = false := hf
            rw [this] at hf'; cases hf'
          · exact hin s' (by omega) hf'
        | true =>
          trivial
          have hcl : came.length < LIM := lim_small (by have := w.size; omega)
          refine ix_loc gl1 gk (st_D (v := k0) (enc := fun i => PV.int (i : Nat)) gc1 hcl ?_)
          rw [put_new hjc]
          have gl2 := get_set_ne (o' := .dic (eD (came ++ [(j, k0)]))) (l' := st.length + 1) gl1 (by omega)
          have gc2 := get_set_self (o' := .dic (eD (came ++ [(j, k0)]))) gc1
          have hx2 : Ext st (s1.set (st.length + 1) (.dic (eD (came ++ [(j, k0)])))) := hx1.set (by omega)
          refine cmp_nin (in_D (hx2.get hh)) ?_
          have hk0m : k0 ∈ line := List.mem_of_getElem? hk0
          by_cases hjH : j ∈ keysD H
          · rw [decide_eq_true hjH]
            trivial
            obtain ⟨k', hk'⟩ := look_some.mpr hjH
            refine ⟨recv_append gl2, ix_D (hx2.get hh) hk' (mt_append gl2 (by rw [eN_len]; exact lim_small (by have := w.size; have := w.len; omega)) ?_)⟩
            have e5 : eN line ++ [PV.int (k' : Nat)] = eN (line ++ [k']) := eN_snoc _ _
            rw [e5]
            refine ⟨came ++ [(j, k0)], line ++ [k'], _, _, rfl, get_set_self gl2, get_set_ne gc2 (by omega), hx2.set (Nat.le_refl _), w.more hjc hk0m hj hf hk', ?_, ?_, ?_, ?_⟩
            · rw [List.getElem?_append_left (List.getElem?_eq_some_iff.mp hk0).1]; exact hk0
            · intro j' hj' k'' e s' hs' hf'
              have : j' < line.length := by have := (List.getElem?_eq_some_iff.mp hk0).1; omega
              rw [List.getElem?_append_left this] at e
              rw [keysD, List.map_append]
              exact List.mem_append_left _ (hdone j' hj' k'' e s' hs' hf')
            · intro k'' hk''
              rcases List.mem_append.mp hk'' with hk'' | hk''
              · exact hlp k'' hk''
              · simp at hk''; rw [hk'']; exact hH j k' hk'
            · intro s' hs' hf'
              rw [keysD, List.map_append]
              by_cases e : s' = j
              · exact List.mem_append_right _ (by simp [e])
              · exact List.mem_append_left _ (hin s' (by omega) hf')
          · rw [decide_eq_false hjH]
            trivial
            exact ⟨show 3 ≤ LIM by decide, some j, came ++ [(j, k0)], line, st.length + 1, st.length, rfl, gc2, gl2, by omega, Nat.le_refl _, hx2, came, k0, rfl, w, hk0m, hjc, hj, hf, look_none.mpr hjH⟩
    · clear gl gc hx w hat hdone hlp hsz hln hlt hk0
      rintro ρ s ⟨came, line, a, b, rfl, gl, gc, hx, w, hk0, hdone, hlp, hin⟩
      have hsz := w.size
      have hln := w.len
      have hlt := (List.getElem?_eq_some_iff.mp hk0).1
      refine ws_add ⟨(at_ : Nat), rfl, ?_⟩
      trivial
      refine ⟨1, rfl, seats.length + 2 - (at_ + 1), by omega, at_ + 1, came, line, a, b, ?_, gl, gc, hx, w, hlt, ?_, hlp, rfl⟩
      · simp only [List.cons.injEq, Option.some.injEq, PV.int.injEq, true_and, and_true]; omega
      · intro j' hj' k' e s' hs' hf'
        by_cases ej : j' = at_
        · subst ej
          rw [hk0] at e
          cases e
          exact hin s' hs' hf'
        · exact hdone j' (by omega) k' e s' hs' hf'
end Mi.K32

namespace Mi.K32
open PySem PySem.Spec PyProof.Rows L2 Mi
variable {N : Nat}
local macro_rules | `(tactic| trivial) => `(tactic| simp only [wi_sn, wi_sq, wi_as, wi_asl, wi_pr2, wi_pr3, wi_ex, wi_cnd, wi_re, wi_rn, wi_br, wi_ct, wi_pa, th_nx, th_rt, th_bk, th_cn, ret_rt, ret_nx, we_bl, wb_ac, wb_last, we_cm, we_v, we_tp, we_ls, wa_an, wa_ac, we_nt, we_isi, we_ch, we_k, we_g, we_bi, we_nb, we_ca, we_ix, we_bo, we_ie, we_mth, we_sl, wop_no, wop_it, we_d0, wt_an, wt_ac, wg_tn, wg_tt, wg_ts, wgs_ac, wgs_an, tr_bl, List.getElem?_cons_zero, List.getElem?_cons_succ, List.set_cons_zero, List.set_cons_succ, Option.some.injEq, exists_eq_left', List.length_cons, List.length_nil, List.map_cons, List.map_nil, wipeP, Bool.not_true, Bool.not_false, reduceIte, Bool.false_eq_true, and_true, true_and])
theorem isnot_int {st : Store} {i : Int} {Q : Bool → Prop} (h : Q true) : ∃ c, cmp .IsNot st (.int i) .non = some c ∧ Q c := ⟨true, rfl, h⟩
theorem isnot_non {st : Store} {Q : Bool → Prop} (h : Q false) : ∃ c, cmp .IsNot st .non .non = some c ∧ Q c := ⟨false, rfl, h⟩
/-- the keys stand once each, and are small -/
def Ky (n : Nat) (H : List (Nat × Nat)) : Prop := (keysD H).Nodup ∧ ∀ x ∈ keysD H, x < n
theorem Ky.put {n k v : Nat} {H : List (Nat × Nat)} (h : Ky n H) (hk : k < n) : Ky n (put H k v) := ⟨keys_put_nodup h.1, fun x hx => by
  rw [keys_put] at hx
  by_cases e : k ∈ keysD H
  · rw [if_pos e] at hx; exact h.2 x hx
  · rw [if_neg e] at hx
    rcases List.mem_append.mp hx with hx | hx
    · exact h.2 x hx
    · simp at hx; omega⟩
theorem Ky.len {n : Nat} {H : List (Nat × Nat)} (h : Ky n H) : H.length ≤ n := by
  have := nodup_len_le h.1 h.2
  rwa [keysD, List.length_map] at this
theorem ev_shifted {F : Nat → Nat → Bool} {n m i h p c k s k0 : Nat} {H P came : List (Nat × Nat)} {st : Store} (M : Mat F n H P) (hi : look P i = none) (hin : i < m) (w : Way F n H i (came ++ [(s, k0)])) (hs : look H s = none) (KH : Ky n H) (KP : Ky m P) (hn : n ≤ 1000) (hm : m ≤ 1000)
    (gh : st[h]? = some (.dic (eD H))) (gp : st[p]? = some (.dic (eD P))) (gc : st[c]? = some (.dic (eD (came ++ [(s, k0)])))) (hp : h ≠ p) (hc : h ≠ c) (pc : p ≠ c) (hN : n + 1 < N) :
    Wo (evF T N (k + 1) "shifted" [.loc h, .loc p, .loc c, .int (s : Nat)] st) fun x st' => x = .non ∧ ∃ H' P', st'[h]? = some (.dic (eD H')) ∧ st'[p]? = some (.dic (eD P')) ∧ Mat F n H' P' ∧ Ky n H' ∧ Ky m P' ∧ keysD P' = keysD P ++ [i] ∧ ∀ (l : Nat) (o : MO), l ≠ h → l ≠ p → st[l]? = some o → st'[l]? = some o := by
  refine wf (d := d_shifted) (hT e_shifted (List.mem_of_getElem? (i := 24) rfl)) rfl ?_
  show WS _ _ b_shifted [some (.loc h), some (.loc p), some (.loc c), some (.int (s : Nat)), none, none] _ _
  unfold b_shifted
  have hsz : came.length + 1 ≤ n := by
    have := nodup_len_le w.nod fun x hx => by
      obtain ⟨q, hq, e⟩ := List.mem_map.mp hx
      obtain ⟨pre, post, e2⟩ := List.append_of_mem hq
      have := (w.ok pre q.1 q.2 post e2).1
      rw [← e]; exact this
    simpa [keysD] using this
  trivial
  refine ws_wh (fun m' ρ st' => ∃ H' P' cur a b, ρ = [some (.loc h), some (.loc p), some (.loc c), some (eO cur), a, b] ∧ st'[h]? = some (.dic (eD H')) ∧ st'[p]? = some (.dic (eD P')) ∧ (∀ (l : Nat) (o : MO), l ≠ h → l ≠ p → st[l]? = some o → st'[l]? = some o) ∧ Ky n H' ∧ Ky m P' ∧ match cur with
    | none => Mat F n H' P' ∧ keysD P' = keysD P ++ [i] ∧ m' = 0
    | some s1 => ∃ pre k1, Sh F n H P i (came ++ [(s, k0)]) pre s1 k1 H' P' ∧ m' = pre.length + 1) (n := came.length + 1) ⟨H, P, some s, none, none, rfl, gh, gp, fun _ _ _ _ h => h, KH, KP, came, k0, Sh.begun M hi hs, rfl⟩ (by omega) ?_
  rintro m' ρ st' ⟨H', P', cur, a, b, rfl, gh', gp', hrest, KH', KP', hcur⟩
  have gc' := hrest c _ (fun z => hc z.symm) (fun z => pc z.symm) gc
  cases cur with
  | none =>
    obtain ⟨h1, h2, rfl⟩ := hcur
    trivial
    refine isnot_non ?_
    trivial
    exact ⟨H', P', gh', gp', h1, KH', KP', h2, hrest⟩
  | some s1 =>
    obtain ⟨pre, k1, sh, rfl⟩ := hcur
    obtain ⟨post, e⟩ := sh.sp
    obtain ⟨w1, w2, w3⟩ := w.ok pre s1 k1 post e
    show WE _ _ _ _ _
    trivial
    refine isnot_int ?_
    trivial
    have hk1 : look (came ++ [(s, k0)]) s1 = some k1 := look_of_mem w.nod (by rw [e]; simp)
    have hk1m : k1 < m := by
      by_cases e1 : k1 = i
      · rw [e1]; exact hin
      · rcases w3 with w3 | ⟨s', _, w3⟩
        · exact absurd w3 e1
        · exact KP.2 _ (look_some.mp ⟨_, (M.hp s' k1).mp w3⟩)
    refine ix_D gc' hk1 ⟨recv_get gp', mt_get gp' ?_⟩
    refine st_D (v := k1) (enc := fun i => PV.int (i : Nat)) gh' (lim_small (by have := KH'.len; omega)) ?_
    refine st_D (v := s1) (enc := fun i => PV.int (i : Nat)) (get_set_ne gp' hp) (lim_small (by have := KP'.len; omega)) ?_
    have gh2 : ((st'.set h (.dic (eD (put H' s1 k1)))).set p (.dic (eD (put P' k1 s1))))[h]? = some (.dic (eD (put H' s1 k1))) := get_set_ne (get_set_self gh') (fun z => hp z.symm)
    have gp2 : ((st'.set h (.dic (eD (put H' s1 k1)))).set p (.dic (eD (put P' k1 s1))))[p]? = some (.dic (eD (put P' k1 s1))) := get_set_self (get_set_ne gp' hp)
    have rest2 : ∀ (l : Nat) (o : MO), l ≠ h → l ≠ p → st[l]? = some o → ((st'.set h (.dic (eD (put H' s1 k1)))).set p (.dic (eD (put P' k1 s1))))[l]? = some o := fun l o h1 h2 e => get_set_ne (get_set_ne (hrest l o h1 h2 e) (fun z => h1 z.symm)) (fun z => h2 z.symm)
    by_cases e1 : k1 = i
    · obtain ⟨q1, q2⟩ := sh.last w e1
      have : look P' k1 = none := by rw [e1]; exact sh.bi
      rw [this]
      exact ⟨0, by omega, put H' s1 k1, put P' k1 s1, none, _, _, rfl, gh2, gp2, rest2, KH'.put w1, KP'.put hk1m, q1, q2, rfl⟩
    · obtain ⟨pre', s', k', q1, q2, q3⟩ := Sh.next M hi sh w e1
      rw [q2]
      exact ⟨pre'.length + 1, by omega, put H' s1 k1, put P' k1 s1, some s', _, _, rfl, gh2, gp2, rest2, KH'.put w1, KP'.put hk1m, pre', k', q3, rfl⟩
end Mi.K32

namespace Mi.K32
open PySem PySem.Spec PyProof.Rows L2 Mi
variable {N : Nat}
local macro_rules | `(tactic| trivial) => `(tactic| simp only [wi_sn, wi_sq, wi_as, wi_asl, wi_pr2, wi_pr3, wi_ex, wi_cnd, wi_re, wi_rn, wi_br, wi_ct, wi_pa, th_nx, th_rt, th_bk, th_cn, ret_rt, ret_nx, we_bl, wb_ac, wb_last, we_cm, we_v, we_tp, we_ls, wa_an, wa_ac, we_nt, we_isi, we_ch, we_k, we_g, we_bi, we_nb, we_ca, we_ix, we_bo, we_ie, we_mth, we_sl, wop_no, wop_it, we_d0, wt_an, wt_ac, wg_tn, wg_tt, wg_ts, wgs_ac, wgs_an, tr_bl, List.getElem?_cons_zero, List.getElem?_cons_succ, List.set_cons_zero, List.set_cons_succ, Option.some.injEq, exists_eq_left', List.length_cons, List.length_nil, List.map_cons, List.map_nil, wipeP, Bool.not_true, Bool.not_false, reduceIte, Bool.false_eq_true, and_true, true_and])
/-- the refused letters -/
def rfs (can : List Nat → Bool) (j : Nat) : List Nat := (List.range j).filter fun x => !can (grd can x ++ [x])
theorem rfs_succ {can : List Nat → Bool} {j : Nat} : rfs can (j + 1) = if can (grd can j ++ [j]) = true then rfs can j else rfs can j ++ [j] := by
  unfold rfs
  rw [List.range_succ, List.filter_append]
  by_cases h : can (grd can j ++ [j]) = true
  · rw [if_pos h]; simp [h]
  · rw [if_neg h]
    have : can (grd can j ++ [j]) = false := by simpa using h
    simp [this]
theorem rfs_lt {can : List Nat → Bool} {j x : Nat} (h : x ∈ rfs can j) : x < j := List.mem_range.mp (List.mem_filter.mp h).1
theorem rfs_iff {can : List Nat → Bool} {j x : Nat} : x ∈ rfs can j ↔ x < j ∧ x ∉ grd can j := by
  unfold rfs
  rw [List.mem_filter, List.mem_range]
  constructor
  · rintro ⟨h1, h2⟩
    refine ⟨h1, fun z => ?_⟩
    rw [(grd_mem h1).mp z] at h2
    cases h2
  · rintro ⟨h1, h2⟩
    refine ⟨h1, ?_⟩
    cases e : can (grd can x ++ [x]) with
    | false => rfl
    | true => exact absurd ((grd_mem h1).mpr e) h2
theorem rfs_eq {can : List Nat → Bool} {j : Nat} : rfs can j = (List.range j).filter fun x => decide (x ∉ grd can j) := by
  unfold rfs
  refine List.filter_congr fun x hx => ?_
  rw [Bool.eq_iff_iff, decide_eq_true_eq, grd_mem (List.mem_range.mp hx)]
  simp
theorem rfs_sorted {can : List Nat → Bool} {j : Nat} : (rfs can j).Pairwise (· < ·) := List.Pairwise.filter _ List.pairwise_lt_range
structure LF (seats pool : List Let) (r : Nat) : Prop where
  fit : fitN seats pool (lotOf (canB seats pool) r ++ [r]) = (lotOf (canB seats pool) r).length
  lean : leanF (canB seats pool) r (grd (canB seats pool) r) (grd (canB seats pool) r) = lotOf (canB seats pool) r
theorem lf_of {seats pool : List Let} {H P : List (Nat × Nat)} {j : Nat} {came : List (Nat × Nat)} {line : List Nat} (w : Wk (FF seats pool) seats.length H j came line) (c : Shut (FF seats pool) seats.length came line) (m : Mat (FF seats pool) seats.length H P) (o : Of (canB seats pool) j P) : LF seats pool j where
  fit := by
    have pm := lot_perm w c m o (tells seats pool)
    have := fit_count w c m (q := fun s => (lotOf (canB seats pool) j ++ [j]).any fun i => FF seats pool i s) fun s _ => by
      rw [List.any_eq_true]
      constructor
      · rintro ⟨k, hk, hf⟩
        refine ⟨k, pm.mem_iff.mp ?_, hf⟩
        rcases List.mem_append.mp hk with hk | hk
        · exact List.mem_cons_of_mem _ hk
        · simp at hk; rw [hk]; exact List.mem_cons_self
      · rintro ⟨k, hk, hf⟩
        refine ⟨k, ?_, hf⟩
        rcases List.mem_cons.mp (pm.mem_iff.mpr hk) with hk | hk
        · exact List.mem_append_right _ (by simp [hk])
        · exact List.mem_append_left _ hk
    have hl := pm.length_eq
    rw [List.length_cons] at hl
    unfold fitN
    omega
  lean := lot_lean w c m o (tells seats pool)
theorem wk_head {F : Nat → Nat → Bool} {n i : Nat} {H came : List (Nat × Nat)} {line : List Nat} (w : Wk F n H i came line) : ∃ r, line = i :: r := by
  have := w.ln
  cases line with
  | nil => cases this
  | cons x r =>
    rw [List.map_cons] at this
    injection this with h1 h2
    injection h1 with h1
    exact ⟨r, by rw [h1]⟩
theorem srt_line {seats pool : List Let} {H P : List (Nat × Nat)} {j : Nat} {came : List (Nat × Nat)} {line : List Nat} (w : Wk (FF seats pool) seats.length H j came line) (c : Shut (FF seats pool) seats.length came line) (m : Mat (FF seats pool) seats.length H P) (o : Of (canB seats pool) j P) : srt (line.drop 1) = lotOf (canB seats pool) j := by
  obtain ⟨r, e⟩ := wk_head w
  have nd := w.nodup m o.none
  have nd' := nd
  rw [e, List.nodup_cons] at nd'
  rw [e]
  refine sorted_ext (srt_lt nd'.2) lotOf_sorted fun x => ?_
  rw [srt_mem, mem_lotOf w c m o (tells seats pool), e, List.mem_cons]
  constructor
  · intro h
    exact ⟨.inr h, fun z => nd'.1 (z ▸ h)⟩
  · rintro ⟨h | h, h'⟩
    · exact absurd h h'
    · exact h
abbrev eT (l : List Nat) : PV := .tup (eN l)
structure All (seats pool : List Let) (j : Nat) (H P : List (Nat × Nat)) (L : List (Nat × List Nat)) : Prop where
  m : Mat (FF seats pool) seats.length H P
  kh : Ky seats.length H
  kp : Ky pool.length P
  o : Of (canB seats pool) j P
  l : L = (rfs (canB seats pool) j).map fun r => (r, lotOf (canB seats pool) r)
  f : ∀ r ∈ rfs (canB seats pool) j, LF seats pool r
theorem ev_seat_all {k : Nat} {seats pool : List Let} {st : Store} (hs : Good 40 seats) (hp : Good 60 pool) (hN : 100 < N) : Wo (evF T N (k + 3) "seat_all" [eP seats, eP pool] st) fun x st' => ∃ H P L p l, x = .tup [.loc p, .loc l] ∧ st'[p]? = some (.dic (eD P)) ∧ st'[l]? = some (.dic (eDg eT L)) ∧ Ext st st' ∧ All seats pool pool.length H P L := by
  refine wf (d := d_seat_all) (hT e_seat_all (List.mem_of_getElem? (i := 30) rfl)) rfl ?_
  show WS _ _ b_seat_all [some (eP seats), some (eP pool), none, none, none, none, none, none, none] _ _
  unfold b_seat_all
  have hsl := hs.2
  have hpl := hp.2
  trivial
  have e1 : (st ++ [MO.dic []]).length = st.length + 1 := by simp
  have e2 : (st ++ [MO.dic []] ++ [MO.dic []]).length = st.length + 2 := by simp
  rw [e2, e1]
  refine ws_fo_n (enc := fun i => PV.int (i : Nat)) pool.length (fun j ρ s => ∃ H P L a b c d, ρ = [some (eP seats), some (eP pool), some (.loc st.length), some (.loc (st.length + 1)), some (.loc (st.length + 2)), a, b, c, d] ∧ s[st.length]? = some (.dic (eD H)) ∧ s[st.length + 1]? = some (.dic (eD P)) ∧ s[st.length + 2]? = some (.dic (eDg eT L)) ∧ Ext st s ∧ All seats pool j H P L) (wi_rg1 ?_)
  trivial
  refine bi_len_tup ⟨(pool.length : Nat), by rw [List.length_map], by omega, by rw [Int.toNat_natCast], ⟨[], [], [], none, none, none, none, rfl, ?_, ?_, ?_, ((Ext.new1 _).new _).new _, ?_⟩, ?_, ?_, ?_⟩
  · exact ((Ext.new1 _).new _).get new_get
  · have := ((Ext.new1 (MO.dic [])).get (new_get (st := st ++ [MO.dic []]) (o := MO.dic []))); rw [e1] at this; exact this
  · rw [← e2]; exact new_get
  · exact ⟨⟨fun s k => by simp [look_nil], fun s k h => by simp [look_nil] at h⟩, ⟨List.nodup_nil, fun x hx => by cases hx⟩, ⟨List.nodup_nil, fun x hx => by cases hx⟩, fun k => by simp [look_nil, grd], rfl, fun r hr => by cases hr⟩
  · rintro j ρ s ⟨H, P, L, a, b, c, d, rfl, _⟩; rfl
  · rintro j ρ s hj ⟨H, P, L, a, b, c, d, rfl, gh, gp, gl, hx, A⟩
    trivial
    refine wo_mono (ev_walked (i := j) hs (by omega) hj (fun s k h => A.kp.2 k (look_some.mp ⟨_, (A.m.hp s k).mp h⟩)) gh hN) fun x s1 ⟨free, came, line, c, q, ex, gc, gq, hc, hq, x1, wend⟩ => ?_
    subst ex
    have hlh := get_lt gh
    have hlp := get_lt gp
    have hll := get_lt gl
    trivial
    cases free with
    | none =>
      obtain ⟨w, sh⟩ := wend
      refine ⟨true, rfl, ?_⟩
      trivial
      have e3 : cutP (eN line) (some 1) none = eN (line.drop 1) := by
        rw [show (1 : Int) = ((1 : Nat) : Int) from rfl, cut_from]; unfold eN; rw [List.map_drop]
      have hlen : line.length ≤ 41 := by have := w.len; have := w.size; omega
      refine ⟨1, rfl, sl_loc gq ?_⟩
      rw [e3]
      refine bi_sorted_loc new_get (by rw [List.length_drop]; omega) (bi_tuple_loc new_get ?_)
      rw [srt_line w sh A.m A.o]
      have hx2 := ((x1.new (.lst (eN (line.drop 1)))).new (.lst (eN (lotOf (canB seats pool) j))))
      have hno : canB seats pool (grd (canB seats pool) j ++ [j]) ≠ true := no_more w sh A.m A.o (tells seats pool)
      refine st_D (v := lotOf (canB seats pool) j) (enc := eT) (hx2.get gl) ?_ ?_
      · rw [A.l, List.length_map]
        refine lim_small ?_
        have := List.length_filter_le (fun x => !canB seats pool (grd (canB seats pool) x ++ [x])) (List.range j)
        rw [List.length_range] at this
        unfold rfs; omega
      · refine ⟨H, P, put L j (lotOf (canB seats pool) j), _, _, _, _, rfl, get_set_ne (hx2.get gh) (by omega), get_set_ne (hx2.get gp) (by omega), get_set_self (hx2.get gl), (hx.trans hx2).set (by omega), ⟨A.m, A.kh, A.kp, A.o.go hno, ?_, ?_⟩⟩
        · rw [put_new, A.l, rfs_succ, if_neg hno, List.map_append]; rfl
          rw [A.l, keysD, List.map_map]
          intro z
          obtain ⟨r, hr, e⟩ := List.mem_map.mp z
          have := rfs_lt hr
          have e : r = j := e
          omega
        · rw [rfs_succ, if_neg hno]
          intro r hr
          rcases List.mem_append.mp hr with hr | hr
          · exact A.f r hr
          · simp at hr; rw [hr]; exact lf_of w sh A.m A.o
    | some s0 =>
      obtain ⟨came0, k0, rfl, w, hk0, hs0, hsn, hf, hfree⟩ := wend
      refine ⟨false, rfl, ?_⟩
      trivial
      have gh1 := x1.get gh
      have gp1 := x1.get gp
      have gl1 := x1.get gl
      refine wo_mono (ev_shifted A.m A.o.none hj (w.way hs0 hk0 hsn hf) hfree A.kh A.kp (by omega) (by omega) gh1 gp1 gc (by omega) (by omega) (by omega) (by omega)) fun y s2 ⟨_, H', P', gh2, gp2, M', KH', KP', ek, rest⟩ => ?_
      have hyes : canB seats pool (grd (canB seats pool) j ++ [j]) = true := can_more M' A.o (tells seats pool) ek
      refine ⟨H', P', L, _, _, _, _, rfl, gh2, gp2, rest _ _ (by omega) (by omega) gl1, ext_of_get fun l o e => ?_, ⟨M', KH', KP', A.o.took hyes ek, ?_, ?_⟩⟩
      · have := get_lt e
        exact rest l o (by omega) (by omega) (x1.get (hx.get e))
      · rw [A.l, rfs_succ, if_pos hyes]
      · rw [rfs_succ, if_pos hyes]; exact A.f
  · rintro ρ s ⟨H, P, L, a, b, c, d, rfl, gh, gp, gl, hx, A⟩
    trivial
    exact ⟨show 2 ≤ LIM by decide, H, P, L, _, _, rfl, gp, gl, hx, A⟩
theorem All.keys {seats pool : List Let} {j : Nat} {H P : List (Nat × Nat)} {L : List (Nat × List Nat)} (A : All seats pool j H P L) : srt (keysD P) = grd (canB seats pool) j :=
  sorted_ext (srt_lt A.kp.1) grd_sorted fun x => by rw [srt_mem, ← look_some]; exact A.o x
theorem All.lots {seats pool : List Let} {j : Nat} {H P : List (Nat × Nat)} {L : List (Nat × List Nat)} (A : All seats pool j H P L) : keysD L = rfs (canB seats pool) j := by
  rw [A.l, keysD, List.map_map]
  exact List.map_id _
theorem srt_id {l : List Nat} (h : l.Pairwise (· < ·)) : srt l = l := sorted_ext (srt_lt (h.imp fun h => Nat.ne_of_lt h)) h fun x => srt_mem
theorem ev_best_lot {k : Nat} {seats pool : List Let} {st : Store} (hs : Good 40 seats) (hp : Good 60 pool) (hN : 100 < N) : Wo (evF T N (k + 6) "best_lot" [eP seats, eP pool] st) fun x st' => x = .tup (eN (grd (canB seats pool) pool.length)) ∧ Ext st st' := by
  refine wf (d := d_best_lot) (hT e_best_lot (List.mem_of_getElem? (i := 31) rfl)) rfl ?_
  show WS _ _ b_best_lot [some (eP seats), some (eP pool)] _ _
  unfold b_best_lot
  have hpl := hp.2
  trivial
  refine wo_mono (ev_check hs.1 hs.2 hp.1 (by omega)) fun x s1 ⟨_, x1⟩ => ?_
  refine wo_mono (ev_seat_all hs hp hN) fun x s2 ⟨H, P, L, p, l, e, gp, gl, x2, A⟩ => ?_
  subst e
  refine ix_tup (i := 0) rfl (bi_sorted_dic gp (by have := A.kp.len; omega) (bi_tuple_loc new_get ⟨?_, (x1.trans x2).new _⟩))
  rw [A.keys]
theorem ev_best_paper {k : Nat} {seats pool : List Let} {st : Store} (hs : Good 40 seats) (hp : Good 60 pool) (hN : 100 < N) : Wo (evF T N (k + 6) "best_paper" [eP seats, eP pool] st) fun x st' => ∃ f : Nat → Nat, x = .tup [.str "best", .tup ((grd (canB seats pool) pool.length).map fun k => eQ (k, f k)), .tup ((rfs (canB seats pool) pool.length).map fun r => eR (r, lotOf (canB seats pool) r))] ∧ Sit (FF seats pool) seats.length f (· ∈ grd (canB seats pool) pool.length) ∧ (∀ r ∈ rfs (canB seats pool) pool.length, LF seats pool r) ∧ Ext st st' := by
  refine wf (d := d_best_paper) (hT e_best_paper (List.mem_of_getElem? (i := 32) rfl)) rfl ?_
  show WS _ _ b_best_paper [some (eP seats), some (eP pool), none, none, none, none] _ _
  unfold b_best_paper
  have hpl := hp.2
  trivial
  refine wo_mono (ev_check hs.1 hs.2 hp.1 (by omega)) fun x s1 ⟨_, x1⟩ => ?_
  refine wo_mono (ev_seat_all hs hp hN) fun x s2 ⟨H, P, L, p, l, e, gp, gl, x2, A⟩ => ?_
  subst e
  trivial
  have gll : (grd (canB seats pool) pool.length).length ≤ pool.length := grd_len_le
  have rll : (rfs (canB seats pool) pool.length).length ≤ pool.length := nodup_len_le (rfs_sorted.imp fun h => Nat.ne_of_lt h) fun x hx => rfs_lt hx
  refine we_tuple (wi_it ?_)
  trivial
  refine bi_sorted_dic gp (by have := A.kp.len; omega) ⟨_, new_get, ?_⟩
  rw [A.keys]
  refine wo_mono (loopC_all (xs := grd (canB seats pool) pool.length) (enc := fun i => PV.int (i : Nat)) (Ext (s2 ++ [.lst (eN (grd (canB seats pool) pool.length))])) (fun k => eQ (k, (look P k).getD 0)) (Ext.refl _) (fun s h => decide_eq_true (h.get new_get)) (lim_small (by omega)) fun i hi s3 h3 => ?_) fun ys s3 ⟨e3, x3⟩ => ?_
  · trivial
    obtain ⟨t, ht⟩ := (A.o i).mpr hi
    refine ix_D (v := t) ((Ext.new1 _ |>.trans h3).get gp) ht ⟨show 2 ≤ LIM by decide, ?_, h3⟩
    rw [ht]; rfl
  subst e3
  refine we_tuple (wi_it ?_)
  trivial
  have x3' : Ext s2 s3 := (Ext.new1 _).trans x3
  refine bi_sorted_dic (x3'.get gl) (by have := congrArg List.length A.lots; rw [keysD, List.length_map] at this; omega) ⟨_, new_get, ?_⟩
  rw [A.lots, srt_id rfs_sorted]
  refine wo_mono (loopC_all (xs := rfs (canB seats pool) pool.length) (enc := fun i => PV.int (i : Nat)) (Ext (s3 ++ [.lst (eN (rfs (canB seats pool) pool.length))])) (fun r => eR (r, lotOf (canB seats pool) r)) (Ext.refl _) (fun s h => decide_eq_true (h.get new_get)) (lim_small (by omega)) fun i hi s4 h4 => ?_) fun ys s4 ⟨e4, x4⟩ => ?_
  · trivial
    have hl : look L i = some (lotOf (canB seats pool) i) := look_of_mem (by rw [A.lots]; exact rfs_sorted.imp fun h => Nat.ne_of_lt h) (by rw [A.l]; exact List.mem_map.mpr ⟨i, hi, rfl⟩)
    exact ix_D (((Ext.new1 _).trans h4).get (x3'.get gl)) hl ⟨show 2 ≤ LIM by decide, rfl, h4⟩
  subst e4
  refine ⟨show 3 ≤ LIM by decide, fun k => (look P k).getD 0, rfl, ?_, A.f, ((x1.trans x2).trans x3').trans ((Ext.new1 _).trans x4)⟩
  refine ⟨fun k hk => ?_, fun k k' hk hk' e => ?_⟩
  · obtain ⟨t, ht⟩ := (A.o k).mpr hk
    simp only [ht]
    exact A.m.ft t k ((A.m.hp t k).mpr ht)
  · obtain ⟨t, ht⟩ := (A.o k).mpr hk
    obtain ⟨t', ht'⟩ := (A.o k').mpr hk'
    simp only [ht, ht'] at e
    have e : t = t' := e
    rw [← e] at ht'
    have a := (A.m.hp t k).mpr ht
    have b := (A.m.hp t k').mpr ht'
    rw [a] at b
    injection b
end Mi.K32

namespace Mi.K32
open PySem PySem.Spec PyProof.Rows L2 Mi
variable {N : Nat}
local macro_rules | `(tactic| trivial) => `(tactic| simp only [wi_sn, wi_sq, wi_as, wi_asl, wi_pr2, wi_pr3, wi_ex, wi_cnd, wi_re, wi_rn, wi_br, wi_ct, wi_pa, th_nx, th_rt, th_bk, th_cn, ret_rt, ret_nx, we_bl, wb_ac, wb_last, we_cm, we_v, we_tp, we_ls, wa_an, wa_ac, we_nt, we_isi, we_ch, we_k, we_g, we_bi, we_nb, we_ca, we_ix, we_bo, we_ie, we_mth, we_sl, wop_no, wop_it, we_d0, wt_an, wt_ac, wg_tn, wg_tt, wg_ts, wgs_ac, wgs_an, tr_bl, List.getElem?_cons_zero, List.getElem?_cons_succ, List.set_cons_zero, List.set_cons_succ, Option.some.injEq, exists_eq_left', List.length_cons, List.length_nil, List.map_cons, List.map_nil, wipeP, Bool.not_true, Bool.not_false, reduceIte, Bool.false_eq_true, and_true, true_and])
theorem ev_seated {k : Nat} {seats pool : List Let} {st : Store} (hs : Good 40 seats) (hp : Good 60 pool) (hN : 100 < N) : Wo (evF T N (k + 6) "seated" [eP seats, eP pool] st) fun x st' => Ext st st' ∧
    ((canB seats pool (List.range pool.length) = true ∧ ∃ ss : List Nat, x = .tup [.str "seated", .tup (eN ss)] ∧ ss.length = pool.length ∧ (∀ s ∈ ss, s < seats.length) ∧ ss.Nodup ∧ ∀ i, i < pool.length → FF seats pool i (ss.getD i 0) = true) ∨
     (canB seats pool (List.range pool.length) = false ∧ ∃ l : List Nat, x = .tup [.str "short", .tup (eN l)] ∧ l.Pairwise (· < ·) ∧ (∀ y ∈ l, y < pool.length) ∧ fitN seats pool l < l.length)) := by
  refine wf (d := d_seated) (hT e_seated (List.mem_of_getElem? (i := 25) rfl)) rfl ?_
  show WS _ _ b_seated [some (eP seats), some (eP pool), none, none, none, none, none, none] _ _
  unfold b_seated
  have hsl := hs.2
  have hpl := hp.2
  trivial
  refine wo_mono (ev_check hs.1 hs.2 hp.1 (by omega)) fun x s0 ⟨_, x0⟩ => ?_
  have e1 : (s0 ++ [MO.dic []]).length = s0.length + 1 := by simp
  rw [e1]
  refine ws_fo_n (enc := fun i => PV.int (i : Nat)) pool.length (fun j ρ s => ∃ H P a b c d, ρ = [some (eP seats), some (eP pool), some (.loc s0.length), some (.loc (s0.length + 1)), a, b, c, d] ∧ s[s0.length]? = some (.dic (eD H)) ∧ s[s0.length + 1]? = some (.dic (eD P)) ∧ Ext s0 s ∧ Mat (FF seats pool) seats.length H P ∧ Ky seats.length H ∧ Ky pool.length P ∧ Of (canB seats pool) j P ∧ grd (canB seats pool) j = List.range j ∧ canB seats pool (List.range j) = true) (wi_rg1 ?_)
  trivial
  refine bi_len_tup ⟨(pool.length : Nat), by rw [List.length_map], by omega, by rw [Int.toNat_natCast], ⟨[], [], none, none, none, none, rfl, ?_, ?_, (Ext.new1 _).new _, ?_⟩, ?_, ?_, ?_⟩
  · exact (Ext.new1 _).get new_get
  · rw [← e1]; exact new_get
  · refine ⟨⟨fun s k => by simp [look_nil], fun s k h => by simp [look_nil] at h⟩, ⟨List.nodup_nil, fun x hx => by cases hx⟩, ⟨List.nodup_nil, fun x hx => by cases hx⟩, fun k => by simp [look_nil, grd], rfl, ?_⟩
    rw [tells seats pool _ List.nodup_range]
    exact ⟨fun _ => 0, ⟨fun k hk => absurd (List.mem_range.mp hk) (Nat.not_lt_zero _), fun k k' hk => absurd (List.mem_range.mp hk) (Nat.not_lt_zero _)⟩⟩
  · rintro j ρ s ⟨H, P, a, b, c, d, rfl, _⟩; rfl
  · rintro j ρ s hj ⟨H, P, a, b, c, d, rfl, gh, gp, hx, M, KH, KP, o, eg, ec⟩
    trivial
    refine wo_mono (ev_walked (i := j) hs (by omega) hj (fun s k h => KP.2 k (look_some.mp ⟨_, (M.hp s k).mp h⟩)) gh hN) fun x s1 ⟨free, came, line, c, q, ex, gc, gq, hc, hq, x1, wend⟩ => ?_
    subst ex
    have hlh := get_lt gh
    have hlp := get_lt gp
    trivial
    cases free with
    | none =>
      obtain ⟨w, sh⟩ := wend
      refine ⟨true, rfl, ?_⟩
      trivial
      have hlen : line.length ≤ 41 := by have := w.len; have := w.size; omega
      refine bi_sorted_loc gq (by omega) (bi_tuple_loc new_get ⟨show 2 ≤ LIM by decide, ((x0.trans hx).trans x1).new _, .inr ⟨?_, srt line, rfl, ?_, ?_, ?_⟩⟩)
      · have hno := no_more w sh M o (tells seats pool)
        cases e : canB seats pool (List.range pool.length) with
        | false => rfl
        | true =>
          refine absurd ((tells seats pool).mono _ _ grd_snoc_nodup List.nodup_range (fun x hx => ?_) e) hno
          rw [eg] at hx
          rcases List.mem_append.mp hx with hx | hx
          · have := List.mem_range.mp hx; exact List.mem_range.mpr (by omega)
          · simp at hx; exact List.mem_range.mpr (by omega)
      · exact srt_lt (w.nodup M o.none)
      · intro y hy
        have := line_sub w M o y (srt_mem.mp hy)
        rw [eg] at this
        rcases List.mem_append.mp this with hx | hx
        · have := List.mem_range.mp hx; omega
        · simp at hx; omega
      · have := fit_count w sh M (q := fun s => (srt line).any fun i => FF seats pool i s) fun s _ => by
          rw [List.any_eq_true]
          constructor
          · rintro ⟨k, hk, hf⟩; exact ⟨k, srt_mem.mp hk, hf⟩
          · rintro ⟨k, hk, hf⟩; exact ⟨k, srt_mem.mpr hk, hf⟩
        unfold fitN
        rw [srt_len]
        omega
    | some s2 =>
      obtain ⟨came0, k0, rfl, w, hk0, hs0, hsn, hf, hfree⟩ := wend
      refine ⟨false, rfl, ?_⟩
      trivial
      have gh1 := x1.get gh
      have gp1 := x1.get gp
      refine wo_mono (ev_shifted M o.none hj (w.way hs0 hk0 hsn hf) hfree KH KP (by omega) (by omega) gh1 gp1 gc (by omega) (by omega) (by omega) (by omega)) fun y s3 ⟨_, H', P', gh2, gp2, M', KH', KP', ek, rest⟩ => ?_
      have hyes : canB seats pool (grd (canB seats pool) j ++ [j]) = true := can_more M' o (tells seats pool) ek
      have eg' : grd (canB seats pool) (j + 1) = List.range (j + 1) := by rw [grd, if_pos hyes, eg, List.range_succ]
      refine ⟨H', P', _, _, _, _, rfl, gh2, gp2, ext_of_get fun l o e => ?_, M', KH', KP', o.took hyes ek, eg', ?_⟩
      · have := get_lt e
        exact rest l o (by omega) (by omega) (x1.get (hx.get e))
      · rw [List.range_succ, ← eg]; exact hyes
  · rintro ρ s ⟨H, P, a, b, c, d, rfl, gh, gp, hx, M, KH, KP, o, eg, ec⟩
    refine we_tuple (wi_rg1 ?_)
    trivial
    refine bi_len_tup ⟨(pool.length : Nat), by rw [List.length_map], by omega, ?_⟩
    rw [Int.toNat_natCast]
    have get : ∀ i, i < pool.length → ∃ t, look P i = some t := fun i hi => (o i).mpr (by rw [eg]; exact List.mem_range.mpr hi)
    refine wo_mono (loopC_all (xs := List.range pool.length) (enc := fun i => PV.int (i : Nat)) (Ext s) (fun i => .int ((look P i).getD 0 : Nat)) (Ext.refl _) (fun _ _ => rfl) (lim_small (by rw [List.length_range]; omega)) fun i hi s1 h1 => ?_) fun ys s1 ⟨e2, x1⟩ => ?_
    · have hi := List.mem_range.mp hi
      obtain ⟨t, ht⟩ := get i hi
      trivial
      refine ix_D (h1.get gp) ht ⟨?_, h1⟩
      rw [ht]; rfl
    · have e3 : ys = eN ((List.range pool.length).map fun i => (look P i).getD 0) := by rw [e2]; unfold eN; rw [List.map_map]; rfl
      subst e3
      refine ⟨show 2 ≤ LIM by decide, (x0.trans hx).trans x1, .inl ⟨ec, _, rfl, by rw [List.length_map, List.length_range], ?_, ?_, ?_⟩⟩
      · intro s2 hs2
        obtain ⟨i, hi, rfl⟩ := List.mem_map.mp hs2
        obtain ⟨t, ht⟩ := get i (List.mem_range.mp hi)
        rw [ht]
        exact (M.ft t i ((M.hp t i).mpr ht)).1
      · refine nodup_map_inj List.nodup_range fun a ha b hb e => ?_
        obtain ⟨t, ht⟩ := get a (List.mem_range.mp ha)
        obtain ⟨t', ht'⟩ := get b (List.mem_range.mp hb)
        rw [ht, ht'] at e
        have e : t = t' := e
        rw [← e] at ht'
        have a1 := (M.hp t a).mpr ht
        have b1 := (M.hp t b).mpr ht'
        rw [a1] at b1
        injection b1
      · intro i hi
        obtain ⟨t, ht⟩ := get i hi
        rw [List.getD_eq_getElem?_getD, List.getElem?_map, List.getElem?_range hi]
        show FF seats pool i ((look P i).getD 0) = true
        rw [ht]
        exact (M.ft t i ((M.hp t i).mpr ht)).2
/-! ### quotas of seats, of a match -/
theorem lotsG_places {seats : List Let} {letter : Let} {lot : List Nat} : (((List.range seats.length).filter fun k => fitsP letter (seats.getD k [])).filter fun k => decide (k ∉ lot)).map (fun k => PV.tup (eN (srt (lot ++ [k])))) = eM (lotsG seats letter lot) := by
  unfold lotsG eM
  rw [filterMap_if, List.map_map, List.filter_filter]; rfl
theorem inner_of' {C : Fn} {ρ ρ' : Env} {acc : List PV} {st : Store} {i2 t2 f2 e : IR} {Q : List PV → Store → Prop} (h : WI C i2 ρ st fun items2 src2 st' => Wo (loopC (stands src2 items2) (evG C t2) (fun ρ st => evT C f2 ρ st) (fun ρ st => evE C e ρ st) ρ' items2 acc st') Q) :
    Wo (match evI C i2 ρ st with
        | some (items2, src2, st') => loopC (stands src2 items2) (evG C t2) (fun ρ st => evT C f2 ρ st) (fun ρ st => evE C e ρ st) ρ' items2 acc st'
        | none => none) Q := by
  obtain ⟨items, src, st1, e1, q⟩ := h
  rw [e1]
  exact q
set_option maxHeartbeats 1000000 in
theorem ev_matched {k : Nat} {w : Str} {seats letters : List Let} {letter : Let} {st : Store} (hs : Good 6 seats) : Wo (evF T N (k + 2) "matched" [qt w seats, .tup (eM (lotsOf seats letters)), eL letter] st) fun x st' => x = (if lotsS seats (lotsOf seats letters) letter = [] then .non else .tup (eM (lotsS seats (lotsOf seats letters) letter))) ∧ Ext st st' := by
  refine wf (d := d_matched) (hT e_matched (List.mem_of_getElem? (i := 14) rfl)) rfl ?_
  show WS _ _ b_matched [some (qt w seats), some (.tup (eM (lotsOf seats letters))), some (eL letter), none, none, none, none, none] _ _
  unfold b_matched
  have hsl := hs.2
  trivial
  refine we_lc (wi_en ?_)
  trivial
  refine ix_tup (i := 1) rfl ⟨_, rfl, ?_⟩
  rw [en_map]
  refine wo_mono (loopC_fil (xs := List.range seats.length) (enc := enE seats) (Ext st) (fun i => fitsP letter (seats.getD i [])) (fun i => .int (i : Nat)) (Ext.refl _) (fun _ _ => rfl) (lim_small (by rw [List.length_range]; omega)) fun i hi s1 h1 => ?_) fun ys s1 ⟨e1, x1⟩ => ?_
  · unfold enE
    trivial
    refine wo_mono (ev_fits (okL_of (getD_ok hs.1 i))) fun r s3 ⟨e3, h3⟩ => ?_
    subst e3
    trivial
    exact ⟨h1.trans h3, fun _ => h1.trans h3⟩
  subst e1
  rw [eN_filter]
  generalize hpl : (List.range seats.length).filter (fun i => fitsP letter (seats.getD i [])) = places
  have hpll : places.length ≤ 6 := by
    rw [← hpl]
    refine Nat.le_trans (List.length_filter_le _ _) (by rw [List.length_range]; exact hsl)
  have hG : ∀ lot, (places.filter fun k => decide (k ∉ lot)).map (fun k => PV.tup (eN (srt (lot ++ [k])))) = eM (lotsG seats letter lot) := fun lot => by rw [← hpl]; exact lotsG_places
  have hfew : (lotsC seats letter (lotsOf seats letters)).length ≤ 60 := lots_few hsl
  refine we_sc2 (wi_it ?_)
  trivial
  refine wo_mono (Q := fun ys s => ys = eM (lotsC seats letter (lotsOf seats letters)) ∧ Ext (s1 ++ [.lst (eN places)]) s) (loopO_inv _ _ _ (fun rest acc s => ∃ done left, lotsOf seats letters = done ++ left ∧ rest = eM left ∧ acc = eM (lotsC seats letter done) ∧ Ext (s1 ++ [.lst (eN places)]) s) ⟨[], _, rfl, rfl, rfl, Ext.refl _⟩ ?_ ?_) fun ys s2 ⟨e2, x2⟩ => ?_
  · rintro x r acc s ⟨done, left, el, e1, e2, hx⟩
    cases left with
    | nil => cases e1
    | cons lot left =>
      injection e1 with e1 e3
      subst e1 e3 e2
      refine ⟨rfl, ?_⟩
      trivial
      refine inner_of' (wi_it ?_)
      trivial
      refine ⟨_, hx.get new_get, ?_⟩
      obtain ⟨l1, l2, l3⟩ := lot_ok (show lot ∈ lotsOf seats letters by rw [el]; simp)
      have hlot : lot.length ≤ 6 := by
        have := nodup_len_le (l1.imp fun h => Nat.ne_of_lt h) l2
        omega
      have hdone : (lotsC seats letter done).length ≤ 60 := by
        refine Nat.le_trans ?_ hfew
        rw [el]
        unfold lotsC
        rw [List.flatMap_append, List.length_append]
        exact Nat.le_add_right _ _
      refine wo_mono (loopC_pureA (st := s) (fun z => match z with | .int i => if decide (i.toNat ∉ lot) = true then some (.tup (eN (srt (lot ++ [i.toNat])))) else none | _ => none) (fun s h => decide_eq_true ((hx.trans h).get new_get)) ?_ fun z hz s3 h3 => ?_) fun ys s3 ⟨e3, h3⟩ => ?_
      · rw [eM_len, eN_len]; exact lim_small (by omega)
      · obtain ⟨i, hi, rfl⟩ := List.mem_map.mp hz
        trivial
        refine cmp_nin in_nat ?_
        simp only [Int.toNat_natCast]
        by_cases hil : i ∈ lot
        · rw [decide_eq_true hil, if_neg (by simp [hil])]
          exact ⟨rfl, h3⟩
        · rw [decide_eq_false hil, if_pos (by simp [hil])]
          refine ⟨rfl, show 1 ≤ LIM by decide, bo_tup ?_ ?_⟩
          · rw [eN_len]; exact Nat.le_of_lt (lim_small (by simp; omega))
          · have e5 : eN lot ++ [PV.int (i : Nat)] = eN (lot ++ [i]) := eN_snoc _ _
            rw [e5]
            exact bi_sorted_tup (by rw [List.length_append]; simp; omega) (bi_tuple_loc new_get ⟨rfl, h3.new _⟩)
      · refine ⟨done ++ [lot], left, by rw [el, List.append_assoc]; rfl, rfl, ?_, hx.trans h3⟩
        have e6 : lotsC seats letter (done ++ [lot]) = lotsC seats letter done ++ lotsG seats letter lot := by unfold lotsC; rw [List.flatMap_append]; simp
        rw [e3, e6, ← eM_app, ← hG]
        congr 1
        unfold eN
        rw [List.filterMap_map]
        exact filterMap_if (fun k => decide (k ∉ lot)) _ places
  · rintro acc s ⟨done, left, el, e1, e2, hx⟩
    cases left with
    | cons _ _ => cases e1
    | nil =>
      rw [List.append_nil] at el
      refine ⟨rfl, ?_, hx⟩
      rw [e2, el]
  · subst e2
    refine ⟨_, toTups_nat _, by rw [List.length_map]; omega, ?_⟩
    refine bi_sorted_set new_get (by omega) (lots_box hsl) ?_
    have hx2 : Ext st s2 := (x1.new _).trans x2
    have el : msort (lotsC seats letter (lotsOf seats letters)) = lotsS seats (lotsOf seats letters) letter := rfl
    rw [el]
    refine ⟨_, by simp only [truP]; rw [new_get], ?_⟩
    cases e : lotsS seats (lotsOf seats letters) letter with
    | nil =>
      simp only [eM, List.map_nil, List.isEmpty_nil]
      trivial
      exact (hx2.new _).new _
    | cons a r =>
      have e7 : (!(eM (a :: r)).isEmpty) = true := rfl
      simp only [e7]
      trivial
      rw [if_neg (by simp)]
      exact bi_tuple_loc new_get ⟨rfl, (hx2.new _).new _⟩
end Mi.K32

namespace Mi.K32
open PySem PySem.Spec PyProof.Rows L2 Mi
variable {N : Nat}
local macro_rules | `(tactic| trivial) => `(tactic| simp only [wi_sn, wi_sq, wi_as, wi_asl, wi_pr2, wi_pr3, wi_ex, wi_cnd, wi_re, wi_rn, wi_br, wi_ct, wi_pa, th_nx, th_rt, th_bk, th_cn, ret_rt, ret_nx, we_bl, wb_ac, wb_last, we_cm, we_v, we_tp, we_ls, wa_an, wa_ac, we_nt, we_isi, we_ch, we_k, we_g, we_bi, we_nb, we_ca, we_ix, we_bo, we_ie, we_mth, we_sl, wop_no, wop_it, we_d0, wt_an, wt_ac, wg_tn, wg_tt, wg_ts, wgs_ac, wgs_an, tr_bl, List.getElem?_cons_zero, List.getElem?_cons_succ, List.set_cons_zero, List.set_cons_succ, Option.some.injEq, exists_eq_left', List.length_cons, List.length_nil, List.map_cons, List.map_nil, wipeP, Bool.not_true, Bool.not_false, reduceIte, Bool.false_eq_true, and_true, true_and])
theorem is_non {st : Store} {Q : Bool → Prop} (h : Q true) : ∃ c, cmp .Is st .non .non = some c ∧ Q c := ⟨true, rfl, h⟩
theorem isnot_tup {st : Store} {xs : List PV} {Q : Bool → Prop} (h : Q true) : ∃ c, cmp .IsNot st (.tup xs) .non = some c ∧ Q c := ⟨true, rfl, h⟩
theorem filter_succ {good : Nat → Bool} {j : Nat} : (List.range (j + 1)).filter good = if good j = true then (List.range j).filter good ++ [j] else (List.range j).filter good := by
  rw [List.range_succ, List.filter_append]
  by_cases h : good j = true
  · rw [if_pos h]; simp [h]
  · rw [if_neg h]; simp [h]
theorem ev_taken_of {k p : Nat} {q : PV} {pool : List Let} {S : Nat → List PV} {good : Nat → Bool} {st : Store} (hl : pool.length ≤ 200)
    (h0 : ∀ st, Wo (evF T N (k + 1) "first_state" [q] st) fun x st' => x = .tup (S 0) ∧ Ext st st')
    (h1 : ∀ j, j < pool.length → ∀ st, Wo (evF T N (k + 1) "step" [q, .tup (S j), eL (pool.getD j [])] st) fun x st' => x = (if good j = true then .tup (S (j + 1)) else .non) ∧ Ext st st')
    (h2 : ∀ j, good j = false → S (j + 1) = S j) (hp : st[p]? = some (.lst (eN (List.range pool.length)))) :
    Wo (evF T N (k + 2) "taken_of" [q, eP pool, .loc p] st) fun x st' => x = .tup (eN ((List.range pool.length).filter good)) ∧ Ext st st' := by
  refine wf (d := d_taken_of) (hT e_taken_of (List.mem_of_getElem? (i := 17) rfl)) rfl ?_
  show WS _ _ b_taken_of [some q, some (eP pool), some (.loc p), none, none, none, none] _ _
  unfold b_taken_of
  trivial
  refine wo_mono (h0 st) fun x s0 ⟨e0, x0⟩ => ?_
  subst e0
  refine ⟨Nat.zero_le _, ?_⟩
  refine ws_fo_n (enc := fun i => PV.int (i : Nat)) pool.length (fun j ρ s => ∃ a b, ρ = [some q, some (eP pool), some (.loc p), some (.tup (S j)), some (.loc s0.length), a, b] ∧ Hd s0 (.lst (eN ((List.range j).filter good))) s) (wi_it ?_)
  trivial
  refine ⟨_, (x0.trans (Ext.new1 _)).get hp, rfl, ⟨_, _, rfl, [], rfl⟩, ?_, ?_, ?_⟩
  · rintro j ρ s ⟨a, b, rfl, h⟩
    exact decide_eq_true ((x0.trans h.out).get hp)
  · rintro j ρ s hj ⟨a, b, rfl, h⟩
    trivial
    refine ix_P hj (wo_mono (h1 j hj s) fun x s1 ⟨e1, x1⟩ => ?_)
    have h' := h.ext x1
    by_cases hg : good j = true
    · rw [if_pos hg] at e1
      subst e1
      refine isnot_tup ?_
      trivial
      refine ⟨recv_append h'.get, mt_append h'.get ?_ ?_⟩
      · rw [eN_len]
        refine lim_small ?_
        have := List.length_filter_le good (List.range j)
        rw [List.length_range] at this
        omega
      · refine ⟨_, _, rfl, ?_⟩
        rw [filter_succ, if_pos hg]
        have e5 : eN ((List.range j).filter good) ++ [PV.int (j : Nat)] = eN ((List.range j).filter good ++ [j]) := eN_snoc _ _
        rw [← e5]
        exact h'.set
    · rw [if_neg hg] at e1
      subst e1
      refine isnot_non ?_
      trivial
      refine ⟨_, _, by rw [h2 j (by simpa using hg)], ?_⟩
      rw [filter_succ, if_neg hg]
      exact h'
  · rintro ρ s ⟨a, b, rfl, h⟩
    trivial
    exact bi_tuple_loc h.get ⟨rfl, x0.trans h.out⟩
theorem strOk_w {w : Str} (hw : w = "match" ∨ w = "seats") : PyData.strOk w = true := by rcases hw with rfl | rfl <;> decide +kernel
theorem ev_first_match {k : Nat} {seats : List Let} {st : Store} : Wo (evF T N (k + 1) "first_state" [qt "match" seats] st) fun x st' => x = .tup (eM [[]]) ∧ Ext st st' := by
  refine wf (d := d_first_state) (hT e_first_state (List.mem_of_getElem? (i := 10) rfl)) rfl ?_
  show WS _ _ b_first_state [some (qt "match" seats), none, none] _ _
  unfold b_first_state
  trivial
  refine ix_tup (i := 0) rfl ⟨show 2 ≤ LIM by decide, cmp_in (in_str (l := ["all", "first"])) ?_⟩
  rw [decide_eq_false (by decide +kernel)]
  trivial
  refine cmp_eqs (by decide +kernel) (by decide +kernel) ?_
  rw [decide_eq_false (by decide +kernel)]
  trivial
  refine cmp_eqs (by decide +kernel) (by decide +kernel) ?_
  rw [decide_eq_false (by decide +kernel)]
  trivial
  refine cmp_eqs (by decide +kernel) (by decide +kernel) ?_
  rw [decide_eq_true (by decide +kernel)]
  trivial
  exact ⟨Nat.zero_le _, show 1 ≤ LIM by decide, rfl, Ext.refl _⟩
theorem ev_first_seats {k : Nat} {seats : List Let} {st : Store} : Wo (evF T N (k + 1) "first_state" [qt "seats" seats] st) fun x st' => x = .tup (eN []) ∧ Ext st st' := by
  refine wf (d := d_first_state) (hT e_first_state (List.mem_of_getElem? (i := 10) rfl)) rfl ?_
  show WS _ _ b_first_state [some (qt "seats" seats), none, none] _ _
  unfold b_first_state
  trivial
  refine ix_tup (i := 0) rfl ⟨show 2 ≤ LIM by decide, cmp_in (in_str (l := ["all", "first"])) ?_⟩
  rw [decide_eq_false (by decide +kernel)]
  trivial
  refine cmp_eqs (by decide +kernel) (by decide +kernel) ?_
  rw [decide_eq_false (by decide +kernel)]
  trivial
  refine cmp_eqs (by decide +kernel) (by decide +kernel) ?_
  rw [decide_eq_true (by decide +kernel)]
  trivial
  exact ⟨Nat.zero_le _, rfl, Ext.refl _⟩
theorem ev_step_match {k : Nat} {seats letters : List Let} {letter : Let} {st : Store} (hs : Good 6 seats) : Wo (evF T N (k + 3) "step" [qt "match" seats, .tup (eM (lotsOf seats letters)), eL letter] st) fun x st' => x = (if lotsS seats (lotsOf seats letters) letter = [] then .non else .tup (eM (lotsS seats (lotsOf seats letters) letter))) ∧ Ext st st' := by
  refine wf (d := d_step) (hT e_step (List.mem_of_getElem? (i := 16) rfl)) rfl ?_
  show WS _ _ b_step [some (qt "match" seats), some (.tup (eM (lotsOf seats letters))), some (eL letter), none, none, none, none] _ _
  unfold b_step
  trivial
  refine ix_tup (i := 0) rfl (cmp_eqs (by decide +kernel) (by decide +kernel) ?_)
  rw [decide_eq_false (by decide +kernel)]
  trivial
  refine cmp_eqs (by decide +kernel) (by decide +kernel) ?_
  rw [decide_eq_false (by decide +kernel)]
  trivial
  refine cmp_eqs (by decide +kernel) (by decide +kernel) ?_
  rw [decide_eq_false (by decide +kernel)]
  trivial
  refine cmp_eqs (by decide +kernel) (by decide +kernel) ?_
  rw [decide_eq_false (by decide +kernel)]
  trivial
  refine cmp_eqs (by decide +kernel) (by decide +kernel) ?_
  rw [decide_eq_true (by decide +kernel)]
  trivial
  exact ev_matched hs
theorem ev_step_seats {k : Nat} {seats : List Let} {state : List Nat} {letter : Let} {st : Store} (hs : Good 6 seats) (hst : state.length < 63) : Wo (evF T N (k + 3) "step" [qt "seats" seats, .tup (eN state), eL letter] st) fun x st' => x = eS (satF seats state letter) ∧ Ext st st' := by
  refine wf (d := d_step) (hT e_step (List.mem_of_getElem? (i := 16) rfl)) rfl ?_
  show WS _ _ b_step [some (qt "seats" seats), some (.tup (eN state)), some (eL letter), none, none, none, none] _ _
  unfold b_step
  trivial
  refine ix_tup (i := 0) rfl (cmp_eqs (by decide +kernel) (by decide +kernel) ?_)
  rw [decide_eq_false (by decide +kernel)]
  trivial
  refine cmp_eqs (by decide +kernel) (by decide +kernel) ?_
  rw [decide_eq_false (by decide +kernel)]
  trivial
  refine cmp_eqs (by decide +kernel) (by decide +kernel) ?_
  rw [decide_eq_false (by decide +kernel)]
  trivial
  refine cmp_eqs (by decide +kernel) (by decide +kernel) ?_
  rw [decide_eq_true (by decide +kernel)]
  trivial
  exact ev_sat (okP_of hs.1) hst
theorem ev_takes {k : Nat} {w : Str} {seats pool : List Let} {S : Nat → List PV} {good : Nat → Bool} {st : Store} (hw : w = "match" ∨ w = "seats") (hs : Good 6 seats) (hp : Good 60 pool)
    (h0 : ∀ st, Wo (evF T N (k + 6) "first_state" [qt w seats] st) fun x st' => x = .tup (S 0) ∧ Ext st st')
    (h1 : ∀ j, j < pool.length → ∀ st, Wo (evF T N (k + 6) "step" [qt w seats, .tup (S j), eL (pool.getD j [])] st) fun x st' => x = (if good j = true then .tup (S (j + 1)) else .non) ∧ Ext st st')
    (h2 : ∀ j, good j = false → S (j + 1) = S j) :
    Wo (evF T N (k + 8) "takes" [qt w seats, eP pool] st) fun x st' => x = .tup (eN ((List.range pool.length).filter good)) ∧ Ext st st' := by
  refine wf (d := d_takes) (hT e_takes (List.mem_of_getElem? (i := 18) rfl)) rfl ?_
  show WS _ _ b_takes [some (qt w seats), some (eP pool)] _ _
  unfold b_takes
  have hpl := hp.2
  trivial
  refine wo_mono (ev_is_quota hw hs.1 hs.2) fun x s1 ⟨e1, x1⟩ => ?_
  subst e1
  trivial
  refine wo_mono (ev_is_pool hp.1 (by omega)) fun x s2 ⟨e2, x2⟩ => ?_
  subst e2
  trivial
  refine bi_len_tup ?_
  rw [List.length_map]
  refine ⟨.loc s2.length, s2 ++ [.lst (eN (List.range pool.length))], ?_, ?_⟩
  · simp only [nbP]
    rw [if_pos (by omega), Int.toNat_natCast]; rfl
  · refine wo_mono (ev_taken_of (k := k + 5) (by omega) h0 h1 h2 new_get) fun x s3 ⟨e3, x3⟩ => ⟨e3, (x1.trans x2).trans ((Ext.new1 _).trans x3)⟩
theorem lets_snoc {pool : List Let} {ks : List Nat} {j : Nat} : lets pool (ks ++ [j]) = lets pool ks ++ [pool.getD j []] := by unfold lets; rw [List.map_append]; rfl
theorem ev_takes_match {k : Nat} {seats pool : List Let} {st : Store} (hs : Good 6 seats) (hp : Good 60 pool) : Wo (evF T N (k + 8) "takes" [qt "match" seats, eP pool] st) fun x st' => x = .tup (eN (grd (canB seats pool) pool.length)) ∧ Ext st st' := by
  refine wo_mono (ev_takes (S := fun j => eM (lotsOf seats (lets pool (grd (canB seats pool) j)))) (good := fun j => canB seats pool (grd (canB seats pool) j ++ [j])) (.inl rfl) hs hp (fun st => ev_first_match) (fun j hj st => ?_) (fun j hj => ?_)) fun x s1 ⟨e1, x1⟩ => ⟨?_, x1⟩
  · refine wo_mono (ev_step_match hs) fun x s1 ⟨e1, x1⟩ => ⟨?_, x1⟩
    rw [e1, ← lotsOf_snoc, ← lets_snoc]
    have ec : canB seats pool (grd (canB seats pool) j ++ [j]) = !(lotsOf seats (lets pool (grd (canB seats pool) j ++ [j]))).isEmpty := rfl
    cases e : lotsOf seats (lets pool (grd (canB seats pool) j ++ [j])) with
    | nil => rw [e] at ec; rw [if_pos rfl, if_neg (by rw [ec]; decide)]
    | cons a r =>
      rw [e] at ec
      have ec : canB seats pool (grd (canB seats pool) j ++ [j]) = true := ec
      rw [if_neg (by simp), if_pos ec]
      rw [grd, if_pos ec, e]
  · have hj : canB seats pool (grd (canB seats pool) j ++ [j]) = false := hj
    rw [grd, if_neg (by rw [hj]; decide)]
  · rw [e1]
    congr 2
    refine sorted_ext (List.Pairwise.filter _ List.pairwise_lt_range) grd_sorted fun x => ?_
    rw [List.mem_filter, List.mem_range]
    constructor
    · rintro ⟨h1, h2⟩; exact (grd_mem h1).mpr h2
    · intro h; have := grd_lt h; exact ⟨this, (grd_mem this).mp h⟩
/-! ### seat by seat, by plain numbers -/
theorem pick_congr {ok ok' : Nat → Nat → Bool} {m : Nat} : ∀ {n : Nat}, (∀ s, s < n → ∀ k, k < m → ok s k = ok' s k) → pick ok m n = pick ok' m n
  | 0, _ => rfl
  | n + 1, h => by
    have ih := pick_congr (n := n) fun s hs => h s (by omega)
    rw [pick, pick, ih]
    congr 2
    exact firstN_congr fun k hk => by rw [h n (by omega) k hk]
theorem pkAt_congr {ok ok' : Nat → Nat → Bool} {m s : Nat} (h : ∀ s', s' ≤ s → ∀ k, k < m → ok s' k = ok' s' k) : pkAt ok m s = pkAt ok' m s := by
  unfold pkAt
  rw [pick_congr fun s' hs => h s' (by omega)]
  exact firstN_congr fun k hk => by rw [h s (Nat.le_refl _) k hk]
def okS (seats pool : List Let) (skip : Option Nat) (s k : Nat) : Bool := decide (skip ≠ some k) && FF seats pool k s
theorem chosen_pick {pool : List Let} {skip : Option Nat} : ∀ (n : Nat) (seats : List Let), seats.length = n → chosen pool skip seats [] = pick (okS seats pool skip) pool.length n
  | 0, seats, h => by rw [List.length_eq_zero_iff.mp h]; rfl
  | n + 1, seats, h => by
    rcases snoc_cases (l := seats) with e | ⟨r, x, e⟩
    · rw [e] at h; cases h
    subst e
    have hr : r.length = n := by rw [List.length_append] at h; simpa using h
    have eq : ∀ s, s < n → ∀ k, k < pool.length → okS (r ++ [x]) pool skip s k = okS r pool skip s k := fun s hs k _ => by
      unfold okS FF
      rw [List.getD_eq_getElem?_getD (l := r ++ [x]), List.getElem?_append_left (by omega), ← List.getD_eq_getElem?_getD]
    rw [chosen_snoc, chosen_pick n r hr, pick, pick_congr eq]
    congr 2
    unfold firstFit
    refine firstN_congr fun k _ => ?_
    unfold okAt okS FF
    rw [List.getD_eq_getElem?_getD (l := r ++ [x]), List.getElem?_append_right (by omega), hr, Nat.sub_self]
    show _ = (decide (some k ∉ _) && (decide (skip ≠ some k) && fitsP (pool.getD k []) x))
    rw [← Bool.and_assoc]
    congr 1
    exact Bool.and_comm _ _
theorem sbs_pick {seats pool : List Let} : sbs seats pool = pick (fun s k => FF seats pool k s) pool.length seats.length := by
  unfold sbs
  rw [chosen_pick seats.length seats rfl]
  refine pick_congr fun s _ k _ => ?_
  unfold okS
  simp
/-- the seats of the letters so far -/
def stL (seats pool : List Let) (j : Nat) : List Nat := srt ((pick (FF seats pool) seats.length j).filterMap id)
theorem mem_stL {seats pool : List Let} {j i : Nat} : i ∈ stL seats pool j ↔ some i ∈ pick (FF seats pool) seats.length j := by
  unfold stL
  rw [srt_mem, List.mem_filterMap]
  simp
theorem ev_takes_seats {k : Nat} {seats pool : List Let} {st : Store} (hs : Good 6 seats) (hp : Good 60 pool) : Wo (evF T N (k + 8) "takes" [qt "seats" seats, eP pool] st) fun x st' => x = .tup (eN (srt ((sbs seats pool).filterMap id))) ∧ Ext st st' := by
  have hpl := hp.2
  refine wo_mono (ev_takes (S := fun j => eN (stL seats pool j)) (good := fun j => (pkAt (FF seats pool) seats.length j).isSome) (.inr rfl) hs hp (fun st => ev_first_seats) (fun j hj st => ?_) (fun j hj => ?_)) fun x s1 ⟨e1, x1⟩ => ⟨?_, x1⟩
  · refine wo_mono (ev_step_seats hs ?_) fun x s1 ⟨e1, x1⟩ => ⟨?_, x1⟩
    · unfold stL
      rw [srt_len]
      have := List.length_filterMap_le (id : Option Nat → Option Nat) (pick (FF seats pool) seats.length j)
      rw [pick_len] at this
      omega
    rw [e1]
    have e : satF seats (stL seats pool j) (pool.getD j []) = (pkAt (FF seats pool) seats.length j).map fun i => srt (stL seats pool j ++ [i]) := by
      unfold satF
      congr 1
      refine firstN_congr fun i _ => ?_
      unfold satAt
      congr 1
      exact decide_eq_decide.mpr (not_congr mem_stL)
    rw [e]
    cases h : pkAt (FF seats pool) seats.length j with
    | none => rfl
    | some i =>
      show PV.tup (eN _) = if true = true then _ else _
      rw [if_pos rfl]
      congr 2
      unfold stL
      rw [pick_succ, h, List.filterMap_append]
      exact srt_eq_of_perm ((srt_perm _).append_right _)
  · cases h : pkAt (FF seats pool) seats.length j with
    | none =>
      unfold stL
      rw [pick_succ, h, List.filterMap_append]
      simp
    | some i => rw [h] at hj; cases hj
  · rw [e1]
    congr 2
    refine sorted_ext (List.Pairwise.filter _ List.pairwise_lt_range) (srt_lt ?_) fun x => ?_
    · rw [sbs_pick]
      have : ∀ n, ((pick (fun s k => FF seats pool k s) pool.length n).filterMap id).Nodup := by
        intro n
        induction n with
        | zero => exact List.nodup_nil
        | succ n ih =>
          rw [pick_succ, List.filterMap_append]
          refine List.nodup_append.mpr ⟨ih, ?_, ?_⟩
          · cases pkAt (fun s k => FF seats pool k s) pool.length n <;> simp
          · intro a ha b hb z
            subst z
            obtain ⟨o, ho, e⟩ := List.mem_filterMap.mp ha
            have e : o = some a := e
            subst e
            obtain ⟨t, ht, et⟩ := pick_mem.mp ho
            obtain ⟨o, ho, e⟩ := List.mem_filterMap.mp hb
            have e : o = some a := e
            subst e
            have := List.mem_singleton.mp ho
            have := pkAt_inj et this.symm
            omega
      exact this _
    · rw [List.mem_filter, List.mem_range, srt_mem, List.mem_filterMap]
      have hm : (∃ a, a ∈ sbs seats pool ∧ id a = some x) ↔ some x ∈ sbs seats pool := by simp
      rw [hm, sbs_pick]
      constructor
      · rintro ⟨h1, h2⟩
        refine (taken_iff (ok' := FF seats pool) (fun s k => rfl) h1).mpr fun z => ?_
        simp only [z] at h2
        cases h2
      · intro h
        obtain ⟨t, _, ht⟩ := pick_mem.mp h
        have h1 := pkAt_lt ht
        have h2 := (taken_iff (ok' := FF seats pool) (fun s k => rfl) h1).mp h
        refine ⟨h1, ?_⟩
        cases e : pkAt (FF seats pool) seats.length x with
        | none => exact absurd e h2
        | some _ => rfl
end Mi.K32

namespace Mi.K32
open PySem PySem.Spec PyProof.Rows L2 Mi
variable {N : Nat}
local macro_rules | `(tactic| trivial) => `(tactic| simp only [wi_sn, wi_sq, wi_as, wi_asl, wi_pr2, wi_pr3, wi_ex, wi_cnd, wi_re, wi_rn, wi_br, wi_ct, wi_pa, th_nx, th_rt, th_bk, th_cn, ret_rt, ret_nx, we_bl, wb_ac, wb_last, we_cm, we_v, we_tp, we_ls, wa_an, wa_ac, we_nt, we_isi, we_ch, we_k, we_g, we_bi, we_nb, we_ca, we_ix, we_bo, we_ie, we_mth, we_sl, wop_no, wop_it, we_d0, wt_an, wt_ac, wg_tn, wg_tt, wg_ts, wgs_ac, wgs_an, tr_bl, List.getElem?_cons_zero, List.getElem?_cons_succ, List.set_cons_zero, List.set_cons_succ, Option.some.injEq, exists_eq_left', List.length_cons, List.length_nil, List.map_cons, List.map_nil, wipeP, Bool.not_true, Bool.not_false, reduceIte, Bool.false_eq_true, and_true, true_and])
/-! ### seats in another sequence -/
theorem perm_sigma {a b : List Let} (h : a.Perm b) : ∃ σ : Nat → Nat, (∀ i, i < a.length → σ i < b.length ∧ a.getD i [] = b.getD (σ i) []) ∧ ∀ i j, i < a.length → j < a.length → σ i = σ j → i = j := by
  induction h with
  | nil => exact ⟨id, ⟨fun i hi => absurd hi (Nat.not_lt_zero _), fun i j hi => absurd hi (Nat.not_lt_zero _)⟩⟩
  | @cons x l₁ l₂ h ih =>
    obtain ⟨σ, h1, h2⟩ := ih
    refine ⟨fun i => match i with | 0 => 0 | i + 1 => σ i + 1, fun i hi => ?_, fun i j hi hj e => ?_⟩
    · cases i with
      | zero => exact ⟨by simp, rfl⟩
      | succ i =>
        have hi : i < l₁.length := by rw [List.length_cons] at hi; omega
        have := h1 i hi
        exact ⟨by rw [List.length_cons]; simp only; omega, by simpa using this.2⟩
    · cases i with
      | zero => cases j with
        | zero => rfl
        | succ j => simp at e
      | succ i => cases j with
        | zero => simp at e
        | succ j =>
          rw [List.length_cons] at hi hj
          simp only [Nat.add_right_cancel_iff] at e
          rw [h2 i j (by omega) (by omega) e]
  | swap x y l =>
    refine ⟨fun i => match i with | 0 => 1 | 1 => 0 | i + 2 => i + 2, fun i hi => ?_, fun i j hi hj e => ?_⟩
    · match i with
      | 0 => exact ⟨by simp, rfl⟩
      | 1 => exact ⟨by simp, rfl⟩
      | i + 2 => exact ⟨by simpa using hi, rfl⟩
    · match i, j with
      | 0, 0 => rfl
      | 0, 1 => simp at e
      | 0, j + 2 => simp at e
      | 1, 0 => simp at e
      | 1, 1 => rfl
      | 1, j + 2 => simp at e
      | i + 2, 0 => simp at e
      | i + 2, 1 => simp at e
      | i + 2, j + 2 => exact e
  | @trans l₁ l₂ l₃ h h' ih ih' =>
    obtain ⟨σ, h1, h2⟩ := ih
    obtain ⟨τ, g1, g2⟩ := ih'
    refine ⟨fun i => τ (σ i), fun i hi => ?_, fun i j hi hj e => ?_⟩
    · have a := h1 i hi
      have b := g1 (σ i) a.1
      exact ⟨b.1, a.2.trans b.2⟩
    · exact h2 i j hi hj (g2 _ _ (h1 i hi).1 (h1 j hj).1 e)
theorem can_perm {a b pool : List Let} (h : a.Perm b) {S : Nat → Prop} (c : Can (FF a pool) a.length S) : Can (FF b pool) b.length S := by
  obtain ⟨σ, h1, h2⟩ := perm_sigma h
  obtain ⟨f, f1, f2⟩ := c
  refine ⟨fun k => σ (f k), fun k hk => ?_, fun k k' hk hk' e => ?_⟩
  · obtain ⟨a1, a2⟩ := f1 k hk
    obtain ⟨b1, b2⟩ := h1 _ a1
    refine ⟨b1, ?_⟩
    unfold FF at a2 ⊢
    rw [← b2]; exact a2
  · exact f2 k k' hk hk' (h2 _ _ (f1 k hk).1 (f1 k' hk').1 e)
theorem canB_of {a b pool pool' : List Let} {ks : List Nat} (hn : ks.Nodup) (h : Can (FF a pool) a.length (· ∈ ks) ↔ Can (FF b pool') b.length (· ∈ ks)) : canB a pool ks = canB b pool' ks := by
  rw [Bool.eq_iff_iff, tells a pool ks hn, tells b pool' ks hn]; exact h
theorem canB_perm {a b pool : List Let} (h : a.Perm b) {ks : List Nat} (hn : ks.Nodup) : canB a pool ks = canB b pool ks := canB_of hn ⟨can_perm h, can_perm h.symm⟩
theorem fitN_perm {a b pool : List Let} (h : a.Perm b) {l : List Nat} : fitN a pool l = fitN b pool l := by
  have e : ∀ p : List Let, fitN p pool l = (p.filter fun s => l.any fun i => fitsP (pool.getD i []) s).length := fun p => by
    rw [range_filter (d := [])]; rfl
  rw [e, e]
  exact (h.filter _).length_eq
theorem grd_eq {can can' : List Nat → Bool} (h : ∀ ks : List Nat, ks.Nodup → can ks = can' ks) {m : Nat} : grd can m = grd can' m := grd_congr fun ks hn _ => h ks hn
theorem lotOf_eq {can can' : List Nat → Bool} (h : ∀ ks : List Nat, ks.Nodup → can ks = can' ks) {m : Nat} : lotOf can m = lotOf can' m := lotOf_congr fun ks hn _ => h ks hn
theorem rfs_eq2 {can can' : List Nat → Bool} (h : ∀ ks : List Nat, ks.Nodup → can ks = can' ks) {m : Nat} : rfs can m = rfs can' m := by rw [rfs_eq, rfs_eq, grd_eq h]
/-! ### a seat more that nothing fits -/
theorem can_wide {seats pool : List Let} {z : Let} {S : Nat → Prop} (hz : ∀ k, fitsP (pool.getD k []) z = false) : Can (FF (seats ++ [z]) pool) (seats ++ [z]).length S ↔ Can (FF seats pool) seats.length S := by
  have e : ∀ k s, s < seats.length → FF (seats ++ [z]) pool k s = FF seats pool k s := fun k s hs => by
    unfold FF
    rw [List.getD_eq_getElem?_getD (l := seats ++ [z]), List.getElem?_append_left hs, ← List.getD_eq_getElem?_getD]
  constructor
  · rintro ⟨f, f1, f2⟩
    refine ⟨f, fun k hk => ?_, f2⟩
    obtain ⟨a1, a2⟩ := f1 k hk
    rw [List.length_append] at a1
    have : f k < seats.length := by
      apply Classical.byContradiction
      intro q
      have q : f k = seats.length := by simp at a1; omega
      rw [q] at a2
      unfold FF at a2
      rw [List.getD_eq_getElem?_getD (l := seats ++ [z]), List.getElem?_append_right (Nat.le_refl _), Nat.sub_self] at a2
      have a2 : fitsP (pool.getD k []) z = true := a2
      rw [hz] at a2; cases a2
    exact ⟨this, by rw [← e k _ this]; exact a2⟩
  · rintro ⟨f, f1, f2⟩
    refine ⟨f, fun k hk => ?_, f2⟩
    obtain ⟨a1, a2⟩ := f1 k hk
    exact ⟨by rw [List.length_append]; omega, by rw [e k _ a1]; exact a2⟩
theorem sbs_wide {seats pool : List Let} {z : Let} (hz : ∀ k, fitsP (pool.getD k []) z = false) : sbs (seats ++ [z]) pool = sbs seats pool ++ [none] := by
  unfold sbs
  rw [chosen_snoc]
  congr 2
  unfold firstFit
  rw [find_range_none]
  intro j _
  unfold okAt
  rw [hz, Bool.and_false]
/-! ### other names -/
theorem can_same {a b pool pool' : List Let} {S : Nat → Prop} (hl : a.length = b.length) (h : ∀ k s, FF a pool k s = FF b pool' k s) : Can (FF a pool) a.length S ↔ Can (FF b pool') b.length S := by
  have : FF a pool = FF b pool' := funext fun k => funext fun s => h k s
  rw [this, hl]
theorem sbs_same {a b pool pool' : List Let} (hl : a.length = b.length) (hp : pool.length = pool'.length) (h : ∀ k s, FF a pool k s = FF b pool' k s) : sbs a pool = sbs b pool' := by
  rw [sbs_pick, sbs_pick, hl, hp]
  exact pick_congr fun s _ k _ => h k s
/-! ### more letters behind -/
theorem canB_more {seats pool ext : List Let} {ks : List Nat} (hk : ∀ k ∈ ks, k < pool.length) : canB seats (pool ++ ext) ks = canB seats pool ks := by
  unfold canB lets
  congr 1
  refine List.map_congr_left fun k hk' => ?_
  rw [List.getD_eq_getElem?_getD, List.getElem?_append_left (hk k hk'), ← List.getD_eq_getElem?_getD]
theorem grd_more {seats pool ext : List Let} : (grd (canB seats (pool ++ ext)) (pool ++ ext).length).filter (fun x => decide (x < pool.length)) = grd (canB seats pool) pool.length := by
  rw [grd_prefix (by rw [List.length_append]; omega)]
  exact grd_congr fun ks _ hk => canB_more hk
/-! ### the letters drawn -/
def names3 : List Str := ["ab", "cc", "eh"]
def letters8 : List Let := [[], ["ab"], ["cc"], ["eh"], ["ab", "cc"], ["ab", "eh"], ["cc", "eh"], ["ab", "cc", "eh"]]
def reN (x : Str) : Str := if x = "ab" then "b" else if x = "cc" then "d" else "x"
def Drawn (p : List Let) : Prop := ∀ l ∈ p, l ∈ letters8
theorem letters8_ok : (letters8.all fun l => okLet l && okLet (l.map reN) && !fitsP l ["zoo"] && l.all fun x => decide (x ∈ names3)) = true := by decide +kernel
theorem letters8_re : (letters8.all fun l => letters8.all fun s => decide (fitsP (l.map reN) (s.map reN) = fitsP l s)) = true := by decide +kernel
theorem sorted8 : (names3.all fun x => names3.all fun y => names3.all fun z => !decide ([x, y, z] : List Str).Nodup || (List.range 4).all fun r => decide (isortS (([x, y, z] : List Str).take r) ∈ letters8)) = true := by decide +kernel
theorem Drawn.ok {p : List Let} (h : Drawn p) : ∀ l ∈ p, okLet l = true := fun l hl => by
  have := List.all_eq_true.mp letters8_ok l (h l hl)
  simp only [Bool.and_eq_true] at this
  exact this.1.1.1
theorem Drawn.ok2 {p : List Let} (h : Drawn p) : ∀ l ∈ p.map (·.map reN), okLet l = true := fun l hl => by
  obtain ⟨a, ha, rfl⟩ := List.mem_map.mp hl
  have := List.all_eq_true.mp letters8_ok a (h a ha)
  simp only [Bool.and_eq_true] at this
  exact this.1.1.2
theorem Drawn.getD {p : List Let} (h : Drawn p) (k : Nat) : p.getD k [] ∈ letters8 := by
  rw [List.getD_eq_getElem?_getD]
  cases e : p[k]? with
  | none => show [] ∈ letters8; exact List.mem_cons_self
  | some l => exact h l (List.mem_of_getElem? e)
theorem Drawn.zoo {p : List Let} (h : Drawn p) (k : Nat) : fitsP (p.getD k []) ["zoo"] = false := by
  have := List.all_eq_true.mp letters8_ok _ (h.getD k)
  simp only [Bool.and_eq_true] at this
  simpa using this.1.2
theorem Drawn.names {p : List Let} (h : Drawn p) : ∀ l ∈ p, ∀ x ∈ l, x ∈ names3 := fun l hl x hx => by
  have := List.all_eq_true.mp letters8_ok l (h l hl)
  simp only [Bool.and_eq_true] at this
  exact of_decide_eq_true (List.all_eq_true.mp this.2 x hx)
theorem getD_map {p : List Let} {k : Nat} : (p.map (·.map reN)).getD k [] = (p.getD k []).map reN := by
  rw [List.getD_eq_getElem?_getD, List.getD_eq_getElem?_getD, List.getElem?_map]
  cases p[k]? <;> rfl
theorem Drawn.same {seats pool : List Let} (h : Drawn seats) (h' : Drawn pool) : ∀ k s, FF (seats.map (·.map reN)) (pool.map (·.map reN)) k s = FF seats pool k s := fun k s => by
  unfold FF
  rw [getD_map, getD_map]
  exact of_decide_eq_true (List.all_eq_true.mp (List.all_eq_true.mp letters8_re _ (h'.getD k)) _ (h.getD s))
theorem drawn_sorted {l : List Str} {r : Nat} (h : l.Perm names3) (hr : r < 4) : isortS (l.take r) ∈ letters8 := by
  have hl : l.length = 3 := h.length_eq
  match l, hl with
  | [x, y, z], _ =>
    have hx : x ∈ names3 := h.mem_iff.mp (by simp)
    have hy : y ∈ names3 := h.mem_iff.mp (by simp)
    have hz : z ∈ names3 := h.mem_iff.mp (by simp)
    have nd : ([x, y, z] : List Str).Nodup := h.nodup_iff.mpr (by decide +kernel)
    have := List.all_eq_true.mp (List.all_eq_true.mp (List.all_eq_true.mp sorted8 x hx) y hy) z hz
    rw [decide_eq_true nd] at this
    simp only [Bool.not_true, Bool.false_or] at this
    exact of_decide_eq_true (List.all_eq_true.mp this r (List.mem_range.mpr hr))
end Mi.K32

namespace Mi.K32
open PySem PySem.Spec PyProof.Rows L2 Mi
variable {N : Nat}
local macro_rules | `(tactic| trivial) => `(tactic| simp only [wi_sn, wi_sq, wi_as, wi_asl, wi_pr2, wi_pr3, wi_ex, wi_cnd, wi_re, wi_rn, wi_br, wi_ct, wi_pa, th_nx, th_rt, th_bk, th_cn, ret_rt, ret_nx, we_bl, wb_ac, wb_last, we_cm, we_v, we_tp, we_ls, wa_an, wa_ac, we_nt, we_isi, we_ch, we_k, we_g, we_bi, we_nb, we_ca, we_ix, we_bo, we_ie, we_mth, we_sl, wop_no, wop_it, we_d0, wt_an, wt_ac, wg_tn, wg_tt, wg_ts, wgs_ac, wgs_an, tr_bl, List.getElem?_cons_zero, List.getElem?_cons_succ, List.set_cons_zero, List.set_cons_succ, Option.some.injEq, exists_eq_left', List.length_cons, List.length_nil, List.map_cons, List.map_nil, wipeP, Bool.not_true, Bool.not_false, reduceIte, Bool.false_eq_true, and_true, true_and])
/-! ### draws -/
abbrev kW : Key := .inr "wide"
abbrev kC : Key := .inr "cells"
abbrev kR : Key := .inr "rest"
abbrev kT : Key := .inr "turn"
def dDic (w c : Nat) (rest turn : Int) : List (Key × PV) := [(kW, .loc w), (kC, .loc c), (kR, .int rest), (kT, .int turn)]
theorem kne : (kW ≠ kC ∧ kW ≠ kR ∧ kW ≠ kT ∧ kC ≠ kR ∧ kC ≠ kT ∧ kR ≠ kT) := by decide +kernel
theorem lookK_cons {p : Key × PV} {r : List (Key × PV)} {k : Key} : lookK (p :: r) k = if p.1 = k then some p.2 else lookK r k := by
  unfold lookK
  rw [List.find?_cons]
  by_cases h : p.1 = k
  · rw [if_pos h, decide_eq_true h]; rfl
  · rw [if_neg h, decide_eq_false h]
theorem lk_W {w c : Nat} {rest turn : Int} : lookK (dDic w c rest turn) kW = some (.loc w) := by unfold dDic; rw [lookK_cons, if_pos rfl]
theorem lk_C {w c : Nat} {rest turn : Int} : lookK (dDic w c rest turn) kC = some (.loc c) := by unfold dDic; rw [lookK_cons, if_neg kne.1, lookK_cons, if_pos rfl]
theorem lk_R {w c : Nat} {rest turn : Int} : lookK (dDic w c rest turn) kR = some (.int rest) := by unfold dDic; rw [lookK_cons, if_neg kne.2.1, lookK_cons, if_neg kne.2.2.2.1, lookK_cons, if_pos rfl]
theorem lk_T {w c : Nat} {rest turn : Int} : lookK (dDic w c rest turn) kT = some (.int turn) := by unfold dDic; rw [lookK_cons, if_neg kne.2.2.1, lookK_cons, if_neg kne.2.2.2.2.1, lookK_cons, if_neg kne.2.2.2.2.2, lookK_cons, if_pos rfl]
theorem pt_R {w c : Nat} {rest turn rest' : Int} : putP (dDic w c rest turn) kR (.int rest') = dDic w c rest' turn := by
  obtain ⟨h1, h2, h3, h4, h5, h6⟩ := kne
  unfold putP dDic
  have h6' : ¬ kT = kR := fun e => h6 e.symm
  simp only [List.any_cons, List.any_nil, decide_eq_true, Bool.or_true, Bool.true_or, reduceIte, List.map_cons, List.map_nil, if_neg h2, if_neg h4, if_neg h6']
theorem pt_T {w c : Nat} {rest turn turn' : Int} : putP (dDic w c rest turn) kT (.int turn') = dDic w c rest turn' := by
  obtain ⟨h1, h2, h3, h4, h5, h6⟩ := kne
  unfold putP dDic
  simp [h3, h5, h6]
theorem ix_K {d : Nat} {kvs : List (Key × PV)} {x : Str} {v : PV} {st : Store} {Q : PV → Store → Prop} (e : st[d]? = some (.dic kvs)) (h : lookK kvs (.inr x) = some v) (q : Q v st) : Wo (ixP (.loc d) (.str x) st) Q := by
  refine ⟨_, _, ?_, q⟩
  simp only [ixP]
  rw [e]
  simp only
  rw [h]; rfl
theorem st_K {d : Nat} {kvs kvs' : List (Key × PV)} {x : Str} {v : PV} {st : Store} {Q : Store → Prop} (e : st[d]? = some (.dic kvs)) (hl : kvs.length < LIM) (h : putP kvs (.inr x) v = kvs') (q : Q (st.set d (.dic kvs'))) : ∃ st3, stP (.loc d) (.str x) v st = some st3 ∧ Q st3 := by
  refine ⟨_, ?_, q⟩
  simp only [stP]
  rw [e]
  simp only [PV.key]
  rw [if_pos hl, h]
theorem dDic_len {w c : Nat} {rest turn : Int} : (dDic w c rest turn).length < LIM := show 4 < LIM by decide
/-- a source of draws, at most B turns so far -/
def DS (d w c : Nat) (cs : List Int) (B : Nat) (s : Store) : Prop := d ≠ w ∧ d ≠ c ∧ w ≠ c ∧ (∃ rest turn : Int, 0 ≤ turn ∧ turn ≤ B ∧ s[d]? = some (.dic (dDic w c rest turn))) ∧ (∃ ws : List Int, s[w]? = some (.lst (ws.map .int)) ∧ ws.length ≤ 1000) ∧ s[c]? = some (.lst (cs.map .int))
/-- all else stands -/
def Fr (d w : Nat) (s s' : Store) : Prop := s.length ≤ s'.length ∧ ∀ (l : Nat) (o : MO), l ≠ d → l ≠ w → s[l]? = some o → s'[l]? = some o
theorem Fr.refl {d w : Nat} (s : Store) : Fr d w s s := ⟨Nat.le_refl _, fun _ _ _ _ h => h⟩
theorem Fr.trans {d w : Nat} {a b c : Store} (h : Fr d w a b) (h' : Fr d w b c) : Fr d w a c := ⟨Nat.le_trans h.1 h'.1, fun l o h1 h2 e => h'.2 l o h1 h2 (h.2 l o h1 h2 e)⟩
theorem Fr.ext {d w : Nat} {a b : Store} (h : Ext a b) : Fr d w a b := ⟨h.len, fun _ _ _ _ e => h.get e⟩
theorem Fr.set_d {d w : Nat} {s : Store} {o : MO} : Fr d w s (s.set d o) := ⟨by rw [List.length_set]; exact Nat.le_refl _, fun l o h1 _ e => get_set_ne e (fun z => h1 z.symm)⟩
theorem Fr.set_w {d w : Nat} {s : Store} {o : MO} : Fr d w s (s.set w o) := ⟨by rw [List.length_set]; exact Nat.le_refl _, fun l o _ h2 e => get_set_ne e (fun z => h2 z.symm)⟩
theorem DS.lt {d w c B : Nat} {cs : List Int} {s : Store} (h : DS d w c cs B s) : d < s.length ∧ w < s.length ∧ c < s.length := by
  obtain ⟨_, _, _, ⟨_, _, _, _, e1⟩, ⟨_, e2, _⟩, e3⟩ := h
  exact ⟨get_lt e1, get_lt e2, get_lt e3⟩
theorem DS.mono {d w c B B' : Nat} {cs : List Int} {s : Store} (h : DS d w c cs B s) (hb : B ≤ B') : DS d w c cs B' s := by
  obtain ⟨h1, h2, h3, ⟨r, t, h4, h5, h6⟩, h7, h8⟩ := h
  exact ⟨h1, h2, h3, ⟨r, t, h4, by omega, h6⟩, h7, h8⟩
theorem DS.ext {d w c B : Nat} {cs : List Int} {s s' : Store} (h : DS d w c cs B s) (x : Ext s s') : DS d w c cs B s' := by
  obtain ⟨h1, h2, h3, ⟨r, t, h4, h5, h6⟩, ⟨ws, h7, h9⟩, h8⟩ := h
  exact ⟨h1, h2, h3, ⟨r, t, h4, h5, x.get h6⟩, ⟨ws, x.get h7, h9⟩, x.get h8⟩
theorem DS.setd {d w c B : Nat} {cs : List Int} {s : Store} {rest turn : Int} (h : DS d w c cs B s) (h0 : 0 ≤ turn) (h1 : turn ≤ B) : DS d w c cs B (s.set d (.dic (dDic w c rest turn))) := by
  obtain ⟨g1, g2, g3, ⟨r, t, h4, h5, h6⟩, ⟨ws, h7, h9⟩, h8⟩ := h
  exact ⟨g1, g2, g3, ⟨rest, turn, h0, h1, get_set_self h6⟩, ⟨ws, get_set_ne h7 g1, h9⟩, get_set_ne h8 g2⟩
theorem bo_mul {i j : Int} {st : Store} {Q : PV → Store → Prop} (hm : okMul i j = true) (h : Q (.int (i * j)) st) : Wo (bop .Mult (.int i) (.int j) st) Q := ⟨_, _, by simp only [bop]; rw [if_pos hm], h⟩
theorem bo_mod {i j : Int} {st : Store} {Q : PV → Store → Prop} (hj : 0 < j) (h : Q (.int (i % j)) st) : Wo (bop .Mod (.int i) (.int j) st) Q := ⟨_, _, by simp only [bop]; rw [if_pos hj], h⟩
theorem bo_div {i j : Int} {st : Store} {Q : PV → Store → Prop} (hj : 0 < j ∧ j < 1073741824) (h : Q (.int (i / j)) st) : Wo (bop .FloorDiv (.int i) (.int j) st) Q := ⟨_, _, by simp only [bop]; rw [if_pos hj], h⟩
theorem bo_pow {i j : Int} {st : Store} {Q : PV → Store → Prop} (hj : 0 ≤ j ∧ j ≤ 1000000 ∧ i.natAbs < 18446744073709551616) (h : Q (.int (i ^ j.toNat)) st) : Wo (bop .Pow (.int i) (.int j) st) Q := ⟨_, _, by simp only [bop]; rw [if_pos hj], h⟩
theorem okMul_l {i j : Int} (h1 : -18446744073709551616 < i) (h2 : i < 18446744073709551616) : okMul i j = true := by
  unfold okMul
  rw [decide_eq_true h1, decide_eq_true h2]; rfl
theorem okMul_r {i j : Int} (h1 : -18446744073709551616 < j) (h2 : j < 18446744073709551616) : okMul i j = true := by
  unfold okMul
  rw [decide_eq_true h1, decide_eq_true h2]; simp
theorem ev_law_mixed {k d w c B : Nat} {cs : List Int} {st : Store} (h : DS d w c cs B st) (hB : B < 1000000) : Wo (evF T N (k + 1) "_law_mixed" [.loc d] st) fun x s => ∃ r : Int, x = .int r ∧ DS d w c cs (B + 1) s ∧ Fr d w st s := by
  refine wf (d := d__law_mixed) (hT e__law_mixed (List.mem_of_getElem? (i := 38) rfl)) rfl ?_
  show WS _ _ b__law_mixed [some (.loc d), none, none, none, none, none] _ _
  unfold b__law_mixed
  trivial
  obtain ⟨g1, g2, g3, ⟨rest, turn, t0, t1, gd⟩, ⟨ws, gw, _⟩, gc⟩ := id h
  refine ix_K gd lk_T (bo_add (st_K gd dDic_len pt_T ?_))
  have h2 : DS d w c cs (B + 1) (st.set d (.dic (dDic w c rest (turn + 1)))) := (h.mono (Nat.le_succ _)).setd (by omega) (by omega)
  have hf : Fr d w st (st.set d (.dic (dDic w c rest (turn + 1)))) := Fr.set_d
  refine ws_fo_enc (enc := fun i => PV.int i) ([2147483647, 2147483629, 2147483587, 2147483579] : List Int) (fun _ ρ s => ∃ f a b e, ρ = [some (.loc d), a, some (.int (turn + 1)), some (.int f), b, e] ∧ Ext (st.set d (.dic (dDic w c rest (turn + 1))) ++ [.lst (([2147483647, 2147483629, 2147483587, 2147483579] : List Int).map PV.int)]) s) (wi_it ?_)
  trivial
  refine ⟨show 4 ≤ LIM by decide, _, new_get, rfl, ⟨_, _, _, _, rfl, Ext.refl _⟩, ?_, ?_, ?_⟩
  · rintro _ ρ s ⟨f, a, b, e, rfl, hx⟩
    exact decide_eq_true (hx.get new_get)
  · rintro done p rest' ρ s es ⟨f, a, b, e, rfl, hx⟩
    have hp : p = 2147483647 ∨ p = 2147483629 ∨ p = 2147483587 ∨ p = 2147483579 := by
      have : p ∈ ([2147483647, 2147483629, 2147483587, 2147483579] : List Int) := by rw [es]; simp
      simpa using this
    have hp0 : 2147483579 ≤ p ∧ p ≤ 2147483647 := by omega
    have hs : DS d w c cs (B + 1) s := (h2.ext (Ext.new1 _)).ext hx
    obtain ⟨_, _, _, ⟨r2, t2, _, _, gd2⟩, _, gc2⟩ := hs
    trivial
    refine bo_mul (okMul_l (by omega) (by omega)) (bo_div (by omega) (bo_add ?_))
    refine ws_fo_enc (enc := fun i => PV.int i) cs (fun _ ρ s' => ∃ bl e, ρ = [some (.loc d), some (.int p), some (.int (turn + 1)), some (.int f), some (.int bl), e] ∧ s' = s ∧ 0 ≤ bl ∧ bl < 18446744073709551616) (wi_it ?_)
    trivial
    refine ix_K gd2 lk_C ⟨_, gc2, rfl, ⟨_, _, rfl, rfl, by omega, by omega⟩, ?_, ?_, ?_⟩
    · rintro _ ρ s' ⟨bl, e, rfl, rfl, _⟩
      exact decide_eq_true gc2
    · rintro _ g _ ρ s' _ ⟨bl, e, rfl, rfl, b0, b1⟩
      trivial
      refine bo_mul (okMul_r (by omega) (by omega)) (bo_add (bo_add (bi_int_int (bo_mod (by omega) ⟨_, _, rfl, rfl, Int.emod_nonneg _ (by omega), ?_⟩))))
      have := Int.emod_lt_of_pos (bl * 69621 + g + (turn + 1)) (show 0 < p by omega)
      omega
    · rintro ρ s' ⟨bl, e, rfl, rfl, b0, b1⟩
      trivial
      exact bo_mul (okMul_r (by omega) (by omega)) (bo_pow (by omega) (bi_int_int (bo_mod (by omega) (bo_add ⟨_, _, _, _, rfl, hx⟩))))
  · rintro ρ s ⟨f, a, b, e, rfl, hx⟩
    trivial
    exact ⟨_, rfl, (h2.ext (Ext.new1 _)).ext hx, hf.trans ((Fr.ext (Ext.new1 _)).trans (Fr.ext hx))⟩
theorem recv_pop {st : Store} {l : Nat} {xs : List PV} (e : st[l]? = some (.lst xs)) : recvP .pop (.loc l) st = true := by simp only [recvP]; rw [e]
theorem mt_pop {st : Store} {l j : Nat} {xs : List PV} {y : PV} {Q : PV → Store → Prop} (e : st[l]? = some (.lst xs)) (hy : xs[j]? = some y) (hl : xs.length ≤ LIM) (h : Q y (st.set l (.lst (xs.eraseIdx j)))) : Wo (methP .pop (.loc l) [.int (j : Nat)] st) Q := by
  refine ⟨_, _, ?_, h⟩
  have hj := (List.getElem?_eq_some_iff.mp hy).1
  simp only [methP]
  rw [e]
  simp only
  have : ixN xs.length ((j : Nat) : Int) = some j := by
    unfold ixN
    rw [if_pos (by omega), if_pos (by omega)]
    simp
  rw [this]
  simp only
  rw [hy]
  simp only
  rw [if_pos hl]
theorem ev_law_take {k d w c B m : Nat} {cs : List Int} {st : Store} (h : DS d w c cs B st) (hB : B < 1000000) (hm : 0 < m) (hm2 : m < 1000000) : Wo (evF T N (k + 2) "_law_take" [.loc d, .int (m : Nat)] st) fun x s => ∃ r : Nat, r < m ∧ x = .int (r : Nat) ∧ DS d w c cs (B + 1) s ∧ Fr d w st s := by
  refine wf (d := d__law_take) (hT e__law_take (List.mem_of_getElem? (i := 39) rfl)) rfl ?_
  show WS _ _ b__law_take [some (.loc d), some (.int (m : Nat)), none] _ _
  unfold b__law_take
  refine ws_sq (ws_mono (Q := fun r => match r with
    | .nx ρ s => ρ = [some (.loc d), some (.int (m : Nat)), none] ∧ DS d w c cs (B + 1) s ∧ Fr d w st s
    | _ => False) ?_ fun r hr => ?_)
  · obtain ⟨g1, g2, g3, ⟨rest, turn, t0, t1, gd⟩, ⟨ws, gw, gwl⟩, gc⟩ := id h
    trivial
    refine ix_K gd lk_R (cmp_eqi ?_)
    by_cases hr : rest = 0
    · rw [decide_eq_true hr]
      trivial
      refine ix_K gd lk_W ⟨Nat.zero_le _, cmpL_ne ((Ext.new1 _).get gw) new_get (pls_map fun _ _ => pl_int) pls_nil fun b hb => ?_⟩
      have h1 : DS d w c cs B (st ++ [.lst []]) := h.ext (Ext.new1 _)
      have f1 : Fr d w st (st ++ [.lst []]) := Fr.ext (Ext.new1 _)
      cases ws with
      | nil =>
        have : b = false := by
          cases b with
          | false => rfl
          | true => exact absurd rfl (hb.mp rfl)
        subst this
        trivial
        refine wo_mono (ev_law_mixed h1 hB) fun x s1 ⟨r, e, h2, f2⟩ => ?_
        subst e
        obtain ⟨_, _, _, ⟨r2, t2, q0, q1, gd2⟩, _, _⟩ := id h2
        refine st_K gd2 dDic_len pt_R ⟨h2.setd q0 q1, (f1.trans f2).trans Fr.set_d⟩
      | cons y ws =>
        have : b = true := hb.mpr (by simp)
        subst this
        trivial
        obtain ⟨_, _, _, ⟨r2, t2, q0, q1, gd2⟩, _, _⟩ := id h1
        refine ix_K gd2 lk_W ⟨recv_pop ((Ext.new1 _).get gw), mt_pop (j := 0) ((Ext.new1 _).get gw) rfl (Nat.le_of_lt (lim_small (by rw [List.length_map]; exact gwl))) ?_⟩
        have gw1 := (Ext.new1 (a := st) (.lst [])).get gw
        refine st_K (get_set_ne gd2 (fun z => g1 z.symm)) dDic_len pt_R ⟨?_, (f1.trans Fr.set_w).trans Fr.set_d⟩
        refine ⟨g1, g2, g3, ⟨_, _, q0, by omega, get_set_self (get_set_ne gd2 (fun z => g1 z.symm))⟩, ⟨ws, get_set_ne (get_set_self gw1) g1, ?_⟩, get_set_ne (get_set_ne ((Ext.new1 _).get gc) g3) g2⟩
        rw [List.length_cons] at gwl
        omega
    · rw [decide_eq_false hr]
      trivial
      exact ⟨h.mono (Nat.le_succ _), Fr.refl _⟩
  · cases r with
    | nx ρ s =>
      obtain ⟨rfl, h1, f1⟩ := hr
      show WS _ _ _ _ _ _
      obtain ⟨_, _, _, ⟨rest, turn, t0, t1, gd⟩, _, _⟩ := id h1
      trivial
      refine ix_K gd lk_R (bi_int_int (bo_mod (by omega) ?_))
      refine ix_K gd lk_R (bo_div (by omega) (st_K gd dDic_len pt_R ?_))
      have a := Int.emod_nonneg rest (show (m : Int) ≠ 0 by omega)
      have b := Int.emod_lt_of_pos rest (show 0 < (m : Int) by omega)
      exact ⟨(rest % (m : Int)).toNat, by omega, by rw [Int.toNat_of_nonneg a], h1.setd t0 t1, f1.trans Fr.set_d⟩
    | rt _ _ => exact hr.elim
    | bk _ _ => exact hr.elim
    | cn _ _ => exact hr.elim
theorem ev_law_pick {k d w c B p : Nat} {cs : List Int} {st : Store} {xs : List PV} (h : DS d w c cs B st) (hB : B < 1000000) (hp : st[p]? = some (.lst xs)) (hpd : p ≠ d) (hpw : p ≠ w) (h0 : 0 < xs.length) (h1 : xs.length < 1000) : Wo (evF T N (k + 3) "_law_pick" [.loc d, .loc p] st) fun x s => x ∈ xs ∧ DS d w c cs (B + 1) s ∧ Fr d w st s := by
  refine wf (d := d__law_pick) (hT e__law_pick (List.mem_of_getElem? (i := 40) rfl)) rfl ?_
  show WS _ _ b__law_pick [some (.loc d), some (.loc p)] _ _
  unfold b__law_pick
  trivial
  refine bi_len_loc hp (wo_mono (ev_law_take h hB h0 (by omega)) fun x s ⟨r, hr, e, h2, f2⟩ => ?_)
  subst e
  exact ix_loc (f2.2 p _ hpd hpw hp) (List.getElem?_eq_getElem hr) ⟨List.getElem_mem _, h2, f2⟩
theorem erase_perm {α : Type} : ∀ {l : List α} {r : Nat} (h : r < l.length), ([l[r]] ++ l.eraseIdx r).Perm l
  | x :: l, 0, _ => List.Perm.refl _
  | x :: l, r + 1, h => by
    have hr : r < l.length := by simpa using h
    have ih := erase_perm (l := l) (r := r) hr
    show (l[r] :: x :: l.eraseIdx r).Perm (x :: l)
    exact (List.Perm.swap x l[r] _).trans (ih.cons x)
theorem pls_mem {n : Nat} : ∀ {l : List PV} {x : PV}, pls n l = true → x ∈ l → x.pl n = true
  | y :: l, x, h, hx => by
    rw [pls, Bool.and_eq_true] at h
    rcases List.mem_cons.mp hx with e | hx
    · rw [e]; exact h.1
    · exact pls_mem h.2 hx
theorem ev_law_shuffled {k d w c B p : Nat} {cs : List Int} {st : Store} {xs : List PV} (h : DS d w c cs B st) (hB : B + xs.length < 1000000) (hp : st[p]? = some (.lst xs)) (hpd : p ≠ d) (hpw : p ≠ w) (h1 : xs.length < 100) (hN : 100 < N) (hpl : pls 30 xs = true) : Wo (evF T N (k + 3) "_law_shuffled" [.loc d, .loc p] st) fun x s => ∃ q ys, x = .loc q ∧ s[q]? = some (.lst ys) ∧ ys.Perm xs ∧ st.length ≤ q ∧ DS d w c cs (B + xs.length) s ∧ Fr d w st s := by
  refine wf (d := d__law_shuffled) (hT e__law_shuffled (List.mem_of_getElem? (i := 41) rfl)) rfl ?_
  show WS _ _ b__law_shuffled [some (.loc d), some (.loc p), none, none] _ _
  unfold b__law_shuffled
  have hlt := h.lt
  trivial
  refine bi_list_loc hp ⟨Nat.zero_le _, ?_⟩
  have e1 : (st ++ [MO.lst xs]).length = st.length + 1 := by simp
  rw [e1]
  refine ws_wh (fun m ρ s => ρ = [some (.loc d), some (.loc p), some (.loc st.length), some (.loc (st.length + 1))] ∧ ∃ left done B', s[st.length]? = some (.lst left) ∧ s[st.length + 1]? = some (.lst done) ∧ (done ++ left).Perm xs ∧ m = left.length ∧ B' + left.length ≤ B + xs.length ∧ DS d w c cs B' s ∧ Fr d w st s ∧ st.length + 2 ≤ s.length) (n := xs.length) ⟨rfl, xs, [], B, (Ext.new1 _).get new_get, by rw [← e1]; exact new_get, List.Perm.refl _, rfl, Nat.le_refl _, (h.ext (Ext.new1 _)).ext (Ext.new1 _), (Fr.ext (Ext.new1 _)).trans (Fr.ext (Ext.new1 _)), by simp⟩ (by omega) ?_
  rintro m ρ s ⟨rfl, left, done, B', gl, gd, pm, rfl, hb, hd, hf, hsl⟩
  have pml := pm.length_eq
  rw [List.length_append] at pml
  have ple : pls 30 left = true := pls_of fun x hx => pls_mem hpl (pm.mem_iff.mp (List.mem_append_right _ hx))
  trivial
  refine ⟨Nat.zero_le _, cmpL_ne ((Ext.new1 _).get gl) new_get ple pls_nil fun b hb' => ?_⟩
  have hd1 := hd.ext (Ext.new1 (.lst []))
  cases left with
  | nil =>
    have : b = false := by
      cases b with
      | false => rfl
      | true => exact absurd rfl (hb'.mp rfl)
    subst this
    trivial
    refine ⟨st.length + 1, done, rfl, (Ext.new1 _).get gd, by simpa using pm, by omega, hd1.mono (by simpa using hb), hf.trans (Fr.ext (Ext.new1 _))⟩
  | cons y left =>
    have : b = true := hb'.mpr (by simp)
    subst this
    trivial
    have hdl := hd.lt
    have gl1 := (Ext.new1 (.lst [])).get gl
    have gd1 := (Ext.new1 (.lst [])).get gd
    refine ⟨recv_append gd1, recv_pop gl1, bi_len_loc gl1 (wo_mono (ev_law_take (m := (y :: left).length) hd1 (by rw [List.length_cons] at hb; omega) (by simp) (by omega)) fun x s2 ⟨r, hr, e, h2, f2⟩ => ?_)⟩
    subst e
    have gl2 := f2.2 _ _ (show st.length ≠ d by omega) (show st.length ≠ w by omega) gl1
    have gd2 := f2.2 _ _ (show st.length + 1 ≠ d by omega) (show st.length + 1 ≠ w by omega) gd1
    refine mt_pop gl2 (List.getElem?_eq_getElem hr) (Nat.le_of_lt (lim_small (by omega))) ?_
    refine mt_append (get_set_ne gd2 (by omega)) (lim_small (by omega)) ?_
    have e9 : ((y :: left).eraseIdx r).length = left.length := by rw [List.length_eraseIdx, if_pos hr]; rfl
    refine ⟨((y :: left).eraseIdx r).length, by rw [e9]; simp, (y :: left).eraseIdx r, done ++ [(y :: left)[r]], B' + 1, get_set_ne (get_set_self gl2) (by omega), get_set_self (get_set_ne gd2 (by omega)), ?_, rfl, by rw [e9]; rw [List.length_cons] at hb; omega, ?_, ?_, ?_⟩
    · rw [List.append_assoc]
      refine List.Perm.trans (List.Perm.append_left _ ?_) pm
      exact erase_perm hr
    · obtain ⟨a1, a2, a3, ⟨r4, t4, q0, q1, gd4⟩, ⟨ws, gw, gwl⟩, gc⟩ := h2
      exact ⟨a1, a2, a3, ⟨r4, t4, q0, q1, get_set_ne (get_set_ne gd4 (by omega)) (by omega)⟩, ⟨ws, get_set_ne (get_set_ne gw (by omega)) (by omega), gwl⟩, get_set_ne (get_set_ne gc (by omega)) (by omega)⟩
    · have f3 := (hf.trans (Fr.ext (Ext.new1 (.lst [])))).trans f2
      refine ⟨by rw [List.length_set, List.length_set]; exact f3.1, fun l o q1 q2 e => ?_⟩
      have := get_lt e
      exact get_set_ne (get_set_ne (f3.2 l o q1 q2 e) (by omega)) (by omega)
    · rw [List.length_set, List.length_set]
      have := f2.1
      rw [List.length_append] at this
      omega
end Mi.K32

namespace Mi.K32
open PySem PySem.Spec PyProof.Rows L2 Mi
variable {N : Nat}
local macro_rules | `(tactic| trivial) => `(tactic| simp only [wi_sn, wi_sq, wi_as, wi_asl, wi_pr2, wi_pr3, wi_ex, wi_cnd, wi_re, wi_rn, wi_br, wi_ct, wi_pa, th_nx, th_rt, th_bk, th_cn, ret_rt, ret_nx, we_bl, wb_ac, wb_last, we_cm, we_v, we_tp, we_ls, wa_an, wa_ac, we_nt, we_isi, we_ch, we_k, we_g, we_bi, we_nb, we_ca, we_ix, we_bo, we_ie, we_mth, we_sl, wop_no, wop_it, we_d0, wt_an, wt_ac, wg_tn, wg_tt, wg_ts, wgs_ac, wgs_an, tr_bl, List.getElem?_cons_zero, List.getElem?_cons_succ, List.set_cons_zero, List.set_cons_succ, Option.some.injEq, exists_eq_left', List.length_cons, List.length_nil, List.map_cons, List.map_nil, wipeP, Bool.not_true, Bool.not_false, reduceIte, Bool.false_eq_true, and_true, true_and])
theorem toStrs_map (l : List Str) : toStrs (l.map .str) = some l := by
  induction l with
  | nil => rfl
  | cons x l ih => rw [List.map_cons, toStrs, ih]
theorem bi_sorted_strs {l : List Str} {p : Nat} {st : Store} {Q : PV → Store → Prop} (e : st[p]? = some (.lst (l.map .str))) (hl : l.length < 64) (h : Q (.loc st.length) (st ++ [.lst ((isortS l).map .str)])) : Wo (biP .sorted [.loc p] st) Q := by
  refine ⟨_, _, ?_, h⟩
  simp only [biP, sortP]
  rw [e]
  simp only [sortL]
  cases l with
  | nil => rfl
  | cons x r =>
    have e1 : toInts ((x :: r).map PV.str) = none := rfl
    rw [e1]
    simp only
    rw [toStrs_map]
    simp only
    rw [if_pos hl]
def unS : PV → Str
  | .str x => x
  | _ => ""
theorem perm_strs : ∀ {ys : List PV} {l : List Str}, ys.Perm (l.map .str) → ∃ l' : List Str, ys = l'.map .str ∧ l'.Perm l
  | ys, l, h => by
    have : ∀ {ys : List PV}, (∀ y ∈ ys, ∃ x : Str, y = .str x) → ∃ l' : List Str, ys = l'.map .str := fun {ys} => by
      induction ys with
      | nil => exact fun _ => ⟨[], rfl⟩
      | cons y ys ih =>
        intro h
        obtain ⟨x, hx⟩ := h y List.mem_cons_self
        obtain ⟨l', e⟩ := ih fun z hz => h z (List.mem_cons_of_mem _ hz)
        exact ⟨x :: l', by rw [hx, e]; rfl⟩
    obtain ⟨l', e⟩ := this (ys := ys) fun y hy => by
      obtain ⟨x, _, e⟩ := List.mem_map.mp (h.mem_iff.mp hy)
      exact ⟨x, e.symm⟩
    subst e
    refine ⟨l', rfl, ?_⟩
    have := h.map unS
    rw [List.map_map, List.map_map] at this
    have e : (unS ∘ PV.str) = id := rfl
    rw [e, List.map_id, List.map_id] at this
    exact this
/-- one letter, or one seat -/
theorem names_pl : pls 30 (names3.map .str) = true := pls_map fun x hx => pl_str (by
  have : names3.all PyData.strOk = true := by decide +kernel
  exact List.all_eq_true.mp this x hx)
theorem drawn_one {k d w c B p n1 n2 : Nat} {cs : List Int} {st : Store} {ρ : Env} {is : List Nat} {lit : IR} (h : DS d w c cs B st) (hB : B < 900000) (hp : st[p]? = some (.lst (names3.map .str))) (hpd : p ≠ d) (hpw : p ≠ w) (hN : 100 < N) (h1 : ρ[n1]? = some (some (.loc d))) (h2 : ρ[n2]? = some (some (.loc p)))
    (hlit : ∀ s, WA (evF T N (k + 3)) lit ρ s fun xs s' => xs = eN is ∧ s' = s) (his : ∀ i ∈ is, i < 4) (hi0 : 0 < is.length) (hil : is.length < 100) :
    WE (evF T N (k + 3)) (.bi .tuple (.ac (.bi .sorted (.ac (.sl (.ca "_law_shuffled" (.ac (.v n1) (.ac (.v n2) .an))) .no (.it (.ca "_law_pick" (.ac (.v n1) (.ac (.ls lit) .an))))) .an)) .an)) ρ st fun x s => ∃ l, l ∈ letters8 ∧ x = eL l ∧ DS d w c cs (B + 4) s ∧ Fr d w st s := by
  trivial
  have hlt := h.lt
  refine ⟨_, h1, _, h2, wo_mono (ev_law_shuffled h (by simp [names3]; omega) hp hpd hpw (by decide) hN names_pl) fun x s ⟨q, ys, e, gq, pm, hq, hd, hf⟩ => ?_⟩
  subst e
  obtain ⟨l, rfl, pm'⟩ := perm_strs pm
  have hd : DS d w c cs (B + 3) s := hd
  refine ⟨_, h1, wo_mono (hlit s) fun xs s' ⟨e1, e2⟩ => ?_⟩
  subst e1 e2
  refine ⟨by rw [eN_len]; exact Nat.le_of_lt (lim_small (by omega)), ?_⟩
  have hd1 := hd.ext (Ext.new1 (.lst (eN is)))
  have hlt1 := hd.lt
  refine wo_mono (ev_law_pick hd1 (by omega) new_get (by omega) (by omega) (by rw [eN_len]; exact hi0) (by rw [eN_len]; omega)) fun x s2 ⟨hx, hd2, hf2⟩ => ?_
  obtain ⟨i, hi, rfl⟩ := List.mem_map.mp hx
  have gq2 := hf2.2 _ _ (show q ≠ d by omega) (show q ≠ w by omega) ((Ext.new1 _).get gq)
  refine ⟨_, rfl, sl_loc gq2 ?_⟩
  have ec : cutP (l.map PV.str) none (some ((i : Nat) : Int)) = (l.take i).map .str := by rw [cut_to, List.map_take]
  rw [ec]
  have hll : l.length = 3 := pm'.length_eq
  refine bi_sorted_strs new_get (by rw [List.length_take]; omega) (bi_tuple_loc new_get ⟨_, drawn_sorted pm' (his i hi), rfl, (hd2.ext (Ext.new1 _)).ext (Ext.new1 _), ?_⟩)
  exact (hf.trans (Fr.ext (Ext.new1 _))).trans (hf2.trans ((Fr.ext (Ext.new1 _)).trans (Fr.ext (Ext.new1 _))))
/-- a drawn row -/
theorem drawn_row {k d w c B p m v : Nat} {cs : List Int} {st : Store} {ρ : Env} {items : List PV} {is : List Nat} {lit : IR} (h : DS d w c cs B st) (hB : B < 800000) (hp : st[p]? = some (.lst (names3.map .str))) (hpd : p ≠ d) (hpw : p ≠ w) (hN : 100 < N) (h1 : ρ[0]? = some (some (.loc d))) (h2 : ρ[3]? = some (some (.loc p))) (hv : v = 5)
    (hlit : ∀ ρ s, WA (evF T N (k + 3)) lit ρ s fun xs s' => xs = eN is ∧ s' = s) (his : ∀ i ∈ is, i < 4) (hi0 : 0 < is.length) (hil : is.length < 100) (hl : items.length = m) (hm : m ≤ 100) :
    Wo (loopC (stands none items) (evG (evF T N (k + 3)) (.tn v)) (fun ρ st => evT (evF T N (k + 3)) .an ρ st) (fun ρ st => evE (evF T N (k + 3)) (.bi .tuple (.ac (.bi .sorted (.ac (.sl (.ca "_law_shuffled" (.ac (.v 0) (.ac (.v 3) .an))) .no (.it (.ca "_law_pick" (.ac (.v 0) (.ac (.ls lit) .an))))) .an)) .an)) ρ st) ρ items [] st) fun ys s => ∃ ls, ys = ls.map eL ∧ Drawn ls ∧ ls.length = m ∧ DS d w c cs (B + 4 * m) s ∧ Fr d w st s := by
  subst hv
  refine loopC_inv _ _ _ (fun rest acc s => ∃ ls, acc = ls.map eL ∧ Drawn ls ∧ ls.length + rest.length = m ∧ DS d w c cs (B + 4 * ls.length) s ∧ Fr d w st s) ⟨[], rfl, (fun l hl => by cases hl), by simpa using hl, h, Fr.refl _⟩ ?_ ?_
  · rintro x r acc s ⟨ls, rfl, hdr, hll, hd, hf⟩
    rw [List.length_cons] at hll
    refine ⟨rfl, by rw [List.length_map]; exact lim_small (by omega), ?_⟩
    refine wg_tn.mpr (wt_an.mpr ?_)
    rw [if_pos rfl]
    refine wo_mono (drawn_one (ρ := ρ.set 5 (some x)) hd (by omega) (hf.2 _ _ hpd hpw hp) hpd hpw hN ?_ ?_ (fun s => hlit _ s) his hi0 hil) fun y s2 ⟨l, hl8, e, hd2, hf2⟩ => ?_
    · rw [List.getElem?_set_ne (by omega)]; exact h1
    · rw [List.getElem?_set_ne (by omega)]; exact h2
    · subst e
      refine ⟨ls ++ [l], by rw [List.map_append]; rfl, fun z hz => ?_, by rw [List.length_append]; simp; omega, ?_, hf.trans hf2⟩
      · rcases List.mem_append.mp hz with hz | hz
        · exact hdr z hz
        · rw [List.mem_singleton.mp hz]; exact hl8
      · have e : B + 4 * (ls ++ [l]).length = B + 4 * ls.length + 4 := by simp; omega
        rw [e]; exact hd2
  · rintro acc s ⟨ls, rfl, hdr, hll, hd, hf⟩
    have e : ls.length = m := by simpa using hll
    exact ⟨rfl, ls, rfl, hdr, e, e ▸ hd, hf⟩
theorem ev_law_drawn {k d w c B : Nat} {cs : List Int} {st : Store} (h : DS d w c cs B st) (hB : B < 100000) (hN : 100 < N) : Wo (evF T N (k + 4) "_law_drawn" [.loc d] st) fun x s => ∃ seats pool, x = .tup [eP seats, eP pool] ∧ Drawn seats ∧ Drawn pool ∧ seats.length ≤ 6 ∧ pool.length ≤ 7 ∧ DS d w c cs (B + 100) s ∧ Fr d w st s := by
  refine wf (d := d__law_drawn) (hT e__law_drawn (List.mem_of_getElem? (i := 42) rfl)) rfl ?_
  show WS _ _ b__law_drawn [some (.loc d), none, none, none, none, none] _ _
  unfold b__law_drawn
  have hlt := h.lt
  trivial
  refine ⟨show 3 ≤ LIM by decide, Nat.zero_le _, show 2 ≤ LIM by decide, ?_⟩
  refine we_lc (wi_rg1 ?_)
  trivial
  have h1 := (h.ext (Ext.new1 (.lst (names3.map .str)))).ext (Ext.new1 (.lst []))
  refine wo_mono (ev_law_take (m := 7) h1 (by omega) (by omega) (by omega)) fun x s1 ⟨r, hr, e, hd, hf⟩ => ⟨(r : Nat), e, by omega, ?_⟩
  rw [Int.toNat_natCast]
  have hp := hf.2 _ _ (show st.length ≠ d by omega) (show st.length ≠ w by omega) ((Ext.new1 (.lst [])).get (new_get (st := st) (o := .lst (names3.map .str))))
  refine wo_mono (drawn_row (m := r) (is := [0, 1, 1, 2, 2, 3]) hd (by omega) hp (by omega) (by omega) hN rfl rfl rfl (fun ρ s => ?_) (by decide) (by decide) (by decide) (by simp) (by omega)) fun ys s2 ⟨ls, e2, hdr, hll, hd2, hf2⟩ => ?_
  · trivial
    rfl
  subst e2
  refine bi_tuple_loc new_get ?_
  refine we_lc (wi_rg1 ?_)
  trivial
  have hd3 := hd2.ext (Ext.new1 (.lst (ls.map eL)))
  refine wo_mono (ev_law_take (m := 8) hd3 (by omega) (by omega) (by omega)) fun x s3 ⟨r', hr', e', hd4, hf4⟩ => ⟨(r' : Nat), e', by omega, ?_⟩
  rw [Int.toNat_natCast]
  have hp2 := hf4.2 _ _ (show st.length ≠ d by omega) (show st.length ≠ w by omega) ((Ext.new1 (.lst (ls.map eL))).get (hf2.2 _ _ (show st.length ≠ d by omega) (show st.length ≠ w by omega) hp))
  refine wo_mono (drawn_row (m := r') (is := [0, 1, 1, 2, 3]) hd4 (by omega) hp2 (by omega) (by omega) hN rfl rfl rfl (fun ρ s => ?_) (by decide) (by decide) (by decide) (by simp) (by omega)) fun ys s4 ⟨ls', e4, hdr', hll', hd5, hf5⟩ => ?_
  · trivial
    rfl
  subst e4
  refine bi_tuple_loc new_get ⟨show 2 ≤ LIM by decide, ls, ls', rfl, hdr, hdr', by omega, by omega, (hd5.ext (Ext.new1 _)).mono (by omega), ?_⟩
  exact (((Fr.ext (Ext.new1 _)).trans (Fr.ext (Ext.new1 _))).trans hf).trans ((hf2.trans (Fr.ext (Ext.new1 _))).trans ((hf4.trans hf5).trans (Fr.ext (Ext.new1 _))))
end Mi.K32

namespace Mi.K32
open PySem PySem.Spec PyProof.Rows L2 Mi
variable {N : Nat}
local macro_rules | `(tactic| trivial) => `(tactic| simp only [wi_sn, wi_sq, wi_as, wi_asl, wi_pr2, wi_pr3, wi_ex, wi_cnd, wi_re, wi_rn, wi_br, wi_ct, wi_pa, th_nx, th_rt, th_bk, th_cn, ret_rt, ret_nx, we_bl, wb_ac, wb_last, we_cm, we_v, we_tp, we_ls, wa_an, wa_ac, we_nt, we_isi, we_ch, we_k, we_g, we_bi, we_nb, we_ca, we_ix, we_bo, we_ie, we_mth, we_sl, wop_no, wop_it, we_d0, wt_an, wt_ac, wg_tn, wg_tt, wg_ts, wgs_ac, wgs_an, tr_bl, List.getElem?_cons_zero, List.getElem?_cons_succ, List.set_cons_zero, List.set_cons_succ, Option.some.injEq, exists_eq_left', List.length_cons, List.length_nil, List.map_cons, List.map_nil, wipeP, Bool.not_true, Bool.not_false, reduceIte, Bool.false_eq_true, and_true, true_and])
theorem cmpT_eq {st : Store} {a b : PV} {Q : Bool → Prop} (ha : a.pl 30 = true) (hb : b.pl 30 = true) (e : a = b) (h : Q true) : ∃ c, cmp .Eq st a b = some c ∧ Q c := cmp_eq ha hb fun c hc => by rw [hc.mpr e]; exact h
theorem cmpT_ne {st : Store} {a b : PV} {Q : Bool → Prop} (ha : a.pl 30 = true) (hb : b.pl 30 = true) (e : a = b) (h : Q false) : ∃ c, cmp .NotEq st a b = some c ∧ Q c := cmp_ne ha hb fun c hc => by
  have : c = false := by
    cases c with
    | false => rfl
    | true => exact absurd e (hc.mp rfl)
  rw [this]; exact h
theorem cmpLT_eq {st : Store} {a b : Nat} {xs ys : List PV} {Q : Bool → Prop} (ha : st[a]? = some (.lst xs)) (hb : st[b]? = some (.lst ys)) (px : pls 30 xs = true) (e : xs = ys) (h : Q true) : ∃ c, cmp .Eq st (.loc a) (.loc b) = some c ∧ Q c := by
  subst e
  exact cmpL_eq ha hb px px fun c hc => by rw [hc.mpr rfl]; exact h
theorem cmpLT_ne {st : Store} {a b : Nat} {xs ys : List PV} {Q : Bool → Prop} (ha : st[a]? = some (.lst xs)) (hb : st[b]? = some (.lst ys)) (px : pls 30 xs = true) (e : xs = ys) (h : Q false) : ∃ c, cmp .NotEq st (.loc a) (.loc b) = some c ∧ Q c := by
  subst e
  refine cmpL_ne ha hb px px fun c hc => ?_
  have : c = false := by
    cases c with
    | false => rfl
    | true => exact absurd rfl (hc.mp rfl)
  rw [this]; exact h
theorem pl_Q {n : Nat} {p : Nat × Nat} : (eQ p).pl (n + 1) = true := by unfold eQ; rw [PV.pl, pls, pls, pls, pl_int, pl_int]; rfl
theorem pl_R {n : Nat} {p : Nat × List Nat} : (eR p).pl (n + 2) = true := by unfold eR; rw [PV.pl, pls, pls, pls, pl_int, pl_N]; rfl
theorem pls_N {n : Nat} {l : List Nat} : pls n (eN l) = true := pls_map fun _ _ => pl_int
theorem seatsOf_len {seats pool : List Let} {l : List Nat} : (seatsOf seats (lets pool l)).length = fitN seats pool l := by
  unfold seatsOf fitN lets FF
  congr 1
  refine List.filter_congr fun s _ => ?_
  rw [List.any_map]; rfl
/-- the paper of the best lot -/
def paper (seats pool : List Let) (f : Nat → Nat) : PV := .tup [.str "best", .tup ((grd (canB seats pool) pool.length).map fun k => eQ (k, f k)), .tup ((rfs (canB seats pool) pool.length).map fun r => eR (r, lotOf (canB seats pool) r))]
theorem ev_law_paper {k : Nat} {seats pool : List Let} {f : Nat → Nat} {st : Store} (hs : Good 6 seats) (hp : Good 60 pool) (hf : Sit (FF seats pool) seats.length f (· ∈ grd (canB seats pool) pool.length)) (hr : ∀ r ∈ rfs (canB seats pool) pool.length, LF seats pool r) : Wo (evF T N (k + 4) "_law_paper_is_right" [eP seats, eP pool, paper seats pool f] st) fun x st' => x = .bl true ∧ Ext st st' := by
  refine wf (d := d__law_paper_is_right) (hT e__law_paper_is_right (List.mem_of_getElem? (i := 49) rfl)) rfl ?_
  show WS _ _ b__law_paper_is_right [some (eP seats), some (eP pool), some (paper seats pool f), none, none, none, none, none] _ _
  unfold b__law_paper_is_right
  have hsl := hs.2
  have hpl := hp.2
  generalize hG : grd (canB seats pool) pool.length = G at hf
  generalize hR : rfs (canB seats pool) pool.length = R at hr
  have hGl : ∀ x ∈ G, x < pool.length := fun x hx => by rw [← hG] at hx; exact grd_lt hx
  have hGn : G.length ≤ pool.length := by rw [← hG]; exact grd_len_le
  have hRl : ∀ x ∈ R, x < pool.length := fun x hx => by rw [← hR] at hx; exact rfs_lt hx
  have hRn : R.length ≤ pool.length := by
    rw [← hR]; exact nodup_len_le (rfs_sorted.imp fun h => Nat.ne_of_lt h) fun x hx => rfs_lt hx
  have eP1 : paper seats pool f = .tup [.str "best", .tup (G.map fun k => eQ (k, f k)), .tup (R.map fun r => eR (r, lotOf (canB seats pool) r))] := by unfold paper; rw [hG, hR]
  rw [eP1]
  trivial
  refine wo_mono (ev_law_best hs.1 hsl (by omega)) fun x s1 ⟨e1, x1⟩ => ?_
  rw [hG] at e1
  subst e1
  refine ix_tup (i := 0) rfl (cmpT_ne (pl_str (by decide +kernel)) (pl_str (by decide +kernel)) rfl ?_)
  trivial
  refine we_lc (wi_it ?_)
  trivial
  refine ix_tup (i := 1) rfl ?_
  show Wo (loopC _ _ _ _ _ _ _ _) _
  refine wo_mono (loopC_all (xs := G) (enc := fun k => eQ (k, f k)) (Ext s1) (fun k => .int (k : Nat)) (Ext.refl _) (fun _ _ => rfl) (lim_small (by omega)) fun k hk s h => ?_) fun ys s2 ⟨e2, x2⟩ => ?_
  · unfold eQ
    trivial
    exact h
  subst e2
  refine bi_tuple_loc new_get (cmpT_ne pl_N pl_N rfl ?_)
  trivial
  refine we_lc (wi_it ?_)
  trivial
  refine ix_tup (i := 1) rfl ?_
  show Wo (loopC _ _ _ _ _ _ _ _) _
  refine wo_mono (loopC_all (xs := G) (enc := fun k => eQ (k, f k)) (Ext (s2 ++ [.lst (eN G)])) (fun k => .int (f k : Nat)) (Ext.refl _) (fun _ _ => rfl) (lim_small (by omega)) fun k hk s h => ?_) fun ys s3 ⟨e3, x3⟩ => ?_
  · unfold eQ
    trivial
    exact h
  have e3 : ys = eN (G.map f) := by rw [e3]; unfold eN; rw [List.map_map]; rfl
  subst e3
  have hGnd : G.Nodup := by rw [← hG]; exact grd_nodup
  refine we_nblenL new_get (nodup_map_inj hGnd fun a ha b hb e => hf.2 a b ha hb e) (by rw [List.length_map]; omega) (bi_len_tup (cmp_nei ?_))
  rw [eN_len, List.length_map, decide_eq_false (fun h => h rfl)]
  trivial
  refine we_lc (wi_it ?_)
  trivial
  refine ix_tup (i := 1) rfl ?_
  show Wo (loopC _ _ _ _ _ _ _ _) _
  refine wo_mono (loopC_fil (xs := G) (enc := fun k => eQ (k, f k)) (Ext (s3 ++ [.lst (eN (G.map f))])) (fun _ => false) (fun k => .int (k : Nat)) (Ext.refl _) (fun _ _ => rfl) (lim_small (by omega)) fun k hk s h => ?_) fun ys s4 ⟨e4, x4⟩ => ?_
  · unfold eQ
    trivial
    obtain ⟨h1, h2⟩ := hf.1 k hk
    refine ix_P (hGl k hk) (ix_P h1 (wo_mono (ev_law_fits (getD_ok hs.1 _)) fun r s5 ⟨e5, x5⟩ => ?_))
    subst e5
    have h2 : fitsP (pool.getD k []) (seats.getD (f k) []) = true := h2
    rw [h2]
    trivial
    exact ⟨h.trans x5, fun z => by cases z⟩
  have e4 : ys = [] := by rw [e4]; simp
  subst e4
  refine ⟨Nat.zero_le _, cmpLT_ne ((Ext.new1 _).get new_get) new_get pls_nil rfl ?_⟩
  trivial
  refine we_lc (wi_it ?_)
  trivial
  refine ix_tup (i := 2) rfl ?_
  show Wo (loopC _ _ _ _ _ _ _ _) _
  refine wo_mono (loopC_all (xs := R) (enc := fun r => eR (r, lotOf (canB seats pool) r)) (Ext (s4 ++ [.lst []] ++ [.lst []])) (fun k => .int (k : Nat)) (Ext.refl _) (fun _ _ => rfl) (lim_small (by omega)) fun k hk s h => ?_) fun ys s5 ⟨e5, x5⟩ => ?_
  · unfold eR
    trivial
    exact h
  subst e5
  refine we_lc (wi_rg1 ?_)
  trivial
  refine bi_len_tup ⟨(pool.length : Nat), by rw [List.length_map], by omega, ?_⟩
  rw [Int.toNat_natCast]
  refine wo_mono (loopC_fil (xs := List.range pool.length) (enc := fun i => PV.int (i : Nat)) (Ext (s5 ++ [.lst (eN R)])) (fun k => decide (k ∉ G)) (fun i => .int (i : Nat)) (Ext.refl _) (fun _ _ => rfl) (lim_small (by rw [List.length_range]; omega)) fun i hi s6 h1 => ?_) fun ys s6 ⟨e6, x6⟩ => ?_
  · trivial
    exact cmp_nin in_nat ⟨by simp, h1, fun _ => h1⟩
  have e6 : ys = eN R := by rw [e6, eN_filter, ← hR, rfs_eq, hG]
  subst e6
  refine cmpLT_ne ((x6.trans (Ext.new1 _)).get new_get) new_get pls_N rfl ?_
  trivial
  refine we_lc (wi_it ?_)
  trivial
  refine ix_tup (i := 2) rfl ?_
  show Wo (loopC _ _ _ _ _ _ _ _) _
  refine wo_mono (loopC_fil (xs := R) (enc := fun r => eR (r, lotOf (canB seats pool) r)) (Ext (s6 ++ [.lst (eN R)])) (fun _ => false) (fun k => .int (k : Nat)) (Ext.refl _) (fun _ _ => rfl) (lim_small (by omega)) fun r hrR s h => ?_) fun ys s7 ⟨e7, x7⟩ => ?_
  · have lf := hr r hrR
    have hrl := hRl r hrR
    have hlot : ∀ x ∈ lotOf (canB seats pool) r, x < r := fun x hx => grd_lt (lotOf_sub hx)
    have hlotn : (lotOf (canB seats pool) r).length ≤ 60 := by
      have := nodup_len_le lotOf_nodup hlot
      omega
    unfold eR
    trivial
    refine we_lc (wi_it ?_)
    trivial
    refine ⟨show 1 ≤ LIM by decide, bo_tup (by rw [eN_len]; exact Nat.le_of_lt (lim_small (by simp; omega))) ?_⟩
    have e8 : eN (lotOf (canB seats pool) r) ++ [PV.int (r : Nat)] = eN (lotOf (canB seats pool) r ++ [r]) := eN_snoc _ _
    rw [e8]
    show Wo (loopC _ _ _ _ _ _ _ _) _
    refine wo_mono (lc_lets (src := none) (v := 1) (w := 7) (pool := pool) (by omega) rfl (by simp only [List.length_cons, List.length_nil]; omega) (fun k hk => ?_) (by simp; omega) fun _ _ => rfl) fun ys s8 ⟨e9, x9⟩ => ?_
    · rcases List.mem_append.mp hk with hk | hk
      · have := hlot k hk; omega
      · simp at hk; omega
    subst e9
    refine wo_mono (ev_law_seats_of hs.1 (by omega) (fun l hl => ?_) (by unfold lets; rw [List.length_map, List.length_append]; simp; omega) new_get) fun x s9 ⟨p, e10, gp, x10⟩ => ?_
    · unfold lets at hl
      obtain ⟨i, _, rfl⟩ := List.mem_map.mp hl
      exact getD_ok hp.1 i
    subst e10
    refine bi_len_loc gp (bi_len_tup (cmp_nei ?_))
    rw [eN_len, eN_len, seatsOf_len, lf.fit, decide_eq_false (fun h => h rfl)]
    trivial
    refine wo_mono (ev_law_least_lot hs.1 hsl hGl (by omega) hrl) fun x s10 ⟨e11, x11⟩ => ?_
    have e12 : G.filter (fun x => decide (x < r)) = grd (canB seats pool) r := by rw [← hG]; exact grd_prefix (by omega)
    rw [e12, lf.lean] at e11
    subst e11
    refine cmpT_ne pl_N pl_N rfl ?_
    have := h.trans (((x9.new _).trans x10).trans x11)
    exact ⟨rfl, this, fun z => by cases z⟩
  have e7 : ys = [] := by rw [e7]; simp
  subst e7
  refine ⟨Nat.zero_le _, cmpLT_eq ((Ext.new1 _).get new_get) new_get pls_nil rfl ⟨rfl, ?_⟩⟩
  have a := (x1.trans x2).trans ((Ext.new1 _).trans (x3.trans ((Ext.new1 _).trans x4)))
  exact a.trans ((((Ext.new1 _).new _).trans x5).trans ((Ext.new1 _).trans (x6.trans ((Ext.new1 _).trans ((x7.new _).new _)))))
end Mi.K32

namespace Mi.K32
open PySem PySem.Spec PyProof.Rows L2 Mi
variable {N : Nat}
local macro_rules | `(tactic| trivial) => `(tactic| simp only [wi_sn, wi_sq, wi_as, wi_asl, wi_pr2, wi_pr3, wi_ex, wi_cnd, wi_re, wi_rn, wi_br, wi_ct, wi_pa, th_nx, th_rt, th_bk, th_cn, ret_rt, ret_nx, we_bl, wb_ac, wb_last, we_cm, we_v, we_tp, we_ls, wa_an, wa_ac, we_nt, we_isi, we_ch, we_k, we_g, we_bi, we_nb, we_ca, we_ix, we_bo, we_ie, we_mth, we_sl, wop_no, wop_it, we_d0, wt_an, wt_ac, wg_tn, wg_tt, wg_ts, wgs_ac, wgs_an, tr_bl, List.getElem?_cons_zero, List.getElem?_cons_succ, List.set_cons_zero, List.set_cons_succ, Option.some.injEq, exists_eq_left', List.length_cons, List.length_nil, List.map_cons, List.map_nil, wipeP, Bool.not_true, Bool.not_false, reduceIte, Bool.false_eq_true, and_true, true_and])
theorem cmpB_ne {st : Store} {a b : Bool} {Q : Bool → Prop} (e : a = b) (h : Q false) : ∃ c, cmp .NotEq st (.bl a) (.bl b) = some c ∧ Q c := by
  subst e
  refine ⟨false, ?_, h⟩
  cases a <;> rfl
theorem cmp_isO {st : Store} {o : Option Nat} {Q : Bool → Prop} (h : Q o.isNone) : ∃ c, cmp .Is st (eO o) .non = some c ∧ Q c := by
  cases o with
  | none => exact ⟨true, rfl, h⟩
  | some i => exact ⟨false, rfl, h⟩
theorem cmp_isnotO {st : Store} {o : Option Nat} {Q : Bool → Prop} (h : Q o.isSome) : ∃ c, cmp .IsNot st (eO o) .non = some c ∧ Q c := by
  cases o with
  | none => exact ⟨false, rfl, h⟩
  | some i => exact ⟨true, rfl, h⟩
theorem filter_some {l : List (Option Nat)} : (l.filter fun o => o.isSome).map eO = eN (l.filterMap id) := by
  induction l with
  | nil => rfl
  | cons o l ih =>
    cases o with
    | none => exact ih
    | some i =>
      show eO (some i) :: _ = PV.int (i : Nat) :: _
      rw [ih]; rfl
/-- what moves: the seat, what it had, what it has -/
def evs (a b : Nat → Option Nat) (n : Nat) : List (Nat × Option Nat × Option Nat) := (List.range n).filterMap fun i => if a i = b i then none else some (i, a i, b i)
def eV (p : Nat × Option Nat × Option Nat) : PV := .tup [.int (p.1 : Nat), eO p.2.1, eO p.2.2]
theorem evs_diffs {a b : Nat → Option Nat} {n : Nat} : (evs a b n).map (·.2) = diffs a b 0 n := by
  unfold evs diffs
  rw [List.range_eq_range', List.map_filterMap]
  congr 1
  funext i
  by_cases h : a i = b i
  · rw [if_pos h, if_pos h]; rfl
  · rw [if_neg h, if_neg h]; rfl
theorem mvs_evs {full rest : List (Option Nat)} {a b : Nat → Option Nat} {n : Nat} (h1 : ∀ i, i < n → full.getD i none = a i) (h2 : ∀ i, i < n → rest.getD i none = b i) : mvs full rest n = (evs a b n).map eV := by
  unfold mvs evs
  rw [List.map_filterMap]
  have : ∀ l : List Nat, (∀ i ∈ l, i < n) → l.filterMap (mvAt full rest) = l.filterMap fun i => Option.map eV (if a i = b i then none else some (i, a i, b i)) := by
    intro l
    induction l with
    | nil => intro _; rfl
    | cons i l ih =>
      intro h
      have hi := h i List.mem_cons_self
      have e : mvAt full rest i = Option.map eV (if a i = b i then none else some (i, a i, b i)) := by
        unfold mvAt
        rw [h1 i hi, h2 i hi]
        by_cases q : a i = b i
        · rw [if_pos q, if_pos q]; rfl
        · rw [if_neg q, if_neg q]; rfl
      rw [List.filterMap_cons, List.filterMap_cons, e, ih fun j hj => h j (List.mem_cons_of_mem _ hj)]
  exact this _ fun i hi => List.mem_range.mp hi
theorem pl_V {n : Nat} {p : Nat × Option Nat × Option Nat} : (eV p).pl (n + 1) = true := by unfold eV; rw [PV.pl, pls, pls, pls, pls, pl_int, pl_O, pl_O]; rfl
/-- the pool without one letter -/
def cutAt (pool : List Let) (out : Nat) : List Let := pool.take out ++ pool.drop (out + 1)
theorem cutAt_len {pool : List Let} {out : Nat} (h : out < pool.length) : (cutAt pool out).length = pool.length - 1 := by
  unfold cutAt
  rw [List.length_append, List.length_take, List.length_drop]
  omega
theorem cutAt_get {pool : List Let} {out k : Nat} (h : out < pool.length) : (cutAt pool out).getD k [] = pool.getD (upN out k) [] := by
  unfold cutAt upN
  rw [List.getD_eq_getElem?_getD, List.getD_eq_getElem?_getD]
  by_cases hk : k < out
  · rw [if_pos hk, List.getElem?_append_left (by rw [List.length_take]; omega), List.getElem?_take, if_pos hk]
  · rw [if_neg hk, List.getElem?_append_right (by rw [List.length_take]; omega), List.getElem?_drop, List.length_take]
    congr 2
    omega
theorem rest_get {m out k : Nat} (h : out < m) (hk : k < m - 1) : ((List.range m).filter fun x => decide (x ≠ out))[k]? = some (upN out k) := by
  have e : (List.range m).filter (fun x => decide (x ≠ out)) = (List.range (m - 1)).map (upN out) := by
    refine sorted_ext (List.Pairwise.filter _ List.pairwise_lt_range) ?_ fun x => ?_
    · refine List.Pairwise.map _ (fun a b h => upN_lt.mpr h) List.pairwise_lt_range
    · rw [List.mem_filter, List.mem_range, List.mem_map]
      constructor
      · rintro ⟨h1, h2⟩
        obtain ⟨j, e, _⟩ := upN_sur (of_decide_eq_true h2)
        refine ⟨j, List.mem_range.mpr ?_, e⟩
        unfold upN at e
        split at e <;> omega
      · rintro ⟨j, hj, e⟩
        have hj := List.mem_range.mp hj
        rw [← e]
        refine ⟨?_, decide_eq_true upN_ne⟩
        unfold upN; split <;> omega
  rw [e, List.getElem?_map, List.getElem?_range hk]; rfl
theorem later_eq {seats pool : List Let} {out : Nat} (h : out < pool.length) : (sbs seats (cutAt pool out)).map (Option.map (upN out)) = chosen pool (some out) seats [] := by
  rw [chosen_pick seats.length seats rfl, sbs_pick, pick_map, pick_map, List.map_map]
  refine List.map_congr_left fun s _ => ?_
  have hm : (cutAt pool out).length + 1 = pool.length := by rw [cutAt_len h]; omega
  have := pick_up (ok := fun s k => FF seats pool k s) (ok' := fun s k => FF seats (cutAt pool out) k s) (m := (cutAt pool out).length) (out := out) (by omega) (fun s k => by unfold FF; rw [cutAt_get h]) s
  rw [hm] at this
  show Option.map (upN out) (pkAt _ _ s) = _
  rw [← this]
  refine pkAt_congr fun s' _ k _ => ?_
  unfold okS
  congr 1
  exact decide_eq_decide.mpr ⟨fun h z => h (by injection z with z; exact z.symm), fun h z => h (by rw [z])⟩
theorem sbs_mem_lt {seats pool : List Let} {i : Nat} (h : some i ∈ sbs seats pool) : i < pool.length := by
  rw [sbs_pick] at h
  obtain ⟨t, _, e⟩ := pick_mem.mp h
  exact pkAt_lt e
theorem sbs_len {seats pool : List Let} : (sbs seats pool).length = seats.length := by rw [sbs_pick, pick_len]
theorem pick_getD {ok : Nat → Nat → Bool} {m n i : Nat} (h : i < n) : (pick ok m n).getD i none = pkAt ok m i := by
  rw [pick_map, List.getD_eq_getElem?_getD, List.getElem?_map, List.getElem?_range h]; rfl
set_option maxHeartbeats 1000000 in
theorem ev_law_moves {k : Nat} {dr : PV} {seats pool : List Let} {st : Store} (hs : Good 6 seats) (hp : Good 60 pool) : Wo (evF T N (k + 9) "_law_moves_are_right" [dr, eP seats, eP pool] st) fun x st' => x = .bl true ∧ Ext st st' := by
  refine wf (d := d__law_moves_are_right) (hT e__law_moves_are_right (List.mem_of_getElem? (i := 51) rfl)) rfl ?_
  show WS _ _ b__law_moves_are_right [some dr, some (eP seats), some (eP pool), none, none, none, none, none, none, none] _ _
  unfold b__law_moves_are_right
  have hsl := hs.2
  have hpl := hp.2
  have hs40 : Good 40 seats := ⟨hs.1, by omega⟩
  trivial
  refine wo_mono (ev_law_one_by_one hs.1 (by omega) (by omega)) fun x s1 ⟨e1, x1⟩ => ?_
  subst e1
  refine wo_mono (ev_seat_by_seat hs.1 (by omega) hp.1 (by omega)) fun x s2 ⟨e2, x2⟩ => ?_
  subst e2
  have pO : ∀ l : List (Option Nat), (PV.tup (l.map eO)).pl 30 = true := fun l => by rw [PV.pl]; exact pls_map fun _ _ => pl_O
  refine cmpT_ne (pO _) (pO _) rfl ?_
  trivial
  refine bi_len_tup (cmp_le ?_)
  rw [List.length_map, decide_eq_true (by omega)]
  trivial
  refine ⟨show 2 ≤ LIM by decide, wo_mono (ev_takes_seats hs hp) fun x s3 ⟨e3, x3⟩ => ?_⟩
  subst e3
  refine we_lc (wi_it ?_)
  trivial
  show Wo (loopC _ _ _ _ _ _ _ _) _
  refine wo_mono (loopC_fil (xs := sbs seats pool) (enc := eO) (Ext s3) (fun o => o.isSome) eO (Ext.refl _) (fun _ _ => rfl) (lim_small (by rw [sbs_len]; omega)) fun o ho s h => ?_) fun ys s4 ⟨e4, x4⟩ => ?_
  · trivial
    exact cmp_isnotO ⟨rfl, h, fun _ => h⟩
  have e4 : ys = eN ((sbs seats pool).filterMap id) := by rw [e4]; exact filter_some
  subst e4
  have hfl : ((sbs seats pool).filterMap id).length ≤ 6 := by
    have := List.length_filterMap_le (id : Option Nat → Option Nat) (sbs seats pool)
    rw [sbs_len] at this
    omega
  refine bi_sorted_loc new_get (by omega) (bi_tuple_loc new_get (cmpT_ne pl_N pl_N rfl ?_))
  trivial
  refine ws_fo_n (enc := fun i => PV.int (i : Nat)) pool.length (fun j ρ s => ∃ a b c d e f, ρ = [some dr, some (eP seats), some (eP pool), some (.tup ((sbs seats pool).map eO)), a, b, c, d, e, f] ∧ Ext st s) (wi_rg1 ?_)
  trivial
  have x5 : Ext st (s4 ++ [.lst (eN ((sbs seats pool).filterMap id))] ++ [.lst (eN (srt ((sbs seats pool).filterMap id)))]) := ((((x1.trans x2).trans x3).trans x4).new _).new _
  refine bi_len_tup ⟨(pool.length : Nat), by rw [List.length_map], by omega, by rw [Int.toNat_natCast], ⟨_, _, _, _, _, _, rfl, x5⟩, ?_, ?_, ?_⟩
  · rintro j ρ s ⟨a, b, c, d, e, f, rfl, _⟩; rfl
  · rintro out ρ s hout ⟨a, b, c, d, e, f, rfl, hx⟩
    trivial
    refine we_lc (wi_rg1 ?_)
    trivial
    refine bi_len_tup ⟨(pool.length : Nat), by rw [List.length_map], by omega, ?_⟩
    rw [Int.toNat_natCast]
    refine wo_mono (loopC_fil (xs := List.range pool.length) (enc := fun i => PV.int (i : Nat)) (Ext s) (fun x => decide (x ≠ out)) (fun i => .int (i : Nat)) (Ext.refl _) (fun _ _ => rfl) (lim_small (by rw [List.length_range]; omega)) fun i hi s1 h1 => ?_) fun ys s5 ⟨e5, x5⟩ => ?_
    · trivial
      refine cmp_nei ⟨?_, h1, fun _ => h1⟩
      exact decide_eq_decide.mpr (by omega)
    subst e5
    rw [eN_filter]
    generalize hR : (List.range pool.length).filter (fun x => decide (x ≠ out)) = R
    refine we_lc (wi_it ?_)
    trivial
    refine ⟨_, rfl, sl_tup (bo_add ⟨_, rfl, sl_tup ?_⟩)⟩
    rw [show ((out : Nat) : Int) + 1 = ((out + 1 : Nat) : Int) by omega, cut_to, cut_from]
    refine bo_tup (by rw [List.length_take, List.length_drop, List.length_map]; exact Nat.le_of_lt (lim_small (by omega))) ?_
    have ec : PV.tup ((pool.map eL).take out ++ (pool.map eL).drop (out + 1)) = eP (cutAt pool out) := by unfold eP cutAt; rw [List.map_append, List.map_take, List.map_drop]
    rw [ec]
    refine wo_mono (ev_law_one_by_one hs.1 (by omega) (by rw [cutAt_len hout]; omega)) fun x s6 ⟨e6, x6⟩ => ?_
    subst e6
    have gR : (s5 ++ [.lst (eN R)])[s5.length]? = some (.lst (eN R)) := new_get
    show Wo (loopC _ _ _ _ _ _ _ _) _
    refine wo_mono (loopC_all (xs := sbs seats (cutAt pool out)) (enc := eO) (Ext s6) (fun o => eO (o.map (upN out))) (Ext.refl _) (fun _ _ => rfl) (lim_small (by rw [sbs_len]; omega)) fun o ho s7 h7 => ?_) fun ys s7 ⟨e7, x7⟩ => ?_
    · trivial
      refine cmp_isO ?_
      cases o with
      | none =>
        simp only [Option.isNone_none]
        trivial
        exact ⟨rfl, h7⟩
      | some i =>
        simp only [Option.isNone_some]
        trivial
        have hi := sbs_mem_lt ho
        rw [cutAt_len hout] at hi
        refine ix_loc (i := i) (x := .int (upN out i : Nat)) ((x6.trans h7).get gR) ?_ ⟨rfl, h7⟩
        unfold eN
        rw [List.getElem?_map, ← hR, rest_get hout hi]; rfl
    have e7 : ys = (chosen pool (some out) seats []).map eO := by rw [e7, ← later_eq hout, List.map_map]; rfl
    subst e7
    generalize hL : chosen pool (some out) seats [] = L
    have hLl : L.length = seats.length := by rw [← hL, chosen_len]; simp
    refine we_lc (wi_rg1 ?_)
    trivial
    refine bi_len_tup ⟨(seats.length : Nat), by rw [List.length_map], by omega, ?_⟩
    rw [Int.toNat_natCast]
    have gL : (s7 ++ [.lst (L.map eO)])[s7.length]? = some (.lst (L.map eO)) := new_get
    refine wo_mono (loopC_enc (xs := List.range seats.length) (enc := fun i => PV.int (i : Nat)) (Ext (s7 ++ [.lst (L.map eO)])) (mvAt (sbs seats pool) L) (Ext.refl _) (fun _ _ => rfl) (lim_small (by rw [List.length_range]; omega)) fun i hi s8 h8 => ?_) fun ys s8 ⟨e8, x8⟩ => ?_
    · have hi := List.mem_range.mp hi
      have g1 : ((sbs seats pool).map eO)[i]? = some (eO ((sbs seats pool).getD i none)) := by rw [List.getElem?_map, List.getD_eq_getElem?_getD, List.getElem?_eq_getElem (by rw [sbs_len]; omega)]; rfl
      have g2 : (L.map eO)[i]? = some (eO (L.getD i none)) := by rw [List.getElem?_map, List.getD_eq_getElem?_getD, List.getElem?_eq_getElem (by omega)]; rfl
      trivial
      refine ix_tup g1 (ix_loc (h8.get gL) g2 (cmp_ne pl_O pl_O fun c hc => ?_))
      rw [ne_eq, eO_inj] at hc
      by_cases he : (sbs seats pool).getD i none = L.getD i none
      · have em : mvAt (sbs seats pool) L i = none := by unfold mvAt; rw [if_pos he]
        have : c = false := by
          cases c with
          | false => rfl
          | true => exact absurd he (hc.mp rfl)
        subst this
        simp only [em]
        exact ⟨True.intro, h8⟩
      · have em : mvAt (sbs seats pool) L i = some (.tup [.int (i : Nat), eO ((sbs seats pool).getD i none), eO (L.getD i none)]) := by unfold mvAt; rw [if_neg he]
        simp only [em]
        exact ⟨hc.mpr he, ix_tup g1 (ix_loc (h8.get gL) g2 ⟨show 3 ≤ LIM by decide, rfl, h8⟩)⟩
    have e8 : ys = mvs (sbs seats pool) L seats.length := e8
    subst e8
    -- what moves, by plain numbers
    have hmv : mvs (sbs seats pool) L seats.length = (evs (pkAt (fun s k => FF seats pool k s) pool.length) (pkAt (okS seats pool (some out)) pool.length) seats.length).map eV := mvs_evs (fun i hi => by rw [sbs_pick, pick_getD hi]) (fun i hi => by rw [← hL, chosen_pick seats.length seats rfl, pick_getD hi])
    have hok : ∀ s k, okS seats pool (some out) s k = (decide (k ≠ out) && FF seats pool k s) := fun s k => by
      unfold okS
      congr 1
      exact decide_eq_decide.mpr ⟨fun h z => h (by rw [z]), fun h z => h (by injection z with z; exact z.symm)⟩
    have chain := hole_chain (ok := fun s k => FF seats pool k s) hok hout seats.length
    have hnil := hole_nil (ok := fun s k => FF seats pool k s) hok hout seats.length
    rw [← sbs_pick] at hnil
    rw [← evs_diffs] at chain hnil
    generalize hE : evs (pkAt (fun s k => FF seats pool k s) pool.length) (pkAt (okS seats pool (some out)) pool.length) seats.length = E at hmv chain hnil
    rw [hmv]
    refine wo_mono (ev_moved (k := k + 2) hs.1 (by omega) hp.1 (by omega) hout) fun x s9 ⟨e9, x9⟩ => ?_
    rw [hL, hmv] at e9
    subst e9
    have gE : (s8 ++ [.lst (E.map eV)])[s8.length]? = some (.lst (E.map eV)) := new_get
    have pE : pls 30 (E.map eV) = true := pls_map fun _ _ => pl_V
    have pT : ∀ n, (PV.tup (E.map eV)).pl (n + 2) = true := fun n => by rw [PV.pl]; exact pls_map fun _ _ => pl_V
    have hEl : E.length ≤ 6 := by
      rw [← hE]
      unfold evs
      have := List.length_filterMap_le (fun i => if pkAt (fun s k => FF seats pool k s) pool.length i = pkAt (okS seats pool (some out)) pool.length i then none else some (i, pkAt (fun s k => FF seats pool k s) pool.length i, pkAt (okS seats pool (some out)) pool.length i)) (List.range seats.length)
      rw [List.length_range] at this
      omega
    refine bi_tuple_loc (x9.get gE) (cmpT_ne (pT _) (pT _) rfl ?_)
    trivial
    refine ⟨Nat.zero_le _, cmpL_eq ((Ext.new1 _).get (x9.get gE)) new_get pE pls_nil fun c hc => cmp_nin in_opt (cmpB_ne ?_ ?_)⟩
    · refine bool_eq (hc.trans ?_)
      have : (!decide (some out ∈ sbs seats pool)) = true ↔ some out ∉ sbs seats pool := by simp
      rw [this, ← hnil, List.map_eq_nil_iff, List.map_eq_nil_iff]
    trivial
    have hxx : Ext s (s9 ++ [.lst []]) := ((((x5.new _).trans x6).trans x7).new _).trans (((x8.new _).trans x9).new _)
    have gE2 := (Ext.new1 (.lst [])).get (x9.get gE)
    refine ws_fo_n (enc := fun i => PV.int (i : Nat)) E.length (fun j ρ s' => ∃ e f, ρ = [some dr, some (eP seats), some (eP pool), some (.tup ((sbs seats pool).map eO)), some (.int (out : Nat)), some (.loc s5.length), some (.loc s7.length), some (.loc s8.length), e, f] ∧ s' = s9 ++ [.lst []]) (wi_rg1 ?_)
    trivial
    refine bi_len_loc gE2 ⟨(E.length : Nat), by rw [List.length_map], by omega, by rw [Int.toNat_natCast], ⟨_, _, rfl, rfl⟩, ?_, ?_, ?_⟩
    · rintro j ρ s ⟨e, f, rfl, rfl⟩; rfl
    · rintro j ρ s' hj ⟨e, f, rfl, rfl⟩
      obtain ⟨p, hp'⟩ : ∃ p, E[j]? = some p := ⟨_, List.getElem?_eq_getElem hj⟩
      have gj : (E.map eV)[j]? = some (eV p) := by rw [List.getElem?_map, hp']; rfl
      have dj : (E.map (·.2))[j]? = some (p.2.1, p.2.2) := by rw [List.getElem?_map, hp']; rfl
      obtain ⟨c1, c2, c3⟩ := chain.at dj
      rw [List.length_map] at c3
      trivial
      refine ix_loc gE2 gj (ix_tup (i := 1) rfl (cmp_gt ?_))
      by_cases hj0 : 0 < j
      case' pos =>
        obtain ⟨j', rfl⟩ : ∃ j', j = j' + 1 := ⟨j - 1, by omega⟩
        obtain ⟨a', ha'⟩ := c2 j' rfl
        rw [List.getElem?_map] at ha'
        obtain ⟨q, hq⟩ : ∃ q, E[j']? = some q := ⟨_, List.getElem?_eq_getElem (by omega)⟩
        have hq' := hq
        rw [hq] at ha'
        have ha' : q.2 = (a', p.2.1) := by injection ha'
        have eq : p.2.1 = q.2.2 := by rw [ha']
        rw [decide_eq_true (by omega), if_pos rfl]
        refine bo_sub ?_
        rw [show ((j' + 1 : Nat) : Int) - 1 = ((j' : Nat) : Int) by omega]
        refine ix_loc (i := j') (x := eV q) gE2 (by rw [List.getElem?_map, hq']; rfl) (ix_tup (i := 2) rfl (cmpT_ne pl_O pl_O (by rw [eq]) ?_))
      case' neg =>
        have eq : p.2.1 = some out := c1 (by omega)
        rw [decide_eq_false (by omega), if_neg (by decide)]
        refine cmpT_ne pl_O pl_int (by rw [eq]; rfl) ?_
      all_goals
        trivial
        refine ix_loc gE2 gj (ix_tup (i := 2) rfl (cmp_isO ?_))
        refine ix_loc gE2 gj (ix_tup (i := 2) rfl (cmp_isO ?_))
        cases hp2 : p.2.2 with
        | none =>
          simp only [Option.isNone_none]
          trivial
          refine bi_len_loc gE2 (bo_sub (cmp_eqi (cmpB_ne ?_ ?_)))
          · have := c3 hp2
            rw [List.length_map]
            exact (decide_eq_true (by omega)).symm
          · exact ⟨_, _, rfl, rfl⟩
        | some z =>
          simp only [Option.isNone_some]
          trivial
          refine cmpB_ne rfl ?_
          exact ⟨_, _, rfl⟩
    · rintro ρ s' ⟨e, f, rfl, rfl⟩
      exact ⟨_, _, _, _, _, _, rfl, hx.trans hxx⟩
  · rintro ρ s ⟨a, b, c, d, e, f, rfl, hx⟩
    exact hx
end Mi.K32

namespace Mi.K32
open PySem PySem.Spec PyProof.Rows L2 Mi
variable {N : Nat}
local macro_rules | `(tactic| trivial) => `(tactic| simp only [wi_sn, wi_sq, wi_as, wi_asl, wi_pr2, wi_pr3, wi_ex, wi_cnd, wi_re, wi_rn, wi_br, wi_ct, wi_pa, th_nx, th_rt, th_bk, th_cn, ret_rt, ret_nx, we_bl, wb_ac, wb_last, we_cm, we_v, we_tp, we_ls, wa_an, wa_ac, we_nt, we_isi, we_ch, we_k, we_g, we_bi, we_nb, we_ca, we_ix, we_bo, we_ie, we_mth, we_sl, wop_no, wop_it, we_d0, wt_an, wt_ac, wg_tn, wg_tt, wg_ts, wgs_ac, wgs_an, tr_bl, List.getElem?_cons_zero, List.getElem?_cons_succ, List.set_cons_zero, List.set_cons_succ, Option.some.injEq, exists_eq_left', List.length_cons, List.length_nil, List.map_cons, List.map_nil, wipeP, Bool.not_true, Bool.not_false, reduceIte, Bool.false_eq_true, and_true, true_and])
theorem isnot_bl {st : Store} {Q : Bool → Prop} (h : Q false) : ∃ c, cmp .IsNot st (.bl true) (.bl true) = some c ∧ Q c := ⟨false, rfl, h⟩
theorem lets_range {pool : List Let} : lets pool (List.range pool.length) = pool := by
  unfold lets
  have := map_range pool id
  rw [List.map_id] at this
  exact this.symm
theorem ev_is_best_of {k : Nat} {seats pool : List Let} {f : Nat → Nat} {st : Store} (hs : Good 40 seats) (hp : Good 60 pool) (hf : Sit (FF seats pool) seats.length f (· ∈ grd (canB seats pool) pool.length)) (hr : ∀ r ∈ rfs (canB seats pool) pool.length, LF seats pool r) : Wo (evF T N (k + 6) "is_best_paper" [eP seats, eP pool, paper seats pool f] st) fun x st' => x = .bl true ∧ Ext st st' := by
  have e1 : (((grd (canB seats pool) pool.length).map fun k => (k, f k)).map (·.1)) = grd (canB seats pool) pool.length := by rw [List.map_map]; exact List.map_id _
  have := ev_is_best_paper (N := N) (k := k) (st := st) (l := (grd (canB seats pool) pool.length).map fun k => (k, f k)) (r := (rfs (canB seats pool) pool.length).map fun r => (r, lotOf (canB seats pool) r)) hs hp (by rw [e1]; exact grd_sorted) (fun p hp' => ?_) ?_ ?_ (fun p hp' => ?_)
  · rw [List.map_map, List.map_map] at this
    exact this
  · obtain ⟨x, hx, rfl⟩ := List.mem_map.mp hp'
    exact ⟨grd_lt hx, hf.1 x hx⟩
  · rw [List.map_map]
    exact nodup_map_inj grd_nodup fun a ha b hb e => hf.2 a b ha hb e
  · rw [e1, List.map_map]
    have : (rfs (canB seats pool) pool.length).map ((fun x => x.1) ∘ fun r => (r, lotOf (canB seats pool) r)) = rfs (canB seats pool) pool.length := List.map_id _
    rw [this, rfs_eq]
  · obtain ⟨r, hr', rfl⟩ := List.mem_map.mp hp'
    refine ⟨lotOf_sorted, fun x hx => ⟨grd_lt (lotOf_sub hx), ?_⟩, (hr r hr').fit⟩
    rw [e1]
    have h1 := lotOf_sub hx
    have h2 := grd_lt h1
    have h3 := rfs_lt hr'
    have := grd_prefix (can := canB seats pool) (j := r) (m := pool.length) (by omega)
    rw [← this] at h1
    exact (List.mem_filter.mp h1).1
/-- the seatings part of one turn: letters seated in one sequence of seats -/
def SeatOK (other pool here : List Let) (can : Bool) (x : PV) : Prop :=
  (can = true ∧ ∃ ss : List Nat, x = .tup [.str "seated", .tup (eN ss)] ∧ ss.length = pool.length ∧ (∀ s ∈ ss, s < here.length) ∧ ss.Nodup ∧ ∀ i, i < pool.length → FF here pool i (ss.getD i 0) = true) ∨
  (can = false ∧ ∃ l : List Nat, x = .tup [.str "short", .tup (eN l)] ∧ l.Pairwise (· < ·) ∧ (∀ y ∈ l, y < pool.length) ∧ fitN here pool l < l.length)
theorem pl_paper {n : Nat} {seats pool : List Let} {f : Nat → Nat} : (paper seats pool f).pl (n + 4) = true := by
  unfold paper
  rw [PV.pl, pls, pls, pls, pls, pl_str (by decide +kernel), PV.pl, pls_map fun _ _ => pl_Q, PV.pl, pls_map fun _ _ => pl_R]
  rfl
theorem pl_seatT {n : Nat} {l : List Nat} : (PV.tup (eN l)).pl (n + 1) = true := pl_N
set_option maxHeartbeats 2000000 in
theorem ev_law_same1 {k d : Nat} {seats pool other : List Let} {st : Store} {Q : Res → Prop} (hs : Good 6 seats) (hp : Good 60 pool) (ho : other.Perm seats) (hN : 100 < N)
    (h : ∀ s a b e f g h i j, Ext st s → Q (.nx [some (.loc d), some (eP seats), some (eP pool), some (eP other), some (.bl (canB seats pool (List.range pool.length))), a, b, e, f, g, h, i, j] s)) :
    WS (evF T N (k + 10)) N (.fo (.tn 5) (.it (.ls (.ac (.v 1) (.ac (.v 3) .an)))) (.sq (.as (.tn 7) (.ca "seated" (.ac (.v 5) (.ac (.v 2) .an)))) (.sq (.cnd (.cm .NotEq (.ix (.v 7) (.k (.int 0))) (.ie (.v 4) (.k (.str "seated")) (.k (.str "short")))) (.sq (.re (.k (.bl false))) .sn) .sn) (.sq (.cnd (.bl true (.ac (.v 4) (.ac (.bl false (.ac (.cm .IsNot (.ca "is_seating" (.ac (.v 5) (.ac (.v 2) (.ac (.ix (.v 7) (.k (.int 1))) .an)))) (.k (.bl true))) (.ac (.cm .NotEq (.lc (.v 12) (.tn 12) (.rg1 (.bi .len (.ac (.v 2) .an))) (.ac (.nt (.ca "_law_fits" (.ac (.ix (.v 2) (.v 12)) (.ac (.ix (.v 5) (.ix (.ix (.v 7) (.k (.int 1))) (.v 12))) .an)))) .an) [("k", 12)]) (.ls .an)) (.ac (.cm .NotEq (.nb .lenset (.ix (.v 7) (.k (.int 1)))) (.bi .len (.ac (.v 2) .an))) .an)))) .an))) (.sq (.re (.k (.bl false))) .sn) .sn) (.sq (.cnd (.bl true (.ac (.nt (.v 4)) (.ac (.bl false (.ac (.cm .IsNot (.ca "is_short" (.ac (.v 5) (.ac (.v 2) (.ac (.ix (.v 7) (.k (.int 1))) .an)))) (.k (.bl true))) (.ac (.cm .GtE (.bi .len (.ac (.ca "_law_seats_of" (.ac (.v 5) (.ac (.lc (.ix (.v 2) (.v 12)) (.tn 12) (.it (.ix (.v 7) (.k (.int 1)))) .an [("k", 12)]) .an))) .an)) (.bi .len (.ac (.ix (.v 7) (.k (.int 1))) .an))) .an))) .an))) (.sq (.re (.k (.bl false))) .sn) .sn) (.sq (.cnd (.bl true (.ac (.nt (.v 4)) (.ac (.cm .IsNot (.ca "is_short" (.ac (.v 3) (.ac (.v 2) (.ac (.ix (.v 7) (.k (.int 1))) .an)))) (.k (.bl true))) .an))) (.sq (.re (.k (.bl false))) .sn) .sn) .sn))))))
      [some (.loc d), some (eP seats), some (eP pool), some (eP other), some (.bl (canB seats pool (List.range pool.length))), none, none, none, none, none, none, none, none] st Q := by
  have hsl := hs.2
  have hpl := hp.2
  have hol : other.length = seats.length := ho.length_eq
  refine ws_fo_enc (enc := eP) [seats, other] (fun _ ρ s => (∃ a b e f g h i j, ρ = [some (.loc d), some (eP seats), some (eP pool), some (eP other), some (.bl (canB seats pool (List.range pool.length))), a, b, e, f, g, h, i, j]) ∧ Ext (st ++ [.lst [eP seats, eP other]]) s) (wi_it ?_)
  trivial
  refine ⟨show 2 ≤ LIM by decide, ?_⟩
  refine ⟨_, new_get, rfl, ⟨⟨_, _, _, _, _, _, _, _, rfl⟩, Ext.refl _⟩, ?_, ?_, ?_⟩
  · rintro _ ρ s ⟨_, hx⟩
    exact decide_eq_true (hx.get new_get)
  · rintro done here rest ρ s eq ⟨⟨a, b, e, f, g, h, i, j, rfl⟩, hx⟩
    have hh : here.Perm seats := by
      have : here ∈ [seats, other] := by rw [eq]; simp
      rcases List.mem_cons.mp this with z | z
      · rw [z]
      · rw [List.mem_singleton.mp z]; exact ho
    have hhl : here.length = seats.length := hh.length_eq
    have gh : Good 6 here := ⟨fun l hl => hs.1 l (hh.mem_iff.mp hl), by omega⟩
    have go : Good 40 other := ⟨fun l hl => hs.1 l (ho.mem_iff.mp hl), by omega⟩
    have gh40 : Good 40 here := ⟨gh.1, by omega⟩
    have ecan : canB here pool (List.range pool.length) = canB seats pool (List.range pool.length) := canB_perm hh List.nodup_range
    trivial
    refine wo_mono (ev_seated (k := k + 4) gh40 hp hN) fun x s1 ⟨x1, told⟩ => ?_
    rw [ecan] at told
    rcases told with ⟨ec, ss, e1, h1, h2, h3, h4⟩ | ⟨ec, l, e1, h1, h2, h3⟩
    · subst e1
      rw [ec]
      refine ix_tup (i := 0) rfl ?_
      trivial
      refine cmpT_ne (pl_str (by decide +kernel)) (pl_str (by decide +kernel)) rfl ?_
      trivial
      refine ix_tup (i := 1) rfl (wo_mono (ev_is_seating (k := k + 4) gh40 hp h1 h2 h3 h4) fun x s2 ⟨e2, x2⟩ => ?_)
      subst e2
      refine isnot_bl ?_
      trivial
      refine we_lc (wi_rg1 ?_)
      trivial
      refine bi_len_tup ⟨(pool.length : Nat), by rw [List.length_map], by omega, ?_⟩
      rw [Int.toNat_natCast]
      refine wo_mono (loopC_fil (xs := List.range pool.length) (enc := fun i => PV.int (i : Nat)) (Ext s2) (fun _ => false) (fun i => .int (i : Nat)) (Ext.refl _) (fun _ _ => rfl) (lim_small (by rw [List.length_range]; omega)) fun i hi s3 hs3 => ?_) fun ys s3 ⟨e3, x3⟩ => ?_
      · have hi := List.mem_range.mp hi
        have gi : (eN ss)[i]? = some (.int (ss.getD i 0 : Nat)) := by
          unfold eN
          rw [List.getElem?_map, List.getD_eq_getElem?_getD, List.getElem?_eq_getElem (by omega)]; rfl
        have hlt : ss.getD i 0 < here.length := by
          refine h2 _ ?_
          rw [List.getD_eq_getElem?_getD, List.getElem?_eq_getElem (by omega)]
          exact List.getElem_mem _
        trivial
        refine ix_P hi (ix_tup (i := 1) rfl (ix_tup gi (ix_P hlt (wo_mono (ev_law_fits (getD_ok gh.1 _)) fun r s4 ⟨e4, x4⟩ => ?_))))
        subst e4
        have : fitsP (pool.getD i []) (here.getD (ss.getD i 0) []) = true := h4 i hi
        rw [this]
        trivial
        exact ⟨hs3.trans x4, fun z => by cases z⟩
      have e3 : ys = [] := by rw [e3]; simp
      subst e3
      refine ⟨Nat.zero_le _, cmpLT_ne ((Ext.new1 _).get new_get) new_get pls_nil rfl ?_⟩
      trivial
      refine ix_tup (i := 1) rfl (we_nblen h3 (by omega) (bi_len_tup (cmp_nei ?_)))
      rw [List.length_map, decide_eq_false (by omega)]
      trivial
      exact ⟨⟨_, _, _, _, _, _, _, _, rfl⟩, hx.trans ((x1.trans x2).trans ((x3.new _).new _))⟩
    · subst e1
      rw [ec]
      refine ix_tup (i := 0) rfl ?_
      trivial
      refine cmpT_ne (pl_str (by decide +kernel)) (pl_str (by decide +kernel)) rfl ?_
      trivial
      refine ix_tup (i := 1) rfl (wo_mono (ev_is_short (k := k + 4) gh40 hp h1 h2 h3) fun x s2 ⟨e2, x2⟩ => ?_)
      subst e2
      refine isnot_bl ?_
      trivial
      have hll : l.length ≤ pool.length := nodup_len_le (h1.imp fun h => Nat.ne_of_lt h) h2
      refine we_lc (wi_it ?_)
      trivial
      refine ix_tup (i := 1) rfl ?_
      show Wo (loopC _ _ _ _ _ _ _ _) _
      refine wo_mono (lc_lets (src := none) (v := 2) (w := 12) (pool := pool) (by omega) rfl (by simp only [List.length_cons, List.length_nil]; omega) h2 (by omega) fun _ _ => rfl) fun ys s3 ⟨e3, x3⟩ => ?_
      subst e3
      refine wo_mono (ev_law_seats_of gh.1 (by omega) (fun l' hl => ?_) (by unfold lets; rw [List.length_map]; omega) new_get) fun x s4 ⟨p, e4, gp, x4⟩ => ?_
      · unfold lets at hl
        obtain ⟨i, _, rfl⟩ := List.mem_map.mp hl
        exact getD_ok hp.1 i
      subst e4
      refine bi_len_loc gp (ix_tup (i := 1) rfl (bi_len_tup (cmp_ge ?_)))
      rw [eN_len, eN_len, seatsOf_len, decide_eq_false (by omega)]
      trivial
      refine ix_tup (i := 1) rfl (wo_mono (ev_is_short (k := k + 4) go hp h1 h2 (by rw [fitN_perm (ho.trans hh.symm)]; exact h3)) fun x s5 ⟨e5, x5⟩ => ?_)
      subst e5
      refine isnot_bl ?_
      trivial
      exact ⟨⟨_, _, _, _, _, _, _, _, rfl⟩, hx.trans ((x1.trans x2).trans ((x3.new _).trans (x4.trans x5)))⟩
  · rintro ρ s ⟨⟨a, b, e, f, g, h', i, j, rfl⟩, hx⟩
    exact h s _ _ _ _ _ _ _ _ ((Ext.new1 _).trans hx)
end Mi.K32

namespace Mi.K32
open PySem PySem.Spec PyProof.Rows L2 Mi
variable {N : Nat}
local macro_rules | `(tactic| trivial) => `(tactic| simp only [wi_sn, wi_sq, wi_as, wi_asl, wi_pr2, wi_pr3, wi_ex, wi_cnd, wi_re, wi_rn, wi_br, wi_ct, wi_pa, th_nx, th_rt, th_bk, th_cn, ret_rt, ret_nx, we_bl, wb_ac, wb_last, we_cm, we_v, we_tp, we_ls, wa_an, wa_ac, we_nt, we_isi, we_ch, we_k, we_g, we_bi, we_nb, we_ca, we_ix, we_bo, we_ie, we_mth, we_sl, wop_no, wop_it, we_d0, wt_an, wt_ac, wg_tn, wg_tt, wg_ts, wgs_ac, wgs_an, tr_bl, List.getElem?_cons_zero, List.getElem?_cons_succ, List.set_cons_zero, List.set_cons_succ, Option.some.injEq, exists_eq_left', List.length_cons, List.length_nil, List.map_cons, List.map_nil, wipeP, Bool.not_true, Bool.not_false, reduceIte, Bool.false_eq_true, and_true, true_and])
theorem toV_let {l : Let} : l ∈ letters8 → okLet l = true := fun h => (Drawn.ok (p := [l]) (fun x hx => by rw [List.mem_singleton.mp hx]; exact h)) l (by simp)
theorem draw_more {k d w c B n : Nat} {cs : List Int} {st : Store} {ρ : Env} (h : DS d w c cs B st) (hB : B < 800000) (h1 : ρ[0]? = some (some (.loc d))) (hn : n ≤ 100) :
    Wo (loopC (stands none ((List.range n).map fun i => PV.int (i : Nat))) (evG (evF T N (k + 3)) (.tn 11)) (fun ρ st => evT (evF T N (k + 3)) .an ρ st) (fun ρ st => evE (evF T N (k + 3)) (.ca "_law_pick" (.ac (.v 0) (.ac (.ls (.ac (.tp .an) (.ac (.tp (.ac (.k (.str "ab")) .an)) (.ac (.tp (.ac (.k (.str "cc")) .an)) (.ac (.tp (.ac (.k (.str "ab")) (.ac (.k (.str "cc")) (.ac (.k (.str "eh")) .an)))) .an))))) .an))) ρ st) ρ ((List.range n).map fun i => PV.int (i : Nat)) [] st) fun ys s => ∃ ls, ys = ls.map eL ∧ Drawn ls ∧ ls.length = n ∧ DS d w c cs (B + n) s ∧ Fr d w st s := by
  refine loopC_inv _ _ _ (fun rest acc s => ∃ ls, acc = ls.map eL ∧ Drawn ls ∧ ls.length + rest.length = n ∧ DS d w c cs (B + ls.length) s ∧ Fr d w st s) ⟨[], rfl, (fun l hl => by cases hl), by simp, h, Fr.refl _⟩ ?_ ?_
  · rintro x r acc s ⟨ls, rfl, hdr, hll, hd, hf⟩
    rw [List.length_cons] at hll
    refine ⟨rfl, by rw [List.length_map]; exact lim_small (by omega), ?_⟩
    refine wg_tn.mpr (wt_an.mpr ?_)
    rw [if_pos rfl]
    show WE _ _ _ _ _
    trivial
    refine ⟨_, by rw [List.getElem?_set_ne (by omega)]; exact h1, Nat.zero_le _, show 1 ≤ LIM by decide, show 1 ≤ LIM by decide, show 3 ≤ LIM by decide, show 4 ≤ LIM by decide, ?_⟩
    have hlt := hd.lt
    refine wo_mono (ev_law_pick (hd.ext (Ext.new1 (.lst [eL [], eL ["ab"], eL ["cc"], eL ["ab", "cc", "eh"]]))) (by omega) new_get (by omega) (by omega) (by decide) (by simp)) fun y s2 ⟨hy, hd2, hf2⟩ => ?_
    obtain ⟨l, hl, rfl⟩ : ∃ l, l ∈ letters8 ∧ y = eL l := by
      simp only [List.mem_cons, List.not_mem_nil, or_false] at hy
      rcases hy with e | e | e | e
      · exact ⟨[], by decide +kernel, e⟩
      · exact ⟨["ab"], by decide +kernel, e⟩
      · exact ⟨["cc"], by decide +kernel, e⟩
      · exact ⟨["ab", "cc", "eh"], by decide +kernel, e⟩
    refine ⟨ls ++ [l], by rw [List.map_append]; rfl, fun z hz => ?_, by rw [List.length_append]; simp; omega, ?_, hf.trans ((Fr.ext (Ext.new1 _)).trans hf2)⟩
    · rcases List.mem_append.mp hz with hz | hz
      · exact hdr z hz
      · rw [List.mem_singleton.mp hz]; exact hl
    · have e : B + (ls ++ [l]).length = B + ls.length + 1 := by simp; omega
      rw [e]; exact hd2
  · rintro acc s ⟨ls, rfl, hdr, hll, hd, hf⟩
    have e : ls.length = n := by simpa using hll
    exact ⟨rfl, ls, rfl, hdr, e, e ▸ hd, hf⟩
set_option maxHeartbeats 2000000 in
theorem ev_law_same {k d w c B : Nat} {cs : List Int} {seats pool other : List Let} {st : Store} (hd : DS d w c cs B st) (hB : B < 100000) (hs : Good 6 seats) (hp : Drawn pool) (hpl : pool.length ≤ 7) (ho : other.Perm seats) (hN : 100 < N) :
    Wo (evF T N (k + 11) "_law_seatings_are_same" [.loc d, eP seats, eP pool, eP other] st) fun x s => x = .bl true ∧ DS d w c cs (B + 10) s ∧ Fr d w st s := by
  have hsl := hs.2
  have hol : other.length = seats.length := ho.length_eq
  have hp60 : Good 60 pool := ⟨hp.ok, by omega⟩
  have go : Good 6 other := ⟨fun l hl => hs.1 l (ho.mem_iff.mp hl), by omega⟩
  have hs40 : Good 40 seats := ⟨hs.1, by omega⟩
  have go40 : Good 40 other := ⟨go.1, by omega⟩
  refine wf (d := d__law_seatings_are_same) (hT e__law_seatings_are_same (List.mem_of_getElem? (i := 50) rfl)) rfl ?_
  show WS _ _ b__law_seatings_are_same [some (.loc d), some (eP seats), some (eP pool), some (eP other), none, none, none, none, none, none, none, none, none] _ _
  unfold b__law_seatings_are_same
  refine ws_sq (ws_as ?_)
  trivial
  refine bi_list_tup (by rw [List.length_map]; exact Nat.le_of_lt (lim_small (by omega))) ?_
  refine wo_mono (ev_law_seated hs.1 hsl new_get) fun x s1 ⟨e1, x1⟩ => ?_
  have e1 : x = .bl (canB seats pool (List.range pool.length)) := by
    rw [e1]
    unfold canB
    rw [lets_range]
  subst e1
  have hx1 : Ext st s1 := (Ext.new1 _).trans x1
  refine ev_law_same1 (k := k) hs hp60 ho hN ?_
  rintro s2 a b e f g h i j x2
  have ecs : ∀ ks : List Nat, ks.Nodup → canB other pool ks = canB seats pool ks := fun ks hn => canB_perm ho hn
  have egr : grd (canB other pool) pool.length = grd (canB seats pool) pool.length := grd_eq ecs
  have erf : rfs (canB other pool) pool.length = rfs (canB seats pool) pool.length := rfs_eq2 ecs
  have elo : ∀ r, lotOf (canB other pool) r = lotOf (canB seats pool) r := fun r => lotOf_eq ecs
  have epa : ∀ f, paper other pool f = .tup [.str "best", .tup ((grd (canB seats pool) pool.length).map fun k => eQ (k, f k)), .tup ((rfs (canB seats pool) pool.length).map fun r => eR (r, lotOf (canB seats pool) r))] := fun f => by
    unfold paper
    rw [egr, erf]
    congr 5
    exact List.map_congr_left fun r _ => by rw [elo]
  trivial
  refine wo_mono (ev_law_best hs.1 hsl (by omega)) fun x s3 ⟨e3, x3⟩ => ?_
  subst e3
  refine wo_mono (ev_best_paper (k := k + 4) hs40 hp60 hN) fun x s4 ⟨f1, e4, hf1, hr1, x4⟩ => ?_
  have e4 : x = paper seats pool f1 := e4
  refine wo_mono (ev_best_paper (k := k + 4) go40 hp60 hN) fun y s5 ⟨f2, e5, hf2, hr2, x5⟩ => ?_
  have e5 : y = paper other pool f2 := e5
  subst e4 e5
  refine wo_mono (ev_best_lot (k := k + 4) hs40 hp60 hN) fun x s6 ⟨e6, x6⟩ => ?_
  subst e6
  refine cmpT_ne pl_N pl_N rfl ?_
  trivial
  refine wo_mono (ev_best_lot (k := k + 4) go40 hp60 hN) fun x s7 ⟨e7, x7⟩ => ?_
  rw [egr] at e7
  subst e7
  refine cmpT_ne pl_N pl_N rfl ?_
  trivial
  have i1 : ∀ {st : Store} {Q : PV → Store → Prop}, Q (.tup ((rfs (canB seats pool) pool.length).map fun r => eR (r, lotOf (canB seats pool) r))) st → Wo (ixP (paper seats pool f1) (.int 2) st) Q := fun q => ix_tup (i := 2) rfl q
  have i2 : ∀ {st : Store} {Q : PV → Store → Prop}, Q (.tup ((rfs (canB seats pool) pool.length).map fun r => eR (r, lotOf (canB seats pool) r))) st → Wo (ixP (paper other pool f2) (.int 2) st) Q := fun q => by rw [epa]; exact ix_tup (i := 2) rfl q
  have pR : ∀ n, (PV.tup ((rfs (canB seats pool) pool.length).map fun r => eR (r, lotOf (canB seats pool) r))).pl (n + 3) = true := fun n => by rw [PV.pl]; exact pls_map fun _ _ => pl_R
  refine i1 (i2 (cmpT_ne (pR _) (pR _) rfl ?_))
  trivial
  refine wo_mono (ev_law_paper hs hp60 hf1 hr1) fun x s8 ⟨e8, x8⟩ => ?_
  subst e8
  trivial
  refine wo_mono (ev_law_paper go hp60 hf2 hr2) fun x s9 ⟨e9, x9⟩ => ?_
  subst e9
  trivial
  refine wo_mono (ev_is_best_of (k := k + 4) go40 hp60 hf2 hr2) fun x s10 ⟨e10, x10⟩ => ?_
  subst e10
  refine isnot_bl ?_
  trivial
  refine (ix_tup (i := 1) (xs := [.str "best", .tup ((grd (canB seats pool) pool.length).map fun k => eQ (k, f1 k)), .tup ((rfs (canB seats pool) pool.length).map fun r => eR (r, lotOf (canB seats pool) r))]) rfl (i2 ⟨show 3 ≤ LIM by decide, ?_⟩))
  refine wo_mono (ev_is_best_of (k := k + 4) (f := f1) hs40 hp60 hf1 hr1) fun x s11 ⟨e11, x11⟩ => ?_
  subst e11
  refine isnot_bl ?_
  trivial
  have hx11 : Ext st s11 := (hx1.trans x2).trans ((((x3.trans x4).trans x5).trans (x6.trans x7)).trans ((x8.trans x9).trans (x10.trans x11)))
  have hd11 := hd.ext hx11
  refine we_lc (wi_rg1 ?_)
  trivial
  refine wo_mono (ev_law_take (m := 2) hd11 (by omega) (by omega) (by omega)) fun x s12 ⟨r, hr, e12, hd12, hf12⟩ => ?_
  subst e12
  refine bo_add ⟨1 + (r : Nat), rfl, by omega, ?_⟩
  rw [show (1 + ((r : Nat) : Int)).toNat = 1 + r by omega]
  refine wo_mono (draw_more (k := k + 7) (n := 1 + r) hd12 (by omega) rfl (by omega)) fun ys s13 ⟨ls, e13, hls, hlsl, hd13, hf13⟩ => ?_
  subst e13
  refine bi_tuple_loc new_get (bo_tup (by rw [List.length_map, List.length_map]; exact Nat.le_of_lt (lim_small (by omega))) ?_)
  have em : PV.tup (pool.map eL ++ ls.map eL) = eP (pool ++ ls) := by unfold eP; rw [List.map_append]
  rw [em]
  have hm60 : Good 60 (pool ++ ls) := ⟨fun l hl => by
    rcases List.mem_append.mp hl with hl | hl
    · exact hp.ok l hl
    · exact hls.ok l hl, by rw [List.length_append]; omega⟩
  refine we_lc (wi_it ?_)
  trivial
  refine wo_mono (ev_best_lot (k := k + 4) hs40 hm60 hN) fun x s14 ⟨e14, x14⟩ => ?_
  subst e14
  show Wo (loopC _ _ _ _ _ _ _ _) _
  refine wo_mono (loopC_fil (xs := grd (canB seats (pool ++ ls)) (pool ++ ls).length) (enc := fun i => PV.int (i : Nat)) (Ext s14) (fun x => decide (x < pool.length)) (fun i => .int (i : Nat)) (Ext.refl _) (fun _ _ => rfl) (lim_small (by have : (grd (canB seats (pool ++ ls)) (pool ++ ls).length).length ≤ (pool ++ ls).length := grd_len_le; have := hm60.2; omega)) fun i hi s h => ?_) fun ys s15 ⟨e15, x15⟩ => ?_
  · trivial
    refine bi_len_tup (cmp_lt ⟨?_, h, fun _ => h⟩)
    rw [List.length_map]
    exact decide_eq_decide.mpr (by omega)
  rw [eN_filter, grd_more] at e15
  subst e15
  refine bi_tuple_loc new_get (cmpT_ne pl_N pl_N rfl ?_)
  trivial
  refine bi_len_tup (cmp_gt ?_)
  rw [List.length_map, decide_eq_false (by omega)]
  trivial
  refine ⟨show 2 ≤ LIM by decide, wo_mono (ev_takes_match (k := k + 2) go hp60) fun x s16 ⟨e16, x16⟩ => ?_⟩
  rw [egr] at e16
  subst e16
  refine cmpT_eq pl_N pl_N rfl ⟨rfl, ?_, ?_⟩
  · exact ((hd13.ext (Ext.new1 (.lst (ls.map eL)))).ext (x14.trans ((x15.new _).trans x16))).mono (by omega)
  · exact (Fr.ext hx11).trans ((hf12.trans hf13).trans (Fr.ext ((Ext.new1 (.lst (ls.map eL))).trans (x14.trans ((x15.new _).trans x16)))))
end Mi.K32

namespace Mi.K32
open PySem PySem.Spec PyProof.Rows L2 Mi
variable {N : Nat}
local macro_rules | `(tactic| trivial) => `(tactic| simp only [wi_sn, wi_sq, wi_as, wi_asl, wi_pr2, wi_pr3, wi_ex, wi_cnd, wi_re, wi_rn, wi_br, wi_ct, wi_pa, th_nx, th_rt, th_bk, th_cn, ret_rt, ret_nx, we_bl, wb_ac, wb_last, we_cm, we_v, we_tp, we_ls, wa_an, wa_ac, we_nt, we_isi, we_ch, we_k, we_g, we_bi, we_nb, we_ca, we_ix, we_bo, we_ie, we_mth, we_sl, wop_no, wop_it, we_d0, wt_an, wt_ac, wg_tn, wg_tt, wg_ts, wgs_ac, wgs_an, tr_bl, List.getElem?_cons_zero, List.getElem?_cons_succ, List.set_cons_zero, List.set_cons_succ, Option.some.injEq, exists_eq_left', List.length_cons, List.length_nil, List.map_cons, List.map_nil, wipeP, Bool.not_true, Bool.not_false, reduceIte, Bool.false_eq_true, and_true, true_and])
/-! ### the beginning -/
theorem we_dk {C : Fn} {ρ : Env} {st : Store} {ks : List Str} {a : IR} {Q : PV → Store → Prop} (h : WA C a ρ (st ++ [.dic []]) fun xs st1 => (ks.length = xs.length ∧ xs.length ≤ 15 ∧ 0 < xs.length ∧ ks.Nodup ∧ st1[st.length]? = some (.dic [])) ∧ Q (.loc st.length) (st1.set st.length (.dic ((ks.map Sum.inr).zip xs)))) : WE C (.dk ks a) ρ st Q := by
  obtain ⟨xs, st1, e, hc, q⟩ := h
  refine ⟨_, _, ?_, q⟩
  rw [evE, e]
  simp only
  rw [if_pos hc]
/-- the script: by value, or a list of the store -/
def Scr (sc : PV) (ns : List Int) (st : Store) : Prop := sc = .frl (ns.map .int) ∨ ∃ l, sc = .loc l ∧ st[l]? = some (.lst (ns.map .int))
theorem Scr.walk {sc : PV} {ns : List Int} {st : Store} {Q : List PV → Option Nat → Prop} (h : Scr sc ns st) (q : ∀ src, (∀ s, Ext st s → stands src (ns.map .int) s = true) → Q (ns.map .int) src) : Walk sc st Q := by
  rcases h with rfl | ⟨l, rfl, e⟩
  · exact q none fun _ _ => rfl
  · exact ⟨_, e, q (some l) fun s h => decide_eq_true (h.get e)⟩
theorem Scr.ext {sc : PV} {ns : List Int} {st s : Store} (h : Scr sc ns st) (x : Ext st s) : Scr sc ns s := by
  rcases h with rfl | ⟨l, rfl, e⟩
  · exact .inl rfl
  · exact .inr ⟨l, rfl, x.get e⟩
theorem Scr.len {sc : PV} {ns : List Int} {st : Store} {Q : PV → Store → Prop} (h : Scr sc ns st) (q : Q (.int (ns.length : Nat)) st) : Wo (biP .len [sc] st) Q := by
  rcases h with rfl | ⟨l, rfl, e⟩
  · refine bi_len_frl ?_
    rw [List.length_map]; exact q
  · refine bi_len_loc e ?_
    rw [List.length_map]; exact q
theorem keys_nodup : ([("wide" : Str), "cells", "rest", "turn"] : List Str).Nodup := by decide +kernel
theorem ev_law_begun {k : Nat} {sc : PV} {ns : List Int} {st : Store} (h : Scr sc ns st) (hl : ns.length ≤ 63) : Wo (evF T N (k + 1) "_law_begun" [sc] st) fun x s => ∃ d w c cs, x = .loc d ∧ DS d w c cs 0 s ∧ Ext st s ∧ st.length ≤ d ∧ st.length ≤ w := by
  refine wf (d := d__law_begun) (hT e__law_begun (List.mem_of_getElem? (i := 37) rfl)) rfl ?_
  show WS _ _ b__law_begun [some sc, none, none] _ _
  unfold b__law_begun
  trivial
  refine we_lc (wi_it ?_)
  trivial
  refine h.walk fun src hst => ?_
  have big : ∀ z : Int, Wo (bop .Pow (.int 10) (.int 18) st) fun x s => x = .int (10 ^ 18) ∧ s = st := fun z => bo_pow (by decide) ⟨rfl, rfl⟩
  refine wo_mono (loopC_fil (xs := ns) (enc := PV.int) (Ext st) (fun z => decide (10 ^ 18 ≤ (if z < 0 then -z else z))) (fun z => .int ((if z < 0 then -z else z) - 10 ^ 18)) (Ext.refl _) hst (lim_small (by omega)) fun z hz s1 h1 => ?_) fun ys s1 ⟨e1, x1⟩ => ?_
  · trivial
    refine bi_abs (bo_pow (by decide) (cmp_ge ⟨rfl, h1, fun _ => ?_⟩))
    exact bi_abs (bo_pow (by decide) (bo_sub ⟨rfl, h1⟩))
  have e1 : ∃ ws : List Int, ys = ws.map .int ∧ ws.length ≤ 63 := ⟨(ns.filter fun z => decide (10 ^ 18 ≤ (if z < 0 then -z else z))).map fun z => (if z < 0 then -z else z) - 10 ^ 18, by rw [e1, List.map_map]; rfl, by rw [List.length_map]; exact Nat.le_trans (List.length_filter_le _ _) hl⟩
  obtain ⟨ws, rfl, hwl⟩ := e1
  refine we_dk ?_
  trivial
  refine we_lc (wi_it ?_)
  trivial
  have x2 : Ext st (s1 ++ [.lst (ws.map .int)] ++ [.dic []]) := (x1.new _).new _
  refine (h.ext x2).walk fun src2 hst2 => ?_
  refine wo_mono (loopC_all (xs := ns) (enc := PV.int) (Ext (s1 ++ [.lst (ws.map .int)] ++ [.dic []])) (fun z => .int ((if z < 0 then -z else z) % 2147483629)) (Ext.refl _) hst2 (lim_small (by omega)) fun z hz s2 h2 => ?_) fun ys s2 ⟨e2, x3⟩ => ?_
  · trivial
    exact bi_abs (bi_int_int (bo_mod (by decide) ⟨rfl, h2⟩))
  have e2 : ys = (ns.map fun z => (if z < 0 then -z else z) % 2147483629).map .int := by rw [e2, List.map_map]; rfl
  subst e2
  have gd : (s2 ++ [.lst ((ns.map fun z => (if z < 0 then -z else z) % 2147483629).map .int)])[(s1 ++ [MO.lst (ws.map .int)]).length]? = some (.dic []) := (x3.new _).get new_get
  have gw : (s2 ++ [.lst ((ns.map fun z => (if z < 0 then -z else z) % 2147483629).map .int)])[s1.length]? = some (.lst (ws.map .int)) := (x3.new _).get ((Ext.new1 _).get new_get)
  have l1 := x1.len
  have l3 := x3.len
  have l4 : (s1 ++ [MO.lst (ws.map PV.int)]).length = s1.length + 1 := by simp
  have l5 : (s1 ++ [MO.lst (ws.map PV.int)] ++ [MO.dic []]).length = s1.length + 2 := by simp
  refine ⟨⟨by decide, by decide, keys_nodup, gd⟩, (s1 ++ [MO.lst (ws.map .int)]).length, s1.length, s2.length, _, rfl, ⟨by omega, by omega, by omega, ⟨0, 0, by decide, by decide, get_set_self gd⟩, ⟨ws, get_set_ne gw (by omega), by omega⟩, get_set_ne new_get (by omega)⟩, ?_, by omega, by omega⟩
  exact (x2.trans (x3.new _)).set (by omega)
end Mi.K32

namespace Mi.K32
open PySem PySem.Spec PyProof.Rows L2 Mi
variable {N : Nat}
local macro_rules | `(tactic| trivial) => `(tactic| simp only [wi_sn, wi_sq, wi_as, wi_asl, wi_pr2, wi_pr3, wi_ex, wi_cnd, wi_re, wi_rn, wi_br, wi_ct, wi_pa, th_nx, th_rt, th_bk, th_cn, ret_rt, ret_nx, we_bl, wb_ac, wb_last, we_cm, we_v, we_tp, we_ls, wa_an, wa_ac, we_nt, we_isi, we_ch, we_k, we_g, we_bi, we_nb, we_ca, we_ix, we_bo, we_ie, we_mth, we_sl, wop_no, wop_it, we_d0, wt_an, wt_ac, wg_tn, wg_tt, wg_ts, wgs_ac, wgs_an, tr_bl, List.getElem?_cons_zero, List.getElem?_cons_succ, List.set_cons_zero, List.set_cons_succ, Option.some.injEq, exists_eq_left', List.length_cons, List.length_nil, List.map_cons, List.map_nil, wipeP, Bool.not_true, Bool.not_false, reduceIte, Bool.false_eq_true, and_true, true_and])
def unL : PV → Let
  | .tup xs => xs.map unS
  | _ => []
theorem unL_eL (l : Let) : unL (eL l) = l := by
  show (l.map PV.str).map unS = l
  rw [List.map_map]
  exact List.map_id _
theorem perm_lets {ys : List PV} {l : List Let} (h : ys.Perm (l.map eL)) : ∃ l' : List Let, ys = l'.map eL ∧ l'.Perm l := by
  have e : ys = (ys.map unL).map eL := by
    rw [List.map_map]
    conv => lhs; rw [← List.map_id ys]
    refine List.map_congr_left fun y hy => ?_
    obtain ⟨x, _, rfl⟩ := List.mem_map.mp (h.mem_iff.mp hy)
    show eL x = eL (unL (eL x))
    rw [unL_eL]
  refine ⟨ys.map unL, e, ?_⟩
  have := h.map unL
  rw [List.map_map] at this
  have e2 : l.map (unL ∘ eL) = l := by
    conv => rhs; rw [← List.map_id l]
    exact List.map_congr_left fun x _ => unL_eL x
  rw [e2] at this
  exact this
def zooL : Let := ["zoo"]
def nD : List (Key × PV) := ([("ab" : Str), "cc", "eh"].map Sum.inr).zip [.str "b", .str "d", .str "x"]
theorem nD_ok : (names3.all fun x => decide (lookK nD (.inr x) = some (.str (reN x)))) = true := by decide +kernel
theorem nD_nodup : ([("ab" : Str), "cc", "eh"] : List Str).Nodup := by decide +kernel
/-- tuple([tuple([names[name] for name in letter]) for letter in row]) -/
theorem renamed {k v q : Nat} {p : List Let} {ρ : Env} {st : Store} (hp : Drawn p) (hl : p.length ≤ 100) (hρ : ∀ (a b : PV), ((ρ.set v (some a)).set 12 (some b))[5]? = some (some (.loc q)) ∧ ((ρ.set v (some a)).set 12 (some b))[12]? = some (some b)) (hv : ∀ a : PV, ((ρ.set v (some a)))[v]? = some (some a)) (hw : ∀ a : PV, ((ρ.set v (some a)).set 12 none)[v]? = some (some a)) (hw2 : ∀ (a b : PV), (((ρ.set v (some a)).set 12 none).set 12 (some b)) = ((ρ.set v (some a)).set 12 (some b))) (hq : st[q]? = some (.dic nD)) :
    Wo (loopC (stands none (p.map eL)) (evG (evF T N k) (.tn v)) (fun ρ st => evT (evF T N k) .an ρ st) (fun ρ st => evE (evF T N k) (.bi .tuple (.ac (.lc (.ix (.v 5) (.v 12)) (.tn 12) (.it (.v v)) .an [("name", 12)]) .an)) ρ st) ρ (p.map eL) [] st) fun ys s => ys = (p.map (·.map reN)).map eL ∧ Ext st s := by
  refine wo_mono (loopC_all (xs := p) (enc := eL) (Ext st) (fun l => eL (l.map reN)) (Ext.refl _) (fun _ _ => rfl) (lim_small (by omega)) fun l hl' s h => ?_) fun ys s ⟨e, x⟩ => ⟨by rw [e, List.map_map]; rfl, x⟩
  refine wg_tn.mpr (wt_an.mpr ⟨rfl, ?_⟩)
  show WE _ _ _ _ _
  trivial
  refine we_lc (wi_it ?_)
  refine we_v.mpr ⟨_, hv _, ?_⟩
  have ol := hp.ok l hl'
  show Wo (loopC _ _ _ _ _ _ _ _) _
  refine wo_mono (loopC_all (xs := l) (enc := PV.str) (Ext s) (fun x => .str (reN x)) (Ext.refl _) (fun _ _ => rfl) (lim_small (by have := okLet_len ol; omega)) fun x hx s2 h2 => ?_) fun ys s2 ⟨e2, x2⟩ => ?_
  · refine wg_tn.mpr (wt_an.mpr ⟨rfl, ?_⟩)
    show WE _ _ _ _ _
    simp only [we_ix, we_v, List.map_cons, List.map_nil, wipeP]
    rw [hw2]
    obtain ⟨g1, g2⟩ := hρ (eL l) (.str x)
    refine ⟨_, g1, _, g2, ix_K ((h.trans h2).get hq) (of_decide_eq_true (List.all_eq_true.mp nD_ok x (hp.names l hl' x hx))) ⟨rfl, h2⟩⟩
  · have e2 : ys = (l.map reN).map .str := by rw [e2, List.map_map]; rfl
    subst e2
    exact bi_tuple_loc new_get ⟨rfl, h.trans (x2.new _)⟩
set_option maxHeartbeats 1000000 in
theorem ev_law {k : Nat} {sc : PV} {ns : List Int} {st : Store} (h : Scr sc ns st) (hl : ns.length ≤ 63) (hN : 100 < N) : Wo (evF T N (k + 12) "law" [sc] st) fun x s => x = .bl true := by
  refine wf (d := d_law) (hT e_law (List.mem_of_getElem? (i := 52) rfl)) rfl ?_
  show WS _ _ b_law [some sc, none, none, none, none, none, none, none, none, none, none, none, none] _ _
  unfold b_law
  trivial
  refine wo_mono (ev_law_begun (k := k + 10) h hl) fun x s0 ⟨d, w, c, cs, e0, hd0, x0, hdl, hwl⟩ => ?_
  subst e0
  have h0 := h.ext x0
  obtain ⟨rounds, hrounds, hr4⟩ : ∃ r : Nat, (1 + (if ((3 : Int)) < (ns.length : Nat) then (3 : Int) else (ns.length : Nat))) = (r : Nat) ∧ r ≤ 4 := by
    by_cases q : (3 : Int) < (ns.length : Nat)
    · exact ⟨4, by rw [if_pos q]; rfl, by omega⟩
    · exact ⟨1 + ns.length, by rw [if_neg q]; omega, by omega⟩
  refine ws_fo_n (enc := fun i => PV.int (i : Nat)) rounds (fun j ρ s => (∃ a b e f g i p q r t u, ρ = [some sc, some (.loc d), a, b, e, f, g, i, p, q, r, t, u]) ∧ DS d w c cs (j * 1000) s ∧ s0.length ≤ s.length) (wi_rg1 ?_)
  trivial
  refine h0.len (bi_min (bo_add ?_))
  rw [hrounds]
  refine ⟨(rounds : Nat), rfl, by omega, by rw [Int.toNat_natCast], ⟨⟨_, _, _, _, _, _, _, _, _, _, _, rfl⟩, by simpa using hd0, Nat.le_refl _⟩, ?_, ?_, ?_⟩
  · rintro j ρ s _; rfl
  · rintro j ρ s hj ⟨⟨a, b, e, f, g, i, p, q, r, t, u, rfl⟩, hd, hsl⟩
    trivial
    refine wo_mono (ev_law_drawn (k := k + 7) hd (by omega) hN) fun x s1 ⟨seats, pool, e1, hse, hpo, hs6, hp7, hd1, hf1⟩ => ?_
    subst e1
    trivial
    refine bi_list_tup (by rw [List.length_map]; exact Nat.le_of_lt (lim_small (by omega))) ?_
    have hd1' := hd1.ext (Ext.new1 (.lst (seats.map eL)))
    have hlt1 := hd1.lt
    have gs : Good 6 seats := ⟨hse.ok, hs6⟩
    have gs40 : Good 40 seats := ⟨hse.ok, by omega⟩
    have gp60 : Good 60 pool := ⟨hpo.ok, by omega⟩
    refine wo_mono (ev_law_shuffled (k := k + 8) hd1' (by rw [List.length_map]; omega) new_get (by omega) (by omega) (by rw [List.length_map]; omega) hN (pls_map fun l hl => pl_L (okL_of (hse.ok l hl)))) fun x s2 ⟨q2, ys, e2, g2, pm, _, hd2, hf2⟩ => ?_
    subst e2
    obtain ⟨other, rfl, ho⟩ := perm_lets pm
    refine bi_tuple_loc g2 ?_
    rw [List.length_map] at hd2
    refine wo_mono (ev_law_same (k := k) (B := j * 1000 + 100 + 6) (hd2.mono (by omega)) (by omega) gs hpo hp7 ho hN) fun x s3 ⟨e3, hd3, hf3⟩ => ?_
    subst e3
    trivial
    refine wo_mono (ev_law_moves (k := k + 2) gs gp60) fun x s4 ⟨e4, x4⟩ => ?_
    subst e4
    trivial
    refine ⟨show 1 ≤ LIM by decide, show 1 ≤ LIM by decide, bo_tup (by rw [List.length_map]; exact Nat.le_of_lt (lim_small (by simp; omega))) ?_⟩
    have ew : PV.tup (seats.map eL ++ [PV.tup [.str "zoo"]]) = eP (seats ++ [zooL]) := by unfold eP; rw [List.map_append]; rfl
    rw [ew]
    have gw : Good 40 (seats ++ [zooL]) := ⟨fun l hl => by
      rcases List.mem_append.mp hl with hl | hl
      · exact hse.ok l hl
      · rw [List.mem_singleton.mp hl]; decide +kernel, by rw [List.length_append]; simp; omega⟩
    have hz : ∀ k, fitsP (pool.getD k []) zooL = false := fun k => hpo.zoo k
    have ecw : ∀ ks : List Nat, ks.Nodup → canB (seats ++ [zooL]) pool ks = canB seats pool ks := fun ks hn => canB_of hn (can_wide hz)
    refine wo_mono (ev_best_lot (k := k + 5) gw gp60 hN) fun x s5 ⟨e5, x5⟩ => ?_
    rw [grd_eq ecw] at e5
    subst e5
    refine wo_mono (ev_best_lot (k := k + 5) gs40 gp60 hN) fun x s6 ⟨e6, x6⟩ => ?_
    subst e6
    refine cmpT_ne pl_N pl_N rfl ?_
    trivial
    refine wo_mono (ev_seat_by_seat (k := k + 6) gw.1 gw.2 gp60.1 (by omega)) fun x s7 ⟨e7, x7⟩ => ?_
    rw [sbs_wide hz] at e7
    subst e7
    refine wo_mono (ev_seat_by_seat (k := k + 6) gs.1 (by omega) gp60.1 (by omega)) fun x s8 ⟨e8, x8⟩ => ?_
    subst e8
    have pO : ∀ l : List (Option Nat), (PV.tup (l.map eO)).pl 30 = true := fun l => by rw [PV.pl]; exact pls_map fun _ _ => pl_O
    refine ⟨show 1 ≤ LIM by decide, bo_tup (by rw [List.length_map, sbs_len]; exact Nat.le_of_lt (lim_small (by simp; omega))) ?_⟩
    have en : (sbs seats pool).map eO ++ [PV.non] = (sbs seats pool ++ [none]).map eO := by rw [List.map_append]; rfl
    rw [en]
    refine cmpT_ne (pO _) (pO _) rfl ?_
    trivial
    refine we_dk ?_
    trivial
    refine ⟨⟨by decide, by decide, nD_nodup, new_get⟩, ?_⟩
    have eset : ∀ o : MO, (s8 ++ [MO.dic []]).set s8.length o = s8 ++ [o] := fun o => by
      rw [List.set_append_right _ _ (Nat.le_refl _), Nat.sub_self]; rfl
    rw [eset]
    refine we_lc (wi_it ?_)
    trivial
    show Wo (loopC _ _ _ _ _ _ _ _) _
    refine wo_mono (renamed (v := 10) (q := s8.length) hse (by omega) (fun _ _ => ⟨rfl, rfl⟩) (fun _ => rfl) (fun _ => rfl) (fun _ _ => rfl) new_get) fun ys s9 ⟨e9, x9⟩ => ?_
    subst e9
    refine bi_tuple_loc new_get ?_
    refine we_lc (wi_it ?_)
    trivial
    show Wo (loopC _ _ _ _ _ _ _ _) _
    refine wo_mono (renamed (v := 11) (q := s8.length) hpo (by omega) (fun _ _ => ⟨rfl, rfl⟩) (fun _ => rfl) (fun _ => rfl) (fun _ _ => rfl) ((Ext.new1 _).get (x9.get new_get))) fun ys s10 ⟨e10, x10⟩ => ?_
    subst e10
    refine bi_tuple_loc new_get ?_
    have gf : Good 40 (seats.map (·.map reN)) := ⟨hse.ok2, by rw [List.length_map]; omega⟩
    have gn : Good 60 (pool.map (·.map reN)) := ⟨hpo.ok2, by rw [List.length_map]; omega⟩
    have same := hse.same hpo
    have lf : (seats.map (·.map reN)).length = seats.length := by rw [List.length_map]
    have ln : (pool.map (·.map reN)).length = pool.length := by rw [List.length_map]
    have ef : PV.tup ((seats.map (·.map reN)).map eL) = eP (seats.map (·.map reN)) := rfl
    have en2 : PV.tup ((pool.map (·.map reN)).map eL) = eP (pool.map (·.map reN)) := rfl
    rw [ef, en2]
    have key := fun st => ev_seat_by_seat (N := N) (k := k + 6) (p := seats.map (·.map reN)) (q := pool.map (·.map reN)) (st := st) gf.1 gf.2 gn.1 (Nat.le_trans gn.2 (by decide))
    have key2 := fun st => ev_best_paper (N := N) (k := k + 5) (seats := seats.map (·.map reN)) (pool := pool.map (·.map reN)) (st := st) gf gn hN
    refine wo_mono (key _) fun x s11 ⟨e11, x11⟩ => ?_
    rw [sbs_same lf ln same] at e11
    subst e11
    refine wo_mono (ev_seat_by_seat (k := k + 6) gs.1 (by omega) gp60.1 (by omega)) fun x s12 ⟨e12, x12⟩ => ?_
    subst e12
    refine cmpT_ne (pO _) (pO _) rfl ?_
    trivial
    have ecf : ∀ ks : List Nat, ks.Nodup → canB (seats.map (·.map reN)) (pool.map (·.map reN)) ks = canB seats pool ks := fun ks hn => canB_of hn (can_same lf same)
    refine wo_mono (key2 _) fun x s13 ⟨f1, e13, _, _, x13⟩ => ?_
    subst e13
    refine ix_tup (i := 2) rfl ?_
    refine wo_mono (ev_best_paper (k := k + 5) gs40 gp60 hN) fun x s14 ⟨f2, e14, _, _, x14⟩ => ?_
    subst e14
    refine ix_tup (i := 2) rfl ?_
    have pR : ∀ (l : List Nat) (f : Nat → List Nat), (PV.tup (l.map fun r => eR (r, f r))).pl 30 = true := fun l f => by rw [PV.pl]; exact pls_map fun _ _ => pl_R
    refine cmpT_ne (pR _ _) (pR _ _) ?_ ?_
    · rw [ln, rfs_eq2 ecf]
      congr 1
      exact List.map_congr_left fun r _ => by rw [lotOf_eq ecf]
    trivial
    have xx : Ext s3 s14 := (x4.trans (x5.trans (x6.trans (x7.trans x8)))).trans ((Ext.new1 _).trans ((x9.new _).trans ((x10.new _).trans ((x11.trans x12).trans (x13.trans x14)))))
    refine ⟨⟨_, _, _, _, _, _, _, _, _, _, _, rfl⟩, (hd3.ext xx).mono (by omega), ?_⟩
    have := hf1.1
    have := hf2.1
    have := hf3.1
    have := xx.len
    rw [List.length_append] at *
    omega
  · rintro ρ s ⟨⟨a, b, e, f, g, i, p, q, r, t, u, rfl⟩, _⟩
    trivial
theorem main_holds : Main 200 := fun ns hl _ => by
  constructor
  · obtain ⟨x, s, e, h⟩ := ev_law (N := 200) (k := 0) (sc := .frl (ns.map .int)) (ns := ns) (st := []) (.inl rfl) hl (by decide)
    exact ⟨s, by rw [e, h]⟩
  · obtain ⟨x, s, e, h⟩ := ev_law (N := 200) (k := 0) (sc := .loc 0) (ns := ns) (st := [.lst (ns.map .int)]) (.inr ⟨0, rfl, rfl⟩) hl (by decide)
    exact ⟨s, by rw [e, h]⟩
end Mi.K32

theorem PySem.Challenge.cw_protestproof_k32_whole_seats_and_seating_holds : PySem.Challenge.rw_protestproof_k32_whole_seats_and_seating.Holds :=
  holds_of Mi.K32.main_holds
