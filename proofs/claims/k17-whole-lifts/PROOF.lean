import PyProof.Rows.All
import Wide.All
import OpenK.AllK
import Wide.FinOn
import HandS.ForMost
import HandS.Exc
import HandS.TupAny
import HandS.Style
import HandS.IsInst
import HandS.Flow
import HandS.Wide
import HandS.SortInts
import HandS.More
import PySem.PyData
import HandS.CallSlots
import HandS.TryOnly
import HandS.SetFor
import HandS.Strs
import HandS.WordsExc
import HandS.Iter
import HandS.CallRecv
import HandS.Defaults
import HandS.ExcIs
import HandS.HeadHook4
import HandS.HeadEnd
import HandS.Head0
import HandS.Head1
import HandS.Head2
import KE.KStateDown
import PySem.Challenge.RW_heldwhen_k17_whole_lifts
set_option Elab.async false
set_option linter.all false
set_option maxRecDepth 100000
set_option maxHeartbeats 0
section
set_option linter.all false
set_option autoImplicit false
/-! MI1: a small semantics over plain data -/
namespace MI
open PySem (Str PyData)

/-! ### data -/
inductive D where
  | non | bl (b : Bool) | int (i : Int) | str (s : Str) | tup (ds : List D) | hdl (n : Nat) | ro (ds : List D)
mutual
def D.dec : (a b : D) → Decidable (a = b)
  | .non, .non => .isTrue rfl
  | .bl a, .bl b => if h : a = b then .isTrue (by rw [h]) else .isFalse (by intro e; cases e; exact h rfl)
  | .int a, .int b => if h : a = b then .isTrue (by rw [h]) else .isFalse (by intro e; cases e; exact h rfl)
  | .str a, .str b => if h : a = b then .isTrue (by rw [h]) else .isFalse (by intro e; cases e; exact h rfl)
  | .hdl a, .hdl b => if h : a = b then .isTrue (by rw [h]) else .isFalse (by intro e; cases e; exact h rfl)
  | .tup a, .tup b => match D.decs a b with
    | .isTrue h => .isTrue (by rw [h])
    | .isFalse h => .isFalse (by intro e; cases e; exact h rfl)
  | .ro a, .ro b => match D.decs a b with
    | .isTrue h => .isTrue (by rw [h])
    | .isFalse h => .isFalse (by intro e; cases e; exact h rfl)
  | .non, .bl _ | .non, .int _ | .non, .str _ | .non, .tup _ | .non, .hdl _ | .non, .ro _ => .isFalse nofun
  | .bl _, .non | .bl _, .int _ | .bl _, .str _ | .bl _, .tup _ | .bl _, .hdl _ | .bl _, .ro _ => .isFalse nofun
  | .int _, .non | .int _, .bl _ | .int _, .str _ | .int _, .tup _ | .int _, .hdl _ | .int _, .ro _ => .isFalse nofun
  | .str _, .non | .str _, .bl _ | .str _, .int _ | .str _, .tup _ | .str _, .hdl _ | .str _, .ro _ => .isFalse nofun
  | .tup _, .non | .tup _, .bl _ | .tup _, .int _ | .tup _, .str _ | .tup _, .hdl _ | .tup _, .ro _ => .isFalse nofun
  | .hdl _, .non | .hdl _, .bl _ | .hdl _, .int _ | .hdl _, .str _ | .hdl _, .tup _ | .hdl _, .ro _ => .isFalse nofun
  | .ro _, .non | .ro _, .bl _ | .ro _, .int _ | .ro _, .str _ | .ro _, .tup _ | .ro _, .hdl _ => .isFalse nofun
def D.decs : (a b : List D) → Decidable (a = b)
  | [], [] => .isTrue rfl
  | x :: xs, y :: ys => match D.dec x y with
    | .isTrue h => match D.decs xs ys with
      | .isTrue h2 => .isTrue (by rw [h, h2])
      | .isFalse h2 => .isFalse (by intro e; cases e; exact h2 rfl)
    | .isFalse h => .isFalse (by intro e; cases e; exact h rfl)
  | [], _ :: _ => .isFalse nofun
  | _ :: _, [] => .isFalse nofun
end
instance : DecidableEq D := D.dec

/-- what may change: a list, a dict, an object of a class -/
inductive O where
  | lst (ds : List D) | dic (kvs : List (D × D)) | ins (c : Str) (fs : List (Str × D))
  deriving DecidableEq
abbrev Mem := List O
abbrev Env := List (Option D)
/-- an expression's value: a datum, or an object that nothing else names -/
inductive RV where
  | d (d : D) | o (o : O)
  deriving DecidableEq
inductive Res (A : Type) where
  | ok (a : A) (M : Mem) | err (c : Str) (M : Mem) | bad
inductive SR where
  | nx (r : Env) (M : Mem) | ret (r : RV) (M : Mem) | err (c : Str) (r : Env) (M : Mem) | bad
/-- the longest list -/
def lim : Nat := 16777216

def Res.bind {A B : Type} (r : Res A) (f : A → Mem → Res B) : Res B :=
  match r with
  | .ok a M => f a M
  | .err c M => .err c M
  | .bad => .bad
theorem Res.bind_ok {A B : Type} (a : A) (M : Mem) (f : A → Mem → Res B) : (Res.ok a M).bind f = f a M := rfl
theorem Res.bind_err {A B : Type} (c : Str) (M : Mem) (f : A → Mem → Res B) : (Res.err c M : Res A).bind f = .err c M := rfl
theorem Res.bind_bad {A B : Type} (f : A → Mem → Res B) : (Res.bad : Res A).bind f = .bad := rfl

mutual
/-- all handles lie below n -/
def D.bel (n : Nat) : D → Bool
  | .hdl m => decide (m < n)
  | .tup ds => D.bels n ds
  | .ro ds => D.bels n ds
  | _ => true
def D.bels (n : Nat) : List D → Bool
  | [] => true
  | d :: ds => D.bel n d && D.bels n ds
end
def O.bel (n : Nat) : O → Bool
  | .lst ds => D.bels n ds
  | .dic kvs => kvs.all fun kv => kv.1.bel n && kv.2.bel n
  | .ins _ fs => fs.all fun f => f.2.bel n

def box : RV → Mem → D × Mem
  | .d d, M => (d, M)
  | .o o, M => (.hdl M.length, M ++ [o])

/-! ### reading -/
def lstOf : RV → Mem → Option (List D)
  | .d (.hdl n), M => match M[n]? with
    | some (.lst ds) => some ds
    | _ => none
  | .d (.ro ds), _ => some ds
  | .o (.lst ds), _ => some ds
  | _, _ => none
/-- a list that may be written -/
def lstT : RV → Mem → Option (List D)
  | .d (.hdl n), M => match M[n]? with
    | some (.lst ds) => some ds
    | _ => none
  | .o (.lst ds), _ => some ds
  | _, _ => none
def seqOf : RV → Mem → Option (List D)
  | .d (.tup ds), _ => some ds
  | r, M => lstOf r M
def dicOf : RV → Mem → Option (List (D × D))
  | .d (.hdl n), M => match M[n]? with
    | some (.dic kvs) => some kvs
    | _ => none
  | .o (.dic kvs), _ => some kvs
  | _, _ => none

/-- plain data, lists opened, to a depth -/
def der : Nat → Mem → D → Option PyData
  | _, _, .non => some .none
  | _, _, .bl b => some (.bool b)
  | _, _, .int i => some (.int i)
  | _, _, .str s => if s.cps.all (· < 0x110000) then some (.str s) else none
  | 0, _, .tup _ => none
  | 0, _, .hdl _ => none
  | 0, _, .ro _ => none
  | n + 1, M, .tup ds => (ds.mapM fun d => der n M d).map .tuple
  | n + 1, M, .hdl m => match M[m]? with
    | some (.lst ds) => (ds.mapM fun d => der n M d).map .list
    | _ => none
  | n + 1, M, .ro ds => (ds.mapM fun d => der n M d).map .list
def derR : RV → Mem → Option PyData
  | .d d, M => der 16 M d
  | .o (.lst ds), M => (ds.mapM fun d => der 15 M d).map .list
  | _, _ => none
mutual
/-- == of plain data -/
def peq : PyData → PyData → Bool
  | .none, .none => true
  | .bool a, .bool b => a == b
  | .bool a, .int j => (if a then 1 else 0) == j
  | .int i, .bool b => i == (if b then 1 else 0)
  | .int i, .int j => i == j
  | .str x, .str y => x == y
  | .list xs, .list ys => peqs xs ys
  | .tuple xs, .tuple ys => peqs xs ys
  | _, _ => false
def peqs : List PyData → List PyData → Bool
  | [], [] => true
  | x :: xs, y :: ys => peq x y && peqs xs ys
  | _, _ => false
end

/-! ### operations -/
abbrev Op1 := RV → Mem → Res RV
abbrev Op2 := RV → RV → Mem → Res RV
def vI (i : Int) (M : Mem) : Res RV := .ok (.d (.int i)) M
def vB (b : Bool) (M : Mem) : Res RV := .ok (.d (.bl b)) M

def oAdd : Op2
  | .d (.int i), .d (.int j), M => vI (i + j) M
  | .d (.str x), .d (.str y), M => if x.length + y.length ≤ lim then .ok (.d (.str (x ++ y))) M else .bad
  | .d (.tup xs), .d (.tup ys), M => if xs.length + ys.length ≤ lim then .ok (.d (.tup (xs ++ ys))) M else .bad
  | x, y, M => match lstT x M, lstT y M with
    | some xs, some ys => if xs.length + ys.length ≤ lim then .ok (.o (.lst (xs ++ ys))) M else .bad
    | _, _ => .bad
def oSub : Op2
  | .d (.int i), .d (.int j), M => vI (i - j) M
  | _, _, _ => .bad
def oMul : Op2
  | .d (.int i), .d (.int j), M => if (-(2 ^ 64) < i ∧ i < 2 ^ 64) ∨ (-(2 ^ 64) < j ∧ j < 2 ^ 64) then vI (i * j) M else .bad
  | _, _, _ => .bad
def oDiv : Op2
  | .d (.int i), .d (.int j), M => if 0 < j ∧ j < 1073741824 then vI (i / j) M else .bad
  | _, _, _ => .bad
def oMod : Op2
  | .d (.int i), .d (.int j), M => if 0 < j then vI (i % j) M else .bad
  | _, _, _ => .bad
def oPow : Op2
  | .d (.int i), .d (.int j), M => if 0 ≤ j ∧ j ≤ 1000000 ∧ i.natAbs < 2 ^ 64 then vI (i ^ j.toNat) M else .bad
  | _, _, _ => .bad
def oNeg : Op1
  | .d (.int i), M => vI (-i) M
  | _, _ => .bad
def oEq : Op2 := fun x y M => match derR x M, derR y M with
  | some p, some q => vB (peq p q) M
  | _, _ => .bad
def oNe : Op2 := fun x y M => match derR x M, derR y M with
  | some p, some q => vB (!peq p q) M
  | _, _ => .bad
def oLt : Op2
  | .d (.int i), .d (.int j), M => vB (decide (i < j)) M
  | _, _, _ => .bad
def oLe : Op2
  | .d (.int i), .d (.int j), M => vB (decide (i ≤ j)) M
  | _, _, _ => .bad
def oGt : Op2
  | .d (.int i), .d (.int j), M => vB (decide (j < i)) M
  | _, _, _ => .bad
def oGe : Op2
  | .d (.int i), .d (.int j), M => vB (decide (j ≤ i)) M
  | _, _, _ => .bad
def oIs : Op2
  | x, .d .non, M => vB (decide (x = .d .non)) M
  | .d (.bl a), .d (.bl b), M => vB (decide (a = b)) M
  | _, _, _ => .bad
def oIsNot : Op2
  | x, .d .non, M => vB (!decide (x = .d .non)) M
  | .d (.bl a), .d (.bl b), M => vB (!decide (a = b)) M
  | _, _, _ => .bad
/-- flat data, for in -/
def D.flat : D → Bool
  | .non => true
  | .bl _ => true
  | .int _ => true
  | .str _ => true
  | _ => false
def feq : D → D → Bool
  | .non, .non => true
  | .bl a, .bl b => a == b
  | .bl a, .int b => (if a then 1 else 0) == b
  | .int a, .bl b => a == (if b then 1 else 0)
  | .int a, .int b => a == b
  | .str a, .str b => a == b
  | _, _ => false
def isKey : D → Bool
  | .int _ => true
  | .str _ => true
  | _ => false
def dget (kvs : List (D × D)) (k : D) : Option D := (kvs.find? fun kv => decide (kv.1 = k)).map (·.2)
def dput (kvs : List (D × D)) (k v : D) : List (D × D) :=
  if (kvs.any fun kv => decide (kv.1 = k)) = true then kvs.map (fun kv => if kv.1 = k then (kv.1, v) else kv) else kvs ++ [(k, v)]
def inR : RV → RV → Mem → Option Bool
  | .d k, r, M => match dicOf r M with
    | some kvs => if isKey k then some (dget kvs k).isSome else none
    | none => match seqOf r M with
      | some ds => if k.flat && ds.all D.flat then some (ds.any fun d => feq d k) else none
      | none => none
  | _, _, _ => none
def oIn : Op2 := fun x y M => match inR x y M with
  | some b => vB b M
  | none => .bad
def oNotIn : Op2 := fun x y M => match inR x y M with
  | some b => vB (!b) M
  | none => .bad

/-- the place that an index of any sign means -/
def ixN (n : Nat) (i : Int) : Option Nat := if 0 ≤ i then (if i < n then some i.toNat else none) else if -(n : Int) ≤ i then some (i + n).toNat else none
def oIx : Op2
  | x, .d (.int i), M => match seqOf x M with
    | some ds => match ixN ds.length i with
      | some j => match ds[j]? with
        | some d => .ok (.d d) M
        | none => .bad
      | none => .bad
    | none => match dicOf x M with
      | some kvs => match dget kvs (.int i) with
        | some d => .ok (.d d) M
        | none => .bad
      | none => .bad
  | x, .d k, M => match dicOf x M with
    | some kvs => if isKey k then match dget kvs k with
        | some d => .ok (.d d) M
        | none => .bad
      else .bad
    | none => .bad
  | _, _, _ => .bad
def sIx (n d : Nat) : Option Int → Nat
  | none => d
  | some v => if v < 0 then (v + (n : Int)).toNat else min v.toNat n
def cut {A : Type} (xs : List A) (lo hi : Option Int) : List A := (xs.drop (sIx xs.length 0 lo)).take (sIx xs.length xs.length hi - sIx xs.length 0 lo)
def oSlice (x : RV) (lo hi : Option Int) (M : Mem) : Res RV :=
  match x with
  | .d (.tup ds) => .ok (.d (.tup (cut ds lo hi))) M
  | x => match lstOf x M with
    | some ds => .ok (.o (.lst (cut ds lo hi))) M
    | none => .bad

/-- truth -/
def truR : RV → Mem → Option Bool
  | .d .non, _ => some false
  | .d (.bl b), _ => some b
  | .d (.int i), _ => some (i != 0)
  | .d (.str s), _ => if s.length ≤ lim then some ((s.length : Int) != 0) else none
  | .d (.tup ds), _ => some (!ds.isEmpty)
  | r, M => (lstOf r M).map fun ds => !ds.isEmpty

/-! ### builtins -/
def bLen : Op1
  | .d (.str s), M => if s.length ≤ lim then vI s.length M else .bad
  | r, M => match seqOf r M with
    | some ds => vI ds.length M
    | none => .bad
def bList : Op1 := fun r M => match seqOf r M with
  | some ds => .ok (.o (.lst ds)) M
  | none => .bad
def bTuple : Op1 := fun r M => match seqOf r M with
  | some ds => .ok (.d (.tup ds)) M
  | none => .bad
def bInt : Op1
  | .d (.int i), M => vI i M
  | .d (.bl b), M => vI (if b then 1 else 0) M
  | _, _ => .bad
def bAbs : Op1
  | .d (.int i), M => vI (if i < 0 then -i else i) M
  | _, _ => .bad
def bMax2 : Op2
  | .d (.int i), .d (.int j), M => vI (if j > i then j else i) M
  | _, _, _ => .bad
def bMin2 : Op2
  | .d (.int i), .d (.int j), M => vI (if j < i then j else i) M
  | _, _, _ => .bad
def asInts : List D → Option (List Int)
  | [] => some []
  | .int i :: r => (asInts r).map (i :: ·)
  | _ => none
/-- put into a rising list -/
def insI (i : Int) : List Int → List Int
  | [] => [i]
  | j :: r => if i ≤ j then i :: j :: r else j :: insI i r
def sortI : List Int → List Int
  | [] => []
  | i :: r => insI i (sortI r)
def dedI : List Int → List Int
  | [] => []
  | i :: r => if r.contains i then dedI r else i :: dedI r
/-- sorted(list), sorted(dict): whole numbers -/
def bSorted : Op1 := fun r M => match dicOf r M with
  | some kvs => match asInts (kvs.map (·.1)) with
    | some ns => .ok (.o (.lst ((sortI ns).map D.int))) M
    | none => .bad
  | none => match lstOf r M with
    | some ds => match asInts ds with
      | some ns => .ok (.o (.lst ((sortI ns).map D.int))) M
      | none => .bad
    | none => .bad
/-- sorted(set(..)) -/
def bSortedSet : Op1 := fun r M => match seqOf r M with
  | some ds => match asInts ds with
    | some ns => if ns.length < 4000 then .ok (.o (.lst ((sortI (dedI ns)).map D.int))) M else .bad
    | none => .bad
  | none => .bad
/-- max(xs), min(xs) of whole numbers -/
def maxL : Int → List Int → Int
  | m, [] => m
  | m, x :: r => maxL (if m < x then x else m) r
def minL : Int → List Int → Int
  | m, [] => m
  | m, x :: r => minL (if x < m then x else m) r
def bMax1 : Op1 := fun r M => match lstOf r M with
  | some ds => match asInts ds with
    | some (n :: ns) => vI (maxL n ns) M
    | _ => .bad
  | none => .bad
def bMin1 : Op1 := fun r M => match lstOf r M with
  | some ds => match asInts ds with
    | some (n :: ns) => vI (minL n ns) M
    | _ => .bad
  | none => .bad
def asBls : List D → Option (List Bool)
  | [] => some []
  | .bl i :: r => (asBls r).map (i :: ·)
  | _ => none
def bAll : Op1 := fun r M => match lstOf r M with
  | some ds => match asBls ds with
    | some bs => vB (bs.all id) M
    | none => .bad
  | none => .bad
/-- str(i) of a number that is not too long -/
def bStr : Op1
  | .d (.int i), M => if i.natAbs.log2 < 1920 then .ok (.d (.str (Str.ofString (toString i)))) M else .bad
  | _, _ => .bad
inductive Ty where
  | tuple | bool | int | list | str | dict
  deriving DecidableEq
def isTy : Ty → RV → Mem → Option Bool
  | t, .d .non, _ => some false
  | t, .d (.bl _), _ => some (decide (t = .bool) || decide (t = .int))
  | t, .d (.int _), _ => some (decide (t = .int))
  | t, .d (.str _), _ => some (decide (t = .str))
  | t, .d (.tup _), _ => some (decide (t = .tuple))
  | t, .d (.ro _), _ => some (decide (t = .list))
  | t, .d (.hdl n), M => match M[n]? with
    | some (.lst _) => some (decide (t = .list))
    | some (.dic _) => some (decide (t = .dict))
    | _ => none
  | t, .o (.lst _), _ => some (decide (t = .list))
  | t, .o (.dic _), _ => some (decide (t = .dict))
  | _, _, _ => none
def bIsi (t : Ty) : Op1 := fun r M => match isTy t r M with
  | some b => vB b M
  | none => .bad

/-! ### methods of lists and dicts: the receiver's handle, the boxed arguments -/
def mAppend (n : Nat) (d : D) (M : Mem) : Res RV := match M[n]? with
  | some (.lst ds) => if ds.length < lim then .ok (.d .non) (M.set n (.lst (ds ++ [d]))) else .bad
  | _ => .bad
def mPopAt (n : Nat) (d : D) (M : Mem) : Res RV := match M[n]? with
  | some (.lst ds) => match d with
    | .int i => if 0 ≤ i ∧ i < ds.length ∧ i < 2 ^ 62 then match ds[i.toNat]? with
        | some d => .ok (.d d) (M.set n (.lst (ds.eraseIdx i.toNat)))
        | none => .bad
      else .bad
    | _ => .bad
  | _ => .bad
def mClear (n : Nat) (M : Mem) : Res RV := match M[n]? with
  | some (.lst _) => .ok (.d .non) (M.set n (.lst []))
  | _ => .bad
def mPop (n : Nat) (M : Mem) : Res RV := match M[n]? with
  | some (.lst ds) => match ds.getLast? with
    | some d => .ok (.d d) (M.set n (.lst ds.dropLast))
    | none => .bad
  | _ => .bad
def mInsert (n : Nat) (i d : D) (M : Mem) : Res RV := match M[n]? with
  | some (.lst ds) => match i with
    | .int i => if 0 ≤ i ∧ i < 2 ^ 62 ∧ ds.length < lim then .ok (.d .non) (M.set n (.lst (ds.take i.toNat ++ [d] ++ ds.drop i.toNat))) else .bad
    | _ => .bad
  | _ => .bad
/-- o[k] = v -/
def setIx (o k v : D) (M : Mem) : Option Mem := match o with
  | .hdl n => match M[n]? with
    | some (.lst ds) => match k with
      | .int i => match ixN ds.length i with
        | some j => some (M.set n (.lst (ds.set j v)))
        | none => none
      | _ => none
    | some (.dic kvs) => if isKey k ∧ kvs.length < lim then some (M.set n (.dic (dput kvs k v))) else none
    | _ => none
  | _ => none

/-! ### expressions, tests, arguments -/
abbrev Cl := Str → List D → Mem → Res RV
abbrev SE := Cl → Env → Mem → Res RV
abbrev STt := Cl → Env → Mem → Res Bool
abbrev SDs := Cl → Env → Mem → Res (List D)
abbrev SO := Cl → Env → Mem → Res (Option Int)
abbrev SS := Cl → Env → Mem → SR

def eVar (i : Nat) : SE := fun _ r M => match r[i]? with
  | some (some d) => .ok (.d d) M
  | _ => .bad
def eC (d : D) : SE := fun _ _ M => .ok (.d d) M
def e1 (op : Op1) (a : SE) : SE := fun cl r M => (a cl r M).bind op
def e2 (op : Op2) (a b : SE) : SE := fun cl r M => (a cl r M).bind fun x M => (b cl r M).bind fun y M => op x y M
/-- not e as a value -/
def eNot (a : SE) : SE := fun cl r M => (a cl r M).bind fun x M => match truR x M with
  | some b => vB (!b) M
  | none => .bad
def eAnd (a b : SE) : SE := fun cl r M => (a cl r M).bind fun x M => match truR x M with
  | some true => b cl r M
  | some false => .ok x M
  | none => .bad
def eOr (a b : SE) : SE := fun cl r M => (a cl r M).bind fun x M => match truR x M with
  | some true => .ok x M
  | some false => b cl r M
  | none => .bad
def tAnd (a b : STt) : STt := fun cl r M => (a cl r M).bind fun x M => if x = true then b cl r M else .ok false M
def tOr (a b : STt) : STt := fun cl r M => (a cl r M).bind fun x M => if x = true then .ok true M else b cl r M
def tNot (a : STt) : STt := fun cl r M => (a cl r M).bind fun x M => .ok (!x) M
/-- a value's truth -/
def tTru (a : SE) : STt := fun cl r M => (a cl r M).bind fun x M => match truR x M with
  | some b => .ok b M
  | none => .bad
/-- a value that is a truth -/
def tB (a : SE) : STt := fun cl r M => (a cl r M).bind fun x M => match x with
  | .d (.bl b) => .ok b M
  | _ => .bad
def eIf (t : STt) (a b : SE) : SE := fun cl r M => (t cl r M).bind fun x M => if x = true then a cl r M else b cl r M
def dNil : SDs := fun _ _ M => .ok [] M
def dCons (a : SE) (as : SDs) : SDs := fun cl r M => (a cl r M).bind fun x M => (as cl r (box x M).2).bind fun ds M' => .ok ((box x M).1 :: ds) M'
def eTup (as : SDs) : SE := fun cl r M => (as cl r M).bind fun ds M => if ds.length ≤ lim then .ok (.d (.tup ds)) M else .bad
def eLst (as : SDs) : SE := fun cl r M => (as cl r M).bind fun ds M => if ds.length ≤ lim then .ok (.o (.lst ds)) M else .bad
def eDic0 : SE := fun _ _ M => .ok (.o (.dic [])) M
/-- pairs, key value key value .. -/
def pairUp : List D → List (D × D) → Option (List (D × D))
  | [], acc => some acc
  | k :: v :: r, acc => if isKey k then pairUp r (dput acc k v) else none
  | _, _ => none
def eDic (as : SDs) : SE := fun cl r M => (as cl r M).bind fun ds M => match pairUp ds [] with
  | some kvs => if ds.length ≤ 30 then .ok (.o (.dic kvs)) M else .bad
  | none => .bad
def eCall (f : Str) (as : SDs) : SE := fun cl r M => (as cl r M).bind fun ds M => cl f ds M
def oNone : SO := fun _ _ M => .ok none M
def oSome (a : SE) : SO := fun cl r M => (a cl r M).bind fun x M => match x with
  | .d (.int i) => .ok (some i) M
  | _ => .bad
def eSlice (a : SE) (lo hi : SO) : SE := fun cl r M => (a cl r M).bind fun x M => (lo cl r M).bind fun l M => (hi cl r M).bind fun h M => oSlice x l h M
/-- a method of a list, of one argument: the receiver is a handle -/
def eM1 (m : Nat → D → Mem → Res RV) (o a : SE) : SE := fun cl r M => (o cl r M).bind fun x M => match x with
  | .d (.hdl n) => if (lstT (.d (.hdl n)) M).isSome = true then (a cl r M).bind fun y M => m n (box y M).1 (box y M).2 else .bad
  | _ => .bad

def eM0 (m : Nat → Mem → Res RV) (o : SE) : SE := fun cl r M => (o cl r M).bind fun x M => match x with
  | .d (.hdl n) => if (lstT (.d (.hdl n)) M).isSome = true then m n M else .bad
  | _ => .bad
def eM2 (m : Nat → D → D → Mem → Res RV) (o a b : SE) : SE := fun cl r M => (o cl r M).bind fun x M => match x with
  | .d (.hdl n) => if (lstT (.d (.hdl n)) M).isSome = true then (a cl r M).bind fun y M => (b cl r (box y M).2).bind fun z M2 => m n (box y M).1 (box z M2).1 (box z M2).2 else .bad
  | _ => .bad
/-- a method of a list that was just made -/
def eN1 (m : Nat → D → Mem → Res RV) (o a : SE) : SE := fun cl r M => (o cl r M).bind fun x M => match x with
  | .o (.lst ds) => (a cl r (M ++ [.lst ds])).bind fun y M2 => m M.length (box y M2).1 (box y M2).2
  | _ => .bad
def eN0 (m : Nat → Mem → Res RV) (o : SE) : SE := fun cl r M => (o cl r M).bind fun x M => match x with
  | .o (.lst ds) => m M.length (M ++ [.lst ds])
  | _ => .bad
/-- every so many-th -/
def pickS (lo : Nat) (k : Nat) (xs : List D) : List D := (List.range ((xs.length - lo + (k - 1)) / k)).filterMap fun j => xs[lo + k * j]?
/-- a[lo:hi:k] of a list, k from 1 on -/
def eStep (a : SE) (lo hi : SO) (k : Nat) : SE := fun cl r M => (a cl r M).bind fun x M => (lo cl r M).bind fun l M => (hi cl r M).bind fun h M => match lstOf x M with
  | some ds => .ok (.o (.lst (pickS (sIx ds.length 0 l) k (ds.take (sIx ds.length ds.length h))))) M
  | none => .bad
/-- a[::-1] of a list -/
def eRev (a : SE) : SE := fun cl r M => (a cl r M).bind fun x M => match lstOf x M with
  | some ds => .ok (.o (.lst ds.reverse)) M
  | none => .bad
/-! ### targets, iterations -/
inductive Tg where
  | nm (i : Nat) | tp (is : List Nat)
def setAll : List Nat → List D → Env → Option Env
  | [], [], r => some r
  | i :: is, d :: ds, r => setAll is ds (r.set i (some d))
  | _, _, _ => none
def asg : Tg → D → Env → Option Env
  | .nm i, d, r => some (r.set i (some d))
  | .tp is, .tup ds, r => setAll is ds r
  | _, _, _ => none
/-- a source: its items, and which list must stay as it is -/
abbrev Chk := List (Nat × List D)
def chkOk (c : Chk) (M : Mem) : Bool := c.all fun p => decide (M[p.1]? = some (.lst p.2))
abbrev SI := Cl → Env → Mem → Res (List D × Chk)
def chkR : RV → Mem → Chk
  | .d (.hdl n), M => match M[n]? with
    | some (.lst ds) => [(n, ds)]
    | _ => []
  | _, _ => []
def iSeq (a : SE) : SI := fun cl r M => (a cl r M).bind fun x M => match seqOf x M with
  | some ds => .ok (ds, chkR x M) M
  | none => .bad
def rngD (lo : Int) (n : Nat) : List D := (List.range n).map fun (k : Nat) => D.int (lo + k)
def iRange1 (a : SE) : SI := fun cl r M => (a cl r M).bind fun x M => match x with
  | .d (.int n) => if n < 2 ^ 62 ∧ -(2 ^ 62) ≤ n then .ok (rngD 0 n.toNat, []) M else .bad
  | _ => .bad
def iRange2 (a b : SE) : SI := fun cl r M => (a cl r M).bind fun x M => (b cl r M).bind fun y M => match x, y with
  | .d (.int i), .d (.int j) => if (-(2 ^ 62) ≤ i ∧ i < 2 ^ 62) ∧ -(2 ^ 62) ≤ j ∧ j < 2 ^ 62 then .ok (rngD i (j - i).toNat, []) M else .bad
  | _, _ => .bad
def rngC (lo c : Int) (n : Nat) : List D := (List.range n).map fun (k : Nat) => D.int (lo + k * c)
/-- range(i, j, c), c rising or falling -/
def rgN (i j c : Int) : Nat := if 0 < c then ((j - i + c - 1) / c).toNat else ((i - j - c - 1) / (-c)).toNat
def iRange3 (a b c : SE) : SI := fun cl r M => (a cl r M).bind fun x M => (b cl r M).bind fun y M => (c cl r M).bind fun z M => match x, y, z with
  | .d (.int i), .d (.int j), .d (.int c) => if (-(2 ^ 61) ≤ i ∧ i < 2 ^ 61) ∧ (-(2 ^ 61) ≤ j ∧ j < 2 ^ 61) ∧ c ≠ 0 ∧ c.natAbs < 1000000 then .ok (rngC i c (rgN i j c), []) M else .bad
  | _, _, _ => .bad
def forL (body : Env → Mem → SR) (tg : Tg) (c : Chk) : List D → Env → Mem → SR
  | [], r, M => if chkOk c M then .nx r M else .bad
  | x :: xs, r, M => if chkOk c M then
      match asg tg x r with
      | some r1 => match body r1 M with
        | .nx r2 M2 => forL body tg c xs r2 M2
        | o => o
      | none => .bad
    else .bad
def wipe (r : Env) : List Nat → Env
  | [] => r
  | v :: vs => (wipe r vs).set v none
def Res.calm {A : Type} : Res A → Res A
  | .ok a M => .ok a M
  | _ => .bad
/-- the items of a list comprehension -/
def compL (elt : Env → Mem → Res RV) (tst : Env → Mem → Res Bool) (tg : Tg) (c : Chk) (r : Env) : List D → List D → Mem → Res RV
  | [], acc, M => if chkOk c M then .ok (.o (.lst acc)) M else .bad
  | x :: xs, acc, M => if chkOk c M then
      match asg tg x r with
      | some r1 => (tst r1 M).calm.bind fun b M => if b = true then
          (elt r1 M).calm.bind fun y M => if acc.length < lim then compL elt tst tg c r xs (acc ++ [(box y M).1]) (box y M).2 else .bad
        else compL elt tst tg c r xs acc M
      | none => .bad
    else .bad
def tYes : STt := fun _ _ M => .ok true M
def eComp (elt : SE) (tst : STt) (tg : Tg) (own : List Nat) (it : SI) : SE := fun cl r M => (it cl r M).bind fun p M =>
  compL (elt cl) (tst cl) tg p.2 (wipe r own) p.1 [] M

/-! ### statements -/
def ofE (s : Res RV) (r : Env) (f : RV → Mem → SR) : SR := match s with
  | .ok x M => f x M
  | .err c M => .err c r M
  | .bad => .bad
def ofT (s : Res Bool) (r : Env) (f : Bool → Mem → SR) : SR := match s with
  | .ok x M => f x M
  | .err c M => .err c r M
  | .bad => .bad
def ofI (s : Res (List D × Chk)) (r : Env) (f : List D × Chk → Mem → SR) : SR := match s with
  | .ok x M => f x M
  | .err c M => .err c r M
  | .bad => .bad
def sNil : SS := fun _ r M => .nx r M
def sSeq (a b : SS) : SS := fun cl r M => match a cl r M with
  | .nx r M => b cl r M
  | o => o
def sSet (i : Nat) (e : SE) : SS := fun cl r M => ofE (e cl r M) r fun x M => .nx (r.set i (some (box x M).1)) (box x M).2
def sUnp (is : List Nat) (e : SE) : SS := fun cl r M => ofE (e cl r M) r fun x M => match x with
  | .d (.tup ds) => match setAll is ds r with
    | some r => .nx r M
    | none => .bad
  | _ => .bad
def sSetIx (o k e : SE) : SS := fun cl r M => ofE (e cl r M) r fun x M => ofE (o cl r (box x M).2) r fun y M1 => ofE (k cl r M1) r fun z M2 => match y, z with
  | .d y, .d z => match setIx y z (box x M).1 M2 with
    | some M => .nx r M
    | none => .bad
  | _, _ => .bad
def sExpr (e : SE) : SS := fun cl r M => ofE (e cl r M) r fun _ M => .nx r M
def sRet (e : SE) : SS := fun cl r M => ofE (e cl r M) r fun x M => .ret x M
def sRetN : SS := fun _ _ M => .ret (.d .non) M
def sIf (t : STt) (a b : SS) : SS := fun cl r M => ofT (t cl r M) r fun b' M => if b' = true then a cl r M else b cl r M
def sRaise (c : Str) : SS := fun _ r M => .err c r M
def sFor (tg : Tg) (it : SI) (body : SS) : SS := fun cl r M => ofI (it cl r M) r fun p M => forL (body cl) tg p.2 p.1 r M
/-- the slot of the clause's name, gone -/
def gone (i : Option Nat) (r : Env) : Env := match i with
  | some i => r.set i none
  | none => r
/-- try: body except X as n: suite; cat: is c caught -/
def sTry (i : Option Nat) (body : SS) (cat : Str → Bool) (suite : Str → SS) : SS := fun cl r M => match body cl r M with
  | .err c r1 M1 => if cat c = true then
      match suite c cl (gone i r1) M1 with
      | .nx r2 M2 => .nx (gone i r2) M2
      | .ret x M2 => .ret x M2
      | _ => .bad
    else .err c r1 M1
  | o => o

def dPairs : List (SE × SE) → SDs
  | [] => dNil
  | p :: r => dCons p.1 (dCons p.2 (dPairs r))
/-! ### what a suite does -/
/-- is a c a d -/
def subX (c d : Str) : Bool := decide (c = d) || (decide (d = "HeldError") || decide (d = "ValueError"))
def catX (exs : List Str) (x : Str) (c : Str) : Bool := decide (c ∈ exs) && subX c x
inductive SuI where
  | isi (neg : Bool) (cs : List Str) | var (j : Nat)
inductive SuS where
  | lst (j : Nat) (add : Bool) (its : List SuI) | con (j : Nat) (b : Bool) | one (j : Nat) (it : SuI)
def SuI.val (c : Str) : SuI → Bool
  | .isi neg cs => if neg = true then !(cs.any (subX c)) else cs.any (subX c)
  | .var _ => true
def SuI.sem (c : Str) : SuI → SE
  | .isi neg cs => eC (.bl (SuI.val c (.isi neg cs)))
  | .var j => eVar j
def suLst (c : Str) : List SuI → SDs
  | [] => dNil
  | s :: r => dCons (s.sem c) (suLst c r)
def SuS.sem (c : Str) : SuS → SS
  | .lst j false its => sSet j (eLst (suLst c its))
  | .lst j true its => sSet j (e2 oAdd (eVar j) (eLst (suLst c its)))
  | .con j b => sSet j (eC (.bl b))
  | .one j it => sSet j (it.sem c)
def suBody (c : Str) : List SuS → SS
  | [] => sNil
  | s :: r => sSeq (s.sem c) (suBody c r)
def sBad : SS := fun _ _ _ => .bad
def suSem (exs : List Str) (spec : List SuS) (c : Str) : SS := if c ∈ exs then suBody c spec else sBad
/-! ### functions -/
inductive Mode where
  | pure | keep
  deriving DecidableEq
structure Fn where
  ar : Nat
  ns : Nat
  mode : Mode
  body : SS
/-- what is handed back: the memory as it was, if nothing of the new is wanted -/
def fin (m : Mode) (M0 : Mem) (x : RV) (M : Mem) : Res RV :=
  match m with
  | .keep => .ok x M
  | .pure => if M.take M0.length = M0 then
      match x with
      | .d (.hdl n) => if n < M0.length then .ok x M0 else
          match M[n]? with
          | some o => if o.bel M0.length = true then .ok (.o o) M0 else .bad
          | none => .bad
      | .d d => if d.bel M0.length = true then .ok x M0 else .bad
      | .o o => if o.bel M0.length = true then .ok x M0 else .bad
    else .bad
def finS (m : Mode) (M0 : Mem) : SR → Res RV
  | .nx _ M => fin m M0 (.d .non) M
  | .ret x M => fin m M0 x M
  | .err c _ M => match m with
    | .keep => .err c M
    | .pure => if M.take M0.length = M0 then .err c M0 else .bad
  | .bad => .bad
def Fn.run (F : Fn) : Cl → List D → Mem → Res RV := fun cl ds M =>
  if ds.length = F.ar then finS F.mode M (F.body cl (ds.map some ++ List.replicate (F.ns - ds.length) none) M) else .bad
abbrev Tab := List (Str × Fn)
def run (T : Tab) : Nat → Cl
  | 0, _, _, _ => .bad
  | n + 1, f, ds, M => match T.lookup f with
    | some F => F.run (run T n) ds M
    | none => .bad
end MI
end
section
set_option Elab.async false
set_option linter.all false
set_option maxRecDepth 100000
set_option maxHeartbeats 4000000
/-! MI2: the small semantics and the heap -/
namespace MI
open PySem PySem.Spec PyProof.Rows L2

theorem lim_eq : lim = sizeLine := rfl
abbrev Sg := List (Option V)
/-- a list that is only read -/
def SqF (K : PySem.W.Frag) (H : Hp) (a : Addr) (xs : List V) : Prop :=
  (∃ o, H a = some (.frz o (.lst xs))) ∨
    ∃ (o : Obj) (its : Array Value) (n : Nat), K.lookup a = some o ∧ o.cls = .type "list" ∧ o.dict = none ∧ o.data = .seq its n ∧ its.size ≤ sizeLine ∧ Vals xs its.toList
theorem SqF.sq {K : PySem.W.Frag} {H : Hp} {a : Addr} {xs : List V} (h : SqF K H a xs) : SqL K H a xs := by
  rcases h with ⟨o, h⟩ | h
  · exact .inl (.inr ⟨o, h⟩)
  · exact .inr h

section
variable (K : PySem.W.Frag) (CL : Str → Option Addr) (mu : List Addr) (H : Hp)
mutual
/-- a value of the layer stands for a datum -/
def Rv : D → V → Prop
  | .non, v => v = .non
  | .bl b, v => v = .bl b
  | .int i, v => v = .int i
  | .str s, v => v = .str s
  | .tup ds, v => ∃ a vs, v = .ref a ∧ SqT K H a vs ∧ Rvs ds vs
  | .hdl n, v => ∃ a, mu[n]? = some a ∧ v = .ref a
  | .ro ds, v => ∃ a vs, v = .ref a ∧ SqF K H a vs ∧ Rvs ds vs
def Rvs : List D → List V → Prop
  | [], vs => vs = []
  | d :: ds, vs => ∃ v r, vs = v :: r ∧ Rv d v ∧ Rvs ds r
end
def Rkv : List (D × D) → List (Key × V) → Prop
  | [], ks => ks = []
  | p :: r, ks => ∃ k v ks', ks = (k, v) :: ks' ∧ Rv K mu H p.1 (kV k) ∧ isKey p.1 = true ∧ Rv K mu H p.2 v ∧ Rkv r ks'
def Rfs : List (Str × D) → List (Str × V) → Prop
  | [], fs => fs = []
  | p :: r, fs => ∃ v fs', fs = (p.1, v) :: fs' ∧ Rv K mu H p.2 v ∧ Rfs r fs'
/-- an object of the memory stands at a -/
def Ro : O → Addr → Prop
  | .lst ds, a => ∃ vs, H a = some (.lst vs) ∧ Rvs K mu H ds vs
  | .dic kvs, a => ∃ ks, H a = some (.dK ks) ∧ Rkv K mu H kvs ks
  | .ins c fs, a => ∃ C dx fs', CL c = some C ∧ H a = some (.ins C dx fs') ∧ Rfs K mu H fs fs'
structure Rm (M : Mem) : Prop where
  len : mu.length = M.length
  nd : mu.Nodup
  ob : ∀ (n : Nat) (a : Addr) (o : O), mu[n]? = some a → M[n]? = some o → Ro K CL mu H o a
structure Rst (r : Env) (σ : Sg) : Prop where
  len : r.length = σ.length
  at_ : ∀ (i : Nat) (d : D), r[i]? = some (some d) → ∃ v, σ[i]? = some (some v) ∧ Rv K mu H d v
/-- an expression's value, made behind H0 if it is a new object -/
def Rr (H0 : Hp) : RV → V → Prop
  | .d d, v => Rv K mu H d v
  | .o o, v => ∃ a, v = .ref a ∧ Ro K CL mu H o a ∧ a ∉ mu ∧ H0 a = none
/-- .. wherever it was made -/
def Rw : RV → V → Prop
  | .d d, v => Rv K mu H d v
  | .o o, v => ∃ a, v = .ref a ∧ Ro K CL mu H o a ∧ a ∉ mu
end
/-- from one state to a later one -/
structure Stp (mu : List Addr) (H : Hp) (mu' : List Addr) (H' : Hp) : Prop where
  pre : ∃ t, mu' = mu ++ t
  new : ∀ a, a ∈ mu' → a ∈ mu ∨ H a = none
  keep : ∀ a o, H a = some o → a ∉ mu → H' a = some o

section
variable {K : PySem.W.Frag} {CL : Str → Option Addr} {mu mu' mu1 mu2 : List Addr} {H H0 H' H1 H2 : Hp} {M M' : Mem} {r : Env} {σ : Sg}

theorem Rvs.length : ∀ {ds : List D} {vs : List V}, Rvs K mu H ds vs → ds.length = vs.length
  | [], vs, h => by rw [show vs = [] from h]; rfl
  | d :: ds, _, ⟨v, r, e, _, t⟩ => by rw [e, List.length_cons, List.length_cons, Rvs.length t]
theorem Rvs.get : ∀ {ds : List D} {vs : List V} {i : Nat} {d : D}, Rvs K mu H ds vs → ds[i]? = some d → ∃ v, vs[i]? = some v ∧ Rv K mu H d v
  | [], _, _, _, _, e => by simp at e
  | d :: ds, _, 0, _, ⟨v, r, e, h, _⟩, q => by
    rw [e]; simp at q; subst q; exact ⟨v, rfl, h⟩
  | d :: ds, _, i + 1, _, ⟨v, r, e, _, t⟩, q => by
    rw [e]
    obtain ⟨w, h1, h2⟩ := Rvs.get (i := i) t (by simpa using q)
    exact ⟨w, by simpa using h1, h2⟩
theorem Rvs.append : ∀ {ds es : List D} {vs ws : List V}, Rvs K mu H ds vs → Rvs K mu H es ws → Rvs K mu H (ds ++ es) (vs ++ ws)
  | [], _, _, _, h, t => by rw [show _ = [] from h]; exact t
  | d :: ds, _, _, _, ⟨v, r, e, h, q⟩, t => by rw [e]; exact ⟨v, _, rfl, h, Rvs.append q t⟩
theorem Rvs.one {d : D} {v : V} (h : Rv K mu H d v) : Rvs K mu H [d] [v] := ⟨v, [], rfl, h, rfl⟩
theorem Rvs.take : ∀ {ds : List D} {vs : List V} (n : Nat), Rvs K mu H ds vs → Rvs K mu H (ds.take n) (vs.take n)
  | _, _, 0, _ => rfl
  | [], _, n + 1, h => by rw [show _ = [] from h]; rfl
  | d :: ds, _, n + 1, ⟨v, r, e, h, q⟩ => by rw [e]; exact ⟨v, _, rfl, h, Rvs.take n q⟩
theorem Rvs.drop : ∀ {ds : List D} {vs : List V} (n : Nat), Rvs K mu H ds vs → Rvs K mu H (ds.drop n) (vs.drop n)
  | _, _, 0, h => h
  | [], _, n + 1, h => by rw [show _ = [] from h]; rfl
  | d :: ds, _, n + 1, ⟨v, r, e, h, q⟩ => by rw [e]; exact Rvs.drop n q
theorem Rvs.set : ∀ {ds : List D} {vs : List V} {d : D} {v : V} (i : Nat), Rvs K mu H ds vs → Rv K mu H d v → Rvs K mu H (ds.set i d) (vs.set i v)
  | [], _, _, _, _, h, _ => by rw [show _ = [] from h]; rfl
  | d :: ds, _, _, _, 0, ⟨v, r, e, h, q⟩, h2 => by rw [e]; exact ⟨_, _, rfl, h2, q⟩
  | d :: ds, _, _, _, i + 1, ⟨v, r, e, h, q⟩, h2 => by rw [e]; exact ⟨_, _, rfl, h, Rvs.set i q h2⟩
theorem Rvs.eraseIdx : ∀ {ds : List D} {vs : List V} (i : Nat), Rvs K mu H ds vs → Rvs K mu H (ds.eraseIdx i) (vs.eraseIdx i)
  | [], _, _, h => by rw [show _ = [] from h]; rfl
  | d :: ds, _, 0, ⟨v, r, e, h, q⟩ => by rw [e]; exact q
  | d :: ds, _, i + 1, ⟨v, r, e, h, q⟩ => by rw [e]; exact ⟨_, _, rfl, h, Rvs.eraseIdx i q⟩
theorem Rvs.dropLast {ds : List D} {vs : List V} (h : Rvs K mu H ds vs) : Rvs K mu H ds.dropLast vs.dropLast := by
  rw [List.dropLast_eq_take, List.dropLast_eq_take, h.length]; exact h.take _
theorem Rvs.ints : ∀ {ns : List Int} {vs : List V}, Rvs K mu H (ns.map D.int) vs → vs = ns.map V.int
  | [], _, h => h
  | n :: ns, _, ⟨v, r, e, h, t⟩ => by rw [e, show v = V.int n from h, Rvs.ints t]; rfl
theorem Rvs.of_ints : ∀ (ns : List Int), Rvs K mu H (ns.map D.int) (ns.map V.int)
  | [] => rfl
  | n :: ns => ⟨_, _, rfl, rfl, Rvs.of_ints ns⟩

/-! ### tracked objects -/
theorem Rm.get (R : Rm K CL mu H M) {a : Addr} (h : a ∈ mu) : ∃ (n : Nat) (o : O), mu[n]? = some a ∧ M[n]? = some o ∧ Ro K CL mu H o a := by
  obtain ⟨n, hn, e⟩ := List.mem_iff_getElem.mp h
  have hm : n < M.length := by rw [← R.len]; exact hn
  have e1 : mu[n]? = some a := by rw [List.getElem?_eq_getElem hn, e]
  exact ⟨n, M[n], e1, List.getElem?_eq_getElem hm, R.ob n a _ e1 (List.getElem?_eq_getElem hm)⟩
/-- what may stand at a tracked address -/
def isMut : HO → Bool
  | .lst _ => true
  | .dK _ => true
  | .ins _ _ _ => true
  | _ => false
theorem Ro.ho {o : O} {a : Addr} (h : Ro K CL mu H o a) : ∃ u, H a = some u ∧ isMut u = true := by
  cases o with
  | lst ds => obtain ⟨vs, e, _⟩ := h; exact ⟨_, e, rfl⟩
  | dic kvs => obtain ⟨vs, e, _⟩ := h; exact ⟨_, e, rfl⟩
  | ins c fs => obtain ⟨C, dx, fs', _, e, _⟩ := h; exact ⟨_, e, rfl⟩
theorem Rm.ho (R : Rm K CL mu H M) {a : Addr} (h : a ∈ mu) : ∃ u, H a = some u ∧ isMut u = true := let ⟨_, _, _, _, q⟩ := R.get h; q.ho
theorem Rm.out (R : Rm K CL mu H M) {a : Addr} {u : HO} (e : H a = some u) (n : isMut u = false) : a ∉ mu := fun h => by
  obtain ⟨w, q, z⟩ := R.ho h
  rw [e] at q; cases q; rw [n] at z; cases z
theorem Rm.fresh (R : Rm K CL mu H M) {a : Addr} (e : H a = none) : a ∉ mu := fun h => by
  obtain ⟨w, q, z⟩ := R.ho h
  rw [e] at q; cases q

/-! ### steps -/
theorem Stp.refl : Stp mu H mu H := ⟨⟨[], by simp⟩, fun a h => .inl h, fun a o e _ => e⟩
theorem Stp.trans (a : Stp mu H mu1 H1) (b : Stp mu1 H1 mu2 H2) (R : Rm K CL mu1 H1 M) : Stp mu H mu2 H2 := by
  obtain ⟨t1, e1⟩ := a.pre
  obtain ⟨t2, e2⟩ := b.pre
  refine ⟨⟨t1 ++ t2, by rw [e2, e1, List.append_assoc]⟩, fun x hx => ?_, fun x o e n => ?_⟩
  · rcases b.new x hx with h | h
    · exact a.new x h
    · by_cases hm : x ∈ mu
      · exact .inl hm
      · right
        cases q : H x with
        | none => rfl
        | some u => rw [a.keep x u q hm] at h; cases h
  · have q := a.keep x o e n
    refine b.keep x o q fun hx => ?_
    rcases a.new x hx with h | h
    · exact n h
    · rw [e] at h; cases h
theorem Stp.get (s : Stp mu H mu' H') {n : Nat} {a : Addr} (e : mu[n]? = some a) : mu'[n]? = some a := by
  obtain ⟨t, q⟩ := s.pre
  rw [q, List.getElem?_append_left (List.getElem?_eq_some_iff.mp e).1, e]
theorem Stp.mem (s : Stp mu H mu' H') {a : Addr} (h : a ∈ mu) : a ∈ mu' := by
  obtain ⟨t, q⟩ := s.pre
  rw [q]; exact List.mem_append_left _ h
/-- what is new to the later state was new to the elder one -/
theorem Stp.free (s : Stp mu H mu' H') (R : Rm K CL mu' H' M) {a : Addr} (e : H' a = none) : H a = none := by
  cases q : H a with
  | none => rfl
  | some u =>
    by_cases h : a ∈ mu
    · obtain ⟨w, z, _⟩ := R.ho (s.mem h)
      rw [e] at z; cases z
    · rw [s.keep a u q h] at e; cases e
theorem Stp.out (s : Stp mu H mu' H') {a : Addr} {u : HO} (e : H a = some u) (h : a ∉ mu) : a ∉ mu' := fun z => by
  rcases s.new a z with q | q
  · exact h q
  · rw [e] at q; cases q
theorem SqT.stp {a : Addr} {vs : List V} (R : Rm K CL mu H M) (s : Stp mu H mu' H') (h : SqT K H a vs) : SqT K H' a vs := by
  rcases h with (h | ⟨o, h⟩) | h
  · exact .inl (.inl (s.keep _ _ h (R.out h rfl)))
  · exact .inl (.inr ⟨o, s.keep _ _ h (R.out h rfl)⟩)
  · exact .inr h
theorem SqF.stp {a : Addr} {vs : List V} (R : Rm K CL mu H M) (s : Stp mu H mu' H') (h : SqF K H a vs) : SqF K H' a vs := by
  rcases h with ⟨o, h⟩ | h
  · exact .inl ⟨o, s.keep _ _ h (R.out h rfl)⟩
  · exact .inr h
end
end MI
end
section
set_option Elab.async false
set_option linter.all false
set_option maxRecDepth 100000
set_option maxHeartbeats 4000000
namespace MI
open PySem PySem.Spec PyProof.Rows L2
section
variable {K : PySem.W.Frag} {CL : Str → Option Addr} {mu mu' mu1 mu2 : List Addr} {H H0 H' H1 H2 : Hp} {M M' M1 : Mem} {r : Env} {σ : Sg}
/-! ### values last -/
mutual
theorem Rv.stp (R : Rm K CL mu H M) (s : Stp mu H mu' H') : ∀ {d : D} {v : V}, Rv K mu H d v → Rv K mu' H' d v
  | .non, _, h => h
  | .bl _, _, h => h
  | .int _, _, h => h
  | .str _, _, h => h
  | .tup ds, _, ⟨a, vs, e, h, t⟩ => ⟨a, vs, e, SqT.stp R s h, Rvs.stp R s t⟩
  | .hdl n, _, ⟨a, e, q⟩ => ⟨a, s.get e, q⟩
  | .ro ds, _, ⟨a, vs, e, h, t⟩ => ⟨a, vs, e, h.stp R s, Rvs.stp R s t⟩
theorem Rvs.stp (R : Rm K CL mu H M) (s : Stp mu H mu' H') : ∀ {ds : List D} {vs : List V}, Rvs K mu H ds vs → Rvs K mu' H' ds vs
  | [], _, h => h
  | _ :: _, _, ⟨v, r, e, h, t⟩ => ⟨v, r, e, Rv.stp R s h, Rvs.stp R s t⟩
end
theorem Rkv.stp (R : Rm K CL mu H M) (s : Stp mu H mu' H') : ∀ {ds : List (D × D)} {vs : List (Key × V)}, Rkv K mu H ds vs → Rkv K mu' H' ds vs
  | [], _, h => h
  | _ :: _, _, ⟨k, v, r, e, h, h2, h3, t⟩ => ⟨k, v, r, e, h.stp R s, h2, h3.stp R s, Rkv.stp R s t⟩
theorem Rfs.stp (R : Rm K CL mu H M) (s : Stp mu H mu' H') : ∀ {ds : List (Str × D)} {vs : List (Str × V)}, Rfs K mu H ds vs → Rfs K mu' H' ds vs
  | [], _, h => h
  | _ :: _, _, ⟨v, r, e, h, t⟩ => ⟨v, r, e, h.stp R s, Rfs.stp R s t⟩
/-- an object whose own place is kept -/
theorem Ro.stp (R : Rm K CL mu H M) (s : Stp mu H mu' H') {o : O} {a : Addr} (h : Ro K CL mu H o a) (k : H' a = H a) : Ro K CL mu' H' o a := by
  cases o with
  | lst ds => obtain ⟨vs, e, t⟩ := h; exact ⟨vs, k.trans e, t.stp R s⟩
  | dic kvs => obtain ⟨vs, e, t⟩ := h; exact ⟨vs, k.trans e, t.stp R s⟩
  | ins c fs => obtain ⟨C, dx, fs', c', e, t⟩ := h; exact ⟨C, dx, fs', c', k.trans e, t.stp R s⟩
theorem Rw.stp (R : Rm K CL mu H M) (s : Stp mu H mu' H') {x : RV} {v : V} (h : Rw K CL mu H x v) : Rw K CL mu' H' x v := by
  cases x with
  | d d => exact Rv.stp R s h
  | o o =>
    obtain ⟨a, e, h, n⟩ := h
    obtain ⟨u, q, _⟩ := h.ho
    exact ⟨a, e, h.stp R s ((s.keep _ _ q n).trans q.symm), s.out q n⟩
theorem Rr.w {x : RV} {v : V} (h : Rr K CL mu H H0 x v) : Rw K CL mu H x v := by
  cases x with
  | d d => exact h
  | o o => obtain ⟨a, e, h, n, _⟩ := h; exact ⟨a, e, h, n⟩
theorem Rr.base (s : Stp mu1 H1 mu2 H2) (R : Rm K CL mu2 H2 M) {x : RV} {v : V} (h : Rr K CL mu H H2 x v) : Rr K CL mu H H1 x v := by
  cases x with
  | d d => exact h
  | o o => obtain ⟨a, e, h, n, z⟩ := h; exact ⟨a, e, h, n, s.free R z⟩
theorem Rst.stp (R : Rm K CL mu H M) (s : Stp mu H mu' H') (h : Rst K mu H r σ) : Rst K mu' H' r σ :=
  ⟨h.len, fun i d e => let ⟨v, q, z⟩ := h.at_ i d e; ⟨v, q, z.stp R s⟩⟩
theorem Rst.set (h : Rst K mu H r σ) {i : Nat} {d : D} {v : V} (q : Rv K mu H d v) : Rst K mu H (r.set i (some d)) (σ.set i (some v)) := by
  refine ⟨by rw [List.length_set, List.length_set, h.len], fun j e he => ?_⟩
  by_cases hj : i = j
  · subst hj
    have hl : i < r.length := by
      have := (List.getElem?_eq_some_iff.mp he).1
      simpa using this
    rw [List.getElem?_set_self hl] at he
    simp only [Option.some.injEq] at he
    subst he
    exact ⟨v, by rw [List.getElem?_set_self (by rw [← h.len]; exact hl)], q⟩
  · rw [List.getElem?_set_ne hj] at he
    obtain ⟨w, h1, h2⟩ := h.at_ j e he
    exact ⟨w, by rw [List.getElem?_set_ne hj]; exact h1, h2⟩
theorem Rst.gone (h : Rst K mu H r σ) (i : Nat) {x : Option V} : Rst K mu H (r.set i none) (σ.set i x) := by
  refine ⟨by rw [List.length_set, List.length_set, h.len], fun j e he => ?_⟩
  by_cases hj : i = j
  · subst hj
    have hl : i < r.length := by
      have := (List.getElem?_eq_some_iff.mp he).1
      simpa using this
    rw [List.getElem?_set_self hl] at he
    simp at he
  · rw [List.getElem?_set_ne hj] at he
    obtain ⟨w, h1, h2⟩ := h.at_ j e he
    exact ⟨w, by rw [List.getElem?_set_ne hj]; exact h1, h2⟩
theorem Rst.wipe (h : Rst K mu H r σ) : ∀ vs : List Nat, Rst K mu H (MI.wipe r vs) (L2.wipe σ vs)
  | [] => h
  | v :: vs => (Rst.wipe h vs).gone v

/-! ### a new object is laid; boxed; written -/
theorem Stp.laid (R : Rm K CL mu H M) {p : Addr} {u : HO} (n : H p = none) : Stp mu H mu (upd H p u) :=
  ⟨⟨[], by simp⟩, fun a h => .inl h, fun a o e _ => by rw [upd_ne (ne_of_none e n)]; exact e⟩
theorem Rm.stp (R : Rm K CL mu H M) (s : Stp mu H mu H') (k : ∀ a ∈ mu, H' a = H a) : Rm K CL mu H' M :=
  ⟨R.len, R.nd, fun n a o e1 e2 => (R.ob n a o e1 e2).stp R s (k a (List.mem_of_getElem? e1))⟩
theorem Rm.laid (R : Rm K CL mu H M) {p : Addr} {u : HO} (n : H p = none) : Rm K CL mu (upd H p u) M :=
  R.stp (Stp.laid R n) fun a h => upd_ne fun e => R.fresh (e ▸ n) h
/-! the same heap, more tracked -/
mutual
theorem Rv.ext (t : List Addr) : ∀ {d : D} {v : V}, Rv K mu H d v → Rv K (mu ++ t) H d v
  | .non, _, h => h
  | .bl _, _, h => h
  | .int _, _, h => h
  | .str _, _, h => h
  | .tup ds, _, ⟨a, vs, e, h, q⟩ => ⟨a, vs, e, h, Rvs.ext t q⟩
  | .hdl n, _, ⟨a, e, q⟩ => ⟨a, by rw [List.getElem?_append_left (List.getElem?_eq_some_iff.mp e).1, e], q⟩
  | .ro ds, _, ⟨a, vs, e, h, q⟩ => ⟨a, vs, e, h, Rvs.ext t q⟩
theorem Rvs.ext (t : List Addr) : ∀ {ds : List D} {vs : List V}, Rvs K mu H ds vs → Rvs K (mu ++ t) H ds vs
  | [], _, h => h
  | _ :: _, _, ⟨v, r, e, h, q⟩ => ⟨v, r, e, Rv.ext t h, Rvs.ext t q⟩
end
theorem Rkv.ext (t : List Addr) : ∀ {ds : List (D × D)} {vs : List (Key × V)}, Rkv K mu H ds vs → Rkv K (mu ++ t) H ds vs
  | [], _, h => h
  | _ :: _, _, ⟨k, v, r, e, h, h2, h3, q⟩ => ⟨k, v, r, e, h.ext t, h2, h3.ext t, Rkv.ext t q⟩
theorem Rfs.ext (t : List Addr) : ∀ {ds : List (Str × D)} {vs : List (Str × V)}, Rfs K mu H ds vs → Rfs K (mu ++ t) H ds vs
  | [], _, h => h
  | _ :: _, _, ⟨v, r, e, h, q⟩ => ⟨v, r, e, h.ext t, Rfs.ext t q⟩
theorem Ro.ext (t : List Addr) {o : O} {a : Addr} (h : Ro K CL mu H o a) : Ro K CL (mu ++ t) H o a := by
  cases o with
  | lst ds => obtain ⟨vs, e, q⟩ := h; exact ⟨vs, e, q.ext t⟩
  | dic kvs => obtain ⟨vs, e, q⟩ := h; exact ⟨vs, e, q.ext t⟩
  | ins c fs => obtain ⟨C, dx, fs', c', e, q⟩ := h; exact ⟨C, dx, fs', c', e, q.ext t⟩
theorem Rst.ext (t : List Addr) (h : Rst K mu H r σ) : Rst K (mu ++ t) H r σ :=
  ⟨h.len, fun i d e => let ⟨v, q, z⟩ := h.at_ i d e; ⟨v, q, z.ext t⟩⟩
/-- an object of our own is tracked from now on -/
theorem Rm.track (R : Rm K CL mu H M) {o : O} {a : Addr} (h : Ro K CL mu H o a) (n : a ∉ mu) : Rm K CL (mu ++ [a]) H (M ++ [o]) := by
  refine ⟨by simp [R.len], List.nodup_append.mpr ⟨R.nd, by simp, fun x hx y hy => ?_⟩, fun m b o' e1 e2 => ?_⟩
  · simp only [List.mem_singleton] at hy
    subst hy
    exact fun z => n (z ▸ hx)
  · by_cases hm : m < mu.length
    · rw [List.getElem?_append_left hm] at e1
      rw [List.getElem?_append_left (by rw [← R.len]; exact hm)] at e2
      exact (R.ob m b o' e1 e2).ext [a]
    · have hl : m < (mu ++ [a]).length := (List.getElem?_eq_some_iff.mp e1).1
      simp only [List.length_append, List.length_cons, List.length_nil, Nat.zero_add] at hl
      have hm' : m = mu.length := by omega
      subst hm'
      rw [List.getElem?_append_right (Nat.le_refl _), Nat.sub_self] at e1
      rw [R.len, List.getElem?_append_right (Nat.le_refl _), Nat.sub_self] at e2
      simp only [List.getElem?_cons_zero, Option.some.injEq] at e1 e2
      subst e1; subst e2
      exact h.ext [a]
theorem Rm.box (R : Rm K CL mu H M) {x : RV} {v : V} (h : Rr K CL mu H H0 x v) (s0 : Stp mu1 H0 mu H) :
    ∃ t, Rm K CL (mu ++ t) H (MI.box x M).2 ∧ Stp mu1 H0 (mu ++ t) H ∧ Rv K (mu ++ t) H (MI.box x M).1 v := by
  cases x with
  | d d => exact ⟨[], by rw [List.append_nil]; exact R, by rw [List.append_nil]; exact s0, by rw [List.append_nil]; exact h⟩
  | o o =>
    obtain ⟨a, e, h, n, z⟩ := h
    refine ⟨[a], R.track h n, ⟨?_, fun b hb => ?_, s0.keep⟩, ?_⟩
    · obtain ⟨t, q⟩ := s0.pre
      exact ⟨t ++ [a], by rw [q, List.append_assoc]⟩
    · rcases List.mem_append.mp hb with hb | hb
      · exact s0.new b hb
      · simp only [List.mem_singleton] at hb
        subst hb
        exact .inr z
    · exact ⟨a, by rw [show M.length = mu.length from R.len.symm, List.getElem?_append_right (Nat.le_refl _), Nat.sub_self]; rfl, e⟩
/-- a tracked object is written -/
theorem Stp.write {n : Nat} {a : Addr} {u : HO} (h : mu[n]? = some a) : Stp mu H mu (upd H a u) :=
  ⟨⟨[], by simp⟩, fun a h => .inl h, fun b o e z => by
    have nb : b ≠ a := fun q => z (by rw [q]; exact List.mem_of_getElem? h)
    rw [upd_ne nb]; exact e⟩
theorem Rm.write (R : Rm K CL mu H M) {n : Nat} {a : Addr} {u : HO} {o : O} (h : mu[n]? = some a) (q : Ro K CL mu (upd H a u) o a) : Rm K CL mu (upd H a u) (M.set n o) := by
  refine ⟨by simp [R.len], R.nd, fun m b o' e1 e2 => ?_⟩
  by_cases hm : n = m
  · subst hm
    rw [h] at e1; cases e1
    have hl : n < M.length := by rw [← R.len]; exact (List.getElem?_eq_some_iff.mp h).1
    rw [List.getElem?_set_self hl] at e2
    simp only [Option.some.injEq] at e2
    subst e2; exact q
  · rw [List.getElem?_set_ne hm] at e2
    refine (R.ob m b o' e1 e2).stp R (Stp.write h) (upd_ne fun e => hm ?_)
    subst e
    obtain ⟨h1, q1⟩ := List.getElem?_eq_some_iff.mp h
    obtain ⟨h2, q2⟩ := List.getElem?_eq_some_iff.mp e1
    exact (List.getElem_inj R.nd).mp (q1.trans q2.symm)
end

/-! ### what is wanted behind a run -/
section
variable (K : PySem.W.Frag) (CL : Str → Option Addr) (W : WX) (σ : Sg)
def Pst {A : Type} (mu : List Addr) (H : Hp) (res : Res A) (k : A → Mem → List Addr → Hp → Prop) : Prop :=
  match res with
  | .ok x M' => ∀ mu' H', Stp mu H mu' H' → Rm K CL mu' H' M' → k x M' mu' H'
  | .err c M' => ∀ mu' H' C, CL c = some C → Stp mu H mu' H' → Rm K CL mu' H' M' → W (.ref C) none σ H'
  | .bad => False
/-- an expression's reading -/
def rE (cl : Cl) (s : SE) : TE := fun σ H Q => ∃ mu r M, Rm K CL mu H M ∧ Rst K mu H r σ ∧ Pst K CL W σ mu H (s cl r M) fun x _ mu' H' => ∀ v, Rr K CL mu' H' H x v → Q v H'
def rT (cl : Cl) (s : STt) : TT := fun σ H Q => ∃ mu r M, Rm K CL mu H M ∧ Rst K mu H r σ ∧ Pst K CL W σ mu H (s cl r M) fun x _ _ H' => Q x H'
def rDs (cl : Cl) (s : SDs) : TA := fun σ H Q => ∃ mu r M, Rm K CL mu H M ∧ Rst K mu H r σ ∧ Pst K CL W σ mu H (s cl r M) fun x _ mu' H' => ∀ vs, Rvs K mu' H' x vs → Q vs H'
def rO (cl : Cl) (s : SO) : TO := fun σ H Q => ∃ mu r M, Rm K CL mu H M ∧ Rst K mu H r σ ∧ Pst K CL W σ mu H (s cl r M) fun x _ _ H' => Q x H'
end
section
variable {K : PySem.W.Frag} {CL : Str → Option Addr} {W : WX} {σ : Sg} {mu mu1 : List Addr} {H H1 : Hp} {M M1 : Mem} {r : Env} {cl : Cl}
theorem Pst.mono {A : Type} {res : Res A} {k k' : A → Mem → List Addr → Hp → Prop} (h : Pst K CL W σ mu H res k)
    (q : ∀ x M' mu' H', Stp mu H mu' H' → Rm K CL mu' H' M' → k x M' mu' H' → k' x M' mu' H') : Pst K CL W σ mu H res k' := by
  cases res with
  | ok x M' => exact fun mu' H' s R => q x M' mu' H' s R (h mu' H' s R)
  | err c M' => exact h
  | bad => exact h
/-- from a later state -/
theorem Pst.from {A : Type} {res : Res A} {k : A → Mem → List Addr → Hp → Prop} (h : Pst K CL W σ mu H res k) (s : Stp mu H mu1 H1) (R : Rm K CL mu1 H1 M1) : Pst K CL W σ mu1 H1 res k := by
  cases res with
  | ok x M' => exact fun mu' H' s' R' => h mu' H' (s.trans s' R) R'
  | err c M' => exact fun mu' H' C e s' R' => h mu' H' C e (s.trans s' R) R'
  | bad => exact h
theorem Pst.bind {A B : Type} {res : Res A} {f : A → Mem → Res B} {k : B → Mem → List Addr → Hp → Prop} (h : Pst K CL W σ mu H (res.bind f) k) :
    Pst K CL W σ mu H res fun x M1 mu1 H1 => Pst K CL W σ mu1 H1 (f x M1) k := by
  cases res with
  | ok x M' => exact fun mu' H' s R => Pst.from (show Pst K CL W σ mu H (f x M') k from h) s R
  | err c M' => exact h
  | bad => exact h
end
end MI
end
section
set_option Elab.async false
set_option linter.all false
set_option maxRecDepth 100000
set_option maxHeartbeats 4000000
namespace MI
open PySem PySem.Spec PyProof.Rows L2
section
variable {X : Cx} {e : Expr}
theorem pe_imp {t t' : TE} (h : PE X e t) (q : ∀ σ H Q, t' σ H Q → t σ H Q) : PE X e t' := ⟨fun pins s σ H Q I w => h.run pins s σ H Q I (q σ H Q w)⟩
theorem pt_imp {t t' : TT} (h : PT X e t) (q : ∀ σ H Q, t' σ H Q → t σ H Q) : PT X e t' := ⟨fun pins s σ H Q I w => h.run pins s σ H Q I (q σ H Q w)⟩
theorem pa_imp {es : List Expr} {t t' : TA} (h : PA X es t) (q : ∀ σ H Q, t' σ H Q → t σ H Q) : PA X es t' := ⟨fun pos pins s σ H Q I w => h.run pos pins s σ H Q I (q σ H Q w)⟩
theorem po_imp {o : Option Expr} {t t' : TO} (h : PO X o t) (q : ∀ σ H Q, t' σ H Q → t σ H Q) : PO X o t' := ⟨fun pins s σ H Q I w => h.run pins s σ H Q I (q σ H Q w)⟩
theorem ps_imp {st : Stmt} {t t' : TS} (h : PS X st t) (q : ∀ D σ H, t' D σ H → t D σ H) : PS X st t' := ⟨fun pins s σ H D I w => h.run pins s σ H D I (q D σ H w)⟩
theorem pss_imp {st : List Stmt} {t t' : TS} (h : PSs X st t) (q : ∀ D σ H, t' D σ H → t D σ H) : PSs X st t' := ⟨fun pins s σ H D I w => h.run pins s σ H D I (q D σ H w)⟩
end
section
variable {K : PySem.W.Frag} {CL : Str → Option Addr} {W : WX} {σ : Sg} {mu mu1 : List Addr} {H H0 H1 : Hp} {M M1 : Mem} {r : Env} {cl : Cl}
theorem rE.imp {s : SE} {Q Q' : VK} (h : rE K CL W cl s σ H Q) (q : ∀ v H', Q v H' → Q' v H') : rE K CL W cl s σ H Q' :=
  let ⟨mu, r, M, a, b, p⟩ := h
  ⟨mu, r, M, a, b, p.mono fun _ _ _ _ _ _ z v hv => q _ _ (z v hv)⟩
theorem rT.imp {s : STt} {Q Q' : Bool → Hp → Prop} (h : rT K CL W cl s σ H Q) (q : ∀ v H', Q v H' → Q' v H') : rT K CL W cl s σ H Q' :=
  let ⟨mu, r, M, a, b, p⟩ := h
  ⟨mu, r, M, a, b, p.mono fun _ _ _ _ _ _ z => q _ _ z⟩
theorem rDs.imp {s : SDs} {Q Q' : List V → Hp → Prop} (h : rDs K CL W cl s σ H Q) (q : ∀ v H', Q v H' → Q' v H') : rDs K CL W cl s σ H Q' :=
  let ⟨mu, r, M, a, b, p⟩ := h
  ⟨mu, r, M, a, b, p.mono fun _ _ _ _ _ _ z v hv => q _ _ (z v hv)⟩
theorem rO.imp {s : SO} {Q Q' : Option Int → Hp → Prop} (h : rO K CL W cl s σ H Q) (q : ∀ v H', Q v H' → Q' v H') : rO K CL W cl s σ H Q' :=
  let ⟨mu, r, M, a, b, p⟩ := h
  ⟨mu, r, M, a, b, p.mono fun _ _ _ _ _ _ z => q _ _ z⟩
/-- a state behind an expression, and what is still to be run -/
structure Nxt (K : PySem.W.Frag) (CL : Str → Option Addr) (σ : Sg) (mu : List Addr) (H : Hp) (r : Env) (M1 : Mem) (mu1 : List Addr) (H1 : Hp) : Prop where
  rm : Rm K CL mu1 H1 M1
  rs : Rst K mu1 H1 r σ
  st : Stp mu H mu1 H1
theorem rE_then {A : Type} {s : SE} {f : RV → Mem → Res A} {k : A → Mem → List Addr → Hp → Prop} (hm : Rm K CL mu H M) (hs : Rst K mu H r σ)
    (h : Pst K CL W σ mu H ((s cl r M).bind f) k) {Q : VK} (q : ∀ x v M1 mu1 H1, Nxt K CL σ mu H r M1 mu1 H1 → Rr K CL mu1 H1 H x v → Pst K CL W σ mu1 H1 (f x M1) k → Q v H1) : rE K CL W cl s σ H Q :=
  ⟨mu, r, M, hm, hs, h.bind.mono fun x M' mu' H' st R z v hv => q x v M' mu' H' ⟨R, hs.stp hm st, st⟩ hv z⟩
theorem rT_then {A : Type} {s : STt} {f : Bool → Mem → Res A} {k : A → Mem → List Addr → Hp → Prop} (hm : Rm K CL mu H M) (hs : Rst K mu H r σ)
    (h : Pst K CL W σ mu H ((s cl r M).bind f) k) {Q : Bool → Hp → Prop} (q : ∀ x M1 mu1 H1, Nxt K CL σ mu H r M1 mu1 H1 → Pst K CL W σ mu1 H1 (f x M1) k → Q x H1) : rT K CL W cl s σ H Q :=
  ⟨mu, r, M, hm, hs, h.bind.mono fun x M' mu' H' st R z => q x M' mu' H' ⟨R, hs.stp hm st, st⟩ z⟩
theorem rDs_then {A : Type} {s : SDs} {f : List D → Mem → Res A} {k : A → Mem → List Addr → Hp → Prop} (hm : Rm K CL mu H M) (hs : Rst K mu H r σ)
    (h : Pst K CL W σ mu H ((s cl r M).bind f) k) {Q : List V → Hp → Prop} (q : ∀ x v M1 mu1 H1, Nxt K CL σ mu H r M1 mu1 H1 → Rvs K mu1 H1 x v → Pst K CL W σ mu1 H1 (f x M1) k → Q v H1) : rDs K CL W cl s σ H Q :=
  ⟨mu, r, M, hm, hs, h.bind.mono fun x M' mu' H' st R z v hv => q x v M' mu' H' ⟨R, hs.stp hm st, st⟩ hv z⟩
theorem rO_then {A : Type} {s : SO} {f : Option Int → Mem → Res A} {k : A → Mem → List Addr → Hp → Prop} (hm : Rm K CL mu H M) (hs : Rst K mu H r σ)
    (h : Pst K CL W σ mu H ((s cl r M).bind f) k) {Q : Option Int → Hp → Prop} (q : ∀ x M1 mu1 H1, Nxt K CL σ mu H r M1 mu1 H1 → Pst K CL W σ mu1 H1 (f x M1) k → Q x H1) : rO K CL W cl s σ H Q :=
  ⟨mu, r, M, hm, hs, h.bind.mono fun x M' mu' H' st R z => q x M' mu' H' ⟨R, hs.stp hm st, st⟩ z⟩
/-- .. what is left, told from the start -/
theorem Pst.bindB {A B : Type} {res : Res A} {f : A → Mem → Res B} {k : B → Mem → List Addr → Hp → Prop} (h : Pst K CL W σ mu H (res.bind f) k) :
    Pst K CL W σ mu H res fun x M1 _ _ => Pst K CL W σ mu H (f x M1) k := by
  cases res with
  | ok x M' => exact fun mu' H' s R => h
  | err c M' => exact h
  | bad => exact h
theorem rE_thenB {A : Type} {s : SE} {f : RV → Mem → Res A} {k : A → Mem → List Addr → Hp → Prop} {mu0 : List Addr} {H00 : Hp} (hm : Rm K CL mu H M) (hs : Rst K mu H r σ) (s0 : Stp mu0 H00 mu H)
    (h : Pst K CL W σ mu0 H00 ((s cl r M).bind f) k) {Q : VK} (q : ∀ x v M1 mu1 H1, Nxt K CL σ mu H r M1 mu1 H1 → Rr K CL mu1 H1 H x v → Pst K CL W σ mu0 H00 (f x M1) k → Q v H1) : rE K CL W cl s σ H Q :=
  ⟨mu, r, M, hm, hs, (h.bindB.from s0 hm).mono fun x M' mu' H' st R z v hv => q x v M' mu' H' ⟨R, hs.stp hm st, st⟩ hv z⟩
theorem rDs_thenB {A : Type} {s : SDs} {f : List D → Mem → Res A} {k : A → Mem → List Addr → Hp → Prop} {mu0 : List Addr} {H00 : Hp} (hm : Rm K CL mu H M) (hs : Rst K mu H r σ) (s0 : Stp mu0 H00 mu H)
    (h : Pst K CL W σ mu0 H00 ((s cl r M).bind f) k) {Q : List V → Hp → Prop} (q : ∀ x v M1 mu1 H1, Nxt K CL σ mu H r M1 mu1 H1 → Rvs K mu1 H1 x v → Pst K CL W σ mu0 H00 (f x M1) k → Q v H1) : rDs K CL W cl s σ H Q :=
  ⟨mu, r, M, hm, hs, (h.bindB.from s0 hm).mono fun x M' mu' H' st R z v hv => q x v M' mu' H' ⟨R, hs.stp hm st, st⟩ hv z⟩
/-- where the run ends: a value, nothing new -/
theorem Pst.here {A : Type} {a : A} {k : A → Mem → List Addr → Hp → Prop} (h : Pst K CL W σ mu H (.ok a M) k) (R : Rm K CL mu H M) : k a M mu H := h mu H Stp.refl R
end

/-! ### soundness of an expression, a test .. -/
section
variable (X : Cx) (CL : Str → Option Addr) (cl : Cl)
def SndE (e : Expr) (s : SE) : Prop := ∀ W, Takes X W → PE X e (rE X.K CL W cl s)
def SndT (e : Expr) (s : STt) : Prop := ∀ W, Takes X W → PT X e (rT X.K CL W cl s)
def SndW (e : Expr) (s : STt) : Prop := ∀ W, Takes X W → PW X e (rT X.K CL W cl s)
def SndDs (es : List Expr) (s : SDs) : Prop := ∀ W, Takes X W → PA X es (rDs X.K CL W cl s)
def SndO (e : Option Expr) (s : SO) : Prop := ∀ W, Takes X W → PO X e (rO X.K CL W cl s)
end
section
variable {X : Cx} {CL : Str → Option Addr} {cl : Cl} {a b c : Expr} {es : List Expr} {sa sb sc : SE} {as : SDs} {pos : Pos}
theorem snd_var {i : Nat} {x : Str} (hN : X.N[i]? = some x) (hv : Vis X.env.scope x) (hd : (x == ("__debug__" : Str)) = false) (hcd : (x == ("__classdict__" : Str)) = false) : SndE X CL cl (.Name x pos) (eVar i) := fun W tk => by
  refine pe_imp (pe_var hN hv hd hcd) fun σ H Q h => ?_
  obtain ⟨mu, r, M, hm, hs, p⟩ := h
  cases e : r[i]? with
  | none => simp [eVar, e, Pst] at p
  | some o =>
    cases o with
    | none => simp [eVar, e, Pst] at p
    | some d =>
      obtain ⟨v, h1, h2⟩ := hs.at_ i d e
      simp only [eVar, e] at p
      exact ⟨v, h1, p.here hm v h2⟩
theorem snd_const {d : D} {v : V} (h : PE X a (tC v)) (q : ∀ mu H, Rv X.K mu H d v) : SndE X CL cl a (eC d) := fun W tk => by
  refine pe_imp h fun σ H Q h => ?_
  obtain ⟨mu, r, M, hm, hs, p⟩ := h
  exact p.here hm v (q mu H)
theorem snd_int {i : Int} {j : Nat} : SndE X CL cl (.Constant (.int i) j pos) (eC (.int i)) := snd_const pe_int fun _ _ => rfl
theorem snd_bl {i : Bool} {j : Nat} : SndE X CL cl (.Constant (.bool i) j pos) (eC (.bl i)) := snd_const pe_bl fun _ _ => rfl
theorem snd_non {j : Nat} : SndE X CL cl (.Constant .none j pos) (eC .non) := snd_const pe_non fun _ _ => rfl
theorem snd_str {x : Str} {j : Nat} : SndE X CL cl (.Constant (.str x) j pos) (eC (.str x)) := snd_const pe_str fun _ _ => rfl

/-- an operation on two values, by what it asks of the heap -/
def Ok2 (K : PySem.W.Frag) (CL : Str → Option Addr) (rr : R2) (o : Op2) : Prop :=
  ∀ (W : WX) (σ : Sg) mu H M x y v u (Q : VK), Rm K CL mu H M → Rw K CL mu H x v → Rw K CL mu H y u → Pst K CL W σ mu H (o x y M) (fun z _ mu' H' => ∀ w, Rr K CL mu' H' H z w → Q w H') → rr v u H Q
theorem two (W : WX) {rr : R2} {o : Op2} (ha : SndE X CL cl a sa) (hb : SndE X CL cl b sb) (k : Ok2 X.K CL rr o) {σ : Sg} {H : Hp} {Q : VK} (h : rE X.K CL W cl (e2 o sa sb) σ H Q) :
    rE X.K CL W cl sa σ H fun x H1 => rE X.K CL W cl sb σ H1 fun y H2 => rr x y H2 Q := by
  obtain ⟨mu, r, M, hm, hs, p⟩ := h
  refine rE_then hm hs p fun x v M1 mu1 H1 n1 h1 p1 => ?_
  refine rE_then n1.rm n1.rs p1 fun y u M2 mu2 H2 n2 h2 p2 => ?_
  refine k W σ mu2 H2 M2 x y v u Q n2.rm (h1.w.stp n1.rm n2.st) h2.w ?_
  exact p2.mono fun z M3 mu3 H3 s3 R3 q w hw => q w (hw.base (n1.st.trans n2.st n1.rm) n2.rm)
theorem snd_op2 {op : Operator} {rr : R2} {o : Op2} (ho : OpR X (binaryOp op) rr) (k : Ok2 X.K CL rr o) (ha : SndE X CL cl a sa) (hb : SndE X CL cl b sb) : SndE X CL cl (.BinOp a op b pos) (e2 o sa sb) := fun W tk =>
  pe_imp (pe_op ho (ha W tk) (hb W tk)) fun _ _ _ h => two W ha hb k h
theorem snd_cmp2 {op : CmpOp} {rr : R2} {o : Op2} (ho : OpR X (compareOp op) rr) (k : Ok2 X.K CL rr o) (ha : SndE X CL cl a sa) (hb : SndE X CL cl b sb) (hm : behindInMarks op b = false) : SndE X CL cl (.Compare a [op] [b] pos) (e2 o sa sb) := fun W tk =>
  pe_imp (pe_cmpR ho (ha W tk) (hb W tk) hm) fun _ _ _ h => two W ha hb k h
end
end MI
end
section
set_option Elab.async false
set_option linter.all false
set_option maxRecDepth 100000
set_option maxHeartbeats 4000000
namespace MI
open PySem PySem.Spec PyProof.Rows L2
section
variable {K : PySem.W.Frag} {CL : Str → Option Addr} {W : WX} {σ : Sg} {mu mu1 : List Addr} {H H0 H1 : Hp} {M M1 : Mem} {r : Env} {cl : Cl}
/-! ### what a run ends in -/
theorem end_d {d : D} {v : V} {Q : VK} (R : Rm K CL mu H M) (h : Pst K CL W σ mu H (.ok (.d d) M) fun z _ mu' H' => ∀ w, Rr K CL mu' H' H z w → Q w H') (q : Rv K mu H d v) : Q v H := h.here R v q
theorem end_lst {ds : List D} {vs : List V} {Q : VK} (R : Rm K CL mu H M) (h : Pst K CL W σ mu H (.ok (.o (.lst ds)) M) fun z _ mu' H' => ∀ w, Rr K CL mu' H' H z w → Q w H') (q : Rvs K mu H ds vs) :
    ∀ p, H p = none → Q (.ref p) (upd H p (.lst vs)) := fun p n =>
  h mu _ (Stp.laid R n) (R.laid n) (.ref p) ⟨p, rfl, ⟨vs, upd_same, q.stp R (Stp.laid R n)⟩, R.fresh n, n⟩
theorem end_tup {ds : List D} {vs : List V} {Q : VK} (R : Rm K CL mu H M) (h : Pst K CL W σ mu H (.ok (.d (.tup ds)) M) fun z _ mu' H' => ∀ w, Rr K CL mu' H' H z w → Q w H') (q : Rvs K mu H ds vs) :
    ∀ p, H p = none → Q (.ref p) (upd H p (.tup vs)) := fun p n =>
  h mu _ (Stp.laid R n) (R.laid n) (.ref p) ⟨p, vs, rfl, .inl (.inl upd_same), q.stp R (Stp.laid R n)⟩
theorem bad_end {A : Type} {k : A → Mem → List Addr → Hp → Prop} {P : Prop} (h : Pst K CL W σ mu H (.bad : Res A) k) : P := h.elim

/-! ### what is read -/
theorem lstT_ok {x : RV} {v : V} {ds : List D} (R : Rm K CL mu H M) (h : Rw K CL mu H x v) (e : lstT x M = some ds) : ∃ a vs, v = .ref a ∧ H a = some (.lst vs) ∧ Rvs K mu H ds vs := by
  cases x with
  | o o =>
    cases o with
    | lst es =>
      simp only [lstT, Option.some.injEq] at e
      subst e
      obtain ⟨a, rfl, ⟨vs, h1, h2⟩, _⟩ := h
      exact ⟨a, vs, rfl, h1, h2⟩
    | _ => simp [lstT] at e
  | d d =>
    cases d with
    | hdl n =>
      obtain ⟨a, h1, rfl⟩ := h
      cases q : M[n]? with
      | none => simp [lstT, q] at e
      | some o =>
        cases o with
        | lst es =>
          simp only [lstT, q, Option.some.injEq] at e
          subst e
          obtain ⟨vs, h3, h4⟩ := R.ob n a _ h1 q
          exact ⟨a, vs, rfl, h3, h4⟩
        | _ => simp [lstT, q] at e
    | _ => simp [lstT] at e
theorem lstOf_ok {x : RV} {v : V} {ds : List D} (R : Rm K CL mu H M) (h : Rw K CL mu H x v) (e : lstOf x M = some ds) : ∃ a vs, v = .ref a ∧ SqL K H a vs ∧ Rvs K mu H ds vs := by
  by_cases hr : ∃ es, x = .d (.ro es)
  · obtain ⟨es, rfl⟩ := hr
    simp only [lstOf, Option.some.injEq] at e
    subst e
    obtain ⟨a, vs, rfl, h1, h2⟩ := h
    exact ⟨a, vs, rfl, h1.sq, h2⟩
  · have e' : lstT x M = some ds := by
      cases x with
      | o o => cases o <;> simpa [lstT, lstOf] using e
      | d d =>
        cases d with
        | ro es => exact absurd ⟨es, rfl⟩ hr
        | hdl n => simpa [lstT, lstOf] using e
        | _ => simp [lstOf] at e
    obtain ⟨a, vs, h1, h2, h3⟩ := lstT_ok R h e'
    exact ⟨a, vs, h1, .inl (.inl h2), h3⟩
theorem seqOf_ok {x : RV} {v : V} {ds : List D} (R : Rm K CL mu H M) (h : Rw K CL mu H x v) (e : seqOf x M = some ds) : ∃ a vs, v = .ref a ∧ (SqL K H a vs ∨ SqT K H a vs) ∧ Rvs K mu H ds vs := by
  by_cases hr : ∃ es, x = .d (.tup es)
  · obtain ⟨es, rfl⟩ := hr
    simp only [seqOf, Option.some.injEq] at e
    subst e
    obtain ⟨a, vs, rfl, h1, h2⟩ := h
    exact ⟨a, vs, rfl, .inr h1, h2⟩
  · have e' : lstOf x M = some ds := by
      cases x with
      | o o => simpa [seqOf] using e
      | d d =>
        cases d with
        | tup es => exact absurd ⟨es, rfl⟩ hr
        | _ => simpa [seqOf] using e
    obtain ⟨a, vs, h1, h2, h3⟩ := lstOf_ok R h e'
    exact ⟨a, vs, h1, .inl h2, h3⟩
theorem dicOf_ok {x : RV} {v : V} {kvs : List (D × D)} (R : Rm K CL mu H M) (h : Rw K CL mu H x v) (e : dicOf x M = some kvs) : ∃ a ks, v = .ref a ∧ H a = some (.dK ks) ∧ Rkv K mu H kvs ks := by
  cases x with
  | o o =>
    cases o with
    | dic es =>
      simp only [dicOf, Option.some.injEq] at e
      subst e
      obtain ⟨a, rfl, ⟨vs, h1, h2⟩, _⟩ := h
      exact ⟨a, vs, rfl, h1, h2⟩
    | _ => simp [dicOf] at e
  | d d =>
    cases d with
    | hdl n =>
      obtain ⟨a, h1, rfl⟩ := h
      cases q : M[n]? with
      | none => simp [dicOf, q] at e
      | some o =>
        cases o with
        | dic es =>
          simp only [dicOf, q, Option.some.injEq] at e
          subst e
          obtain ⟨vs, h3, h4⟩ := R.ob n a _ h1 q
          exact ⟨a, vs, rfl, h3, h4⟩
        | _ => simp [dicOf, q] at e
    | _ => simp [dicOf] at e

/-! ### whole numbers -/
theorem ok2_sub : Ok2 K CL (rI0 fun i j => .int (i - j)) oSub := fun W σ mu H M x y v u Q R hx hy p => by
  unfold oSub at p
  split at p
  · exact ⟨_, _, hx, hy, end_d R p rfl⟩
  · exact bad_end p
theorem ok2_mul : Ok2 K CL (rI CMul fun i j => .int (i * j)) oMul := fun W σ mu H M x y v u Q R hx hy p => by
  unfold oMul at p
  split at p
  · split at p
    · rename_i c; exact ⟨_, _, hx, hy, c, end_d R p rfl⟩
    · exact bad_end p
  · exact bad_end p
theorem ok2_div : Ok2 K CL (rI CDiv fun i j => .int (i / j)) oDiv := fun W σ mu H M x y v u Q R hx hy p => by
  unfold oDiv at p
  split at p
  · split at p
    · rename_i c; exact ⟨_, _, hx, hy, c, end_d R p rfl⟩
    · exact bad_end p
  · exact bad_end p
theorem ok2_mod : Ok2 K CL (rI (fun _ j => 0 < j) fun i j => .int (i % j)) oMod := fun W σ mu H M x y v u Q R hx hy p => by
  unfold oMod at p
  split at p
  · split at p
    · rename_i c; exact ⟨_, _, hx, hy, c, end_d R p rfl⟩
    · exact bad_end p
  · exact bad_end p
theorem ok2_pow : Ok2 K CL (rI CPow fun i j => .int (i ^ j.toNat)) oPow := fun W σ mu H M x y v u Q R hx hy p => by
  unfold oPow at p
  split at p
  · split at p
    · rename_i c; exact ⟨_, _, hx, hy, c, end_d R p rfl⟩
    · exact bad_end p
  · exact bad_end p
abbrev rAddAll (K : PySem.W.Frag) : R2 := fun x y H Q => (rI0 fun i j => .int (i + j)) x y H Q ∨ (∃ i j, x = .str i ∧ y = .str j ∧ i.length + j.length ≤ sizeLine ∧ Q (.str (i ++ j)) H) ∨ rCatA K x y H Q ∨ rCat x y H Q
theorem op_addAll {X : Cx} : OpR X (binaryOp .Add) (rAddAll X.K) := op_add.or (op_add_str.or (op_catA.or op_cat))
theorem ok2_add : Ok2 K CL (rAddAll K) oAdd := fun W σ mu H M x y v u Q R hx hy p => by
  unfold oAdd at p
  split at p
  · exact .inl ⟨_, _, hx, hy, end_d R p rfl⟩
  · split at p
    · rename_i c; exact .inr (.inl ⟨_, _, hx, hy, c, end_d R p rfl⟩)
    · exact bad_end p
  · split at p
    · rename_i c
      obtain ⟨a, vs, rfl, h1, h2⟩ := hx
      obtain ⟨b, ws, rfl, h3, h4⟩ := hy
      refine .inr (.inr (.inl ⟨a, b, vs, ws, rfl, rfl, h1, h3, by rw [← h2.length, ← h4.length]; exact c, fun e => ?_, fun _ e => ?_, fun _ _ => end_tup R p (h2.append h4)⟩))
      · subst e
        exact end_d R p ⟨b, ws, rfl, h3, by simpa using h2.append h4⟩
      · subst e
        exact end_d R p ⟨a, vs, rfl, h1, by simpa using h2.append h4⟩
    · exact bad_end p
  · split at p
    · rename_i e1 e2
      split at p
      · rename_i c
        obtain ⟨a, vs, rfl, h1, h2⟩ := lstT_ok R hx e1
        obtain ⟨b, ws, rfl, h3, h4⟩ := lstT_ok R hy e2
        exact .inr (.inr (.inr ⟨a, b, vs, ws, rfl, rfl, h1, h3, by rw [← h2.length, ← h4.length]; exact c, end_lst R p (h2.append h4)⟩))
      · exact bad_end p
    · exact bad_end p
theorem ok2_lt : Ok2 K CL (rI0 fun i j => .bl (decide (i < j))) oLt := fun W σ mu H M x y v u Q R hx hy p => by
  unfold oLt at p
  split at p
  · exact ⟨_, _, hx, hy, end_d R p rfl⟩
  · exact bad_end p
theorem ok2_le : Ok2 K CL (rI0 fun i j => .bl (decide (i ≤ j))) oLe := fun W σ mu H M x y v u Q R hx hy p => by
  unfold oLe at p
  split at p
  · exact ⟨_, _, hx, hy, end_d R p rfl⟩
  · exact bad_end p
theorem ok2_gt : Ok2 K CL (rI0 fun i j => .bl (decide (j < i))) oGt := fun W σ mu H M x y v u Q R hx hy p => by
  unfold oGt at p
  split at p
  · exact ⟨_, _, hx, hy, end_d R p rfl⟩
  · exact bad_end p
theorem ok2_ge : Ok2 K CL (rI0 fun i j => .bl (decide (j ≤ i))) oGe := fun W σ mu H M x y v u Q R hx hy p => by
  unfold oGe at p
  split at p
  · exact ⟨_, _, hx, hy, end_d R p rfl⟩
  · exact bad_end p

/-! ### is -/
theorem Rw.non_iff {x : RV} {v : V} (h : Rw K CL mu H x v) : decide (x = .d .non) = decide (v = .non) := by
  have key : x = .d .non ↔ v = .non := by
    cases x with
    | o o => obtain ⟨a, rfl, _⟩ := h; exact ⟨nofun, nofun⟩
    | d d =>
      cases d with
      | non => exact ⟨fun _ => h, fun _ => rfl⟩
      | bl b => rw [show v = V.bl b from h]; exact ⟨nofun, nofun⟩
      | int b => rw [show v = V.int b from h]; exact ⟨nofun, nofun⟩
      | str b => rw [show v = V.str b from h]; exact ⟨nofun, nofun⟩
      | tup b => obtain ⟨a, vs, rfl, _⟩ := h; exact ⟨nofun, nofun⟩
      | hdl b => obtain ⟨a, _, rfl⟩ := h; exact ⟨nofun, nofun⟩
      | ro b => obtain ⟨a, vs, rfl, _⟩ := h; exact ⟨nofun, nofun⟩
  by_cases h1 : v = .non
  · rw [decide_eq_true h1, decide_eq_true (key.mpr h1)]
  · rw [decide_eq_false h1, decide_eq_false fun z => h1 (key.mp z)]
abbrev rIsAll : R2 := fun x y H Q => (y = .non ∧ Q (.bl (decide (x = .non))) H) ∨ rIsB x y H Q
abbrev rIsNotAll : R2 := fun x y H Q => (y = .non ∧ Q (.bl (!decide (x = .non))) H) ∨ rNotB x y H Q
theorem op_isAll {X : Cx} : OpR X (compareOp .Is) rIsAll := op_isN.or op_isBl
theorem op_isNotAll {X : Cx} : OpR X (compareOp .IsNot) rIsNotAll := op_notN.or op_notBl
theorem ok2_is : Ok2 K CL rIsAll oIs := fun W σ mu H M x y v u Q R hx hy p => by
  unfold oIs at p
  split at p
  · exact .inl ⟨hy, end_d R p (by rw [hx.non_iff]; rfl)⟩
  · exact .inr ⟨_, _, hx, hy, end_d R p rfl⟩
  · exact bad_end p
theorem ok2_isNot : Ok2 K CL rIsNotAll oIsNot := fun W σ mu H M x y v u Q R hx hy p => by
  unfold oIsNot at p
  split at p
  · exact .inl ⟨hy, end_d R p (by rw [hx.non_iff]; rfl)⟩
  · exact .inr ⟨_, _, hx, hy, end_d R p rfl⟩
  · exact bad_end p

/-! ### == -/
mutual
theorem peq_eqv : ∀ a b : PyData, a.canLay0 = true → b.canLay0 = true → peq a b = PyData.eqv a b
  | .none, b, _, _ => by cases b <;> rfl
  | .bool _, b, _, _ => by cases b <;> rfl
  | .int _, b, _, _ => by cases b <;> rfl
  | .str _, b, _, _ => by cases b <;> rfl
  | .list xs, .list ys, h1, h2 => peqs_eqv xs ys h1 h2
  | .tuple xs, .tuple ys, h1, h2 => peqs_eqv xs ys h1 h2
  | .list _, .none, _, _ | .list _, .bool _, _, _ | .list _, .int _, _, _ | .list _, .str _, _, _ | .list _, .tuple _, _, _ | .list _, .dict _, _, _ => rfl
  | .tuple _, .none, _, _ | .tuple _, .bool _, _, _ | .tuple _, .int _, _, _ | .tuple _, .str _, _, _ | .tuple _, .list _, _, _ | .tuple _, .dict _, _, _ => rfl
  | .dict _, b, _, _ => by cases b <;> rfl
theorem peqs_eqv : ∀ a b : List PyData, PyData.canLayAll0 a = true → PyData.canLayAll0 b = true → peqs a b = PyData.eqvAll a b
  | [], [], _, _ => rfl
  | [], _ :: _, _, _ => rfl
  | _ :: _, [], _, _ => rfl
  | x :: xs, y :: ys, h1, h2 => by
    simp only [PyData.canLayAll0, Bool.and_eq_true] at h1 h2
    simp only [peqs, PyData.eqvAll, peq_eqv x y h1.1 h2.1, peqs_eqv xs ys h1.2 h2.2]
end
theorem mapM_cons' {A B : Type} {f : A → Option B} {x : A} {xs : List A} {q : List B} (h : (x :: xs).mapM f = some q) : ∃ y ys, f x = some y ∧ xs.mapM f = some ys ∧ q = y :: ys := by
  rw [List.mapM_cons] at h
  cases e : f x with
  | none => rw [e] at h; simp at h
  | some y =>
    rw [e] at h
    cases e2 : xs.mapM f with
    | none => rw [e2] at h; simp at h
    | some ys =>
      rw [e2] at h
      simp at h
      exact ⟨y, ys, rfl, rfl, h.symm⟩
theorem dps_of {f : D → Option PyData} {n : Nat} (ih : ∀ d v q, Rv K mu H d v → f d = some q → Dp K H v q ∧ q.canLay0 = true ∧ q.depth ≤ n) :
    ∀ (ds : List D) (vs : List V) (qs : List PyData), Rvs K mu H ds vs → ds.mapM f = some qs → DpAll K H vs qs ∧ PyData.canLayAll0 qs = true ∧ PyData.depthAll qs ≤ n
  | [], vs, qs, h, e => by
    rw [show vs = [] from h]
    simp at e
    subst e
    exact ⟨.nil, rfl, Nat.zero_le _⟩
  | d :: ds, vs, qs, ⟨v, r, e1, h, t⟩, e => by
    obtain ⟨y, ys, h1, h2, rfl⟩ := mapM_cons' e
    subst e1
    obtain ⟨a1, a2, a3⟩ := ih d v y h h1
    obtain ⟨b1, b2, b3⟩ := dps_of ih ds r ys t h2
    refine ⟨.cons a1 b1, ?_, ?_⟩
    · simp only [PyData.canLayAll0, a2, b2, Bool.and_self]
    · simp only [PyData.depthAll]
      exact Nat.max_le.mpr ⟨a3, b3⟩
theorem der_ok (R : Rm K CL mu H M) : ∀ (n : Nat) (d : D) (v : V) (q : PyData), Rv K mu H d v → der n M d = some q → Dp K H v q ∧ q.canLay0 = true ∧ q.depth ≤ n
  | n, .non, v, q, h, e => by
    rw [show v = V.non from h]; cases n <;> (simp [der] at e; subst e; exact ⟨.non, rfl, Nat.zero_le _⟩)
  | n, .bl b, v, q, h, e => by
    rw [show v = V.bl b from h]; cases n <;> (simp [der] at e; subst e; exact ⟨.bl b, rfl, Nat.zero_le _⟩)
  | n, .int b, v, q, h, e => by
    rw [show v = V.int b from h]; cases n <;> (simp [der] at e; subst e; exact ⟨.int b, rfl, Nat.zero_le _⟩)
  | n, .str b, v, q, h, e => by
    have h' : v = V.str b := h
    subst h'
    by_cases c : b.cps.all (· < 0x110000) = true
    · have e' : some (PyData.str b) = some q := by cases n <;> simpa only [der, if_pos c] using e
      cases e'
      exact ⟨.str b, c, Nat.zero_le _⟩
    · cases n <;> simp only [der, if_neg c] at e <;> cases e
  | 0, .tup _, _, _, _, e => by simp [der] at e
  | 0, .hdl _, _, _, _, e => by simp [der] at e
  | 0, .ro _, _, _, _, e => by simp [der] at e
  | n + 1, .tup ds, v, q, hv, e => by
    obtain ⟨a, vs, rfl, h, t⟩ := hv
    simp only [der, Option.map_eq_some_iff] at e
    obtain ⟨qs, e, rfl⟩ := e
    obtain ⟨a1, a2, a3⟩ := dps_of (fun d v q => der_ok R n d v q) ds vs qs t e
    exact ⟨.tup h a1, a2, Nat.succ_le_succ a3⟩
  | n + 1, .ro ds, v, q, hv, e => by
    obtain ⟨a, vs, rfl, h, t⟩ := hv
    simp only [der, Option.map_eq_some_iff] at e
    obtain ⟨qs, e, rfl⟩ := e
    obtain ⟨a1, a2, a3⟩ := dps_of (fun d v q => der_ok R n d v q) ds vs qs t e
    exact ⟨.lst h.sq a1, a2, Nat.succ_le_succ a3⟩
  | n + 1, .hdl m, v, q, hv, e => by
    obtain ⟨a, h, rfl⟩ := hv
    simp only [der] at e
    split at e
    · rename_i ds e2
      simp only [Option.map_eq_some_iff] at e
      obtain ⟨qs, e, rfl⟩ := e
      obtain ⟨vs, h3, h4⟩ := R.ob m a _ h e2
      obtain ⟨a1, a2, a3⟩ := dps_of (fun d v q => der_ok R n d v q) ds vs qs h4 e
      exact ⟨.lst (.inl (.inl h3)) a1, a2, Nat.succ_le_succ a3⟩
    · cases e
theorem derR_ok (R : Rm K CL mu H M) {x : RV} {v : V} {q : PyData} (h : Rw K CL mu H x v) (e : derR x M = some q) : Dp K H v q ∧ q.canLay0 = true ∧ SeqAt.shaped q = true := by
  have key : Dp K H v q ∧ q.canLay0 = true ∧ q.depth ≤ 16 := by
    cases x with
    | d d => exact der_ok R 16 d v q h e
    | o o =>
      cases o with
      | lst ds =>
        simp only [derR, Option.map_eq_some_iff] at e
        obtain ⟨qs, e, rfl⟩ := e
        obtain ⟨a, rfl, ⟨vs, h3, h4⟩, _⟩ := h
        obtain ⟨a1, a2, a3⟩ := dps_of (fun d v q => der_ok R 15 d v q) ds vs qs h4 e
        exact ⟨.lst (.inl (.inl h3)) a1, a2, Nat.succ_le_succ a3⟩
      | _ => simp [derR] at e
  obtain ⟨a, b, c⟩ := key
  refine ⟨a, b, ?_⟩
  unfold SeqAt.shaped
  rw [b, decide_eq_true (Nat.le_trans c (by decide))]
  rfl
theorem ok2_eq : Ok2 K CL (rEqD K) oEq := fun W σ mu H M x y v u Q R hx hy p => by
  unfold oEq at p
  split at p
  · rename_i a b e1 e2
    obtain ⟨h1, h2, h3⟩ := derR_ok R hx e1
    obtain ⟨h4, h5, h6⟩ := derR_ok R hy e2
    exact ⟨a, b, h1, h4, h3, h6, end_d R p (by rw [peq_eqv a b h2 h5]; rfl)⟩
  · exact bad_end p
theorem ok2_ne : Ok2 K CL (rNeD K) oNe := fun W σ mu H M x y v u Q R hx hy p => by
  unfold oNe at p
  split at p
  · rename_i a b e1 e2
    obtain ⟨h1, h2, h3⟩ := derR_ok R hx e1
    obtain ⟨h4, h5, h6⟩ := derR_ok R hy e2
    exact ⟨a, b, h1, h4, h3, h6, end_d R p (by rw [peq_eqv a b h2 h5]; rfl)⟩
  · exact bad_end p
end
end MI
end
section
set_option Elab.async false
set_option linter.all false
set_option maxRecDepth 100000
set_option maxHeartbeats 4000000
namespace MI
open PySem PySem.Spec PyProof.Rows L2
section
variable {K : PySem.W.Frag} {CL : Str → Option Addr} {W : WX} {σ : Sg} {mu mu1 : List Addr} {H H0 H1 : Hp} {M M1 : Mem} {r : Env} {cl : Cl}
/-! ### keys of dicts -/
theorem key_of {d : D} {v : V} (h : Rv K mu H d v) (k : isKey d = true) : ∃ k, v = kV k := by
  cases d with
  | int i => exact ⟨.inl i, h⟩
  | str i => exact ⟨.inr i, h⟩
  | _ => simp [isKey] at k
theorem key_inj {d d' : D} {k k' : Key} (h : Rv K mu H d (kV k)) (h' : Rv K mu H d' (kV k')) (i : isKey d = true) (i' : isKey d' = true) : d = d' ↔ k = k' := by
  cases d with
  | int a =>
    cases d' with
    | int b =>
      have e1 : kV k = V.int a := h
      have e2 : kV k' = V.int b := h'
      cases k <;> cases k' <;> simp_all [kV]
    | str b =>
      have e1 : kV k = V.int a := h
      have e2 : kV k' = V.str b := h'
      cases k <;> cases k' <;> simp_all [kV]
    | _ => simp [isKey] at i'
  | str a =>
    cases d' with
    | int b =>
      have e1 : kV k = V.str a := h
      have e2 : kV k' = V.int b := h'
      cases k <;> cases k' <;> simp_all [kV]
    | str b =>
      have e1 : kV k = V.str a := h
      have e2 : kV k' = V.str b := h'
      cases k <;> cases k' <;> simp_all [kV]
    | _ => simp [isKey] at i'
  | _ => simp [isKey] at i
theorem dget_nil (k : D) : dget [] k = none := rfl
theorem dget_cons (p : D × D) (r : List (D × D)) (k : D) : dget (p :: r) k = if p.1 = k then some p.2 else dget r k := by
  unfold dget
  rw [List.find?_cons]
  by_cases h : p.1 = k
  · simp [h]
  · simp [h]
theorem Rkv.get {d : D} {k : Key} (hk : Rv K mu H d (kV k)) (i : isKey d = true) : ∀ {kvs : List (D × D)} {ks : List (Key × V)}, Rkv K mu H kvs ks →
    (dget kvs d = none ∧ valV ks k = none) ∨ ∃ x v, dget kvs d = some x ∧ valV ks k = some v ∧ Rv K mu H x v
  | [], ks, h => by
    rw [show ks = [] from h]
    exact .inl ⟨rfl, valV_nil⟩
  | p :: r, ks, ⟨k2, v, ks', e, h1, h2, h3, h4⟩ => by
    rw [e, dget_cons]
    by_cases c : p.1 = d
    · have c2 : k2 = k := (key_inj h1 hk h2 i).mp c
      rw [if_pos c, valV_pos (p := (k2, v)) c2]
      exact .inr ⟨_, _, rfl, rfl, h3⟩
    · have c2 : ¬ k2 = k := fun z => c ((key_inj h1 hk h2 i).mpr z)
      rw [if_neg c, valV_neg (p := (k2, v)) c2]
      exact Rkv.get hk i h4
theorem Rkv.length : ∀ {kvs : List (D × D)} {ks : List (Key × V)}, Rkv K mu H kvs ks → kvs.length = ks.length
  | [], ks, h => by rw [show ks = [] from h]; rfl
  | p :: r, ks, ⟨k2, v, ks', e, h1, h2, h3, h4⟩ => by rw [e, List.length_cons, List.length_cons, Rkv.length h4]
theorem Rkv.any {d : D} {k : Key} (hk : Rv K mu H d (kV k)) (i : isKey d = true) : ∀ {kvs : List (D × D)} {ks : List (Key × V)}, Rkv K mu H kvs ks →
    (kvs.any fun kv => decide (kv.1 = d)) = ks.any fun kv => decide (kv.1 = k)
  | [], ks, h => by rw [show ks = [] from h]; rfl
  | p :: r, ks, ⟨k2, v, ks', e, h1, h2, h3, h4⟩ => by
    rw [e, List.any_cons, List.any_cons, Rkv.any hk i h4]
    have c : (p.1 = d) ↔ (k2 = k) := key_inj h1 hk h2 i
    simp only [c]
theorem Rkv.snoc {d x : D} {k : Key} {v : V} (hk : Rv K mu H d (kV k)) (i : isKey d = true) (hv : Rv K mu H x v) : ∀ {kvs : List (D × D)} {ks : List (Key × V)}, Rkv K mu H kvs ks → Rkv K mu H (kvs ++ [(d, x)]) (ks ++ [(k, v)])
  | [], ks, h => by
    rw [show ks = [] from h]
    exact ⟨k, v, [], rfl, hk, i, hv, rfl⟩
  | p :: r, ks, ⟨k2, v2, ks', e, h1, h2, h3, h4⟩ => by
    rw [e]
    exact ⟨k2, v2, _, rfl, h1, h2, h3, Rkv.snoc hk i hv h4⟩
theorem Rkv.repl {d x : D} {k : Key} {v : V} (hk : Rv K mu H d (kV k)) (i : isKey d = true) (hv : Rv K mu H x v) : ∀ {kvs : List (D × D)} {ks : List (Key × V)}, Rkv K mu H kvs ks →
    Rkv K mu H (kvs.map fun kv => if kv.1 = d then (kv.1, x) else kv) (ks.map fun kv => if kv.1 = k then (kv.1, v) else kv)
  | [], ks, h => by
    rw [show ks = [] from h]; rfl
  | p :: r, ks, ⟨k2, v2, ks', e, h1, h2, h3, h4⟩ => by
    rw [e, List.map_cons, List.map_cons]
    by_cases c : p.1 = d
    · have c2 : k2 = k := (key_inj h1 hk h2 i).mp c
      rw [if_pos c, if_pos (show (k2, v2).1 = k from c2)]
      exact ⟨k2, v, _, rfl, h1, h2, hv, Rkv.repl hk i hv h4⟩
    · have c2 : ¬ k2 = k := fun z => c ((key_inj h1 hk h2 i).mpr z)
      rw [if_neg c, if_neg (show ¬ (k2, v2).1 = k from c2)]
      exact ⟨k2, v2, _, rfl, h1, h2, h3, Rkv.repl hk i hv h4⟩
theorem Rkv.put {d x : D} {k : Key} {v : V} (hk : Rv K mu H d (kV k)) (i : isKey d = true) (hv : Rv K mu H x v) {kvs : List (D × D)} {ks : List (Key × V)} (h : Rkv K mu H kvs ks) : Rkv K mu H (dput kvs d x) (putK ks k v) := by
  unfold dput putK
  rw [Rkv.any hk i h]
  split
  · exact Rkv.repl hk i hv h
  · exact Rkv.snoc hk i hv h

/-! ### in -/
theorem flat_v {d : D} {v : V} (h : Rv K mu H d v) (f : d.flat = true) : flatV v = true := by
  cases d with
  | non => rw [show v = V.non from h]; rfl
  | bl b => rw [show v = V.bl b from h]; rfl
  | int b => rw [show v = V.int b from h]; rfl
  | str b => rw [show v = V.str b from h]; rfl
  | _ => simp [D.flat] at f
theorem feq_v {d e : D} {v u : V} (h : Rv K mu H d v) (h2 : Rv K mu H e u) (f : d.flat = true) (f2 : e.flat = true) : eqV v u = feq d e := by
  cases d with
  | non => rw [show v = V.non from h]; cases e with
    | non => rw [show u = V.non from h2]; rfl
    | bl b => rw [show u = V.bl b from h2]; rfl
    | int b => rw [show u = V.int b from h2]; rfl
    | str b => rw [show u = V.str b from h2]; rfl
    | _ => simp [D.flat] at f2
  | bl a => rw [show v = V.bl a from h]; cases e with
    | non => rw [show u = V.non from h2]; rfl
    | bl b => rw [show u = V.bl b from h2]; rfl
    | int b => rw [show u = V.int b from h2]; rfl
    | str b => rw [show u = V.str b from h2]; rfl
    | _ => simp [D.flat] at f2
  | int a => rw [show v = V.int a from h]; cases e with
    | non => rw [show u = V.non from h2]; rfl
    | bl b => rw [show u = V.bl b from h2]; rfl
    | int b => rw [show u = V.int b from h2]; rfl
    | str b => rw [show u = V.str b from h2]; rfl
    | _ => simp [D.flat] at f2
  | str a => rw [show v = V.str a from h]; cases e with
    | non => rw [show u = V.non from h2]; rfl
    | bl b => rw [show u = V.bl b from h2]; rfl
    | int b => rw [show u = V.int b from h2]; rfl
    | str b => rw [show u = V.str b from h2]; rfl
    | _ => simp [D.flat] at f2
  | _ => simp [D.flat] at f
theorem any_v {e : D} {u : V} (h2 : Rv K mu H e u) (f2 : e.flat = true) : ∀ {ds : List D} {vs : List V}, Rvs K mu H ds vs → ds.all D.flat = true → (vs.all flatV = true ∧ inV u vs = ds.any fun d => feq d e)
  | [], vs, h, _ => by rw [show vs = [] from h]; exact ⟨rfl, rfl⟩
  | d :: ds, _, ⟨v, r, e1, h, t⟩, f => by
    rw [List.all_cons, Bool.and_eq_true] at f
    obtain ⟨a, b⟩ := any_v h2 f2 t f.2
    rw [e1]
    refine ⟨by rw [List.all_cons, flat_v h f.1, a]; rfl, ?_⟩
    unfold inV at b ⊢
    rw [List.any_cons, List.any_cons, feq_v h h2 f.1 f2, b]
def rInD (neg : Bool) : R2 := fun x y H Q => ∃ a o, y = .ref a ∧ DGet H a x o ∧ Q (.bl (if neg then !o.isSome else o.isSome)) H
theorem op_inD {X : Cx} (hu : X.A.units + 1 < cLine) : OpR X (compareOp .In) (rInD false) := fun pins s σ H x y v u Q I rx ry ⟨a, o, e, g, q⟩ => by
  subst e
  cases ry
  exact d_in hu I g rx fun s3 I3 => ⟨.bl _, H, I3, rfl, q⟩
theorem op_notInD {X : Cx} (hu : X.A.units + 1 < cLine) : OpR X (compareOp .NotIn) (rInD true) := fun pins s σ H x y v u Q I rx ry ⟨a, o, e, g, q⟩ => by
  subst e
  cases ry
  exact d_notIn hu I g rx fun s3 I3 => ⟨.bl _, H, I3, rfl, q⟩
abbrev rInAll (K : PySem.W.Frag) (neg : Bool) : R2 := fun x y H Q => rInD neg x y H Q ∨ rIn K neg x y H Q
theorem op_inAll {X : Cx} (hu : X.A.units + 1 < cLine) : OpR X (compareOp .In) (rInAll X.K false) := (op_inD hu).or op_in_seq
theorem op_notInAll {X : Cx} (hu : X.A.units + 1 < cLine) : OpR X (compareOp .NotIn) (rInAll X.K true) := (op_notInD hu).or op_notIn_seq
theorem inR_ok {x y : RV} {v u : V} {b neg : Bool} {Q : VK} (R : Rm K CL mu H M) (hx : Rw K CL mu H x v) (hy : Rw K CL mu H y u) (e : inR x y M = some b) (q : Q (.bl (if neg then !b else b)) H) : rInAll K neg v u H Q := by
  unfold inR at e
  split at e
  · rename_i k z M
    split at e
    · rename_i kvs e1
      split at e
      · rename_i hk
        simp only [Option.some.injEq] at e
        obtain ⟨a, ks, rfl, h1, h2⟩ := dicOf_ok R hy e1
        obtain ⟨kk, rfl⟩ := key_of hx hk
        refine .inl ⟨a, _, rfl, .k h1, ?_⟩
        rcases Rkv.get hx hk h2 with ⟨e2, e3⟩ | ⟨w, w', e2, e3, _⟩
        · rw [e3]; rw [e2] at e; subst e; exact q
        · rw [e3]; rw [e2] at e; subst e; exact q
      · cases e
    · split at e
      · rename_i ds e1
        split at e
        · rename_i hk
          simp only [Option.some.injEq] at e
          rw [Bool.and_eq_true] at hk
          obtain ⟨a, vs, rfl, h1, h2⟩ := seqOf_ok R hy e1
          obtain ⟨h3, h4⟩ := any_v hx hk.1 h2 hk.2
          refine .inr ⟨a, vs, rfl, h1, flat_v hx hk.1, h3, ?_⟩
          rw [h4, e]; exact q
        · cases e
      · cases e
  · cases e
theorem ok2_in : Ok2 K CL (rInAll K false) oIn := fun W σ mu H M x y v u Q R hx hy p => by
  unfold oIn at p
  split at p
  · rename_i b e; exact inR_ok R hx hy e (end_d R p rfl)
  · exact bad_end p
theorem ok2_notIn : Ok2 K CL (rInAll K true) oNotIn := fun W σ mu H M x y v u Q R hx hy p => by
  unfold oNotIn at p
  split at p
  · rename_i b e; exact inR_ok R hx hy e (end_d R p rfl)
  · exact bad_end p

/-! ### items, slices -/
def rIxD : R2 := fun x y H Q => ∃ a v, x = .ref a ∧ DGet H a y (some v) ∧ Q v H
theorem ix_dict {X : Cx} (hu : X.A.units + 1 < cLine) : IxR X rIxD := fun value slice pins s σ H x y v u Q I rx ry ⟨a, w, e, g, q⟩ hs => by
  subst e
  cases rx
  exact PyProof.Rows.tail_any (dict_typeIs I g) PySem.F.slot_dict_getitem.lookup (d_getItem hu I g ry fun w' s3 I3 rw' => ⟨w, H, I3, rw', q⟩) hs
abbrev rIxAll (K : PySem.W.Frag) : R2 := fun x y H Q => rIxD x y H Q ∨ rIx K x y H Q
theorem ix_all {X : Cx} (hu : X.A.units + 1 < cLine) : IxR X (rIxAll X.K) := (ix_dict hu).or ix_seq
theorem ixN_eq : @MI.ixN = @L2.ixN := rfl
theorem ok2_ix : Ok2 K CL (rIxAll K) oIx := fun W σ mu H M x y v u Q R hx hy p => by
  unfold oIx at p
  split at p
  · rename_i i
    have hu : u = .int i := hy
    subst hu
    split at p
    · rename_i ds e1
      split at p
      · rename_i j e2
        split at p
        · rename_i d e3
          obtain ⟨a, vs, rfl, h1, h2⟩ := seqOf_ok R hx e1
          obtain ⟨w, e4, h3⟩ := h2.get e3
          have ea : atI vs i = some w := by
            unfold atI
            rw [← ixN_eq, ← h2.length, e2]
            exact e4
          rcases h1 with h1 | h1
          · exact .inr (.inl ⟨a, vs, i, w, rfl, rfl, h1, ea, end_d R p h3⟩)
          · exact .inr (.inr (.inl ⟨a, vs, i, w, rfl, rfl, h1, ea, end_d R p h3⟩))
        · exact bad_end p
      · exact bad_end p
    · split at p
      · rename_i kvs e1
        split at p
        · rename_i d e2
          obtain ⟨a, ks, rfl, h1, h2⟩ := dicOf_ok R hx e1
          rcases Rkv.get (d := .int i) (k := .inl i) (show Rv K mu H (.int i) (kV (.inl i)) from rfl) rfl h2 with ⟨e3, _⟩ | ⟨w, w', e3, e4, h3⟩
          · rw [e2] at e3; cases e3
          · rw [e2] at e3; cases e3
            exact .inl ⟨a, w', rfl, by rw [← e4]; exact DGet.k (k := .inl i) h1, end_d R p h3⟩
        · exact bad_end p
      · exact bad_end p
  · rename_i k _
    split at p
    · rename_i kvs e1
      split at p
      · rename_i hk
        split at p
        · rename_i d e2
          obtain ⟨a, ks, rfl, h1, h2⟩ := dicOf_ok R hx e1
          obtain ⟨kk, rfl⟩ := key_of hy hk
          rcases Rkv.get hy hk h2 with ⟨e3, _⟩ | ⟨w, w', e3, e4, h3⟩
          · rw [e2] at e3; cases e3
          · rw [e2] at e3; cases e3
            exact .inl ⟨a, w', rfl, by rw [← e4]; exact DGet.k (k := kk) h1, end_d R p h3⟩
        · exact bad_end p
      · exact bad_end p
    · exact bad_end p
  · exact bad_end p
end
section
variable {X : Cx} {CL : Str → Option Addr} {cl : Cl} {a b c : Expr} {es : List Expr} {sa sb sc : SE} {as : SDs} {pos : Pos}
theorem snd_ix (hu : X.A.units + 1 < cLine) (ha : SndE X CL cl a sa) (hb : SndE X CL cl b sb) (hs : PlainIx b) : SndE X CL cl (.Subscript a b pos) (e2 oIx sa sb) := fun W tk =>
  pe_imp (pe_ix (ix_all hu) (ha W tk) (hb W tk) hs) fun _ _ _ h => two W ha hb ok2_ix h
theorem plainIx_of (h : ∀ l u q p, b ≠ .Slice l u q p) : PlainIx b := fun o i => by
  cases b with
  | Slice l u q p => exact absurd rfl (h l u q p)
  | _ => rfl
end
end MI
end
section
set_option Elab.async false
set_option linter.all false
set_option maxRecDepth 100000
set_option maxHeartbeats 4000000
namespace MI
open PySem PySem.Spec PyProof.Rows L2
section
variable {K : PySem.W.Frag} {CL : Str → Option Addr} {W : WX} {σ : Sg} {mu mu1 : List Addr} {H H0 H1 : Hp} {M M1 : Mem} {r : Env} {cl : Cl}
/-! ### truth -/
theorem truR_ok {x : RV} {v : V} {b : Bool} (R : Rm K CL mu H M) (h : Rw K CL mu H x v) (e : truR x M = some b) : TruV K v H b := by
  have ls : ∀ ds, lstOf x M = some ds → b = (!ds.isEmpty) → TruV K v H b := fun ds e1 e2 => by
    obtain ⟨a, vs, rfl, h1, h2⟩ := lstOf_ok R h e1
    have hl := h2.length
    refine .inl ⟨vs, h1, e2.trans ?_⟩
    cases ds <;> cases vs <;> simp_all
  have sm : ∀ z : Option (List D), z.map (fun ds => !ds.isEmpty) = some b → ∃ ds, z = some ds ∧ b = (!ds.isEmpty) := fun z e => by
    cases z with
    | none => simp at e
    | some ds => simp only [Option.map_some, Option.some.injEq] at e; exact ⟨ds, rfl, e.symm⟩
  cases x with
  | o o => obtain ⟨ds, e1, e2⟩ := sm _ e; exact ls ds e1 e2
  | d d =>
    cases d with
    | non => rw [show v = V.non from h]; simp only [truR, Option.some.injEq] at e; exact e.symm
    | bl c => rw [show v = V.bl c from h]; simp only [truR, Option.some.injEq] at e; exact e.symm
    | int c => rw [show v = V.int c from h]; simp only [truR, Option.some.injEq] at e; exact e.symm
    | str c =>
      rw [show v = V.str c from h]
      simp only [truR] at e
      split at e
      · rename_i hl
        simp only [Option.some.injEq] at e
        exact ⟨hl, e.symm⟩
      · cases e
    | tup ds =>
      obtain ⟨a, vs, rfl, h1, h2⟩ := h
      have hl := h2.length
      simp only [truR, Option.some.injEq] at e
      refine .inr (.inl ⟨vs, h1, e.symm.trans ?_⟩)
      cases ds <;> cases vs <;> simp_all
    | hdl n => obtain ⟨ds, e1, e2⟩ := sm _ e; exact ls ds e1 e2
    | ro ds => obtain ⟨ds, e1, e2⟩ := sm (lstOf (.d (.ro ds)) M) (by simpa only [truR] using e); exact ls ds e1 e2
/-- the same wish, from a later state -/
theorem Pst.rb {res : Res RV} {Q : VK} (p : Pst K CL W σ mu1 H1 res fun z _ mu' H' => ∀ w, Rr K CL mu' H' H z w → Q w H') (n : Nxt K CL σ mu H r M1 mu1 H1) : Pst K CL W σ mu1 H1 res fun z _ mu' H' => ∀ w, Rr K CL mu' H' H1 z w → Q w H' :=
  p.mono fun _ _ _ _ _ _ q w hw => q w (hw.base n.st n.rm)
end
section
variable {X : Cx} {CL : Str → Option Addr} {cl : Cl} {a b c : Expr} {rest : List Expr} {es : List Expr} {sa sb sc : SE} {ta tb tc : STt} {as : SDs} {pos : Pos}
theorem snd_not (ha : SndE X CL cl a sa) : SndE X CL cl (.UnaryOp .Not a pos) (eNot sa) := fun W tk => by
  refine pe_imp (pe_notT (ha W tk)) fun σ H Q h => ?_
  obtain ⟨mu, r, M, hm, hs, p⟩ := h
  refine rE_then hm hs p fun x v M1 mu1 H1 n1 h1 p1 => ?_
  split at p1
  · rename_i k e; exact ⟨k, truR_ok n1.rm h1.w e, end_d n1.rm (p1.rb n1) rfl⟩
  · exact bad_end p1
theorem snd_and (ha : SndE X CL cl a sa) (hb : SndE X CL cl (.BoolOp .And (b :: rest) pos) sb) : SndE X CL cl (.BoolOp .And (a :: b :: rest) pos) (eAnd sa sb) := fun W tk => by
  refine pe_imp (pe_andT (ha W tk) (hb W tk)) fun σ H Q h => ?_
  obtain ⟨mu, r, M, hm, hs, p⟩ := h
  refine rE_then hm hs p fun x v M1 mu1 H1 n1 h1 p1 => ?_
  split at p1
  · rename_i e
    exact ⟨true, truR_ok n1.rm h1.w e, by rw [if_pos rfl]; exact ⟨mu1, r, M1, n1.rm, n1.rs, p1.rb n1⟩⟩
  · rename_i e
    exact ⟨false, truR_ok n1.rm h1.w e, by rw [if_neg Bool.false_ne_true]; exact p1.here n1.rm v h1⟩
  · exact bad_end p1
theorem snd_or (ha : SndE X CL cl a sa) (hb : SndE X CL cl (.BoolOp .Or (b :: rest) pos) sb) : SndE X CL cl (.BoolOp .Or (a :: b :: rest) pos) (eOr sa sb) := fun W tk => by
  refine pe_imp (pe_orT (ha W tk) (hb W tk)) fun σ H Q h => ?_
  obtain ⟨mu, r, M, hm, hs, p⟩ := h
  refine rE_then hm hs p fun x v M1 mu1 H1 n1 h1 p1 => ?_
  split at p1
  · rename_i e
    exact ⟨true, truR_ok n1.rm h1.w e, by rw [if_pos rfl]; exact p1.here n1.rm v h1⟩
  · rename_i e
    exact ⟨false, truR_ok n1.rm h1.w e, by rw [if_neg Bool.false_ne_true]; exact ⟨mu1, r, M1, n1.rm, n1.rs, p1.rb n1⟩⟩
  · exact bad_end p1
theorem snd_one {op : BoolOp} (ha : SndE X CL cl a sa) : SndE X CL cl (.BoolOp op [a] pos) sa := fun W tk => pe_one (ha W tk)
theorem snd_neg (ha : SndE X CL cl a sa) : SndE X CL cl (.UnaryOp .USub a pos) (e1 oNeg sa) := fun W tk => by
  refine pe_imp (pe_un un_neg (ha W tk)) fun σ H Q h => ?_
  obtain ⟨mu, r, M, hm, hs, p⟩ := h
  refine rE_then hm hs p fun x v M1 mu1 H1 n1 h1 p1 => ?_
  unfold oNeg at p1
  split at p1
  · exact ⟨_, h1, end_d n1.rm (p1.rb n1) rfl⟩
  · exact bad_end p1

/-! ### tests -/
theorem tnd_tB {op : CmpOp} {rr : R2} {o : Op2} (ho : OpR X (compareOp op) rr) (k : Ok2 X.K CL rr o) (ha : SndE X CL cl a sa) (hb : SndE X CL cl b sb) (hm : behindInMarks op b = false) : SndT X CL cl (.Compare a [op] [b] pos) (tB (e2 o sa sb)) := fun W tk => by
  refine pt_imp (pt_cmpR ho (ha W tk) (hb W tk) hm) fun σ H Q h => ?_
  obtain ⟨mu, r, M, hm, hs, p⟩ := h
  refine two W ha hb k (rE_then hm hs p fun x v M1 mu1 H1 n1 h1 p1 => ?_)
  split at p1
  · exact ⟨_, h1, p1.here n1.rm⟩
  · exact bad_end p1
theorem tnd_tru (ha : SndE X CL cl a sa) (he : ∀ whole, isTrue a X.env whole = (do let v ← whole; standAt a.pos; holding [v] (truthy v))) : SndT X CL cl a (tTru sa) := fun W tk => by
  refine pt_imp (pt_truth (ha W tk) he) fun σ H Q h => ?_
  obtain ⟨mu, r, M, hm, hs, p⟩ := h
  refine rE_then hm hs p fun x v M1 mu1 H1 n1 h1 p1 => ?_
  split at p1
  · rename_i k e; exact ⟨k, truR_ok n1.rm h1.w e, p1.here n1.rm⟩
  · exact bad_end p1
theorem tnd_not (ha : SndT X CL cl a ta) : SndT X CL cl (.UnaryOp .Not a pos) (tNot ta) := fun W tk => by
  refine pt_imp (pt_not (ha W tk)) fun σ H Q h => ?_
  obtain ⟨mu, r, M, hm, hs, p⟩ := h
  exact rT_then hm hs p fun x M1 mu1 H1 n1 p1 => p1.here n1.rm
theorem wnd_and1 (ha : SndT X CL cl a ta) : SndW X CL cl (.BoolOp .And [a] pos) ta := fun W tk => pw_and1 (ha W tk)
theorem wnd_or1 (ha : SndT X CL cl a ta) : SndW X CL cl (.BoolOp .Or [a] pos) ta := fun W tk => pw_or1 (ha W tk)
theorem pw_imp {t t' : TT} (h : PW X a t) (q : ∀ σ H Q, t' σ H Q → t σ H Q) : PW X a t' := ⟨fun wh pins s σ H Q I w => h.run wh pins s σ H Q I (q σ H Q w)⟩
theorem wnd_and (ha : SndT X CL cl a ta) (hb : SndW X CL cl (.BoolOp .And (b :: rest) pos) tb) : SndW X CL cl (.BoolOp .And (a :: b :: rest) pos) (MI.tAnd ta tb) := fun W tk => by
  refine pw_imp (pw_and (ha W tk) (hb W tk)) fun σ H Q h => ?_
  obtain ⟨mu, r, M, hm, hs, p⟩ := h
  refine rT_then hm hs p fun x M1 mu1 H1 n1 p1 => ?_
  cases x with
  | true => rw [if_pos rfl] at p1 ⊢; exact ⟨mu1, r, M1, n1.rm, n1.rs, p1⟩
  | false => rw [if_neg Bool.false_ne_true] at p1 ⊢; exact p1.here n1.rm
theorem wnd_or (ha : SndT X CL cl a ta) (hb : SndW X CL cl (.BoolOp .Or (b :: rest) pos) tb) : SndW X CL cl (.BoolOp .Or (a :: b :: rest) pos) (MI.tOr ta tb) := fun W tk => by
  refine pw_imp (pw_or (ha W tk) (hb W tk)) fun σ H Q h => ?_
  obtain ⟨mu, r, M, hm, hs, p⟩ := h
  refine rT_then hm hs p fun x M1 mu1 H1 n1 p1 => ?_
  cases x with
  | true => rw [if_pos rfl] at p1 ⊢; exact p1.here n1.rm
  | false => rw [if_neg Bool.false_ne_true] at p1 ⊢; exact ⟨mu1, r, M1, n1.rm, n1.rs, p1⟩
theorem wnd_t (h : SndW X CL cl a ta) : SndT X CL cl a ta := fun W tk => (h W tk).pt
theorem snd_if (ht : SndT X CL cl c tc) (ha : SndE X CL cl a sa) (hb : SndE X CL cl b sb) : SndE X CL cl (.IfExp c a b pos) (eIf tc sa sb) := fun W tk => by
  refine pe_imp (pe_ifExp (ht W tk) (ha W tk) (hb W tk)) fun σ H Q h => ?_
  obtain ⟨mu, r, M, hm, hs, p⟩ := h
  refine rT_then hm hs p fun x M1 mu1 H1 n1 p1 => ?_
  cases x with
  | true => rw [if_pos rfl] at p1 ⊢; exact ⟨mu1, r, M1, n1.rm, n1.rs, p1.rb n1⟩
  | false => rw [if_neg Bool.false_ne_true] at p1 ⊢; exact ⟨mu1, r, M1, n1.rm, n1.rs, p1.rb n1⟩

/-! ### arguments, displays -/
theorem dnd_nil : SndDs X CL cl [] dNil := fun W tk => by
  refine pa_imp pa_nil fun σ H Q h => ?_
  obtain ⟨mu, r, M, hm, hs, p⟩ := h
  exact p.here hm [] rfl
theorem dnd_cons (ha : SndE X CL cl a sa) (hr : SndDs X CL cl es as) (hst : starEach (a :: es) X.env = (false, eval a X.env) :: starEach es X.env) : SndDs X CL cl (a :: es) (dCons sa as) := fun W tk => by
  refine pa_imp (pa_cons (ha W tk) (hr W tk) hst) fun σ H Q h => ?_
  obtain ⟨mu, r, M, hm, hs, p⟩ := h
  refine rE_thenB hm hs Stp.refl p fun x v M1 mu1 H1 n1 h1 p1 => ?_
  obtain ⟨t, R2, s2, hv⟩ := n1.rm.box h1 n1.st
  refine rDs_thenB R2 (n1.rs.ext t) s2 p1 fun ds vs M3 mu3 H3 n3 h3 p3 => ?_
  exact p3 mu3 H3 (s2.trans n3.st R2) n3.rm (v :: vs) ⟨v, vs, rfl, hv.stp R2 n3.st, h3⟩
theorem snd_tup {k : Nat} (h : SndDs X CL cl es as) : SndE X CL cl (.Tuple es k pos) (eTup as) := fun W tk => by
  refine pe_imp (pe_tup (h W tk)) fun σ H Q h => ?_
  obtain ⟨mu, r, M, hm, hs, p⟩ := h
  refine rDs_then hm hs p fun ds vs M1 mu1 H1 n1 h1 p1 => ?_
  split at p1
  · rename_i c
    exact ⟨by rw [← h1.length]; exact c, end_tup n1.rm (p1.rb n1) h1⟩
  · exact bad_end p1
theorem snd_lst (h : SndDs X CL cl es as) : SndE X CL cl (.List es pos) (eLst as) := fun W tk => by
  refine pe_imp (pe_lst (h W tk)) fun σ H Q h => ?_
  obtain ⟨mu, r, M, hm, hs, p⟩ := h
  refine rDs_then hm hs p fun ds vs M1 mu1 H1 n1 h1 p1 => ?_
  split at p1
  · rename_i c
    exact ⟨by rw [← h1.length]; exact c, end_lst n1.rm (p1.rb n1) h1⟩
  · exact bad_end p1
theorem end_dic {K : PySem.W.Frag} {W : WX} {σ : Sg} {mu : List Addr} {H : Hp} {M : Mem} {kvs : List (D × D)} {ks : List (Key × V)} {Q : VK} (R : Rm K CL mu H M) (h : Pst K CL W σ mu H (.ok (.o (.dic kvs)) M) fun z _ mu' H' => ∀ w, Rr K CL mu' H' H z w → Q w H') (q : Rkv K mu H kvs ks) :
    ∀ p, H p = none → Q (.ref p) (upd H p (.dK ks)) := fun p n =>
  h mu _ (Stp.laid R n) (R.laid n) (.ref p) ⟨p, rfl, ⟨ks, upd_same, q.stp R (Stp.laid R n)⟩, R.fresh n, n⟩
theorem snd_dic0 : SndE X CL cl (.Dict [] [] pos) eDic0 := fun W tk => by
  refine pe_imp pe_dnewK fun σ H Q h => ?_
  obtain ⟨mu, r, M, hm, hs, p⟩ := h
  exact end_dic hm p rfl

/-! ### slices -/
theorem ond_none : SndO X CL cl none oNone := fun W tk => by
  refine po_imp po_none fun σ H Q h => ?_
  obtain ⟨mu, r, M, hm, hs, p⟩ := h
  exact p.here hm
theorem ond_some (ha : SndE X CL cl a sa) : SndO X CL cl (some a) (oSome sa) := fun W tk => by
  refine po_imp (po_some (ha W tk)) fun σ H Q h => ?_
  obtain ⟨mu, r, M, hm, hs, p⟩ := h
  refine rE_then hm hs p fun x v M1 mu1 H1 n1 h1 p1 => ?_
  split at p1
  · exact ⟨_, h1, p1.here n1.rm⟩
  · exact bad_end p1
theorem sIx_eq : @MI.sIx = @HT.sIx := rfl
theorem cut_v {K : PySem.W.Frag} {mu : List Addr} {H : Hp} {ds : List D} {vs : List V} {lo hi : Option Int} (h : Rvs K mu H ds vs) : Rvs K mu H (cut ds lo hi) (cutV vs lo hi) := by
  unfold cut cutV
  rw [h.length, sIx_eq]
  exact (h.drop _).take _
theorem cut_whole {A : Type} {xs : List A} {lo hi : Option Int} (h : HT.sIx xs.length 0 lo = 0 ∧ HT.sIx xs.length xs.length hi = xs.length) : cut xs lo hi = xs := by
  unfold cut
  rw [sIx_eq, h.1, h.2]
  simp
theorem snd_slice {lo hi : Option Expr} {sl sh : SO} {p2 : Pos} (ha : SndE X CL cl a sa) (hl : SndO X CL cl lo sl) (hh : SndO X CL cl hi sh) : SndE X CL cl (.Subscript a (.Slice lo hi none p2) pos) (eSlice sa sl sh) := fun W tk => by
  refine pe_imp (pe_slice (sl_list.or sl_tupA) (ha W tk) (hl W tk) (hh W tk)) fun σ H Q h => ?_
  obtain ⟨mu, r, M, hm, hs, p⟩ := h
  refine rE_then hm hs p fun x v M1 mu1 H1 n1 h1 p1 => ?_
  refine rO_then n1.rm n1.rs p1 fun l M2 mu2 H2 n2 p2 => ?_
  refine rO_then n2.rm n2.rs p2 fun u M3 mu3 H3 n3 p3 => ?_
  have hx : Rw X.K CL mu3 H3 x v := (h1.w.stp n1.rm n2.st).stp n2.rm n3.st
  have p4 : Pst X.K CL W σ mu3 H3 (oSlice x l u M3) fun z _ mu' H' => ∀ w, Rr X.K CL mu' H' H3 z w → Q w H' :=
    p3.mono fun z M3 mu3 H3 s3 R3 q w hw => q w (hw.base ((n1.st.trans n2.st n1.rm).trans n3.st n2.rm) n3.rm)
  unfold oSlice at p4
  split at p4
  · obtain ⟨a, vs, rfl, h4, h5⟩ := hx
    refine .inr ⟨a, vs, rfl, h4, fun e => end_d n3.rm p4 ⟨a, vs, rfl, h4, ?_⟩, fun _ => end_tup n3.rm p4 (cut_v h5)⟩
    rw [cut_whole (by rw [h5.length]; exact e)]
    exact h5
  · split at p4
    · rename_i ds e
      obtain ⟨a, vs, rfl, h4, h5⟩ := lstOf_ok n3.rm hx e
      exact .inl ⟨a, vs, rfl, h4, end_lst n3.rm p4 (cut_v h5)⟩
    · exact bad_end p4

/-! ### calls of built-ins -/
/-- a built-in of one argument by what it asks of the heap -/
def Ok1 (K : PySem.W.Frag) (CL : Str → Option Addr) (rr : List V → Hp → VK → Prop) (o : Op1) : Prop :=
  ∀ (W : WX) (σ : Sg) mu H M x v (Q : VK), Rm K CL mu H M → Rw K CL mu H x v → Pst K CL W σ mu H (o x M) (fun z _ mu' H' => ∀ w, Rr K CL mu' H' H z w → Q w H') → rr [v] H Q
theorem one_arg (W : WX) {rr : List V → Hp → VK → Prop} {o : Op1} (ha : SndE X CL cl a sa) (k : Ok1 X.K CL rr o) {σ : Sg} {H : Hp} {Q : VK} (h : rE X.K CL W cl (e1 o sa) σ H Q) :
    tCons (rE X.K CL W cl sa) tNil σ H fun vs H1 => rr vs H1 Q := by
  obtain ⟨mu, r, M, hm, hs, p⟩ := h
  exact rE_then hm hs p fun x v M1 mu1 H1 n1 h1 p1 => k W σ mu1 H1 M1 x v Q n1.rm h1.w (p1.rb n1)
theorem two_arg (W : WX) {rr : List V → Hp → VK → Prop} {o : Op2} (ha : SndE X CL cl a sa) (hb : SndE X CL cl b sb) (k : Ok2 X.K CL (fun x y H Q => rr [x, y] H Q) o) {σ : Sg} {H : Hp} {Q : VK} (h : rE X.K CL W cl (e2 o sa sb) σ H Q) :
    tCons (rE X.K CL W cl sa) (tCons (rE X.K CL W cl sb) tNil) σ H fun vs H1 => rr vs H1 Q := two W ha hb k h
variable {x : Str} {p0 : Pos} {id T : String} {rr : List V → Hp → VK → Prop} {o : Op1}
theorem snd_b1 (hc : CallR X (.builtin id) rr) (k : Ok1 X.K CL rr o) (ha : SndE X CL cl a sa) (hg : Gl X x) (hm : X.mg x = none) (hv : bootBuiltins x = some (.builtin id)) (hn : x ≠ "__name__") (hdb : (x == ("__debug__" : Str)) = false)
    (hst : starEach [a] X.env = [(false, eval a X.env)]) : SndE X CL cl (.Call (.Name x p0) [a] [] pos) (e1 o sa) := fun W tk =>
  pe_imp (pe_callB hc hg hm hv (pa_cons (ha W tk) pa_nil hst) hn hdb hst rfl) fun σ H Q h => one_arg W ha k h
theorem snd_t1 (hc : CallR X (.type T) rr) (k : Ok1 X.K CL rr o) (ha : SndE X CL cl a sa) (hg : Gl X x) (hm : X.mg x = none) (hv : bootBuiltins x = some (.type T)) (hn : x ≠ "__name__") (hdb : (x == ("__debug__" : Str)) = false)
    (hst : starEach [a] X.env = [(false, eval a X.env)]) : SndE X CL cl (.Call (.Name x p0) [a] [] pos) (e1 o sa) := fun W tk =>
  pe_imp (pe_callTy hc hg hm hv (pa_cons (ha W tk) pa_nil hst) hn hdb hst rfl) fun σ H Q h => one_arg W ha k h
theorem snd_b2 {o : Op2} (hc : CallR X (.builtin id) rr) (k : Ok2 X.K CL (fun x y H Q => rr [x, y] H Q) o) (ha : SndE X CL cl a sa) (hb : SndE X CL cl b sb) (hg : Gl X x) (hm : X.mg x = none) (hv : bootBuiltins x = some (.builtin id)) (hn : x ≠ "__name__") (hdb : (x == ("__debug__" : Str)) = false)
    (hst : starEach [a, b] X.env = (false, eval a X.env) :: starEach [b] X.env) (hst2 : starEach [b] X.env = [(false, eval b X.env)]) : SndE X CL cl (.Call (.Name x p0) [a, b] [] pos) (e2 o sa sb) := fun W tk =>
  pe_imp (pe_callB hc hg hm hv (pa_cons (ha W tk) (pa_cons (hb W tk) pa_nil hst2) hst) hn hdb hst (by rw [hst2]; rfl)) fun σ H Q h => two_arg W ha hb k h
end
end MI
end
section
set_option Elab.async false
set_option linter.all false
set_option maxRecDepth 100000
set_option maxHeartbeats 4000000
namespace MI
open PySem PySem.Spec PyProof.Rows L2
section
variable {K : PySem.W.Frag} {CL : Str → Option Addr} {W : WX} {σ : Sg} {mu mu1 : List Addr} {H H0 H1 : Hp} {M M1 : Mem} {r : Env} {cl : Cl}
/-! ### the built-ins' contracts -/
theorem ok1_len : Ok1 K CL (fun xs H Q => ∃ x n, xs = [x] ∧ LenV K x H n ∧ Q (.int n) H) bLen := fun W σ mu H M x v Q R hx p => by
  unfold bLen at p
  split at p
  · split at p
    · rename_i c
      have hv : v = .str _ := hx
      subst hv
      exact ⟨_, _, rfl, ⟨c, rfl⟩, end_d R p rfl⟩
    · exact bad_end p
  · split at p
    · rename_i ds e
      obtain ⟨a, vs, rfl, h1, h2⟩ := seqOf_ok R hx e
      rcases h1 with h1 | h1
      · exact ⟨_, _, rfl, .inl ⟨vs, h1, h2.length⟩, end_d R p rfl⟩
      · exact ⟨_, _, rfl, .inr ⟨vs, h1, h2.length⟩, end_d R p rfl⟩
    · exact bad_end p
theorem ok1_list : Ok1 K CL (fun xs H Q => ∃ p ys, xs = [.ref p] ∧ (SqL K H p ys ∨ SqT K H p ys) ∧ ∀ l, H l = none → Q (.ref l) (upd H l (.lst ys))) bList := fun W σ mu H M x v Q R hx p => by
  unfold bList at p
  split at p
  · rename_i ds e
    obtain ⟨a, vs, rfl, h1, h2⟩ := seqOf_ok R hx e
    exact ⟨a, vs, rfl, h1, end_lst R p h2⟩
  · exact bad_end p
theorem ok1_tuple : Ok1 K CL (fun xs H Q => ∃ p ys, xs = [.ref p] ∧ ((SqL K H p ys ∧ ∀ l, H l = none → Q (.ref l) (upd H l (.tup ys))) ∨ (SqT K H p ys ∧ Q (.ref p) H))) bTuple := fun W σ mu H M x v Q R hx p => by
  unfold bTuple at p
  split at p
  · rename_i ds e
    obtain ⟨a, vs, rfl, h1, h2⟩ := seqOf_ok R hx e
    rcases h1 with h1 | h1
    · exact ⟨a, vs, rfl, .inl ⟨h1, end_tup R p h2⟩⟩
    · exact ⟨a, vs, rfl, .inr ⟨h1, end_d R p ⟨a, vs, rfl, h1, h2⟩⟩⟩
  · exact bad_end p
theorem ok1_int : Ok1 K CL (fun xs H Q => (∃ i, xs = [.int i] ∧ Q (.int i) H) ∨ ∃ k, xs = [.bl k] ∧ Q (.int (if k then 1 else 0)) H) bInt := fun W σ mu H M x v Q R hx p => by
  unfold bInt at p
  split at p
  · exact .inl ⟨_, by rw [show v = _ from hx], end_d R p rfl⟩
  · exact .inr ⟨_, by rw [show v = _ from hx], end_d R p rfl⟩
  · exact bad_end p
theorem ok1_abs : Ok1 K CL (fun xs H Q => ∃ i, xs = [.int i] ∧ Q (.int (if i < 0 then -i else i)) H) bAbs := fun W σ mu H M x v Q R hx p => by
  unfold bAbs at p
  split at p
  · exact ⟨_, by rw [show v = _ from hx], end_d R p rfl⟩
  · exact bad_end p
theorem ok2_max : Ok2 K CL (fun x y H Q => ∃ i j, [x, y] = [.int i, .int j] ∧ Q (.int (if j > i then j else i)) H) bMax2 := fun W σ mu H M x y v u Q R hx hy p => by
  unfold bMax2 at p
  split at p
  · exact ⟨_, _, by rw [show v = _ from hx, show u = _ from hy], end_d R p rfl⟩
  · exact bad_end p
theorem ok2_min : Ok2 K CL (fun x y H Q => ∃ i j, [x, y] = [.int i, .int j] ∧ Q (.int (if j < i then j else i)) H) bMin2 := fun W σ mu H M x y v u Q R hx hy p => by
  unfold bMin2 at p
  split at p
  · exact ⟨_, _, by rw [show v = _ from hx, show u = _ from hy], end_d R p rfl⟩
  · exact bad_end p

/-! ### sorted -/
theorem asInts_eq : ∀ {ds : List D} {ns : List Int}, asInts ds = some ns → ds = ns.map D.int
  | [], ns, h => by simp [asInts] at h; subst h; rfl
  | .int i :: r, ns, h => by
    simp only [asInts, Option.map_eq_some_iff] at h
    obtain ⟨q, h, rfl⟩ := h
    rw [asInts_eq h]; rfl
  | .non :: _, _, h | .bl _ :: _, _, h | .str _ :: _, _, h | .tup _ :: _, _, h | .hdl _ :: _, _, h | .ro _ :: _, _, h => by simp [asInts] at h
theorem insI_perm (i : Int) : ∀ l : List Int, (insI i l).Perm (i :: l)
  | [] => .refl _
  | j :: r => by
    unfold insI
    split
    · exact .refl _
    · exact ((insI_perm i r).cons j).trans (.swap i j r)
theorem sortI_perm : ∀ l : List Int, (sortI l).Perm l
  | [] => .refl _
  | i :: r => (insI_perm i _).trans ((sortI_perm r).cons i)
theorem insI_sorted (i : Int) : ∀ l : List Int, l.Pairwise (· ≤ ·) → (insI i l).Pairwise (· ≤ ·)
  | [], _ => List.pairwise_singleton _ _
  | j :: r, h => by
    unfold insI
    obtain ⟨h1, h2⟩ := List.pairwise_cons.mp h
    split
    · rename_i c
      refine List.pairwise_cons.mpr ⟨fun x hx => ?_, h⟩
      rcases List.mem_cons.mp hx with e | hx
      · rw [e]; exact c
      · exact Int.le_trans c (h1 x hx)
    · rename_i c
      refine List.pairwise_cons.mpr ⟨fun x hx => ?_, insI_sorted i r h2⟩
      rcases List.mem_cons.mp ((insI_perm i r).mem_iff.mp hx) with e | hx
      · rw [e]; omega
      · exact h1 x hx
theorem sortI_sorted : ∀ l : List Int, (sortI l).Pairwise (· ≤ ·)
  | [] => .nil
  | i :: r => insI_sorted i _ (sortI_sorted r)
theorem sorted_one {xs ys : List Int} (p : xs.Perm ys) (h : xs.Pairwise (· ≤ ·)) (h2 : ys.Pairwise (· ≤ ·)) : xs = ys :=
  List.Perm.eq_of_pairwise (fun a b _ _ h1 h2 => Int.le_antisymm h1 h2) h h2 p
abbrev rSortD : List V → Hp → VK → Prop := fun xs H Q => ∃ (a : Addr) (kvs : List (Key × V)) (ks : List Int), xs = [.ref a] ∧ Rd H a (.dK kvs) ∧ kvs.map (·.1) = ks.map Sum.inl ∧
    ∀ (ys : List Int) (p : Addr), ys.Perm ks → ys.Pairwise (· ≤ ·) → H p = none → Q (.ref p) (upd H p (.lst (ys.map V.int)))
/-- sorted(a), whatever a is, if walking it tells whole numbers -/
theorem sorted_any {X : Cx} {pins : List (Addr × Obj)} {σ : Sg} {H : Hp} {s : Shared} {a : Addr} {Q : VK} {ks : List Int} (hz : ks.length ≤ sizeLine)
    (col : ∀ R : List Value → Shared → Prop, (∀ us ns s1, Inv X pins σ H s1 → IntsAre us ns → ns.Perm ks → R us s1) → wpAny (model X.prog X.w) X.A.in1 (collect (.ref a)) R X.xe s)
    (q : ∀ (ys : List Int) (p : Addr), ys.Perm ks → ys.Pairwise (· ≤ ·) → H p = none → Q (.ref p) (upd H p (.lst (ys.map V.int)))) :
    wpAny (model X.prog X.w) X.A (call (.builtin "sorted") [.ref a]) (EP X pins σ Q) X.xe s := by
  refine Calls.call_function_entry PyProof.Rows.kind_sorted PyProof.Rows.plain_sorted PyProof.Rows.entry_sorted (PyProof.Rows.args_sorted1 _) (show wpAny _ _ (Builtin.«sorted» _) _ _ _ from ?_)
  unfold Builtin.«sorted»; refine wpAny_bind (m := checkCount "sorted" 1 1 _) (wpAny_pure (wpAny_bind (col _ fun us ns s1 I1 hi hp => ?_)))
  have hl : us.length ≤ sizeLine := by rw [hi.length, hp.length_eq]; exact hz
  refine wpAny_bind (wpAny_newList ?_ hl)
  have ho : (s1.heap.push (seqObj "list" us.toArray 0)).get? s1.heap.objs.size = some (seqObj "list" us.toArray 0) := Heap.get?_push_size _ rfl
  refine wpAny_bind (wpAny_holding (wpAny_call_entry PyProof.Rows.slot_list_sort ⟨_, ho, rfl⟩ PyProof.Rows.entry_list_sort (SrtO.list_sort_ord
    (s := { s1 with heap := s1.heap.push (seqObj "list" us.toArray 0) }) SrtO.swo_int ho hl (fun h2 => SrtO.ints_sortable hi h2) fun out h1 h2 => ⟨_, rfl, ?_⟩) (PyProof.Rows.args_list_sort _)))
  obtain ⟨k1, k2, k3⟩ := SrtO.ints_out hi h1 h2
  obtain ⟨c, hc⟩ := PyProof.Rows.sortedHeap_at (vs := us) (out := out.toArray) ho
  have pk := k2.trans hp
  refine wpAny_pure ⟨_, rfl, .ref s1.heap.objs.size, _, I1.laid (o := .lst ((out.map SrtO.iv).map V.int)) (t' := s1.toks) (fun b u e => ?_) (Nat.le_refl _) ⟨by rw [List.length_map, pk.length_eq]; exact hz, out, c, vals_of_ints k1, hc⟩, rfl, q _ _ pk k3 (I1.hok.fresh (Nat.le_refl _))⟩
  have lt := Heap.lt_size e
  rw [PyProof.Rows.sortedHeap_old (Nat.ne_of_lt lt) (by rw [PyProof.Rows.size_push']; exact Nat.lt_succ_of_lt lt)]
  exact Heap.get?_push_of_some _ e
/-- the walk of a dict of whole numbers -/
theorem ints_of_keys {P : Program} {w : World} {vs : List (Key × Value)} {ks : List Int} (hk : vs.map (·.1) = ks.map Sum.inl) {us : List Value} (hl : us.length = ks.length)
    (h : ∀ (j : Nat) (v : Value), us[j]? = some v → ∃ k x, vs[j]? = some (k, x) ∧ (mixKind P w).is k v = true) : IntsAre us ks := by
  refine ints_each hl fun j v e => ?_
  obtain ⟨k, x, e1, e2⟩ := h j v e
  have e3 : (ks.map Sum.inl)[j]? = some k := by rw [← hk, List.getElem?_map, e1]; rfl
  rw [List.getElem?_map, Option.map_eq_some_iff] at e3
  obtain ⟨y, e4, e5⟩ := e3
  subst e5
  rcases keyIs_shape (show keyIs (Sum.inl y) v = true from e2) with ⟨i, t, ek, ev⟩ | ⟨z, t, ek, ev⟩ <;> cases ek
  exact ⟨y, t, e4, ev⟩
/-- sorted(d) of a dict of whole numbers, of any size -/
theorem call_sortedD2 {X : Cx} (hcalm : X.calm = true) : CallR X (.builtin "sorted") rSortD := fun pins s σ H xs us Q I r ⟨a, kvs, ks, ex, hd, hks, q⟩ => by
  subst ex
  obtain ⟨u, rfl, rx⟩ := vals1 r
  cases rx
  obtain ⟨z, lo, vs, rel, dd⟩ := dk_rd I.hok hd
  obtain ⟨ep, hat⟩ := dd.dictAt
  have hk : vs.map (·.1) = ks.map Sum.inl := rel.keys.symm.trans hks
  have hl : vs.length = ks.length := by simpa using congrArg List.length hk
  refine sorted_any (ks := ks) (by rw [← hl, ← rel.length]; exact z) (fun R hR => ?_) q
  refine PySem.W.kdu_collect (A := X.A.in1) (PySem.W.kdl_dict (knd := mixKind X.prog X.w) (kvs := vs) (ep := ep) lo) (I.ok.hd hcalm) hat (by rw [← rel.length]; exact z) fun h' tk acc keep hacc => ?_
  refine hR _ ks _ (I.kept keep) (ints_of_keys (P := X.prog) (w := X.w) hk (by rw [Array.length_toList, hacc.1, hl]) fun j v e => hacc.2 j v ?_) (.refl _)
  rw [← Array.getElem?_toList]; exact e
abbrev rSortedAll (K : PySem.W.Frag) : List V → Hp → VK → Prop := fun xs H Q => rSortD xs H Q ∨ rSortedI K xs H Q
theorem call_sortedAll {X : Cx} (hc : X.calm = true) : CallR X (.builtin "sorted") (rSortedAll X.K) := (call_sortedD2 hc).or cr_sortedI
theorem keys_ints : ∀ {kvs : List (D × D)} {ks : List (Key × V)} {ns : List Int}, Rkv K mu H kvs ks → kvs.map (·.1) = ns.map D.int → ks.map (·.1) = ns.map Sum.inl
  | [], ks, ns, h, e => by
    rw [show ks = [] from h]
    cases ns with
    | nil => rfl
    | cons => simp at e
  | p :: r, ks, ns, ⟨k, v, ks', e1, h1, h2, h3, h4⟩, e => by
    cases ns with
    | nil => simp at e
    | cons n ns =>
      simp only [List.map_cons, List.cons.injEq] at e
      rw [e1, List.map_cons, List.map_cons, keys_ints h4 e.2]
      rw [e.1] at h1
      have h1' : kV k = V.int n := h1
      cases k with
      | inl i => cases h1'; rfl
      | inr i => cases h1'
theorem ok1_sorted : Ok1 K CL (rSortedAll K) bSorted := fun W σ mu H M x v Q R hx p => by
  unfold bSorted at p
  split at p
  · rename_i kvs e
    split at p
    · rename_i ns e2
      obtain ⟨a, ks, rfl, h1, h2⟩ := dicOf_ok R hx e
      refine .inl ⟨a, ks, ns, rfl, .inl h1, keys_ints h2 (asInts_eq e2), fun ys q hp hs n => ?_⟩
      rw [sorted_one (hp.trans (sortI_perm ns).symm) hs (sortI_sorted ns)]
      exact end_lst R p (Rvs.of_ints _) q n
    · exact bad_end p
  · split at p
    · rename_i ds e
      split at p
      · rename_i ns e2
        obtain ⟨a, vs, rfl, h1, h2⟩ := lstOf_ok R hx e
        rw [asInts_eq e2] at h2
        have e3 := h2.ints
        subst e3
        refine .inr ⟨a, ns, rfl, h1, fun ys q hp hs n => ?_⟩
        rw [sorted_one (hp.trans (sortI_perm ns).symm) hs (sortI_sorted ns)]
        exact end_lst R p (Rvs.of_ints _) q n
      · exact bad_end p
    · exact bad_end p

/-! ### isinstance -/
def Ty.nm : Ty → String
  | .tuple => "tuple"
  | .bool => "bool"
  | .int => "int"
  | .list => "list"
  | .str => "str"
  | .dict => "dict"
theorem tyx_seqL {a : Addr} {vs : List V} (h : SqL K H a vs) : TyX K H (.ref a) (.type "list") := by
  rcases h with (h | ⟨o, h⟩) | ⟨o, its, n, e, c, _⟩
  · exact .base (.lst h)
  · exact .base (.frz h)
  · exact .kList e c
theorem tyx_seqT {a : Addr} {vs : List V} (h : SqT K H a vs) : TyX K H (.ref a) (.type "tuple") := by
  rcases h with (h | ⟨o, h⟩) | ⟨o, its, n, e, c, _⟩
  · exact .base (.tup h)
  · exact .fTuple h
  · exact .kTuple e c
theorem isTy_ok {t : Ty} {x : RV} {v : V} {b : Bool} (R : Rm K CL mu H M) (h : Rw K CL mu H x v) (e : isTy t x M = some b) : ∃ n, TyX K H v (.type n) ∧ kitB n t.nm = some b := by
  unfold isTy at e
  split at e <;> first | cases e | skip
  · rw [show v = V.non from h]
    refine ⟨_, .base .non, ?_⟩
    cases t <;> decide +kernel
  · rw [show v = V.bl _ from h]
    refine ⟨_, .base (.bl _), ?_⟩
    cases t <;> decide +kernel
  · rw [show v = V.int _ from h]
    refine ⟨_, .base (.int _), ?_⟩
    cases t <;> decide +kernel
  · rw [show v = V.str _ from h]
    refine ⟨_, .base (.str _), ?_⟩
    cases t <;> decide +kernel
  · obtain ⟨a, vs, rfl, h1, h2⟩ := h
    refine ⟨_, tyx_seqT h1, ?_⟩
    cases t <;> decide +kernel
  · obtain ⟨a, vs, rfl, h1, h2⟩ := h
    refine ⟨_, tyx_seqL h1.sq, ?_⟩
    cases t <;> decide +kernel
  · obtain ⟨a, h1, rfl⟩ := h
    split at e
    · rename_i ds q
      cases e
      obtain ⟨vs, h3, h4⟩ := R.ob _ a _ h1 q
      refine ⟨_, .base (.lst h3), ?_⟩
      cases t <;> decide +kernel
    · rename_i ds q
      cases e
      obtain ⟨vs, h3, h4⟩ := R.ob _ a _ h1 q
      refine ⟨_, .base (.dK h3), ?_⟩
      cases t <;> decide +kernel
    · cases e
  · obtain ⟨a, rfl, ⟨vs, h3, h4⟩, _⟩ := h
    refine ⟨_, .base (.lst h3), ?_⟩
    cases t <;> decide +kernel
  · obtain ⟨a, rfl, ⟨vs, h3, h4⟩, _⟩ := h
    refine ⟨_, .base (.dK h3), ?_⟩
    cases t <;> decide +kernel
end
section
variable {X : Cx} {CL : Str → Option Addr} {cl : Cl} {a b c : Expr} {rest : List Expr} {es : List Expr} {sa sb sc : SE} {ta tb tc : STt} {as : SDs} {pos p0 : Pos}
theorem snd_isi {T : Str} {q : Pos} {t : Ty} (ha : SndE X CL cl a sa) (hg : Gl X "isinstance") (hm : X.mg "isinstance" = none) (hgT : Gl X T) (hmT : X.mg T = none) (hvT : bootBuiltins T = some (.type t.nm)) (hnT : T ≠ "__name__") (hdT : (T == ("__debug__" : Str)) = false)
    (hst : starEach [a, .Name T q] X.env = (false, eval a X.env) :: starEach [.Name T q] X.env) : SndE X CL cl (.Call (.Name "isinstance" p0) [a, .Name T q] [] pos) (e1 (bIsi t) sa) := fun W tk => by
  refine pe_imp (pe_callB call_isi hg hm PyProof.Rows.boot_isinstance (pa_cons (ha W tk) (pa_cons (pe_bltn (v := .ty t.nm) hgT hmT hvT rfl hnT hdT) pa_nil rfl) hst) (by decide) (by decide) hst rfl) fun σ H Q h => ?_
  obtain ⟨mu, r, M, hm, hs, p⟩ := h
  refine rE_then hm hs p fun x v M1 mu1 H1 n1 h1 p1 => ?_
  unfold bIsi at p1
  split at p1
  · rename_i k e
    obtain ⟨n, h2, h3⟩ := isTy_ok n1.rm h1.w e
    exact ⟨v, .ty t.nm, _, _, k, rfl, .ty _, h2, kit_ty h3, end_d n1.rm (p1.rb n1) rfl⟩
  · exact bad_end p1

/-! ### calls of our own functions -/
/-- a function's promise: what cl says of it -/
def spOf (K : PySem.W.Frag) (CL : Str → Option Addr) (cl : Cl) (f : Str) (ar : Nat) : Sp := fun vs H Q E => vs.length = ar ∧ ∃ mu ds M, Rm K CL mu H M ∧ Rvs K mu H ds vs ∧
  Pst K CL (fun c d _ H' => E c d H') [] mu H (cl f ds M) fun x _ mu' H' => ∀ v, Rr K CL mu' H' H x v → Q v H'
theorem Pst.wish {K : PySem.W.Frag} {CL : Str → Option Addr} {W W' : WX} {σ σ' : Sg} {mu : List Addr} {H : Hp} {A : Type} {res : Res A} {k : A → Mem → List Addr → Hp → Prop} (h : Pst K CL W σ mu H res k) (q : ∀ c d H', W c d σ H' → W' c d σ' H') : Pst K CL W' σ' mu H res k := by
  cases res with
  | ok x M' => exact h
  | err c M' => exact fun mu' H' C e s R => q _ _ _ (h mu' H' C e s R)
  | bad => exact h
structure FnG (X : Cx) (CL : Str → Option Addr) (cl : Cl) (k : Nat) (x : Str) (ar : Nat) : Prop where
  ok : ∃ (f : Addr) (fd : FuncData) (ps : List Str), FnOk X.prog X.w X.K X.mg X.base (CX X.prog X.w) k f fd ps (spOf X.K CL cl x ar) ∧ X.mg x = some (.ref f) ∧ PySem.W.keepIn X.K (.ref f) = true ∧ Binds X.K fd ps []
theorem snd_call {k : Nat} {x : Str} {ar : Nat} (F : FnG X CL cl k x ar) (hr : Room k X.A) (hg : Gl X x) (hdb : (x == ("__debug__" : Str)) = false) (h : SndDs X CL cl (a :: es) as) (hal : (a :: es).length = ar)
    (hlen : ∀ r M ds M', as cl r M = .ok ds M' → ds.length = ar)
    (he : starEach (a :: es) X.env = (false, eval a X.env) :: starEach es X.env) (hpl : (backTo pos (starEach es X.env)).any (·.1) = false) : SndE X CL cl (.Call (.Name x p0) (a :: es) [] pos) (eCall x as) := fun W tk => by
  obtain ⟨f, fd, ps, ok, mg, kp, bd⟩ := F.ok
  refine pe_imp (pe_callS (E := WE W) ok hr hg mg kp bd (fun σ => passAt tk σ) (h W tk) hdb he hpl) fun σ H Q h => ?_
  obtain ⟨mu, r, M, hm, hs, p⟩ := h
  cases e : as cl r M with
  | ok ds M' =>
    have hl := hlen r M ds M' e
    refine ⟨mu, r, M, hm, hs, ?_⟩
    have p' : Pst X.K CL W σ mu H (cl x ds M') fun z _ mu' H' => ∀ v, Rr X.K CL mu' H' H z v → Q v H' := by
      simpa only [eCall, e, Res.bind] using p
    rw [e]
    exact fun mu' H' s' R' vs hvs => ⟨hvs.length.symm.trans hl, mu', ds, M', R', hvs, ((p'.from s' R').mono fun z M3 mu3 H3 s3 R3 q w hw => q w (hw.base s' R')).wish fun _ _ _ z => z⟩
  | err c M' =>
    refine ⟨mu, r, M, hm, hs, ?_⟩
    simp only [eCall, e, Res.bind] at p
    rw [e]
    exact p
  | bad => simp only [eCall, e, Res.bind] at p; exact p.elim
end
end MI
end
section
set_option Elab.async false
set_option linter.all false
set_option maxRecDepth 100000
set_option maxHeartbeats 4000000
namespace MI
open PySem PySem.Spec PyProof.Rows L2
/-! ### set(xs) of a list of whole numbers -/
/-- a set as it begins -/
abbrev nset (w : World) : Obj := { cls := .type "set", dict := none, data := .set #[] 0 (.fresh 0 0 (!w.params.followText "set-order")) }
section
variable {P : Program} {w : World} {A : Around} {E : Value → Shared → Prop} {s : Shared}
set_option maxHeartbeats 3200000 in
theorem set_of_list {l : Addr} {items : Array Value} (ns : List Int) {Q : Value → Shared → Prop} (hh : A.handled = none) (hl : s.heap.IsList l items) (hit : IntsAre items.toList ns) (hb : ns.length + 1 < scanBound)
    (h : ∀ (h' : Heap) (tk c : Nat), SetR w h' s.heap.objs.size (fun j => decide (j ∈ ns)) c → c ≤ ns.length → (∀ b o, s.heap.get? b = some o → h'.get? b = some o) → Q (.ref s.heap.objs.size) { s with heap := h', toks := tk }) :
    wpAny (model P w) A (call (.type "set") [.ref l]) Q E s := by
  have hisz : items.size = ns.length := by have q := IntsAre.length hit; rwa [Array.length_toList] at q
  obtain ⟨c, tl, hmro⟩ := F.called_set.mro
  have hmade := F.called_set.made; have hsub := F.called_set.sub
  refine wpAny_call (codeAny_of_tree (show wpAny _ _ (callAny (.type "set") _) _ _ _ from wpAny_pure ⟨Code.quiet_builtin _ (by decide +kernel), codeAny_builtin F.entry_type_call ?_⟩))
  rw [Around.under_plain (weight_type_call_type "set" [.ref l] []) rfl]
  have h1 := F.called_set.notType; have h2 := F.called_set.canCreate; have hct := F.typeCall_set_1 (.ref l)
  repeat (any_goals (first | assumption | wp_step))
  refine codeAny_mono (code_set_led1 (.ref l) (E := E) (Q₁ := fun obj t => obj = .ref s.heap.objs.size ∧ t = { s with heap := s.heap.push (nset w) }) ⟨rfl, rfl⟩) fun r t hr => ?_
  match r, hr with
  | .error e, hr => exact hr
  | .ok .next, hr => exact hr.elim
  | .ok .brk, hr => exact hr.elim
  | .ok .cont, hr => exact hr.elim
  | .ok (.ret obj), hr =>
    obtain ⟨rfl, rfl⟩ := hr
    have hS : (s.heap.push (nset w)).get? s.heap.objs.size = some (nset w) := Heap.get?_push_size _ rfl
    have hT : Shared.TypeIs { s with heap := s.heap.push (nset w) } (.ref s.heap.objs.size) "set" := ⟨_, hS, rfl⟩
    have hli := F.called_set.init.lookup; have hbi := F.called_set.init.bind (.ref s.heap.objs.size)
    repeat (any_goals (first | assumption | wp_step))
    refine codeAny_mono (codeAny_call_builtin (R := wants (fun r t => r = .none ∧ ∃ h' tk c, t = { s with heap := h', toks := tk } ∧ SetR w h' s.heap.objs.size (fun j => decide (j ∈ ns)) c ∧ c ≤ ns.length ∧ ∀ b o, s.heap.get? b = some o → h'.get? b = some o) E)
      F.called_set.init.plain F.entry_set_init (check_set_init_1 hT ?_)) fun r2 t2 hr2 => ?_
    · obtain ⟨⟨oc, od, odt, osl⟩, hol, hcl, nl, hdl⟩ := hl
      simp only at hcl hdl
      subst hcl; subst hdl
      have holP : (s.heap.push (nset w)).get? l = some { cls := .type "list", dict := od, data := .seq items nl, slots := osl } := Heap.get?_push_of_some _ hol
      have hsls := F.sub_list_set; have hslf := F.sub_list_frozenset
      have hne : (Value.type "list" == Value.type "dict") = false := by decide
      have hl1 : (s.heap.push (nset w)).IsList l items := ⟨_, holP, rfl, nl, rfl⟩
      unfold Builtin.«set.__init__» noKeywords Builtin.Frozenset.updateFrom
      generalize hPI : pyIter = PI
      wp_walk
      subst hPI
      refine wpAny_pyIter_list hl1 (wpAny_bind (wpAny_runValue ?_))
      have hlS : l < s.heap.objs.size := Heap.lt_size hol
      have hI : (s.heap.push (nset w)).objs.size = s.heap.objs.size + 1 := Heap.size_push ..
      have hneI : l ≠ (s.heap.push (nset w)).objs.size := by rw [hI]; exact Nat.ne_of_lt (Nat.lt_succ_of_lt hlS)
      have hSf : s.heap.objs.size ∉ [(s.heap.push (nset w)).objs.size, l] := by
        rw [hI]; intro z; simp only [List.mem_cons, List.not_mem_nil, or_false] at z
        rcases z with z | z
        · exact Nat.ne_of_lt (Nat.lt_succ_self _) z
        · exact Nat.ne_of_gt hlS z
      have hval : ∀ (i : Nat) (v : Value), items[i]? = some v → ∃ k t, ns[i]? = some k ∧ v = .int k t := fun i v hv => by
        have hin : i < ns.length := by rw [← hisz]; exact (Array.getElem?_eq_some_iff.mp hv).1
        obtain ⟨t, e⟩ := PyProof.Rows.IntsAre.int_at hit i v (by rw [Array.getElem?_toList]; exact hv)
        exact ⟨ns[i], t, List.getElem?_eq_getElem hin, by rw [e, List.getD_eq_getElem?_getD, List.getElem?_eq_getElem hin]; rfl⟩
      have start : ((s.heap.push (nset w)).push { cls := .type "list_iterator", data := .fields #[.ref l, .int 0 0] }).get? s.heap.objs.size = some (nset w) := Heap.get?_push_of_some _ hS
      refine set_update_ints ((Walks.list (show A.in1.in1.in1.handled = none by simp [hh]) _ l hneI items).toS) s.heap.objs.size hSf ns hisz hb hval (items.size - 0) 0 _ (by omega) (Nat.zero_le _)
        ⟨⟨_, Heap.get?_push_size _ rfl, rfl, rfl⟩, (hl1.push _)⟩ ⟨0, Nat.le_refl 0, setR_new_at start⟩ fun s' c' hm hc' hS' => ?_
      obtain ⟨h', g2, d', tk', os'⟩ := s'
      cases (show g2 = s.gens from hm.gens); cases (show d' = s.drawn from hm.drawn); cases (show os' = s.os from hm.os)
      refine wpAny_pure (show wpAny _ _ (ret Value.none) _ _ _ from wpAny_pure ⟨rfl, h', tk', c', rfl, hS', by rw [← hisz]; exact hc', fun b o e => ?_⟩)
      have hb0 := Heap.lt_size e
      refine hm.heap b o (fun z => ?_) (Heap.get?_push_of_some _ (Heap.get?_push_of_some _ e))
      simp only [List.mem_cons, List.not_mem_nil, or_false, hI] at z
      rcases z with z | z
      · exact Nat.ne_of_lt hb0 z
      · exact Nat.ne_of_lt (Nat.lt_succ_of_lt hb0) z
    · match r2, hr2 with
      | .error e, hr2 => exact hr2
      | .ok .next, hr2 => exact hr2.elim
      | .ok .brk, hr2 => exact hr2.elim
      | .ok .cont, hr2 => exact hr2.elim
      | .ok (.ret r), hr2 =>
        obtain ⟨rfl, h', tk, c', rfl, hS', hc', hk'⟩ := hr2
        repeat (any_goals (first | assumption | wp_step))
        exact h _ _ _ hS' hc' hk'
end
section
variable {X : Cx}
/-- set(a) of a list or a tuple of whole numbers -/
def rSetI (K : PySem.W.Frag) (w : World) : List V → Hp → VK → Prop := fun xs H Q => ∃ (a : Addr) (ns : List Int), xs = [.ref a] ∧ (SqL K H a (ns.map V.int) ∨ SqT K H a (ns.map V.int)) ∧ ns.length + 1 < scanBound ∧
  ∀ p c, H p = none → Q (.ref p) (upd H p (SetO w p (fun j => decide (j ∈ ns)) c))
theorem call_setI (hc : X.calm = true) : CallR X (.type "set") (rSetI X.K X.w) := fun pins s σ H xs us Q I r ⟨a, ns, ex, hq, hb, q⟩ => by
  subst ex
  obtain ⟨u, rfl, rx⟩ := vals1 r
  cases rx
  have fin : ∀ (h' : Heap) (tk c : Nat), SetR X.w h' s.heap.objs.size (fun j => decide (j ∈ ns)) c → c ≤ ns.length → (∀ b o, s.heap.get? b = some o → h'.get? b = some o) → EP X pins σ Q (.ref s.heap.objs.size) { s with heap := h', toks := tk } := fun h' tk c R _ k =>
    ⟨.ref _, _, I.laid (o := SetO X.w s.heap.objs.size (fun j => decide (j ∈ ns)) c) k (Nat.le_refl _) (setO_new R), rfl, q _ c (I.hok.fresh (Nat.le_refl _))⟩
  rcases hq with hq | hq
  · obtain ⟨its, rv, pt, hz⟩ := I.list hq
    exact set_of_list ns (I.ok.hd hc) pt.isList (ints_of_vals rv) hb fin
  · obtain ⟨its, rv, pt, hz⟩ := I.tuple hq
    exact call_set_tupI ns (I.ok.hd hc) (show s.heap.IsTuple a its.toArray from pt) (ints_of_vals rv) hb fin
end
end MI
end
section
set_option Elab.async false
set_option linter.all false
set_option maxRecDepth 100000
set_option maxHeartbeats 4000000
namespace MI
open PySem PySem.Spec PyProof.Rows L2
section
variable {X : Cx}
/-- sorted(s) of a set of whole numbers -/
def rSortS (w : World) : List V → Hp → VK → Prop := fun xs H Q => ∃ a S n, xs = [.ref a] ∧ H a = some (SetO w a S n) ∧
  ∀ (ys : List Int) (p : Addr), ys.Pairwise (· < ·) → (∀ k, k ∈ ys ↔ S k = true) → H p = none → Q (.ref p) (upd H p (.lst (ys.map V.int)))
theorem call_sortS (hc : X.calm = true) : CallR X (.builtin "sorted") (rSortS X.w) := fun pins s σ H xs us Q I r ⟨a, S, n, ex, ha, q⟩ => by
  subst ex
  obtain ⟨u, rfl, rx⟩ := vals1 r
  cases rx
  obtain ⟨o, es, ep, t, ho, hex, hd, g, nd, hm, hb, hf, hn, hr, hl⟩ := setO_get I ha
  refine sorted_any (H := H) (ks := es.toList.map L2.keyOf) ?_ (fun R hR => ?_) fun ys p hp hs n => ?_
  · rw [List.length_map, Array.length_toList]
    exact Nat.le_of_lt (Nat.lt_of_lt_of_le hb (by decide))
  · refine collect_set (A := X.A.in1) (I.ok.hd hc) ⟨o, ho, hex.1, hd⟩ hf hb hr hl fun s1 vs k1 _ g1 o1 pm => ?_
    have hI : IntsAre vs (vs.map Builtin.Re.reRawOf) := ints_of vs fun v hv => by
      obtain ⟨e, he, q⟩ := List.mem_map.mp (pm.mem_iff.mp hv)
      obtain ⟨k, tk, h1, _⟩ := g e he
      exact ⟨k, tk, q ▸ h1⟩
    refine hR vs _ s1 (I.call' (ch := []) o1 (Un.kept k1) (I.hok.kept k1) (by rw [g1]; exact I.bare) (fun _ z => nomatch z)) hI ?_
    have z := pm.map Builtin.Re.reRawOf
    rwa [List.map_map] at z
  · refine q ys p (lt_of_le_nodup ys hs (hp.nodup_iff.mpr nd)) (fun k => ?_) n
    rw [hp.mem_iff, ← hm k]
end
section
variable {K : PySem.W.Frag} {CL : Str → Option Addr} {W : WX} {σ : Sg} {mu mu1 : List Addr} {H H0 H1 : Hp} {M M1 : Mem} {r : Env} {cl : Cl}
theorem dedI_mem (k : Int) : ∀ l : List Int, k ∈ dedI l ↔ k ∈ l
  | [] => .rfl
  | i :: r => by
    unfold dedI
    split
    · rename_i c
      rw [dedI_mem k r, List.mem_cons]
      refine ⟨.inr, fun h => h.elim (fun e => ?_) id⟩
      rw [e]; simpa using c
    · rw [List.mem_cons, List.mem_cons, dedI_mem k r]
theorem dedI_nodup : ∀ l : List Int, (dedI l).Nodup
  | [] => .nil
  | i :: r => by
    unfold dedI
    split
    · exact dedI_nodup r
    · rename_i c
      refine List.nodup_cons.mpr ⟨fun h => c ?_, dedI_nodup r⟩
      simpa using (dedI_mem i r).mp h
theorem strict_one {xs ys : List Int} (h : xs.Pairwise (· < ·)) (h2 : ys.Pairwise (· < ·)) (m : ∀ k, k ∈ xs ↔ k ∈ ys) : xs = ys := by
  have nd : ∀ {l : List Int}, l.Pairwise (· < ·) → l.Nodup := fun h => h.imp fun h => Int.ne_of_lt h
  have p : xs.Perm ys := (List.perm_ext_iff_of_nodup (nd h) (nd h2)).mpr m
  exact sorted_one p (h.imp fun h => Int.le_of_lt h) (h2.imp fun h => Int.le_of_lt h)
theorem sortDed_sorted (l : List Int) : (sortI (dedI l)).Pairwise (· < ·) :=
  lt_of_le_nodup _ (sortI_sorted _) ((sortI_perm _).nodup_iff.mpr (dedI_nodup l))
theorem sortDed_mem (l : List Int) (k : Int) : k ∈ sortI (dedI l) ↔ k ∈ l := by rw [(sortI_perm _).mem_iff, dedI_mem]
end
section
variable {X : Cx} {CL : Str → Option Addr} {cl : Cl} {a b c : Expr} {sa sb sc : SE} {pos p0 p1 p2 : Pos}
theorem snd_sortedSet (hc : X.calm = true) (ha : SndE X CL cl a sa) (hg : Gl X "sorted") (hm : X.mg "sorted" = none) (hg2 : Gl X "set") (hm2 : X.mg "set" = none) (hst : starEach [a] X.env = [(false, eval a X.env)]) :
    SndE X CL cl (.Call (.Name "sorted" p0) [.Call (.Name "set" p1) [a] [] p2] [] pos) (e1 bSortedSet sa) := fun W tk => by
  refine pe_imp (pe_callB (call_sortS hc) hg hm PyProof.Rows.boot_sorted (pa_cons (pe_callTy (call_setI hc) hg2 hm2 PyProof.Rows.boot_set (pa_cons (ha W tk) pa_nil hst) (by decide) (by decide) hst rfl) pa_nil rfl) (by decide) (by decide) rfl rfl) fun σ H Q h => ?_
  obtain ⟨mu, r, M, hm, hs, p⟩ := h
  refine rE_then hm hs p fun x v M1 mu1 H1 n1 h1 p1 => ?_
  have p2 := p1.rb n1
  unfold bSortedSet at p2
  split at p2
  · rename_i ds e
    split at p2
    · rename_i ns e2
      split at p2
      · rename_i hl
        obtain ⟨q, vs, rfl, h2, h3⟩ := seqOf_ok n1.rm h1.w e
        rw [asInts_eq e2] at h3
        have e3 := h3.ints
        subst e3
        refine ⟨q, ns, rfl, h2, by unfold scanBound; omega, fun p c nf => ⟨p, _, c, rfl, upd_same, fun ys p' hs hk n' => ?_⟩⟩
        rw [strict_one hs (sortDed_sorted ns) fun k => by rw [hk, sortDed_mem]; simp]
        exact end_lst (n1.rm.laid nf) (p2.from (Stp.laid n1.rm nf) (n1.rm.laid nf) |>.mono fun _ _ _ _ _ _ z w hw => z w (hw.base (Stp.laid n1.rm nf) (n1.rm.laid nf))) (Rvs.of_ints _) p' n'
      · exact bad_end p2
    · exact bad_end p2
  · exact bad_end p2
end
end MI
end
section
set_option Elab.async false
set_option linter.all false
set_option maxRecDepth 100000
set_option maxHeartbeats 4000000
namespace MI
open PySem PySem.Spec PyProof.Rows L2
section
variable {X : Cx} {CL : Str → Option Addr} {cl : Cl} {a b c o : Expr} {rest : List Expr} {es : List Expr} {sa sb sc so : SE} {ta tb tc : STt} {as : SDs} {pos p0 apos cpos : Pos}
/-! ### methods of lists -/
/-- a list's method by what it asks of the heap: the list stands at the handle n -/
def OkM (K : PySem.W.Frag) (CL : Str → Option Addr) (rr : V → List V → Hp → VK → Prop) (m : Nat → D → Mem → Res RV) : Prop :=
  ∀ (W : WX) (σ : Sg) mu H M n p d v (Q : VK), Rm K CL mu H M → mu[n]? = some p → Rv K mu H d v → Pst K CL W σ mu H (m n d M) (fun z _ mu' H' => ∀ w, Rr K CL mu' H' H z w → Q w H') → rr (.ref p) [v] H Q
theorem snd_m1 {name : Str} {id : String} {rr : V → List V → Hp → VK → Prop} {m : Nat → D → Mem → Res RV} (slot : Slot "list" name id) (hty : typeOf (.builtin id) = pure (.type "method_descriptor")) (hm : MtR X id rr) (k : OkM X.K CL rr m) (ho : SndE X CL cl o so) (ha : SndE X CL cl a sa)
    (hbase : attributeBase o name X.env (eval o X.env) = eval o X.env) (hline : (apos.endLine == cpos.line) = true) (hst : starEach [a] X.env = [(false, eval a X.env)]) : SndE X CL cl (.Call (.Attribute o name apos) [a] [] cpos) (eM1 m so sa) := fun W tk => by
  refine pe_imp (pe_bm PySem.F.plainAttrs_list slot hty hm (ho W tk) (pa_cons (ha W tk) pa_nil hst) hbase (by rw [hst]; rfl) hline hst rfl) fun σ H Q h => ?_
  obtain ⟨mu, r, M, hm, hs, p⟩ := h
  refine rE_then hm hs p fun x v M1 mu1 H1 n1 h1 p1 => ?_
  split at p1
  · rename_i n
    split at p1
    · rename_i e
      obtain ⟨ds, e⟩ := Option.isSome_iff_exists.mp e
      obtain ⟨p', vs, hv, h2, h3⟩ := lstT_ok n1.rm h1.w e
      obtain ⟨q, h4, h5⟩ := h1
      have eq : q = p' := V.ref.inj (h5.symm.trans hv)
      subst eq
      refine ⟨by rw [h5]; exact .inl ⟨rfl, vs, .inl (.inl h2)⟩, ?_⟩
      refine rE_thenB n1.rm n1.rs Stp.refl p1 fun y u M2 mu2 H2 n2 h6 p2 => ?_
      obtain ⟨t, R3, s3, hu⟩ := n2.rm.box h6 n2.st
      rw [h5]
      refine k W σ (mu2 ++ t) H2 _ n q _ u Q R3 ?_ hu ?_
      · rw [List.getElem?_append_left (List.getElem?_eq_some_iff.mp (n2.st.get h4)).1]; exact n2.st.get h4
      · exact (p2.from s3 R3).mono fun _ _ _ _ _ _ z w hw => z w ((hw.base s3 R3).base n1.st n1.rm)
    · exact bad_end p1
  · exact bad_end p1
theorem okM_append {K : PySem.W.Frag} : OkM K CL rAppend mAppend := fun W σ mu H M n p d v Q R hp hv h => by
  unfold mAppend at h
  split at h
  · rename_i ds e
    split at h
    · rename_i c
      obtain ⟨vs, h1, h2⟩ := R.ob n p _ hp e
      have st : Stp mu H mu (upd H p (.lst (vs ++ [v]))) := Stp.write hp
      have R' := R.write (u := .lst (vs ++ [v])) (o := .lst (ds ++ [d])) hp ⟨_, upd_same, (h2.append (Rvs.one hv)).stp R st⟩
      exact ⟨p, vs, v, rfl, rfl, h1, by rw [← h2.length]; exact c, h mu _ st R' .non rfl⟩
    · exact bad_end h
  · exact bad_end h
theorem okM_popAt {K : PySem.W.Frag} : OkM K CL rPopAt mPopAt := fun W σ mu H M n p d v Q R hp hv h => by
  unfold mPopAt at h
  split at h
  · rename_i ds e
    split at h
    · rename_i i
      split at h
      · rename_i c
        split at h
        · rename_i y ey
          obtain ⟨vs, h1, h2⟩ := R.ob n p _ hp e
          obtain ⟨w, h3, h4⟩ := h2.get ey
          have hv' : v = .int i := hv
          subst hv'
          have st : Stp mu H mu (upd H p (.lst (vs.eraseIdx i.toNat))) := Stp.write hp
          have R' := R.write (u := .lst (vs.eraseIdx i.toNat)) (o := .lst (ds.eraseIdx i.toNat)) hp ⟨_, upd_same, (h2.eraseIdx _).stp R st⟩
          have hl := h2.length
          refine ⟨p, vs, i, i.toNat, w, rfl, rfl, h1, by omega, by omega, seqIndex_of c.1 (by omega), h3, h mu _ st R' w (h4.stp R st)⟩
        · exact bad_end h
      · exact bad_end h
    · exact bad_end h
  · exact bad_end h

/-! ### what is walked -/
structure Wk (K : PySem.W.Frag) (CL : Str → Option Addr) (J : It) (xs : List D) (c : Chk) (mu0 : List Addr) (H0 : Hp) : Prop where
  go : ∀ (i : Nat) (d : D) mu H M, xs[i]? = some d → Stp mu0 H0 mu H → Rm K CL mu H M → chkOk c M = true → J.go i H ∧ ∀ x H', J.yld i H x H' → Stp mu H mu H' ∧ Rm K CL mu H' M ∧ Rv K mu H' d x
  stop : ∀ mu H M, Stp mu0 H0 mu H → Rm K CL mu H M → chkOk c M = true → J.stop xs.length H
def rI (K : PySem.W.Frag) (CL : Str → Option Addr) (W : WX) (cl : Cl) (s : SI) : TI := fun σ H R => ∃ mu r M, Rm K CL mu H M ∧ Rst K mu H r σ ∧ Pst K CL W σ mu H (s cl r M) fun p _ mu' H' => ∀ J, Wk K CL J p.1 p.2 mu' H' → R J H'
def SndI (X : Cx) (CL : Str → Option Addr) (cl : Cl) (tg : Expr) (e : Expr) (s : SI) : Prop := ∀ W, Takes X W → PI X tg e (rI X.K CL W cl s)
theorem pi_imp {tg e : Expr} {t t' : TI} (h : PI X tg e t) (q : ∀ σ H R, t' σ H R → t σ H R) : PI X tg e t' := ⟨fun pins s σ H R I w => h.run pins s σ H R I (q σ H R w)⟩
/-- a list or a tuple -/
def iBoth (K : PySem.W.Frag) (tl : TE) : TI := fun σ H R => tl σ H fun x H1 => ∃ a, x = .ref a ∧ (((∃ xs, SqL K H1 a xs) ∧ R (Itl K a) H1) ∨ ((∃ xs, SqT K H1 a xs) ∧ R (Itt K a) H1))
theorem pi_both {tg l : Expr} {tl : TE} (hl : PE X l tl) : PI X tg l (iBoth X.K tl) := by
  refine ⟨fun pins s σ H R I h => thn (hl.run pins s σ H _ I h) fun v s1 ⟨x, H1, I1, r1, a, e, q1⟩ => ?_⟩
  subst e
  cases r1
  rcases q1 with ⟨⟨xs, hq⟩, q⟩ | ⟨⟨xs, hq⟩, q⟩
  · obtain ⟨its, rv, p, hz⟩ := I1.list hq
    refine wpAny_pyIter_list p.isList ⟨s1.heap.objs.size, [s1.heap.objs.size], _, _, H1, rfl, I1.kept (t' := s1.toks) fun b o e => Heap.get?_push_of_some _ e, turn_list a _, ⟨_, Heap.get?_push_size _ rfl, rfl, rfl⟩, fun b hb => ?_, q⟩
    rw [show b = s1.heap.objs.size by simpa using hb]
    exact I1.fpOk (Nat.le_refl _) (I1.hok.fresh (Nat.le_refl _))
  · obtain ⟨its, rv, p, hz⟩ := I1.tuple hq
    refine wpAny_pyIter_tuple (show s1.heap.IsTuple a its.toArray from p) ⟨s1.heap.objs.size, [s1.heap.objs.size], _, _, H1, rfl, I1.kept (t' := s1.toks) fun b o e => Heap.get?_push_of_some _ e, turn_tuple a _, ⟨_, Heap.get?_push_size _ rfl, rfl, rfl⟩, fun b hb => ?_, q⟩
    rw [show b = s1.heap.objs.size by simpa using hb]
    exact I1.fpOk (Nat.le_refl _) (I1.hok.fresh (Nat.le_refl _))
/-- a walk whose list stays -/
theorem wk_list {K : PySem.W.Frag} {a : Addr} {xs : List D} {c : Chk} {mu0 : List Addr} {H0 : Hp} (h : ∀ mu H M, Stp mu0 H0 mu H → Rm K CL mu H M → chkOk c M = true → ∃ vs, SqL K H a vs ∧ Rvs K mu H xs vs) : Wk K CL (Itl K a) xs c mu0 H0 where
  go := fun i d mu H M e st R ck => by
    obtain ⟨vs, h1, h2⟩ := h mu H M st R ck
    obtain ⟨v, h3, h4⟩ := h2.get e
    refine ⟨⟨vs, v, h1, h3⟩, fun x H' ⟨e1, e2⟩ => ?_⟩
    subst e1
    have e3 := e2 vs h1
    rw [h3] at e3; cases e3
    exact ⟨Stp.refl, R, h4⟩
  stop := fun mu H M st R ck => by
    obtain ⟨vs, h1, h2⟩ := h mu H M st R ck
    exact ⟨vs, h1, by rw [h2.length]; exact Nat.le_refl _⟩
theorem wk_tup {K : PySem.W.Frag} {a : Addr} {xs : List D} {c : Chk} {mu0 : List Addr} {H0 : Hp} (h : ∀ mu H M, Stp mu0 H0 mu H → Rm K CL mu H M → chkOk c M = true → ∃ vs, SqT K H a vs ∧ Rvs K mu H xs vs) : Wk K CL (Itt K a) xs c mu0 H0 where
  go := fun i d mu H M e st R ck => by
    obtain ⟨vs, h1, h2⟩ := h mu H M st R ck
    obtain ⟨v, h3, h4⟩ := h2.get e
    refine ⟨⟨vs, v, h1, h3⟩, fun x H' ⟨e1, e2⟩ => ?_⟩
    subst e1
    have e3 := e2 vs h1
    rw [h3] at e3; cases e3
    exact ⟨Stp.refl, R, h4⟩
  stop := fun mu H M st R ck => by
    obtain ⟨vs, h1, h2⟩ := h mu H M st R ck
    exact ⟨vs, h1, by rw [h2.length]; exact Nat.le_refl _⟩
theorem snd_seq {tg : Expr} (ha : SndE X CL cl a sa) : SndI X CL cl tg a (iSeq sa) := fun W tk => by
  refine pi_imp (pi_both (ha W tk)) fun σ H R h => ?_
  obtain ⟨mu, r, M, hm, hs, p⟩ := h
  refine rE_then hm hs p fun x v M1 mu1 H1 n1 h1 p1 => ?_
  split at p1
  · rename_i ds e
    have p2 := p1.here n1.rm
    by_cases ht : ∃ es, x = .d (.tup es)
    · obtain ⟨es, rfl⟩ := ht
      simp only [seqOf, Option.some.injEq] at e
      subst e
      obtain ⟨q, vs, rfl, h2, h3⟩ := h1
      exact ⟨q, rfl, .inr ⟨⟨vs, h2⟩, p2 _ (wk_tup fun mu H M st R _ => ⟨vs, SqT.stp n1.rm st h2, h3.stp n1.rm st⟩)⟩⟩
    · have e' : lstOf x M1 = some ds := by
        cases x with
        | o o => simpa [seqOf] using e
        | d d =>
          cases d with
          | tup es => exact absurd ⟨es, rfl⟩ ht
          | _ => simpa [seqOf] using e
      by_cases hr : ∃ es, x = .d (.ro es)
      · obtain ⟨es, rfl⟩ := hr
        simp only [lstOf, Option.some.injEq] at e'
        subst e'
        obtain ⟨q, vs, rfl, h2, h3⟩ := h1
        exact ⟨q, rfl, .inl ⟨⟨vs, h2.sq⟩, p2 _ (wk_list fun mu H M st R _ => ⟨vs, (h2.stp n1.rm st).sq, h3.stp n1.rm st⟩)⟩⟩
      · cases x with
        | o o =>
          cases o with
          | lst es =>
            simp only [lstOf, Option.some.injEq] at e'
            subst e'
            obtain ⟨q, rfl, ⟨vs, h2, h3⟩, h4, h5⟩ := h1
            exact ⟨q, rfl, .inl ⟨⟨vs, .inl (.inl h2)⟩, p2 _ (wk_list fun mu H M st R _ => ⟨vs, .inl (.inl (st.keep _ _ h2 h4)), h3.stp n1.rm st⟩)⟩⟩
          | _ => simp [lstOf] at e'
        | d d =>
          cases d with
          | ro es => exact absurd ⟨es, rfl⟩ hr
          | hdl n =>
            obtain ⟨q, h2, rfl⟩ := h1
            cases ec : M1[n]? with
            | none => simp [lstOf, ec] at e'
            | some o =>
              cases o with
              | lst es =>
                simp only [lstOf, ec, Option.some.injEq] at e'
                subst e'
                obtain ⟨vs, h3, h4⟩ := n1.rm.ob n q _ h2 ec
                have ck : chkR (.d (.hdl n)) M1 = [(n, es)] := by simp [chkR, ec]
                rw [ck] at p2
                refine ⟨q, rfl, .inl ⟨⟨vs, .inl (.inl h3)⟩, p2 _ (wk_list fun mu H M st R k => ?_)⟩⟩
                simp only [chkOk, List.all_cons, List.all_nil, Bool.and_true, decide_eq_true_eq] at k
                obtain ⟨ws, h5, h6⟩ := R.ob n q _ (st.get h2) k
                exact ⟨ws, .inl (.inl h5), h6⟩
              | _ => simp [lstOf, ec] at e'
          | _ => simp [lstOf] at e'
  · exact bad_end p1
theorem snd_range1 {tg : Expr} (ha : SndE X CL cl a sa) (hg : Gl X "range") (hm : X.mg "range" = none) (hst : starEach [a] X.env = [(false, eval a X.env)]) : SndI X CL cl tg (.Call (.Name "range" p0) [a] [] pos) (iRange1 sa) := fun W tk => by
  refine pi_imp (pi_range1 hg hm (pa_cons (ha W tk) pa_nil hst) hst) fun σ H R h => ?_
  obtain ⟨mu, r, M, hm, hs, p⟩ := h
  refine rE_then hm hs p fun x v M1 mu1 H1 n1 h1 p1 => ?_
  split at p1
  · rename_i n
    split at p1
    · rename_i c
      have hv : v = .int n := h1
      subst hv
      refine ⟨n, rfl, c.2, c.1, p1.here n1.rm _ ⟨fun i d mu H M e st R _ => ?_, fun mu H M st R _ => ?_⟩⟩
      · have hi : i < n.toNat := by
          have := (List.getElem?_eq_some_iff.mp e).1
          simpa [rngD] using this
        refine ⟨hi, fun x H' ⟨e1, e2⟩ => ?_⟩
        subst e1
        refine ⟨Stp.refl, R, ?_⟩
        have : d = .int (0 + (i : Int)) := by
          unfold rngD at e
          rw [List.getElem?_map, List.getElem?_range hi] at e
          exact (Option.some.inj e).symm
        rw [this, e2]
        rfl
      · show n.toNat ≤ (rngD 0 n.toNat).length
        simp [rngD]
    · exact bad_end p1
  · exact bad_end p1
end
end MI
end
section
set_option Elab.async false
set_option linter.all false
set_option maxRecDepth 100000
set_option maxHeartbeats 4000000
namespace MI
open PySem PySem.Spec PyProof.Rows L2
section
variable (K : PySem.W.Frag) (CL : Str → Option Addr) (W : WX)
/-- what is wanted behind a statement's run -/
def PsS (mu : List Addr) (H : Hp) (res : SR) (D : Ends) : Prop :=
  match res with
  | .nx r M' => ∀ mu' H' σ', Stp mu H mu' H' → Rm K CL mu' H' M' → Rst K mu' H' r σ' → D.nx σ' H'
  | .ret x M' => ∀ mu' H' v, Stp mu H mu' H' → Rm K CL mu' H' M' → Rr K CL mu' H' H x v → D.rt v H'
  | .err c r M' => ∀ mu' H' σ' C, CL c = some C → Stp mu H mu' H' → Rm K CL mu' H' M' → Rst K mu' H' r σ' → W (.ref C) none σ' H'
  | .bad => False
def rS (cl : Cl) (s : SS) : TS := fun D σ H => ∃ mu r M, Rm K CL mu H M ∧ Rst K mu H r σ ∧ PsS K CL W mu H (s cl r M) D
end
section
variable {K : PySem.W.Frag} {CL : Str → Option Addr} {W : WX} {σ : Sg} {mu mu1 mu0 : List Addr} {H H0 H1 : Hp} {M M1 : Mem} {r : Env} {cl : Cl} {DD : Ends}
theorem PsS.from {res : SR} (h : PsS K CL W mu H res DD) (s : Stp mu H mu1 H1) (R : Rm K CL mu1 H1 M1) : PsS K CL W mu1 H1 res DD := by
  cases res with
  | nx r M' => exact fun mu' H' σ' s' R' => h mu' H' σ' (s.trans s' R) R'
  | ret x M' => exact fun mu' H' v s' R' hv => h mu' H' v (s.trans s' R) R' (hv.base s R)
  | err c r M' => exact fun mu' H' σ' C e s' R' => h mu' H' σ' C e (s.trans s' R) R'
  | bad => exact h
theorem PsS.here {r : Env} (h : PsS K CL W mu0 H0 (.nx r M) DD) (s : Stp mu0 H0 mu H) (R : Rm K CL mu H M) (q : Rst K mu H r σ) : DD.nx σ H := h mu H σ s R q
/-- an expression, then the rest -/
theorem rE_stm {s : SE} {f : RV → Mem → SR} (hm : Rm K CL mu H M) (hs : Rst K mu H r σ) (s0 : Stp mu0 H0 mu H) (h : PsS K CL W mu0 H0 (ofE (s cl r M) r f) DD) {Q : VK}
    (q : ∀ x v M1 mu1 H1, Nxt K CL σ mu H r M1 mu1 H1 → Rr K CL mu1 H1 H x v → PsS K CL W mu0 H0 (f x M1) DD → Q v H1) : rE K CL W cl s σ H Q := by
  refine ⟨mu, r, M, hm, hs, ?_⟩
  cases e : s cl r M with
  | ok x M' =>
    rw [e] at h
    exact fun mu' H' st R v hv => q x v M' mu' H' ⟨R, hs.stp hm st, st⟩ hv h
  | err c M' =>
    rw [e] at h
    exact fun mu' H' C ec st R => h mu' H' σ C ec (s0.trans st hm) R (hs.stp hm st)
  | bad => rw [e] at h; exact h
theorem rT_stm {s : STt} {f : Bool → Mem → SR} (hm : Rm K CL mu H M) (hs : Rst K mu H r σ) (s0 : Stp mu0 H0 mu H) (h : PsS K CL W mu0 H0 (ofT (s cl r M) r f) DD) {Q : Bool → Hp → Prop}
    (q : ∀ x M1 mu1 H1, Nxt K CL σ mu H r M1 mu1 H1 → PsS K CL W mu0 H0 (f x M1) DD → Q x H1) : rT K CL W cl s σ H Q := by
  refine ⟨mu, r, M, hm, hs, ?_⟩
  cases e : s cl r M with
  | ok x M' =>
    rw [e] at h
    exact fun mu' H' st R => q x M' mu' H' ⟨R, hs.stp hm st, st⟩ h
  | err c M' =>
    rw [e] at h
    exact fun mu' H' C ec st R => h mu' H' σ C ec (s0.trans st hm) R (hs.stp hm st)
  | bad => rw [e] at h; exact h
theorem rI_stm {s : SI} {f : List D × Chk → Mem → SR} (hm : Rm K CL mu H M) (hs : Rst K mu H r σ) (s0 : Stp mu0 H0 mu H) (h : PsS K CL W mu0 H0 (ofI (s cl r M) r f) DD) {R : It → Hp → Prop}
    (q : ∀ x M1 mu1 H1 J, Nxt K CL σ mu H r M1 mu1 H1 → Wk K CL J x.1 x.2 mu1 H1 → PsS K CL W mu0 H0 (f x M1) DD → R J H1) : rI K CL W cl s σ H R := by
  refine ⟨mu, r, M, hm, hs, ?_⟩
  cases e : s cl r M with
  | ok x M' =>
    rw [e] at h
    exact fun mu' H' st R J wk => q x M' mu' H' J ⟨R, hs.stp hm st, st⟩ wk h
  | err c M' =>
    rw [e] at h
    exact fun mu' H' C ec st R => h mu' H' σ C ec (s0.trans st hm) R (hs.stp hm st)
  | bad => rw [e] at h; exact h
end
section
variable (X : Cx) (CL : Str → Option Addr) (cl : Cl)
abbrev POwn (X : Cx) : Prop := PassesOwn (model X.prog X.w) X.A X.env X.xe
def SndS (st : Stmt) (s : SS) : Prop := ∀ W, Takes X W → POwn X → PS X st (rS X.K CL W cl s)
def SndB (sts : List Stmt) (s : SS) : Prop := ∀ W, Takes X W → POwn X → PSs X sts (rS X.K CL W cl s)
/-- a target -/
def SndG (e : Expr) (t : Tg) : Prop := ∃ g, PG X e g ∧ ∀ (d : D) (r r' : Env) mu H v σ (Q : Sg → Hp → Prop), asg t d r = some r' → Rv X.K mu H d v → Rst X.K mu H r σ → (∀ σ', Rst X.K mu H r' σ' → σ'.length = σ.length → Q σ' H) → g v σ H Q
end
section
variable {X : Cx} {CL : Str → Option Addr} {cl : Cl} {a b c o k : Expr} {sa sb sc so sk : SE} {ta tb tc : STt} {pos p0 p1 : Pos} {st : Stmt} {rest sts stt : List Stmt} {u v : SS}
theorem bnd_nil : SndB X CL cl [] sNil := fun W tk po => by
  refine pss_imp pss_nil fun D σ H h => ?_
  obtain ⟨mu, r, M, hm, hs, p⟩ := h
  exact p.here Stp.refl hm hs
theorem bnd_cons (h1 : SndS X CL cl st u) (h2 : SndB X CL cl rest v) : SndB X CL cl (st :: rest) (sSeq u v) := fun W tk po => by
  refine pss_imp (pss_cons (h1 W tk po) (h2 W tk po)) fun D σ H h => ?_
  obtain ⟨mu, r, M, hm, hs, p⟩ := h
  refine ⟨mu, r, M, hm, hs, ?_⟩
  unfold sSeq at p
  cases e : u cl r M with
  | nx r1 M1 =>
    rw [e] at p
    exact fun mu' H' σ' s' R' q => ⟨mu', r1, M1, R', q, PsS.from p s' R'⟩
  | ret x M1 => rw [e] at p; exact p
  | err c r1 M1 => rw [e] at p; exact p
  | bad => rw [e] at p; exact p
theorem bnd_one (h1 : SndS X CL cl st u) : SndB X CL cl [st] u := fun W tk po => pss_one (h1 W tk po)
theorem stm_expr (ha : SndE X CL cl a sa) (hs : swapsWith a none pos.line X.env = pure false) : SndS X CL cl (.Expr a pos) (sExpr sa) := fun W tk po => by
  refine ps_imp (ps_expr (ha W tk) hs) fun D σ H h => ?_
  obtain ⟨mu, r, M, hm, hs, p⟩ := h
  exact rE_stm hm hs Stp.refl p fun x v M1 mu1 H1 n1 _ p1 => p1.here n1.st n1.rm n1.rs
theorem stm_ret (ha : SndE X CL cl a sa) : SndS X CL cl (.Return (some a) pos) (sRet sa) := fun W tk po => by
  refine ps_imp (ps_ret (ha W tk)) fun D σ H h => ?_
  obtain ⟨mu, r, M, hm, hs, p⟩ := h
  exact rE_stm hm hs Stp.refl p fun x v M1 mu1 H1 n1 h1 p1 => p1 mu1 H1 v n1.st n1.rm h1
theorem stm_retN : SndS X CL cl (.Return none pos) sRetN := fun W tk po => by
  refine ps_imp ps_retN fun D σ H h => ?_
  obtain ⟨mu, r, M, hm, hs, p⟩ := h
  exact p mu H .non Stp.refl hm rfl
theorem stm_if (ht : SndT X CL cl c tc) (ha : SndB X CL cl sts u) (hb : SndB X CL cl stt v) : SndS X CL cl (.If c sts stt pos) (sIf tc u v) := fun W tk po => by
  refine ps_imp (ps_if (ht W tk) (ha W tk po) (hb W tk po)) fun D σ H h => ?_
  obtain ⟨mu, r, M, hm, hs, p⟩ := h
  refine rT_stm hm hs Stp.refl p fun x M1 mu1 H1 n1 p1 => ?_
  cases x with
  | true => rw [if_pos rfl] at p1 ⊢; exact ⟨mu1, r, M1, n1.rm, n1.rs, p1.from n1.st n1.rm⟩
  | false => rw [if_neg Bool.false_ne_true] at p1 ⊢; exact ⟨mu1, r, M1, n1.rm, n1.rs, p1.from n1.st n1.rm⟩
theorem stm_set {i : Nat} {x : Str} (hN : X.N.Nodup) (hi : X.N[i]? = some x) (hx : Loc X.env.scope x) (hf : X.fn x = true ∨ X.env.scope.names.lookup x = some .local) (ha : SndE X CL cl a sa) (hs : swapsWith a (some (.Name x p1)) pos.line X.env = pure false) :
    SndS X CL cl (.Assign [.Name x p1] a pos) (sSet i sa) := fun W tk po => by
  refine ps_imp (ps_set hN hi hx (ha W tk) hs hf) fun D σ H h => ?_
  obtain ⟨mu, r, M, hm, hs, p⟩ := h
  refine rE_stm hm hs Stp.refl p fun x v M1 mu1 H1 n1 h1 p1 => ?_
  obtain ⟨t, R2, s2, hv⟩ := n1.rm.box h1 n1.st
  exact p1.here s2 R2 ((n1.rs.ext t).set hv)
theorem stm_setIx {rr : TSet} (ho : SndE X CL cl o so) (hk : SndE X CL cl k sk) (ha : SndE X CL cl a sa) (hps : PSet X rr)
    (key : ∀ mu H M M' n kd vd (p : Addr) kv vv (Q : Hp → Prop), Rm X.K CL mu H M → mu[n]? = some p → Rv X.K mu H kd kv → Rv X.K mu H vd vv → setIx (.hdl n) kd vd M = some M' → (∀ H', Stp mu H mu H' → Rm X.K CL mu H' M' → Q H') → rr (.ref p) kv vv H Q)
    (hs : swapsWithSole [.Subscript o k p1] a pos.line X.env = pure false) (hw : swappedStores [.Subscript o k p1] a X.env = pure none) (h1 : (assignEach [.Subscript o k p1] X.env).map (·.2) = [assign (.Subscript o k p1) X.env])
    (hg : ∀ v, assign (.Subscript o k p1) X.env v = (do
      let ov ← holding [v] (eval o X.env)
      let iv ← holding [v, ov] (eval k X.env)
      standAt p1
      holding [v, ov, iv] (setItem ov iv v)
      release [v, ov, iv] [])) : SndS X CL cl (.Assign [.Subscript o k p1] a pos) (sSetIx so sk sa) := fun W tk po => by
  refine ps_imp (ps_asg (ha W tk) (pg_sub (ho W tk) (hk W tk) hps hg) hs hw h1) fun D σ H h => ?_
  obtain ⟨mu, r, M, hm, hs, p⟩ := h
  refine rE_stm hm hs Stp.refl p fun x v M1 mu1 H1 n1 h1 p1 => ?_
  obtain ⟨t, R2, s2, hv⟩ := n1.rm.box h1 n1.st
  refine rE_stm R2 (n1.rs.ext t) s2 p1 fun y u M3 mu3 H3 n3 h3 p3 => ?_
  refine rE_stm n3.rm n3.rs (s2.trans n3.st R2) p3 fun z w M4 mu4 H4 n4 h4 p4 => ?_
  split at p4
  · rename_i yd zd
    split at p4
    · rename_i M5 e
      have hy : Rv X.K mu4 H4 yd u := Rv.stp n3.rm n4.st h3
      cases yd with
      | hdl n =>
        obtain ⟨q, h5, rfl⟩ := hy
        refine key mu4 H4 M4 M5 n zd _ q w v _ n4.rm h5 h4 ((hv.stp R2 n3.st).stp n3.rm n4.st) e fun H' st R => ?_
        exact p4.here (((s2.trans n3.st R2).trans n4.st n3.rm).trans st n4.rm) R (n4.rs.stp n4.rm st)
      | _ => simp [setIx] at e
    · exact p4.elim
  · exact p4.elim
end
end MI
end
section
set_option Elab.async false
set_option linter.all false
set_option maxRecDepth 100000
set_option maxHeartbeats 4000000
namespace MI
open PySem PySem.Spec PyProof.Rows L2
section
variable {X : Cx} {CL : Str → Option Addr} {cl : Cl} {a b c o k : Expr} {sa sb sc so sk : SE} {ta tb tc : STt} {pos p0 p1 : Pos} {st : Stmt} {rest sts stt : List Stmt} {u v : SS}
/-! ### o[k] = v -/
abbrev rSetAll : TSet := fun o i v H Q => rSetL o i v H Q ∨ ∃ a H', o = .ref a ∧ DPut H a i v H' ∧ Q H'
theorem set_all (hu : X.A.units + 1 < cLine) : PSet X rSetAll := fun pins s σ H o i v ov iv u Q I ro ri rv h => by
  rcases h with h | ⟨a, H', e, g, q⟩
  · exact set_list pins s σ H o i v ov iv u Q I ro ri rv h
  · subst e
    cases ro
    exact d_setItem hu I g ri rv fun s' I' => ⟨H', I', q⟩
theorem setIx_ok {K : PySem.W.Frag} : ∀ mu H M M' n kd vd (p : Addr) kv vv (Q : Hp → Prop), Rm K CL mu H M → mu[n]? = some p → Rv K mu H kd kv → Rv K mu H vd vv → setIx (.hdl n) kd vd M = some M' → (∀ H', Stp mu H mu H' → Rm K CL mu H' M' → Q H') → rSetAll (.ref p) kv vv H Q := by
  intro mu H M M' n kd vd p kv vv Q R hp hk hv e q
  simp only [setIx] at e
  split at e
  · rename_i ds e1
    split at e
    · rename_i i
      split at e
      · rename_i j e2
        cases e
        obtain ⟨vs, h1, h2⟩ := R.ob n p _ hp e1
        have hk' : kv = .int i := hk
        subst hk'
        have st : Stp mu H mu (upd H p (.lst (vs.set j vv))) := Stp.write hp
        have R' := R.write (u := .lst (vs.set j vv)) (o := .lst (ds.set j vd)) hp ⟨_, upd_same, (h2.set j hv).stp R st⟩
        exact .inl ⟨p, vs, i, j, rfl, rfl, h1, by rw [← ixN_eq, ← h2.length]; exact e2, q _ st R'⟩
      · cases e
    · cases e
  · rename_i kvs e1
    split at e
    · rename_i c
      cases e
      obtain ⟨ks, h1, h2⟩ := R.ob n p _ hp e1
      obtain ⟨kk, rfl⟩ := key_of hk c.1
      have st : Stp mu H mu (upd H p (.dK (putK ks kk vv))) := Stp.write hp
      have R' := R.write (u := .dK (putK ks kk vv)) (o := .dic (dput kvs kd vd)) hp ⟨_, upd_same, (Rkv.put hk c.1 hv h2).stp R st⟩
      exact .inr ⟨p, _, rfl, DPut.k (k := kk) h1 (by rw [← h2.length]; exact c.2), q _ st R'⟩
    · cases e
  · cases e

/-! ### targets -/
def gNames : List Nat → TGs
  | [] => gNil
  | i :: is => gCons (gName i) (gNames is)
theorem gNames_ok {K : PySem.W.Frag} {mu : List Addr} {H : Hp} : ∀ (is : List Nat) (ds : List D) (vs : List V) (r r' : Env) (σ : Sg) (Q : Sg → Hp → Prop), setAll is ds r = some r' → Rvs K mu H ds vs → Rst K mu H r σ → (∀ σ', Rst K mu H r' σ' → Q σ' H) → gNames is vs σ H Q
  | [], [], vs, r, r', σ, Q, e, h, hs, q => by
    simp only [setAll, Option.some.injEq] at e
    subst e
    exact ⟨h, q σ hs⟩
  | [], _ :: _, _, _, _, _, _, e, _, _, _ => by simp [setAll] at e
  | _ :: _, [], _, _, _, _, _, e, _, _, _ => by simp [setAll] at e
  | i :: is, d :: ds, vs, r, r', σ, Q, e, h, hs, q => by
    obtain ⟨v, vr, e1, h1, h2⟩ := h
    exact ⟨v, vr, e1, gNames_ok is ds vr _ r' _ Q (by simpa only [setAll] using e) h2 (hs.set h1) q⟩
def gTg (K : PySem.W.Frag) : Tg → TG
  | .nm i => gName i
  | .tp is => gTup K is.length (gNames is)
theorem gTg_ok {K : PySem.W.Frag} {mu : List Addr} {H : Hp} (t : Tg) {d : D} {v : V} {r r' : Env} {σ : Sg} {Q : Sg → Hp → Prop} (e : asg t d r = some r') (h : Rv K mu H d v) (hs : Rst K mu H r σ) (q : ∀ σ', Rst K mu H r' σ' → Q σ' H) : gTg K t v σ H Q := by
  cases t with
  | nm i =>
    simp only [asg, Option.some.injEq] at e
    subst e
    exact q _ (hs.set h)
  | tp is =>
    cases d with
    | tup ds =>
      obtain ⟨a, vs, rfl, h1, h2⟩ := h
      have e' : setAll is ds r = some r' := e
      refine ⟨a, vs, rfl, h1, ?_, gNames_ok is ds vs r r' σ Q e' h2 hs q⟩
      have len : ∀ (is : List Nat) (ds : List D) (r r' : Env), setAll is ds r = some r' → is.length = ds.length := by
        intro is
        induction is with
        | nil => intro ds r r' e; cases ds with
          | nil => rfl
          | cons => simp [setAll] at e
        | cons i is ih => intro ds r r' e; cases ds with
          | nil => simp [setAll] at e
          | cons d ds => simp only [setAll] at e; simp only [List.length_cons, ih _ _ _ e]
      rw [← h2.length, len is ds r r' e']
    | _ => simp [asg] at e
/-- a target is this -/
def SndTg (X : Cx) (e : Expr) (t : Tg) : Prop := PG X e (gTg X.K t)
theorem stm_unp {is : List Nat} (hg : SndTg X b (.tp is)) (ha : SndE X CL cl a sa) (hs : swapsWithSole [b] a pos.line X.env = pure false) (hw : swappedStores [b] a X.env = pure none) (h1 : (assignEach [b] X.env).map (·.2) = [assign b X.env]) :
    SndS X CL cl (.Assign [b] a pos) (sUnp is sa) := fun W tk po => by
  refine ps_imp (ps_asg (ha W tk) hg hs hw h1) fun D σ H h => ?_
  obtain ⟨mu, r, M, hm, hs, p⟩ := h
  refine rE_stm hm hs Stp.refl p fun x v M1 mu1 H1 n1 h1 p1 => ?_
  split at p1
  · rename_i ds
    split at p1
    · rename_i r1 e
      exact gTg_ok (.tp is) (d := .tup ds) e h1 n1.rs fun σ' hs' => p1.here n1.st n1.rm hs'
    · exact p1.elim
  · exact p1.elim

/-! ### for -/
theorem stm_for {tg it : Expr} {t : Tg} {si : SI} (hc : X.calm = true) (hi : SndI X CL cl tg it si) (hg : SndTg X tg t) (hb : SndB X CL cl sts u) (hs : ∀ x, foldedSetIterable it X.env x = pure x) : SndS X CL cl (.For tg it sts [] pos) (sFor t si u) := fun W tk po => by
  refine ps_imp (ps_for po hc (hi W tk) hg (hb W tk po) hs) fun D σ H h => ?_
  obtain ⟨mu, r, M, hm, hs, p⟩ := h
  refine rI_stm hm hs Stp.refl p fun x M1 mu1 H1 J n1 wk p1 => ?_
  obtain ⟨xs, c⟩ := x
  refine ⟨fun i m σ' H' => m = xs.length - i ∧ i ≤ xs.length ∧ ∃ mu' r' M', Rm X.K CL mu' H' M' ∧ Rst X.K mu' H' r' σ' ∧ Stp mu1 H1 mu' H' ∧ PsS X.K CL W mu H (forL (u cl) t c (xs.drop i) r' M') D, ⟨xs.length, by simp, Nat.zero_le _, mu1, r, M1, n1.rm, n1.rs, Stp.refl, p1⟩, ?_⟩
  rintro i m σ' H' ⟨rfl, hi, mu', r', M', R', S', st, p'⟩
  have st0 := n1.st.trans st n1.rm
  by_cases hlt : i < xs.length
  · rw [List.drop_eq_getElem_cons hlt] at p'
    unfold forL at p'
    split at p'
    · rename_i ck
      split at p'
      · rename_i r1 ea
        obtain ⟨g1, g2⟩ := wk.go i xs[i] mu' H' M' (List.getElem?_eq_getElem hlt) st R' ck
        refine .inr ⟨g1, fun σ2 H2 => ∃ m', m' < xs.length - i ∧ (m' = xs.length - (i + 1) ∧ i + 1 ≤ xs.length ∧ ∃ mu' r' M', Rm X.K CL mu' H2 M' ∧ Rst X.K mu' H2 r' σ2 ∧ Stp mu1 H1 mu' H2 ∧ PsS X.K CL W mu H (forL (u cl) t c (xs.drop (i + 1)) r' M') D), fun _ _ z => z, fun y H2 hy => ?_⟩
        obtain ⟨s2, R2, hv⟩ := g2 y H2 hy
        refine gTg_ok t ea hv (S'.stp R' s2) fun σ2 hs2 => ⟨mu', r1, M', R2, hs2, ?_⟩
        cases eb : u cl r1 M' with
        | nx r2 M2 =>
          rw [eb] at p'
          exact fun mu3 H3 σ3 s3 R3 q3 => ⟨xs.length - (i + 1), by omega, rfl, hlt, mu3, r2, M2, R3, q3, (st.trans s2 R').trans s3 R2, p'⟩
        | ret y M2 =>
          rw [eb] at p'
          exact PsS.from (res := .ret y M2) p' (st0.trans s2 R') R2
        | err c M2 =>
          rw [eb] at p'
          exact PsS.from (res := .err c M2 _) p' (st0.trans s2 R') R2
        | bad => rw [eb] at p'; exact p'
      · exact p'.elim
    · exact p'.elim
  · have e : i = xs.length := by omega
    subst e
    rw [List.drop_length] at p'
    unfold forL at p'
    split at p'
    · rename_i ck
      exact .inl ⟨wk.stop mu' H' M' st R' ck, p'.here st0 R' S'⟩
    · exact p'.elim

/-! ### raise, try -/
theorem stm_raise {x m : Str} {j : Nat} {C : Addr} {p p2 pos2 : Pos} (hc : X.calm = true) (q : PySem.W.excIn X.K C [.type "ValueError", .type "Exception", .type "BaseException", .type "object"] "ValueError.__new__" = true) (gC : X.mg x = some (.ref C)) (kC : PySem.W.keepIn X.K (.ref C) = true)
    (h1 : PySem.W.subIn X.K (.ref C) (.type "BaseException") = some true) (h2 : PySem.W.typeIn X.K (.ref C) = some (.type "type")) (hg : Gl X x) (hdb : (x == ("__debug__" : Str)) = false) (hCL : CL x = some C) :
    SndS X CL cl (.Raise (some (.Call (.Name x p) [.Constant (.str m) j p2] [] pos)) none pos2) (sRaise x) := fun W tk po => by
  refine ps_imp (ps_raise hc tk (pmk_own PySem.F.excBase_ValueError q gC kC (raises_own h1 h2) hg hdb)) fun D σ H h => ?_
  obtain ⟨mu, r, M, hm, hs, p⟩ := h
  exact p mu H σ C hCL Stp.refl hm hs
theorem pss_some {A : Type} {t : A → TS} {P : A → Prop} (h : ∀ y, P y → PSs X sts (t y)) : PSs X sts (fun D σ H => ∃ y, P y ∧ t y D σ H) := ⟨fun pins s σ H D I ⟨y, py, q⟩ => (h y py).run pins s σ H D I q⟩
abbrev Wno : WX := fun _ _ _ _ => False
theorem stm_try {i : Nat} {x n : Str} {cv : Value} {b0 : Stmt} {cat : Str → Bool} {su : Str → SS} {np pos' : Pos} (hs : X.stack = X.env :: X.outer) (hf : X.env.frame = some X.env.locals) (hN : X.N.Nodup) (hi : X.N[i]? = some n) (hln : X.env.kindOf n = some .local) (hc : Names X x cv)
    (hcat : ∀ c C, CL c = some C → PySem.W.exmOne X.K (.ref C) cv = some (cat c))
    (hb : ∀ (pn : List (Addr × Obj)) (xe : Value → Shared → Prop), SndB (X.tr pn xe) CL cl sts u)
    (hsu : ∀ (a : Addr) (oe : Obj) (c : Str) (C : Addr) (d : Option Addr) (pn : List (Addr × Obj)), CL c = some C → Zc (.ref C) d oe → (∃ vs, oe.data = .fields vs) → PSs (X.suite a ((a, oe) :: pn)) (b0 :: stt) (rS X.K CL Wno cl (su c))) :
    SndS X CL cl (.Try sts [.ExceptHandler (some (.Name x np)) (some n) (b0 :: stt) pos'] [] [] pos) (sTry (some i) u cat su) := fun W tk po => by
  refine ps_imp (ps_try_as (ts := fun a cls d => fun D σ H => ∃ y : Str, (∃ C, CL y = some C ∧ cls = .ref C) ∧ rS X.K CL Wno cl (su y) D σ H) (tb := fun W' => rS X.K CL W' cl u) hs hf hN hi hln hc tk (fun W' pn xe tk' po' => hb pn xe W' tk' po') fun a oe cls d pn hz hd => pss_some fun y hy => ?_) fun D σ H h => ?_
  · obtain ⟨C, h1, rfl⟩ := hy
    exact hsu a oe y C d pn h1 hz hd
  · obtain ⟨mu, r, M, hm, hs, p⟩ := h
    refine ⟨mu, r, M, hm, hs, ?_⟩
    unfold sTry at p
    cases e : u cl r M with
    | nx r1 M1 => rw [e] at p; exact p
    | ret y M1 => rw [e] at p; exact p
    | bad => rw [e] at p; exact p
    | err c r1 M1 =>
      rw [e] at p
      intro mu' H' σ' C hC st R' S'
      refine ⟨cat c, hcat c C hC, fun hb2 a na => ⟨c, ⟨C, hC, rfl⟩, mu', gone (some i) r1, M1, R', S'.gone i, ?_⟩, fun hb2 => ?_⟩
      · simp only [hb2, if_true] at p
        cases e2 : su c cl (gone (some i) r1) M1 with
        | nx r2 M2 =>
          rw [e2] at p
          exact fun mu3 H3 σ3 s3 R3 q3 => p mu3 H3 _ (st.trans s3 R') R3 (q3.gone i)
        | ret y M2 => rw [e2] at p; exact PsS.from (res := .ret y M2) p st R'
        | err c2 r2 M2 => rw [e2] at p; exact p.elim
        | bad => rw [e2] at p; exact p
      · simp only [hb2, Bool.false_eq_true, if_false] at p
        exact p mu' H' σ' C hC st R' S'
end
end MI
end
section
set_option Elab.async false
set_option linter.all false
set_option maxRecDepth 100000
set_option maxHeartbeats 4000000
namespace MI
open PySem PySem.Spec PyProof.Rows L2
section
variable {K : PySem.W.Frag} {CL : Str → Option Addr} {W : WX} {σ : Sg} {mu mu1 mu0 : List Addr} {H H0 H1 : Hp} {M M1 : Mem} {r : Env} {cl : Cl}
/-! ### a list of our own is written -/
theorem SqT.updL {a Da : Addr} {vs as bs : List V} (hD : H Da = some (.lst as)) (h : SqT K H a vs) : SqT K (upd H Da (.lst bs)) a vs := by
  rcases h with (h | ⟨o, h⟩) | h
  · exact .inl (.inl (by rw [upd_ne (ne_of h hD nofun)]; exact h))
  · exact .inl (.inr ⟨o, by rw [upd_ne (ne_of h hD nofun)]; exact h⟩)
  · exact .inr h
theorem SqF.updL {a Da : Addr} {vs as bs : List V} (hD : H Da = some (.lst as)) (h : SqF K H a vs) : SqF K (upd H Da (.lst bs)) a vs := by
  rcases h with ⟨o, h⟩ | h
  · exact .inl ⟨o, by rw [upd_ne (ne_of h hD nofun)]; exact h⟩
  · exact .inr h
mutual
theorem Rv.updL {Da : Addr} {as bs : List V} (hD : H Da = some (.lst as)) : ∀ {d : D} {v : V}, Rv K mu H d v → Rv K mu (upd H Da (.lst bs)) d v
  | .non, _, h => h
  | .bl _, _, h => h
  | .int _, _, h => h
  | .str _, _, h => h
  | .tup ds, _, ⟨a, vs, e, h, q⟩ => ⟨a, vs, e, SqT.updL hD h, Rvs.updL hD q⟩
  | .hdl n, _, h => h
  | .ro ds, _, ⟨a, vs, e, h, q⟩ => ⟨a, vs, e, SqF.updL hD h, Rvs.updL hD q⟩
theorem Rvs.updL {Da : Addr} {as bs : List V} (hD : H Da = some (.lst as)) : ∀ {ds : List MI.D} {vs : List V}, Rvs K mu H ds vs → Rvs K mu (upd H Da (.lst bs)) ds vs
  | [], _, h => h
  | _ :: _, _, ⟨v, r, e, h, q⟩ => ⟨v, r, e, Rv.updL hD h, Rvs.updL hD q⟩
end
theorem Rkv.updL {Da : Addr} {as bs : List V} (hD : H Da = some (.lst as)) : ∀ {ds : List (MI.D × MI.D)} {vs : List (Key × V)}, Rkv K mu H ds vs → Rkv K mu (upd H Da (.lst bs)) ds vs
  | [], _, h => h
  | _ :: _, _, ⟨k, v, r, e, h, h2, h3, q⟩ => ⟨k, v, r, e, h.updL hD, h2, h3.updL hD, Rkv.updL hD q⟩
theorem Rfs.updL {Da : Addr} {as bs : List V} (hD : H Da = some (.lst as)) : ∀ {ds : List (Str × MI.D)} {vs : List (Str × V)}, Rfs K mu H ds vs → Rfs K mu (upd H Da (.lst bs)) ds vs
  | [], _, h => h
  | _ :: _, _, ⟨v, r, e, h, q⟩ => ⟨v, r, e, h.updL hD, Rfs.updL hD q⟩
theorem Rm.updL {Da : Addr} {as bs : List V} (hD : H Da = some (.lst as)) (R : Rm K CL mu H M) (n : Da ∉ mu) : Rm K CL mu (upd H Da (.lst bs)) M := by
  refine ⟨R.len, R.nd, fun m a o e1 e2 => ?_⟩
  have na : a ≠ Da := fun e => n (e ▸ List.mem_of_getElem? e1)
  have h := R.ob m a o e1 e2
  cases o with
  | lst ds => obtain ⟨vs, e, q⟩ := h; exact ⟨vs, by rw [upd_ne na]; exact e, q.updL hD⟩
  | dic kvs => obtain ⟨vs, e, q⟩ := h; exact ⟨vs, by rw [upd_ne na]; exact e, q.updL hD⟩
  | ins c fs => obtain ⟨C, dx, fs', c', e, q⟩ := h; exact ⟨C, dx, fs', c', by rw [upd_ne na]; exact e, q.updL hD⟩
theorem Stp.updL {Da : Addr} {u : HO} (s : Stp mu1 H1 mu H) (n : H1 Da = none) : Stp mu1 H1 mu (upd H Da u) :=
  ⟨s.pre, s.new, fun a o e na => by rw [upd_ne (ne_of_none e n)]; exact s.keep a o e na⟩
/-! ### the slots that are forgotten -/
theorem wipe_at (σ : Sg) (vs : List Nat) (j : Nat) : (L2.wipe σ vs)[j]? = if j ∈ vs then (σ[j]?).map (fun _ => none) else σ[j]? := by
  induction vs with
  | nil => simp [L2.wipe]
  | cons v vs ih =>
    show ((L2.wipe σ vs).set v none)[j]? = _
    by_cases h : v = j
    · subst h
      simp only [List.mem_cons, true_or, if_true]
      rw [List.getElem?_set]
      simp only [if_true, wipe_length]
      by_cases hl : v < σ.length
      · simp [hl]
      · simp [hl]
    · rw [List.getElem?_set_ne h, ih]
      have : (j ∈ v :: vs) ↔ (j ∈ vs) := by rw [List.mem_cons]; exact ⟨fun z => z.elim (fun e => absurd e.symm h) id, .inr⟩
      simp only [this]
theorem wipe_set {σ : Sg} {vs : List Nat} {i : Nat} {x : Option V} (h : i ∈ vs) : L2.wipe (σ.set i x) vs = L2.wipe σ vs := by
  refine List.ext_getElem? fun j => ?_
  rw [wipe_at, wipe_at]
  by_cases hj : j ∈ vs
  · rw [if_pos hj, if_pos hj, List.getElem?_set]
    by_cases e : i = j
    · subst e
      by_cases hl : i < σ.length
      · simp [hl]
      · simp [hl]
    · rw [if_neg e]
  · rw [if_neg hj, if_neg hj, List.getElem?_set_ne (fun e => hj (by rw [← e]; exact h))]
theorem wipe_wipe (σ : Sg) (vs : List Nat) : L2.wipe (L2.wipe σ vs) vs = L2.wipe σ vs := by
  refine List.ext_getElem? fun j => ?_
  rw [wipe_at, wipe_at]
  by_cases hj : j ∈ vs
  · rw [if_pos hj, if_pos hj]; cases σ[j]? <;> rfl
  · rw [if_neg hj, if_neg hj]
def Tg.ix : Tg → List Nat
  | .nm i => [i]
  | .tp is => is
theorem gNames_wp {vs0 : List Nat} : ∀ (is : List Nat) (ds : List D) (vs : List V) (r r' : Env) (σ : Sg) (Q : Sg → Hp → Prop), (∀ i ∈ is, i ∈ vs0) → setAll is ds r = some r' → Rvs K mu H ds vs → Rst K mu H r σ → (∀ σ', Rst K mu H r' σ' → L2.wipe σ' vs0 = L2.wipe σ vs0 → Q σ' H) → gNames is vs σ H Q
  | [], [], vs, r, r', σ, Q, _, e, h, hs, q => by
    simp only [setAll, Option.some.injEq] at e
    subst e
    exact ⟨h, q σ hs rfl⟩
  | [], _ :: _, _, _, _, _, _, _, e, _, _, _ => by simp [setAll] at e
  | _ :: _, [], _, _, _, _, _, _, e, _, _, _ => by simp [setAll] at e
  | i :: is, d :: ds, vs, r, r', σ, Q, hi, e, h, hs, q => by
    obtain ⟨v, vr, e1, h1, h2⟩ := h
    exact ⟨v, vr, e1, gNames_wp is ds vr _ r' _ Q (fun j hj => hi j (List.mem_cons_of_mem _ hj)) (by simpa only [setAll] using e) h2 (hs.set h1) fun σ' a b => q σ' a (b.trans (wipe_set (hi i List.mem_cons_self)))⟩
theorem gTg_wp {vs0 : List Nat} (t : Tg) {d : D} {v : V} {r r' : Env} {σ : Sg} {Q : Sg → Hp → Prop} (hi : ∀ i ∈ t.ix, i ∈ vs0) (e : asg t d r = some r') (h : Rv K mu H d v) (hs : Rst K mu H r σ) (q : ∀ σ', Rst K mu H r' σ' → L2.wipe σ' vs0 = L2.wipe σ vs0 → Q σ' H) : gTg K t v σ H Q := by
  cases t with
  | nm i =>
    simp only [asg, Option.some.injEq] at e
    subst e
    exact q _ (hs.set h) (wipe_set (hi i List.mem_cons_self))
  | tp is =>
    cases d with
    | tup ds =>
      have hlen : ∀ (is : List Nat) (ds : List D) (r r' : Env), setAll is ds r = some r' → is.length = ds.length := by
        intro is
        induction is with
        | nil => intro ds r r' e; cases ds with
          | nil => rfl
          | cons => simp [setAll] at e
        | cons i is ih => intro ds r r' e; cases ds with
          | nil => simp [setAll] at e
          | cons d ds => simp only [setAll] at e; simp only [List.length_cons, ih _ _ _ e]
      obtain ⟨a, vs, rfl, h1, h2⟩ := h
      have e' : setAll is ds r = some r' := e
      exact ⟨a, vs, rfl, h1, by rw [← h2.length, hlen is ds r r' e'], gNames_wp is ds vs r r' σ Q hi e' h2 hs q⟩
    | _ => simp [asg] at e
end
section
variable {X : Cx} {CL : Str → Option Addr} {cl : Cl} {W : WX}
theorem lc_read {selt : SE} {stst : STt} {t : Tg} {own : List Nat} {si : SI} (hi : ∀ i ∈ t.ix, i ∈ own) {σ : Sg} {H : Hp} {Q : VK} (h : rE X.K CL W cl (eComp selt stst t own si) σ H Q) :
    tLc (rI X.K CL W cl si) (gTg X.K t) (rT X.K CL Wno cl stst) (rE X.K CL Wno cl selt) own σ H Q := by
  obtain ⟨mu, r, M, hm, hs, p⟩ := h
  unfold tLc
  refine ⟨mu, r, M, hm, hs, ?_⟩
  unfold eComp at p
  refine p.bindB.mono fun x M1 mu1 H1 st1 R1 p1 J wk D nD => ?_
  obtain ⟨xs, c⟩ := x
  have S1 : Rst X.K mu1 H1 r σ := hs.stp hm st1
  have dD : D ∉ mu1 := R1.fresh nD
  refine ⟨fun i m H' => m = xs.length - i ∧ i ≤ xs.length ∧ ∃ mu' M' acc av, Rm X.K CL mu' H' M' ∧ Stp mu1 H1 mu' H' ∧ D ∉ mu' ∧ H' D = some (.lst av) ∧ Rvs X.K mu' H' acc av ∧
    Pst X.K CL W σ mu H (compL (selt cl) (stst cl) t c (MI.wipe r own) (xs.drop i) acc M') fun x _ mu' H' => ∀ v, Rr X.K CL mu' H' H x v → Q v H', ⟨xs.length, by simp, Nat.zero_le _, mu1, M1, [], [], R1.laid nD, Stp.laid R1 nD, dD, upd_same, rfl, p1⟩, ?_⟩
  rintro i m H' ⟨rfl, hle, mu', M', acc, av, R', st, nm, hD, ha, p'⟩
  by_cases hlt : i < xs.length
  · rw [List.drop_eq_getElem_cons hlt] at p'
    unfold compL at p'
    split at p'
    · rename_i ck
      split at p'
      · rename_i r1 ea
        obtain ⟨g1, g2⟩ := wk.go i xs[i] mu' H' M' (List.getElem?_eq_getElem hlt) st R' ck
        refine .inr ⟨g1, fun H2 => ∃ m', m' < xs.length - i ∧ (m' = xs.length - (i + 1) ∧ i + 1 ≤ xs.length ∧ ∃ mu' M' acc av, Rm X.K CL mu' H2 M' ∧ Stp mu1 H1 mu' H2 ∧ D ∉ mu' ∧ H2 D = some (.lst av) ∧ Rvs X.K mu' H2 acc av ∧
          Pst X.K CL W σ mu H (compL (selt cl) (stst cl) t c (MI.wipe r own) (xs.drop (i + 1)) acc M') fun x _ mu' H' => ∀ v, Rr X.K CL mu' H' H x v → Q v H'), fun _ z => z, fun y H2 hy => ?_⟩
        obtain ⟨s2, R2, hv⟩ := g2 y H2 hy
        have hD2 : H2 D = some (.lst av) := s2.keep _ _ hD nm
        have ha2 := ha.stp R' s2
        have S2 : Rst X.K mu' H2 (MI.wipe r own) (L2.wipe σ own) := (((S1.stp R1 st).stp R' s2)).wipe own
        refine gTg_wp t hi ea hv S2 fun σ2 S3 hw => ⟨hw.trans (wipe_wipe σ own), ?_⟩
        refine ⟨mu', r1, M', R2, S3, ?_⟩
        cases et : stst cl r1 M' with
        | err c M2 => rw [et] at p'; exact p'.elim
        | bad => rw [et] at p'; exact p'.elim
        | ok b M2 =>
          rw [et] at p'
          intro mu3 H3 s3 R3
          have hD3 : H3 D = some (.lst av) := s3.keep _ _ hD2 nm
          have nm3 : D ∉ mu3 := s3.out hD2 nm
          have ha3 := ha2.stp R2 s3
          have st3 : Stp mu1 H1 mu3 H3 := (st.trans s2 R').trans s3 R2
          cases b with
          | false =>
            simp only [Res.calm, Res.bind, Bool.false_eq_true, if_false] at p' ⊢
            exact ⟨xs.length - (i + 1), by omega, rfl, hlt, mu3, M2, acc, av, R3, st3, nm3, hD3, ha3, p'⟩
          | true =>
            simp only [Res.calm, Res.bind, if_true] at p' ⊢
            refine ⟨mu3, r1, M2, R3, S3.stp R2 s3, ?_⟩
            cases ee : selt cl r1 M2 with
            | err c M4 => rw [ee] at p'; exact p'.elim
            | bad => rw [ee] at p'; exact p'.elim
            | ok y M4 =>
              rw [ee] at p'
              intro mu4 H4 s4 R4 w hw
              have hD4 : H4 D = some (.lst av) := s4.keep _ _ hD3 nm3
              obtain ⟨tt, R5, s5, hb⟩ := R4.box hw s4
              have nm5 : D ∉ mu4 ++ tt := s5.out hD3 nm3
              have ha5 : Rvs X.K (mu4 ++ tt) H4 acc av := ha3.stp R3 s5
              simp only at p'
              split at p'
              · rename_i hl
                refine ⟨av, hD4, by rw [← ha5.length]; exact hl, xs.length - (i + 1), by omega, rfl, hlt, mu4 ++ tt, _, acc ++ [(MI.box y M4).1], av ++ [w], R5.updL hD4 nm5, (st3.trans s5 R3).updL nD, nm5, upd_same, (ha5.append (Rvs.one hb)).updL hD4, p'⟩
              · exact p'.elim
      · exact p'.elim
    · exact p'.elim
  · have e : i = xs.length := by omega
    subst e
    rw [List.drop_length] at p'
    unfold compL at p'
    split at p'
    · rename_i ck
      refine .inl ⟨wk.stop mu' H' M' st R' ck, ?_⟩
      exact p' mu' H' (st1.trans st R1) R' (.ref D) ⟨D, rfl, ⟨av, hD, ha⟩, nm, st1.free R1 nD⟩
    · exact p'.elim
theorem takes_no {X : Cx} : Takes X Wno := fun u s' ⟨_, _, _, _, _, _, _, _, _, _, _, _, _, _, _, _, w⟩ => w.elim
/-- a comprehension's tests -/
def SndTs (X : Cx) (CL : Str → Option Addr) (cl : Cl) (ifs : List Expr) (s : STt) : Prop := PTs X ifs (rT X.K CL Wno cl s)
theorem tsnd_nil : SndTs X CL cl [] MI.tYes := ⟨fun pins s σ H Q I ⟨mu, r, M, hm, hs, p⟩ => (pts_nil (X := X)).run pins s σ H Q I (p.here hm)⟩
theorem tsnd_one {c : Expr} {s : STt} (h : SndT X CL cl c s) : SndTs X CL cl [c] s := pts_one (h Wno takes_no)
variable {elt tg iter : Expr} {ifs : List Expr} {scope : Scope} {own : List (Str × Nat)} {pos spos : Pos} {selt : SE} {stst : STt} {t : Tg} {si : SI}
abbrev Blk (X : Cx) (scope : Scope) (s : Shared) (H : Hp) (C : Addr) (cc : List (Str × Addr)) (fp : List Addr) : Cx := X.blk s H scope (compEnvC scope cc C X.env) fp
theorem snd_comp (hc : X.calm = true) (hN : X.N.Nodup) (hi : SndI X CL cl tg iter si) (ok : BlkOk X.N X.env.scope scope own) (hix : ∀ i ∈ t.ix, i ∈ own.map (·.2))
    (hg : ∀ s H C cc fp, SndTg (Blk X scope s H C cc fp) tg t) (ht : ∀ s H C cc fp, SndTs (Blk X scope s H C cc fp) CL cl ifs stst) (he : ∀ s H C cc fp, SndE (Blk X scope s H C cc fp) CL cl elt selt)
    (hs : ∀ x, foldedSetIterable iter X.env x = pure x) : SndE X CL cl (.ListComp elt [⟨tg, iter, ifs, 0⟩] scope pos) (eComp selt stst t (own.map (·.2)) si) := fun W tk =>
  pe_imp (pe_lc (g := gTg X.K t) (tt := rT X.K CL Wno cl stst) (te := rE X.K CL Wno cl selt) hc hN (hi W tk) ok hg ht (fun s H C cc fp => he s H C cc fp Wno takes_no) hs) fun σ H Q h => lc_read hix h
theorem stm_setComp {i : Nat} {y : Str} {py : Pos} (hc : X.calm = true) (hN : X.N.Nodup) (hy : X.N[i]? = some y) (hyl : X.env.scope.names.lookup y = some .local) (hsw : swapsWith (.ListComp elt [⟨tg, iter, ifs, 0⟩] scope pos) (some (.Name y py)) spos.line X.env = pure true)
    (hi : SndI X CL cl tg iter si) (ok : BlkOk X.N X.env.scope scope own) (hix : ∀ i ∈ t.ix, i ∈ own.map (·.2))
    (hg : ∀ s H C cc fp, SndTg (Blk X scope s H C cc fp) tg t) (ht : ∀ s H C cc fp, SndTs (Blk X scope s H C cc fp) CL cl ifs stst) (he : ∀ s H C cc fp, SndE (Blk X scope s H C cc fp) CL cl elt selt)
    (hs : ∀ x, foldedSetIterable iter X.env x = pure x) : SndS X CL cl (.Assign [.Name y py] (.ListComp elt [⟨tg, iter, ifs, 0⟩] scope pos) spos) (sSet i (eComp selt stst t (own.map (·.2)) si)) := fun W tk po => by
  refine ps_imp (ps_setLc (g := gTg X.K t) (tt := rT X.K CL Wno cl stst) (te := rE X.K CL Wno cl selt) hc hN hy hyl hsw (hi W tk) ok hg ht (fun s H C cc fp => he s H C cc fp Wno takes_no) hs) fun D σ H h => ?_
  obtain ⟨mu, r, M, hm, hs, p⟩ := h
  refine lc_read hix (rE_stm hm hs Stp.refl p fun x v M1 mu1 H1 n1 h1 p1 => ?_)
  obtain ⟨tt, R2, s2, hv⟩ := n1.rm.box h1 n1.st
  exact p1.here s2 R2 ((n1.rs.ext tt).set hv)
end
end MI
end
section
set_option Elab.async false
set_option linter.all false
set_option maxRecDepth 100000
set_option maxHeartbeats 4000000
namespace MI
open PySem PySem.Spec PyProof.Rows L2
section
variable {K : PySem.W.Frag} {CL : Str → Option Addr} {W : WX} {σ : Sg} {mu mu' mu1 mu0 : List Addr} {H H' H0 H1 : Hp} {M M' M1 : Mem} {r : Env} {cl : Cl}
/-! ### back to fewer handles -/
mutual
theorem Rv.bel : ∀ {d : D} {v : V}, Rv K mu H d v → d.bel mu.length = true
  | .non, _, _ | .bl _, _, _ | .int _, _, _ | .str _, _, _ => rfl
  | .tup ds, _, ⟨a, vs, e, h, q⟩ => Rvs.bel q
  | .ro ds, _, ⟨a, vs, e, h, q⟩ => Rvs.bel q
  | .hdl n, _, ⟨a, e, q⟩ => decide_eq_true (List.getElem?_eq_some_iff.mp e).1
theorem Rvs.bel : ∀ {ds : List D} {vs : List V}, Rvs K mu H ds vs → D.bels mu.length ds = true
  | [], _, _ => rfl
  | _ :: _, _, ⟨v, r, e, h, q⟩ => by
    unfold D.bels
    rw [Rv.bel h, Rvs.bel q]; rfl
end
theorem Rkv.bel : ∀ {ds : List (D × D)} {vs : List (Key × V)}, Rkv K mu H ds vs → (ds.all fun kv => kv.1.bel mu.length && kv.2.bel mu.length) = true
  | [], _, _ => rfl
  | _ :: _, _, ⟨k, v, r, e, h, h2, h3, q⟩ => by rw [List.all_cons, h.bel, h3.bel, Rkv.bel q]; rfl
theorem Rfs.bel : ∀ {ds : List (Str × D)} {vs : List (Str × V)}, Rfs K mu H ds vs → (ds.all fun f => f.2.bel mu.length) = true
  | [], _, _ => rfl
  | _ :: _, _, ⟨v, r, e, h, q⟩ => by rw [List.all_cons, h.bel, Rfs.bel q]; rfl
theorem Ro.bel {o : O} {a : Addr} (h : Ro K CL mu H o a) : o.bel mu.length = true := by
  cases o with
  | lst ds => obtain ⟨vs, e, q⟩ := h; exact q.bel
  | dic kvs => obtain ⟨vs, e, q⟩ := h; exact q.bel
  | ins c fs => obtain ⟨C, dx, fs', c', e, q⟩ := h; exact q.bel
mutual
theorem Rv.back {t : List Addr} : ∀ {d : D} {v : V}, Rv K (mu ++ t) H d v → d.bel mu.length = true → Rv K mu H d v
  | .non, _, h, _ => h
  | .bl _, _, h, _ => h
  | .int _, _, h, _ => h
  | .str _, _, h, _ => h
  | .tup ds, _, ⟨a, vs, e, h, q⟩, b => ⟨a, vs, e, h, Rvs.back q b⟩
  | .ro ds, _, ⟨a, vs, e, h, q⟩, b => ⟨a, vs, e, h, Rvs.back q b⟩
  | .hdl n, _, ⟨a, e, q⟩, b => ⟨a, by rw [← e, List.getElem?_append_left (of_decide_eq_true b)], q⟩
theorem Rvs.back {t : List Addr} : ∀ {ds : List D} {vs : List V}, Rvs K (mu ++ t) H ds vs → D.bels mu.length ds = true → Rvs K mu H ds vs
  | [], _, h, _ => h
  | _ :: _, _, ⟨v, r, e, h, q⟩, b => by
    simp only [D.bels, Bool.and_eq_true] at b
    exact ⟨v, r, e, Rv.back h b.1, Rvs.back q b.2⟩
end
theorem Rkv.back {t : List Addr} : ∀ {ds : List (D × D)} {vs : List (Key × V)}, Rkv K (mu ++ t) H ds vs → (ds.all fun kv => kv.1.bel mu.length && kv.2.bel mu.length) = true → Rkv K mu H ds vs
  | [], _, h, _ => h
  | _ :: _, _, ⟨k, v, r, e, h, h2, h3, q⟩, b => by
    simp only [List.all_cons, Bool.and_eq_true] at b
    exact ⟨k, v, r, e, h.back b.1.1, h2, h3.back b.1.2, Rkv.back q (by simpa only [Bool.and_eq_true] using b.2)⟩
theorem Rfs.back {t : List Addr} : ∀ {ds : List (Str × D)} {vs : List (Str × V)}, Rfs K (mu ++ t) H ds vs → (ds.all fun f => f.2.bel mu.length) = true → Rfs K mu H ds vs
  | [], _, h, _ => h
  | _ :: _, _, ⟨v, r, e, h, q⟩, b => by
    simp only [List.all_cons, Bool.and_eq_true] at b
    exact ⟨v, r, e, h.back b.1, Rfs.back q b.2⟩
theorem Ro.back {t : List Addr} {o : O} {a : Addr} (h : Ro K CL (mu ++ t) H o a) (b : o.bel mu.length = true) : Ro K CL mu H o a := by
  cases o with
  | lst ds => obtain ⟨vs, e, q⟩ := h; exact ⟨vs, e, q.back b⟩
  | dic kvs => obtain ⟨vs, e, q⟩ := h; exact ⟨vs, e, q.back b⟩
  | ins c fs => obtain ⟨C, dx, fs', c', e, q⟩ := h; exact ⟨C, dx, fs', c', e, q.back b⟩
theorem Stp.back (s : Stp mu H mu' H') : Stp mu H mu H' := ⟨⟨[], by simp⟩, fun a h => .inl h, s.keep⟩
theorem Rm.back (R : Rm K CL mu H M) (s : Stp mu H mu' H') (R' : Rm K CL mu' H' M') (e : M'.take M.length = M) : Rm K CL mu H' M := by
  refine ⟨R.len, R.nd, fun n a o e1 e2 => ?_⟩
  obtain ⟨t, q⟩ := s.pre
  have hn : n < M.length := (List.getElem?_eq_some_iff.mp e2).1
  have e3 : M'[n]? = some o := by
    rw [← e, List.getElem?_take] at e2
    simpa only [if_pos hn] using e2
  have h := R'.ob n a o (s.get e1) e3
  rw [q] at h
  exact h.back (R.ob n a o e1 e2).bel
/-- what is handed back -/
theorem fin_ok {m : Mode} {x : RV} {k : RV → Mem → List Addr → Hp → Prop} (R : Rm K CL mu H M) (h : Pst K CL W σ mu H (fin m M x M') k) (s : Stp mu H mu' H') (R' : Rm K CL mu' H' M') {v : V} (hv : Rr K CL mu' H' H x v) :
    ∃ y M2 mu2, Stp mu H mu2 H' ∧ Rm K CL mu2 H' M2 ∧ Rr K CL mu2 H' H y v ∧ k y M2 mu2 H' := by
  cases m with
  | keep => exact ⟨x, M', mu', s, R', hv, h mu' H' s R'⟩
  | pure =>
    unfold fin at h
    simp only at h
    split at h
    · rename_i e
      have R2 := R.back s R' e
      have s2 := s.back
      obtain ⟨t, q⟩ := s.pre
      have go : ∀ y : RV, Pst K CL W σ mu H (.ok y M) k → Rr K CL mu H' H y v → ∃ y M2 mu2, Stp mu H mu2 H' ∧ Rm K CL mu2 H' M2 ∧ Rr K CL mu2 H' H y v ∧ k y M2 mu2 H' := fun y hy hr => ⟨y, M, mu, s2, R2, hr, hy mu H' s2 R2⟩
      split at h
      · rename_i n
        split at h
        · rename_i hn
          obtain ⟨a, e1, e2⟩ := hv
          refine go _ h ⟨a, ?_, e2⟩
          rw [q, List.getElem?_append_left (by rw [R.len]; exact hn)] at e1
          exact e1
        · rename_i hn
          split at h
          · rename_i o eo
            split at h
            · rename_i hb
              obtain ⟨a, e1, e2⟩ := hv
              have ho := R'.ob n a o e1 eo
              rw [q] at ho
              have na : a ∉ mu := fun ha => by
                obtain ⟨i, hi, ei⟩ := List.mem_iff_getElem.mp ha
                have e3 : mu'[i]? = some a := by rw [q, List.getElem?_append_left hi, List.getElem?_eq_getElem hi, ei]
                obtain ⟨h1, q1⟩ := List.getElem?_eq_some_iff.mp e1
                obtain ⟨h2, q2⟩ := List.getElem?_eq_some_iff.mp e3
                have : n = i := (List.getElem_inj R'.nd).mp (q1.trans q2.symm)
                rw [this, ← R.len] at hn
                exact hn hi
              refine go _ h ⟨a, e2, ho.back (by rw [R.len]; exact hb), na, ?_⟩
              exact (s.new a (List.mem_of_getElem? e1)).resolve_left na
            · exact h.elim
          · exact h.elim
      · rename_i d _
        split at h
        · rename_i hb
          refine go _ h ?_
          have hv' : Rv K mu' H' d v := hv
          rw [q] at hv'
          exact hv'.back (by rw [R.len]; exact hb)
        · exact h.elim
      · rename_i o
        split at h
        · rename_i hb
          obtain ⟨a, e1, h1, h2, h3⟩ := hv
          rw [q] at h1 h2
          exact go _ h ⟨a, e1, h1.back (by rw [R.len]; exact hb), fun z => h2 (List.mem_append_left _ z), h3⟩
        · exact h.elim
    · exact h.elim
/-- a function's body, run: its end is the promise's -/
theorem body_ok {m : Mode} {res : SR} {Q : VK} {E : XK} (R : Rm K CL mu H M) (h : Pst K CL (fun c d _ H' => E c d H') σ mu H (finS m M res) fun x _ mu' H' => ∀ v, Rr K CL mu' H' H x v → Q v H') :
    PsS K CL (fun c d _ H' => E c d H') mu H res { nx := fun _ H' => Q .non H', rt := Q } := by
  cases res with
  | nx r M' =>
    intro mu' H' σ' s R' _
    obtain ⟨y, M2, mu2, a, b, c, d⟩ := fin_ok R h s R' (x := .d .non) (v := .non) rfl
    exact d _ c
  | ret x M' =>
    intro mu' H' v s R' hv
    obtain ⟨y, M2, mu2, a, b, c, d⟩ := fin_ok R h s R' hv
    exact d _ c
  | err c r M' =>
    intro mu' H' σ' C hC s R' _
    cases m with
    | keep => exact h mu' H' C hC s R'
    | pure =>
      unfold finS at h
      simp only at h
      split at h
      · rename_i e
        exact h mu H' C hC s.back (R.back s R' e)
      · exact h.elim
  | bad => exact h
theorem Rst.start {ds : List D} {vs : List V} {ns : Nat} {N : List Str} (h : Rvs K mu H ds vs) (hN : N.length = ns) : Rst K mu H (ds.map some ++ List.replicate (ns - ds.length) none) (L2.start N vs) := by
  have hl := h.length
  refine ⟨by simp [L2.start, hN, hl], fun i d e => ?_⟩
  by_cases hi : i < ds.length
  · rw [List.getElem?_append_left (by simpa using hi), List.getElem?_map] at e
    obtain ⟨d', e1, e2⟩ := Option.map_eq_some_iff.mp e
    have e3 : d' = d := Option.some.inj e2
    subst e3
    obtain ⟨v, h1, h2⟩ := h.get e1
    refine ⟨v, ?_, h2⟩
    unfold L2.start
    rw [List.getElem?_append_left (by simpa [← hl] using hi), List.getElem?_map, h1]
    rfl
  · rw [List.getElem?_append_right (by simpa using hi)] at e
    obtain ⟨_, e1⟩ := List.getElem?_eq_some_iff.mp e
    simp at e1
end
/-! ### a def keeps its promise -/
section
variable {P : Program} {w : World} {K : PySem.W.Frag} {mg : Str → Option Value} {base : Heap} {CL : Str → Option Addr}
/-- the context in which a def's body stands -/
abbrev CxF (P : Program) (w : World) (K : PySem.W.Frag) (mg : Str → Option Value) (base : Heap) (N : List Str) (qual : Str) (sc : Scope) (f : Addr) (cdv : Value) (A : Around) (outer : List PySem.Env) (s : Shared) (H : Hp) (E : XK) : Cx := cxOf (CX P w) P w K mg base N qual sc f cdv A outer s H E
theorem fn_ok {T : Tab} {n : Nat} {x name qual : Str} {st : Stmt} {F : Fn} {f : Addr} {fd : FuncData} {N ps : List Str} (FF : Fun K name qual st f fd) (S : FnScope N ps (defScope st)) (hT : T.lookup x = some F) (har : F.ar = ps.length) (hns : N.length = F.ns)
    (snd : ∀ (cdv : Value) (A : Around) (outer : List PySem.Env) (s : Shared) (H : Hp) (E : XK), Room n (A.deeper (envOfC qual (defScope st) s.heap.objs.size f cdv)) →
      SndB (CxF P w K mg base N qual (defScope st) f cdv A outer s H E) CL (run T n) (defBody st) F.body) :
    FnOk P w K mg base (CX P w) (n + 1) f fd ps (spOf K CL (run T (n + 1)) x F.ar) := by
  refine FF.okX S (fun vs H Q E h => by rw [← har]; exact h.1) fun cdv A outer s H vs Q E hr hsp => ?_
  obtain ⟨hl, mu, ds, M, R, q, h⟩ := hsp
  refine ⟨rS K CL (fun c d _ H' => E c d H') (run T n) F.body, snd cdv A outer s H E hr _ (takes_of rfl rfl rfl rfl) (passes_of rfl), mu, _, M, R, Rst.start q hns, ?_⟩
  refine body_ok (σ := []) (m := F.mode) R ?_
  have hl2 : ds.length = F.ar := by have := q.length; have hh : vs.length = F.ar := hl; omega
  simp only [run, hT, Fn.run, if_pos hl2] at h
  exact h
end
end MI
end
section
set_option Elab.async false
set_option linter.all false
set_option maxRecDepth 100000
set_option maxHeartbeats 4000000
/-! MId: displays of dicts -/
namespace MI
open PySem PySem.Spec PyProof.Rows L2
section
variable {K : PySem.W.Frag} {CL : Str → Option Addr} {mu mu1 : List Addr} {H H1 : Hp} {M : Mem}
theorem ne_mut {a Da : Addr} {u u0 : HO} (h : H a = some u) (n : isMut u = false) (hD : H Da = some u0) (hm : isMut u0 = true) : a ≠ Da := fun e => by
  subst e; rw [h] at hD; cases hD; rw [n] at hm; cases hm
theorem SqT.updM {a Da : Addr} {vs : List V} {u0 u : HO} (hD : H Da = some u0) (hm : isMut u0 = true) (h : SqT K H a vs) : SqT K (upd H Da u) a vs := by
  rcases h with (h | ⟨o, h⟩) | h
  · exact .inl (.inl (by rw [upd_ne (ne_mut h rfl hD hm)]; exact h))
  · exact .inl (.inr ⟨o, by rw [upd_ne (ne_mut h rfl hD hm)]; exact h⟩)
  · exact .inr h
theorem SqF.updM {a Da : Addr} {vs : List V} {u0 u : HO} (hD : H Da = some u0) (hm : isMut u0 = true) (h : SqF K H a vs) : SqF K (upd H Da u) a vs := by
  rcases h with ⟨o, h⟩ | h
  · exact .inl ⟨o, by rw [upd_ne (ne_mut h rfl hD hm)]; exact h⟩
  · exact .inr h
mutual
theorem Rv.updM {Da : Addr} {u0 u : HO} (hD : H Da = some u0) (hm : isMut u0 = true) : ∀ {d : D} {v : V}, Rv K mu H d v → Rv K mu (upd H Da u) d v
  | .non, _, h => h
  | .bl _, _, h => h
  | .int _, _, h => h
  | .str _, _, h => h
  | .tup ds, _, ⟨a, vs, e, h, q⟩ => ⟨a, vs, e, SqT.updM hD hm h, Rvs.updM hD hm q⟩
  | .hdl n, _, h => h
  | .ro ds, _, ⟨a, vs, e, h, q⟩ => ⟨a, vs, e, SqF.updM hD hm h, Rvs.updM hD hm q⟩
theorem Rvs.updM {Da : Addr} {u0 u : HO} (hD : H Da = some u0) (hm : isMut u0 = true) : ∀ {ds : List MI.D} {vs : List V}, Rvs K mu H ds vs → Rvs K mu (upd H Da u) ds vs
  | [], _, h => h
  | _ :: _, _, ⟨v, r, e, h, q⟩ => ⟨v, r, e, Rv.updM hD hm h, Rvs.updM hD hm q⟩
end
theorem Rkv.updM {Da : Addr} {u0 u : HO} (hD : H Da = some u0) (hm : isMut u0 = true) : ∀ {ds : List (MI.D × MI.D)} {vs : List (Key × V)}, Rkv K mu H ds vs → Rkv K mu (upd H Da u) ds vs
  | [], _, h => h
  | _ :: _, _, ⟨k, v, r, e, h, h2, h3, q⟩ => ⟨k, v, r, e, h.updM hD hm, h2, h3.updM hD hm, Rkv.updM hD hm q⟩
theorem Rfs.updM {Da : Addr} {u0 u : HO} (hD : H Da = some u0) (hm : isMut u0 = true) : ∀ {ds : List (Str × MI.D)} {vs : List (Str × V)}, Rfs K mu H ds vs → Rfs K mu (upd H Da u) ds vs
  | [], _, h => h
  | _ :: _, _, ⟨v, r, e, h, q⟩ => ⟨v, r, e, h.updM hD hm, Rfs.updM hD hm q⟩
theorem Rm.updM {Da : Addr} {u0 u : HO} (hD : H Da = some u0) (hm : isMut u0 = true) (R : Rm K CL mu H M) (n : Da ∉ mu) : Rm K CL mu (upd H Da u) M := by
  refine ⟨R.len, R.nd, fun m a o e1 e2 => ?_⟩
  have na : a ≠ Da := fun e => n (e ▸ List.mem_of_getElem? e1)
  have h := R.ob m a o e1 e2
  cases o with
  | lst ds => obtain ⟨vs, e, q⟩ := h; exact ⟨vs, by rw [upd_ne na]; exact e, q.updM hD hm⟩
  | dic kvs => obtain ⟨vs, e, q⟩ := h; exact ⟨vs, by rw [upd_ne na]; exact e, q.updM hD hm⟩
  | ins c fs => obtain ⟨C, dx, fs', c', e, q⟩ := h; exact ⟨C, dx, fs', c', by rw [upd_ne na]; exact e, q.updM hD hm⟩
end
def flatV2 : List (V × V) → List V
  | [] => []
  | p :: r => p.1 :: p.2 :: flatV2 r
section
variable {X : Cx} {CL : Str → Option Addr} {cl : Cl}
theorem pairUp_ok {K : PySem.W.Frag} {mu : List Addr} {H : Hp} : ∀ (ps : List (V × V)) (ds : List D) (acc kvs : List (D × D)) (acc' : List (Key × V)), Rvs K mu H ds (flatV2 ps) → Rkv K mu H acc acc' → pairUp ds acc = some kvs →
    ∃ kvs' : List (Key × V), ps = kvs'.map (fun kv => (kV kv.1, kv.2)) ∧ Rkv K mu H kvs (mergeK acc' kvs')
  | [], ds, acc, kvs, acc', h, ha, e => by
    cases ds with
    | nil => simp only [pairUp] at e; cases e; exact ⟨[], rfl, ha⟩
    | cons d ds => obtain ⟨v, r, e1, _⟩ := h; simp [flatV2] at e1
  | p :: ps, ds, acc, kvs, acc', h, ha, e => by
    cases ds with
    | nil => have : flatV2 (p :: ps) = [] := h; simp [flatV2] at this
    | cons d ds =>
      obtain ⟨v, r, e1, h1, h2⟩ := h
      cases ds with
      | nil => have h3 : r = [] := h2; subst h3; simp [flatV2] at e1
      | cons d2 ds =>
        obtain ⟨v2, r2, e2, h3, h4⟩ := h2
        subst e2
        simp only [flatV2, List.cons.injEq] at e1
        obtain ⟨q1, q2, q3⟩ := e1
        simp only [pairUp] at e
        split at e
        · rename_i hk
          obtain ⟨kk, hkk⟩ := key_of h1 hk
          subst hkk
          obtain ⟨kvs', z1, z2⟩ := pairUp_ok ps ds _ kvs _ (q3 ▸ h4) (Rkv.put h1 hk h3 ha) e
          refine ⟨(kk, v2) :: kvs', ?_, z2⟩
          rw [List.map_cons, ← z1]
          obtain ⟨p1, p2⟩ := p
          simp only at q1 q2
          rw [q1, q2]
        · cases e
def trsOf (X : Cx) (CL : Str → Option Addr) (cl : Cl) (W : WX) : List (SE × SE) → List (TE × TE)
  | [] => []
  | p :: r => (rE X.K CL W cl p.1, rE X.K CL W cl p.2) :: trsOf X CL cl W r
theorem pairs_go {W : WX} {σ : Sg} {mu0 : List Addr} {H00 : Hp} {A : Type} {k : A → Mem → List Addr → Hp → Prop} : ∀ (ps : List (SE × SE)) (f : List D → Mem → Res A) (mu : List Addr) (H : Hp) (r : Env) (M : Mem) (Q : List (V × V) → Hp → Prop), Rm X.K CL mu H M → Rst X.K mu H r σ → Stp mu0 H00 mu H →
    Pst X.K CL W σ mu0 H00 ((dPairs ps cl r M).bind f) k →
    (∀ ds vs M1 mu1 H1, Nxt X.K CL σ mu H r M1 mu1 H1 → Rvs X.K mu1 H1 ds (flatV2 vs) → Pst X.K CL W σ mu0 H00 (f ds M1) k → Q vs H1) → tPairs (trsOf X CL cl W ps) σ H Q
  | [], f, mu, H, r, M, Q, hm, hs, s0, p, q => q [] [] M mu H ⟨hm, hs, Stp.refl⟩ rfl p
  | pr :: ps, f, mu, H, r, M, Q, hm, hs, s0, p, q => by
    have p' : Pst X.K CL W σ mu0 H00 ((pr.1 cl r M).bind fun x M1 => (pr.2 cl r (box x M1).2).bind fun y M2 => (dPairs ps cl r (box y M2).2).bind fun ds M3 => f ((box x M1).1 :: (box y M2).1 :: ds) M3) k := by
      have e : ((dPairs (pr :: ps) cl r M).bind f) = ((pr.1 cl r M).bind fun x M1 => (pr.2 cl r (box x M1).2).bind fun y M2 => (dPairs ps cl r (box y M2).2).bind fun ds M3 => f ((box x M1).1 :: (box y M2).1 :: ds) M3) := by
        simp only [dPairs, dCons]
        cases pr.1 cl r M with
        | ok x M1 =>
          simp only [Res.bind]
          cases pr.2 cl r (box x M1).2 with
          | ok y M2 =>
            simp only []
            cases dPairs ps cl r (box y M2).2 <;> rfl
          | err => rfl
          | bad => rfl
        | err => rfl
        | bad => rfl
      rw [← e]; exact p
    refine rE_thenB hm hs s0 p' fun x v M1 mu1 H1 n1 h1 p1 => ?_
    obtain ⟨t1, R2, s2, hv⟩ := n1.rm.box h1 n1.st
    refine rE_thenB R2 (n1.rs.ext t1) (s0.trans s2 hm) p1 fun y u M3 mu3 H3 n3 h3 p3 => ?_
    obtain ⟨t2, R4, s4, hu⟩ := n3.rm.box h3 n3.st
    have s5 := s2.trans s4 R2
    refine pairs_go ps _ (mu3 ++ t2) H3 r _ _ R4 (n3.rs.ext t2) (s0.trans s5 hm) p3 fun ds vs M6 mu6 H6 n6 h6 p6 => ?_
    refine q _ ((v, u) :: vs) M6 mu6 H6 ⟨n6.rm, n6.rs, s5.trans n6.st R4⟩ (show Rvs X.K mu6 H6 (_ :: _ :: ds) (v :: u :: flatV2 vs) from ⟨v, _, rfl, (hv.stp R2 s4).stp R4 n6.st, u, _, rfl, hu.stp R4 n6.st, h6⟩) p6
/-- a display's text -/
inductive SndPs (X : Cx) (CL : Str → Option Addr) (cl : Cl) : List (Option Expr) → List Expr → List (SE × SE) → Prop where
  | nil : SndPs X CL cl [] [] []
  | cons {k v : Expr} {sk sv : SE} {ks : List (Option Expr)} {vs : List Expr} {ps : List (SE × SE)} (hk : SndE X CL cl k sk) (hv : SndE X CL cl v sv) (hr : SndPs X CL cl ks vs ps) : SndPs X CL cl (some k :: ks) (v :: vs) ((sk, sv) :: ps)
theorem SndPs.pps {W : WX} (tk : Takes X W) {pos : Pos} {ks : List (Option Expr)} {vs : List Expr} {ps : List (SE × SE)} (h : SndPs X CL cl ks vs ps) : PPs X pos ks vs (trsOf X CL cl W ps) ∧ ks.all (·.isSome) = true ∧ ks.length = vs.length ∧ ks.length = ps.length := by
  induction h with
  | nil => exact ⟨pps_nil, rfl, rfl, rfl⟩
  | cons hk hv hr ih => exact ⟨pps_cons (hk W tk) (hv W tk) ih.1, by rw [List.all_cons, ih.2.1]; rfl, by simp [ih.2.2.1], by simp [ih.2.2.2]⟩
theorem snd_dic {pos : Pos} {ks : List (Option Expr)} {vs : List Expr} {ps : List (SE × SE)} (h : SndPs X CL cl ks vs ps) (h0 : ks ≠ []) (h15 : ks.length ≤ 15) : SndE X CL cl (.Dict ks vs pos) (eDic (dPairs ps)) := fun W tk => by
  obtain ⟨z1, z2, z3, z4⟩ := h.pps tk (pos := pos)
  refine pe_imp (pe_disp z1 z2 z3 h0 h15) fun σ H Q ⟨mu, r, M, hm, hs, p⟩ => fun a na => ?_
  have sa : Stp mu H mu (upd H a (.dK [])) := Stp.laid hm na
  have Ra := hm.laid (u := .dK []) na
  refine pairs_go ps _ mu _ r M _ Ra (hs.stp hm sa) sa p fun ds vs M1 mu1 H1 n1 h1 p1 => ?_
  split at p1
  · rename_i kvs e
    split at p1
    · rename_i hl
      obtain ⟨kvs', q1, q2⟩ := pairUp_ok vs ds [] kvs [] h1 rfl e
      have ha : H1 a = some (.dK []) := n1.st.keep a _ upd_same (hm.fresh na)
      have na1 : a ∉ mu1 := n1.st.out upd_same (hm.fresh na)
      refine ⟨ha, kvs', q1, ?_, ?_⟩
      · have e1 : ds.length = 2 * vs.length := by
          rw [h1.length]
          have : ∀ l : List (V × V), (flatV2 l).length = 2 * l.length := fun l => by
            induction l with
            | nil => rfl
            | cons x l ih => simp only [flatV2, List.length_cons, ih]; omega
          exact this vs
        have : vs.length = kvs'.length := by rw [q1, List.length_map]
        omega
      · have st2 : Stp mu H mu1 (upd H1 a (.dK (mergeK [] kvs'))) := (sa.trans n1.st Ra).updL na
        have R3 : Rm X.K CL mu1 (upd H1 a (.dK (mergeK [] kvs'))) M1 := n1.rm.updM ha rfl na1
        exact p1 mu1 _ st2 R3 (.ref a) ⟨a, rfl, ⟨_, upd_same, q2.updM ha rfl⟩, na1, na⟩
    · exact p1.elim
  · exact p1.elim
end
end MI
end
section
set_option Elab.async false
set_option linter.all false
set_option maxRecDepth 100000
set_option maxHeartbeats 4000000
/-! MIe: more built-ins, methods, slices with a step, ranges -/
namespace MI
open PySem PySem.Spec PyProof.Rows L2
section
variable {K : PySem.W.Frag} {CL : Str → Option Addr} {W : WX} {σ : Sg} {mu mu1 : List Addr} {H H0 H1 : Hp} {M M1 : Mem} {r : Env} {cl : Cl}
theorem maxL_mem : ∀ (l : List Int) (m : Int), maxL m l ∈ m :: l ∧ ∀ y ∈ m :: l, y ≤ maxL m l
  | [], m => ⟨List.mem_cons_self, fun y hy => by simp at hy; simp [maxL, hy]⟩
  | x :: r, m => by
    obtain ⟨h1, h2⟩ := maxL_mem r (if m < x then x else m)
    refine ⟨?_, fun y hy => ?_⟩
    · unfold maxL
      rcases List.mem_cons.mp h1 with e | h1
      · rw [e]; split <;> simp
      · exact List.mem_cons_of_mem _ (List.mem_cons_of_mem _ h1)
    · unfold maxL
      have h3 := h2 _ List.mem_cons_self
      rcases List.mem_cons.mp hy with e | hy
      · subst e; refine Int.le_trans ?_ h3; split <;> omega
      · rcases List.mem_cons.mp hy with e | hy
        · subst e; refine Int.le_trans ?_ h3; split <;> omega
        · exact h2 y (List.mem_cons_of_mem _ hy)
theorem minL_mem : ∀ (l : List Int) (m : Int), minL m l ∈ m :: l ∧ ∀ y ∈ m :: l, minL m l ≤ y
  | [], m => ⟨List.mem_cons_self, fun y hy => by simp at hy; simp [minL, hy]⟩
  | x :: r, m => by
    obtain ⟨h1, h2⟩ := minL_mem r (if x < m then x else m)
    refine ⟨?_, fun y hy => ?_⟩
    · unfold minL
      rcases List.mem_cons.mp h1 with e | h1
      · rw [e]; split <;> simp
      · exact List.mem_cons_of_mem _ (List.mem_cons_of_mem _ h1)
    · unfold minL
      have h3 := h2 _ List.mem_cons_self
      rcases List.mem_cons.mp hy with e | hy
      · subst e; refine Int.le_trans h3 ?_; split <;> omega
      · rcases List.mem_cons.mp hy with e | hy
        · subst e; refine Int.le_trans h3 ?_; split <;> omega
        · exact h2 y (List.mem_cons_of_mem _ hy)
theorem ok1_max1 : Ok1 K CL (rMax K) bMax1 := fun W σ mu H M x v Q R hx p => by
  unfold bMax1 at p
  split at p
  · rename_i ds e
    split at p
    · rename_i n ns e2
      obtain ⟨a, vs, rfl, h1, h2⟩ := lstOf_ok R hx e
      rw [asInts_eq e2] at h2
      have e3 := h2.ints
      subst e3
      refine ⟨a, n :: ns, rfl, h1, by simp, fun m hm hle => ?_⟩
      obtain ⟨z1, z2⟩ := maxL_mem ns n
      have : m = maxL n ns := Int.le_antisymm (z2 m hm) (hle _ z1)
      subst this
      exact end_d R p rfl
    · exact bad_end p
  · exact bad_end p
theorem ok1_min1 : Ok1 K CL (rMin K) bMin1 := fun W σ mu H M x v Q R hx p => by
  unfold bMin1 at p
  split at p
  · rename_i ds e
    split at p
    · rename_i n ns e2
      obtain ⟨a, vs, rfl, h1, h2⟩ := lstOf_ok R hx e
      rw [asInts_eq e2] at h2
      have e3 := h2.ints
      subst e3
      refine ⟨a, n :: ns, rfl, h1, by simp, fun m hm hle => ?_⟩
      obtain ⟨z1, z2⟩ := minL_mem ns n
      have : m = minL n ns := Int.le_antisymm (hle _ z1) (z2 m hm)
      subst this
      exact end_d R p rfl
    · exact bad_end p
  · exact bad_end p
theorem asBls_eq : ∀ {ds : List D} {bs : List Bool}, asBls ds = some bs → ds = bs.map D.bl
  | [], bs, h => by simp only [asBls, Option.some.injEq] at h; subst h; rfl
  | d :: ds, bs, h => by
    cases d with
    | bl b =>
      simp only [asBls, Option.map_eq_some_iff] at h
      obtain ⟨q, e, rfl⟩ := h
      rw [asBls_eq e]; rfl
    | _ => simp [asBls] at h
theorem Rvs.bls : ∀ {ns : List Bool} {vs : List V}, Rvs K mu H (ns.map D.bl) vs → vs = ns.map V.bl
  | [], _, h => h
  | n :: ns, _, ⟨v, r, e, h, t⟩ => by rw [e, show v = V.bl n from h, Rvs.bls t]; rfl
theorem ok1_all : Ok1 K CL (rAll K) bAll := fun W σ mu H M x v Q R hx p => by
  unfold bAll at p
  split at p
  · rename_i ds e
    split at p
    · rename_i bs e2
      obtain ⟨a, vs, rfl, h1, h2⟩ := lstOf_ok R hx e
      rw [asBls_eq e2] at h2
      have e3 := h2.bls
      subst e3
      exact ⟨a, bs, rfl, h1, end_d R p rfl⟩
    · exact bad_end p
  · exact bad_end p
theorem ok1_str : Ok1 K CL (fun xs H Q => ∃ i, xs = [V.int i] ∧ i.natAbs.log2 < 1920 ∧ Q (.str (toString i)) H) bStr := fun W σ mu H M x v Q R hx p => by
  unfold bStr at p
  split at p
  · rename_i i
    split at p
    · rename_i h
      have hv : v = .int i := hx
      subst hv
      exact ⟨i, rfl, h, end_d R p rfl⟩
    · exact bad_end p
  · exact bad_end p
/-! ### slices with a step -/
theorem Rvs.filterMap {ds : List D} {vs : List V} (h : Rvs K mu H ds vs) : ∀ ks : List Nat, Rvs K mu H (ks.filterMap fun k => ds[k]?) (ks.filterMap fun k => vs[k]?)
  | [] => rfl
  | k :: ks => by
    have ih := Rvs.filterMap h ks
    by_cases hk : k < ds.length
    · obtain ⟨v, e1, e2⟩ := h.get (List.getElem?_eq_getElem hk)
      rw [List.filterMap_cons_some (List.getElem?_eq_getElem hk), List.filterMap_cons_some e1]
      exact ⟨v, _, rfl, e2, ih⟩
    · have e1 : ds[k]? = none := List.getElem?_eq_none (by omega)
      have e2 : vs[k]? = none := List.getElem?_eq_none (by rw [← h.length]; omega)
      rw [List.filterMap_cons_none e1, List.filterMap_cons_none e2]
      exact ih
theorem Rvs.reverse : ∀ {ds : List D} {vs : List V}, Rvs K mu H ds vs → Rvs K mu H ds.reverse vs.reverse
  | [], _, h => by rw [show _ = [] from h]; rfl
  | d :: ds, _, ⟨v, r, e, h, q⟩ => by
    rw [e, List.reverse_cons, List.reverse_cons]
    exact (Rvs.reverse q).append (Rvs.one h)
/-- the places of a slice with a step -/
def ixS (n : Nat) (lo hi : Option Int) (k : Nat) : List Nat := (List.range ((MI.sIx n n hi - MI.sIx n 0 lo + (k - 1)) / k)).map fun j => MI.sIx n 0 lo + k * j
theorem pickS_eq (ds : List D) (lo hi : Option Int) (k : Nat) (hk : 0 < k) : pickS (MI.sIx ds.length 0 lo) k (ds.take (MI.sIx ds.length ds.length hi)) = (ixS ds.length lo hi k).filterMap fun j => ds[j]? := by
  have hh : MI.sIx ds.length ds.length hi ≤ ds.length ∨ ds.length < MI.sIx ds.length ds.length hi := by omega
  have hle : ∀ (n : Nat) (o : Option Int), MI.sIx n n o ≤ n := fun n o => by
    cases o with
    | none => exact Nat.le_refl _
    | some v =>
      show (if v < 0 then (v + (n : Int)).toNat else min v.toNat n) ≤ n
      split <;> omega
  have h2 := hle ds.length hi
  unfold pickS ixS
  rw [List.length_take, Nat.min_eq_left h2, List.filterMap_map]
  generalize MI.sIx ds.length ds.length hi = b at *
  generalize MI.sIx ds.length 0 lo = a
  have cg : ∀ (l : List Nat) (f g : Nat → Option D), (∀ j ∈ l, f j = g j) → l.filterMap f = l.filterMap g := fun l f g h => by
    induction l with
    | nil => rfl
    | cons x l ih => rw [List.filterMap_cons, List.filterMap_cons, h x List.mem_cons_self, ih fun j hj => h j (List.mem_cons_of_mem _ hj)]
  refine cg _ _ _ fun j hj => ?_
  have hj := List.mem_range.mp hj
  have : a + k * j < b := by
    have q1 : j * k < (b - a + (k - 1)) := by
      have := (Nat.lt_div_iff_mul_lt hk).mp hj
      omega
    have q2 : k * j = j * k := Nat.mul_comm _ _
    have q3 : (j + 1) * k ≤ b - a + (k - 1) := by
      have := (Nat.le_div_iff_mul_le hk).mp (Nat.succ_le_of_lt hj)
      exact this
    rw [Nat.add_mul, Nat.one_mul] at q3
    omega
  simp only [Function.comp]
  rw [List.getElem?_take, if_pos this]
theorem slice_ixS {items : Array Value} {lo hi : Option Int} {k : Nat} (hk : 0 < k) : slicePick items lo hi (some (k : Int)) = ((ixS items.size lo hi k).filterMap (items[·]?)).toArray := by
  have hc : ∀ (o : Option Int) (d : Nat), d ≤ items.size → (match o with | none => (d : Int) | some i => max 0 (min (if i < 0 then i + (items.size : Int) else i) (items.size : Int)) : Int) = ((MI.sIx items.size d o : Nat) : Int) := fun o d hd => by
    cases o with
    | none => rfl
    | some v =>
      show _ = (((if v < 0 then (v + (items.size : Int)).toNat else min v.toNat items.size : Nat)) : Int)
      simp only
      split <;> omega
  have hpos : ((k : Int) > 0) := by omega
  have e1 : sliceBounds lo hi (some (k : Int)) items.size = (((MI.sIx items.size 0 lo : Nat) : Int), ((MI.sIx items.size items.size hi : Nat) : Int), (k : Int)) := by
    unfold sliceBounds
    simp only [Option.getD_some, hpos, if_true]
    rw [← hc lo 0 (Nat.zero_le _), ← hc hi items.size (Nat.le_refl _)]
    cases lo <;> cases hi <;> rfl
  unfold slicePick
  rw [e1]
  simp only
  congr 1
  unfold sliceRange ixS
  simp only [hpos, if_true]
  generalize MI.sIx items.size items.size hi = b
  generalize MI.sIx items.size 0 lo = a
  have e2 : (if (a : Int) < b then ((b : Int) - a + k - 1) / k else 0).toNat = (b - a + (k - 1)) / k := by
    by_cases h : a < b
    · rw [if_pos (by omega)]
      have : ((b : Int) - a + k - 1) = ((b - a + (k - 1) : Nat) : Int) := by omega
      rw [this, ← Int.natCast_ediv, Int.toNat_natCast]
    · rw [if_neg (by omega)]
      have : b - a + (k - 1) < k := by omega
      rw [Nat.div_eq_of_lt this]; rfl
  rw [e2]
  rfl
end
theorem vals_at : ∀ {xs : List V} {us : List Value}, Vals xs us → ∀ (k : Nat) (h1 : k < xs.length) (h2 : k < us.length), RelV xs[k] us[k]
  | _, _, .cons r _, 0, _, _ => r
  | _, _, .cons _ t, k + 1, h1, h2 => by
    simp only [List.getElem_cons_succ]
    exact vals_at t k _ _
theorem vals_fm {xs : List V} {us : List Value} (h : Vals xs us) : ∀ ks : List Nat, Vals (ks.filterMap fun k => xs[k]?) (ks.filterMap fun k => us[k]?)
  | [] => .nil
  | k :: ks => by
    have ih := vals_fm h ks
    by_cases hk : k < xs.length
    · have hk2 : k < us.length := by rw [← h.length]; exact hk
      have e1 := List.getElem?_eq_getElem hk
      have e2 := List.getElem?_eq_getElem hk2
      rw [List.filterMap_cons_some e1, List.filterMap_cons_some e2]
      exact .cons (vals_at h k hk hk2) ih
    · have e1 : xs[k]? = none := List.getElem?_eq_none (by omega)
      have e2 : us[k]? = none := List.getElem?_eq_none (by rw [← h.length]; omega)
      rw [List.filterMap_cons_none e1, List.filterMap_cons_none e2]
      exact ih
section
variable {X : Cx}
def tStep (K : PySem.W.Frag) (te : TE) (tl th : TO) (k : Nat) : TE := fun σ H Q => te σ H fun x H1 => tl σ H1 fun l H2 => th σ H2 fun u H3 => ∃ a xs, x = .ref a ∧ SqL K H3 a xs ∧ ∀ p, H3 p = none → Q (.ref p) (upd H3 p (.lst ((ixS xs.length l u k).filterMap fun j => xs[j]?)))
theorem pe_step {e : Expr} {lo hi : Option Expr} {te : TE} {tl th : TO} {k : Nat} {ik : Nat} {p2 p3 pos : Pos} (hk : 0 < k) (he : PE X e te) (hl : PO X lo tl) (hh : PO X hi th) : PE X (.Subscript e (.Slice lo hi (some (.Constant (.int k) ik p2)) p3) pos) (tStep X.K te tl th k) := by
  refine ⟨fun pins s σ H Q I h => ?_⟩
  refine Subscript_ (thn (he.run pins s σ H _ I h) fun v s1 ⟨x, H1, I1, r1, q1⟩ => ?_)
  have hst : PO X (some (.Constant (.int k) ik p2)) (tPart (tC (.int k))) := po_some pe_int
  refine wpAny_Slice (thn (hl.run pins s1 σ H1 _ I1 q1) fun vl s2 ⟨l, H2, I2, pl, q2⟩ => thn (hh.run pins s2 σ H2 _ I2 q2) fun vu s3 ⟨u, H3, I3, pu, q3⟩ => ?_)
  refine thn (hst.run pins s3 σ H3 (fun o H4 => o = some (k : Int) ∧ H4 = H3) I3 ⟨k, rfl, rfl, rfl⟩) fun vs s4 ⟨o, H4, I4, ps, eo, e4⟩ => ?_
  subst eo e4
  obtain ⟨a, xs, ex, hx, q⟩ := q3
  subst ex
  cases r1
  have I5 : Inv X pins σ H4 { s4 with heap := s4.heap.push { cls := .type "slice", data := .fields #[vl, vu, vs] } } := I4.kept (t' := s4.toks) fun b ob q => Heap.get?_push_of_some _ q
  obtain ⟨its, r, ht, hz⟩ := I5.list hx
  have hlen := r.length
  show wpAny (model X.prog X.w) X.A (subscriptTail e (.Slice lo hi (some (.Constant (.int k) ik p2)) p3) (.ref a) (.ref s4.heap.objs.size)) (EP X pins σ Q) X.xe { s4 with heap := s4.heap.push { cls := .type "slice", data := .fields #[vl, vu, vs] } }
  refine tail_any (ops := [.ref a, .ref s4.heap.objs.size]) ht.isList.typeIs (PySem.slot_list_getitem.lookup) ?_ (by with_unfolding_all rfl)
  refine wpAny_getItem_list_slice ht.isList (Heap.IsSliceOf.new _ vl vu vs) pl pu ps (by simp; omega) ?_ (by rw [List.size_toArray]; omega)
  rw [slice_ixS hk]
  have e1 : its.toArray.size = xs.length := by rw [List.size_toArray]; exact hlen.symm
  have e2 : (fun j : Nat => its.toArray[j]?) = fun j : Nat => its[j]? := by funext j; simp
  rw [e1, e2]
  refine ⟨.ref _, _, I5.laid (t' := s4.toks) (o := .lst ((ixS xs.length l u k).filterMap fun j => xs[j]?)) (fun b ob q => Heap.get?_push_of_some _ q) (Nat.le_refl _) ?_, rfl, q _ (I5.hok.fresh (Nat.le_refl _))⟩
  refine ⟨?_, _, 0, vals_fm r _, Heap.get?_push_size _ rfl⟩
  refine Nat.le_trans (List.length_filterMap_le _ _) (Nat.le_trans ?_ hz)
  unfold ixS
  rw [List.length_map, List.length_range]
  have hle : MI.sIx xs.length xs.length u ≤ xs.length := by
    cases u with
    | none => exact Nat.le_refl _
    | some v =>
      show (if v < 0 then (v + (xs.length : Int)).toNat else min v.toNat xs.length) ≤ xs.length
      split <;> omega
  generalize MI.sIx xs.length xs.length u = b at *
  generalize MI.sIx xs.length 0 l = a
  refine Nat.le_trans ?_ hle
  have : (b - a + (k - 1)) / k ≤ b - a := by
    rcases Nat.eq_zero_or_pos (b - a) with h0 | h0
    · rw [h0, Nat.div_eq_of_lt (by omega)]; exact Nat.le_refl _
    · refine Nat.le_of_lt_succ ((Nat.div_lt_iff_lt_mul hk).mpr ?_)
      have : (b - a + 1) * k = (b - a) * k + k := by rw [Nat.add_mul, Nat.one_mul]
      have h3 : b - a ≤ (b - a) * k := Nat.le_mul_of_pos_right _ hk
      show b - a + (k - 1) < (b - a + 1) * k
      omega
  omega
end
section
variable {X : Cx} {CL : Str → Option Addr} {cl : Cl} {a b c o : Expr} {rest : List Expr} {es : List Expr} {sa sb sc so : SE} {ta tb tc : STt} {as : SDs} {pos p0 apos cpos : Pos}
theorem snd_step {lo hi : Option Expr} {sl sh : SO} {k ik : Nat} {p2 p3 : Pos} (hk : 0 < k) (ha : SndE X CL cl a sa) (hl : SndO X CL cl lo sl) (hh : SndO X CL cl hi sh) : SndE X CL cl (.Subscript a (.Slice lo hi (some (.Constant (.int k) ik p2)) p3) pos) (eStep sa sl sh k) := fun W tk => by
  refine pe_imp (pe_step hk (ha W tk) (hl W tk) (hh W tk)) fun σ H Q h => ?_
  obtain ⟨mu, r, M, hm, hs, p⟩ := h
  refine rE_then hm hs p fun x v M1 mu1 H1 n1 h1 p1 => ?_
  refine rO_then n1.rm n1.rs p1 fun l M2 mu2 H2 n2 p2 => ?_
  refine rO_then n2.rm n2.rs p2 fun u M3 mu3 H3 n3 p3 => ?_
  have hx : Rw X.K CL mu3 H3 x v := (h1.w.stp n1.rm n2.st).stp n2.rm n3.st
  have p4 : Pst X.K CL W σ mu3 H3 (match lstOf x M3 with
      | some ds => .ok (.o (.lst (pickS (MI.sIx ds.length 0 l) k (ds.take (MI.sIx ds.length ds.length u))))) M3
      | none => .bad) fun z _ mu' H' => ∀ w, Rr X.K CL mu' H' H3 z w → Q w H' :=
    p3.mono fun z M3 mu3 H3 s3 R3 q w hw => q w (hw.base ((n1.st.trans n2.st n1.rm).trans n3.st n2.rm) n3.rm)
  split at p4
  · rename_i ds e
    obtain ⟨q, vs, rfl, h4, h5⟩ := lstOf_ok n3.rm hx e
    refine ⟨q, vs, rfl, h4, ?_⟩
    rw [pickS_eq ds l u k hk] at p4
    have := end_lst n3.rm p4 (h5.filterMap _)
    rwa [h5.length] at this
  · exact bad_end p4
theorem snd_stepI {lo hi : Option Expr} {sl sh : SO} {k : Int} {ik : Nat} {p2 p3 : Pos} (hk : 0 < k) (ha : SndE X CL cl a sa) (hl : SndO X CL cl lo sl) (hh : SndO X CL cl hi sh) : SndE X CL cl (.Subscript a (.Slice lo hi (some (.Constant (.int k) ik p2)) p3) pos) (eStep sa sl sh k.toNat) := by
  have e : k = ((k.toNat : Nat) : Int) := by omega
  have := snd_step (X := X) (CL := CL) (cl := cl) (pos := pos) (k := k.toNat) (ik := ik) (p2 := p2) (p3 := p3) (by omega) ha hl hh
  rwa [← e] at this
theorem snd_rev {k : Nat} {p1 p2 p3 : Pos} (ha : SndE X CL cl a sa) : SndE X CL cl (.Subscript a (.Slice none none (some (.UnaryOp .USub (.Constant (.int 1) k p1) p2)) p3) pos) (eRev sa) := fun W tk => by
  refine pe_imp (pe_revL (ha W tk)) fun σ H Q h => ?_
  obtain ⟨mu, r, M, hm, hs, p⟩ := h
  refine rE_then hm hs p fun x v M1 mu1 H1 n1 h1 p1 => ?_
  split at p1
  · rename_i ds e
    obtain ⟨q, vs, rfl, h4, h5⟩ := lstOf_ok n1.rm h1.w e
    exact ⟨q, vs, rfl, h4, end_lst n1.rm (p1.rb n1) h5.reverse⟩
  · exact bad_end p1
/-! ### methods -/
/-- a receiver that is asked as it stands -/
def okRecv : Expr → Bool
  | .Call (.Name id _) _ _ _ => id != ("super" : Str)
  | _ => true
theorem abase_ok {o : Expr} {m : Str} {env : PySem.Env} (h : okRecv o = true) : attributeBase o m env (eval o env) = eval o env := by
  cases o with
  | Call f args kws pos =>
    cases f with
    | Name id p =>
      cases args with
      | nil =>
        cases kws with
        | nil => exact abase_call h
        | cons => rfl
      | cons => rfl
    | _ => rfl
  | _ => rfl
def OkM0 (K : PySem.W.Frag) (CL : Str → Option Addr) (rr : V → List V → Hp → VK → Prop) (m : Nat → Mem → Res RV) : Prop :=
  ∀ (W : WX) (σ : Sg) mu H M n p (Q : VK), Rm K CL mu H M → mu[n]? = some p → Pst K CL W σ mu H (m n M) (fun z _ mu' H' => ∀ w, Rr K CL mu' H' H z w → Q w H') → rr (.ref p) [] H Q
def OkM2 (K : PySem.W.Frag) (CL : Str → Option Addr) (rr : V → List V → Hp → VK → Prop) (m : Nat → D → D → Mem → Res RV) : Prop :=
  ∀ (W : WX) (σ : Sg) mu H M n p d v e u (Q : VK), Rm K CL mu H M → mu[n]? = some p → Rv K mu H d v → Rv K mu H e u → Pst K CL W σ mu H (m n d e M) (fun z _ mu' H' => ∀ w, Rr K CL mu' H' H z w → Q w H') → rr (.ref p) [v, u] H Q
variable {name : Str} {id : String} {rr : V → List V → Hp → VK → Prop}
theorem snd_m0 {m : Nat → Mem → Res RV} (slot : Slot "list" name id) (hty : typeOf (.builtin id) = pure (.type "method_descriptor")) (hm : MtR X id rr) (k : OkM0 X.K CL rr m) (ho : SndE X CL cl o so)
    (hbase : attributeBase o name X.env (eval o X.env) = eval o X.env) (hline : (apos.endLine == cpos.line) = true) : SndE X CL cl (.Call (.Attribute o name apos) [] [] cpos) (eM0 m so) := fun W tk => by
  refine pe_imp (pe_bm0 PySem.F.plainAttrs_list slot hty hm (ho W tk) hbase hline) fun σ H Q h => ?_
  obtain ⟨mu, r, M, hm, hs, p⟩ := h
  refine rE_then hm hs p fun x v M1 mu1 H1 n1 h1 p1 => ?_
  split at p1
  · rename_i n
    split at p1
    · rename_i e
      obtain ⟨ds, e⟩ := Option.isSome_iff_exists.mp e
      obtain ⟨p', vs, hv, h2, h3⟩ := lstT_ok n1.rm h1.w e
      obtain ⟨q, h4, h5⟩ := h1
      have eq : q = p' := V.ref.inj (h5.symm.trans hv)
      subst eq
      refine ⟨by rw [h5]; exact .inl ⟨rfl, vs, .inl (.inl h2)⟩, ?_⟩
      rw [h5]
      exact k W σ mu1 H1 _ n q Q n1.rm h4 (p1.rb n1)
    · exact bad_end p1
  · exact bad_end p1
theorem snd_n0 {m : Nat → Mem → Res RV} (slot : Slot "list" name id) (hty : typeOf (.builtin id) = pure (.type "method_descriptor")) (hm : MtR X id rr) (k : OkM0 X.K CL rr m) (ho : SndE X CL cl o so)
    (hbase : attributeBase o name X.env (eval o X.env) = eval o X.env) (hline : (apos.endLine == cpos.line) = true) : SndE X CL cl (.Call (.Attribute o name apos) [] [] cpos) (eN0 m so) := fun W tk => by
  refine pe_imp (pe_bm0 PySem.F.plainAttrs_list slot hty hm (ho W tk) hbase hline) fun σ H Q h => ?_
  obtain ⟨mu, r, M, hm, hs, p⟩ := h
  refine rE_thenB hm hs Stp.refl p fun x v M1 mu1 H1 n1 h1 p1 => ?_
  split at p1
  · rename_i ds
    obtain ⟨t, R2, s2, hv⟩ := n1.rm.box h1 n1.st
    obtain ⟨q, h4, h5⟩ := hv
    obtain ⟨p', h6, ⟨vs, h7, h8⟩, _⟩ := h1
    have eq : q = p' := V.ref.inj (h5.symm.trans h6)
    subst eq
    refine ⟨by rw [h5]; exact .inl ⟨rfl, vs, .inl (.inl h7)⟩, ?_⟩
    rw [h5]
    refine k W σ (mu1 ++ t) H1 _ M1.length q Q R2 h4 ?_
    exact (p1.from s2 R2).mono fun _ _ _ _ _ _ z w hw => z w (hw.base s2 R2)
  · exact bad_end p1
theorem snd_n1 {m : Nat → D → Mem → Res RV} (slot : Slot "list" name id) (hty : typeOf (.builtin id) = pure (.type "method_descriptor")) (hm : MtR X id rr) (k : OkM X.K CL rr m) (ho : SndE X CL cl o so) (ha : SndE X CL cl a sa)
    (hbase : attributeBase o name X.env (eval o X.env) = eval o X.env) (hline : (apos.endLine == cpos.line) = true) (hst : starEach [a] X.env = [(false, eval a X.env)]) : SndE X CL cl (.Call (.Attribute o name apos) [a] [] cpos) (eN1 m so sa) := fun W tk => by
  refine pe_imp (pe_bm PySem.F.plainAttrs_list slot hty hm (ho W tk) (pa_cons (ha W tk) pa_nil hst) hbase (by rw [hst]; rfl) hline hst rfl) fun σ H Q h => ?_
  obtain ⟨mu, r, M, hm, hs, p⟩ := h
  refine rE_thenB hm hs Stp.refl p fun x v M1 mu1 H1 n1 h1 p1 => ?_
  split at p1
  · rename_i ds
    obtain ⟨t, R2, s2, hv⟩ := n1.rm.box h1 n1.st
    obtain ⟨q, h4, h5⟩ := hv
    obtain ⟨p', h6, ⟨vs, h7, h8⟩, _⟩ := h1
    have eq : q = p' := V.ref.inj (h5.symm.trans h6)
    subst eq
    refine ⟨by rw [h5]; exact .inl ⟨rfl, vs, .inl (.inl h7)⟩, ?_⟩
    refine rE_thenB R2 (n1.rs.ext t) Stp.refl (p1.from s2 R2) fun y u M2 mu2 H2 n2 h6 p2 => ?_
    obtain ⟨t2, R3, s4, hu⟩ := n2.rm.box h6 n2.st
    rw [h5]
    refine k W σ (mu2 ++ t2) H2 _ M1.length q _ u Q R3 ?_ hu ?_
    · rw [List.getElem?_append_left (List.getElem?_eq_some_iff.mp (n2.st.get h4)).1]; exact n2.st.get h4
    · exact (p2.from s4 R3).mono fun _ _ _ _ _ _ z w hw => z w ((hw.base s4 R3).base s2 R2)
  · exact bad_end p1
theorem snd_m2 {m : Nat → D → D → Mem → Res RV} (slot : Slot "list" name id) (hty : typeOf (.builtin id) = pure (.type "method_descriptor")) (hm : MtR X id rr) (k : OkM2 X.K CL rr m) (ho : SndE X CL cl o so) (ha : SndE X CL cl a sa) (hb : SndE X CL cl b sb)
    (hbase : attributeBase o name X.env (eval o X.env) = eval o X.env) (hline : (apos.endLine == cpos.line) = true) (hst : starEach [a, b] X.env = (false, eval a X.env) :: starEach [b] X.env) (hst2 : starEach [b] X.env = [(false, eval b X.env)]) : SndE X CL cl (.Call (.Attribute o name apos) [a, b] [] cpos) (eM2 m so sa sb) := fun W tk => by
  refine pe_imp (pe_bm PySem.F.plainAttrs_list slot hty hm (ho W tk) (pa_cons (ha W tk) (pa_cons (hb W tk) pa_nil hst2) hst) hbase (by rw [hst, hst2]; rfl) hline hst (by rw [hst2]; rfl)) fun σ H Q h => ?_
  obtain ⟨mu, r, M, hm, hs, p⟩ := h
  refine rE_then hm hs p fun x v M1 mu1 H1 n1 h1 p1 => ?_
  split at p1
  · rename_i n
    split at p1
    · rename_i e
      obtain ⟨ds, e⟩ := Option.isSome_iff_exists.mp e
      obtain ⟨p', vs, hv, h2, h3⟩ := lstT_ok n1.rm h1.w e
      obtain ⟨q, h4, h5⟩ := h1
      have eq : q = p' := V.ref.inj (h5.symm.trans hv)
      subst eq
      refine ⟨by rw [h5]; exact .inl ⟨rfl, vs, .inl (.inl h2)⟩, ?_⟩
      refine rE_thenB n1.rm n1.rs Stp.refl p1 fun y u M2 mu2 H2 n2 h6 p2 => ?_
      obtain ⟨t, R3, s3, hu⟩ := n2.rm.box h6 n2.st
      refine rE_thenB R3 (n2.rs.ext t) s3 p2 fun z w M4 mu4 H4 n4 h7 p4 => ?_
      obtain ⟨t4, R5, s6, hw⟩ := n4.rm.box h7 n4.st
      have s5 := s3.trans s6 R3
      rw [h5]
      have g4 := (s3.trans n4.st R3).get h4
      refine k W σ (mu4 ++ t4) H4 _ n q _ u _ w Q R5 ?_ ((hu.stp R3 n4.st).ext t4) hw ?_
      · rw [List.getElem?_append_left (List.getElem?_eq_some_iff.mp g4).1]; exact g4
      · exact (p4.from s5 R5).mono fun _ _ _ _ _ _ z w hw => z w ((hw.base s5 R5).base n1.st n1.rm)
    · exact bad_end p1
  · exact bad_end p1
theorem okM0_clear {K : PySem.W.Frag} : OkM0 K CL rClear mClear := fun W σ mu H M n p Q R hp h => by
  unfold mClear at h
  split at h
  · rename_i ds e
    obtain ⟨vs, h1, h2⟩ := R.ob n p _ hp e
    have st : Stp mu H mu (upd H p (.lst [])) := Stp.write hp
    have R' := R.write (u := .lst []) (o := .lst []) hp ⟨_, upd_same, rfl⟩
    exact ⟨p, vs, rfl, rfl, h1, h mu _ st R' .non rfl⟩
  · exact bad_end h
theorem okM0_pop {K : PySem.W.Frag} : OkM0 K CL rPop mPop := fun W σ mu H M n p Q R hp h => by
  unfold mPop at h
  split at h
  · rename_i ds e
    split at h
    · rename_i d ed
      obtain ⟨vs, h1, h2⟩ := R.ob n p _ hp e
      have ed' : ds[ds.length - 1]? = some d := by rw [← List.getLast?_eq_getElem?]; exact ed
      obtain ⟨v, h3, h4⟩ := h2.get ed'
      have st : Stp mu H mu (upd H p (.lst vs.dropLast)) := Stp.write hp
      have R' := R.write (u := .lst vs.dropLast) (o := .lst ds.dropLast) hp ⟨_, upd_same, h2.dropLast.stp R st⟩
      exact ⟨p, vs, v, rfl, rfl, h1, by rw [← h2.length]; exact h3, h mu _ st R' v (h4.stp R st)⟩
    · exact bad_end h
  · exact bad_end h
theorem okM2_insert {K : PySem.W.Frag} : OkM2 K CL (fun x vs H Q => ∃ (l : Addr) (xs : List V) (i : Int) (y : V), x = .ref l ∧ vs = [.int i, y] ∧ H l = some (.lst xs) ∧ xs.length < sizeLine ∧ 0 ≤ i ∧ i < 2 ^ 63 ∧
    Q .non (upd H l (.lst (xs.take i.toNat ++ [y] ++ xs.drop i.toNat)))) mInsert := fun W σ mu H M n p d v e u Q R hp hd he h => by
  unfold mInsert at h
  split at h
  · rename_i ds e1
    split at h
    · rename_i i
      split at h
      · rename_i c
        obtain ⟨vs, h1, h2⟩ := R.ob n p _ hp e1
        have hv : v = .int i := hd
        subst hv
        have st : Stp mu H mu (upd H p (.lst (vs.take i.toNat ++ [u] ++ vs.drop i.toNat))) := Stp.write hp
        have R' := R.write (u := .lst (vs.take i.toNat ++ [u] ++ vs.drop i.toNat)) (o := .lst (ds.take i.toNat ++ [e] ++ ds.drop i.toNat)) hp ⟨_, upd_same, (((h2.take _).append (Rvs.one he)).append (h2.drop _)).stp R st⟩
        exact ⟨p, vs, i, u, rfl, rfl, h1, by rw [← h2.length]; exact c.2.2, c.1, by omega, h mu _ st R' .non rfl⟩
      · exact bad_end h
    · exact bad_end h
  · exact bad_end h
/-! ### ranges -/
theorem snd_range2 {tg : Expr} (ha : SndE X CL cl a sa) (hb : SndE X CL cl b sb) (hg : Gl X "range") (hm : X.mg "range" = none) (hst : starEach [a, b] X.env = [(false, eval a X.env), (false, eval b X.env)]) (hst2 : starEach [b] X.env = [(false, eval b X.env)]) : SndI X CL cl tg (.Call (.Name "range" p0) [a, b] [] pos) (iRange2 sa sb) := fun W tk => by
  refine pi_imp (pi_range2 hg hm (pa_cons (ha W tk) (pa_cons (hb W tk) pa_nil hst2) (by rw [hst, hst2])) hst hst2) fun σ H R h => ?_
  obtain ⟨mu, r, M, hm, hs, p⟩ := h
  refine rE_then hm hs p fun x v M1 mu1 H1 n1 h1 p1 => ?_
  refine rE_then n1.rm n1.rs p1 fun y u M2 mu2 H2 n2 h2 p2 => ?_
  split at p2
  · rename_i i j
    split at p2
    · rename_i c
      have hv : v = .int i := h1
      have hu : u = .int j := h2
      subst hv; subst hu
      refine ⟨i, j, rfl, ⟨c.1.1, c.1.2, c.2.1, c.2.2⟩, p2.here n2.rm _ ⟨fun k d mu H M e st R _ => ?_, fun mu H M st R _ => ?_⟩⟩
      · have hi : k < (j - i).toNat := by
          have := (List.getElem?_eq_some_iff.mp e).1
          simpa [rngD] using this
        refine ⟨hi, fun x H' ⟨e1, e2⟩ => ?_⟩
        subst e1
        refine ⟨Stp.refl, R, ?_⟩
        have : d = .int (i + (k : Int)) := by
          unfold rngD at e
          rw [List.getElem?_map, List.getElem?_range hi] at e
          exact (Option.some.inj e).symm
        rw [this, e2]
        rfl
      · show (j - i).toNat ≤ (rngD i (j - i).toNat).length
        simp [rngD]
    · exact bad_end p2
  · exact bad_end p2
theorem rgC_of {i j c : Int} (hi : -(2 ^ 61) ≤ i ∧ i < 2 ^ 61) (hj : -(2 ^ 61) ≤ j ∧ j < 2 ^ 61) (hc : c ≠ 0) (hl : c.natAbs < 1000000) : RgC i j c (rgN i j c) := by
  have hn : 0 ≤ Builtin.Range.rangeSize i j c ∧ Builtin.Range.rangeSize i j c < 2 ^ 63 := by
    unfold Builtin.Range.rangeSize
    split
    · rename_i h
      split
      · have h0 := Int.ediv_nonneg (show 0 ≤ j - i - 1 by omega) (show 0 ≤ c by omega)
        have h1 := Int.ediv_le_self c (show 0 ≤ j - i - 1 by omega)
        omega
      · omega
    · split
      · have h0 := Int.ediv_nonneg (show 0 ≤ i - j - 1 by omega) (show 0 ≤ -c by omega)
        have h1 := Int.ediv_le_self (-c) (show 0 ≤ i - j - 1 by omega)
        omega
      · omega
  refine ⟨hc, by omega, ?_, ?_⟩
  · unfold Builtin.Range.small
    generalize Builtin.Range.rangeSize i j c = n at hn
    simp only [Builtin.Range.rangeFitsLong, Bool.and_eq_true, Bool.or_eq_true, decide_eq_true_eq, beq_iff_eq]
    refine ⟨⟨⟨⟨⟨by omega, by omega⟩, by omega, by omega⟩, by omega, by omega⟩, by omega, by omega⟩, .inr ?_⟩
    split <;> simp only [Bool.and_eq_true, decide_eq_true_eq] <;> omega
  · unfold Builtin.Range.rangeSize rgN
    by_cases h : c > 0
    · simp only [h, if_true, show 0 < c from h]
      by_cases h2 : i < j
      · simp only [h2, if_true]
        have e : j - i + c - 1 = (j - i - 1) + c := by omega
        have e2 := Int.add_ediv_of_dvd_right (a := j - i - 1) (b := c) (c := c) (Int.dvd_refl c)
        rw [e, e2, Int.ediv_self (by omega)]
        have := Int.ediv_nonneg (show 0 ≤ j - i - 1 by omega) (show 0 ≤ c by omega)
        omega
      · simp only [h2, if_false]
        have : (j - i + c - 1) / c ≤ 0 := by
          rcases Int.lt_or_le (j - i + c - 1) 0 with q | q
          · exact Int.le_of_lt (Int.ediv_neg_of_neg_of_pos q h)
          · rw [Int.ediv_eq_zero_of_lt q (by omega)]; exact Int.le_refl _
        omega
    · have h' : ¬ 0 < c := h
      simp only [h, if_false, h']
      by_cases h2 : i > j
      · simp only [h2, if_true]
        have e : i - j - c - 1 = (i - j - 1) + -c := by omega
        have e2 := Int.add_ediv_of_dvd_right (a := i - j - 1) (b := -c) (c := -c) (Int.dvd_refl _)
        rw [e, e2, Int.ediv_self (by omega)]
        have := Int.ediv_nonneg (show 0 ≤ i - j - 1 by omega) (show 0 ≤ -c by omega)
        omega
      · simp only [h2, if_false]
        have : (i - j - c - 1) / (-c) ≤ 0 := by
          rcases Int.lt_or_le (i - j - c - 1) 0 with q | q
          · exact Int.le_of_lt (Int.ediv_neg_of_neg_of_pos q (by omega))
          · rw [Int.ediv_eq_zero_of_lt q (by omega)]; exact Int.le_refl _
        omega
theorem snd_range3 {tg : Expr} (ha : SndE X CL cl a sa) (hb : SndE X CL cl b sb) (hc : SndE X CL cl c sc) (hg : Gl X "range") (hm : X.mg "range" = none) (hst : starEach [a, b, c] X.env = (false, eval a X.env) :: starEach [b, c] X.env) (hst2 : starEach [b, c] X.env = (false, eval b X.env) :: starEach [c] X.env) (hst3 : starEach [c] X.env = [(false, eval c X.env)]) : SndI X CL cl tg (.Call (.Name "range" p0) [a, b, c] [] pos) (iRange3 sa sb sc) := fun W tk => by
  refine pi_imp (pi_range3 hg hm (pa_cons (ha W tk) (pa_cons (hb W tk) (pa_cons (hc W tk) pa_nil hst3) hst2) hst) hst (by rw [hst2, hst3]; rfl)) fun σ H R h => ?_
  obtain ⟨mu, r, M, hm, hs, p⟩ := h
  refine rE_then hm hs p fun x v M1 mu1 H1 n1 h1 p1 => ?_
  refine rE_then n1.rm n1.rs p1 fun y u M2 mu2 H2 n2 h2 p2 => ?_
  refine rE_then n2.rm n2.rs p2 fun z w M3 mu3 H3 n3 h3 p3 => ?_
  split at p3
  · rename_i i j c
    split at p3
    · rename_i cc
      have hv : v = .int i := h1
      have hu : u = .int j := h2
      have hw : w = .int c := h3
      subst hv; subst hu; subst hw
      refine ⟨i, j, c, _, rfl, rgC_of cc.1 cc.2.1 cc.2.2.1 cc.2.2.2, p3.here n3.rm _ ⟨fun k d mu H M e st R _ => ?_, fun mu H M st R _ => ?_⟩⟩
      · have hi : k < rgN i j c := by
          have := (List.getElem?_eq_some_iff.mp e).1
          simpa [rngC] using this
        refine ⟨hi, fun x H' ⟨e1, e2⟩ => ?_⟩
        subst e1
        refine ⟨Stp.refl, R, ?_⟩
        have : d = .int (i + (k : Int) * c) := by
          unfold rngC at e
          rw [List.getElem?_map, List.getElem?_range hi] at e
          exact (Option.some.inj e).symm
        rw [this, e2]
        rfl
      · show rgN i j c ≤ (rngC i c (rgN i j c)).length
        simp [rngC]
    · exact bad_end p3
  · exact bad_end p3
end
end MI
end
section
set_option Elab.async false
set_option linter.all false
set_option maxRecDepth 100000
set_option maxHeartbeats 4000000
/-! MI15: the text, read into the small semantics -/
namespace MI
open PySem PySem.Spec PyProof.Rows L2
/-- what is known of a def's names -/
structure Ct where
  N : List Str
  sc : Scope
  fns : List (Str × Nat)
  bl : List Str
  kon : List (Str × D)
  calm : Bool
  deriving Inhabited
def Ct.lk (c : Ct) (x : Str) : Option NameKind := c.sc.names.lookup x
def Ct.vis (c : Ct) (x : Str) : Bool := match c.lk x with
  | some .local => true
  | some .cell => true
  | some .free => true
  | _ => false
def Ct.gl (c : Ct) (x : Str) : Bool := match c.lk x with
  | some .globalImplicit => true
  | _ => false
def Ct.loc (c : Ct) (x : Str) : Bool := match c.lk x with
  | some .local => true
  | _ => false
def Ct.cel (c : Ct) (x : Str) : Bool := match c.lk x with
  | some .cell => true
  | _ => false
def idx (x : Str) : List Str → Option Nat
  | [] => none
  | y :: r => if y = x then some 0 else match idx x r with
    | some i => some (i + 1)
    | none => none
theorem idx_ok {x : Str} : ∀ {l : List Str} {i : Nat}, idx x l = some i → l[i]? = some x
  | [], i, h => by simp [idx] at h
  | y :: r, i, h => by
    unfold idx at h
    split at h
    · rename_i e; cases h; subst e; rfl
    · split at h
      · rename_i j e; cases h; simpa using idx_ok e
      · cases h
/-- a name that stands for itself -/
def nmOk (x : Str) : Bool := !(x == ("__debug__" : Str)) && (!(x == ("__classdict__" : Str)) && !decide (x = "__name__"))
theorem nmOk_d {x : Str} (h : nmOk x = true) : (x == ("__debug__" : Str)) = false := by
  unfold nmOk at h; simp only [Bool.and_eq_true, Bool.not_eq_true'] at h; exact h.1
theorem nmOk_c {x : Str} (h : nmOk x = true) : (x == ("__classdict__" : Str)) = false := by
  unfold nmOk at h; simp only [Bool.and_eq_true, Bool.not_eq_true'] at h; exact h.2.1
theorem nmOk_n {x : Str} (h : nmOk x = true) : x ≠ "__name__" := by
  unfold nmOk at h; simp only [Bool.and_eq_true, Bool.not_eq_true', decide_eq_false_iff_not] at h; exact h.2.2
def Ct.bi (c : Ct) (x : Str) : Bool := c.gl x && (decide (x ∈ c.bl) && nmOk x)
/-- what stands around -/
structure Good (X : Cx) (CL : Str → Option Addr) (cl : Cl) (k : Nat) (c : Ct) : Prop where
  N : X.N = c.N
  nd : c.N.Nodup
  vis : ∀ x, c.vis x = true → Vis X.env.scope x
  gl : ∀ x, c.gl x = true → Gl X x
  loc : ∀ x, c.loc x = true → X.env.scope.names.lookup x = some .local
  cel : ∀ x, c.cel x = true → X.env.scope.names.lookup x = some .cell ∧ X.fn x = true
  cf : ∀ x, (c.lk x = some .cell ∨ c.lk x = some .free) → X.env.scope.names.lookup x = some .cell ∨ X.env.scope.names.lookup x = some .free
  knd : X.env.scope.kind = .function
  bl : ∀ x, x ∈ c.bl → X.mg x = none
  kon : ∀ x d, c.kon.lookup x = some d → ∃ u v, X.mg x = some u ∧ RelV v u ∧ ∀ mu H, Rv X.K mu H d v
  fns : ∀ x ar, c.fns.lookup x = some ar → FnG X CL cl k x ar
  un : X.A.units + 64 < cLine
  calm : c.calm = true → X.calm = true ∧ Room k X.A

/-! ### shapes of the text -/
def notStar : Expr → Bool
  | .Starred _ _ => false
  | _ => true
def notComp : Expr → Bool
  | .ListComp _ _ _ _ => false
  | .SetComp _ _ _ _ => false
  | .DictComp _ _ _ _ _ => false
  | _ => true
def notSlice : Expr → Bool
  | .Slice _ _ _ _ => false
  | _ => true
def notSet : Expr → Bool
  | .Set _ _ _ => false
  | _ => true
/-- a test that is asked for its truth -/
def plainT : Expr → Bool
  | .UnaryOp .Not _ _ => false
  | .BoolOp _ _ _ => false
  | .IfExp _ _ _ _ => false
  | .Compare _ _ _ _ => false
  | _ => true
def notCall : Expr → Bool
  | .Call _ _ _ _ => false
  | _ => true
theorem star1 {a : Expr} {es : List Expr} {env : PySem.Env} (h : notStar a = true) : starEach (a :: es) env = (false, eval a env) :: starEach es env := by
  cases a <;> first | rfl | cases h
theorem starAll {env : PySem.Env} {pos : Pos} : ∀ {es : List Expr}, es.all notStar = true → (backTo pos (starEach es env)).any (·.1) = false
  | [], _ => rfl
  | a :: es, h => by
    rw [List.all_cons, Bool.and_eq_true] at h
    rw [star1 h.1]
    have := starAll (env := env) (pos := pos) h.2
    simp only [backTo, List.map_cons, List.any_cons, Bool.false_or] at this ⊢
    exact this
theorem swaps0 {a : Expr} {t : Option Expr} {l : Nat} {env : PySem.Env} (h : notComp a = true) : swapsWith a t l env = pure false := by
  cases a <;> first | rfl | cases h
theorem plainIx_b {b : Expr} (h : notSlice b = true) : PlainIx b := plainIx_of fun l u q p e => by subst e; cases h
theorem mark0 {op : CmpOp} {b : Expr} (h : notSet b = true) : behindInMarks op b = false := by
  cases b <;> first | rfl | cases h
theorem fold0 {b : Expr} {env : PySem.Env} (h : notSet b = true) : ∀ x, foldedSetIterable b env x = pure x := fun x => by
  cases b <;> first | rfl | cases h
theorem plainT_ok {a : Expr} {env : PySem.Env} (h : plainT a = true) : ∀ whole, isTrue a env whole = (do let v ← whole; standAt a.pos; holding [v] (truthy v)) := fun whole => by
  cases a with
  | UnaryOp op x p => cases op <;> first | (simp only [isTrue]; done) | rfl | cases h
  | _ => first | rfl | (simp only [isTrue]; done) | cases h
theorem attr0 {o : Expr} {m : Str} {env : PySem.Env} (h : notCall o = true) : attributeBase o m env (eval o env) = eval o env := by
  cases o <;> first | rfl | cases h

/-! ### operators -/
def opB : Operator → Option Op2
  | .Add => some oAdd
  | .Sub => some oSub
  | .Mult => some oMul
  | .FloorDiv => some oDiv
  | .Mod => some oMod
  | .Pow => some oPow
  | _ => none
def opC : CmpOp → Option Op2
  | .Eq => some oEq
  | .NotEq => some oNe
  | .Lt => some oLt
  | .LtE => some oLe
  | .Gt => some oGt
  | .GtE => some oGe
  | .Is => some oIs
  | .IsNot => some oIsNot
  | .In => some oIn
  | .NotIn => some oNotIn
theorem opB_ok {X : Cx} {CL : Str → Option Addr} {op : Operator} {o : Op2} (h : opB op = some o) : ∃ rr, OpR X (binaryOp op) rr ∧ Ok2 X.K CL rr o := by
  cases op <;> simp only [opB] at h <;> cases h
  · exact ⟨_, op_addAll, ok2_add⟩
  · exact ⟨_, op_sub, ok2_sub⟩
  · exact ⟨_, op_mul, ok2_mul⟩
  · exact ⟨_, op_mod, ok2_mod⟩
  · exact ⟨_, op_pow, ok2_pow⟩
  · exact ⟨_, op_fdiv, ok2_div⟩
theorem opC_ok {X : Cx} {CL : Str → Option Addr} {op : CmpOp} {o : Op2} (hu : X.A.units + 64 < cLine) (h : opC op = some o) : ∃ rr, OpR X (compareOp op) rr ∧ Ok2 X.K CL rr o := by
  have h1 : X.A.units + 1 < cLine := by omega
  cases op <;> simp only [opC] at h <;> cases h
  · exact ⟨_, op_eqD hu, ok2_eq⟩
  · exact ⟨_, op_neD hu, ok2_ne⟩
  · exact ⟨_, op_lt, ok2_lt⟩
  · exact ⟨_, op_le, ok2_le⟩
  · exact ⟨_, op_gt, ok2_gt⟩
  · exact ⟨_, op_ge, ok2_ge⟩
  · exact ⟨_, op_isAll, ok2_is⟩
  · exact ⟨_, op_isNotAll, ok2_isNot⟩
  · exact ⟨_, op_inAll h1, ok2_in⟩
  · exact ⟨_, op_notInAll h1, ok2_notIn⟩
/-- built-ins of one argument -/
def bi1 (x : Str) : Option Op1 :=
  if x = "len" then some bLen else if x = "list" then some bList else if x = "tuple" then some bTuple else if x = "int" then some bInt
  else if x = "abs" then some bAbs else if x = "sorted" then some bSorted else if x = "max" then some bMax1 else if x = "min" then some bMin1
  else if x = "all" then some bAll else if x = "str" then some bStr else none
def bi2 (x : Str) : Option Op2 := if x = "min" then some bMin2 else if x = "max" then some bMax2 else none
def tyOf (x : Str) : Option Ty :=
  if x = "tuple" then some .tuple else if x = "bool" then some .bool else if x = "int" then some .int else if x = "list" then some .list
  else if x = "str" then some .str else if x = "dict" then some .dict else none
theorem tyOf_ok {x : Str} {t : Ty} (h : tyOf x = some t) : bootBuiltins x = some (.type t.nm) := by
  unfold tyOf at h
  repeat' split at h
  all_goals first | (cases h; done) | (rename_i e; cases h; subst e; decide +kernel)
def mt1 (m : Str) : Option (Nat → D → Mem → Res RV) := if m = "append" then some mAppend else if m = "pop" then some mPopAt else none
theorem snd_bi1 {X : Cx} {CL : Str → Option Addr} {cl : Cl} {a : Expr} {sa : SE} {x : Str} {o : Op1} {p0 pos : Pos} (hc : X.calm = true) (h : bi1 x = some o) (ha : SndE X CL cl a sa) (hg : Gl X x) (hm : X.mg x = none) (hn : x ≠ "__name__") (hdb : (x == ("__debug__" : Str)) = false)
    (hst : starEach [a] X.env = [(false, eval a X.env)]) : SndE X CL cl (.Call (.Name x p0) [a] [] pos) (e1 o sa) := by
  unfold bi1 at h
  split at h
  · rename_i e; cases h; subst e; exact snd_b1 call_len ok1_len ha hg hm (by decide +kernel) hn hdb hst
  split at h
  · rename_i e; cases h; subst e; exact snd_t1 call_list_of ok1_list ha hg hm (by decide +kernel) hn hdb hst
  split at h
  · rename_i e; cases h; subst e; exact snd_t1 call_tuple_of ok1_tuple ha hg hm (by decide +kernel) hn hdb hst
  split at h
  · rename_i e; cases h; subst e; exact snd_t1 call_int1 ok1_int ha hg hm (by decide +kernel) hn hdb hst
  split at h
  · rename_i e; cases h; subst e; exact snd_b1 call_abs ok1_abs ha hg hm (by decide +kernel) hn hdb hst
  split at h
  · rename_i e; cases h; subst e; exact snd_b1 (call_sortedAll hc) ok1_sorted ha hg hm (by decide +kernel) hn hdb hst
  split at h
  · rename_i e; cases h; subst e; exact snd_b1 (cr_max hc) ok1_max1 ha hg hm (by decide +kernel) hn hdb hst
  split at h
  · rename_i e; cases h; subst e; exact snd_b1 (cr_min hc) ok1_min1 ha hg hm (by decide +kernel) hn hdb hst
  split at h
  · rename_i e; cases h; subst e; exact snd_b1 (cr_all hc) ok1_all ha hg hm (by decide +kernel) hn hdb hst
  split at h
  · rename_i e; cases h; subst e; exact snd_t1 (rr := fun xs H Q => ∃ i, xs = [V.int i] ∧ i.natAbs.log2 < 1920 ∧ Q (.str (toString i)) H) call_str_int ok1_str ha hg hm (by decide +kernel) hn hdb hst
  · cases h
theorem snd_bi2 {X : Cx} {CL : Str → Option Addr} {cl : Cl} {a b : Expr} {sa sb : SE} {x : Str} {o : Op2} {p0 pos : Pos} (hc : X.calm = true) (h : bi2 x = some o) (ha : SndE X CL cl a sa) (hb : SndE X CL cl b sb) (hg : Gl X x) (hm : X.mg x = none) (hn : x ≠ "__name__") (hdb : (x == ("__debug__" : Str)) = false)
    (hst : starEach [a, b] X.env = (false, eval a X.env) :: starEach [b] X.env) (hst2 : starEach [b] X.env = [(false, eval b X.env)]) : SndE X CL cl (.Call (.Name x p0) [a, b] [] pos) (e2 o sa sb) := by
  unfold bi2 at h
  split at h
  · rename_i e; cases h; subst e; exact snd_b2 (rr := fun xs H Q => ∃ i j, xs = [V.int i, .int j] ∧ Q (.int (if j < i then j else i)) H) (call_min2 hc) ok2_min ha hb hg hm (by decide +kernel) hn hdb hst hst2
  split at h
  · rename_i e; cases h; subst e; exact snd_b2 (rr := fun xs H Q => ∃ i j, xs = [V.int i, .int j] ∧ Q (.int (if j > i then j else i)) H) (call_max2 hc) ok2_max ha hb hg hm (by decide +kernel) hn hdb hst hst2
  · cases h
theorem snd_mt1 {X : Cx} {CL : Str → Option Addr} {cl : Cl} {a o : Expr} {sa so : SE} {m : Str} {mm : Nat → D → Mem → Res RV} {apos cpos : Pos} (h : mt1 m = some mm) (ho : SndE X CL cl o so) (ha : SndE X CL cl a sa)
    (hbase : attributeBase o m X.env (eval o X.env) = eval o X.env) (hline : (apos.endLine == cpos.line) = true) (hst : starEach [a] X.env = [(false, eval a X.env)]) : SndE X CL cl (.Call (.Attribute o m apos) [a] [] cpos) (eM1 mm so sa) := by
  unfold mt1 at h
  split at h
  · rename_i e; cases h; subst e
    exact snd_m1 PySem.F.slot_list_append PySem.F.type_list_append mt_append okM_append ho ha hbase hline hst
  split at h
  · rename_i e; cases h; subst e
    exact snd_m1 PySem.F.slot_list_pop PySem.F.type_list_pop mt_popAt okM_popAt ho ha hbase hline hst
  · cases h
def mt0 (m : Str) : Option (Nat → Mem → Res RV) := if m = "clear" then some mClear else if m = "pop" then some mPop else none
def mt2 (m : Str) : Option (Nat → D → D → Mem → Res RV) := if m = "insert" then some mInsert else none
section
variable {X : Cx} {CL : Str → Option Addr} {cl : Cl} {a b o : Expr} {sa sb so : SE} {m : Str} {apos cpos : Pos}
theorem snd_mt0 {mm : Nat → Mem → Res RV} (h : mt0 m = some mm) (ho : SndE X CL cl o so)
    (hbase : attributeBase o m X.env (eval o X.env) = eval o X.env) (hline : (apos.endLine == cpos.line) = true) : SndE X CL cl (.Call (.Attribute o m apos) [] [] cpos) (eM0 mm so) := by
  unfold mt0 at h
  split at h
  · rename_i e; cases h; subst e
    exact snd_m0 PySem.F.slot_list_clear PySem.F.type_list_clear mt_clear okM0_clear ho hbase hline
  split at h
  · rename_i e; cases h; subst e
    exact snd_m0 PySem.F.slot_list_pop PySem.F.type_list_pop mt_pop okM0_pop ho hbase hline
  · cases h
theorem snd_nt0 {mm : Nat → Mem → Res RV} (h : mt0 m = some mm) (ho : SndE X CL cl o so)
    (hbase : attributeBase o m X.env (eval o X.env) = eval o X.env) (hline : (apos.endLine == cpos.line) = true) : SndE X CL cl (.Call (.Attribute o m apos) [] [] cpos) (eN0 mm so) := by
  unfold mt0 at h
  split at h
  · rename_i e; cases h; subst e
    exact snd_n0 PySem.F.slot_list_clear PySem.F.type_list_clear mt_clear okM0_clear ho hbase hline
  split at h
  · rename_i e; cases h; subst e
    exact snd_n0 PySem.F.slot_list_pop PySem.F.type_list_pop mt_pop okM0_pop ho hbase hline
  · cases h
theorem snd_nt1 {mm : Nat → D → Mem → Res RV} (h : mt1 m = some mm) (ho : SndE X CL cl o so) (ha : SndE X CL cl a sa)
    (hbase : attributeBase o m X.env (eval o X.env) = eval o X.env) (hline : (apos.endLine == cpos.line) = true) (hst : starEach [a] X.env = [(false, eval a X.env)]) : SndE X CL cl (.Call (.Attribute o m apos) [a] [] cpos) (eN1 mm so sa) := by
  unfold mt1 at h
  split at h
  · rename_i e; cases h; subst e
    exact snd_n1 PySem.F.slot_list_append PySem.F.type_list_append mt_append okM_append ho ha hbase hline hst
  split at h
  · rename_i e; cases h; subst e
    exact snd_n1 PySem.F.slot_list_pop PySem.F.type_list_pop mt_popAt okM_popAt ho ha hbase hline hst
  · cases h
theorem snd_mt2 {mm : Nat → D → D → Mem → Res RV} (h : mt2 m = some mm) (ho : SndE X CL cl o so) (ha : SndE X CL cl a sa) (hb : SndE X CL cl b sb)
    (hbase : attributeBase o m X.env (eval o X.env) = eval o X.env) (hline : (apos.endLine == cpos.line) = true) (hst : starEach [a, b] X.env = (false, eval a X.env) :: starEach [b] X.env) (hst2 : starEach [b] X.env = [(false, eval b X.env)]) : SndE X CL cl (.Call (.Attribute o m apos) [a, b] [] cpos) (eM2 mm so sa sb) := by
  unfold mt2 at h
  split at h
  · rename_i e; cases h; subst e
    exact snd_m2 PySem.F.slot_list_insert PySem.F.type_list_insert mt_insert okM2_insert ho ha hb hbase hline hst hst2
  · cases h
end
end MI
end
section
set_option Elab.async false
set_option linter.all false
set_option maxRecDepth 100000
set_option maxHeartbeats 4000000
/-! MI16: expressions of the text -/
namespace MI
open PySem PySem.Spec PyProof.Rows L2
structure Cmp where
  e : Ct → Expr → Option SE
  t : Ct → Expr → Option STt
def dsOf (f : Expr → Option SE) : List Expr → Option SDs
  | [] => some dNil
  | a :: r => if notStar a = true then match f a, dsOf f r with
      | some sa, some as => some (dCons sa as)
      | _, _ => none
    else none
def psOf (f : Expr → Option SE) : List (Option Expr) → List Expr → Option (List (SE × SE))
  | [], [] => some []
  | some k :: ks, v :: vs => match f k, f v, psOf f ks vs with
    | some sk, some sv, some ps => some ((sk, sv) :: ps)
    | _, _, _ => none
  | _, _ => none
def boE (f : Expr → Option SE) (op : BoolOp) : List Expr → Option SE
  | [] => none
  | [a] => f a
  | a :: b :: r => match f a, boE f op (b :: r) with
    | some sa, some sr => match op with
      | .And => some (eAnd sa sr)
      | .Or => some (eOr sa sr)
    | _, _ => none
def boT (f : Expr → Option STt) (op : BoolOp) : List Expr → Option STt
  | [] => none
  | [a] => f a
  | a :: b :: r => match f a, boT f op (b :: r) with
    | some sa, some sr => match op with
      | .And => some (MI.tAnd sa sr)
      | .Or => some (MI.tOr sa sr)
    | _, _ => none
/-- a name that may be stored -/
def Ct.st (c : Ct) (x : Str) : Bool := c.loc x || c.cel x
def tgNames (c : Ct) : List Expr → Option (List Nat)
  | [] => some []
  | .Name x _ :: r => if c.st x = true then match idx x c.N, tgNames c r with
      | some i, some is => some (i :: is)
      | _, _ => none
    else none
  | _ => none
def tgOf (c : Ct) : Expr → Option Tg
  | .Name x _ => if c.st x = true then match idx x c.N with
      | some i => some (.nm i)
      | none => none
    else none
  | .Tuple es _ _ => match tgNames c es with
    | some is => some (.tp is)
    | none => none
  | _ => none
def ownGo (names : List (Str × NameKind)) : Nat → List Str → List (Str × Nat)
  | _, [] => []
  | i, y :: r => match names.lookup y with
    | some .local => (y, i) :: ownGo names (i + 1) r
    | some .cell => (y, i) :: ownGo names (i + 1) r
    | _ => ownGo names (i + 1) r
def ownOf (N : List Str) (names : List (Str × NameKind)) : List (Str × Nat) := ownGo names 0 N
def isRange (c : Ct) : Expr → Option (List Expr)
  | .Call (.Name x _) as [] _ => if x = "range" ∧ c.bi "range" = true ∧ as.all notStar = true then some as else none
  | _ => none
def rgOf (r : Cmp) (c : Ct) : List Expr → Option SI
  | [a] => match r.e c a with
    | some sa => some (iRange1 sa)
    | none => none
  | [a, b] => match r.e c a, r.e c b with
    | some sa, some sb => some (iRange2 sa sb)
    | _, _ => none
  | [a, b, d] => match r.e c a, r.e c b, r.e c d with
    | some sa, some sb, some sd => some (iRange3 sa sb sd)
    | _, _, _ => none
  | _ => none
def itOf (r : Cmp) (c : Ct) (e : Expr) : Option SI := match isRange c e with
  | some as => rgOf r c as
  | none => match r.e c e with
    | some sa => some (iSeq sa)
    | none => none
def Ct.blk (c : Ct) (scope : Scope) : Ct := { c with sc := scope }
def tstOf (r : Cmp) (c : Ct) : List Expr → Option STt
  | [] => some MI.tYes
  | [a] => r.t c a
  | _ => none
def cmpComp (r : Cmp) (c : Ct) (elt tg iter : Expr) (ifs : List Expr) (scope : Scope) : Option SE :=
  if c.calm = true ∧ blkC c.N c.sc scope (ownOf c.N scope.names) = true ∧ notSet iter = true then
    match itOf r c iter, tgOf (c.blk scope) tg, tstOf r (c.blk scope) ifs, r.e (c.blk scope) elt with
    | some si, some t, some st, some se => if t.ix.all (fun i => decide (i ∈ (ownOf c.N scope.names).map (·.2))) = true then some (eComp se st t ((ownOf c.N scope.names).map (·.2)) si) else none
    | _, _, _, _ => none
  else none
def cmpName (c : Ct) (x : Str) : Option SE :=
  if nmOk x = true then
    if c.vis x = true then match idx x c.N with
      | some i => some (eVar i)
      | none => none
    else if c.gl x = true then match c.kon.lookup x with
      | some d => some (eC d)
      | none => none
    else none
  else none
/-- sorted(set(a)) -/
def isSortedSet (c : Ct) (x : Str) : Expr → Option Expr
  | .Call (.Name y _) [a] [] _ => if x = "sorted" ∧ y = "set" ∧ c.bi "set" = true ∧ notStar a = true then some a else none
  | _ => none
def cmpCall1 (r : Cmp) (c : Ct) (x : Str) (a : Expr) : Option SE :=
  match isSortedSet c x a with
  | some b => match r.e c b with
    | some sb => some (e1 bSortedSet sb)
    | none => none
  | none => match bi1 x, r.e c a with
    | some o, some sa => some (e1 o sa)
    | _, _ => none
def nameOf : Expr → Option Str
  | .Name x _ => some x
  | _ => none
def cmpIsi (r : Cmp) (c : Ct) (a b : Expr) : Option SE :=
  match nameOf b with
  | some T => if c.bi T = true then match tyOf T, r.e c a with
      | some t, some sa => some (e1 (bIsi t) sa)
      | _, _ => none
    else none
  | none => none
def cmpBi (r : Cmp) (c : Ct) (x : Str) (args : List Expr) : Option SE :=
  if c.calm = true ∧ c.bi x = true ∧ args.all notStar = true then match args with
    | [a] => cmpCall1 r c x a
    | [a, b] => if x = "isinstance" then cmpIsi r c a b else match bi2 x, r.e c a, r.e c b with
      | some o, some sa, some sb => some (e2 o sa sb)
      | _, _, _ => none
    | _ => none
  else none
def cmpCall (r : Cmp) (c : Ct) (x : Str) (args : List Expr) : Option SE :=
  match c.fns.lookup x with
  | some ar => if c.calm = true ∧ c.gl x = true ∧ nmOk x = true ∧ args.length = ar ∧ args ≠ [] ∧ args.all notStar = true then match dsOf (r.e c) args with
      | some as => some (eCall x as)
      | none => none
    else none
  | none => cmpBi r c x args
def cmpMeth (r : Cmp) (c : Ct) (o : Expr) (m : Str) (args : List Expr) (ln : Bool) : Option SE :=
  if okRecv o = true ∧ ln = true ∧ args.all notStar = true then match args with
    | [] => match mt0 m, r.e c o with
      | some mm, some so => if notCall o = true then some (eM0 mm so) else some (eN0 mm so)
      | _, _ => none
    | [a] => match mt1 m, r.e c o, r.e c a with
      | some mm, some so, some sa => if notCall o = true then some (eM1 mm so sa) else some (eN1 mm so sa)
      | _, _, _ => none
    | [a, b] => match mt2 m, r.e c o, r.e c a, r.e c b with
      | some mm, some so, some sa, some sb => some (eM2 mm so sa sb)
      | _, _, _, _ => none
    | _ => none
  else none
def cmpConst : Const → Option SE
  | .int i => some (eC (.int i))
  | .bool b => some (eC (.bl b))
  | .none => some (eC .non)
  | .str x => some (eC (.str x))
  | _ => none
def cmpO (r : Cmp) (c : Ct) : Option Expr → Option SO
  | none => some oNone
  | some a => match r.e c a with
    | some sa => some (oSome sa)
    | none => none
def stepE (r : Cmp) (c : Ct) : Expr → Option SE
  | .Name x _ => cmpName c x
  | .Constant k _ _ => cmpConst k
  | .BinOp a op b _ => match opB op, r.e c a, r.e c b with
    | some o, some sa, some sb => some (e2 o sa sb)
    | _, _, _ => none
  | .UnaryOp .Not a _ => match r.e c a with
    | some sa => some (eNot sa)
    | none => none
  | .UnaryOp .USub a _ => match r.e c a with
    | some sa => some (e1 oNeg sa)
    | none => none
  | .BoolOp op vs _ => boE (r.e c) op vs
  | .Compare a [op] [b] _ => if notSet b = true then match opC op, r.e c a, r.e c b with
      | some o, some sa, some sb => some (e2 o sa sb)
      | _, _, _ => none
    else none
  | .IfExp t a b _ => match r.t c t, r.e c a, r.e c b with
    | some st, some sa, some sb => some (eIf st sa sb)
    | _, _, _ => none
  | .Tuple es _ _ => match dsOf (r.e c) es with
    | some as => some (eTup as)
    | none => none
  | .List es _ => match dsOf (r.e c) es with
    | some as => some (eLst as)
    | none => none
  | .Dict [] [] _ => some eDic0
  | .Dict ks vs _ => if ks ≠ [] ∧ ks.length ≤ 15 then match psOf (r.e c) ks vs with
      | some ps => some (eDic (dPairs ps))
      | none => none
    else none
  | .Subscript a (.Slice lo hi none _) _ => match r.e c a, cmpO r c lo, cmpO r c hi with
    | some sa, some sl, some sh => some (eSlice sa sl sh)
    | _, _, _ => none
  | .Subscript a (.Slice none none (some (.UnaryOp .USub (.Constant (.int 1) _ _) _)) _) _ => match r.e c a with
    | some sa => some (eRev sa)
    | none => none
  | .Subscript a (.Slice lo hi (some (.Constant (.int k) _ _)) _) _ => if 0 < k then match r.e c a, cmpO r c lo, cmpO r c hi with
    | some sa, some sl, some sh => some (eStep sa sl sh k.toNat)
    | _, _, _ => none
    else none
  | .Subscript a b _ => if notSlice b = true then match r.e c a, r.e c b with
      | some sa, some sb => some (e2 oIx sa sb)
      | _, _ => none
    else none
  | .ListComp elt [⟨tg, iter, ifs, ia⟩] scope _ => if ia = 0 then cmpComp r c elt tg iter ifs scope else none
  | .Call (.Name x _) args [] _ => cmpCall r c x args
  | .Call (.Attribute o m apos) args [] cpos => cmpMeth r c o m args (apos.endLine == cpos.line)
  | _ => none
def stepT (r : Cmp) (c : Ct) : Expr → Option STt
  | .UnaryOp .Not a _ => match r.t c a with
    | some ta => some (MI.tNot ta)
    | none => none
  | .BoolOp op vs _ => boT (r.t c) op vs
  | .Compare a [op] [b] _ => if notSet b = true then match opC op, r.e c a, r.e c b with
      | some o, some sa, some sb => some (tB (e2 o sa sb))
      | _, _, _ => none
    else none
  | e => if plainT e = true then match r.e c e with
      | some s => some (tTru s)
      | none => none
    else none
def cmp : Nat → Cmp
  | 0 => ⟨fun _ _ => none, fun _ _ => none⟩
  | n + 1 => ⟨stepE (cmp n), stepT (cmp n)⟩

/-! ### it is sound -/
structure SndC (P : Program) (w : World) (K : PySem.W.Frag) (mg : Str → Option Value) (base : Heap) (CL : Str → Option Addr) (cl : Cl) (k : Nat) (r : Cmp) : Prop where
  e : ∀ (X : Cx) (c : Ct) e s, X.prog = P → X.w = w → X.K = K → X.mg = mg → X.base = base → Good X CL cl k c → r.e c e = some s → SndE X CL cl e s
  t : ∀ (X : Cx) (c : Ct) e s, X.prog = P → X.w = w → X.K = K → X.mg = mg → X.base = base → Good X CL cl k c → r.t c e = some s → SndT X CL cl e s
section
variable {X : Cx} {CL : Str → Option Addr} {cl : Cl} {k : Nat} {c : Ct}
theorem Good.mgn (G : Good X CL cl k c) {x : Str} (h : c.bi x = true) : Gl X x ∧ X.mg x = none ∧ nmOk x = true := by
  unfold Ct.bi at h
  simp only [Bool.and_eq_true, decide_eq_true_eq] at h
  exact ⟨G.gl x h.1, G.bl x h.2.1, h.2.2⟩
theorem Good.st (G : Good X CL cl k c) {x : Str} (h : c.st x = true) : Loc X.env.scope x ∧ (X.fn x = true ∨ X.env.scope.names.lookup x = some .local) := by
  unfold Ct.st at h
  rcases Bool.or_eq_true_iff.mp h with h | h
  · have := G.loc x h
    exact ⟨.inl this, .inr this⟩
  · have := G.cel x h
    exact ⟨.inr this.1, .inl this.2⟩
theorem dsOf_ok {f : Expr → Option SE} (hf : ∀ e s, f e = some s → SndE X CL cl e s) : ∀ (es : List Expr) (as : SDs), dsOf f es = some as → SndDs X CL cl es as ∧ es.all notStar = true ∧ ∀ r M ds M', as cl r M = .ok ds M' → ds.length = es.length
  | [], as, h => by
    simp only [dsOf] at h; cases h
    exact ⟨dnd_nil, rfl, fun r M ds M' e => by simp only [dNil] at e; cases e; rfl⟩
  | a :: es, as, h => by
    unfold dsOf at h
    split at h
    · rename_i hs
      split at h
      · rename_i sa as' h1 h2
        cases h
        obtain ⟨q1, q2, q3⟩ := dsOf_ok hf es as' h2
        refine ⟨dnd_cons (hf _ _ h1) q1 (star1 hs), by rw [List.all_cons, hs, q2]; rfl, fun r M ds M' e => ?_⟩
        unfold dCons at e
        cases e1 : sa cl r M with
        | ok x M1 =>
          rw [e1] at e
          simp only [Res.bind] at e
          cases e2 : as' cl r (box x M1).2 with
          | ok ds' M2 =>
            rw [e2] at e
            simp only [Res.bind] at e
            cases e
            rw [List.length_cons, List.length_cons, q3 _ _ _ _ e2]
          | err _ _ => rw [e2] at e; simp only [Res.bind] at e; cases e
          | bad => rw [e2] at e; simp only [Res.bind] at e; cases e
        | err _ _ => rw [e1] at e; simp only [Res.bind] at e; cases e
        | bad => rw [e1] at e; simp only [Res.bind] at e; cases e
      · cases h
    · cases h
theorem psOf_ok {f : Expr → Option SE} (hf : ∀ e s, f e = some s → SndE X CL cl e s) : ∀ (ks : List (Option Expr)) (vs : List Expr) (ps : List (SE × SE)), psOf f ks vs = some ps → SndPs X CL cl ks vs ps
  | [], [], ps, h => by simp only [psOf] at h; cases h; exact .nil
  | some k :: ks, v :: vs, ps, h => by
    unfold psOf at h
    split at h
    · rename_i sk sv ps' h1 h2 h3
      cases h
      exact .cons (hf _ _ h1) (hf _ _ h2) (psOf_ok hf ks vs ps' h3)
    · cases h
  | [], _ :: _, ps, h => by simp [psOf] at h
  | none :: _, _, ps, h => by simp [psOf] at h
  | some _ :: _, [], ps, h => by simp [psOf] at h
theorem boE_ok {f : Expr → Option SE} {op : BoolOp} {pos : Pos} (hf : ∀ e s, f e = some s → SndE X CL cl e s) : ∀ (es : List Expr) (s : SE), boE f op es = some s → SndE X CL cl (.BoolOp op es pos) s
  | [], s, h => by simp [boE] at h
  | [a], s, h => by
    simp only [boE] at h
    exact snd_one (hf _ _ h)
  | a :: b :: r, s, h => by
    unfold boE at h
    split at h
    · rename_i sa sr h1 h2
      have q := boE_ok (pos := pos) hf (b :: r) sr h2
      cases op <;> (simp only at h; cases h)
      · exact snd_and (hf _ _ h1) q
      · exact snd_or (hf _ _ h1) q
    · cases h
theorem boT_ok {f : Expr → Option STt} {op : BoolOp} {pos : Pos} (hf : ∀ e s, f e = some s → SndT X CL cl e s) : ∀ (es : List Expr) (s : STt), boT f op es = some s → SndW X CL cl (.BoolOp op es pos) s
  | [], s, h => by simp [boT] at h
  | [a], s, h => by
    simp only [boT] at h
    cases op
    · exact wnd_and1 (hf _ _ h)
    · exact wnd_or1 (hf _ _ h)
  | a :: b :: r, s, h => by
    unfold boT at h
    split at h
    · rename_i sa sr h1 h2
      have q := boT_ok (pos := pos) hf (b :: r) sr h2
      cases op <;> (simp only at h; cases h)
      · exact wnd_and (hf _ _ h1) q
      · exact wnd_or (hf _ _ h1) q
    · cases h
theorem tgNames_ok (G : Good X CL cl k c) : ∀ (es : List Expr) (is : List Nat), tgNames c es = some is → PGs X es (gNames is) ∧ (assignEach es X.env).length = is.length ∧ (assignEach es X.env).findIdx? (·.1) = none
  | [], is, h => by
    simp only [tgNames] at h; cases h
    exact ⟨pgs_nil, rfl, rfl⟩
  | e :: r, is, h => by
    cases e with
    | Name x p =>
      simp only [tgNames] at h
      split at h
      · rename_i hx
        split at h
        · rename_i i is' h1 h2
          cases h
          obtain ⟨q1, q2, q3⟩ := tgNames_ok G r is' h2
          obtain ⟨l1, l2⟩ := G.st hx
          refine ⟨pgs_cons (pg_name (by rw [G.N]; exact G.nd) (by rw [G.N]; exact idx_ok h1) l1 l2) q1 rfl, ?_, ?_⟩
          · show (assignEach r X.env).length + 1 = _
            rw [q2]; rfl
          · simp only [assignEach, List.findIdx?_cons, q3]
            rfl
        · cases h
      · cases h
    | _ => simp [tgNames] at h
theorem tgOf_ok (G : Good X CL cl k c) (hc : X.calm = true) {e : Expr} {t : Tg} (h : tgOf c e = some t) : SndTg X e t := by
  cases e with
  | Name x p =>
    simp only [tgOf] at h
    split at h
    · rename_i hx
      split at h
      · rename_i i h1
        cases h
        obtain ⟨l1, l2⟩ := G.st hx
        exact pg_name (by rw [G.N]; exact G.nd) (by rw [G.N]; exact idx_ok h1) l1 l2
      · cases h
    · cases h
  | Tuple es p q =>
    simp only [tgOf] at h
    split at h
    · rename_i is h1
      cases h
      obtain ⟨q1, q2, q3⟩ := tgNames_ok G es is h1
      exact pg_tup hc q1 q2 q3
    · cases h
  | _ => simp [tgOf] at h
theorem blk_lookup {env : PySem.Env} {x : Str} {κ : NameKind} (hk : κ ≠ .free) : ∀ {names : List (Str × NameKind)}, names.lookup x = some κ →
    (names.map fun (n, k) => if (k == NameKind.free && env.scope.kind == .function && env.kindOf n == some .cell) then (n, NameKind.cell) else (n, k)).lookup x = some κ
  | [], h => by simp at h
  | (n, κ') :: r, h => by
    have ih := @blk_lookup env x κ hk r
    show List.lookup x ((if (κ' == NameKind.free && env.scope.kind == .function && env.kindOf n == some .cell) = true then (n, NameKind.cell) else (n, κ')) :: _) = _
    cases hx : x == n with
    | true =>
      simp only [List.lookup_cons, hx] at h
      cases h
      have : (κ == NameKind.free) = false := by cases κ <;> first | rfl | exact absurd rfl hk
      simp [List.lookup_cons, hx, this]
    | false =>
      simp only [List.lookup_cons, hx] at h
      split <;> simp only [List.lookup_cons, hx] <;> exact ih h
theorem blk_free {env : PySem.Env} {x : Str} : ∀ {names : List (Str × NameKind)}, names.lookup x = some .free →
    (names.map fun (n, k) => if (k == NameKind.free && env.scope.kind == .function && env.kindOf n == some .cell) then (n, NameKind.cell) else (n, k)).lookup x = some .cell ∨
    (names.map fun (n, k) => if (k == NameKind.free && env.scope.kind == .function && env.kindOf n == some .cell) then (n, NameKind.cell) else (n, k)).lookup x = some .free
  | [], h => by simp at h
  | (n, κ') :: r, h => by
    have ih := @blk_free env x r
    show List.lookup x ((if (κ' == NameKind.free && env.scope.kind == .function && env.kindOf n == some .cell) = true then (n, NameKind.cell) else (n, κ')) :: _) = _ ∨ List.lookup x ((if (κ' == NameKind.free && env.scope.kind == .function && env.kindOf n == some .cell) = true then (n, NameKind.cell) else (n, κ')) :: _) = _
    cases hx : x == n with
    | true =>
      simp only [List.lookup_cons, hx] at h
      cases h
      split <;> simp [List.lookup_cons, hx]
    | false =>
      simp only [List.lookup_cons, hx] at h
      split <;> simp only [List.lookup_cons, hx] <;> exact ih h
theorem Good.blk (G : Good X CL cl k c) {scope : Scope} (hk : scope.kind = .function) (s : Shared) (H : Hp) (C : Addr) (cc : List (Str × Addr)) (fp : List Addr) : Good (Blk X scope s H C cc fp) CL cl k (c.blk scope) := by
  have key : ∀ x κ, κ ≠ NameKind.free → scope.names.lookup x = some κ → (Blk X scope s H C cc fp).env.scope.names.lookup x = some κ := fun x κ h1 h2 => blk_lookup (env := X.env) h1 h2
  have keyf : ∀ x, scope.names.lookup x = some .free → (Blk X scope s H C cc fp).env.scope.names.lookup x = some .cell ∨ (Blk X scope s H C cc fp).env.scope.names.lookup x = some .free := fun x h2 => blk_free (env := X.env) h2
  refine ⟨G.N, G.nd, fun x h => ?_, fun x h => ?_, fun x h => ?_, fun x h => ?_, fun x h => ?_, hk, G.bl, G.kon, fun x ar h => ⟨(G.fns x ar h).ok⟩, G.un, G.calm⟩
  · simp only [Ct.vis, Ct.lk, Ct.blk] at h
    split at h
    · rename_i e; exact .inl (key x _ nofun e)
    · rename_i e; exact .inr (.inl (key x _ nofun e))
    · rename_i e; exact .inr (keyf x e)
    · cases h
  · simp only [Ct.gl, Ct.lk, Ct.blk] at h
    split at h
    · rename_i e; exact key x _ nofun e
    · cases h
  · simp only [Ct.loc, Ct.lk, Ct.blk] at h
    split at h
    · rename_i e; exact key x _ nofun e
    · cases h
  · simp only [Ct.cel, Ct.lk, Ct.blk] at h
    split at h
    · rename_i e; exact ⟨key x _ nofun e, by show (scope.names.lookup x == some .cell) = true; rw [e]; rfl⟩
    · cases h
  · rcases h with h | h
    · exact .inl (key x _ nofun h)
    · exact keyf x h
theorem Good.blkOk (G : Good X CL cl k c) {scope : Scope} {own : List (Str × Nat)} (h : blkC c.N c.sc scope own = true) : BlkOk X.N X.env.scope scope own := by
  have q := blkOk_by h
  rw [G.N]
  exact ⟨q.kind, q.uniq, q.ix, fun y hy e => G.cf _ (q.free y hy e), q.own⟩
theorem cmpName_ok (G : Good X CL cl k c) {x : Str} {s : SE} {pos : Pos} (h : cmpName c x = some s) : SndE X CL cl (.Name x pos) s := by
  unfold cmpName at h
  split at h
  · rename_i hn
    split at h
    · rename_i hv
      split at h
      · rename_i i hi
        cases h
        exact snd_var (by rw [G.N]; exact idx_ok hi) (G.vis x hv) (nmOk_d hn) (nmOk_c hn)
      · cases h
    · split at h
      · rename_i hg
        split at h
        · rename_i d hd
          cases h
          obtain ⟨u, v, h1, h2, h3⟩ := G.kon x d hd
          exact snd_const (pe_glob (G.gl x hg) h1 h2 (nmOk_d hn)) h3
        · cases h
      · cases h
  · cases h
end
section
variable {P : Program} {w : World} {K : PySem.W.Frag} {mg : Str → Option Value} {base : Heap} {CL : Str → Option Addr} {cl : Cl} {k : Nat} {r : Cmp}
theorem isRange_ok {c : Ct} {e : Expr} {as : List Expr} (h : isRange c e = some as) : ∃ p q, e = .Call (.Name "range" p) as [] q ∧ c.bi "range" = true ∧ as.all notStar = true := by
  unfold isRange at h
  split at h
  · split at h
    · rename_i x p b q hh
      obtain ⟨h1, h2, h3⟩ := hh
      cases h
      subst h1
      exact ⟨_, _, rfl, h2, h3⟩
    · cases h
  · cases h
theorem itOf_ok (S : SndC P w K mg base CL cl k r) {X : Cx} {c : Ct} (hP : X.prog = P) (hw : X.w = w) (hK : X.K = K) (hm : X.mg = mg) (hb : X.base = base) (G : Good X CL cl k c) {tg e : Expr} {s : SI} (h : itOf r c e = some s) : SndI X CL cl tg e s := by
  unfold itOf at h
  split at h
  · rename_i as ha
    obtain ⟨p, q, rfl, h1, h2⟩ := isRange_ok ha
    obtain ⟨g1, g2, g3⟩ := G.mgn h1
    unfold rgOf at h
    split at h
    · rename_i a
      split at h
      · rename_i sa hs
        cases h
        exact snd_range1 (S.e X c _ _ hP hw hK hm hb G hs) g1 g2 (star1 (by simpa using h2))
      · cases h
    · rename_i a b
      have sab : notStar a = true ∧ notStar b = true := by simpa using h2
      split at h
      · rename_i sa sb hs1 hs2
        cases h
        exact snd_range2 (S.e X c _ _ hP hw hK hm hb G hs1) (S.e X c _ _ hP hw hK hm hb G hs2) g1 g2 ((star1 sab.1).trans (by rw [star1 sab.2]; rfl)) (star1 sab.2)
      · cases h
    · rename_i a b d
      have sab : notStar a = true ∧ notStar b = true ∧ notStar d = true := by simpa using h2
      split at h
      · rename_i sa sb sd hs1 hs2 hs3
        cases h
        exact snd_range3 (S.e X c _ _ hP hw hK hm hb G hs1) (S.e X c _ _ hP hw hK hm hb G hs2) (S.e X c _ _ hP hw hK hm hb G hs3) g1 g2 (star1 sab.1) (star1 sab.2.1) (star1 sab.2.2)
      · cases h
    · cases h
  · split at h
    · rename_i sa hs
      cases h
      exact snd_seq (S.e X c _ _ hP hw hK hm hb G hs)
    · cases h
theorem tstOf_ok (S : SndC P w K mg base CL cl k r) {X : Cx} {c : Ct} (hP : X.prog = P) (hw : X.w = w) (hK : X.K = K) (hm : X.mg = mg) (hb : X.base = base) (G : Good X CL cl k c) {es : List Expr} {s : STt} (h : tstOf r c es = some s) : SndTs X CL cl es s := by
  unfold tstOf at h
  split at h
  · cases h; exact tsnd_nil
  · exact tsnd_one (S.t X c _ _ hP hw hK hm hb G h)
  · cases h
structure CompOk (r : Cmp) (c : Ct) (elt tg iter : Expr) (ifs : List Expr) (scope : Scope) (s : SE) where
  si : SI
  t : Tg
  st : STt
  se : SE
  calm : c.calm = true
  blk : blkC c.N c.sc scope (ownOf c.N scope.names) = true
  ns : notSet iter = true
  i1 : itOf r c iter = some si
  i2 : tgOf (c.blk scope) tg = some t
  i3 : tstOf r (c.blk scope) ifs = some st
  i4 : r.e (c.blk scope) elt = some se
  ix : ∀ i ∈ t.ix, i ∈ (ownOf c.N scope.names).map (·.2)
  eq : s = eComp se st t ((ownOf c.N scope.names).map (·.2)) si
theorem cmpComp_inv {c : Ct} {elt tg iter : Expr} {ifs : List Expr} {scope : Scope} {s : SE} (h : cmpComp r c elt tg iter ifs scope = some s) : Nonempty (CompOk r c elt tg iter ifs scope s) := by
  unfold cmpComp at h
  split at h
  · rename_i hh
    split at h
    · rename_i si t st se h1 h2 h3 h4
      split at h
      · rename_i h5
        cases h
        exact ⟨⟨si, t, st, se, hh.1, hh.2.1, hh.2.2, h1, h2, h3, h4, fun i hi => by simpa using List.all_eq_true.mp h5 i hi, rfl⟩⟩
      · cases h
    · cases h
  · cases h
theorem snd_cmpComp (S : SndC P w K mg base CL cl k r) {X : Cx} {c : Ct} (hP : X.prog = P) (hw : X.w = w) (hK : X.K = K) (hm : X.mg = mg) (hb : X.base = base) (G : Good X CL cl k c) {elt tg iter : Expr} {ifs : List Expr} {scope : Scope} {pos : Pos} {s : SE} (h : cmpComp r c elt tg iter ifs scope = some s) :
    SndE X CL cl (.ListComp elt [⟨tg, iter, ifs, 0⟩] scope pos) s := by
  obtain ⟨q⟩ := cmpComp_inv h
  rw [q.eq]
  have hc := (G.calm q.calm).1
  have kb := (G.blkOk q.blk).kind
  exact snd_comp hc (by rw [G.N]; exact G.nd) (itOf_ok S hP hw hK hm hb G q.i1) (G.blkOk q.blk) q.ix (fun s H C cc fp => tgOf_ok (G.blk kb s H C cc fp) hc q.i2)
    (fun s H C cc fp => tstOf_ok (X := Blk X scope s H C cc fp) S hP hw hK hm hb (G.blk kb s H C cc fp) q.i3) (fun s H C cc fp => S.e _ _ _ _ hP hw hK hm hb (G.blk kb s H C cc fp) q.i4) (fold0 q.ns)
theorem stm_cmpComp (S : SndC P w K mg base CL cl k r) {X : Cx} {c : Ct} (hP : X.prog = P) (hw : X.w = w) (hK : X.K = K) (hm : X.mg = mg) (hb : X.base = base) (G : Good X CL cl k c) {elt tg iter : Expr} {ifs : List Expr} {scope : Scope} {pos spos py : Pos} {s : SE} (h : cmpComp r c elt tg iter ifs scope = some s)
    {i : Nat} {y : Str} (hy : X.N[i]? = some y) (hyl : X.env.scope.names.lookup y = some .local) (hsw : swapsWith (.ListComp elt [⟨tg, iter, ifs, 0⟩] scope pos) (some (.Name y py)) spos.line X.env = pure true) :
    SndS X CL cl (.Assign [.Name y py] (.ListComp elt [⟨tg, iter, ifs, 0⟩] scope pos) spos) (sSet i s) := by
  obtain ⟨q⟩ := cmpComp_inv h
  rw [q.eq]
  have hc := (G.calm q.calm).1
  have kb := (G.blkOk q.blk).kind
  exact stm_setComp hc (by rw [G.N]; exact G.nd) hy hyl hsw (itOf_ok S hP hw hK hm hb G q.i1) (G.blkOk q.blk) q.ix (fun s H C cc fp => tgOf_ok (G.blk kb s H C cc fp) hc q.i2)
    (fun s H C cc fp => tstOf_ok (X := Blk X scope s H C cc fp) S hP hw hK hm hb (G.blk kb s H C cc fp) q.i3) (fun s H C cc fp => S.e _ _ _ _ hP hw hK hm hb (G.blk kb s H C cc fp) q.i4) (fold0 q.ns)
theorem nameOf_ok {e : Expr} {x : Str} (h : nameOf e = some x) : ∃ p, e = .Name x p := by
  unfold nameOf at h
  split at h
  · cases h; exact ⟨_, rfl⟩
  · cases h
theorem isSortedSet_ok {c : Ct} {x : Str} {e a : Expr} (h : isSortedSet c x e = some a) : ∃ p q, x = "sorted" ∧ e = .Call (.Name "set" p) [a] [] q ∧ c.bi "set" = true ∧ notStar a = true := by
  unfold isSortedSet at h
  split at h
  · split at h
    · rename_i y p b q hh
      obtain ⟨h1, h2, h3, h4⟩ := hh
      cases h
      subst h2
      exact ⟨_, _, h1, rfl, h3, h4⟩
    · cases h
  · cases h
theorem cmpBi_ok (S : SndC P w K mg base CL cl k r) {X : Cx} {c : Ct} (hP : X.prog = P) (hw : X.w = w) (hK : X.K = K) (hm : X.mg = mg) (hb : X.base = base) (G : Good X CL cl k c) {x : Str} {args : List Expr} {s : SE} {p0 pos : Pos} (h : cmpBi r c x args = some s) :
    SndE X CL cl (.Call (.Name x p0) args [] pos) s := by
  unfold cmpBi at h
  split at h
  · rename_i hh
    obtain ⟨h0, h1, h2⟩ := hh
    have hc := (G.calm h0).1
    obtain ⟨g1, g2, g3⟩ := G.mgn h1
    split at h
    · rename_i a
      have sa : notStar a = true := by simpa using h2
      unfold cmpCall1 at h
      split at h
      · rename_i b hb2
        obtain ⟨p, q, rfl, rfl, h3, h4⟩ := isSortedSet_ok hb2
        split at h
        · rename_i sb hs
          cases h
          obtain ⟨g4, g5, g6⟩ := G.mgn h3
          exact snd_sortedSet hc (S.e X c _ _ hP hw hK hm hb G hs) g1 g2 g4 g5 (star1 h4)
        · cases h
      · split at h
        · rename_i o sa' ho hs
          cases h
          exact snd_bi1 hc ho (S.e X c _ _ hP hw hK hm hb G hs) g1 g2 (nmOk_n g3) (nmOk_d g3) (star1 sa)
        · cases h
    · rename_i a b
      have sab : notStar a = true ∧ notStar b = true := by simpa using h2
      split at h
      · rename_i hi
        subst hi
        unfold cmpIsi at h
        split at h
        · rename_i T hT
          obtain ⟨p, rfl⟩ := nameOf_ok hT
          split at h
          · rename_i hbT
            split at h
            · rename_i t sa' ht hs
              cases h
              obtain ⟨g4, g5, g6⟩ := G.mgn hbT
              exact snd_isi (S.e X c _ _ hP hw hK hm hb G hs) g1 g2 g4 g5 (tyOf_ok ht) (nmOk_n g6) (nmOk_d g6) (star1 sab.1)
            · cases h
          · cases h
        · cases h
      · split at h
        · rename_i o sa' sb' ho hs1 hs2
          cases h
          exact snd_bi2 hc ho (S.e X c _ _ hP hw hK hm hb G hs1) (S.e X c _ _ hP hw hK hm hb G hs2) g1 g2 (nmOk_n g3) (nmOk_d g3) (star1 sab.1) (star1 sab.2)
        · cases h
    · cases h
  · cases h
theorem cmpCall_ok (S : SndC P w K mg base CL cl k r) {X : Cx} {c : Ct} (hP : X.prog = P) (hw : X.w = w) (hK : X.K = K) (hm : X.mg = mg) (hb : X.base = base) (G : Good X CL cl k c) {x : Str} {args : List Expr} {s : SE} {p0 pos : Pos} (h : cmpCall r c x args = some s) :
    SndE X CL cl (.Call (.Name x p0) args [] pos) s := by
  unfold cmpCall at h
  split at h
  · rename_i ar hf
    split at h
    · rename_i hh
      obtain ⟨h0, h1, h2, h3, h4, h5⟩ := hh
      split at h
      · rename_i as hs
        cases h
        obtain ⟨q1, q2, q3⟩ := dsOf_ok (fun e s z => S.e X c e s hP hw hK hm hb G z) _ _ hs
        cases args with
        | nil => exact absurd rfl h4
        | cons a es =>
          rw [List.all_cons, Bool.and_eq_true] at h5
          exact snd_call (G.fns x ar hf) (G.calm h0).2 (G.gl x h1) (nmOk_d h2) q1 h3 (fun r M ds M' e => (q3 r M ds M' e).trans h3) (star1 h5.1) (starAll h5.2)
      · cases h
    · cases h
  · exact cmpBi_ok S hP hw hK hm hb G h
theorem cmpO_ok (S : SndC P w K mg base CL cl k r) {X : Cx} {c : Ct} (hP : X.prog = P) (hw : X.w = w) (hK : X.K = K) (hm : X.mg = mg) (hb : X.base = base) (G : Good X CL cl k c) {o : Option Expr} {s : SO} (h : cmpO r c o = some s) : SndO X CL cl o s := by
  cases o with
  | none => simp only [cmpO] at h; cases h; exact ond_none
  | some a =>
    simp only [cmpO] at h
    split at h
    · rename_i sa hs
      cases h
      exact ond_some (S.e X c _ _ hP hw hK hm hb G hs)
    · cases h
theorem cmpMeth_ok (S : SndC P w K mg base CL cl k r) {X : Cx} {c : Ct} (hP : X.prog = P) (hw : X.w = w) (hK : X.K = K) (hm : X.mg = mg) (hb : X.base = base) (G : Good X CL cl k c) {o : Expr} {m : Str} {args : List Expr} {ln : Bool} {s : SE} {apos cpos : Pos} (h : cmpMeth r c o m args ln = some s) (hl : ln = (apos.endLine == cpos.line)) :
    SndE X CL cl (.Call (.Attribute o m apos) args [] cpos) s := by
  have ev : ∀ e s, r.e c e = some s → SndE X CL cl e s := fun e s z => S.e X c e s hP hw hK hm hb G z
  unfold cmpMeth at h
  split at h
  · rename_i hh
    obtain ⟨h0, h1, h2⟩ := hh
    rw [hl] at h1
    split at h
    · split at h
      · rename_i mm so e1 e2
        split at h
        · cases h; exact snd_mt0 e1 (ev _ _ e2) (abase_ok h0) h1
        · cases h; exact snd_nt0 e1 (ev _ _ e2) (abase_ok h0) h1
      · cases h
    · split at h
      · rename_i mm so sa e1 e2 e3
        have sa' := star1 (es := []) (env := X.env) (by simpa using h2)
        split at h
        · cases h; exact snd_mt1 e1 (ev _ _ e2) (ev _ _ e3) (abase_ok h0) h1 sa'
        · cases h; exact snd_nt1 e1 (ev _ _ e2) (ev _ _ e3) (abase_ok h0) h1 sa'
      · cases h
    · rename_i a b
      have sab : notStar a = true ∧ notStar b = true := by simpa using h2
      split at h
      · rename_i mm so sa sb e1 e2 e3 e4
        cases h
        exact snd_mt2 e1 (ev _ _ e2) (ev _ _ e3) (ev _ _ e4) (abase_ok h0) h1 (star1 sab.1) (star1 sab.2)
      · cases h
    · cases h
  · cases h
theorem stepE_ok (S : SndC P w K mg base CL cl k r) {X : Cx} {c : Ct} (hP : X.prog = P) (hw : X.w = w) (hK : X.K = K) (hm : X.mg = mg) (hb : X.base = base) (G : Good X CL cl k c) {e : Expr} {s : SE} (h : stepE r c e = some s) : SndE X CL cl e s := by
  have ev : ∀ e s, r.e c e = some s → SndE X CL cl e s := fun e s z => S.e X c e s hP hw hK hm hb G z
  have tv : ∀ e s, r.t c e = some s → SndT X CL cl e s := fun e s z => S.t X c e s hP hw hK hm hb G z
  unfold stepE at h
  split at h
  · exact cmpName_ok G h
  · rename_i kk _ _
    cases kk <;> simp only [cmpConst] at h <;> cases h
    · exact snd_non
    · exact snd_bl
    · exact snd_int
    · exact snd_str
  · split at h
    · rename_i o sa sb h1 h2 h3
      cases h
      obtain ⟨rr, q1, q2⟩ := opB_ok (X := X) (CL := CL) h1
      exact snd_op2 q1 q2 (ev _ _ h2) (ev _ _ h3)
    · cases h
  · split at h
    · rename_i sa h1; cases h; exact snd_not (ev _ _ h1)
    · cases h
  · split at h
    · rename_i sa h1; cases h; exact snd_neg (ev _ _ h1)
    · cases h
  · exact boE_ok ev _ _ h
  · split at h
    · rename_i hs
      split at h
      · rename_i o sa sb h1 h2 h3
        cases h
        obtain ⟨rr, q1, q2⟩ := opC_ok (X := X) (CL := CL) G.un h1
        exact snd_cmp2 q1 q2 (ev _ _ h2) (ev _ _ h3) (mark0 hs)
      · cases h
    · cases h
  · split at h
    · rename_i st sa sb h1 h2 h3
      cases h
      exact snd_if (tv _ _ h1) (ev _ _ h2) (ev _ _ h3)
    · cases h
  · split at h
    · rename_i as h1; cases h; exact snd_tup (dsOf_ok ev _ _ h1).1
    · cases h
  · split at h
    · rename_i as h1; cases h; exact snd_lst (dsOf_ok ev _ _ h1).1
    · cases h
  · cases h; exact snd_dic0
  · split at h
    · rename_i hk
      split at h
      · rename_i ps h1
        cases h
        exact snd_dic (psOf_ok ev _ _ _ h1) hk.1 hk.2
      · cases h
    · cases h
  · split at h
    · rename_i sa sl sh h1 h2 h3
      cases h
      exact snd_slice (ev _ _ h1) (cmpO_ok S hP hw hK hm hb G h2) (cmpO_ok S hP hw hK hm hb G h3)
    · cases h
  · split at h
    · rename_i sa h1; cases h; exact snd_rev (ev _ _ h1)
    · cases h
  · split at h
    · rename_i hk
      split at h
      · rename_i sa sl sh h1 h2 h3
        cases h
        exact snd_stepI hk (ev _ _ h1) (cmpO_ok S hP hw hK hm hb G h2) (cmpO_ok S hP hw hK hm hb G h3)
      · cases h
    · cases h
  · split at h
    · rename_i hs
      split at h
      · rename_i sa sb h1 h2
        cases h
        exact snd_ix (by have := G.un; omega) (ev _ _ h1) (ev _ _ h2) (plainIx_b hs)
      · cases h
    · cases h
  · split at h
    · rename_i hi
      subst hi
      exact snd_cmpComp S hP hw hK hm hb G h
    · cases h
  · exact cmpCall_ok S hP hw hK hm hb G h
  · exact cmpMeth_ok S hP hw hK hm hb G h rfl
  · cases h
theorem stepT_ok (S : SndC P w K mg base CL cl k r) {X : Cx} {c : Ct} (hP : X.prog = P) (hw : X.w = w) (hK : X.K = K) (hm : X.mg = mg) (hb : X.base = base) (G : Good X CL cl k c) {e : Expr} {s : STt} (h : stepT r c e = some s) : SndT X CL cl e s := by
  have ev : ∀ e s, r.e c e = some s → SndE X CL cl e s := fun e s z => S.e X c e s hP hw hK hm hb G z
  have tv : ∀ e s, r.t c e = some s → SndT X CL cl e s := fun e s z => S.t X c e s hP hw hK hm hb G z
  unfold stepT at h
  split at h
  · split at h
    · rename_i sa h1; cases h; exact tnd_not (tv _ _ h1)
    · cases h
  · exact wnd_t (boT_ok tv _ _ h)
  · split at h
    · rename_i hs
      split at h
      · rename_i o sa sb h1 h2 h3
        cases h
        obtain ⟨rr, q1, q2⟩ := opC_ok (X := X) (CL := CL) G.un h1
        exact tnd_tB q1 q2 (ev _ _ h2) (ev _ _ h3) (mark0 hs)
      · cases h
    · cases h
  · split at h
    · rename_i hp
      split at h
      · rename_i sa h1; cases h; exact tnd_tru (ev _ _ h1) (plainT_ok hp)
      · cases h
    · cases h
theorem cmp_ok : ∀ n, SndC P w K mg base CL cl k (cmp n)
  | 0 => ⟨fun X c e s _ _ _ _ _ _ h => by simp [cmp] at h, fun X c e s _ _ _ _ _ _ h => by simp [cmp] at h⟩
  | n + 1 => ⟨fun X c e s hP hw hK hm hb G h => stepE_ok (cmp_ok n) hP hw hK hm hb G h, fun X c e s hP hw hK hm hb G h => stepT_ok (cmp_ok n) hP hw hK hm hb G h⟩
end
end MI
end
section
set_option Elab.async false
set_option linter.all false
set_option maxRecDepth 100000
set_option maxHeartbeats 4000000
/-! MI17: exceptions: what is raised, what a suite asks of it -/
namespace MI
open PySem PySem.Spec PyProof.Rows L2
/-- what is known of the classes -/
structure ExF (X : Cx) (CL : Str → Option Addr) (exs : List Str) : Prop where
  made : ∀ x ∈ exs, ∃ C, CL x = some C ∧ X.mg x = some (.ref C) ∧ PySem.W.excIn X.K C [.type "ValueError", .type "Exception", .type "BaseException", .type "object"] "ValueError.__new__" = true ∧ PySem.W.keepIn X.K (.ref C) = true ∧
    PySem.W.subIn X.K (.ref C) (.type "BaseException") = some true ∧ PySem.W.typeIn X.K (.ref C) = some (.type "type") ∧ ExcC X.K C
  kit : ∀ x ∈ exs, ∀ y ∈ exs, ∀ C D, CL x = some C → CL y = some D → PySem.W.kitOne X.K (.ref C) (.ref D) = some (subX x y)
  kitV : ∀ x ∈ exs, ∀ C, CL x = some C → PySem.W.kitOne X.K (.ref C) (.type "ValueError") = some true
  exm : ∀ x, ∀ y ∈ exs, ∀ C D, CL x = some C → CL y = some D → PySem.W.exmOne X.K (.ref C) (.ref D) = some (catX exs y x)
  own : ("ValueError" : Str) ∉ exs

/-! ### reading a suite -/
def clsNames (c : Ct) (exs : List Str) : List Expr → Option (List Str)
  | [] => some []
  | .Name d _ :: r => if d ∈ exs ∧ c.gl d = true ∧ nmOk d = true then match clsNames c exs r with
      | some ds => some (d :: ds)
      | none => none
    else none
  | _ => none
def clsOf (c : Ct) (exs : List Str) : Expr → Option (List Str)
  | .Name d _ => if (d ∈ exs ∧ c.gl d = true ∧ nmOk d = true) ∨ (d = "ValueError" ∧ c.bi d = true) then some [d] else none
  | .Tuple es _ _ => if es.length ≤ 100 then clsNames c exs es else none
  | _ => none
def suIsi (c : Ct) (exs : List Str) (n : Str) : Expr → Option (List Str)
  | .Call (.Name f _) [.Name y _, cls] [] _ => if f = "isinstance" ∧ y = n ∧ c.bi f = true ∧ nmOk n = true ∧ c.vis n = true ∧ notStar cls = true then clsOf c exs cls else none
  | _ => none
def suI (c : Ct) (exs : List Str) (n : Str) (e : Expr) : Option SuI :=
  match e with
  | .Name x _ => if nmOk x = true ∧ c.vis x = true then match idx x c.N with
      | some j => some (.var j)
      | none => none
    else none
  | .UnaryOp .Not a _ => match suIsi c exs n a with
    | some cs => some (.isi true cs)
    | none => none
  | e => match suIsi c exs n e with
    | some cs => some (.isi false cs)
    | none => none
def suIs (c : Ct) (exs : List Str) (n : Str) : List Expr → Option (List SuI)
  | [] => some []
  | e :: r => if notStar e = true then match suI c exs n e, suIs c exs n r with
      | some s, some q => some (s :: q)
      | _, _ => none
    else none
def suS (c : Ct) (exs : List Str) (n : Str) (i : Nat) : Stmt → Option SuS
  | .Assign [.Name x _] (.List es _) _ => if c.st x = true ∧ es.length ≤ 100 then match idx x c.N, suIs c exs n es with
      | some j, some its => if j = i then none else some (.lst j false its)
      | _, _ => none
    else none
  | .Assign [.Name x _] (.BinOp (.Name y _) .Add (.List es _) _) _ => if c.st x = true ∧ y = x ∧ nmOk x = true ∧ es.length ≤ 100 then match idx x c.N, suIs c exs n es with
      | some j, some its => if j = i then none else some (.lst j true its)
      | _, _ => none
    else none
  | .Assign [.Name x _] (.Constant (.bool b) _ _) _ => if c.st x = true then match idx x c.N with
      | some j => if j = i then none else some (.con j b)
      | none => none
    else none
  | .Assign [.Name x _] e _ => if c.st x = true ∧ notComp e = true then match idx x c.N, suI c exs n e with
      | some j, some it => if j = i then none else some (.one j it)
      | _, _ => none
    else none
  | _ => none
def suSs (c : Ct) (exs : List Str) (n : Str) (i : Nat) : List Stmt → Option (List SuS)
  | [] => some []
  | s :: r => match suS c exs n i s, suSs c exs n i r with
    | some s, some q => some (s :: q)
    | _, _ => none

section
variable {X : Cx} {CL : Str → Option Addr} {cl : Cl} {k : Nat} {c : Ct} {exs : List Str}
/-- isinstance(e, (A, B, ..)), e the exception that the suite holds -/
def rIsET (K : PySem.W.Frag) (D a : Addr) : List V → Hp → VK → Prop := fun xs H Q => ∃ (tp : Addr) (cs : List V) (us : List Value) (b : Bool), xs = [.ref a, .ref tp] ∧ H tp = some (.tup cs) ∧ (∀ ws, Vals cs ws → ws = us) ∧ PySem.W.kitAny K (.ref D) us = some b ∧ Q (.bl b) H
theorem call_isET {X : Cx} {a D : Addr} {oe : Obj} {pn : List (Addr × Obj)} (C : ExcC X.K D) (hz : Zc (.ref D) none oe) (hf : ∃ vs, oe.data = .fields vs) : CallR (X.suite a ((a, oe) :: pn)) (.builtin "isinstance") (rIsET X.K D a) := by
  intro pins s σ H xs us Q I r h
  obtain ⟨tp, cs, ws, b, rfl, hT, hcv, e, q⟩ := h
  cases r with
  | cons rx rr =>
    cases rr with
    | cons rt rr =>
      cases rr
      cases rx
      cases rt
      obtain ⟨hget, _⟩ := I.pin (a, oe) (List.mem_append.mpr (.inl List.mem_cons_self))
      obtain ⟨vs, hv⟩ := hf
      have J : PySem.W.InstAt s.heap a oe D none := by
        obtain ⟨oc, od, oda, osl⟩ := oe
        obtain ⟨h1, h2⟩ := hz
        dsimp only at h1 h2 hv
        subst h1 h2 hv
        exact ⟨hget, rfl, rfl, trivial⟩
      obtain ⟨_, its, rv, o, h1, h2, n, h3⟩ := (show ObjOk X.prog X.w H s.heap tp (.tup cs) from I.hok tp _ hT)
      have e3 := hcv _ rv
      subst e3
      obtain ⟨oc, od, dt, sl⟩ := o
      simp only at h2 h3
      subst h2 h3
      exact PySem.W.kia_tup (PySem.W.handS_kitx_exc C.hg C.hk C.hs C.hd C.ha C.hn C.ht C.hm) I.kIn J h1 e (fun z => nomatch z) fun tk => ⟨.bl b, H, I.kept (t' := tk) fun _ _ z => z, rfl, q⟩
/-- an expression in a suite: where the exception's slot holds it -/
def ESu (X : Cx) (i : Nat) (a : Addr) (e : Expr) (b : Bool) : Prop := PE X e fun σ H Q => σ[i]? = some (some (.ref a)) ∧ ∀ H', (∀ p o, H p = some o → H' p = some o) → (∀ p, H' p = none → H p = none) → Q (.bl b) H'
theorem clsNames_ok (G : Good X CL cl k c) (F : ExF X CL exs) : ∀ (es : List Expr) (ds : List Str), clsNames c exs es = some ds → ∃ (Cs : List Addr), PA X es (fun σ H Q => Q (Cs.map V.ref) H) ∧ Cs.length = es.length ∧ ds.length = es.length ∧ es.all notStar = true ∧
    (∀ (j : Nat) d C, ds[j]? = some d → Cs[j]? = some C → d ∈ exs ∧ CL d = some C)
  | [], ds, h => by
    simp only [clsNames] at h; cases h
    exact ⟨[], pa_imp pa_nil fun _ _ _ z => z, rfl, rfl, rfl, fun j d C e => by simp at e⟩
  | e :: r, ds, h => by
    cases e with
    | Name d p =>
      simp only [clsNames] at h
      split at h
      · rename_i hd
        split at h
        · rename_i ds' h1
          cases h
          obtain ⟨Cs, q1, q2, q3, q4, q5⟩ := clsNames_ok G F r ds' h1
          obtain ⟨C, z1, z2, _⟩ := F.made d hd.1
          refine ⟨C :: Cs, pa_imp (pa_cons (pe_glob (v := .ref C) (G.gl d hd.2.1) z2 rfl (nmOk_d hd.2.2)) q1 rfl) fun _ _ _ z => z, by simp [q2], by simp [q3], by simp [q4, notStar], fun j d' C' e1 e2 => ?_⟩
          cases j with
          | zero => simp at e1 e2; subst e1; subst e2; exact ⟨hd.1, z1⟩
          | succ j => exact q5 j d' C' (by simpa using e1) (by simpa using e2)
        · cases h
      · cases h
    | _ => simp [clsNames] at h
theorem kitAny_sub (F : ExF X CL exs) {y : Str} {C : Addr} (hy : y ∈ exs) (hC : CL y = some C) : ∀ (ds : List Str) (Cs : List Addr), ds.length = Cs.length → (∀ (j : Nat) d C, ds[j]? = some d → Cs[j]? = some C → d ∈ exs ∧ CL d = some C) →
    PySem.W.kitAny X.K (.ref C) (Cs.map Value.ref) = some (ds.any (subX y))
  | [], [], _, _ => rfl
  | d :: ds, D :: Cs, hl, h => by
    obtain ⟨h1, h2⟩ := h 0 d D rfl rfl
    have ih := kitAny_sub F hy hC ds Cs (by simpa using hl) fun j d' C' e1 e2 => h (j + 1) d' C' (by simpa using e1) (by simpa using e2)
    have q := F.kit y hy d h1 C D hC h2
    rw [List.map_cons, List.any_cons]
    refine kitAny_cons q (fun e => ?_) (fun e => ?_)
    · rw [e, Bool.false_or]; exact ih
    · rw [e, Bool.true_or]
  | [], _ :: _, hl, _ => by simp at hl
  | _ :: _, [], hl, _ => by simp at hl
theorem vals_refs : ∀ {Cs : List Addr} {ws : List Value}, Vals (Cs.map V.ref) ws → ws = Cs.map Value.ref
  | [], ws, h => by cases h; rfl
  | C :: Cs, ws, h => by
    cases h with
    | cons r t => cases r; rw [vals_refs t]; rfl
theorem clsNames_calm (c : Ct) (exs : List Str) (b : Bool) : ∀ es, clsNames { c with calm := b } exs es = clsNames c exs es
  | [] => rfl
  | e :: r => by
    cases e with
    | Name d p => simp only [clsNames, clsNames_calm c exs b r]; rfl
    | _ => rfl
variable {a : Addr} {oe : Obj} {pn : List (Addr × Obj)} {y n : Str} {C : Addr} {i : Nat}
/-- the suite's context -/
abbrev Su (X : Cx) (a : Addr) (oe : Obj) (pn : List (Addr × Obj)) : Cx := X.suite a ((a, oe) :: pn)
theorem Good.suite (G : Good X CL cl k c) : Good (Su X a oe pn) CL cl k { c with calm := false } :=
  ⟨G.N, G.nd, G.vis, G.gl, G.loc, G.cel, G.cf, G.knd, G.bl, G.kon, fun x ar h => ⟨(G.fns x ar h).ok⟩, G.un, fun h => by cases h⟩
theorem ExF.suite (F : ExF X CL exs) : ExF (Su X a oe pn) CL exs := ⟨F.made, F.kit, F.kitV, F.exm, F.own⟩
theorem suIsi_ok (G : Good X CL cl k c) (F : ExF X CL exs) (hi : idx n c.N = some i) (hy : y ∈ exs) (hC : CL y = some C) (hz : Zc (.ref C) none oe) (hf : ∃ vs, oe.data = .fields vs) {e : Expr} {cs : List Str} (h : suIsi c exs n e = some cs) : ESu (Su X a oe pn) i a e (cs.any (subX y)) := by
  obtain ⟨C', w1, _, _, _, _, _, EC⟩ := F.made y hy
  rw [hC] at w1; cases w1
  have G' : Good (Su X a oe pn) CL cl k { c with calm := false } := G.suite
  unfold suIsi at h
  split at h
  · rename_i f p y' p' cls pos
    split at h
    · rename_i hh
      obtain ⟨rfl, rfl, h1, h2, h3, h4⟩ := hh
      obtain ⟨g1, g2, g3⟩ := G.mgn h1
      have var : PE (Su X a oe pn) (.Name y' p') (tVar i) := pe_var (by rw [G'.N]; exact idx_ok hi) (G'.vis y' h3) (nmOk_d h2) (nmOk_c h2)
      unfold clsOf at h
      split at h
      · rename_i d pd
        split at h
        · rename_i hd
          cases h
          rcases hd with ⟨hd, hg, hn⟩ | ⟨rfl, hb⟩
          · obtain ⟨D, z1, z2, _⟩ := F.made d hd
            refine pe_imp (pe_callB (call_isE EC hz hf) (G'.gl _ (by unfold Ct.bi at h1; simp only [Bool.and_eq_true] at h1; exact h1.1)) g2 PyProof.Rows.boot_isinstance (pa_cons var (pa_cons (pe_glob (v := .ref D) (G'.gl d hg) z2 rfl (nmOk_d hn)) pa_nil rfl) rfl) (by decide) (by decide) rfl rfl) fun σ H Q h => ?_
            refine ⟨_, h.1, .ref D, .ref D, _, rfl, fun u hu => hu, F.kit y hy d hd C D hC z1, ?_⟩
            rw [show ([d].any (subX y)) = subX y d by simp] at h
            exact h.2 H (fun _ _ z => z) fun _ z => z
          · obtain ⟨g4, g5, g6⟩ := G.mgn hb
            refine pe_imp (pe_callB (call_isE EC hz hf) (G'.gl _ (by unfold Ct.bi at h1; simp only [Bool.and_eq_true] at h1; exact h1.1)) g2 PyProof.Rows.boot_isinstance (pa_cons var (pa_cons (pe_bltn (v := .ty "ValueError") (G'.gl _ (by unfold Ct.bi at hb; simp only [Bool.and_eq_true] at hb; exact hb.1)) g5 (by decide +kernel) rfl (nmOk_n g6) (nmOk_d g6)) pa_nil rfl) rfl) (by decide) (by decide) rfl rfl) fun σ H Q h => ?_
            refine ⟨_, h.1, .ty "ValueError", _, true, rfl, fun u hu => hu, F.kitV y hy C hC, ?_⟩
            have e : ([("ValueError" : Str)].any (subX y)) = true := by simp [subX]
            rw [e] at h
            exact h.2 H (fun _ _ z => z) fun _ z => z
        · cases h
      · rename_i es q1 q2
        split at h
        · rename_i hl
          obtain ⟨Cs, z1, z2, z3, z4, z5⟩ := clsNames_ok G'  (exs := exs) (F.suite) es cs (by rw [clsNames_calm]; exact h)
          refine pe_imp (pe_callB (call_isET EC hz hf) (G'.gl _ (by unfold Ct.bi at h1; simp only [Bool.and_eq_true] at h1; exact h1.1)) g2 PyProof.Rows.boot_isinstance (pa_cons var (pa_cons (pe_tup z1) pa_nil rfl) rfl) (by decide) (by decide) rfl rfl) fun σ H Q h => ?_
          refine ⟨_, h.1, ?_⟩
          refine ⟨by rw [List.length_map, z2]; exact Nat.le_trans hl (by decide), fun p np => ?_⟩
          refine ⟨p, _, _, _, rfl, upd_same, fun ws hw => vals_refs hw, kitAny_sub F hy hC cs Cs (by omega) z5, h.2 _ (fun b o e => ?_) fun b e => ?_⟩
          · rw [upd_ne (ne_of_none e np)]; exact e
          · by_cases hb : b = p
            · subst hb; rw [upd_same] at e; cases e
            · rw [upd_ne hb] at e; exact e
        · cases h
      · cases h
    · cases h
  · cases h
end
end MI
end
section
set_option Elab.async false
set_option linter.all false
set_option maxRecDepth 100000
set_option maxHeartbeats 4000000
/-! MI18: suites, try -/
namespace MI
open PySem PySem.Spec PyProof.Rows L2
section
variable (K : PySem.W.Frag) (CL : Str → Option Addr) (W : WX)
/-- .. where slot i holds the exception -/
def rES (i : Nat) (a : Addr) (cl : Cl) (s : SE) : TE := fun σ H Q => σ[i]? = some (some (V.ref a)) ∧ rE K CL W cl s σ H Q
def rSu (i : Nat) (a : Addr) (cl : Cl) (s : SS) : TS := fun D σ H => σ[i]? = some (some (V.ref a)) ∧ rS K CL W cl s D σ H
end
section
variable {X : Cx} {CL : Str → Option Addr} {cl : Cl} {k : Nat} {c : Ct} {exs : List Str} {a : Addr} {oe : Obj} {pn : List (Addr × Obj)} {y n : Str} {C : Addr} {i : Nat}
theorem rES_of {b : Bool} {e : Expr} (h : ESu (Su X a oe pn) i a e b) : PE (Su X a oe pn) e (rES X.K CL Wno i a cl (eC (.bl b))) := by
  refine pe_imp h fun σ H Q ⟨hs, mu, r, M, hm, hr, p⟩ => ⟨hs, fun H' k1 k2 => ?_⟩
  have st : Stp mu H mu H' := ⟨⟨[], by simp⟩, fun a h => .inl h, fun a o e _ => k1 a o e⟩
  have R' : Rm X.K CL mu H' M := hm.stp st fun b hb => by
    obtain ⟨u, e, _⟩ := hm.ho hb
    rw [e, k1 b u e]
  exact p mu H' st R' _ rfl
theorem suI_ok (G : Good X CL cl k c) (F : ExF X CL exs) (hi : idx n c.N = some i) (hy : y ∈ exs) (hC : CL y = some C) (hz : Zc (.ref C) none oe) (hf : ∃ vs, oe.data = .fields vs) {e : Expr} {s : SuI} (h : suI c exs n e = some s) : PE (Su X a oe pn) e (rES X.K CL Wno i a cl (s.sem y)) := by
  have G' : Good (Su X a oe pn) CL cl k { c with calm := false } := G.suite
  unfold suI at h
  split at h
  · split at h
    · rename_i hx
      split at h
      · rename_i j hj
        cases h
        exact pe_imp ((snd_var (X := Su X a oe pn) (CL := CL) (cl := cl) (by rw [G'.N]; exact idx_ok hj) (G'.vis _ hx.2) (nmOk_d hx.1) (nmOk_c hx.1)) Wno takes_no) fun σ H Q h => h.2
      · cases h
    · cases h
  · split at h
    · rename_i cs h1
      cases h
      refine rES_of (b := SuI.val y (.isi true cs)) (pe_imp (pe_notT (suIsi_ok G F hi hy hC hz hf h1)) fun σ H Q h => ⟨h.1, fun H' k1 k2 => ⟨_, (show cs.any (subX y) = cs.any (subX y) from rfl), ?_⟩⟩)
      have := h.2 H' k1 k2
      simpa only [SuI.val, if_true] using this
    · cases h
  · split at h
    · rename_i cs h1
      cases h
      refine rES_of (b := SuI.val y (.isi false cs)) (pe_imp (suIsi_ok G F hi hy hC hz hf h1) fun σ H Q h => ?_)
      simpa only [SuI.val, Bool.false_eq_true, if_false] using h
    · cases h
def rDsES (K : PySem.W.Frag) (CL : Str → Option Addr) (i : Nat) (a : Addr) (cl : Cl) (s : SDs) : TA := fun σ H Q => σ[i]? = some (some (V.ref a)) ∧ rDs K CL Wno cl s σ H Q
theorem suIs_ok (G : Good X CL cl k c) (F : ExF X CL exs) (hi : idx n c.N = some i) (hy : y ∈ exs) (hC : CL y = some C) (hz : Zc (.ref C) none oe) (hf : ∃ vs, oe.data = .fields vs) : ∀ {es : List Expr} {its : List SuI}, suIs c exs n es = some its →
    PA (Su X a oe pn) es (rDsES X.K CL i a cl (suLst y its)) ∧ its.length = es.length
  | [], its, h => by
    simp only [suIs] at h; cases h
    refine ⟨pa_imp pa_nil fun σ H Q ⟨hs, mu, r, M, hm, hr, p⟩ => ?_, rfl⟩
    exact p.here hm [] rfl
  | e :: r, its, h => by
    unfold suIs at h
    split at h
    · rename_i hst
      split at h
      · rename_i s q h1 h2
        cases h
        obtain ⟨z1, z2⟩ := suIs_ok G F hi hy hC hz hf h2
        refine ⟨pa_imp (pa_cons (suI_ok G F hi hy hC hz hf h1) z1 (star1 hst)) fun σ H Q ⟨hs, mu, r, M, hm, hr, p⟩ => ⟨hs, ?_⟩, by simp [z2]⟩
        refine rE_thenB hm hr Stp.refl p fun x v M1 mu1 H1 n1 h1 p1 => ⟨hs, ?_⟩
        obtain ⟨t, R2, s2, hv⟩ := n1.rm.box h1 n1.st
        refine rDs_thenB R2 (n1.rs.ext t) s2 p1 fun ds vs M3 mu3 H3 n3 h3 p3 => ?_
        exact p3 mu3 H3 (s2.trans n3.st R2) n3.rm (v :: vs) ⟨v, vs, rfl, hv.stp R2 n3.st, h3⟩
      · cases h
    · cases h
theorem suLst_len (y : Str) (cl : Cl) : ∀ (its : List SuI) (r : Env) (M : Mem) (ds : List D) (M' : Mem), suLst y its cl r M = .ok ds M' → ds.length = its.length
  | [], r, M, ds, M', h => by simp only [suLst, dNil] at h; cases h; rfl
  | s :: q, r, M, ds, M', h => by
    simp only [suLst, dCons] at h
    cases e1 : s.sem y cl r M with
    | ok x M1 =>
      rw [e1] at h
      simp only [Res.bind] at h
      cases e2 : suLst y q cl r (box x M1).2 with
      | ok ds' M2 =>
        rw [e2] at h
        simp only [Res.bind] at h
        cases h
        rw [List.length_cons, List.length_cons, suLst_len y cl q _ _ _ _ e2]
      | err _ _ => rw [e2] at h; simp only [Res.bind] at h; cases h
      | bad => rw [e2] at h; simp only [Res.bind] at h; cases h
    | err _ _ => rw [e1] at h; simp only [Res.bind] at h; cases h
    | bad => rw [e1] at h; simp only [Res.bind] at h; cases h
theorem suLst_ok (G : Good X CL cl k c) (F : ExF X CL exs) (hi : idx n c.N = some i) (hy : y ∈ exs) (hC : CL y = some C) (hz : Zc (.ref C) none oe) (hf : ∃ vs, oe.data = .fields vs) {es : List Expr} {its : List SuI} {pos : Pos} (hl : es.length ≤ 100) (h : suIs c exs n es = some its) :
    PE (Su X a oe pn) (.List es pos) (rES X.K CL Wno i a cl (eLst (suLst y its))) := by
  obtain ⟨z1, z2⟩ := suIs_ok (a := a) (pn := pn) (cl := cl) G F hi hy hC hz hf h
  refine pe_imp (pe_lst z1) fun σ H Q ⟨hs, mu, r, M, hm, hr, p⟩ => ⟨hs, ?_⟩
  refine rDs_then hm hr p fun ds vs M1 mu1 H1 n1 h1 p1 => ?_
  split at p1
  · rename_i c
    exact ⟨by rw [← h1.length]; exact c, end_lst n1.rm (p1.rb n1) h1⟩
  · exact bad_end p1
theorem suSet_ok (G : Good X CL cl k c) {j : Nat} {x : Str} {p1 pos : Pos} {e : Expr} {se : SE} {rest : List Stmt} {u : SS} (hx : c.st x = true) (hj : idx x c.N = some j) (hji : ¬ j = i) (hcp : notComp e = true) (he : PE (Su X a oe pn) e (rES X.K CL Wno i a cl se))
    (hr : PSs (Su X a oe pn) rest (rSu X.K CL Wno i a cl u)) : PSs (Su X a oe pn) (.Assign [.Name x p1] e pos :: rest) (rSu X.K CL Wno i a cl (sSeq (sSet j se) u)) := by
  obtain ⟨l1, l2⟩ := G.st hx
  refine pss_imp (pss_cons (ps_set (X := Su X a oe pn) (i := j) (by rw [show (Su X a oe pn).N = c.N from G.N]; exact G.nd) (by rw [show (Su X a oe pn).N = c.N from G.N]; exact idx_ok hj) l1 he (swaps0 hcp) l2) hr) fun D σ H ⟨hs, mu, r, M, hm, hrs, p⟩ => ?_
  refine ⟨hs, mu, r, M, hm, hrs, ?_⟩
  unfold sSeq sSet at p
  cases e1 : se cl r M with
  | ok x M1 =>
    rw [e1] at p
    simp only [ofE] at p
    intro mu' H' s' R' v hv
    obtain ⟨t, R2, s2, hb⟩ := R'.box hv s'
    refine ⟨?_, mu' ++ t, _, _, R2, ((hrs.stp hm s').ext t).set hb, p.from s2 R2⟩
    rw [List.getElem?_set_ne hji]; exact hs
  | err c M1 =>
    rw [e1] at p
    simp only [ofE] at p
    intro mu' H' C hC s' R'
    exact (p mu' H' σ C hC s' R' (hrs.stp hm s')).elim
  | bad => rw [e1] at p; exact p.elim
theorem suSs_ok (G : Good X CL cl k c) (F : ExF X CL exs) (hi : idx n c.N = some i) (hy : y ∈ exs) (hC : CL y = some C) (hz : Zc (.ref C) none oe) (hf : ∃ vs, oe.data = .fields vs) : ∀ {ss : List Stmt} {spec : List SuS}, suSs c exs n i ss = some spec →
    PSs (Su X a oe pn) ss (rSu X.K CL Wno i a cl (suBody y spec))
  | [], spec, h => by
    simp only [suSs] at h; cases h
    refine pss_imp pss_nil fun D σ H ⟨hs, mu, r, M, hm, hr, p⟩ => ?_
    exact p.here Stp.refl hm hr
  | st :: r, spec, h => by
    unfold suSs at h
    split at h
    · rename_i s q h1 h2
      cases h
      have ih := suSs_ok G F hi hy hC hz hf h2
      have G' : Good (Su X a oe pn) CL cl k { c with calm := false } := G.suite
      unfold suS at h1
      split at h1
      · split at h1
        · rename_i hx
          split at h1
          · rename_i j its hj hs
            split at h1
            · cases h1
            · rename_i hji
              cases h1
              exact suSet_ok G hx.1 hj hji rfl (suLst_ok G F hi hy hC hz hf hx.2 hs) ih
          · cases h1
        · cases h1
      · split at h1
        · rename_i hx
          obtain ⟨hx1, rfl, hx3, hx4⟩ := hx
          split at h1
          · rename_i j its hj hs
            split at h1
            · cases h1
            · rename_i hji
              cases h1
              refine suSet_ok G hx1 hj hji rfl ?_ ih
              have var : ∀ vp : Pos, SndE (Su X a oe pn) CL cl (.Name _ vp) (eVar j) := fun vp => snd_var (by rw [G'.N]; exact idx_ok hj) ((G.st hx1).1.elim .inl fun z => .inr (.inl z)) (nmOk_d hx3) (nmOk_c hx3)
              refine pe_imp (pe_op op_addAll (var _ Wno takes_no) (suLst_ok G F hi hy hC hz hf hx4 hs)) fun σ H Q ⟨hs, mu, r, M, hm, hrs, p⟩ => ?_
              refine rE_then hm hrs p fun x v M1 mu1 H1 n1 h1 p1 => ⟨hs, ?_⟩
              refine rE_then n1.rm n1.rs p1 fun y u M2 mu2 H2 n2 h2 p2 => ?_
              refine ok2_add Wno σ mu2 H2 M2 x y v u Q n2.rm (h1.w.stp n1.rm n2.st) h2.w ?_
              exact p2.mono fun z M3 mu3 H3 s3 R3 q w hw => q w (hw.base (n1.st.trans n2.st n1.rm) n2.rm)
          · cases h1
        · cases h1
      · split at h1
        · rename_i hx
          split at h1
          · rename_i j hj
            split at h1
            · cases h1
            · rename_i hji
              cases h1
              exact suSet_ok G hx hj hji rfl (pe_imp ((snd_bl (X := Su X a oe pn) (CL := CL) (cl := cl)) Wno takes_no) fun σ H Q h => h.2) ih
          · cases h1
        · cases h1
      · split at h1
        · rename_i hx
          split at h1
          · rename_i j it hj hit
            split at h1
            · cases h1
            · rename_i hji
              cases h1
              exact suSet_ok G hx.1 hj hji hx.2 (suI_ok G F hi hy hC hz hf hit) ih
          · cases h1
        · cases h1
      · cases h1
    · cases h
/-! ### try -/
theorem stm_tryAs {x : Str} {b0 : Stmt} {sts stt : List Stmt} {u : SS} {spec : List SuS} {np pos' pos : Pos} (G : Good X CL cl k c) (F : ExF X CL exs) (hs : X.stack = X.env :: X.outer) (hf : X.env.frame = some X.env.locals) (hi : idx n c.N = some i) (hln : X.env.kindOf n = some .local)
    (hx : x ∈ exs) (hgx : c.gl x = true) (hnx : nmOk x = true)
    (hb : ∀ (pn : List (Addr × Obj)) (xe : Value → Shared → Prop), SndB (X.tr pn xe) CL cl sts u) (hsp : suSs c exs n i (b0 :: stt) = some spec) :
    SndS X CL cl (.Try sts [.ExceptHandler (some (.Name x np)) (some n) (b0 :: stt) pos'] [] [] pos) (sTry (some i) u (catX exs x) (suSem exs spec)) := fun W tk po => by
  obtain ⟨Cx', w1, w2, w3, w4, w5, w6, EC⟩ := F.made x hx
  have hc : Names X x (.ref Cx') := ⟨G.gl x hgx, nmOk_d hnx, .inl w2⟩
  refine ps_imp (ps_try_as (i := i) (ts := fun a cls d => fun D σ H => ∃ y : Str, (∃ C, CL y = some C ∧ cls = .ref C) ∧ d = none ∧ y ∈ exs ∧ (i < σ.length → σ[i]? = some (some (V.ref a))) ∧ rS X.K CL Wno cl (suBody y spec) D σ H) (tb := fun W' => rS X.K CL W' cl u) hs hf (by rw [G.N]; exact G.nd) (by rw [G.N]; exact idx_ok hi) hln hc tk (fun W' pn xe tk' po' => hb pn xe W' tk' po') fun a oe cls d pn hz hd => pss_some fun y hy => ?_) fun D σ H h => ?_
  · obtain ⟨C, h1, rfl⟩ := hy
    refine ⟨fun pins s σ H D I ⟨hd0, hye, q0, q⟩ => ?_⟩
    subst hd0
    refine (suSs_ok G F hi hye h1 hz hd hsp).run pins s σ H D I ⟨q0 ?_, q⟩
    rw [I.len, show (Su X a oe pn).N = c.N from G.N]
    exact (List.getElem?_eq_some_iff.mp (idx_ok hi)).1
  · obtain ⟨mu, r, M, hm, hs, p⟩ := h
    refine ⟨mu, r, M, hm, hs, ?_⟩
    unfold sTry at p
    cases e : u cl r M with
    | nx r1 M1 => rw [e] at p; exact p
    | ret y M1 => rw [e] at p; exact p
    | bad => rw [e] at p; exact p
    | err c r1 M1 =>
      rw [e] at p
      intro mu' H' σ' C hC st R' S'
      refine ⟨catX exs x c, F.exm c x hx C Cx' hC w1, fun hb2 a na => ?_, fun hb2 => ?_⟩
      · simp only [hb2, if_true] at p
        have hce : c ∈ exs := by
          unfold catX at hb2
          simp only [Bool.and_eq_true, decide_eq_true_eq] at hb2
          exact hb2.1
        refine ⟨c, ⟨C, hC, rfl⟩, rfl, hce, ?_, mu', gone (some i) r1, M1, R', ?_, ?_⟩
        · intro hl
          rw [List.length_set] at hl
          rw [List.getElem?_set_self hl]
        · exact S'.gone i
        · simp only [suSem, if_pos hce] at p
          cases e2 : suBody c spec cl (gone (some i) r1) M1 with
          | nx r2 M2 =>
            rw [e2] at p
            exact fun mu3 H3 σ3 s3 R3 q3 => p mu3 H3 _ (st.trans s3 R') R3 (q3.gone i)
          | ret y M2 => rw [e2] at p; exact PsS.from (res := .ret y M2) p st R'
          | err c2 r2 M2 => rw [e2] at p; exact p.elim
          | bad => rw [e2] at p; exact p
      · simp only [hb2, Bool.false_eq_true, if_false] at p
        exact p mu' H' σ' C hC st R' S'
end
end MI
end
section
set_option Elab.async false
set_option linter.all false
set_option maxRecDepth 100000
set_option maxHeartbeats 4000000
/-! MI19: statements of the text; the table of the defs -/
namespace MI
open PySem PySem.Spec PyProof.Rows L2
def notTup : Expr → Bool
  | .Tuple _ _ _ => false
  | _ => true
/-- a comprehension that is given to a name swaps -/
def swB (c : Ct) (x : Str) (p1 : Pos) : Expr → Bool
  | .ListComp _ _ scope vp => c.loc x && ((p1.line == vp.line) && !(scope.names.any fun (n, k) => n == x && (k == .local || k == .cell)))
  | _ => false
def notOther : Expr → Bool
  | .SetComp _ _ _ _ => false
  | .DictComp _ _ _ _ _ => false
  | _ => true
def bodyOf (f : Stmt → Option SS) : List Stmt → Option SS
  | [] => some sNil
  | [s] => f s
  | s :: t :: r => match f s, bodyOf f (t :: r) with
    | some u, some v => some (sSeq u v)
    | _, _ => none
def cmpAsg (r : Cmp) (c : Ct) (x : Str) (a : Expr) : Option SS :=
  if c.st x = true ∧ notOther a = true then match idx x c.N, r.e c a with
    | some i, some sa => some (sSet i sa)
    | _, _ => none
  else none
def cmpUnp (r : Cmp) (c : Ct) (tg a : Expr) : Option SS :=
  if notComp a = true ∧ notTup a = true then match tgOf c tg, r.e c a with
    | some (.tp is), some sa => some (sUnp is sa)
    | _, _ => none
  else none
def cmpSetIx (r : Cmp) (c : Ct) (o k a : Expr) : Option SS :=
  if notComp a = true ∧ notSlice k = true then match r.e c o, r.e c k, r.e c a with
    | some so, some sk, some sa => some (sSetIx so sk sa)
    | _, _, _ => none
  else none
def raised : Expr → Option Str
  | .Call (.Name x _) [.Constant (.str _) _ _] [] _ => some x
  | _ => none
def stepS (r : Cmp) (exs : List Str) (f : List Stmt → Option SS) (c : Ct) : Stmt → Option SS
  | .Expr a _ => if notComp a = true then match r.e c a with
      | some sa => some (sExpr sa)
      | none => none
    else none
  | .Return none _ => some sRetN
  | .Return (some a) _ => match r.e c a with
    | some sa => some (sRet sa)
    | none => none
  | .If t a b _ => match r.t c t, f a, f b with
    | some st, some sa, some sb => some (sIf st sa sb)
    | _, _, _ => none
  | .For tg it body [] _ => if notSet it = true then match itOf r c it, tgOf c tg, f body with
      | some si, some t, some sb => some (sFor t si sb)
      | _, _, _ => none
    else none
  | .Assign [.Name x _] a _ => cmpAsg r c x a
  | .Assign [.Subscript o k _] a _ => cmpSetIx r c o k a
  | .Assign [.Tuple es j p] a _ => cmpUnp r c (.Tuple es j p) a
  | .Raise (some e) none _ => match raised e with
    | some x => if x ∈ exs ∧ c.gl x = true ∧ nmOk x = true then some (sRaise x) else none
    | none => none
  | .Try sts [.ExceptHandler (some (.Name x _)) (some n) (b0 :: stt) _] [] [] _ =>
    if x ∈ exs ∧ c.gl x = true ∧ nmOk x = true ∧ c.loc n = true then match f sts, idx n c.N with
      | some u, some i => match suSs c exs n i (b0 :: stt) with
        | some spec => some (sTry (some i) u (catX exs x) (suSem exs spec))
        | none => none
      | _, _ => none
    else none
  | _ => none
def cmpS (r : Cmp) (exs : List Str) : Nat → Ct → List Stmt → Option SS
  | 0, _, _ => none
  | n + 1, c, ss => bodyOf (stepS r exs (cmpS r exs n c) c) ss
structure GoodS (X : Cx) (CL : Str → Option Addr) (cl : Cl) (k : Nat) (c : Ct) (exs : List Str) : Prop where
  g : Good X CL cl k c
  ex : ExF X CL exs
  stk : X.stack = X.env :: X.outer
  frm : X.env.frame = some X.env.locals
  sc : X.env.scope = c.sc
  clm : c.calm = true
section
variable {P : Program} {w : World} {K : PySem.W.Frag} {mg : Str → Option Value} {base : Heap} {CL : Str → Option Addr} {cl : Cl} {k : Nat} {r : Cmp} {exs : List Str}
theorem GoodS.tr {X : Cx} {c : Ct} (G : GoodS X CL cl k c exs) (pn : List (Addr × Obj)) (xe : Value → Shared → Prop) : GoodS (X.tr pn xe) CL cl k c exs :=
  ⟨⟨G.g.N, G.g.nd, G.g.vis, G.g.gl, G.g.loc, G.g.cel, G.g.cf, G.g.knd, G.g.bl, G.g.kon, fun x ar h => ⟨(G.g.fns x ar h).ok⟩, G.g.un, G.g.calm⟩, ⟨G.ex.made, G.ex.kit, G.ex.kitV, G.ex.exm, G.ex.own⟩, G.stk, G.frm, G.sc, G.clm⟩
structure SndP (P : Program) (w : World) (K : PySem.W.Frag) (mg : Str → Option Value) (base : Heap) (CL : Str → Option Addr) (cl : Cl) (k : Nat) (exs : List Str) (c : Ct) (f : List Stmt → Option SS) : Prop where
  b : ∀ (X : Cx) ss s, X.prog = P → X.w = w → X.K = K → X.mg = mg → X.base = base → GoodS X CL cl k c exs → f ss = some s → SndB X CL cl ss s
theorem bodyOf_ok {X : Cx} {f : Stmt → Option SS} (hf : ∀ st s, f st = some s → SndS X CL cl st s) : ∀ (ss : List Stmt) (s : SS), bodyOf f ss = some s → SndB X CL cl ss s
  | [], s, h => by simp only [bodyOf] at h; cases h; exact bnd_nil
  | [a], s, h => by simp only [bodyOf] at h; exact bnd_one (hf _ _ h)
  | a :: b :: q, s, h => by
    unfold bodyOf at h
    split at h
    · rename_i u v h1 h2
      cases h
      exact bnd_cons (hf _ _ h1) (bodyOf_ok hf (b :: q) v h2)
    · cases h
theorem swap_ok {X : Cx} {c : Ct} (G : GoodS X CL cl k c exs) {x : Str} {p1 : Pos} {a : Expr} {l : Nat} (ho : notOther a = true) : swapsWith a (some (.Name x p1)) l X.env = pure (swB c x p1 a) := by
  have hk := G.g.knd
  have hb : X.env.blockKind = .function := by unfold Env.blockKind; rw [hk]; rfl
  cases a with
  | ListComp elt gs scope vp =>
    unfold swapsWith swB Ct.loc Ct.lk
    have e : X.env.kindOf x = c.sc.names.lookup x := by unfold Env.kindOf; rw [G.sc]
    simp only [hb, e, Expr.pos]
    cases h : c.sc.names.lookup x with
    | none => rfl
    | some κ => cases κ <;> first | rfl | (simp; done)
  | SetComp _ _ _ _ => cases ho
  | DictComp _ _ _ _ _ => cases ho
  | _ => rfl
/-- a comprehension given to a name -/
structure SwC (P : Program) (w : World) (K : PySem.W.Frag) (mg : Str → Option Value) (base : Heap) (CL : Str → Option Addr) (cl : Cl) (k : Nat) (r : Cmp) : Prop where
  s : ∀ (X : Cx) (c : Ct) elt gs scope vp s, X.prog = P → X.w = w → X.K = K → X.mg = mg → X.base = base → Good X CL cl k c → r.e c (.ListComp elt gs scope vp) = some s →
    ∀ (i : Nat) (y : Str) (py spos : Pos), X.N[i]? = some y → X.env.scope.names.lookup y = some .local → swapsWith (.ListComp elt gs scope vp) (some (.Name y py)) spos.line X.env = pure true → SndS X CL cl (.Assign [.Name y py] (.ListComp elt gs scope vp) spos) (sSet i s)
theorem cmp_sw : ∀ n, SwC P w K mg base CL cl k (cmp n)
  | 0 => ⟨fun X c elt gs scope vp s _ _ _ _ _ _ h => by simp [cmp] at h⟩
  | n + 1 => ⟨fun X c elt gs scope vp s hP hw hK hm hb G h i y py spos h1 h2 h3 => by
    have h' : stepE (cmp n) c (.ListComp elt gs scope vp) = some s := h
    unfold stepE at h'
    cases gs with
    | nil => cases h'
    | cons g gs =>
      obtain ⟨tg, iter, ifs, ia⟩ := g
      cases gs with
      | nil =>
        simp only at h'
        split at h'
        · rename_i hi
          subst hi
          exact stm_cmpComp (cmp_ok n) hP hw hK hm hb G h' h1 h2 h3
        · cases h'
      | cons g2 gs => cases h'⟩
theorem stepS_ok (C : SndC P w K mg base CL cl k r) (CW : SwC P w K mg base CL cl k r) {f : List Stmt → Option SS} {c : Ct} (S : SndP P w K mg base CL cl k exs c f) {X : Cx} (hP : X.prog = P) (hw : X.w = w) (hK : X.K = K) (hm : X.mg = mg) (hb : X.base = base) (G : GoodS X CL cl k c exs) {st : Stmt} {s : SS} (h : stepS r exs f c st = some s) : SndS X CL cl st s := by
  have ev : ∀ e s, r.e c e = some s → SndE X CL cl e s := fun e s z => C.e X c e s hP hw hK hm hb G.g z
  have tv : ∀ e s, r.t c e = some s → SndT X CL cl e s := fun e s z => C.t X c e s hP hw hK hm hb G.g z
  have bv : ∀ e s, f e = some s → SndB X CL cl e s := fun e s z => S.b X e s hP hw hK hm hb G z
  have hc := (G.g.calm G.clm).1
  unfold stepS at h
  split at h
  · split at h
    · rename_i hn
      split at h
      · rename_i sa h1; cases h; exact stm_expr (ev _ _ h1) (swaps0 hn)
      · cases h
    · cases h
  · cases h; exact stm_retN
  · split at h
    · rename_i sa h1; cases h; exact stm_ret (ev _ _ h1)
    · cases h
  · split at h
    · rename_i s1 s2 s3 h1 h2 h3; cases h; exact stm_if (tv _ _ h1) (bv _ _ h2) (bv _ _ h3)
    · cases h
  · split at h
    · rename_i hn
      split at h
      · rename_i s1 s2 s3 h1 h2 h3; cases h; exact stm_for hc (itOf_ok C hP hw hK hm hb G.g h1) (tgOf_ok G.g hc h2) (bv _ _ h3) (fold0 hn)
      · cases h
    · cases h
  · rename_i x p1 a pos
    unfold cmpAsg at h
    split at h
    · rename_i hh
      split at h
      · rename_i i sa h1 h2
        cases h
        obtain ⟨l1, l2⟩ := G.g.st hh.1
        have hN : X.N[i]? = some x := by rw [G.g.N]; exact idx_ok h1
        have hnd : X.N.Nodup := by rw [G.g.N]; exact G.g.nd
        cases hsw : swB c x p1 a with
        | false => exact stm_set hnd hN l1 l2 (ev _ _ h2) (by rw [swap_ok G hh.2, hsw])
        | true =>
          have hsw' := swap_ok (l := pos.line) G (x := x) (p1 := p1) hh.2
          rw [hsw] at hsw'
          cases a with
          | ListComp elt gs scope vp =>
            have hl : c.loc x = true := by unfold swB at hsw; simp only [Bool.and_eq_true] at hsw; exact hsw.1
            exact CW.s X c elt gs scope vp sa hP hw hK hm hb G.g h2 i x p1 pos hN (G.g.loc x hl) hsw'
          | _ => cases hsw
      · cases h
    · cases h
  · rename_i o kk p1 a pos
    unfold cmpSetIx at h
    split at h
    · rename_i hh
      split at h
      · rename_i so sk sa h1 h2 h3
        cases h
        refine stm_setIx (ev _ _ h1) (ev _ _ h2) (ev _ _ h3) (set_all (by have := G.g.un; omega)) setIx_ok ?_ ?_ rfl ?_
        · unfold swapsWithSole; exact swaps0 hh.1
        · rfl
        · have h2 := hh.2
          cases kk <;> first | (intro v; rfl) | cases h2
      · cases h
    · cases h
  · rename_i es jj p1 a pos
    unfold cmpUnp at h
    split at h
    · rename_i hh
      split at h
      · rename_i is sa h1 h2
        cases h
        have h3 := hh.2
        have sw : swapsWithSole [Expr.Tuple es jj p1] a pos.line X.env = pure false := by unfold swapsWithSole; exact swaps0 hh.1
        refine stm_unp (tgOf_ok G.g hc h1) (ev _ _ h2) sw ?_ rfl
        cases a <;> first | rfl | cases h3
      · cases h
    · cases h
  · split at h
    · rename_i e pos x hx
      split at h
      · rename_i hh
        cases h
        obtain ⟨C', w1, w2, w3, w4, w5, w6, EC⟩ := G.ex.made x hh.1
        unfold raised at hx
        split at hx
        · cases hx
          exact stm_raise hc w3 w2 w4 w5 w6 (G.g.gl x hh.2.1) (nmOk_d hh.2.2) w1
        · cases hx
      · cases h
    · cases h
  · split at h
    · rename_i hh
      split at h
      · rename_i u i h1 h2
        split at h
        · rename_i spec h3
          cases h
          refine stm_tryAs G.g G.ex G.stk G.frm h2 (G.g.loc _ hh.2.2.2) hh.1 hh.2.1 hh.2.2.1 (fun pn xe => ?_) h3
          exact S.b (X.tr pn xe) _ _ hP hw hK hm hb (G.tr pn xe) h1
        · cases h
      · cases h
    · cases h
  · cases h
theorem cmpS_ok (C : SndC P w K mg base CL cl k r) (CW : SwC P w K mg base CL cl k r) (c : Ct) : ∀ n, SndP P w K mg base CL cl k exs c (cmpS r exs n c)
  | 0 => ⟨fun X ss s _ _ _ _ _ _ h => by simp [cmpS] at h⟩
  | n + 1 => ⟨fun X ss s hP hw hK hm hb G h => bodyOf_ok (fun st s h => stepS_ok C CW (cmpS_ok C CW c n) hP hw hK hm hb G h) ss s h⟩
end
end MI
end
section
set_option Elab.async false
set_option linter.all false
set_option maxRecDepth 100000
set_option maxHeartbeats 4000000
/-! MI20: the program's top, the table, the law's end -/
namespace MI
open PySem PySem.Spec PyProof.Rows L2 He
/-! ### facts of the top -/
mutual
def dB (K : PySem.W.Frag) : D → Value → Bool
  | .non, .none => true
  | .bl b, .bool c => b == c
  | .int i, .int j _ => decide (i = j)
  | .str x, .str y _ => decide (x = y)
  | .tup ds, .ref a => match K.lookup a with
    | some ⟨.type c, _, .seq its _, _⟩ => decide (c = "tuple") && (decide (its.size ≤ sizeLine) && dBs K ds its.toList)
    | _ => false
  | _, _ => false
def dBs (K : PySem.W.Frag) : List D → List Value → Bool
  | [], [] => true
  | d :: ds, u :: us => dB K d u && dBs K ds us
  | _, _ => false
end
mutual
theorem dB_ok {K : PySem.W.Frag} : ∀ {d : D} {u : Value}, dB K d u = true → ∃ v, RelV v u ∧ ∀ mu H, Rv K mu H d v
  | .non, u, h => by
    cases u <;> simp [dB] at h
    exact ⟨.non, rfl, fun _ _ => rfl⟩
  | .bl b, u, h => by
    cases u <;> simp [dB] at h
    subst h
    exact ⟨.bl _, rfl, fun _ _ => rfl⟩
  | .int i, u, h => by
    cases u <;> simp [dB] at h
    subst h
    exact ⟨.int _, ⟨_, rfl⟩, fun _ _ => rfl⟩
  | .str i, u, h => by
    cases u <;> simp [dB] at h
    subst h
    exact ⟨.str _, ⟨_, rfl⟩, fun _ _ => rfl⟩
  | .tup ds, u, h => by
    cases u with
    | ref a =>
      simp only [dB] at h
      cases q : K.lookup a with
      | none => rw [q] at h; cases h
      | some o =>
        obtain ⟨oc, od, dt, osl⟩ := o
        rw [q] at h
        cases oc with
        | type c =>
          cases dt with
          | seq its n =>
            simp only [Bool.and_eq_true, decide_eq_true_eq] at h
            obtain ⟨h1, h2, h3⟩ := h
            obtain ⟨vs, z1, z2⟩ := dBs_ok h3
            exact ⟨.ref a, rfl, fun mu H => ⟨a, vs, rfl, .inr ⟨_, its, n, q, congrArg Value.type h1, rfl, h2, z1⟩, z2 mu H⟩⟩
          | _ => cases h
        | _ => cases dt <;> cases h
    | _ => simp [dB] at h
  | .hdl _, u, h => by simp [dB] at h
  | .ro _, u, h => by simp [dB] at h
theorem dBs_ok {K : PySem.W.Frag} : ∀ {ds : List D} {us : List Value}, dBs K ds us = true → ∃ vs, Vals vs us ∧ ∀ mu H, Rvs K mu H ds vs
  | [], [], _ => ⟨[], .nil, fun _ _ => rfl⟩
  | [], _ :: _, h => by simp [dBs] at h
  | _ :: _, [], h => by simp [dBs] at h
  | d :: ds, u :: us, h => by
    simp only [dBs, Bool.and_eq_true] at h
    obtain ⟨v, z1, z2⟩ := dB_ok h.1
    obtain ⟨vs, z3, z4⟩ := dBs_ok h.2
    exact ⟨v :: vs, .cons z1 z3, fun mu H => ⟨v, vs, rfl, z2 mu H, z4 mu H⟩⟩
end
def konB (K : PySem.W.Frag) (p : Str × D) : Bool := match PySem.W.nsIn K mainGlobals p.1 with
  | some (some u) => dB K p.2 u
  | _ => false
def exB (K : PySem.W.Frag) (exs : List Str) (x : Str) : Bool :=
  eqO (PySem.W.findIn K (.ref (ga K x)) "__getattribute__") (some (some (.builtin "BaseException.__getattribute__"))) && (eqO (PySem.W.findIn K (.ref (ga K x)) "__getattr__") (some none) && (PySem.W.hasDictIn K (ga K x) &&
  (eqO (PySem.W.findIn K (.ref (ga K x)) "__class__") (some (some (.builtin "object.__class__"))) && (eqO (PySem.W.specialIn K (.builtin "object.__class__") "__get__") (some (some (.builtin "getset_descriptor.__get__"))) &&
  (decide (PySem.W.takesIn K (.builtin "object.__class__") = some true) && (decide (PySem.W.mroIn K (ga K x) (.type "object") = some true) && (decide (PySem.W.kitOne K (.ref (ga K x)) (.type "ValueError") = some true) &&
  exs.all fun y => decide (PySem.W.kitOne K (.ref (ga K x)) (.ref (ga K y)) = some (subX x y)) && decide (PySem.W.exmOne K (.ref (ga K x)) (.ref (ga K y)) = some (catX exs y x)))))))))
structure Cfg where
  fns : List (Str × Nat)
  bl : List Str
  kon : List (Str × D)
  exs : List Str
def Cfg.more (g : Cfg) (K : PySem.W.Frag) : Bool := g.kon.all (konB K) && (g.exs.all (exB K g.exs) && decide (("ValueError" : Str) ∉ g.exs))
def Cfg.fa (g : Cfg) : List Fa := g.fns.map (fun p => Fa.glo p.1) ++ (g.bl.map Fa.free ++ (g.exs.map Fa.glo ++ g.exs.map Fa.exc))
/-- a def of the text -/
structure Df where
  d : DefD
  N : List Str
  ps : List Str
  fn : Fn
def Df.name (t : Df) : Str := t.d.at_.1
/-! ### the hook -/
abbrev AlM : Type := AlD × Bool
def obsM (g : Cfg) (fn : List DefD) (K : PySem.W.Frag) : AlM := (obsD g.fa fn K, g.more K)
def obsMG (n : Nat) (c : Cfg) (fn : List DefD) (g : Addr → Option Obj) : AlM := obsM c fn (frG g (asD g n))
def hookM (n : Nat) (c : Cfg) (fn : List DefD) : PySem.W.Hook where
  α := AlM
  obs := fun s => obsMG n c fn s.heap.get?
  val := fun _ => (valD fn, true)
  says := fun _ h => ∃ K : PySem.W.Frag, K.In h ∧ SaysD c.fa fn K ∧ c.more K = true
  of := fun _ _ e => ⟨_, frG_in, congrArg (fun z : AlM => z.1) e, congrArg (fun z : AlM => z.2) e⟩
  keeps := fun _ _ _ ⟨K, hK, a, b⟩ k => ⟨K, PySem.W.Frag.In.keeps hK k, a, b⟩
theorem obsMG_eq {n : Nat} {c : Cfg} {fn : List DefD} {g : Addr → Option Obj} {s : Shared} (h : ∀ a, g a = s.heap.get? a) : obsMG n c fn g = (hookM n c fn).obs s := by
  have e : g = s.heap.get? := funext h
  rw [e] <;> rfl

/-! ### the table -/
def tabOf (ts : List Df) : Tab := ts.map fun t => (t.name, t.fn)
structure DfOk (g : Cfg) (ts : List Df) (t : Df) : Prop where
  cmp : cmpS (cmp 60) g.exs 60 ⟨t.N, t.d.scope, g.fns, g.bl, g.kon, true⟩ t.d.body = some t.fn.body
  sc : FnScope t.N t.ps t.d.scope
  ar : t.fn.ar = t.ps.length
  ns : t.N.length = t.fn.ns
  at_ : t.d.at_.2 = none
  dfl : t.d.dfl = []
  kwd : t.d.kwd = []
  look : (tabOf ts).lookup t.name = some t.fn
  bnd : ∀ (kV doc pm : Value) (an : Option Addr) (cdv ct : Value) (us : List Value), us.length = t.ps.length → bindArgs (PySem.W.fnOf t.d.name t.d.qual t.d.params t.d.body t.d.scope .none kV doc pm an cdv ct) ⟨us, []⟩ = pure (t.ps.zip us)
theorem lookup_mem' {A : Type} {x : Str} {d : A} : ∀ {l : List (Str × A)}, l.lookup x = some d → (x, d) ∈ l
  | [], h => by simp at h
  | (y, e) :: r, h => by
    rw [List.lookup_cons] at h
    split at h
    · rename_i q
      simp only [Option.some.injEq] at h
      rw [beq_iff_eq.mp q, h]; exact List.mem_cons_self
    · exact List.mem_cons_of_mem _ (lookup_mem' h)
structure Facts (g : Cfg) (ts : List Df) (K : PySem.W.Frag) (mg : Str → Option Value) : Prop where
  ok : ∀ t ∈ ts, DfOk g ts t
  fns : g.fns = ts.map fun t => (t.name, t.ps.length)
  says : SaysD g.fa (ts.map Df.d) K
  more : g.more K = true
  glo : ∀ x, Fa.glo x ∈ g.fa → mg x = some (.ref (ga K x))
  free : ∀ x ∈ g.bl, mg x = none
  kon : ∀ p ∈ g.kon, ∃ u, mg p.1 = some u ∧ dB K p.2 u = true
theorem facts_mk {g : Cfg} {ts : List Df} {K : PySem.W.Frag} {mg : Str → Option Value} {h : Heap} (ok : ∀ t ∈ ts, DfOk g ts t) (fns : g.fns = ts.map fun t => (t.name, t.ps.length)) (X : K.In h) (G : h.Ns mainGlobals mg) (s : SaysD g.fa (ts.map Df.d) K) (m : g.more K = true) : Facts g ts K mg where
  ok := ok
  fns := fns
  says := s
  more := m
  glo := fun x hx => glo_ok X G (s.facts hx)
  free := fun x hx => free_ok X G (s.facts (show Fa.free x ∈ g.fa from List.mem_append_right _ (List.mem_append_left _ (List.mem_map.mpr ⟨x, hx, rfl⟩))))
  kon := fun p hp => by
    unfold Cfg.more at m
    have h1 := List.all_eq_true.mp (ba m).1 p hp
    unfold konB at h1
    split at h1
    · rename_i u e; exact ⟨u, PySem.W.mg_of X G e, h1⟩
    · cases h1
def Cfg.CL (g : Cfg) (K : PySem.W.Frag) (x : Str) : Option Addr := if x ∈ g.exs then some (ga K x) else none
theorem CL_eq {g : Cfg} {K : PySem.W.Frag} {x : Str} {C : Addr} (h : g.CL K x = some C) : x ∈ g.exs ∧ C = ga K x := by
  unfold Cfg.CL at h
  split at h
  · rename_i hx; cases h; exact ⟨hx, rfl⟩
  · cases h
theorem exF_of {g : Cfg} {ts : List Df} {K : PySem.W.Frag} {mg : Str → Option Value} (F : Facts g ts K mg) {X : Cx} (hK : X.K = K) (hm : X.mg = mg) : ExF X (g.CL K) g.exs := by
  subst hK; subst hm
  have m := F.more
  unfold Cfg.more at m
  obtain ⟨_, m⟩ := ba m
  obtain ⟨m1, m2⟩ := ba m
  have key : ∀ x ∈ g.exs, exB X.K g.exs x = true := fun x hx => List.all_eq_true.mp m1 x hx
  have cl : ∀ x ∈ g.exs, g.CL X.K x = some (ga X.K x) := fun x hx => by unfold Cfg.CL; rw [if_pos hx]
  have ex : ∀ x ∈ g.exs, (Fa.exc x).ok X.K = true := fun x hx => F.says.facts (List.mem_append_right _ (List.mem_append_right _ (List.mem_append_right _ (List.mem_map.mpr ⟨x, hx, rfl⟩))))
  have gl : ∀ x ∈ g.exs, X.mg x = some (.ref (ga X.K x)) := fun x hx => F.glo x (List.mem_append_right _ (List.mem_append_right _ (List.mem_append_left _ (List.mem_map.mpr ⟨x, hx, rfl⟩))))
  have all : ∀ x ∈ g.exs, ∀ y ∈ g.exs, PySem.W.kitOne X.K (.ref (ga X.K x)) (.ref (ga X.K y)) = some (subX x y) ∧ PySem.W.exmOne X.K (.ref (ga X.K x)) (.ref (ga X.K y)) = some (catX g.exs y x) := fun x hx y hy => by
    have := key x hx
    unfold exB at this
    simp only [Bool.and_eq_true, List.all_eq_true, decide_eq_true_eq] at this
    exact this.2.2.2.2.2.2.2.2 y hy
  refine ⟨fun x hx => ?_, fun x hx y hy C D hC hD => ?_, fun x hx C hC => ?_, fun x y hy C D hC hD => ?_, of_decide_eq_true m2⟩
  · obtain ⟨e1, e2, e3, e4⟩ := exc_ok (ex x hx)
    have := key x hx
    unfold exB at this
    simp only [Bool.and_eq_true, decide_eq_true_eq] at this
    obtain ⟨a1, a2, a3, a4, a5, a6, a7, _⟩ := this
    exact ⟨_, cl x hx, gl x hx, e1, e2, e3, e4, ⟨eqO_ok a1, eqO_ok a2, e3, a3, eqO_ok a4, eqO_ok a5, a6, a7⟩⟩
  · rw [(CL_eq hC).2, (CL_eq hD).2]; exact (all x hx y hy).1
  · have := key x hx
    unfold exB at this
    simp only [Bool.and_eq_true, decide_eq_true_eq] at this
    rw [(CL_eq hC).2]; exact this.2.2.2.2.2.2.2.1
  · rw [(CL_eq hC).2, (CL_eq hD).2]; exact (all x (CL_eq hC).1 y hy).2
section
variable {P : Program} {w : World} {K : PySem.W.Frag} {mg : Str → Option Value} {base : Heap}
theorem fn_okD {CL : Str → Option Addr} {T : Tab} {n : Nat} {x name qual : Str} {params : Arguments} {body : List Stmt} {scope : Scope} {F : Fn} {f : Addr} {fd : FuncData} {N ps : List Str} {kws : List (Str × V)} (FF : FunD K name qual params body scope [] kws f fd) (S : FnScope N ps scope) (hT : T.lookup x = some F) (har : F.ar = ps.length) (hns : N.length = F.ns)
    (snd : ∀ (cdv : Value) (A : Around) (outer : List PySem.Env) (s : Shared) (H : Hp) (E : XK), Room n (A.deeper (envOfC qual scope s.heap.objs.size f cdv)) →
      SndB (CxF P w K mg base N qual scope f cdv A outer s H E) CL (run T n) body F.body) :
    FnOk P w K mg base (CX P w) (n + 1) f fd ps (spOf K CL (run T (n + 1)) x F.ar) := by
  refine FF.ok S (fun vs H Q E h => by rw [← har]; exact h.1) fun cdv A outer s H vs Q E hr hsp => ?_
  obtain ⟨hl, mu, ds, M, R, q, h⟩ := hsp
  refine ⟨rS K CL (fun c d _ H' => E c d H') (run T n) F.body, snd cdv A outer s H E hr _ (takes_of rfl rfl rfl rfl) (passes_of rfl), mu, _, M, R, Rst.start q hns, ?_⟩
  refine body_ok (σ := []) (m := F.mode) R ?_
  have hl2 : ds.length = F.ar := by have := q.length; have hh : vs.length = F.ar := hl; omega
  simp only [run, hT, Fn.run, if_pos hl2] at h
  exact h
theorem defs_ok {g : Cfg} {ts : List Df} (F : Facts g ts K mg) : ∀ (n : Nat) (t : Df), t ∈ ts → ∀ fd, FunD K t.d.name t.d.qual t.d.params t.d.body t.d.scope [] [] (fAd K t.d.at_) fd → FnOk P w K mg base (CX P w) n (fAd K t.d.at_) fd t.ps (spOf K (g.CL K) (run (tabOf ts) n) t.name t.fn.ar)
  | 0, t, ht, fd, FF => by
    have no : ∀ vs H Q E, ¬ spOf K (g.CL K) (run (tabOf ts) 0) t.name t.fn.ar vs H Q E := fun vs H Q E ⟨_, _, _, _, _, _, h⟩ => h
    exact ⟨fun vs H Q E h => (no _ _ _ _ h).elim, fun A outer s H args us vs Q E _ _ _ _ h => (no _ _ _ _ h).elim⟩
  | n + 1, t, ht, fd, FF => by
    have O := F.ok t ht
    refine fn_okD FF O.sc O.look O.ar O.ns fun cdv A outer s H E hr => ?_
    have gfn : ∀ x ar, g.fns.lookup x = some ar → FnG (CxF P w K mg base t.N t.d.qual t.d.scope (fAd K t.d.at_) cdv A outer s H E) (g.CL K) (run (tabOf ts) n) n x ar := fun x ar h => by
      rw [F.fns] at h
      have hmem : ∃ t' ∈ ts, t'.name = x ∧ t'.ps.length = ar := by
        clear F O FF ht
        induction ts with
        | nil => simp at h
        | cons a r ih =>
          rw [List.map_cons, List.lookup_cons] at h
          split at h
          · rename_i e
            simp only [Option.some.injEq] at h
            exact ⟨a, List.mem_cons_self, (by simpa using (beq_iff_eq.mp e).symm), h⟩
          · obtain ⟨t', z1, z2⟩ := ih h
            exact ⟨t', List.mem_cons_of_mem _ z1, z2⟩
      obtain ⟨t', ht', rfl, rfl⟩ := hmem
      have O' := F.ok t' ht'
      obtain ⟨fd', FF'⟩ := F.says.defs (d := t'.d) (List.mem_map.mpr ⟨t', ht', rfl⟩)
      have FF2 : FunD K t'.d.name t'.d.qual t'.d.params t'.d.body t'.d.scope [] [] (fAd K t'.d.at_) fd' := by
        unfold DefD.dvs DefD.kws at FF'
        rw [O'.dfl, O'.kwd] at FF'
        exact FF'
      have ea : fAd K t'.d.at_ = ga K t'.name := by
        unfold fAd Df.name
        rw [O'.at_]
      refine ⟨fAd K t'.d.at_, fd', t'.ps, ?_, ?_, FF2.kp, FF2.bindsN O'.bnd⟩
      · rw [← O'.ar]
        exact defs_ok F n t' ht' fd' FF2
      · rw [ea]
        exact F.glo _ (List.mem_append_left _ (by rw [F.fns]; exact List.mem_map.mpr ⟨(t'.name, t'.ps.length), List.mem_map.mpr ⟨t', ht', rfl⟩, rfl⟩))
    have G : Good (CxF P w K mg base t.N t.d.qual t.d.scope (fAd K t.d.at_) cdv A outer s H E) (g.CL K) (run (tabOf ts) n) n ⟨t.N, t.d.scope, g.fns, g.bl, g.kon, true⟩ := by
      refine ⟨rfl, O.sc.nd, fun x h => ?_, fun x h => ?_, fun x h => ?_, fun x h => ?_, fun x h => h, O.sc.kind, F.free, fun x d h => ?_, gfn, ?_, fun _ => ⟨rfl, hr⟩⟩
      · unfold Ct.vis Ct.lk at h
        split at h
        · rename_i e; exact .inl e
        · rename_i e; exact .inr (.inl e)
        · rename_i e; exact .inr (.inr e)
        · cases h
      · unfold Ct.gl Ct.lk at h
        split at h
        · rename_i e; exact e
        · cases h
      · unfold Ct.loc Ct.lk at h
        split at h
        · rename_i e; exact e
        · cases h
      · unfold Ct.cel Ct.lk at h
        split at h
        · rename_i e; exact ⟨e, rfl⟩
        · cases h
      · have hmem : (x, d) ∈ g.kon := lookup_mem' h
        obtain ⟨u, z1, z2⟩ := F.kon _ hmem
        obtain ⟨v, z3, z4⟩ := dB_ok z2
        exact ⟨u, v, z1, z3, z4⟩
      · have := hr.un
        show (A.deeper (envOfC t.d.qual t.d.scope s.heap.objs.size (fAd K t.d.at_) cdv)).units + 64 < cLine
        omega
    exact (cmpS_ok (cmp_ok 60) (cmp_sw 60) _ 60).b _ _ _ rfl rfl rfl rfl rfl ⟨G, exF_of F rfl rfl, rfl, rfl, rfl, rfl⟩ O.cmp
/-- the law's def, as walk_ofE wants it -/
theorem law_end {g : Cfg} {ts : List Df} {n m : Nat} {x : Str} {t : Df} {h : Heap} (ok : ∀ t ∈ ts, DfOk g ts t) (fns : g.fns = ts.map fun t => (t.name, t.ps.length)) (ht : t ∈ ts) (hps : t.ps = [x]) {fa : Addr} (hfa : mg t.name = some (.ref fa))
    (KX : K.In h) (G : h.Ns mainGlobals mg) (c1 : SaysD g.fa (ts.map Df.d) K) (c2 : g.more K = true)
    (hrun : ∀ ns : List Int, ns.length ≤ m → ∃ M, run (tabOf ts) n t.name [.ro (ns.map D.int)] [] = .ok (.d (.bl true)) M) :
    ∃ (fd : FuncData) (sp : Sp), (∀ (s : Shared) (u : Value), BindsTo s fd ⟨[u], []⟩ [(x, u)]) ∧
        (∀ (H : Hp) (a : Addr) (ns : List Int), ns.length ≤ m → Only H → SqL K H a (ns.map V.int) → sp [.ref a] H (fun v _ => v = .bl true) fun _ _ _ => False) ∧
        ∀ base : Heap, K.In base → base.Ns mainGlobals mg → FnOk P w K mg base (CX P w) n fa fd [x] sp := by
  have F : Facts g ts K mg := facts_mk ok fns KX G c1 c2
  have O := ok t ht
  obtain ⟨fd', FF'⟩ := c1.defs (d := t.d) (List.mem_map.mpr ⟨t, ht, rfl⟩)
  have FF2 : FunD K t.d.name t.d.qual t.d.params t.d.body t.d.scope [] [] (fAd K t.d.at_) fd' := by
    unfold DefD.dvs DefD.kws at FF'
    rw [O.dfl, O.kwd] at FF'
    exact FF'
  have ea : fAd K t.d.at_ = ga K t.name := by
    unfold fAd Df.name
    rw [O.at_]
  have e0 := F.glo t.name (List.mem_append_left _ (by rw [fns]; exact List.mem_map.mpr ⟨(t.name, t.ps.length), List.mem_map.mpr ⟨t, ht, rfl⟩, rfl⟩))
  rw [hfa] at e0
  cases e0
  refine ⟨fd', spOf K (g.CL K) (run (tabOf ts) n) t.name t.fn.ar, fun s u => ?_, fun H a ns hl hO hq => ?_, fun base _ _ => ?_⟩
  · have := FF2.bindsA O.bnd s [u] (by rw [hps]; rfl)
    rw [hps] at this
    exact this
  · refine ⟨by rw [O.ar, hps]; rfl, [], [.ro (ns.map D.int)], [], ⟨rfl, List.nodup_nil, fun n a o e => by simp at e⟩, ⟨.ref a, [], rfl, ⟨a, _, rfl, ?_, Rvs.of_ints ns⟩, rfl⟩, ?_⟩
    · rcases hq with (hq | hq) | hq
      · rcases hO a with e | ⟨o, xs, e⟩
        · rw [hq] at e; cases e
        · rw [hq] at e; cases e
      · exact .inl hq
      · exact .inr hq
    · obtain ⟨M, e⟩ := hrun ns hl
      rw [e]
      exact fun mu' H' _ _ v hv => hv
  · rw [← ea]
    have := defs_ok (P := P) (w := w) (base := base) F n t ht fd' FF2
    rw [hps] at this
    exact this
end
/-- the end of a law whose defs may raise -/
theorem walk_M {l : PySem.W.OpenLaw} {n k : Nat} {q : Program} {loose : List Str} {XP : (Str → Option Value) → Heap → Prop} {YP : World → Heap → Prop} {d : DefRec} {x : Str}
    (hn : l.most = some n) (hn2 : n ≤ sizeLine) (hdf : d.params.defaults = []) (hr : Room k callerA)
    (F : ∀ (w : World) (mg : Str → Option Value) (fa : Addr) (h : Heap), YP w h → h.Ns mainGlobals mg → mg d.name = some (.ref fa) →
      ∃ (K : PySem.W.Frag) (fd : FuncData) (sp : Sp), K.In h ∧ (∀ (s : Shared) (u : Value), BindsTo s fd ⟨[u], []⟩ [(x, u)]) ∧
        (∀ (H : Hp) (a : Addr) (ns : List Int), ns.length ≤ n → Only H → SqL K H a (ns.map V.int) → sp [.ref a] H (fun v _ => v = .bl true) fun _ _ _ => False) ∧
        ∀ base : Heap, K.In base → base.Ns mainGlobals mg → FnOk l.prog w K mg base (L2.CX l.prog w) k fa fd [x] sp) :
    PySem.W.WalkO q loose XP YP l.row.toRowW d [] (fun f vs => PySem.call f vs) := by
  refine Att.attach_call hn hdf fun w s₀ s₁ mg mb fa o pm cd doc a vs ns G Y ho hd hcd hmg hobj hints hlen hg => ?_
  obtain ⟨K, fd, sp, KX, hb, hsp, hF⟩ := F w mg fa _ Y G.T.g hmg
  refine law_call KX G.T.g G.T.b G.T.builtins G.T.nolimit hg hobj hints (Nat.le_trans hlen hn2) hr hF hb (fun H hO hS => hsp H a ns hlen hO hS) fun H e s' z => ?_
  obtain ⟨_, _, _, _, _, _, _, _, _, _, _, _, z⟩ := z
  exact z.elim
/-- the law's end, by the facts of the head -/
theorem end_M {l : PySem.W.OpenLaw} {g : Cfg} {ts : List Df} {n : Nat} {x : Str} {t : Df} {d : DefRec} (hps : t.ps = [x]) (hd : d.name = t.name) (ok : ∀ t ∈ ts, DfOk g ts t) (fns : g.fns = ts.map fun t => (t.name, t.ps.length)) (ht : t ∈ ts)
    (hrun : ∀ ns : List Int, ns.length ≤ 63 → ∃ M, run (tabOf ts) n t.name [.ro (ns.map D.int)] [] = .ok (.d (.bl true)) M)
    (w : World) (mg : Str → Option Value) (fa : Addr) (h : Heap) (Y : (hookM 5 g (ts.map Df.d)).says w h) (G : h.Ns mainGlobals mg) (hmg : mg d.name = some (.ref fa)) :
      ∃ (K : PySem.W.Frag) (fd : FuncData) (sp : Sp), K.In h ∧ (∀ (s : Shared) (u : Value), BindsTo s fd ⟨[u], []⟩ [(x, u)]) ∧
        (∀ (H : Hp) (a : Addr) (ns : List Int), ns.length ≤ 63 → Only H → SqL K H a (ns.map V.int) → sp [.ref a] H (fun v _ => v = .bl true) fun _ _ _ => False) ∧
        ∀ base : Heap, K.In base → base.Ns mainGlobals mg → FnOk l.prog w K mg base (L2.CX l.prog w) n fa fd [x] sp := by
  obtain ⟨K, KX, c1, c2⟩ := Y
  rw [hd] at hmg
  obtain ⟨fd, sp, h1, h2, h3⟩ := law_end (P := l.prog) (w := w) (n := n) (m := 63) (x := x) ok fns ht hps hmg KX G c1 c2 hrun
  exact ⟨K, fd, sp, KX, h1, h2, h3⟩
end MI
end
section
set_option linter.all false
set_option maxRecDepth 100000
namespace HW
open PySem MI
def exsAll : List Str := ["HeldError", "NoWord", "NoTable", "NoWidth", "NoStretch", "NoColumn", "NoTurn", "NoText"]
def b_truth_by : SS := sSeq (sIf (tB (e2 oEq (eVar 0) (eC (.str "both")))) (sRet (eAnd (eVar 1) (eVar 2))) (sNil)) (sSeq (sIf (tB (e2 oEq (eVar 0) (eC (.str "either")))) (sRet (eOr (eVar 1) (eVar 2)))
    (sNil)) (sSeq (sIf (tB (e2 oEq (eVar 0) (eC (.str "less")))) (sRet (eAnd (eVar 1) (eNot (eVar 2)))) (sNil)) (sSeq (sIf (tB (e2 oEq (eVar 0) (eC (.str "just")))) (sRet (e2 oNe (eVar 1) (eVar 2)))
    (sNil)) (sRaise "NoWord"))))
def F_truth_by : Fn := ⟨3, 3, .pure, b_truth_by⟩
def b_edges_marked : SS := sSeq (sSet 1 (eDic0)) (sSeq (sFor (.nm 2) (iSeq (e2 oIx (eVar 0) (eC (.int 1)))) (sSetIx (eVar 1) (eVar 2) (eC (.bl true)))) (sRet (eVar 1)))
def F_edges_marked : Fn := ⟨1, 3, .pure, b_edges_marked⟩
def b_blend : SS := sSeq (sSet 3 (eCall "edges_marked" (dCons (eVar 0) (dNil)))) (sSeq (sSet 4 (eCall "edges_marked" (dCons (eVar 1) (dNil)))) (sSeq (sSet 5 (e2 oIx (eVar 0) (eC (.int 0)))) (sSeq
    (sSet 6 (e2 oIx (eVar 1) (eC (.int 0)))) (sSeq (sSet 7 (eCall "truth_by" (dCons (eVar 2) (dCons (eVar 5) (dCons (eVar 6) (dNil)))))) (sSeq (sSet 8 (eVar 7)) (sSeq (sSet 9 (eLst (dNil))) (sSeq
    (sFor (.nm 10) (iSeq (e1 bSortedSet (e2 oAdd (e2 oIx (eVar 0) (eC (.int 1))) (e2 oIx (eVar 1) (eC (.int 1)))))) (sSeq (sIf (tB (e2 oIn (eVar 10) (eVar 3))) (sSet 5 (eNot (eVar 5))) (sNil)) (sSeq
    (sIf (tB (e2 oIn (eVar 10) (eVar 4))) (sSet 6 (eNot (eVar 6))) (sNil)) (sIf (tB (e2 oNe (eCall "truth_by" (dCons (eVar 2) (dCons (eVar 5) (dCons (eVar 6) (dNil))))) (eVar 8))) (sSeq (sExpr (eM1
    mAppend (eVar 9) (eVar 10))) (sSet 8 (eNot (eVar 8)))) (sNil))))) (sRet (eTup (dCons (eVar 7) (dCons (e1 bTuple (eVar 9)) (dNil))))))))))))
def F_blend : Fn := ⟨3, 11, .pure, b_blend⟩
def b__law_draw : SS := sSeq (sIf (tB (e2 oEq (e1 bLen (eVar 0)) (eC (.int 0)))) (sRet (eC (.int 0))) (sNil)) (sSeq (sSet 3 (e2 oMod (e2 oIx (eVar 0) (e2 oMod (eVar 1) (e1 bLen (eVar 0)))) (eC (.int
    1000000007)))) (sSeq (sSet 4 (e2 oMod (e2 oMul (e2 oAdd (eVar 3) (eC (.int 5))) (e2 oAdd (eC (.int 40692)) (e2 oMul (eC (.int 977)) (eVar 1)))) (eC (.int 2147483629)))) (sSeq (sSet 4 (e2 oMod (e2
    oMul (e2 oAdd (eVar 4) (eVar 1)) (e2 oAdd (eVar 4) (eC (.int 3)))) (eC (.int 2147483647)))) (sRet (e2 oMod (e2 oDiv (eVar 4) (eC (.int 13))) (eVar 2))))))
def F__law_draw : Fn := ⟨3, 5, .pure, b__law_draw⟩
def b__law_due : SS := sSeq (sIf (tB (e2 oEq (eVar 0) (eC (.str "both")))) (sRet (eAnd (eVar 1) (eVar 2))) (sNil)) (sSeq (sIf (tB (e2 oEq (eVar 0) (eC (.str "either")))) (sRet (eOr (eVar 1) (eVar 2)))
    (sNil)) (sSeq (sIf (tB (e2 oEq (eVar 0) (eC (.str "less")))) (sRet (eAnd (eVar 1) (eNot (eVar 2)))) (sNil)) (sRet (e2 oNe (eVar 1) (eVar 2)))))
def F__law_due : Fn := ⟨3, 3, .pure, b__law_due⟩
def b__law_refused : SS := sSeq (sSet 4 (eLst (dNil))) (sSeq (sTry (some 5) (sExpr (eCall "truth_by" (dCons (eVar 0) (dCons (eVar 1) (dCons (eVar 2) (dNil)))))) (catX exsAll "HeldError") (suSem exsAll
    [.lst 4 false [.isi false ["NoWord"], .isi false ["ValueError"]], .lst 4 true [.isi false ["NoColumn", "NoStretch", "NoTable", "NoText", "NoTurn", "NoWidth"]]])) (sSeq (sSet 6 (eLst (dNil))) (sSeq
    (sTry (some 5) (sExpr (eCall "blend" (dCons (eTup (dCons (eVar 1) (dCons (e2 oIx (eVar 3) (eC (.int 0))) (dNil)))) (dCons (eTup (dCons (eVar 2) (dCons (e2 oIx (eVar 3) (eC (.int 1))) (dNil))))
    (dCons (eVar 0) (dNil)))))) (catX exsAll "HeldError") (suSem exsAll [.lst 6 false [.isi false ["NoWord"], .isi false ["ValueError"]], .lst 6 true [.isi false ["NoColumn", "NoStretch", "NoTable",
    "NoText", "NoTurn", "NoWidth"]]])) (sRet (eAnd (e2 oEq (eVar 4) (eLst (dCons (eC (.bl true)) (dCons (eC (.bl true)) (dCons (eC (.bl false)) (dNil)))))) (e2 oEq (eVar 6) (eVar 4)))))))
def F__law_refused : Fn := ⟨4, 7, .pure, b__law_refused⟩
def b_law_k01 : SS := sSeq (sSet 1 (eLst (dCons (eC (.str "both")) (dCons (eC (.str "either")) (dCons (eC (.str "less")) (dCons (eC (.str "just")) (dNil))))))) (sSeq (sSet 2 (eLst (dCons (eC (.str
    "")) (dCons (eC (.str "Both")) (dCons (eC (.str "both ")) (dCons (eC (.str " either")) (dCons (eC (.str "eithe")) (dCons (eC (.str "eithers")) (dCons (eC (.str "LESS")) (dCons (eC (.str "les"))
    (dNil))))))))))) (sSeq (sSet 2 (e2 oAdd (eVar 2) (eLst (dCons (eC (.str "more")) (dCons (eC (.str "juts")) (dCons (eC (.str "or")) (dCons (eC (.str "and")) (dCons (eC (.str "not")) (dCons (eC
    (.str "just\n")) (dNil)))))))))) (sSeq (sFor (.nm 3) (iRange1 (e2 bMin2 (e1 bLen (eVar 0)) (eC (.int 63)))) (sSeq (sSet 4 (e2 oEq (eCall "_law_draw" (dCons (eVar 0) (dCons (eVar 3) (dCons (eC
    (.int 2)) (dNil))))) (eC (.int 1)))) (sSeq (sSet 5 (e2 oGt (eCall "_law_draw" (dCons (eVar 0) (dCons (eVar 3) (dCons (eC (.int 4)) (dNil))))) (eC (.int 1)))) (sSeq (sSet 6 (e2 oIx (eVar 1) (e2
    oDiv (eCall "_law_draw" (dCons (eVar 0) (dCons (eVar 3) (dCons (eC (.int 16)) (dNil))))) (eC (.int 4))))) (sSeq (sSet 7 (eCall "truth_by" (dCons (eVar 6) (dCons (eVar 4) (dCons (eVar 5)
    (dNil)))))) (sSeq (sIf (tOr (tNot (tTru (e1 (bIsi .bool) (eVar 7)))) (tB (e2 oNe (eVar 7) (eCall "_law_due" (dCons (eVar 6) (dCons (eVar 4) (dCons (eVar 5) (dNil)))))))) (sRet (eC (.bl false)))
    (sNil)) (sSeq (sSet 8 (e2 oIx (eLst (dCons (eTup (dCons (eTup (dCons (eC (.int 3)) (dCons (eC (.int 5)) (dNil)))) (dCons (eTup (dNil)) (dNil)))) (dCons (eTup (dCons (eTup (dNil)) (dCons (eTup
    (dNil)) (dNil)))) (dCons (eTup (dCons (eTup (dCons (eC (.int 3)) (dNil))) (dCons (eTup (dCons (eC (.int 3)) (dNil))) (dNil)))) (dCons (eTup (dCons (eTup (dNil)) (dCons (eTup (dCons (e1 oNeg (eC
    (.int 4))) (dNil))) (dNil)))) (dNil)))))) (eCall "_law_draw" (dCons (eVar 0) (dCons (e2 oAdd (eVar 3) (eC (.int 70))) (dCons (eC (.int 4)) (dNil))))))) (sIf (tNot (tTru (eCall "_law_refused"
    (dCons (e2 oIx (eVar 2) (e2 oDiv (eCall "_law_draw" (dCons (eVar 0) (dCons (eVar 3) (dCons (eC (.int 224)) (dNil))))) (eC (.int 16)))) (dCons (eVar 4) (dCons (eVar 5) (dCons (eVar 8) (dNil))))))))
    (sRet (eC (.bl false))) (sNil))))))))) (sRet (eCall "_law_refused" (dCons (e2 oIx (eVar 2) (eCall "_law_draw" (dCons (eVar 0) (dCons (eC (.int 63)) (dCons (eC (.int 14)) (dNil)))))) (dCons (eC
    (.bl true)) (dCons (eC (.bl false)) (dCons (eTup (dCons (eTup (dNil)) (dCons (eTup (dNil)) (dNil)))) (dNil))))))))))
def F_law_k01 : Fn := ⟨1, 9, .pure, b_law_k01⟩
def b_lies_in : SS := sSeq (sSet 2 (e2 oIx (eVar 0) (eC (.int 0)))) (sSeq (sFor (.nm 3) (iSeq (e2 oIx (eVar 0) (eC (.int 1)))) (sIf (tB (e2 oLe (eVar 3) (eVar 1))) (sSet 2 (eNot (eVar 2))) (sNil)))
    (sRet (eVar 2)))
def F_lies_in : Fn := ⟨2, 4, .pure, b_lies_in⟩
def b__law_far : SS := sSeq (sIf (tB (e2 oEq (e1 bLen (eVar 0)) (eC (.int 0)))) (sRet (eC (.int 0))) (sNil)) (sSeq (sSet 2 (e2 oAdd (eCall "_law_draw" (dCons (eVar 0) (dCons (eVar 1) (dCons (eC (.int
    100000000)) (dNil))))) (eC (.int 1)))) (sRet (e2 oMod (e2 oAdd (e2 oMul (e2 oMod (e2 oIx (eVar 0) (e2 oMod (eVar 1) (e1 bLen (eVar 0)))) (e2 oPow (eC (.int 10)) (eC (.int 50)))) (eVar 2)) (e2 oPow
    (eVar 2) (eC (.int 5)))) (e2 oPow (eC (.int 10)) (eC (.int 50))))))
def F__law_far : Fn := ⟨2, 3, .pure, b__law_far⟩
def b__law_reach_k02 : SS := sSeq (sSet 2 (eCall "_law_draw" (dCons (eVar 0) (dCons (eVar 1) (dCons (eC (.int 5)) (dNil)))))) (sSeq (sSet 3 (eCall "_law_draw" (dCons (eVar 0) (dCons (e2 oAdd (eVar 1)
    (eC (.int 1))) (dCons (eC (.int 100000000)) (dNil)))))) (sSeq (sSet 4 (eLst (dNil))) (sSeq (sIf (tB (e2 oLt (eVar 2) (eC (.int 3)))) (sSeq (sSet 5 (e2 oAdd (eC (.int 2)) (e2 oMul (eC (.int 2)) (e2
    oDiv (eVar 2) (eC (.int 2)))))) (sFor (.nm 6) (iRange1 (eC (.int 13))) (sSeq (sIf (tB (e2 oEq (e2 oMod (eVar 3) (eVar 5)) (eC (.int 1)))) (sExpr (eM1 mAppend (eVar 4) (e2 oSub (eVar 6) (eC (.int
    4))))) (sNil)) (sSet 3 (e2 oDiv (eVar 3) (eVar 5)))))) (sNil)) (sSeq (sIf (tB (e2 oEq (eVar 2) (eC (.int 3)))) (sSeq (sSet 7 (e2 oSub (eCall "_law_far" (dCons (eVar 0) (dCons (e2 oAdd (eVar 1) (eC
    (.int 2))) (dNil)))) (e2 oMul (eC (.int 5)) (e2 oPow (eC (.int 10)) (eC (.int 49)))))) (sFor (.nm 6) (iRange1 (e2 oMod (eVar 3) (eC (.int 7)))) (sSeq (sExpr (eM1 mAppend (eVar 4) (eVar 7))) (sSet
    7 (e2 oAdd (e2 oAdd (eVar 7) (eC (.int 1))) (e2 oMod (eCall "_law_far" (dCons (eVar 0) (dCons (e2 oAdd (e2 oAdd (eVar 1) (eC (.int 3))) (eVar 6)) (dNil)))) (e2 oIx (eLst (dCons (eC (.int 3))
    (dCons (e2 oPow (eC (.int 10)) (eC (.int 48))) (dNil)))) (e2 oMod (e2 oDiv (eVar 3) (eC (.int 7))) (eC (.int 2)))))))))) (sNil)) (sRet (eTup (dCons (e2 oEq (eCall "_law_draw" (dCons (eVar 0)
    (dCons (e2 oAdd (eVar 1) (eC (.int 10))) (dCons (eC (.int 2)) (dNil))))) (eC (.int 1))) (dCons (e1 bTuple (eVar 4)) (dNil)))))))))
def F__law_reach_k02 : Fn := ⟨2, 8, .pure, b__law_reach_k02⟩
def b__law_in : SS := sSeq (sSet 2 (e1 bLen (eComp (eVar 3) (tB (e2 oLe (eVar 3) (eVar 1))) (.nm 3) [3] (iSeq (e2 oIx (eVar 0) (eC (.int 1))))))) (sRet (e2 oNe (e2 oIx (eVar 0) (eC (.int 0))) (e2 oEq
    (e2 oMod (eVar 2) (eC (.int 2))) (eC (.int 1)))))
def F__law_in : Fn := ⟨2, 4, .pure, b__law_in⟩
def b__law_points : SS := sSeq (sSet 1 (eDic (dPairs [(eC (.int 0), eC (.bl true)), (e1 oNeg (e2 oPow (eC (.int 10)) (eC (.int 59))), eC (.bl true)), (e2 oPow (eC (.int 10)) (eC (.int 59)), eC (.bl
    true))]))) (sSeq (sFor (.nm 2) (iSeq (eVar 0)) (sFor (.nm 3) (iSeq (e2 oIx (eVar 2) (eC (.int 1)))) (sFor (.nm 4) (iSeq (eTup (dCons (e1 oNeg (eC (.int 1))) (dCons (eC (.int 0)) (dCons (eC (.int
    1)) (dNil)))))) (sSetIx (eVar 1) (e2 oAdd (eVar 3) (eVar 4)) (eC (.bl true)))))) (sRet (e1 bSorted (eVar 1))))
def F__law_points : Fn := ⟨1, 5, .pure, b__law_points⟩
def b__law_long : SS := sSeq (sSet 1 (eLst (dNil))) (sSeq (sSet 2 (e2 oSub (eCall "_law_far" (dCons (eVar 0) (dCons (eC (.int 20)) (dNil)))) (e2 oMul (eC (.int 5)) (e2 oPow (eC (.int 10)) (eC (.int
    49)))))) (sSeq (sFor (.nm 3) (iRange1 (e2 bMin2 (e1 bLen (eVar 0)) (eC (.int 63)))) (sSeq (sExpr (eM1 mAppend (eVar 1) (eVar 2))) (sSet 2 (e2 oAdd (e2 oAdd (eVar 2) (eC (.int 1))) (e2 oMod (eCall
    "_law_far" (dCons (eVar 0) (dCons (e2 oAdd (eC (.int 30)) (eVar 3)) (dNil)))) (e2 oIx (eLst (dCons (eC (.int 1)) (dCons (eC (.int 3)) (dCons (e2 oPow (eC (.int 10)) (eC (.int 47))) (dNil)))))
    (eCall "_law_draw" (dCons (eVar 0) (dCons (e2 oAdd (eC (.int 100)) (eVar 3)) (dCons (eC (.int 3)) (dNil))))))))))) (sRet (eTup (dCons (e2 oEq (eCall "_law_draw" (dCons (eVar 0) (dCons (eC (.int
    21)) (dCons (eC (.int 2)) (dNil))))) (eC (.int 1))) (dCons (e1 bTuple (eVar 1)) (dNil)))))))
def F__law_long : Fn := ⟨1, 4, .pure, b__law_long⟩
def b_law_k02 : SS := sSeq (sFor (.nm 1) (iSeq (eLst (dCons (eCall "_law_reach" (dCons (eVar 0) (dCons (eC (.int 0)) (dNil)))) (dCons (eCall "_law_long" (dCons (eVar 0) (dNil))) (dNil))))) (sSeq (sSet
    2 (e2 oIx (eVar 1) (eC (.int 0)))) (sSeq (sIf (tB (e2 oNe (eCall "lies_in" (dCons (eVar 1) (dCons (e1 oNeg (e2 oPow (eC (.int 10)) (eC (.int 59)))) (dNil)))) (eVar 2))) (sRet (eC (.bl false)))
    (sNil)) (sSeq (sFor (.nm 3) (iSeq (e2 oIx (eVar 1) (eC (.int 1)))) (sSeq (sIf (tB (e2 oNe (eCall "lies_in" (dCons (eVar 1) (dCons (e2 oSub (eVar 3) (eC (.int 1))) (dNil)))) (eVar 2))) (sRet (eC
    (.bl false))) (sNil)) (sSeq (sSet 2 (eNot (eVar 2))) (sIf (tB (e2 oNe (eCall "lies_in" (dCons (eVar 1) (dCons (eVar 3) (dNil)))) (eVar 2))) (sRet (eC (.bl false))) (sNil))))) (sSeq (sIf (tB (e2
    oNe (eCall "lies_in" (dCons (eVar 1) (dCons (e2 oPow (eC (.int 10)) (eC (.int 59))) (dNil)))) (eVar 2))) (sRet (eC (.bl false))) (sNil)) (sFor (.nm 4) (iSeq (eCall "_law_points" (dCons (eLst
    (dCons (eVar 1) (dNil))) (dNil)))) (sSeq (sSet 5 (eCall "lies_in" (dCons (eVar 1) (dCons (eVar 4) (dNil))))) (sIf (tOr (tNot (tTru (e1 (bIsi .bool) (eVar 5)))) (tB (e2 oNe (eVar 5) (eCall
    "_law_in" (dCons (eVar 1) (dCons (eVar 4) (dNil))))))) (sRet (eC (.bl false))) (sNil))))))))) (sRet (eC (.bl true)))
def F_law_k02 : Fn := ⟨1, 6, .pure, b_law_k02⟩
def b_stretch_of : SS := sSeq (sIf (tAnd (tB (e2 oIs (eVar 0) (eC (.non)))) (tB (e2 oIs (eVar 1) (eC (.non))))) (sRet (eTup (dCons (eC (.bl true)) (dCons (eTup (dNil)) (dNil))))) (sNil)) (sSeq (sIf
    (tB (e2 oIs (eVar 0) (eC (.non)))) (sRet (eTup (dCons (eC (.bl true)) (dCons (eTup (dCons (eVar 1) (dNil))) (dNil))))) (sNil)) (sSeq (sIf (tB (e2 oIs (eVar 1) (eC (.non)))) (sRet (eTup (dCons (eC
    (.bl false)) (dCons (eTup (dCons (eVar 0) (dNil))) (dNil))))) (sNil)) (sSeq (sIf (tB (e2 oLe (eVar 1) (eVar 0))) (sRet (eTup (dCons (eC (.bl false)) (dCons (eTup (dNil)) (dNil))))) (sNil)) (sRet
    (eTup (dCons (eC (.bl false)) (dCons (eTup (dCons (eVar 0) (dCons (eVar 1) (dNil)))) (dNil))))))))
def F_stretch_of : Fn := ⟨2, 2, .pure, b_stretch_of⟩
def b__law_whole_k03 : SS := sRet (eAnd (e1 (bIsi .int) (eVar 0)) (eNot (e1 (bIsi .bool) (eVar 0))))
def F__law_whole_k03 : Fn := ⟨1, 1, .pure, b__law_whole_k03⟩
def b__law_is : SS := sSeq (sIf (tOr (tNot (tTru (e1 (bIsi .tuple) (eVar 0)))) (tB (e2 oNe (e1 bLen (eVar 0)) (eC (.int 2))))) (sRet (eC (.bl false))) (sNil)) (sSeq (sIf (tOr (tNot (tTru (e1 (bIsi
    .bool) (e2 oIx (eVar 0) (eC (.int 0)))))) (tNot (tTru (e1 (bIsi .tuple) (e2 oIx (eVar 0) (eC (.int 1))))))) (sRet (eC (.bl false))) (sNil)) (sSeq (sFor (.nm 1) (iSeq (e2 oIx (eVar 0) (eC (.int
    1)))) (sIf (tNot (tTru (eCall "_law_whole" (dCons (eVar 1) (dNil))))) (sRet (eC (.bl false))) (sNil))) (sRet (e2 oEq (e1 bList (e2 oIx (eVar 0) (eC (.int 1)))) (e1 bSortedSet (e2 oIx (eVar 0) (eC
    (.int 1))))))))
def F__law_is : Fn := ⟨1, 2, .pure, b__law_is⟩
def b__law_due_k03 : SS := sSeq (sSet 2 (eComp (eVar 3) (tB (e2 oIsNot (eVar 3) (eC (.non)))) (.nm 3) [3] (iSeq (eTup (dCons (eVar 0) (dCons (eVar 1) (dNil))))))) (sSeq (sIf (tAnd (tB (e2 oEq (e1 bLen
    (eVar 2)) (eC (.int 2)))) (tB (e2 oLe (eVar 1) (eVar 0)))) (sSet 2 (eLst (dNil))) (sNil)) (sRet (eTup (dCons (e2 oIs (eVar 0) (eC (.non))) (dCons (e1 bTuple (eVar 2)) (dNil))))))
def F__law_due_k03 : Fn := ⟨2, 4, .pure, b__law_due_k03⟩
def b_law_k03 : SS := sSeq (sFor (.nm 1) (iRange1 (e2 bMin2 (e1 bLen (eVar 0)) (eC (.int 63)))) (sSeq (sSet 2 (e2 oSub (eCall "_law_draw" (dCons (eVar 0) (dCons (eVar 1) (dCons (eC (.int 9))
    (dNil))))) (eC (.int 4)))) (sSeq (sSet 3 (e2 oSub (e2 oAdd (eVar 2) (eCall "_law_draw" (dCons (eVar 0) (dCons (e2 oAdd (eVar 1) (eC (.int 63))) (dCons (eC (.int 9)) (dNil)))))) (eC (.int 3))))
    (sSeq (sIf (tB (e2 oEq (eCall "_law_draw" (dCons (eVar 0) (dCons (e2 oAdd (eVar 1) (eC (.int 126))) (dCons (eC (.int 2)) (dNil))))) (eC (.int 0)))) (sSeq (sSet 2 (e2 oSub (eCall "_law_far" (dCons
    (eVar 0) (dCons (eVar 1) (dNil)))) (e2 oMul (eC (.int 5)) (e2 oPow (eC (.int 10)) (eC (.int 49)))))) (sSet 3 (e2 oSub (eCall "_law_far" (dCons (eVar 0) (dCons (e2 oAdd (eVar 1) (eC (.int 63)))
    (dNil)))) (e2 oMul (eC (.int 5)) (e2 oPow (eC (.int 10)) (eC (.int 49))))))) (sNil)) (sSeq (sSet 4 (eCall "_law_draw" (dCons (eVar 0) (dCons (e2 oAdd (eVar 1) (eC (.int 189))) (dCons (eC (.int 8))
    (dNil)))))) (sSeq (sIf (tOr (tB (e2 oEq (eVar 4) (eC (.int 0)))) (tB (e2 oEq (eVar 4) (eC (.int 2))))) (sSet 2 (eC (.non))) (sNil)) (sSeq (sIf (tOr (tB (e2 oEq (eVar 4) (eC (.int 1)))) (tB (e2 oEq
    (eVar 4) (eC (.int 2))))) (sSet 3 (eC (.non))) (sNil)) (sSeq (sSet 5 (eCall "stretch_of" (dCons (eVar 2) (dCons (eVar 3) (dNil))))) (sIf (tOr (tNot (tTru (eCall "_law_is" (dCons (eVar 5)
    (dNil))))) (tB (e2 oNe (eVar 5) (eCall "_law_due" (dCons (eVar 2) (dCons (eVar 3) (dNil))))))) (sRet (eC (.bl false))) (sNil)))))))))) (sRet (eAnd (e2 oEq (eCall "stretch_of" (dCons (eC (.non))
    (dCons (eC (.non)) (dNil)))) (eTup (dCons (eC (.bl true)) (dCons (eTup (dNil)) (dNil))))) (e2 oEq (eCall "stretch_of" (dCons (eC (.int 5)) (dCons (eC (.int 5)) (dNil)))) (eTup (dCons (eC (.bl
    false)) (dCons (eTup (dNil)) (dNil)))))))
def F_law_k03 : Fn := ⟨1, 6, .pure, b_law_k03⟩
def b__law_long_k04 : SS := sSeq (sSet 1 (eLst (dNil))) (sSeq (sSet 2 (e2 oSub (eCall "_law_far" (dCons (eVar 0) (dCons (eC (.int 80)) (dNil)))) (e2 oMul (eC (.int 5)) (e2 oPow (eC (.int 10)) (eC
    (.int 49)))))) (sSeq (sIf (tB (e2 oEq (eCall "_law_draw" (dCons (eVar 0) (dCons (eC (.int 81)) (dCons (eC (.int 2)) (dNil))))) (eC (.int 1)))) (sSet 2 (e1 oNeg (eC (.int 6)))) (sNil)) (sSeq (sFor
    (.nm 3) (iRange1 (e2 bMin2 (e1 bLen (eVar 0)) (eC (.int 63)))) (sSeq (sExpr (eM1 mAppend (eVar 1) (eVar 2))) (sSet 2 (e2 oAdd (e2 oAdd (eVar 2) (eC (.int 1))) (eCall "_law_draw" (dCons (eVar 0)
    (dCons (e2 oAdd (eC (.int 90)) (eVar 3)) (dCons (eC (.int 3)) (dNil))))))))) (sRet (eTup (dCons (e2 oEq (eCall "_law_draw" (dCons (eVar 0) (dCons (eC (.int 82)) (dCons (eC (.int 2)) (dNil))))) (eC
    (.int 1))) (dCons (e1 bTuple (eVar 1)) (dNil))))))))
def F__law_long_k04 : Fn := ⟨1, 4, .pure, b__law_long_k04⟩
def b__law_blended : SS := sSeq (sIf (tOr (tNot (tTru (eCall "_law_is" (dCons (eVar 0) (dNil))))) (tB (e2 oGt (e1 bLen (e2 oIx (eVar 0) (eC (.int 1)))) (e2 oAdd (e1 bLen (e2 oIx (eVar 1) (eC (.int
    1)))) (e1 bLen (e2 oIx (eVar 2) (eC (.int 1)))))))) (sRet (eC (.bl false))) (sNil)) (sSeq (sFor (.nm 4) (iSeq (eCall "_law_points" (dCons (eLst (dCons (eVar 1) (dCons (eVar 2) (dCons (eVar 0)
    (dNil))))) (dNil)))) (sIf (tB (e2 oNe (eCall "_law_in" (dCons (eVar 0) (dCons (eVar 4) (dNil)))) (eCall "_law_due" (dCons (eVar 3) (dCons (eCall "_law_in" (dCons (eVar 1) (dCons (eVar 4) (dNil))))
    (dCons (eCall "_law_in" (dCons (eVar 2) (dCons (eVar 4) (dNil)))) (dNil))))))) (sRet (eC (.bl false))) (sNil))) (sRet (eC (.bl true))))
def F__law_blended : Fn := ⟨4, 5, .pure, b__law_blended⟩
def b_law_k04 : SS := sSeq (sSet 1 (eLst (dCons (eC (.str "both")) (dCons (eC (.str "either")) (dCons (eC (.str "less")) (dCons (eC (.str "just")) (dNil))))))) (sSeq (sSet 2 (eCall "_law_reach" (dCons
    (eVar 0) (dCons (eC (.int 0)) (dNil))))) (sSeq (sSet 3 (eCall "_law_reach" (dCons (eVar 0) (dCons (eC (.int 20)) (dNil))))) (sSeq (sSet 4 (eCall "_law_reach" (dCons (eVar 0) (dCons (eC (.int 40))
    (dNil))))) (sSeq (sIf (tB (e2 oEq (eCall "_law_draw" (dCons (eVar 0) (dCons (eC (.int 83)) (dCons (eC (.int 4)) (dNil))))) (eC (.int 1)))) (sSet 4 (eCall "_law_long" (dCons (eVar 0) (dNil))))
    (sNil)) (sSeq (sFor (.nm 5) (iRange1 (eC (.int 4))) (sSeq (sSet 6 (eCall "blend" (dCons (eVar 2) (dCons (eVar 3) (dCons (e2 oIx (eVar 1) (eVar 5)) (dNil)))))) (sIf (tNot (tTru (eCall
    "_law_blended" (dCons (eVar 6) (dCons (eVar 2) (dCons (eVar 3) (dCons (e2 oIx (eVar 1) (eVar 5)) (dNil)))))))) (sRet (eC (.bl false))) (sNil)))) (sSeq (sSet 6 (eCall "blend" (dCons (eVar 2) (dCons
    (eVar 3) (dCons (e2 oIx (eVar 1) (eCall "_law_draw" (dCons (eVar 0) (dCons (eC (.int 60)) (dCons (eC (.int 4)) (dNil)))))) (dNil)))))) (sSeq (sSet 7 (e2 oIx (eVar 1) (eCall "_law_draw" (dCons
    (eVar 0) (dCons (eC (.int 61)) (dCons (eC (.int 4)) (dNil))))))) (sRet (eCall "_law_blended" (dCons (eCall "blend" (dCons (eVar 4) (dCons (eVar 6) (dCons (eVar 7) (dNil))))) (dCons (eVar 4) (dCons
    (eVar 6) (dCons (eVar 7) (dNil))))))))))))))
def F_law_k04 : Fn := ⟨1, 8, .pure, b_law_k04⟩
def b_is_reach : SS := sSeq (sIf (tOr (tNot (tTru (e1 (bIsi .tuple) (eVar 0)))) (tB (e2 oNe (e1 bLen (eVar 0)) (eC (.int 2))))) (sRet (eC (.bl false))) (sNil)) (sSeq (sIf (tOr (tNot (tTru (e1 (bIsi
    .bool) (e2 oIx (eVar 0) (eC (.int 0)))))) (tNot (tTru (e1 (bIsi .tuple) (e2 oIx (eVar 0) (eC (.int 1))))))) (sRet (eC (.bl false))) (sNil)) (sSeq (sSet 1 (eC (.non))) (sSeq (sFor (.nm 2) (iSeq (e2
    oIx (eVar 0) (eC (.int 1)))) (sSeq (sIf (tOr (tNot (tTru (e1 (bIsi .int) (eVar 2)))) (tTru (e1 (bIsi .bool) (eVar 2)))) (sRet (eC (.bl false))) (sNil)) (sSeq (sIf (tAnd (tB (e2 oIsNot (eVar 1) (eC
    (.non)))) (tB (e2 oLe (eVar 2) (eVar 1)))) (sRet (eC (.bl false))) (sNil)) (sSet 1 (eVar 2))))) (sRet (eC (.bl true))))))
def F_is_reach : Fn := ⟨1, 3, .pure, b_is_reach⟩
def b__law_put : SS := sRet (e1 bTuple (e2 oAdd (e2 oAdd (e1 bList (eSlice (eVar 0) (oNone) (oSome (eVar 1)))) (eLst (dCons (eVar 2) (dNil)))) (e1 bList (eSlice (eVar 0) (oSome (eVar 1)) (oNone)))))
def F__law_put : Fn := ⟨3, 3, .pure, b__law_put⟩
def b__law_bad : SS := sSeq (sSet 2 (eCall "_law_draw" (dCons (eVar 0) (dCons (eC (.int 20)) (dCons (eC (.int 8)) (dNil)))))) (sSeq (sSet 3 (e2 oIx (eVar 1) (eC (.int 1)))) (sSeq (sSet 4 (eCall
    "_law_draw" (dCons (eVar 0) (dCons (eC (.int 21)) (dCons (eC (.int 1000)) (dNil)))))) (sSeq (sIf (tB (e2 oEq (eVar 2) (eC (.int 0)))) (sRet (e2 oIx (eLst (dCons (eC (.non)) (dCons (eC (.int 5))
    (dCons (eC (.bl true)) (dCons (eC (.str "out")) (dCons (eTup (dNil)) (dCons (eTup (dCons (eC (.bl true)) (dNil))) (dCons (eTup (dCons (eC (.bl false)) (dCons (eTup (dNil)) (dCons (eTup (dNil))
    (dNil))))) (dCons (eLst (dCons (eC (.bl false)) (dCons (eTup (dNil)) (dNil)))) (dCons (eDic0) (dCons (eTup (dCons (eC (.bl false)) (dCons (eTup (dCons (eC (.int 1)) (dNil))) (dCons (eTup (dCons
    (eC (.int 3)) (dNil))) (dNil))))) (dNil)))))))))))) (e2 oMod (eVar 4) (eC (.int 10))))) (sNil)) (sSeq (sIf (tB (e2 oEq (eVar 2) (eC (.int 1)))) (sRet (eTup (dCons (e2 oIx (eLst (dCons (eC (.int
    0)) (dCons (eC (.int 1)) (dCons (eC (.non)) (dCons (eC (.str "in")) (dCons (eTup (dCons (eC (.bl true)) (dNil))) (dNil))))))) (e2 oMod (eVar 4) (eC (.int 5)))) (dCons (eVar 3) (dNil))))) (sNil))
    (sSeq (sIf (tB (e2 oEq (eVar 2) (eC (.int 2)))) (sRet (eTup (dCons (e2 oIx (eVar 1) (eC (.int 0))) (dCons (e2 oIx (eLst (dCons (e1 bList (eVar 3)) (dCons (eC (.non)) (dCons (eC (.int 3)) (dCons
    (eC (.str "")) (dCons (eC (.bl true)) (dNil))))))) (e2 oMod (eVar 4) (eC (.int 5)))) (dNil))))) (sNil)) (sSeq (sIf (tAnd (tB (e2 oLt (eVar 2) (eC (.int 5)))) (tB (e2 oGt (e1 bLen (eVar 3)) (eC
    (.int 0))))) (sSeq (sSet 5 (e2 oMod (eVar 4) (e1 bLen (eVar 3)))) (sRet (eTup (dCons (e2 oIx (eVar 1) (eC (.int 0))) (dCons (eCall "_law_put" (dCons (eVar 3) (dCons (eVar 5) (dCons (e2 oIx (eVar
    3) (eVar 5)) (dNil))))) (dNil)))))) (sNil)) (sSeq (sIf (tAnd (tB (e2 oLt (eVar 2) (eC (.int 7)))) (tB (e2 oGt (e1 bLen (eVar 3)) (eC (.int 0))))) (sSeq (sSet 5 (e2 oAdd (eC (.int 1)) (e2 oMod
    (eVar 4) (e1 bLen (eVar 3))))) (sRet (eTup (dCons (e2 oIx (eVar 1) (eC (.int 0))) (dCons (eCall "_law_put" (dCons (eVar 3) (dCons (eVar 5) (dCons (e2 oSub (e2 oSub (e2 oIx (eVar 3) (e2 oSub (eVar
    5) (eC (.int 1)))) (eC (.int 1))) (e2 oMod (eCall "_law_far" (dCons (eVar 0) (dCons (eC (.int 22)) (dNil)))) (eC (.int 5)))) (dNil))))) (dNil)))))) (sNil)) (sSeq (sSet 5 (e2 oMod (eVar 4) (e2 oAdd
    (e1 bLen (eVar 3)) (eC (.int 1))))) (sRet (eTup (dCons (e2 oIx (eVar 1) (eC (.int 0))) (dCons (eCall "_law_put" (dCons (eVar 3) (dCons (eVar 5) (dCons (e2 oIx (eLst (dCons (eC (.non)) (dCons (eC
    (.bl true)) (dCons (eC (.str "3")) (dCons (eTup (dCons (eC (.int 3)) (dNil))) (dCons (eLst (dCons (eC (.int 3)) (dNil))) (dCons (eC (.bl false)) (dNil)))))))) (e2 oMod (e2 oDiv (eVar 4) (eC (.int
    50))) (eC (.int 6)))) (dNil))))) (dNil)))))))))))))
def F__law_bad : Fn := ⟨2, 6, .keep, b__law_bad⟩
def b_law_k05 : SS := sSeq (sSet 1 (eCall "_law_reach" (dCons (eVar 0) (dCons (eC (.int 0)) (dNil))))) (sSeq (sIf (tOr (tB (e2 oIsNot (eCall "is_reach" (dCons (eVar 1) (dNil))) (eC (.bl true)))) (tB
    (e2 oIsNot (eCall "is_reach" (dCons (eCall "_law_bad" (dCons (eVar 0) (dCons (eVar 1) (dNil)))) (dNil))) (eC (.bl false))))) (sRet (eC (.bl false))) (sNil)) (sRet (e2 oIs (eCall "is_reach" (dCons
    (eVar 1) (dNil))) (eC (.bl true)))))
def F_law_k05 : Fn := ⟨1, 2, .pure, b_law_k05⟩
def b_runs_of : SS := sSeq (sSet 1 (e1 bList (e2 oIx (eVar 0) (eC (.int 1))))) (sSeq (sIf (tTru (e2 oIx (eVar 0) (eC (.int 0)))) (sExpr (eM2 mInsert (eVar 1) (eC (.int 0)) (eC (.non)))) (sNil)) (sSeq
    (sIf (tB (e2 oEq (e2 oMod (e1 bLen (eVar 1)) (eC (.int 2))) (eC (.int 1)))) (sExpr (eM1 mAppend (eVar 1) (eC (.non)))) (sNil)) (sRet (eComp (eTup (dCons (e2 oIx (eVar 1) (eVar 2)) (dCons (e2 oIx
    (eVar 1) (e2 oAdd (eVar 2) (eC (.int 1)))) (dNil)))) (tYes) (.nm 2) [2] (iRange3 (eC (.int 0)) (e1 bLen (eVar 1)) (eC (.int 2)))))))
def F_runs_of : Fn := ⟨1, 3, .pure, b_runs_of⟩
def b__law_due_k06 : SS := sSeq (sSet 1 (eLst (dNil))) (sSeq (sSet 2 (e2 oIx (eVar 0) (eC (.int 0)))) (sSeq (sSet 3 (eC (.non))) (sSeq (sFor (.nm 4) (iSeq (e2 oIx (eVar 0) (eC (.int 1)))) (sSeq (sIf
    (tTru (eVar 2)) (sExpr (eM1 mAppend (eVar 1) (eTup (dCons (eVar 3) (dCons (eVar 4) (dNil)))))) (sNil)) (sSeq (sSet 2 (eNot (eVar 2))) (sSet 3 (eVar 4))))) (sSeq (sIf (tTru (eVar 2)) (sExpr (eM1
    mAppend (eVar 1) (eTup (dCons (eVar 3) (dCons (eC (.non)) (dNil)))))) (sNil)) (sRet (eVar 1))))))
def F__law_due_k06 : Fn := ⟨1, 5, .pure, b__law_due_k06⟩
def b__law_pairs_k06 : SS := sSeq (sIf (tOr (tNot (tTru (e1 (bIsi .list) (eVar 0)))) (tB (e2 oNe (e1 bLen (eVar 0)) (e1 bLen (eVar 1))))) (sRet (eC (.bl false))) (sNil)) (sSeq (sFor (.nm 2) (iSeq
    (eVar 0)) (sSeq (sIf (tOr (tNot (tTru (e1 (bIsi .tuple) (eVar 2)))) (tB (e2 oNe (e1 bLen (eVar 2)) (eC (.int 2))))) (sRet (eC (.bl false))) (sNil)) (sFor (.nm 3) (iSeq (eVar 2)) (sIf (tAnd (tB (e2
    oIsNot (eVar 3) (eC (.non)))) (tNot (tTru (eCall "_law_whole" (dCons (eVar 3) (dNil)))))) (sRet (eC (.bl false))) (sNil))))) (sRet (e2 oEq (eVar 0) (eVar 1))))
def F__law_pairs_k06 : Fn := ⟨2, 4, .pure, b__law_pairs_k06⟩
def b__law_within : SS := sSeq (sFor (.tp [2, 3]) (iSeq (eVar 0)) (sIf (tAnd (tOr (tB (e2 oIs (eVar 2) (eC (.non)))) (tB (e2 oLe (eVar 2) (eVar 1)))) (tOr (tB (e2 oIs (eVar 3) (eC (.non)))) (tB (e2
    oLt (eVar 1) (eVar 3))))) (sRet (eC (.bl true))) (sNil))) (sRet (eC (.bl false)))
def F__law_within : Fn := ⟨2, 4, .pure, b__law_within⟩
def b_law_k06 : SS := sSeq (sFor (.nm 1) (iSeq (eLst (dCons (eCall "_law_reach" (dCons (eVar 0) (dCons (eC (.int 0)) (dNil)))) (dCons (eCall "_law_long" (dCons (eVar 0) (dNil))) (dNil))))) (sSeq (sSet
    2 (eCall "runs_of" (dCons (eVar 1) (dNil)))) (sSeq (sIf (tNot (tTru (eCall "_law_pairs" (dCons (eVar 2) (dCons (eCall "_law_due" (dCons (eVar 1) (dNil))) (dNil)))))) (sRet (eC (.bl false)))
    (sNil)) (sFor (.nm 3) (iSeq (eSlice (eCall "_law_points" (dCons (eLst (dCons (eVar 1) (dNil))) (dNil))) (oNone) (oSome (eC (.int 60))))) (sIf (tB (e2 oNe (eCall "_law_within" (dCons (eVar 2)
    (dCons (eVar 3) (dNil)))) (eCall "_law_in" (dCons (eVar 1) (dCons (eVar 3) (dNil)))))) (sRet (eC (.bl false))) (sNil)))))) (sRet (eC (.bl true)))
def F_law_k06 : Fn := ⟨1, 4, .pure, b_law_k06⟩
def b_moved_by : SS := sRet (eTup (dCons (e2 oIx (eVar 0) (eC (.int 0))) (dCons (e1 bTuple (eComp (e2 oAdd (eVar 2) (eVar 1)) (tYes) (.nm 2) [2] (iSeq (e2 oIx (eVar 0) (eC (.int 1)))))) (dNil))))
def F_moved_by : Fn := ⟨2, 3, .pure, b_moved_by⟩
def b_law_k07 : SS := sSeq (sSet 1 (eCall "_law_reach" (dCons (eVar 0) (dCons (eC (.int 0)) (dNil))))) (sSeq (sSet 2 (eCall "_law_reach" (dCons (eVar 0) (dCons (eC (.int 20)) (dNil))))) (sSeq (sSet 3
    (eCall "_law_draw" (dCons (eVar 0) (dCons (eC (.int 40)) (dCons (eC (.int 4)) (dNil)))))) (sSeq (sSet 4 (e2 oIx (eLst (dCons (eC (.int 0)) (dCons (e2 oSub (eCall "_law_draw" (dCons (eVar 0) (dCons
    (eC (.int 41)) (dCons (eC (.int 9)) (dNil))))) (eC (.int 4))) (dCons (eCall "_law_far" (dCons (eVar 0) (dCons (eC (.int 42)) (dNil)))) (dCons (e1 oNeg (eCall "_law_far" (dCons (eVar 0) (dCons (eC
    (.int 43)) (dNil))))) (dNil)))))) (eVar 3))) (sSeq (sSet 5 (e2 oSub (eCall "_law_draw" (dCons (eVar 0) (dCons (eC (.int 44)) (dCons (eC (.int 100)) (dNil))))) (eC (.int 50)))) (sSeq (sSet 6 (eCall
    "moved_by" (dCons (eVar 1) (dCons (eVar 4) (dNil))))) (sSeq (sIf (tNot (tTru (eCall "_law_is" (dCons (eVar 6) (dNil))))) (sRet (eC (.bl false))) (sNil)) (sSeq (sFor (.nm 7) (iSeq (eCall
    "_law_points" (dCons (eLst (dCons (eVar 1) (dNil))) (dNil)))) (sIf (tB (e2 oNe (eCall "_law_in" (dCons (eVar 6) (dCons (e2 oAdd (eVar 7) (eVar 4)) (dNil)))) (eCall "_law_in" (dCons (eVar 1) (dCons
    (eVar 7) (dNil)))))) (sRet (eC (.bl false))) (sNil))) (sSeq (sIf (tOr (tB (e2 oNe (eCall "moved_by" (dCons (eVar 6) (dCons (e1 oNeg (eVar 4)) (dNil)))) (eVar 1))) (tB (e2 oNe (eCall "moved_by"
    (dCons (eVar 6) (dCons (eVar 5) (dNil)))) (eCall "moved_by" (dCons (eVar 1) (dCons (e2 oAdd (eVar 4) (eVar 5)) (dNil))))))) (sRet (eC (.bl false))) (sNil)) (sSeq (sSet 8 (e2 oIx (eLst (dCons (eC
    (.str "both")) (dCons (eC (.str "either")) (dCons (eC (.str "less")) (dCons (eC (.str "just")) (dNil)))))) (eCall "_law_draw" (dCons (eVar 0) (dCons (eC (.int 45)) (dCons (eC (.int 4))
    (dNil))))))) (sRet (e2 oEq (eCall "moved_by" (dCons (eCall "blend" (dCons (eVar 1) (dCons (eVar 2) (dCons (eVar 8) (dNil))))) (dCons (eVar 4) (dNil)))) (eCall "blend" (dCons (eVar 6) (dCons (eCall
    "moved_by" (dCons (eVar 2) (dCons (eVar 4) (dNil)))) (dCons (eVar 8) (dNil))))))))))))))))
def F_law_k07 : Fn := ⟨1, 9, .pure, b_law_k07⟩
def b_parting : SS := sSeq (sSet 2 (eCall "blend" (dCons (eVar 0) (dCons (eVar 1) (dCons (eC (.str "just")) (dNil)))))) (sSeq (sIf (tB (e2 oEq (eVar 0) (eVar 1))) (sRet (eC (.non))) (sNil)) (sSeq (sIf
    (tNot (tTru (e2 oIx (eVar 2) (eC (.int 0))))) (sRet (e2 oIx (e2 oIx (eVar 2) (eC (.int 1))) (eC (.int 0)))) (sNil)) (sSeq (sIf (tB (e2 oEq (e2 oIx (eVar 2) (eC (.int 1))) (eTup (dNil)))) (sRet (eC
    (.int 0))) (sNil)) (sRet (e2 oSub (e2 oIx (e2 oIx (eVar 2) (eC (.int 1))) (eC (.int 0))) (eC (.int 1)))))))
def F_parting : Fn := ⟨2, 3, .pure, b_parting⟩
def b__law_near : SS := sSeq (sSet 2 (eCall "_law_draw" (dCons (eVar 0) (dCons (eC (.int 20)) (dCons (eC (.int 6)) (dNil)))))) (sSeq (sSet 3 (e1 bList (e2 oIx (eVar 1) (eC (.int 1))))) (sSeq (sIf (tB
    (e2 oEq (eVar 2) (eC (.int 0)))) (sRet (eTup (dCons (eNot (e2 oIx (eVar 1) (eC (.int 0)))) (dCons (e2 oIx (eVar 1) (eC (.int 1))) (dNil))))) (sNil)) (sSeq (sIf (tAnd (tB (e2 oEq (eVar 2) (eC (.int
    1)))) (tB (e2 oGt (e1 bLen (eVar 3)) (eC (.int 0))))) (sExpr (eM1 mPopAt (eVar 3) (eCall "_law_draw" (dCons (eVar 0) (dCons (eC (.int 21)) (dCons (e1 bLen (eVar 3)) (dNil))))))) (sNil)) (sSeq (sIf
    (tB (e2 oEq (eVar 2) (eC (.int 2)))) (sSet 3 (e1 bSortedSet (e2 oAdd (eVar 3) (eLst (dCons (e2 oSub (eCall "_law_draw" (dCons (eVar 0) (dCons (eC (.int 22)) (dCons (eC (.int 30)) (dNil))))) (eC
    (.int 10))) (dNil)))))) (sNil)) (sSeq (sIf (tB (e2 oGt (eVar 2) (eC (.int 3)))) (sRet (eCall "_law_reach" (dCons (eVar 0) (dCons (eC (.int 30)) (dNil))))) (sNil)) (sRet (eTup (dCons (e2 oIx (eVar
    1) (eC (.int 0))) (dCons (e1 bTuple (eVar 3)) (dNil))))))))))
def F__law_near : Fn := ⟨2, 4, .pure, b__law_near⟩
def b__law_due_k08 : SS := sSeq (sSet 2 (eComp (eVar 3) (tB (e2 oNotIn (eVar 3) (e2 oIx (eVar 1) (eC (.int 1))))) (.nm 3) [3] (iSeq (e2 oIx (eVar 0) (eC (.int 1)))))) (sSeq (sSet 2 (e1 bSorted (e2
    oAdd (eVar 2) (eComp (eVar 3) (tB (e2 oNotIn (eVar 3) (e2 oIx (eVar 0) (eC (.int 1))))) (.nm 3) [3] (iSeq (e2 oIx (eVar 1) (eC (.int 1)))))))) (sSeq (sIf (tB (e2 oEq (e2 oIx (eVar 0) (eC (.int
    0))) (e2 oIx (eVar 1) (eC (.int 0))))) (sRet (e2 oIx (eVar 2) (eC (.int 0)))) (sNil)) (sSeq (sIf (tB (e2 oEq (eVar 2) (eLst (dNil)))) (sRet (eC (.int 0))) (sNil)) (sRet (e2 oSub (e2 oIx (eVar 2)
    (eC (.int 0))) (eC (.int 1)))))))
def F__law_due_k08 : Fn := ⟨2, 4, .pure, b__law_due_k08⟩
def b_law_k08 : SS := sSeq (sSet 1 (eCall "_law_reach" (dCons (eVar 0) (dCons (eC (.int 0)) (dNil))))) (sSeq (sSet 2 (eCall "_law_near" (dCons (eVar 0) (dCons (eVar 1) (dNil))))) (sSeq (sFor (.nm 3)
    (iSeq (eLst (dCons (eTup (dCons (eVar 1) (dCons (eVar 2) (dNil)))) (dCons (eTup (dCons (eVar 2) (dCons (eVar 1) (dNil)))) (dNil))))) (sSeq (sSet 4 (eCall "parting" (dCons (e2 oIx (eVar 3) (eC
    (.int 0))) (dCons (e2 oIx (eVar 3) (eC (.int 1))) (dNil))))) (sIf (tB (e2 oEq (eVar 1) (eVar 2))) (sIf (tB (e2 oIsNot (eVar 4) (eC (.non)))) (sRet (eC (.bl false))) (sNil)) (sIf (tOr (tNot (tTru
    (eCall "_law_whole" (dCons (eVar 4) (dNil))))) (tB (e2 oNe (eVar 4) (eCall "_law_due" (dCons (eVar 1) (dCons (eVar 2) (dNil))))))) (sRet (eC (.bl false))) (sIf (tB (e2 oEq (eCall "_law_in" (dCons
    (eVar 1) (dCons (eVar 4) (dNil)))) (eCall "_law_in" (dCons (eVar 2) (dCons (eVar 4) (dNil)))))) (sRet (eC (.bl false))) (sNil)))))) (sRet (e2 oIs (eCall "parting" (dCons (eVar 1) (dCons (eVar 1)
    (dNil)))) (eC (.non))))))
def F_law_k08 : Fn := ⟨1, 5, .pure, b_law_k08⟩
def b_reach_at : SS := sSeq (sSet 2 (e2 oIx (eVar 0) (eC (.int 0)))) (sSeq (sFor (.tp [3, 4]) (iSeq (e2 oIx (eVar 0) (eC (.int 1)))) (sIf (tB (e2 oLe (eVar 3) (eVar 1))) (sSet 2 (eVar 4)) (sNil)))
    (sRet (eVar 2)))
def F_reach_at : Fn := ⟨2, 5, .pure, b_reach_at⟩
def b_lies_at : SS := sRet (eCall "lies_in" (dCons (eCall "reach_at" (dCons (eVar 0) (dCons (eVar 2) (dNil)))) (dCons (eVar 1) (dNil))))
def F_lies_at : Fn := ⟨3, 3, .pure, b_lies_at⟩
def b_turns_of : SS := sRet (eComp (e2 oIx (eVar 1) (eC (.int 0))) (tYes) (.nm 1) [1] (iSeq (e2 oIx (eVar 0) (eC (.int 1)))))
def F_turns_of : Fn := ⟨1, 2, .pure, b_turns_of⟩
def b_days_of : SS := sSeq (sSet 1 (e1 bList (e2 oIx (e2 oIx (eVar 0) (eC (.int 0))) (eC (.int 1))))) (sSeq (sFor (.tp [2, 3]) (iSeq (e2 oIx (eVar 0) (eC (.int 1)))) (sSet 1 (e2 oAdd (eVar 1) (e1
    bList (e2 oIx (eVar 3) (eC (.int 1))))))) (sRet (e1 bSortedSet (eVar 1))))
def F_days_of : Fn := ⟨1, 4, .pure, b_days_of⟩
def b__law_cell : SS := sSeq (sIf (tB (e2 oLt (eVar 1) (e1 bLen (eVar 0)))) (sRet (e2 oIx (eVar 0) (eVar 1))) (sNil)) (sRet (eC (.int 0)))
def F__law_cell : Fn := ⟨2, 2, .pure, b__law_cell⟩
def b__law_whole : SS := sRet (eAnd (e1 (bIsi .int) (eVar 0)) (eNot (e1 (bIsi .bool) (eVar 0))))
def F__law_whole : Fn := ⟨1, 1, .pure, b__law_whole⟩
def b__law_stir : SS := sSeq (sSet 2 (e2 oMod (e2 oMul (e2 oAdd (e2 oMod (eVar 0) (eC (.int 2147483647))) (eC (.int 1))) (eVar 1)) (eC (.int 2147483647)))) (sRet (e2 oMod (e2 oMul (eVar 2) (eVar 2))
    (eC (.int 2147483629))))
def F__law_stir : Fn := ⟨2, 3, .pure, b__law_stir⟩
def b__law_reach_k09 : SS := sSeq (sSet 4 (eCall "_law_stir" (dCons (eVar 0) (dCons (eVar 1) (dNil))))) (sSeq (sSet 5 (eLst (dNil))) (sSeq (sFor (.nm 6) (iRange1 (eC (.int 6))) (sSeq (sSet 4 (e2 oDiv
    (eVar 4) (eC (.int 3)))) (sIf (tB (e2 oEq (e2 oMod (eVar 4) (eC (.int 3))) (eC (.int 0)))) (sExpr (eM1 mAppend (eVar 5) (e2 oAdd (eVar 3) (e2 oMul (e2 oSub (eVar 6) (eC (.int 2))) (eVar 2)))))
    (sNil)))) (sRet (eTup (dCons (e2 oEq (e2 oMod (eCall "_law_stir" (dCons (eVar 0) (dCons (eVar 1) (dNil)))) (eC (.int 2))) (eC (.int 1))) (dCons (e1 bTuple (eVar 5)) (dNil)))))))
def F__law_reach_k09 : Fn := ⟨4, 7, .pure, b__law_reach_k09⟩
def b__law_plot_k09 : SS := sSeq (sSet 4 (eTup (dCons (eC (.bl false)) (dCons (eTup (dNil)) (dNil))))) (sSeq (sFor (.nm 5) (iSeq (eSlice (eVar 0) (oNone) (oSome (eC (.int 1))))) (sIf (tB (e2 oEq (e2
    oMod (e2 oDiv (eCall "_law_stir" (dCons (eVar 5) (dCons (eC (.int 39373)) (dNil)))) (eC (.int 11))) (eC (.int 3))) (eC (.int 0)))) (sSet 4 (eCall "_law_reach" (dCons (eVar 5) (dCons (eC (.int
    40014)) (dCons (eVar 2) (dCons (eVar 3) (dNil))))))) (sNil))) (sSeq (sSet 6 (eVar 4)) (sSeq (sSet 7 (eLst (dNil))) (sSeq (sSet 8 (e2 oMul (e1 oNeg (eC (.int 3))) (eVar 2))) (sSeq (sFor (.nm 5)
    (iSeq (eVar 0)) (sSeq (sSet 8 (e2 oAdd (eVar 8) (e2 oMul (e2 oAdd (eC (.int 1)) (e2 oMod (e2 oDiv (eCall "_law_stir" (dCons (eVar 5) (dCons (e2 oAdd (eVar 1) (eC (.int 2))) (dNil)))) (eC (.int
    7))) (eC (.int 3)))) (eVar 2)))) (sSeq (sSet 9 (eCall "_law_reach" (dCons (eVar 5) (dCons (eVar 1) (dCons (eVar 2) (dCons (eVar 3) (dNil))))))) (sSeq (sIf (tB (e2 oNe (eVar 9) (eVar 4))) (sExpr
    (eM1 mAppend (eVar 7) (eTup (dCons (eVar 8) (dCons (eVar 9) (dNil)))))) (sNil)) (sSet 4 (eVar 9)))))) (sRet (eTup (dCons (eVar 6) (dCons (e1 bTuple (eVar 7)) (dNil))))))))))
def F__law_plot_k09 : Fn := ⟨4, 10, .pure, b__law_plot_k09⟩
def b__law_scale : SS := sRet (eTup (dCons (e2 oIx (eLst (dCons (eC (.int 1)) (dCons (eC (.int 1)) (dCons (eC (.int 2)) (dCons (e2 oPow (eC (.int 10)) (eC (.int 50))) (dNil)))))) (e2 oMod (eVar 0) (eC
    (.int 4)))) (dCons (e2 oIx (eLst (dCons (eC (.int 0)) (dCons (eC (.int 0)) (dCons (e2 oMod (eVar 0) (e2 oPow (eC (.int 10)) (eC (.int 50)))) (dCons (e2 oSub (eC (.int 0)) (e2 oMod (eVar 0) (e2
    oPow (eC (.int 10)) (eC (.int 50))))) (dNil)))))) (e2 oMod (e2 oDiv (eVar 0) (eC (.int 4))) (eC (.int 4)))) (dNil))))
def F__law_scale : Fn := ⟨1, 1, .pure, b__law_scale⟩
def b__law_in_k09 : SS := sRet (e2 oNe (e2 oIx (eVar 0) (eC (.int 0))) (e2 oEq (e2 oMod (e1 bLen (eComp (eVar 2) (tB (e2 oLe (eVar 2) (eVar 1))) (.nm 2) [2] (iSeq (e2 oIx (eVar 0) (eC (.int 1))))))
    (eC (.int 2))) (eC (.int 1))))
def F__law_in_k09 : Fn := ⟨2, 3, .pure, b__law_in_k09⟩
def b__law_at_k09 : SS := sSeq (sSet 2 (e2 oIx (eVar 0) (eC (.int 0)))) (sSeq (sFor (.tp [3, 4]) (iSeq (e2 oIx (eVar 0) (eC (.int 1)))) (sIf (tB (e2 oLe (eVar 3) (eVar 1))) (sSet 2 (eVar 4)) (sNil)))
    (sRet (eVar 2)))
def F__law_at_k09 : Fn := ⟨2, 5, .pure, b__law_at_k09⟩
def b__law_beside : SS := sSeq (sSet 1 (eLst (dCons (eC (.int 0)) (dNil)))) (sSeq (sFor (.nm 2) (iSeq (eVar 0)) (sSet 1 (e2 oAdd (eVar 1) (eLst (dCons (e2 oSub (eVar 2) (eC (.int 1))) (dCons (eVar 2)
    (dNil))))))) (sRet (e1 bSortedSet (e2 oAdd (eVar 1) (eLst (dCons (e2 oSub (e1 bMin1 (eVar 1)) (e2 oPow (eC (.int 10)) (eC (.int 55)))) (dCons (e2 oAdd (e1 bMax1 (eVar 1)) (e2 oPow (eC (.int 10))
    (eC (.int 55)))) (dNil))))))))
def F__law_beside : Fn := ⟨1, 3, .pure, b__law_beside⟩
def b__law_days : SS := sSeq (sSet 1 (eLst (dNil))) (sSeq (sFor (.nm 2) (iSeq (eVar 0)) (sSeq (sSet 1 (e2 oAdd (eVar 1) (e1 bList (e2 oIx (e2 oIx (eVar 2) (eC (.int 0))) (eC (.int 1)))))) (sFor (.tp
    [3, 4]) (iSeq (e2 oIx (eVar 2) (eC (.int 1)))) (sSet 1 (e2 oAdd (eVar 1) (e1 bList (e2 oIx (eVar 4) (eC (.int 1))))))))) (sRet (eCall "_law_beside" (dCons (e1 bSortedSet (eVar 1)) (dNil)))))
def F__law_days : Fn := ⟨1, 5, .pure, b__law_days⟩
def b__law_turns : SS := sSeq (sSet 1 (eLst (dNil))) (sSeq (sFor (.nm 2) (iSeq (eVar 0)) (sSet 1 (e2 oAdd (eVar 1) (eComp (e2 oIx (eVar 3) (eC (.int 0))) (tYes) (.nm 3) [3] (iSeq (e2 oIx (eVar 2) (eC
    (.int 1)))))))) (sRet (eCall "_law_beside" (dCons (e1 bSortedSet (eVar 1)) (dNil)))))
def F__law_turns : Fn := ⟨1, 4, .pure, b__law_turns⟩
def b__law_is_reach_k09 : SS := sSeq (sIf (tOr (tNot (tTru (e1 (bIsi .tuple) (eVar 0)))) (tOr (tB (e2 oNe (e1 bLen (eVar 0)) (eC (.int 2)))) (tNot (tTru (e1 (bIsi .bool) (e2 oIx (eVar 0) (eC (.int
    0)))))))) (sRet (eC (.bl false))) (sNil)) (sSeq (sIf (tNot (tTru (e1 (bIsi .tuple) (e2 oIx (eVar 0) (eC (.int 1)))))) (sRet (eC (.bl false))) (sNil)) (sSeq (sFor (.nm 1) (iRange1 (e1 bLen (e2 oIx
    (eVar 0) (eC (.int 1))))) (sIf (tOr (tNot (tTru (eCall "_law_whole" (dCons (e2 oIx (e2 oIx (eVar 0) (eC (.int 1))) (eVar 1)) (dNil))))) (tAnd (tB (e2 oGt (eVar 1) (eC (.int 0)))) (tB (e2 oGe (e2
    oIx (e2 oIx (eVar 0) (eC (.int 1))) (e2 oSub (eVar 1) (eC (.int 1)))) (e2 oIx (e2 oIx (eVar 0) (eC (.int 1))) (eVar 1)))))) (sRet (eC (.bl false))) (sNil))) (sRet (eC (.bl true)))))
def F__law_is_reach_k09 : Fn := ⟨1, 2, .pure, b__law_is_reach_k09⟩
def b__law_is_plot_k09 : SS := sSeq (sIf (tOr (tNot (tTru (e1 (bIsi .tuple) (eVar 0)))) (tOr (tB (e2 oNe (e1 bLen (eVar 0)) (eC (.int 2)))) (tNot (tTru (eCall "_law_is_reach" (dCons (e2 oIx (eVar 0)
    (eC (.int 0))) (dNil))))))) (sRet (eC (.bl false))) (sNil)) (sSeq (sIf (tNot (tTru (e1 (bIsi .tuple) (e2 oIx (eVar 0) (eC (.int 1)))))) (sRet (eC (.bl false))) (sNil)) (sSeq (sSet 1 (e2 oIx (eVar
    0) (eC (.int 0)))) (sSeq (sFor (.nm 2) (iRange1 (e1 bLen (e2 oIx (eVar 0) (eC (.int 1))))) (sSeq (sSet 3 (e2 oIx (e2 oIx (eVar 0) (eC (.int 1))) (eVar 2))) (sSeq (sIf (tOr (tNot (tTru (e1 (bIsi
    .tuple) (eVar 3)))) (tOr (tB (e2 oNe (e1 bLen (eVar 3)) (eC (.int 2)))) (tOr (tNot (tTru (eCall "_law_whole" (dCons (e2 oIx (eVar 3) (eC (.int 0))) (dNil))))) (tNot (tTru (eCall "_law_is_reach"
    (dCons (e2 oIx (eVar 3) (eC (.int 1))) (dNil)))))))) (sRet (eC (.bl false))) (sNil)) (sSeq (sIf (tOr (tB (e2 oEq (e2 oIx (eVar 3) (eC (.int 1))) (eVar 1))) (tAnd (tB (e2 oGt (eVar 2) (eC (.int
    0)))) (tB (e2 oGe (e2 oIx (e2 oIx (e2 oIx (eVar 0) (eC (.int 1))) (e2 oSub (eVar 2) (eC (.int 1)))) (eC (.int 0))) (e2 oIx (eVar 3) (eC (.int 0))))))) (sRet (eC (.bl false))) (sNil)) (sSet 1 (e2
    oIx (eVar 3) (eC (.int 1)))))))) (sRet (eC (.bl true))))))
def F__law_is_plot_k09 : Fn := ⟨1, 4, .pure, b__law_is_plot_k09⟩
def b__law_numbers : SS := sSeq (sIf (tOr (tNot (tTru (e1 (bIsi .list) (eVar 0)))) (tB (e2 oNe (eComp (eVar 2) (tNot (tTru (eCall "_law_whole" (dCons (eVar 2) (dNil))))) (.nm 2) [2] (iSeq (eVar 0)))
    (eLst (dNil))))) (sRet (eC (.bl false))) (sNil)) (sRet (e2 oEq (eVar 0) (eVar 1)))
def F__law_numbers : Fn := ⟨2, 3, .pure, b__law_numbers⟩
def b__law_edges : SS := sSeq (sSet 1 (e1 bList (e2 oIx (e2 oIx (eVar 0) (eC (.int 0))) (eC (.int 1))))) (sSeq (sFor (.tp [2, 3]) (iSeq (e2 oIx (eVar 0) (eC (.int 1)))) (sSet 1 (e2 oAdd (eVar 1) (e1
    bList (e2 oIx (eVar 3) (eC (.int 1))))))) (sRet (e1 bSortedSet (eVar 1))))
def F__law_edges : Fn := ⟨1, 4, .pure, b__law_edges⟩
def b_law_k09 : SS := sSeq (sUnp [1, 2] (eCall "_law_scale" (dCons (eCall "_law_cell" (dCons (eVar 0) (dCons (eC (.int 0)) (dNil)))) (dNil)))) (sSeq (sSet 3 (eCall "_law_plot" (dCons (eSlice (eVar 0)
    (oSome (eC (.int 1))) (oSome (eC (.int 21)))) (dCons (eC (.int 48271)) (dCons (eVar 1) (dCons (eVar 2) (dNil))))))) (sSeq (sSet 4 (eCall "_law_days" (dCons (eLst (dCons (eVar 3) (dNil))) (dNil))))
    (sSeq (sFor (.nm 5) (iSeq (eCall "_law_turns" (dCons (eLst (dCons (eVar 3) (dNil))) (dNil)))) (sSeq (sSet 6 (eCall "_law_at" (dCons (eVar 3) (dCons (eVar 5) (dNil))))) (sSeq (sSet 7 (eCall
    "reach_at" (dCons (eVar 3) (dCons (eVar 5) (dNil))))) (sSeq (sIf (tOr (tNot (tTru (eCall "_law_is_reach" (dCons (eVar 7) (dNil))))) (tB (e2 oNe (eVar 7) (eVar 6)))) (sRet (eC (.bl false))) (sNil))
    (sFor (.nm 8) (iSeq (eVar 4)) (sSeq (sSet 9 (eCall "lies_at" (dCons (eVar 3) (dCons (eVar 8) (dCons (eVar 5) (dNil)))))) (sIf (tOr (tNot (tTru (e1 (bIsi .bool) (eVar 9)))) (tB (e2 oNe (eVar 9)
    (eCall "_law_in" (dCons (eVar 6) (dCons (eVar 8) (dNil))))))) (sRet (eC (.bl false))) (sNil)))))))) (sSeq (sSet 7 (eCall "turns_of" (dCons (eVar 3) (dNil)))) (sSeq (sIf (tOr (tNot (tTru (eCall
    "_law_numbers" (dCons (eVar 7) (dCons (eComp (e2 oIx (eVar 10) (eC (.int 0))) (tYes) (.nm 10) [10] (iSeq (e2 oIx (eVar 3) (eC (.int 1))))) (dNil)))))) (tNot (tTru (eCall "_law_numbers" (dCons
    (eCall "days_of" (dCons (eVar 3) (dNil))) (dCons (eCall "_law_edges" (dCons (eVar 3) (dNil))) (dNil))))))) (sRet (eC (.bl false))) (sNil)) (sSeq (sExpr (eM1 mAppend (eVar 7) (eC (.int 0)))) (sSeq
    (sExpr (eN1 mAppend (eCall "days_of" (dCons (eVar 3) (dNil))) (eC (.int 0)))) (sRet (eAnd (e2 oEq (eCall "turns_of" (dCons (eVar 3) (dNil))) (eComp (e2 oIx (eVar 10) (eC (.int 0))) (tYes) (.nm 10)
    [10] (iSeq (e2 oIx (eVar 3) (eC (.int 1)))))) (e2 oEq (eCall "days_of" (dCons (eVar 3) (dNil))) (eCall "_law_edges" (dCons (eVar 3) (dNil)))))))))))))
def F_law_k09 : Fn := ⟨1, 11, .pure, b_law_k09⟩
def b_plot_of : SS := sSeq (sSet 2 (eLst (dNil))) (sSeq (sSet 3 (eVar 0)) (sSeq (sFor (.tp [4, 5]) (iSeq (eVar 1)) (sIf (tB (e2 oNe (eVar 5) (eVar 3))) (sSeq (sExpr (eM1 mAppend (eVar 2) (eTup (dCons
    (eVar 4) (dCons (eVar 5) (dNil)))))) (sSet 3 (eVar 5))) (sNil))) (sRet (eTup (dCons (eVar 0) (dCons (e1 bTuple (eVar 2)) (dNil)))))))
def F_plot_of : Fn := ⟨2, 6, .pure, b_plot_of⟩
def b__law_pairs_k10 : SS := sSeq (sSet 4 (eLst (dNil))) (sSeq (sSet 5 (eVar 1)) (sSeq (sSet 6 (e2 oMul (e1 oNeg (eC (.int 3))) (eVar 2))) (sSeq (sFor (.nm 7) (iSeq (eVar 0)) (sSeq (sSet 6 (e2 oAdd
    (eVar 6) (e2 oMul (e2 oAdd (eC (.int 1)) (e2 oMod (e2 oDiv (eCall "_law_stir" (dCons (eVar 7) (dCons (eC (.int 40014)) (dNil)))) (eC (.int 7))) (eC (.int 3)))) (eVar 2)))) (sSeq (sIf (tB (e2 oGt
    (e2 oMod (e2 oDiv (eCall "_law_stir" (dCons (eVar 7) (dCons (eC (.int 69621)) (dNil)))) (eC (.int 5))) (eC (.int 3))) (eC (.int 0)))) (sSet 5 (eCall "_law_reach" (dCons (eVar 7) (dCons (eC (.int
    48271)) (dCons (eVar 2) (dCons (eVar 3) (dNil))))))) (sNil)) (sExpr (eM1 mAppend (eVar 4) (eTup (dCons (eVar 6) (dCons (eVar 5) (dNil))))))))) (sRet (eVar 4)))))
def F__law_pairs_k10 : Fn := ⟨4, 8, .pure, b__law_pairs_k10⟩
def b__law_due_k10 : SS := sSeq (sSet 2 (eLst (dNil))) (sSeq (sFor (.nm 3) (iRange1 (e1 bLen (eVar 1))) (sSeq (sSet 4 (eVar 0)) (sSeq (sIf (tB (e2 oGt (eVar 3) (eC (.int 0)))) (sSet 4 (e2 oIx (e2 oIx
    (eVar 1) (e2 oSub (eVar 3) (eC (.int 1)))) (eC (.int 1)))) (sNil)) (sIf (tB (e2 oNe (e2 oIx (e2 oIx (eVar 1) (eVar 3)) (eC (.int 1))) (eVar 4))) (sExpr (eM1 mAppend (eVar 2) (e2 oIx (eVar 1) (eVar
    3)))) (sNil))))) (sRet (eTup (dCons (eVar 0) (dCons (e1 bTuple (eVar 2)) (dNil))))))
def F__law_due_k10 : Fn := ⟨2, 5, .pure, b__law_due_k10⟩
def b_law_k10 : SS := sSeq (sSet 1 (eCall "_law_cell" (dCons (eVar 0) (dCons (eC (.int 0)) (dNil))))) (sSeq (sUnp [2, 3] (eCall "_law_scale" (dCons (eVar 1) (dNil)))) (sSeq (sSet 4 (eCall "_law_reach"
    (dCons (eVar 1) (dCons (eC (.int 16807)) (dCons (eVar 2) (dCons (eVar 3) (dNil))))))) (sSeq (sIf (tB (e2 oEq (e2 oMod (e2 oDiv (eVar 1) (eC (.int 16))) (eC (.int 2))) (eC (.int 0)))) (sSet 4 (eTup
    (dCons (eC (.bl false)) (dCons (eTup (dNil)) (dNil))))) (sNil)) (sSeq (sSet 5 (eCall "_law_pairs" (dCons (eSlice (eVar 0) (oSome (eC (.int 1))) (oSome (eC (.int 41)))) (dCons (eVar 4) (dCons (eVar
    2) (dCons (eVar 3) (dNil))))))) (sSeq (sSet 6 (e1 bList (eVar 5))) (sSeq (sSet 7 (eCall "plot_of" (dCons (eVar 4) (dCons (eVar 6) (dNil))))) (sSeq (sIf (tOr (tNot (tTru (eCall "_law_is_plot"
    (dCons (eVar 7) (dNil))))) (tOr (tB (e2 oNe (eVar 7) (eCall "_law_due" (dCons (eVar 4) (dCons (eVar 5) (dNil)))))) (tB (e2 oNe (eVar 6) (eVar 5))))) (sRet (eC (.bl false))) (sNil)) (sSeq (sExpr
    (eM0 mClear (eVar 6))) (sSeq (sFor (.tp [8, 9]) (iSeq (eVar 5)) (sIf (tB (e2 oNe (eCall "reach_at" (dCons (eVar 7) (dCons (eVar 8) (dNil)))) (eVar 9))) (sRet (eC (.bl false))) (sNil))) (sRet (eAnd
    (e2 oEq (eCall "plot_of" (dCons (eVar 4) (dCons (eLst (dNil)) (dNil)))) (eTup (dCons (eVar 4) (dCons (eTup (dNil)) (dNil))))) (e2 oEq (eCall "plot_of" (dCons (eVar 4) (dCons (e1 bList (e2 oIx
    (eVar 7) (eC (.int 1)))) (dNil)))) (eVar 7)))))))))))))
def F_law_k10 : Fn := ⟨1, 10, .pure, b_law_k10⟩
def b_blend_plots : SS := sSeq (sSet 3 (eLst (dNil))) (sSeq (sFor (.nm 4) (iSeq (e1 bSortedSet (e2 oAdd (eCall "turns_of" (dCons (eVar 0) (dNil))) (eCall "turns_of" (dCons (eVar 1) (dNil)))))) (sExpr
    (eM1 mAppend (eVar 3) (eTup (dCons (eVar 4) (dCons (eCall "blend" (dCons (eCall "reach_at" (dCons (eVar 0) (dCons (eVar 4) (dNil)))) (dCons (eCall "reach_at" (dCons (eVar 1) (dCons (eVar 4)
    (dNil)))) (dCons (eVar 2) (dNil))))) (dNil))))))) (sRet (eCall "plot_of" (dCons (eCall "blend" (dCons (e2 oIx (eVar 0) (eC (.int 0))) (dCons (e2 oIx (eVar 1) (eC (.int 0))) (dCons (eVar 2)
    (dNil))))) (dCons (eVar 3) (dNil))))))
def F_blend_plots : Fn := ⟨3, 5, .pure, b_blend_plots⟩
def b__law_word : SS := sSeq (sIf (tB (e2 oEq (eVar 0) (eC (.str "both")))) (sRet (eAnd (eVar 1) (eVar 2))) (sNil)) (sSeq (sIf (tB (e2 oEq (eVar 0) (eC (.str "either")))) (sRet (eOr (eVar 1) (eVar
    2))) (sNil)) (sSeq (sIf (tB (e2 oEq (eVar 0) (eC (.str "less")))) (sRet (eAnd (eVar 1) (eNot (eVar 2)))) (sNil)) (sRet (e2 oNe (eVar 1) (eVar 2)))))
def F__law_word : Fn := ⟨3, 3, .pure, b__law_word⟩
def b__law_right : SS := sSeq (sSet 3 (eCall "blend_plots" (dCons (eVar 0) (dCons (eVar 1) (dCons (eVar 2) (dNil)))))) (sSeq (sIf (tNot (tTru (eCall "_law_is_plot" (dCons (eVar 3) (dNil))))) (sRet (eC
    (.bl false))) (sNil)) (sSeq (sSet 4 (eCall "_law_days" (dCons (eLst (dCons (eVar 0) (dCons (eVar 1) (dNil)))) (dNil)))) (sSeq (sFor (.nm 5) (iSeq (eCall "_law_turns" (dCons (eLst (dCons (eVar 0)
    (dCons (eVar 1) (dNil)))) (dNil)))) (sSeq (sSet 6 (eCall "_law_at" (dCons (eVar 3) (dCons (eVar 5) (dNil))))) (sSeq (sSet 7 (eCall "_law_at" (dCons (eVar 0) (dCons (eVar 5) (dNil))))) (sSeq (sSet
    8 (eCall "_law_at" (dCons (eVar 1) (dCons (eVar 5) (dNil))))) (sFor (.nm 9) (iSeq (eVar 4)) (sIf (tB (e2 oNe (eCall "_law_in" (dCons (eVar 6) (dCons (eVar 9) (dNil)))) (eCall "_law_word" (dCons
    (eVar 2) (dCons (eCall "_law_in" (dCons (eVar 7) (dCons (eVar 9) (dNil)))) (dCons (eCall "_law_in" (dCons (eVar 8) (dCons (eVar 9) (dNil)))) (dNil))))))) (sRet (eC (.bl false))) (sNil))))))) (sRet
    (eC (.bl true))))))
def F__law_right : Fn := ⟨3, 10, .pure, b__law_right⟩
def b__law_refused_k11 : SS := sSeq (sSet 3 (eLst (dNil))) (sSeq (sTry (some 4) (sExpr (eCall "blend_plots" (dCons (eVar 0) (dCons (eVar 1) (dCons (eVar 2) (dNil)))))) (catX exsAll "HeldError") (suSem
    exsAll [.one 5 (.isi false ["NoColumn", "NoStretch", "NoTable", "NoText", "NoTurn", "NoWidth"]), .lst 3 false [.isi false ["NoWord"], .isi false ["ValueError"], .var 5]])) (sRet (e2 oEq (eVar 3)
    (eLst (dCons (eC (.bl true)) (dCons (eC (.bl true)) (dCons (eC (.bl false)) (dNil))))))))
def F__law_refused_k11 : Fn := ⟨3, 6, .pure, b__law_refused_k11⟩
def b__law_turned_over : SS := sRet (eTup (dCons (eTup (dCons (eNot (e2 oIx (e2 oIx (eVar 0) (eC (.int 0))) (eC (.int 0)))) (dCons (e2 oIx (e2 oIx (eVar 0) (eC (.int 0))) (eC (.int 1))) (dNil))))
    (dCons (e1 bTuple (eComp (eTup (dCons (eVar 1) (dCons (eTup (dCons (eNot (e2 oIx (eVar 2) (eC (.int 0)))) (dCons (e2 oIx (eVar 2) (eC (.int 1))) (dNil)))) (dNil)))) (tYes) (.tp [1, 2]) [1, 2]
    (iSeq (e2 oIx (eVar 0) (eC (.int 1)))))) (dNil))))
def F__law_turned_over : Fn := ⟨1, 3, .pure, b__law_turned_over⟩
def b_law_k11 : SS := sSeq (sSet 1 (eCall "_law_cell" (dCons (eVar 0) (dCons (eC (.int 0)) (dNil))))) (sSeq (sUnp [2, 3] (eCall "_law_scale" (dCons (eVar 1) (dNil)))) (sSeq (sSet 4 (eSlice (eVar 0)
    (oSome (eC (.int 1))) (oSome (eC (.int 17))))) (sSeq (sSet 5 (eCall "_law_plot" (dCons (eStep (eVar 4) (oNone) (oNone) 2) (dCons (eC (.int 48271)) (dCons (eVar 2) (dCons (eVar 3) (dNil)))))))
    (sSeq (sSet 6 (eCall "_law_plot" (dCons (eStep (eVar 4) (oSome (eC (.int 1))) (oNone) 2) (dCons (eC (.int 69621)) (dCons (eVar 2) (dCons (eVar 3) (dNil))))))) (sSeq (sIf (tB (e2 oEq (e2 oMod (e2
    oDiv (eVar 1) (eC (.int 16))) (eC (.int 6))) (eC (.int 1)))) (sSet 6 (eVar 5)) (sNil)) (sSeq (sIf (tB (e2 oEq (e2 oMod (e2 oDiv (eVar 1) (eC (.int 16))) (eC (.int 6))) (eC (.int 2)))) (sSet 6
    (eCall "_law_turned_over" (dCons (eVar 5) (dNil)))) (sNil)) (sSeq (sFor (.nm 7) (iSeq (eLst (dCons (eC (.str "both")) (dCons (eC (.str "either")) (dCons (eC (.str "less")) (dCons (eC (.str
    "just")) (dNil))))))) (sIf (tNot (tTru (eCall "_law_right" (dCons (eVar 5) (dCons (eVar 6) (dCons (eVar 7) (dNil))))))) (sRet (eC (.bl false))) (sNil))) (sSeq (sSet 8 (eLst (dCons (eC (.str ""))
    (dCons (eC (.str "Both")) (dCons (eC (.str "and")) (dCons (eC (.str "eithe")) (dCons (eC (.str "just ")) (dCons (eC (.str "not")) (dCons (eC (.str "is")) (dCons (eC (.str "known")) (dCons (eC
    (.str "or")) (dCons (eC (.str "xor")) (dCons (eC (.str "any")) (dNil)))))))))))))) (sRet (eCall "_law_refused" (dCons (eVar 5) (dCons (eVar 6) (dCons (e2 oIx (eVar 8) (e2 oMod (e2 oDiv (eVar 1)
    (eC (.int 96))) (eC (.int 11)))) (dNil))))))))))))))
def F_law_k11 : Fn := ⟨1, 9, .pure, b_law_k11⟩
def b_is_turn : SS := sRet (eAnd (e1 (bIsi .int) (eVar 0)) (eNot (e1 (bIsi .bool) (eVar 0))))
def F_is_turn : Fn := ⟨1, 1, .pure, b_is_turn⟩
def b_is_step : SS := sSeq (sIf (tOr (tNot (tTru (e1 (bIsi .tuple) (eVar 0)))) (tB (e2 oNe (e1 bLen (eVar 0)) (eC (.int 2))))) (sRet (eC (.bl false))) (sNil)) (sRet (eAnd (eCall "is_turn" (dCons (e2
    oIx (eVar 0) (eC (.int 0))) (dNil))) (eCall "is_reach" (dCons (e2 oIx (eVar 0) (eC (.int 1))) (dNil)))))
def F_is_step : Fn := ⟨1, 1, .pure, b_is_step⟩
def b_is_plot : SS := sSeq (sIf (tOr (tNot (tTru (e1 (bIsi .tuple) (eVar 0)))) (tB (e2 oNe (e1 bLen (eVar 0)) (eC (.int 2))))) (sRet (eC (.bl false))) (sNil)) (sSeq (sIf (tOr (tNot (tTru (eCall
    "is_reach" (dCons (e2 oIx (eVar 0) (eC (.int 0))) (dNil))))) (tNot (tTru (e1 (bIsi .tuple) (e2 oIx (eVar 0) (eC (.int 1))))))) (sRet (eC (.bl false))) (sNil)) (sSeq (sSet 1 (e2 oIx (eVar 0) (eC
    (.int 0)))) (sSeq (sSet 2 (eC (.non))) (sSeq (sFor (.nm 3) (iSeq (e2 oIx (eVar 0) (eC (.int 1)))) (sSeq (sIf (tOr (tNot (tTru (eCall "is_step" (dCons (eVar 3) (dNil))))) (tB (e2 oEq (e2 oIx (eVar
    3) (eC (.int 1))) (eVar 1)))) (sRet (eC (.bl false))) (sNil)) (sSeq (sIf (tAnd (tB (e2 oIsNot (eVar 2) (eC (.non)))) (tB (e2 oLe (e2 oIx (eVar 3) (eC (.int 0))) (eVar 2)))) (sRet (eC (.bl false)))
    (sNil)) (sSeq (sSet 1 (e2 oIx (eVar 3) (eC (.int 1)))) (sSet 2 (e2 oIx (eVar 3) (eC (.int 0)))))))) (sRet (eC (.bl true)))))))
def F_is_plot : Fn := ⟨1, 4, .pure, b_is_plot⟩
def b__law_bad_reach : SS := sSeq (sIf (tB (e2 oEq (eVar 1) (eC (.int 0)))) (sRet (eLst (dCons (e2 oIx (eVar 0) (eC (.int 0))) (dCons (e2 oIx (eVar 0) (eC (.int 1))) (dNil))))) (sNil)) (sSeq (sIf (tB
    (e2 oEq (eVar 1) (eC (.int 1)))) (sRet (eTup (dCons (e1 bInt (e2 oIx (eVar 0) (eC (.int 0)))) (dCons (e2 oIx (eVar 0) (eC (.int 1))) (dNil))))) (sNil)) (sSeq (sIf (tB (e2 oEq (eVar 1) (eC (.int
    2)))) (sRet (eTup (dCons (e2 oIx (eVar 0) (eC (.int 0))) (dCons (e1 bList (e2 oIx (eVar 0) (eC (.int 1)))) (dNil))))) (sNil)) (sSeq (sIf (tB (e2 oEq (eVar 1) (eC (.int 3)))) (sRet (eTup (dCons (e2
    oIx (eVar 0) (eC (.int 0))) (dCons (e2 oAdd (e2 oAdd (e2 oIx (eVar 0) (eC (.int 1))) (eSlice (e2 oAdd (e2 oIx (eVar 0) (eC (.int 1))) (eTup (dCons (eC (.int 0)) (dNil)))) (oSome (e1 oNeg (eC (.int
    1)))) (oNone))) (eSlice (e2 oAdd (e2 oIx (eVar 0) (eC (.int 1))) (eTup (dCons (eC (.int 0)) (dNil)))) (oSome (e1 oNeg (eC (.int 1)))) (oNone))) (dNil))))) (sNil)) (sSeq (sIf (tB (e2 oEq (eVar 1)
    (eC (.int 4)))) (sRet (eTup (dCons (e2 oIx (eVar 0) (eC (.int 0))) (dCons (eTup (dCons (eC (.int 5)) (dCons (eC (.int 3)) (dNil)))) (dNil))))) (sNil)) (sSeq (sIf (tB (e2 oEq (eVar 1) (eC (.int
    5)))) (sRet (eTup (dCons (e2 oIx (eVar 0) (eC (.int 0))) (dCons (e2 oIx (eVar 0) (eC (.int 1))) (dCons (eTup (dNil)) (dNil)))))) (sNil)) (sSeq (sIf (tB (e2 oEq (eVar 1) (eC (.int 6)))) (sRet (eTup
    (dCons (e2 oIx (eVar 0) (eC (.int 0))) (dCons (eTup (dCons (eC (.bl true)) (dNil))) (dNil))))) (sNil)) (sRet (eC (.non)))))))))
def F__law_bad_reach : Fn := ⟨2, 2, .keep, b__law_bad_reach⟩
def b__law_bad_step : SS := sSeq (sIf (tB (e2 oEq (eVar 2) (eC (.int 0)))) (sRet (eLst (dCons (e2 oIx (eVar 0) (eC (.int 0))) (dCons (e2 oIx (eVar 0) (eC (.int 1))) (dNil))))) (sNil)) (sSeq (sIf (tB
    (e2 oEq (eVar 2) (eC (.int 1)))) (sRet (eTup (dCons (e2 oIx (eVar 0) (eC (.int 0))) (dNil)))) (sNil)) (sSeq (sIf (tB (e2 oEq (eVar 2) (eC (.int 2)))) (sRet (eTup (dCons (e2 oEq (e2 oMod (e2 oIx
    (eVar 0) (eC (.int 0))) (eC (.int 2))) (eC (.int 0))) (dCons (e2 oIx (eVar 0) (eC (.int 1))) (dNil))))) (sNil)) (sSeq (sIf (tB (e2 oEq (eVar 2) (eC (.int 3)))) (sRet (eTup (dCons (e1 bStr (e2 oMod
    (e2 oIx (eVar 0) (eC (.int 0))) (e2 oPow (eC (.int 10)) (eC (.int 60))))) (dCons (e2 oIx (eVar 0) (eC (.int 1))) (dNil))))) (sNil)) (sSeq (sIf (tB (e2 oEq (eVar 2) (eC (.int 4)))) (sRet (eTup
    (dCons (eC (.non)) (dCons (e2 oIx (eVar 0) (eC (.int 1))) (dNil))))) (sNil)) (sSeq (sIf (tB (e2 oEq (eVar 2) (eC (.int 5)))) (sRet (eTup (dCons (e2 oIx (eVar 0) (eC (.int 0))) (dCons (eVar 1)
    (dNil))))) (sNil)) (sSeq (sIf (tB (e2 oGt (eVar 2) (eC (.int 6)))) (sRet (e2 oIx (eLst (dCons (eC (.non)) (dCons (e2 oIx (eVar 0) (eC (.int 0))) (dCons (eC (.str "in")) (dCons (eDic0) (dNil))))))
    (e2 oSub (eVar 2) (eC (.int 7))))) (sNil)) (sRet (eTup (dCons (e2 oIx (eVar 0) (eC (.int 0))) (dCons (e2 oIx (eVar 0) (eC (.int 1))) (dCons (e2 oIx (eVar 0) (eC (.int 1))) (dNil))))))))))))
def F__law_bad_step : Fn := ⟨3, 3, .pure, b__law_bad_step⟩
def b__law_odd : SS := sSeq (sSet 2 (eLst (dCons (eC (.non)) (dCons (eC (.int 3)) (dCons (eC (.str "plot")) (dCons (eLst (dNil)) (dCons (eTup (dNil)) (dCons (eTup (dCons (e2 oIx (eVar 0) (eC (.int
    0))) (dNil))) (dCons (e1 bList (eVar 0)) (dCons (e2 oAdd (eVar 0) (eTup (dCons (eTup (dNil)) (dNil)))) (dCons (eTup (dCons (e2 oIx (eVar 0) (eC (.int 0))) (dCons (e1 bList (e2 oIx (eVar 0) (eC
    (.int 1)))) (dNil)))) (dNil)))))))))))) (sSeq (sSet 2 (e2 oAdd (eVar 2) (eLst (dCons (eTup (dCons (e2 oIx (eVar 0) (eC (.int 1))) (dCons (e2 oIx (eVar 0) (eC (.int 0))) (dNil)))) (dCons (eTup
    (dCons (eC (.non)) (dCons (e2 oIx (eVar 0) (eC (.int 1))) (dNil)))) (dCons (eDic0) (dCons (eTup (dCons (eTup (dCons (eC (.bl false)) (dCons (eTup (dNil)) (dNil)))) (dCons (eC (.int 0)) (dNil))))
    (dCons (eC (.bl true)) (dNil))))))))) (sRet (e2 oIx (eVar 2) (e2 oMod (eVar 1) (eC (.int 14))))))
def F__law_odd : Fn := ⟨2, 3, .keep, b__law_odd⟩
def b__law_spoilt : SS := sSeq (sSet 2 (e1 bLen (e2 oIx (eVar 0) (eC (.int 1))))) (sSeq (sIf (tOr (tB (e2 oEq (e2 oMod (eVar 1) (eC (.int 4))) (eC (.int 0)))) (tB (e2 oEq (eVar 2) (eC (.int 0)))))
    (sRet (eCall "_law_odd" (dCons (eVar 0) (dCons (e2 oDiv (eVar 1) (eC (.int 4))) (dNil))))) (sNil)) (sSeq (sSet 3 (e2 oMod (e2 oDiv (eVar 1) (eC (.int 4))) (eVar 2))) (sSeq (sSet 4 (e1 bList (e2
    oIx (eVar 0) (eC (.int 1))))) (sSeq (sSet 5 (e2 oIx (eVar 0) (eC (.int 0)))) (sSeq (sIf (tB (e2 oGt (eVar 3) (eC (.int 0)))) (sSet 5 (e2 oIx (e2 oIx (eVar 4) (e2 oSub (eVar 3) (eC (.int 1)))) (eC
    (.int 1)))) (sNil)) (sSeq (sIf (tB (e2 oEq (e2 oMod (eVar 1) (eC (.int 4))) (eC (.int 1)))) (sSetIx (eVar 4) (eVar 3) (eTup (dCons (e2 oIx (e2 oIx (eVar 4) (eVar 3)) (eC (.int 0))) (dCons (eCall
    "_law_bad_reach" (dCons (e2 oIx (e2 oIx (eVar 4) (eVar 3)) (eC (.int 1))) (dCons (e2 oMod (e2 oDiv (eVar 1) (eC (.int 80))) (eC (.int 8))) (dNil)))) (dNil))))) (sIf (tB (e2 oEq (e2 oMod (eVar 1)
    (eC (.int 4))) (eC (.int 2)))) (sSetIx (eVar 4) (eVar 3) (eCall "_law_bad_step" (dCons (e2 oIx (eVar 4) (eVar 3)) (dCons (eVar 5) (dCons (e2 oMod (e2 oDiv (eVar 1) (eC (.int 80))) (eC (.int 11)))
    (dNil)))))) (sIf (tB (e2 oGt (eVar 3) (eC (.int 0)))) (sSetIx (eVar 4) (eVar 3) (eTup (dCons (e2 oSub (e2 oIx (e2 oIx (eVar 4) (e2 oSub (eVar 3) (eC (.int 1)))) (eC (.int 0))) (e2 oMod (e2 oDiv
    (eVar 1) (eC (.int 80))) (eC (.int 2)))) (dCons (e2 oIx (e2 oIx (eVar 4) (eVar 3)) (eC (.int 1))) (dNil))))) (sRet (eTup (dCons (eCall "_law_bad_reach" (dCons (e2 oIx (eVar 0) (eC (.int 0)))
    (dCons (e2 oMod (e2 oDiv (eVar 1) (eC (.int 80))) (eC (.int 8))) (dNil)))) (dCons (e2 oIx (eVar 0) (eC (.int 1))) (dNil)))))))) (sRet (eTup (dCons (e2 oIx (eVar 0) (eC (.int 0))) (dCons (e1 bTuple
    (eVar 4)) (dNil)))))))))))
def F__law_spoilt : Fn := ⟨2, 6, .keep, b__law_spoilt⟩
def b__law_told_k12 : SS := sSeq (sSet 1 (eCall "is_plot" (dCons (eVar 0) (dNil)))) (sRet (eAnd (e1 (bIsi .bool) (eVar 1)) (e2 oEq (eVar 1) (eCall "_law_is_plot" (dCons (eVar 0) (dNil))))))
def F__law_told_k12 : Fn := ⟨1, 2, .pure, b__law_told_k12⟩
def b_law_k12 : SS := sSeq (sUnp [1, 2] (eCall "_law_scale" (dCons (eCall "_law_cell" (dCons (eVar 0) (dCons (eC (.int 0)) (dNil)))) (dNil)))) (sSeq (sSet 3 (eCall "_law_plot" (dCons (eSlice (eVar 0)
    (oSome (eC (.int 2))) (oSome (eC (.int 22)))) (dCons (eC (.int 48271)) (dCons (eVar 1) (dCons (eVar 2) (dNil))))))) (sSeq (sIf (tOr (tB (e2 oIsNot (eCall "is_plot" (dCons (eVar 3) (dNil))) (eC
    (.bl true)))) (tNot (tTru (eCall "_law_told" (dCons (eCall "_law_spoilt" (dCons (eVar 3) (dCons (eCall "_law_cell" (dCons (eVar 0) (dCons (eC (.int 1)) (dNil)))) (dNil)))) (dNil)))))) (sRet (eC
    (.bl false))) (sNil)) (sSeq (sFor (.tp [4, 5]) (iSeq (e2 oIx (eVar 3) (eC (.int 1)))) (sIf (tB (e2 oIsNot (eCall "is_plot" (dCons (eVar 5) (dNil))) (eC (.bl false)))) (sRet (eC (.bl false)))
    (sNil))) (sRet (e2 oIs (eCall "is_plot" (dCons (eVar 3) (dNil))) (eC (.bl true)))))))
def F_law_k12 : Fn := ⟨1, 6, .pure, b_law_k12⟩
def b_turns_with : SS := sSeq (sSet 2 (eCall "lies_in" (dCons (e2 oIx (eVar 0) (eC (.int 0))) (dCons (eVar 1) (dNil))))) (sSeq (sSet 3 (eVar 2)) (sSeq (sSet 4 (eLst (dNil))) (sSeq (sFor (.tp [5, 6])
    (iSeq (e2 oIx (eVar 0) (eC (.int 1)))) (sIf (tB (e2 oNe (eCall "lies_in" (dCons (eVar 6) (dCons (eVar 1) (dNil)))) (eVar 3))) (sSeq (sExpr (eM1 mAppend (eVar 4) (eVar 5))) (sSet 3 (eNot (eVar
    3)))) (sNil))) (sRet (eTup (dCons (eVar 2) (dCons (e1 bTuple (eVar 4)) (dNil))))))))
def F_turns_with : Fn := ⟨2, 7, .pure, b_turns_with⟩
def b_flipped : SS := sSeq (sSet 1 (eCall "days_of" (dCons (eVar 0) (dNil)))) (sSeq (sIf (tB (e2 oEq (eVar 1) (eLst (dNil)))) (sRet (eTup (dCons (eCall "turns_with" (dCons (eVar 0) (dCons (eC (.int
    0)) (dNil)))) (dCons (eTup (dNil)) (dNil))))) (sNil)) (sRet (eCall "plot_of" (dCons (eCall "turns_with" (dCons (eVar 0) (dCons (e2 oSub (e2 oIx (eVar 1) (eC (.int 0))) (eC (.int 1))) (dNil))))
    (dCons (eComp (eTup (dCons (eVar 2) (dCons (eCall "turns_with" (dCons (eVar 0) (dCons (eVar 2) (dNil)))) (dNil)))) (tYes) (.nm 2) [2] (iSeq (eVar 1))) (dNil))))))
def F_flipped : Fn := ⟨1, 3, .pure, b_flipped⟩
def b__law_plot_k13 : SS := sSeq (sSet 4 (eTup (dCons (eC (.bl false)) (dCons (eTup (dNil)) (dNil))))) (sSeq (sFor (.nm 5) (iSeq (eSlice (eVar 0) (oNone) (oSome (eC (.int 1))))) (sIf (tB (e2 oEq (e2
    oMod (e2 oDiv (eCall "_law_stir" (dCons (eVar 5) (dCons (eC (.int 39373)) (dNil)))) (eC (.int 11))) (eC (.int 3))) (eC (.int 0)))) (sSet 4 (eCall "_law_reach" (dCons (eVar 5) (dCons (eC (.int
    40014)) (dCons (eVar 2) (dCons (eVar 3) (dNil))))))) (sNil))) (sSeq (sSet 6 (eVar 4)) (sSeq (sSet 7 (eLst (dNil))) (sSeq (sSet 8 (e2 oMul (e1 oNeg (eC (.int 3))) (eVar 2))) (sSeq (sFor (.nm 5)
    (iSeq (eVar 0)) (sSeq (sSet 8 (e2 oAdd (eVar 8) (e2 oMul (e2 oAdd (eC (.int 1)) (e2 oMod (e2 oDiv (eCall "_law_stir" (dCons (eVar 5) (dCons (e2 oAdd (eVar 1) (eC (.int 2))) (dNil)))) (eC (.int
    7))) (eC (.int 3)))) (eVar 2)))) (sSeq (sSet 9 (eCall "_law_reach" (dCons (eVar 5) (dCons (eVar 1) (dCons (eVar 2) (dCons (e2 oAdd (eVar 3) (e2 oMul (e2 oMul (e2 oMod (e2 oDiv (eCall "_law_stir"
    (dCons (eVar 5) (dCons (e2 oAdd (eVar 1) (eC (.int 4))) (dNil)))) (eC (.int 5))) (eC (.int 9))) (e1 bInt (e2 oNe (eVar 3) (eC (.int 0))))) (eVar 2))) (dNil))))))) (sSeq (sIf (tB (e2 oNe (eVar 9)
    (eVar 4))) (sExpr (eM1 mAppend (eVar 7) (eTup (dCons (eVar 8) (dCons (eVar 9) (dNil)))))) (sNil)) (sSet 4 (eVar 9)))))) (sRet (eTup (dCons (eVar 6) (dCons (e1 bTuple (eVar 7)) (dNil))))))))))
def F__law_plot_k13 : Fn := ⟨4, 10, .pure, b__law_plot_k13⟩
def b_law_k13 : SS := sSeq (sUnp [1, 2] (eCall "_law_scale" (dCons (eCall "_law_cell" (dCons (eVar 0) (dCons (eC (.int 0)) (dNil)))) (dNil)))) (sSeq (sSet 3 (eCall "_law_plot" (dCons (eSlice (eVar 0)
    (oSome (eC (.int 1))) (oSome (eC (.int 25)))) (dCons (eC (.int 48271)) (dCons (eVar 1) (dCons (eVar 2) (dNil))))))) (sSeq (sSet 4 (eCall "flipped" (dCons (eVar 3) (dNil)))) (sSeq (sIf (tNot (tTru
    (eCall "_law_is_plot" (dCons (eVar 4) (dNil))))) (sRet (eC (.bl false))) (sNil)) (sSeq (sSet 5 (eCall "_law_turns" (dCons (eLst (dCons (eVar 3) (dNil))) (dNil)))) (sSeq (sSet 6 (eComp (eCall
    "_law_at" (dCons (eVar 3) (dCons (eVar 10) (dNil)))) (tYes) (.nm 10) [10] (iSeq (eVar 5)))) (sSeq (sFor (.nm 7) (iSeq (eCall "_law_days" (dCons (eLst (dCons (eVar 3) (dNil))) (dNil)))) (sSeq (sSet
    8 (eCall "_law_at" (dCons (eVar 4) (dCons (eVar 7) (dNil))))) (sFor (.nm 9) (iRange1 (e1 bLen (eVar 5))) (sIf (tB (e2 oNe (eCall "_law_in" (dCons (eVar 8) (dCons (e2 oIx (eVar 5) (eVar 9))
    (dNil)))) (eCall "_law_in" (dCons (e2 oIx (eVar 6) (eVar 9)) (dCons (eVar 7) (dNil)))))) (sRet (eC (.bl false))) (sNil))))) (sRet (eC (.bl true)))))))))
def F_law_k13 : Fn := ⟨1, 11, .pure, b_law_k13⟩
def b__law_turned : SS := sSeq (sSet 1 (eCall "flipped" (dCons (eVar 0) (dNil)))) (sSeq (sIf (tB (e2 oNe (eCall "flipped" (dCons (eVar 1) (dNil))) (eVar 0))) (sRet (eC (.bl false))) (sNil)) (sRet
    (eAnd (e2 oEq (eCall "turns_of" (dCons (eVar 1) (dNil))) (eCall "days_of" (dCons (eVar 0) (dNil)))) (e2 oEq (eCall "days_of" (dCons (eVar 1) (dNil))) (eCall "turns_of" (dCons (eVar 0) (dNil)))))))
def F__law_turned : Fn := ⟨1, 2, .pure, b__law_turned⟩
def b_law_k14 : SS := sSeq (sUnp [1, 2] (eCall "_law_scale" (dCons (eCall "_law_cell" (dCons (eVar 0) (dCons (eC (.int 0)) (dNil)))) (dNil)))) (sSeq (sSet 3 (eSlice (eVar 0) (oSome (eC (.int 1)))
    (oSome (eC (.int 63))))) (sSeq (sSet 4 (eCall "_law_plot" (dCons (eStep (eVar 3) (oNone) (oNone) 2) (dCons (eC (.int 48271)) (dCons (eVar 1) (dCons (eVar 2) (dNil))))))) (sSeq (sSet 5 (eCall
    "_law_plot" (dCons (eStep (eVar 3) (oSome (eC (.int 1))) (oNone) 2) (dCons (eC (.int 69621)) (dCons (eVar 1) (dCons (eVar 2) (dNil))))))) (sSeq (sIf (tOr (tNot (tTru (eCall "_law_turned" (dCons
    (eVar 4) (dNil))))) (tNot (tTru (eCall "_law_turned" (dCons (eVar 5) (dNil)))))) (sRet (eC (.bl false))) (sNil)) (sSeq (sFor (.nm 6) (iSeq (eLst (dCons (eC (.str "both")) (dCons (eC (.str
    "either")) (dCons (eC (.str "less")) (dCons (eC (.str "just")) (dNil))))))) (sIf (tB (e2 oNe (eCall "flipped" (dCons (eCall "blend_plots" (dCons (eVar 4) (dCons (eVar 5) (dCons (eVar 6) (dNil)))))
    (dNil))) (eCall "blend_plots" (dCons (eCall "flipped" (dCons (eVar 4) (dNil))) (dCons (eCall "flipped" (dCons (eVar 5) (dNil))) (dCons (eVar 6) (dNil))))))) (sRet (eC (.bl false))) (sNil))) (sRet
    (eC (.bl true))))))))
def F_law_k14 : Fn := ⟨1, 7, .pure, b_law_k14⟩
def b_spot_apart : SS := sSeq (sSet 2 (eCall "blend_plots" (dCons (eVar 0) (dCons (eVar 1) (dCons (eC (.str "just")) (dNil)))))) (sSeq (sIf (tB (e2 oEq (eVar 2) (eTup (dCons (eTup (dCons (eC (.bl
    false)) (dCons (eTup (dNil)) (dNil)))) (dCons (eTup (dNil)) (dNil)))))) (sRet (eC (.non))) (sNil)) (sSeq (sSet 3 (eC (.int 0))) (sSeq (sIf (tB (e2 oEq (e2 oIx (eVar 2) (eC (.int 0))) (eTup (dCons
    (eC (.bl false)) (dCons (eTup (dNil)) (dNil)))))) (sSet 3 (e2 oIx (e2 oIx (e2 oIx (eVar 2) (eC (.int 1))) (eC (.int 0))) (eC (.int 0)))) (sIf (tB (e2 oNe (e2 oIx (eVar 2) (eC (.int 1))) (eTup
    (dNil)))) (sSet 3 (e2 oSub (e2 oIx (e2 oIx (e2 oIx (eVar 2) (eC (.int 1))) (eC (.int 0))) (eC (.int 0))) (eC (.int 1)))) (sNil))) (sRet (eTup (dCons (eCall "parting" (dCons (eCall "reach_at"
    (dCons (eVar 2) (dCons (eVar 3) (dNil)))) (dCons (eTup (dCons (eC (.bl false)) (dCons (eTup (dNil)) (dNil)))) (dNil)))) (dCons (eVar 3) (dNil))))))))
def F_spot_apart : Fn := ⟨2, 4, .pure, b_spot_apart⟩
def b__law_made : SS := sSeq (sSet 2 (eLst (dNil))) (sSeq (sSet 3 (eVar 0)) (sSeq (sFor (.tp [4, 5]) (iSeq (eVar 1)) (sSeq (sIf (tB (e2 oNe (eVar 5) (eVar 3))) (sExpr (eM1 mAppend (eVar 2) (eTup
    (dCons (eVar 4) (dCons (eVar 5) (dNil)))))) (sNil)) (sSet 3 (eVar 5)))) (sRet (eTup (dCons (eVar 0) (dCons (e1 bTuple (eVar 2)) (dNil)))))))
def F__law_made : Fn := ⟨2, 6, .pure, b__law_made⟩
def b__law_other : SS := sSeq (sSet 3 (e2 oMod (e2 oDiv (eVar 2) (eC (.int 8))) (e2 oAdd (e1 bLen (e2 oIx (eVar 0) (eC (.int 1)))) (eC (.int 1))))) (sSeq (sSet 4 (e1 bList (e2 oIx (eVar 0) (eC (.int
    1))))) (sSeq (sIf (tB (e2 oEq (e2 oMod (eVar 2) (eC (.int 8))) (eC (.int 1)))) (sRet (eVar 0)) (sNil)) (sSeq (sIf (tB (e2 oEq (e2 oMod (eVar 2) (eC (.int 8))) (eC (.int 2)))) (sRet (eCall
    "_law_made" (dCons (e2 oIx (eVar 0) (eC (.int 0))) (dCons (e2 oAdd (eSlice (eVar 4) (oNone) (oSome (eVar 3))) (eSlice (eVar 4) (oSome (e2 oAdd (eVar 3) (eC (.int 1)))) (oNone))) (dNil))))) (sNil))
    (sSeq (sIf (tB (e2 oEq (e2 oMod (eVar 2) (eC (.int 8))) (eC (.int 3)))) (sRet (eCall "_law_made" (dCons (eTup (dCons (eNot (e2 oIx (e2 oIx (eVar 0) (eC (.int 0))) (eC (.int 0)))) (dCons (e2 oIx
    (e2 oIx (eVar 0) (eC (.int 0))) (eC (.int 1))) (dNil)))) (dCons (eVar 4) (dNil))))) (sNil)) (sSeq (sIf (tB (e2 oEq (e2 oMod (eVar 2) (eC (.int 8))) (eC (.int 4)))) (sRet (eCall "_law_made" (dCons
    (e2 oIx (eVar 0) (eC (.int 0))) (dCons (e2 oAdd (eComp (eTup (dCons (eVar 5) (dCons (eTup (dCons (eNot (e2 oIx (eVar 6) (eC (.int 0)))) (dCons (e2 oIx (eVar 6) (eC (.int 1))) (dNil)))) (dNil))))
    (tYes) (.tp [5, 6]) [5, 6] (iSeq (eSlice (eVar 4) (oNone) (oSome (eVar 3))))) (eSlice (eVar 4) (oSome (eVar 3)) (oNone))) (dNil))))) (sNil)) (sSeq (sIf (tB (e2 oEq (e2 oMod (eVar 2) (eC (.int 8)))
    (eC (.int 5)))) (sRet (eCall "_law_made" (dCons (eTup (dCons (eNot (e2 oIx (e2 oIx (eVar 0) (eC (.int 0))) (eC (.int 0)))) (dCons (e2 oIx (e2 oIx (eVar 0) (eC (.int 0))) (eC (.int 1))) (dNil))))
    (dCons (eComp (eTup (dCons (eVar 5) (dCons (eTup (dCons (eNot (e2 oIx (eVar 6) (eC (.int 0)))) (dCons (e2 oIx (eVar 6) (eC (.int 1))) (dNil)))) (dNil)))) (tYes) (.tp [5, 6]) [5, 6] (iSeq (eVar
    4))) (dNil))))) (sNil)) (sRet (eVar 1))))))))
def F__law_other : Fn := ⟨3, 7, .pure, b__law_other⟩
def b__law_unlike : SS := sSeq (sSet 2 (eComp (eVar 3) (tB (e2 oNotIn (eVar 3) (e2 oIx (eVar 1) (eC (.int 1))))) (.nm 3) [3] (iSeq (e2 oIx (eVar 0) (eC (.int 1)))))) (sRet (eTup (dCons (e2 oNe (e2 oIx
    (eVar 0) (eC (.int 0))) (e2 oIx (eVar 1) (eC (.int 0)))) (dCons (e1 bTuple (e1 bSorted (e2 oAdd (eVar 2) (eComp (eVar 3) (tB (e2 oNotIn (eVar 3) (e2 oIx (eVar 0) (eC (.int 1))))) (.nm 3) [3] (iSeq
    (e2 oIx (eVar 1) (eC (.int 1)))))))) (dNil)))))
def F__law_unlike : Fn := ⟨2, 4, .pure, b__law_unlike⟩
def b__law_day : SS := sSeq (sIf (tNot (tTru (e2 oIx (eVar 0) (eC (.int 0))))) (sRet (e2 oIx (e2 oIx (eVar 0) (eC (.int 1))) (eC (.int 0)))) (sNil)) (sSeq (sIf (tB (e2 oEq (e2 oIx (eVar 0) (eC (.int
    1))) (eTup (dNil)))) (sRet (eC (.int 0))) (sNil)) (sRet (e2 oSub (e2 oIx (e2 oIx (eVar 0) (eC (.int 1))) (eC (.int 0))) (eC (.int 1)))))
def F__law_day : Fn := ⟨1, 1, .pure, b__law_day⟩
def b__law_due_k15 : SS := sSeq (sSet 2 (e1 bSortedSet (eComp (e2 oIx (eVar 6) (eC (.int 0))) (tYes) (.nm 6) [6] (iSeq (e2 oAdd (e2 oIx (eVar 0) (eC (.int 1))) (e2 oIx (eVar 1) (eC (.int 1))))))))
    (sSeq (sSet 3 (eCall "_law_unlike" (dCons (e2 oIx (eVar 0) (eC (.int 0))) (dCons (e2 oIx (eVar 1) (eC (.int 0))) (dNil))))) (sSeq (sIf (tB (e2 oNe (eVar 3) (eTup (dCons (eC (.bl false)) (dCons
    (eTup (dNil)) (dNil)))))) (sSeq (sSet 4 (eComp (eVar 5) (tB (e2 oNe (eCall "_law_unlike" (dCons (eCall "_law_at" (dCons (eVar 0) (dCons (eVar 5) (dNil)))) (dCons (eCall "_law_at" (dCons (eVar 1)
    (dCons (eVar 5) (dNil)))) (dNil)))) (eVar 3))) (.nm 5) [5] (iSeq (eVar 2)))) (sSeq (sIf (tB (e2 oEq (eVar 4) (eLst (dNil)))) (sRet (eTup (dCons (eCall "_law_day" (dCons (eVar 3) (dNil))) (dCons
    (eC (.int 0)) (dNil))))) (sNil)) (sRet (eTup (dCons (eCall "_law_day" (dCons (eVar 3) (dNil))) (dCons (e2 oSub (e2 oIx (eVar 4) (eC (.int 0))) (eC (.int 1))) (dNil))))))) (sNil)) (sSeq (sFor (.nm
    5) (iSeq (eVar 2)) (sSeq (sSet 3 (eCall "_law_unlike" (dCons (eCall "_law_at" (dCons (eVar 0) (dCons (eVar 5) (dNil)))) (dCons (eCall "_law_at" (dCons (eVar 1) (dCons (eVar 5) (dNil)))) (dNil)))))
    (sIf (tB (e2 oNe (eVar 3) (eTup (dCons (eC (.bl false)) (dCons (eTup (dNil)) (dNil)))))) (sRet (eTup (dCons (eCall "_law_day" (dCons (eVar 3) (dNil))) (dCons (eVar 5) (dNil))))) (sNil)))) (sRet
    (eC (.non))))))
def F__law_due_k15 : Fn := ⟨2, 7, .pure, b__law_due_k15⟩
def b_law_k15 : SS := sSeq (sUnp [1, 2] (eCall "_law_scale" (dCons (eCall "_law_cell" (dCons (eVar 0) (dCons (eC (.int 0)) (dNil)))) (dNil)))) (sSeq (sSet 3 (eSlice (eVar 0) (oSome (eC (.int 2)))
    (oSome (eC (.int 26))))) (sSeq (sSet 4 (eCall "_law_plot" (dCons (eStep (eVar 3) (oNone) (oNone) 2) (dCons (eC (.int 48271)) (dCons (eVar 1) (dCons (eVar 2) (dNil))))))) (sSeq (sSet 5 (eCall
    "_law_other" (dCons (eVar 4) (dCons (eCall "_law_plot" (dCons (eStep (eVar 3) (oSome (eC (.int 1))) (oNone) 2) (dCons (eC (.int 69621)) (dCons (eVar 1) (dCons (eVar 2) (dNil)))))) (dCons (eCall
    "_law_cell" (dCons (eVar 0) (dCons (eC (.int 1)) (dNil)))) (dNil)))))) (sSeq (sSet 6 (eCall "_law_due" (dCons (eVar 4) (dCons (eVar 5) (dNil))))) (sSeq (sSet 7 (eCall "spot_apart" (dCons (eVar 4)
    (dCons (eVar 5) (dNil))))) (sSeq (sIf (tOr (tB (e2 oNe (e2 oEq (eVar 4) (eVar 5)) (e2 oIs (eVar 6) (eC (.non))))) (tB (e2 oIsNot (eCall "spot_apart" (dCons (eVar 4) (dCons (eVar 4) (dNil)))) (eC
    (.non))))) (sRet (eC (.bl false))) (sNil)) (sSeq (sIf (tB (e2 oIs (eVar 6) (eC (.non)))) (sRet (e2 oIs (eVar 7) (eC (.non)))) (sNil)) (sSeq (sIf (tOr (tNot (tTru (e1 (bIsi .tuple) (eVar 7)))) (tOr
    (tB (e2 oNe (e1 bLen (eVar 7)) (eC (.int 2)))) (tOr (tNot (tTru (eCall "_law_whole" (dCons (e2 oIx (eVar 7) (eC (.int 0))) (dNil))))) (tNot (tTru (eCall "_law_whole" (dCons (e2 oIx (eVar 7) (eC
    (.int 1))) (dNil)))))))) (sRet (eC (.bl false))) (sNil)) (sSeq (sIf (tB (e2 oEq (eCall "_law_in" (dCons (eCall "_law_at" (dCons (eVar 4) (dCons (e2 oIx (eVar 7) (eC (.int 1))) (dNil)))) (dCons (e2
    oIx (eVar 7) (eC (.int 0))) (dNil)))) (eCall "_law_in" (dCons (eCall "_law_at" (dCons (eVar 5) (dCons (e2 oIx (eVar 7) (eC (.int 1))) (dNil)))) (dCons (e2 oIx (eVar 7) (eC (.int 0))) (dNil))))))
    (sRet (eC (.bl false))) (sNil)) (sRet (e2 oEq (eVar 7) (eVar 6))))))))))))
def F_law_k15 : Fn := ⟨1, 8, .pure, b_law_k15⟩
def b_moved_plot : SS := sRet (eCall "plot_of" (dCons (eCall "moved_by" (dCons (e2 oIx (eVar 0) (eC (.int 0))) (dCons (eVar 1) (dNil)))) (dCons (eComp (eTup (dCons (eVar 2) (dCons (eCall "moved_by"
    (dCons (eVar 3) (dCons (eVar 1) (dNil)))) (dNil)))) (tYes) (.tp [2, 3]) [2, 3] (iSeq (e2 oIx (eVar 0) (eC (.int 1))))) (dNil))))
def F_moved_plot : Fn := ⟨2, 4, .pure, b_moved_plot⟩
def b_ever_plot : SS := sSeq (sSet 1 (eComp (eTup (dCons (eVar 2) (dCons (eTup (dCons (e2 oNe (eVar 3) (eTup (dCons (eC (.bl false)) (dCons (eTup (dNil)) (dNil))))) (dCons (eTup (dNil)) (dNil))))
    (dNil)))) (tYes) (.tp [2, 3]) [2, 3] (iSeq (e2 oIx (eVar 0) (eC (.int 1)))))) (sRet (eCall "plot_of" (dCons (eTup (dCons (e2 oNe (e2 oIx (eVar 0) (eC (.int 0))) (eTup (dCons (eC (.bl false))
    (dCons (eTup (dNil)) (dNil))))) (dCons (eTup (dNil)) (dNil)))) (dCons (eVar 1) (dNil)))))
def F_ever_plot : Fn := ⟨1, 4, .pure, b_ever_plot⟩
def b_always_plot : SS := sSeq (sSet 1 (eComp (eTup (dCons (eVar 2) (dCons (eTup (dCons (e2 oEq (eVar 3) (eTup (dCons (eC (.bl true)) (dCons (eTup (dNil)) (dNil))))) (dCons (eTup (dNil)) (dNil))))
    (dNil)))) (tYes) (.tp [2, 3]) [2, 3] (iSeq (e2 oIx (eVar 0) (eC (.int 1)))))) (sRet (eCall "plot_of" (dCons (eTup (dCons (e2 oEq (e2 oIx (eVar 0) (eC (.int 0))) (eTup (dCons (eC (.bl true)) (dCons
    (eTup (dNil)) (dNil))))) (dCons (eTup (dNil)) (dNil)))) (dCons (eVar 1) (dNil)))))
def F_always_plot : Fn := ⟨1, 4, .pure, b_always_plot⟩
def b_known_plot : SS := sSeq (sSet 1 (e2 oIx (eVar 0) (eC (.int 0)))) (sSeq (sSet 2 (eLst (dNil))) (sSeq (sFor (.tp [3, 4]) (iSeq (e2 oIx (eVar 0) (eC (.int 1)))) (sSeq (sSet 1 (eCall "blend" (dCons
    (eVar 1) (dCons (eVar 4) (dCons (eC (.str "either")) (dNil)))))) (sExpr (eM1 mAppend (eVar 2) (eTup (dCons (eVar 3) (dCons (eVar 1) (dNil)))))))) (sRet (eCall "plot_of" (dCons (e2 oIx (eVar 0) (eC
    (.int 0))) (dCons (eVar 2) (dNil)))))))
def F_known_plot : Fn := ⟨1, 5, .pure, b_known_plot⟩
def b_asof_plot : SS := sRet (eTup (dCons (e2 oIx (eVar 0) (eC (.int 0))) (dCons (e1 bTuple (eComp (eVar 2) (tB (e2 oLe (e2 oIx (eVar 2) (eC (.int 0))) (eVar 1))) (.nm 2) [2] (iSeq (e2 oIx (eVar 0)
    (eC (.int 1)))))) (dNil))))
def F_asof_plot : Fn := ⟨2, 3, .pure, b_asof_plot⟩
def b_from_plot : SS := sSeq (sSet 2 (e2 oAdd (eLst (dCons (eTup (dCons (eVar 1) (dCons (eCall "reach_at" (dCons (eVar 0) (dCons (eVar 1) (dNil)))) (dNil)))) (dNil))) (eComp (eVar 3) (tB (e2 oGt (e2
    oIx (eVar 3) (eC (.int 0))) (eVar 1))) (.nm 3) [3] (iSeq (e2 oIx (eVar 0) (eC (.int 1))))))) (sRet (eCall "plot_of" (dCons (eTup (dCons (eC (.bl false)) (dCons (eTup (dNil)) (dNil)))) (dCons (eVar
    2) (dNil)))))
def F_from_plot : Fn := ⟨2, 4, .pure, b_from_plot⟩
def b_lift : SS := sSeq (sIf (tB (e2 oEq (eVar 1) (eC (.str "moved")))) (sRet (eCall "moved_plot" (dCons (eVar 0) (dCons (eVar 2) (dNil))))) (sNil)) (sSeq (sIf (tB (e2 oEq (eVar 1) (eC (.str
    "ever")))) (sRet (eCall "ever_plot" (dCons (eVar 0) (dNil)))) (sNil)) (sSeq (sIf (tB (e2 oEq (eVar 1) (eC (.str "always")))) (sRet (eCall "always_plot" (dCons (eVar 0) (dNil)))) (sNil)) (sSeq (sIf
    (tB (e2 oEq (eVar 1) (eC (.str "known")))) (sRet (eCall "known_plot" (dCons (eVar 0) (dNil)))) (sNil)) (sSeq (sIf (tB (e2 oEq (eVar 1) (eC (.str "asof")))) (sRet (eCall "asof_plot" (dCons (eVar 0)
    (dCons (eVar 2) (dNil))))) (sNil)) (sSeq (sIf (tB (e2 oEq (eVar 1) (eC (.str "from")))) (sRet (eCall "from_plot" (dCons (eVar 0) (dCons (eVar 2) (dNil))))) (sNil)) (sRaise "NoWord"))))))
def F_lift : Fn := ⟨3, 3, .pure, b_lift⟩
def b__law_whole_days : SS := sSeq (sSet 2 (eLst (dNil))) (sSeq (sSet 3 (e2 oIx (eVar 0) (eC (.int 0)))) (sSeq (sFor (.tp [4, 5]) (iSeq (e2 oIx (eVar 0) (eC (.int 1)))) (sSeq (sIf (tB (e2 oLt (e2 oMod
    (e2 oAdd (eVar 1) (eVar 4)) (eC (.int 5))) (eC (.int 2)))) (sSet 5 (eTup (dCons (e2 oEq (e2 oMod (e2 oAdd (eVar 1) (eVar 4)) (eC (.int 5))) (eC (.int 0))) (dCons (eTup (dNil)) (dNil))))) (sNil))
    (sSeq (sIf (tB (e2 oNe (eVar 5) (eVar 3))) (sExpr (eM1 mAppend (eVar 2) (eTup (dCons (eVar 4) (dCons (eVar 5) (dNil)))))) (sNil)) (sSet 3 (eVar 5))))) (sRet (eTup (dCons (e2 oIx (eVar 0) (eC (.int
    0))) (dCons (e1 bTuple (eVar 2)) (dNil)))))))
def F__law_whole_days : Fn := ⟨2, 6, .pure, b__law_whole_days⟩
def b__law_by : SS := sSeq (sIf (tB (e2 oEq (e2 oMod (eVar 1) (eC (.int 4))) (eC (.int 0)))) (sRet (e2 oSub (e2 oMod (e2 oDiv (eVar 1) (eC (.int 4))) (e2 oPow (eC (.int 10)) (eC (.int 50)))) (e2 oPow
    (eC (.int 10)) (eC (.int 25))))) (sNil)) (sSeq (sIf (tOr (tB (e2 oEq (e2 oMod (eVar 1) (eC (.int 4))) (eC (.int 1)))) (tB (e2 oEq (e2 oIx (eVar 0) (eC (.int 1))) (eTup (dNil))))) (sRet (e2 oSub
    (e2 oMod (e2 oDiv (eVar 1) (eC (.int 4))) (eC (.int 5))) (eC (.int 2)))) (sNil)) (sRet (e2 oSub (e2 oAdd (e2 oIx (e2 oIx (e2 oIx (eVar 0) (eC (.int 1))) (e2 oMod (e2 oDiv (eVar 1) (eC (.int 4)))
    (e1 bLen (e2 oIx (eVar 0) (eC (.int 1)))))) (eC (.int 0))) (e2 oMod (e2 oDiv (eVar 1) (eC (.int 64))) (eC (.int 3)))) (eC (.int 1)))))
def F__law_by : Fn := ⟨2, 2, .pure, b__law_by⟩
def b__law_up_to : SS := sRet (e2 oAdd (eLst (dCons (e2 oIx (eVar 0) (eC (.int 0))) (dNil))) (eComp (e2 oIx (eVar 2) (eC (.int 1))) (tB (e2 oLe (e2 oIx (eVar 2) (eC (.int 0))) (eVar 1))) (.nm 2) [2]
    (iSeq (e2 oIx (eVar 0) (eC (.int 1))))))
def F__law_up_to : Fn := ⟨2, 3, .pure, b__law_up_to⟩
def b__law_says : SS := sSeq (sIf (tB (e2 oEq (eVar 1) (eC (.str "moved")))) (sRet (eCall "_law_in" (dCons (eCall "_law_at" (dCons (eVar 0) (dCons (eVar 4) (dNil)))) (dCons (e2 oSub (eVar 3) (eVar 2))
    (dNil))))) (sNil)) (sSeq (sIf (tB (e2 oEq (eVar 1) (eC (.str "ever")))) (sRet (e2 oNe (eCall "_law_at" (dCons (eVar 0) (dCons (eVar 4) (dNil)))) (eTup (dCons (eC (.bl false)) (dCons (eTup (dNil))
    (dNil)))))) (sNil)) (sSeq (sIf (tB (e2 oEq (eVar 1) (eC (.str "always")))) (sRet (e2 oEq (eCall "_law_at" (dCons (eVar 0) (dCons (eVar 4) (dNil)))) (eTup (dCons (eC (.bl true)) (dCons (eTup
    (dNil)) (dNil)))))) (sNil)) (sSeq (sIf (tB (e2 oEq (eVar 1) (eC (.str "known")))) (sRet (e2 oNe (eComp (eVar 5) (tTru (eCall "_law_in" (dCons (eVar 5) (dCons (eVar 3) (dNil))))) (.nm 5) [5] (iSeq
    (eCall "_law_up_to" (dCons (eVar 0) (dCons (eVar 4) (dNil)))))) (eLst (dNil)))) (sNil)) (sSeq (sIf (tB (e2 oEq (eVar 1) (eC (.str "asof")))) (sRet (eCall "_law_in" (dCons (eCall "_law_at" (dCons
    (eVar 0) (dCons (e2 bMin2 (eVar 4) (eVar 2)) (dNil)))) (dCons (eVar 3) (dNil))))) (sNil)) (sRet (eAnd (e2 oGe (eVar 4) (eVar 2)) (eCall "_law_in" (dCons (eCall "_law_at" (dCons (eVar 0) (dCons
    (eVar 4) (dNil)))) (dCons (eVar 3) (dNil))))))))))
def F__law_says : Fn := ⟨5, 6, .pure, b__law_says⟩
def b__law_refused_k16 : SS := sSeq (sSet 3 (eLst (dNil))) (sSeq (sTry (some 4) (sExpr (eCall "lift" (dCons (eVar 0) (dCons (eVar 1) (dCons (eVar 2) (dNil)))))) (catX exsAll "HeldError") (suSem exsAll
    [.one 5 (.isi false ["NoColumn", "NoStretch", "NoTable", "NoText", "NoTurn", "NoWidth"]), .lst 3 false [.isi false ["NoWord"], .isi false ["ValueError"], .var 5]])) (sRet (e2 oEq (eVar 3) (eLst
    (dCons (eC (.bl true)) (dCons (eC (.bl true)) (dCons (eC (.bl false)) (dNil))))))))
def F__law_refused_k16 : Fn := ⟨3, 6, .pure, b__law_refused_k16⟩
def b_law_k16 : SS := sSeq (sUnp [1, 2] (eCall "_law_scale" (dCons (eCall "_law_cell" (dCons (eVar 0) (dCons (eC (.int 0)) (dNil)))) (dNil)))) (sSeq (sSet 3 (eCall "_law_cell" (dCons (eVar 0) (dCons
    (eC (.int 1)) (dNil))))) (sSeq (sSet 4 (eCall "_law_whole_days" (dCons (eCall "_law_plot" (dCons (eSlice (eVar 0) (oSome (eC (.int 2))) (oSome (eC (.int 12)))) (dCons (eC (.int 48271)) (dCons
    (eVar 1) (dCons (eVar 2) (dNil)))))) (dCons (eVar 3) (dNil))))) (sSeq (sSet 5 (eCall "_law_by" (dCons (eVar 4) (dCons (eVar 3) (dNil))))) (sSeq (sSet 6 (eCall "_law_beside" (dCons (e1 bSortedSet
    (e2 oAdd (eComp (e2 oIx (eVar 14) (eC (.int 0))) (tYes) (.nm 14) [14] (iSeq (e2 oIx (eVar 4) (eC (.int 1))))) (eLst (dCons (eVar 5) (dNil))))) (dNil)))) (sSeq (sFor (.nm 7) (iSeq (eLst (dCons (eC
    (.str "moved")) (dCons (eC (.str "ever")) (dCons (eC (.str "always")) (dCons (eC (.str "known")) (dCons (eC (.str "asof")) (dCons (eC (.str "from")) (dNil))))))))) (sSeq (sSet 8 (eCall "lift"
    (dCons (eVar 4) (dCons (eVar 7) (dCons (eVar 5) (dNil)))))) (sSeq (sIf (tNot (tTru (eCall "_law_is_plot" (dCons (eVar 8) (dNil))))) (sRet (eC (.bl false))) (sNil)) (sSeq (sSet 9 (eCall "_law_days"
    (dCons (eLst (dCons (eVar 4) (dNil))) (dNil)))) (sSeq (sIf (tB (e2 oEq (eVar 7) (eC (.str "moved")))) (sSet 9 (e2 oAdd (eVar 9) (eComp (e2 oAdd (eVar 12) (eVar 5)) (tYes) (.nm 12) [12] (iSeq (eVar
    9))))) (sNil)) (sFor (.nm 10) (iSeq (eVar 6)) (sSeq (sSet 11 (eCall "_law_at" (dCons (eVar 8) (dCons (eVar 10) (dNil))))) (sFor (.nm 12) (iSeq (eVar 9)) (sIf (tB (e2 oNe (eCall "_law_in" (dCons
    (eVar 11) (dCons (eVar 12) (dNil)))) (eCall "_law_says" (dCons (eVar 4) (dCons (eVar 7) (dCons (eVar 5) (dCons (eVar 12) (dCons (eVar 10) (dNil))))))))) (sRet (eC (.bl false))) (sNil))))))))))
    (sSeq (sSet 13 (eLst (dCons (eC (.str "")) (dCons (eC (.str "move")) (dCons (eC (.str "Ever")) (dCons (eC (.str "all")) (dCons (eC (.str "known ")) (dCons (eC (.str "both")) (dCons (eC (.str
    "is")) (dCons (eC (.str "of")) (dCons (eC (.str "any")) (dCons (eC (.str "some")) (dNil))))))))))))) (sRet (eCall "_law_refused" (dCons (eVar 4) (dCons (e2 oIx (eVar 13) (e2 oMod (e2 oDiv (eVar 3)
    (eC (.int 7))) (eC (.int 10)))) (dCons (eVar 5) (dNil))))))))))))
def F_law_k16 : Fn := ⟨1, 15, .pure, b_law_k16⟩
def b__law_by_k17 : SS := sSeq (sIf (tOr (tB (e2 oEq (e2 oMod (eVar 1) (eC (.int 4))) (eC (.int 0)))) (tB (e2 oEq (e2 oIx (eVar 0) (eC (.int 1))) (eTup (dNil))))) (sRet (e2 oSub (e2 oMod (e2 oDiv
    (eVar 1) (eC (.int 4))) (e2 oPow (eC (.int 10)) (eC (.int 50)))) (e2 oPow (eC (.int 10)) (eC (.int 25))))) (sNil)) (sRet (e2 oSub (e2 oAdd (e2 oIx (e2 oIx (e2 oIx (eVar 0) (eC (.int 1))) (e2 oMod
    (e2 oDiv (eVar 1) (eC (.int 4))) (e1 bLen (e2 oIx (eVar 0) (eC (.int 1)))))) (eC (.int 0))) (e2 oMod (e2 oDiv (eVar 1) (eC (.int 64))) (eC (.int 3)))) (eC (.int 1))))
def F__law_by_k17 : Fn := ⟨2, 2, .pure, b__law_by_k17⟩
def b__law_words_k17 : SS := sSeq (sSet 4 (eCall "blend_plots" (dCons (eVar 0) (dCons (eVar 1) (dCons (eC (.str "either")) (dNil)))))) (sSeq (sFor (.nm 5) (iSeq (eLst (dCons (eC (.str "moved")) (dCons
    (eC (.str "ever")) (dCons (eC (.str "known")) (dCons (eC (.str "asof")) (dCons (eC (.str "from")) (dNil)))))))) (sIf (tB (e2 oNe (eCall "lift" (dCons (eVar 4) (dCons (eVar 5) (dCons (eVar 2)
    (dNil))))) (eCall "blend_plots" (dCons (eCall "lift" (dCons (eVar 0) (dCons (eVar 5) (dCons (eVar 2) (dNil))))) (dCons (eCall "lift" (dCons (eVar 1) (dCons (eVar 5) (dCons (eVar 2) (dNil)))))
    (dCons (eC (.str "either")) (dNil))))))) (sRet (eC (.bl false))) (sNil))) (sSeq (sFor (.nm 5) (iSeq (eLst (dCons (eC (.str "ever")) (dCons (eC (.str "always")) (dCons (eC (.str "known")) (dCons
    (eC (.str "asof")) (dCons (eC (.str "from")) (dNil)))))))) (sIf (tB (e2 oNe (eCall "lift" (dCons (eCall "lift" (dCons (eVar 0) (dCons (eVar 5) (dCons (eVar 2) (dNil))))) (dCons (eVar 5) (dCons
    (eVar 2) (dNil))))) (eCall "lift" (dCons (eVar 0) (dCons (eVar 5) (dCons (eVar 2) (dNil))))))) (sRet (eC (.bl false))) (sNil))) (sSeq (sSet 6 (eTup (dCons (eTup (dCons (eC (.bl true)) (dCons (eTup
    (dNil)) (dNil)))) (dCons (eTup (dNil)) (dNil))))) (sSeq (sSet 7 (eCall "lift" (dCons (eCall "blend_plots" (dCons (eVar 6) (dCons (eVar 0) (dCons (eC (.str "less")) (dNil))))) (dCons (eC (.str
    "ever")) (dCons (eVar 3) (dNil)))))) (sRet (e2 oEq (eCall "lift" (dCons (eVar 0) (dCons (eC (.str "always")) (dCons (eVar 2) (dNil))))) (eCall "blend_plots" (dCons (eVar 6) (dCons (eVar 7) (dCons
    (eC (.str "less")) (dNil)))))))))))
def F__law_words_k17 : Fn := ⟨4, 8, .pure, b__law_words_k17⟩
def b__law_numbers_k17 : SS := sSeq (sIf (tB (e2 oNe (eCall "lift" (dCons (eCall "lift" (dCons (eVar 0) (dCons (eC (.str "from")) (dCons (eVar 1) (dNil))))) (dCons (eC (.str "from")) (dCons (eVar 2)
    (dNil))))) (eCall "lift" (dCons (eVar 0) (dCons (eC (.str "from")) (dCons (e2 bMax2 (eVar 1) (eVar 2)) (dNil))))))) (sRet (eC (.bl false))) (sNil)) (sSeq (sIf (tB (e2 oNe (eCall "lift" (dCons
    (eCall "lift" (dCons (eVar 0) (dCons (eC (.str "asof")) (dCons (eVar 1) (dNil))))) (dCons (eC (.str "asof")) (dCons (eVar 2) (dNil))))) (eCall "lift" (dCons (eVar 0) (dCons (eC (.str "asof"))
    (dCons (e2 bMin2 (eVar 1) (eVar 2)) (dNil))))))) (sRet (eC (.bl false))) (sNil)) (sSeq (sIf (tB (e2 oNe (eCall "lift" (dCons (eCall "lift" (dCons (eVar 0) (dCons (eC (.str "moved")) (dCons (eVar
    1) (dNil))))) (dCons (eC (.str "moved")) (dCons (e2 oSub (eC (.int 0)) (eVar 1)) (dNil))))) (eVar 0))) (sRet (eC (.bl false))) (sNil)) (sRet (e2 oEq (eCall "lift" (dCons (eCall "lift" (dCons (eVar
    0) (dCons (eC (.str "moved")) (dCons (eVar 1) (dNil))))) (dCons (eC (.str "moved")) (dCons (eVar 2) (dNil))))) (eCall "lift" (dCons (eVar 0) (dCons (eC (.str "moved")) (dCons (e2 oAdd (eVar 1)
    (eVar 2)) (dNil)))))))))
def F__law_numbers_k17 : Fn := ⟨3, 3, .pure, b__law_numbers_k17⟩
def b__law_alike_k17 : SS := sSeq (sSet 4 (eCall "blend_plots" (dCons (eVar 0) (dCons (eCall "lift" (dCons (eVar 1) (dCons (eC (.str "from")) (dCons (e2 oAdd (eVar 2) (eC (.int 1))) (dNil))))) (dCons
    (eC (.str "just")) (dNil)))))) (sSeq (sIf (tB (e2 oNe (eCall "lift" (dCons (eVar 4) (dCons (eC (.str "asof")) (dCons (eVar 2) (dNil))))) (eCall "lift" (dCons (eVar 0) (dCons (eC (.str "asof"))
    (dCons (eVar 2) (dNil))))))) (sRet (eC (.bl false))) (sNil)) (sSeq (sFor (.nm 5) (iSeq (eLst (dCons (eC (.str "moved")) (dCons (eC (.str "ever")) (dCons (eC (.str "always")) (dCons (eC (.str
    "known")) (dCons (eC (.str "asof")) (dCons (eC (.str "from")) (dNil))))))))) (sIf (tB (e2 oNe (eCall "lift" (dCons (eCall "lift" (dCons (eVar 4) (dCons (eVar 5) (dCons (eVar 3) (dNil))))) (dCons
    (eC (.str "asof")) (dCons (eVar 2) (dNil))))) (eCall "lift" (dCons (eCall "lift" (dCons (eVar 0) (dCons (eVar 5) (dCons (eVar 3) (dNil))))) (dCons (eC (.str "asof")) (dCons (eVar 2) (dNil)))))))
    (sRet (eC (.bl false))) (sNil))) (sRet (eC (.bl true)))))
def F__law_alike_k17 : Fn := ⟨4, 6, .pure, b__law_alike_k17⟩
def b_law_k17 : SS := sSeq (sUnp [1, 2] (eCall "_law_scale" (dCons (eCall "_law_cell" (dCons (eVar 0) (dCons (eC (.int 0)) (dNil)))) (dNil)))) (sSeq (sSet 3 (eSlice (eVar 0) (oSome (eC (.int 3)))
    (oSome (eC (.int 63))))) (sSeq (sSet 4 (eCall "_law_plot" (dCons (eStep (eVar 3) (oNone) (oNone) 2) (dCons (eC (.int 48271)) (dCons (eVar 1) (dCons (eVar 2) (dNil))))))) (sSeq (sSet 5 (eCall
    "_law_plot" (dCons (eStep (eVar 3) (oSome (eC (.int 1))) (oNone) 2) (dCons (eC (.int 69621)) (dCons (eVar 1) (dCons (eVar 2) (dNil))))))) (sSeq (sSet 6 (eCall "_law_by" (dCons (eVar 4) (dCons
    (eCall "_law_cell" (dCons (eVar 0) (dCons (eC (.int 1)) (dNil)))) (dNil))))) (sSeq (sSet 7 (eCall "_law_by" (dCons (eVar 5) (dCons (eCall "_law_cell" (dCons (eVar 0) (dCons (eC (.int 2)) (dNil))))
    (dNil))))) (sRet (eAnd (eCall "_law_words" (dCons (eVar 4) (dCons (eVar 5) (dCons (eVar 6) (dCons (eVar 7) (dNil)))))) (eAnd (eCall "_law_numbers" (dCons (eVar 4) (dCons (eVar 6) (dCons (eVar 7)
    (dNil))))) (eCall "_law_alike" (dCons (eVar 4) (dCons (eVar 5) (dCons (eVar 6) (dCons (eVar 7) (dNil))))))))))))))
def F_law_k17 : Fn := ⟨1, 8, .pure, b_law_k17⟩
end HW
end
section
set_option linter.all false
set_option autoImplicit false
/-! MJ1: tools for running the small semantics by hand -/
namespace MI
open PySem (Str PyData)
/-- an equation that simp shall write down -/
theorem nrfl {α : Sort _} {a b : α} (h : a = b) : a = b := h
/-- what simp is not to look into -/
structure Hid {α : Type} (a : α) : Type where
  mk ::
/-- what simp is to leave as it stands -/
def Kp (P : Prop) (_ : Hid P := .mk) : Prop := P
def Res.wp {A : Type} (r : Res A) (Q : A → Mem → Prop) (_ : Hid Q := .mk) : Prop := match r with
  | .ok a M => Q a M
  | _ => False
def SR.wp (r : SR) (N : Env → Mem → Prop) (R : RV → Mem → Prop) (_ : Hid N := .mk) (_ : Hid R := .mk) : Prop := match r with
  | .nx r M => N r M
  | .ret x M => R x M
  | _ => False
theorem wp_ext {A : Type} {r : Res A} {Q Q' : A → Mem → Prop} (h : ∀ a M, Q a M = Q' a M) : r.wp Q = r.wp Q' := by
  have e : Q = Q' := by funext a M; exact h a M
  rw [e]
theorem Res.wp_mono {A : Type} {r : Res A} {Q Q' : A → Mem → Prop} (h : r.wp Q) (q : ∀ a M, Q a M → Q' a M) : r.wp Q' := by
  cases r with
  | ok a M => exact q a M h
  | _ => exact h
theorem SR.wp_mono {r : SR} {N N' : Env → Mem → Prop} {R R' : RV → Mem → Prop} (h : r.wp N R) (q : ∀ a M, N a M → N' a M) (q' : ∀ a M, R a M → R' a M) : r.wp N' R' := by
  cases r with
  | nx a M => exact q a M h
  | ret a M => exact q' a M h
  | _ => exact h
theorem Res.wp_eq {A : Type} {r : Res A} {a : A} {M : Mem} : r.wp (fun x M' => x = a ∧ M' = M) ↔ r = .ok a M := by
  cases r with
  | ok b M' => simp [Res.wp]
  | err => simp [Res.wp]
  | bad => simp [Res.wp]
theorem Res.wp_ex {A : Type} {r : Res A} {Q : A → Mem → Prop} (h : r.wp Q) : ∃ a M, r = .ok a M ∧ Q a M := by
  cases r with
  | ok b M' => exact ⟨b, M', rfl, h⟩
  | err => exact h.elim
  | bad => exact h.elim
section
variable {A B : Type} {cl : Cl} {r : Env} {M : Mem}
@[simp] theorem wp_ok (a : A) (M : Mem) (Q : A → Mem → Prop) : (Res.ok a M).wp Q = Q a M := nrfl rfl
@[simp] theorem wp_nx (r : Env) (M : Mem) (N : Env → Mem → Prop) (R : RV → Mem → Prop) : (SR.nx r M).wp N R = N r M := nrfl rfl
@[simp] theorem wp_ret (x : RV) (M : Mem) (N : Env → Mem → Prop) (R : RV → Mem → Prop) : (SR.ret x M).wp N R = R x M := nrfl rfl
@[simp] theorem wp_bind (x : Res A) (f : A → Mem → Res B) (Q : B → Mem → Prop) : (x.bind f).wp Q = x.wp fun a M => (f a M).wp Q := by
  cases x <;> rfl
@[simp] theorem wp_ite {c : Prop} [Decidable c] (a b : Res A) (Q : A → Mem → Prop) : (if c then a else b).wp Q = if c then a.wp Q else b.wp Q := by
  split <;> rfl
@[simp] theorem wp_iteS {c : Prop} [Decidable c] (a b : SR) (N : Env → Mem → Prop) (R : RV → Mem → Prop) : (if c then a else b).wp N R = if c then a.wp N R else b.wp N R := by
  split <;> rfl
/-! expressions -/
def getV (o : Option (Option D)) (Q : RV → Prop) (_ : Hid Q := .mk) : Prop := match o with
  | some (some d) => Q (.d d)
  | _ => False
@[simp] theorem getV_some (d : D) (Q : RV → Prop) : getV (some (some d)) Q = Q (.d d) := nrfl rfl
@[simp] theorem wp_eVar (i : Nat) (Q : RV → Mem → Prop) : (eVar i cl r M).wp Q = getV r[i]? fun x => Q x M := by
  unfold eVar getV
  cases r[i]? with
  | none => rfl
  | some o => cases o <;> rfl
@[simp] theorem wp_eC (d : D) (Q : RV → Mem → Prop) : (eC d cl r M).wp Q = Q (.d d) M := nrfl rfl
@[simp] theorem wp_e1 (op : Op1) (a : SE) (Q : RV → Mem → Prop) : (e1 op a cl r M).wp Q = (a cl r M).wp fun x M => (op x M).wp Q := wp_bind _ _ _
@[simp] theorem wp_e2 (op : Op2) (a b : SE) (Q : RV → Mem → Prop) : (e2 op a b cl r M).wp Q = (a cl r M).wp fun x M => (b cl r M).wp fun y M => (op x y M).wp Q := by
  unfold e2; rw [wp_bind]; refine wp_ext fun x M => ?_; rw [wp_bind]
/-- by truth -/
def truV (o : Option Bool) (Q : Bool → Prop) (_ : Hid Q := .mk) : Prop := match o with
  | some b => Q b
  | none => False
@[simp] theorem truV_some (b : Bool) (Q : Bool → Prop) : truV (some b) Q = Q b := nrfl rfl
@[simp] theorem wp_eNot (a : SE) (Q : RV → Mem → Prop) : (eNot a cl r M).wp Q = (a cl r M).wp fun x M => truV (truR x M) fun b => Q (.d (.bl !b)) M := by
  unfold eNot; rw [wp_bind]; refine wp_ext fun x M => ?_
  cases truR x M <;> rfl
@[simp] theorem wp_eAnd (a b : SE) (Q : RV → Mem → Prop) : (eAnd a b cl r M).wp Q = (a cl r M).wp fun x M => truV (truR x M) fun t => if t = true then (b cl r M).wp Q else Q x M := by
  unfold eAnd; rw [wp_bind]; refine wp_ext fun x M => ?_
  cases truR x M with
  | none => rfl
  | some t => cases t <;> simp [truV, Res.wp]
@[simp] theorem wp_eOr (a b : SE) (Q : RV → Mem → Prop) : (eOr a b cl r M).wp Q = (a cl r M).wp fun x M => truV (truR x M) fun t => if t = true then Q x M else (b cl r M).wp Q := by
  unfold eOr; rw [wp_bind]; refine wp_ext fun x M => ?_
  cases truR x M with
  | none => rfl
  | some t => cases t <;> simp [truV, Res.wp]
@[simp] theorem wp_tAnd (a b : STt) (Q : Bool → Mem → Prop) : (tAnd a b cl r M).wp Q = (a cl r M).wp fun x M => if x = true then (b cl r M).wp Q else Q false M := by
  unfold tAnd; rw [wp_bind]; refine wp_ext fun x M => ?_; rw [wp_ite]; rfl
@[simp] theorem wp_tOr (a b : STt) (Q : Bool → Mem → Prop) : (tOr a b cl r M).wp Q = (a cl r M).wp fun x M => if x = true then Q true M else (b cl r M).wp Q := by
  unfold tOr; rw [wp_bind]; refine wp_ext fun x M => ?_; rw [wp_ite]; rfl
@[simp] theorem wp_tNot (a : STt) (Q : Bool → Mem → Prop) : (tNot a cl r M).wp Q = (a cl r M).wp fun x M => Q (!x) M := by
  unfold tNot; rw [wp_bind]; rfl
@[simp] theorem wp_tTru (a : SE) (Q : Bool → Mem → Prop) : (tTru a cl r M).wp Q = (a cl r M).wp fun x M => truV (truR x M) fun b => Q b M := by
  unfold tTru; rw [wp_bind]; refine wp_ext fun x M => ?_
  cases truR x M <;> rfl
def blV (x : RV) (Q : Bool → Prop) (_ : Hid Q := .mk) : Prop := match x with
  | .d (.bl b) => Q b
  | _ => False
@[simp] theorem blV_bl (b : Bool) (Q : Bool → Prop) : blV (.d (.bl b)) Q = Q b := nrfl rfl
@[simp] theorem wp_tB (a : SE) (Q : Bool → Mem → Prop) : (tB a cl r M).wp Q = (a cl r M).wp fun x M => blV x fun b => Q b M := by
  unfold tB; rw [wp_bind]; refine wp_ext fun x M => ?_
  unfold blV
  split
  · rfl
  · first | rfl | (split <;> first | rfl | simp_all)
@[simp] theorem wp_eIf (t : STt) (a b : SE) (Q : RV → Mem → Prop) : (eIf t a b cl r M).wp Q = (t cl r M).wp fun x M => if x = true then (a cl r M).wp Q else (b cl r M).wp Q := by
  unfold eIf; rw [wp_bind]; refine wp_ext fun x M => ?_; rw [wp_ite]
@[simp] theorem wp_dNil (Q : List D → Mem → Prop) : (dNil cl r M).wp Q = Q [] M := nrfl rfl
@[simp] theorem wp_dCons (a : SE) (as : SDs) (Q : List D → Mem → Prop) : (dCons a as cl r M).wp Q = (a cl r M).wp fun x M => (as cl r (box x M).2).wp fun ds M' => Q ((box x M).1 :: ds) M' := by
  unfold dCons; rw [wp_bind]; refine wp_ext fun x M => ?_; rw [wp_bind]; rfl
@[simp] theorem wp_eTup (as : SDs) (Q : RV → Mem → Prop) : (eTup as cl r M).wp Q = (as cl r M).wp fun ds M => ds.length ≤ lim ∧ Q (.d (.tup ds)) M := by
  unfold eTup; rw [wp_bind]; refine wp_ext fun x M => ?_; rw [wp_ite]; simp [Res.wp]
@[simp] theorem wp_eLst (as : SDs) (Q : RV → Mem → Prop) : (eLst as cl r M).wp Q = (as cl r M).wp fun ds M => ds.length ≤ lim ∧ Q (.o (.lst ds)) M := by
  unfold eLst; rw [wp_bind]; refine wp_ext fun x M => ?_; rw [wp_ite]; simp [Res.wp]
@[simp] theorem wp_eDic0 (Q : RV → Mem → Prop) : (eDic0 cl r M).wp Q = Q (.o (.dic [])) M := nrfl rfl
@[simp] theorem wp_eDic (as : SDs) (Q : RV → Mem → Prop) : (eDic as cl r M).wp Q = (as cl r M).wp fun ds M => ∃ kvs, pairUp ds [] = some kvs ∧ ds.length ≤ 30 ∧ Q (.o (.dic kvs)) M := by
  unfold eDic; rw [wp_bind]; refine wp_ext fun x M => ?_
  cases pairUp x [] with
  | none => simp [Res.wp]
  | some kvs => simp only [wp_ite]; simp [Res.wp]
@[simp] theorem dPairs_nil : dPairs [] = dNil := nrfl rfl
@[simp] theorem dPairs_cons (p : SE × SE) (l : List (SE × SE)) : dPairs (p :: l) = dCons p.1 (dCons p.2 (dPairs l)) := nrfl rfl
@[simp] theorem wp_eCall (f : Str) (as : SDs) (Q : RV → Mem → Prop) : (eCall f as cl r M).wp Q = (as cl r M).wp fun ds M => (cl f ds M).wp Q := by
  unfold eCall; rw [wp_bind]
@[simp] theorem wp_oNone (Q : Option Int → Mem → Prop) : (oNone cl r M).wp Q = Q none M := nrfl rfl
def intV (x : RV) (Q : Int → Prop) (_ : Hid Q := .mk) : Prop := match x with
  | .d (.int b) => Q b
  | _ => False
@[simp] theorem intV_int (b : Int) (Q : Int → Prop) : intV (.d (.int b)) Q = Q b := nrfl rfl
@[simp] theorem wp_oSome (a : SE) (Q : Option Int → Mem → Prop) : (oSome a cl r M).wp Q = (a cl r M).wp fun x M => intV x fun i => Q (some i) M := by
  unfold oSome; rw [wp_bind]; refine wp_ext fun x M => ?_
  unfold intV
  split
  · rfl
  · first | rfl | (split <;> first | rfl | simp_all)
@[simp] theorem wp_eSlice (a : SE) (lo hi : SO) (Q : RV → Mem → Prop) : (eSlice a lo hi cl r M).wp Q = (a cl r M).wp fun x M => (lo cl r M).wp fun l M => (hi cl r M).wp fun h M => (oSlice x l h M).wp Q := by
  unfold eSlice; rw [wp_bind]; refine wp_ext fun x M => ?_; rw [wp_bind]; refine wp_ext fun y M => ?_; rw [wp_bind]
def hdlV (x : RV) (Q : Nat → Prop) (_ : Hid Q := .mk) : Prop := match x with
  | .d (.hdl n) => Q n
  | _ => False
@[simp] theorem hdlV_hdl (n : Nat) (Q : Nat → Prop) : hdlV (.d (.hdl n)) Q = Q n := nrfl rfl
@[simp] theorem wp_eM1 (m : Nat → D → Mem → Res RV) (o a : SE) (Q : RV → Mem → Prop) : (eM1 m o a cl r M).wp Q = (o cl r M).wp fun x M => hdlV x fun n => (lstT (.d (.hdl n)) M).isSome = true ∧ (a cl r M).wp fun y M => (m n (box y M).1 (box y M).2).wp Q := by
  unfold eM1; rw [wp_bind]; refine wp_ext fun x M => ?_
  unfold hdlV
  split
  · rw [wp_ite, wp_bind]; simp [Res.wp]
  · first | rfl | (split <;> first | rfl | simp_all)
@[simp] theorem wp_iSeq (a : SE) (Q : List D × Chk → Mem → Prop) : (iSeq a cl r M).wp Q = (a cl r M).wp fun x M => ∃ ds, seqOf x M = some ds ∧ Q (ds, chkR x M) M := by
  unfold iSeq; rw [wp_bind]; refine wp_ext fun x M => ?_
  cases h : seqOf x M with
  | none => simp [Res.wp]
  | some ds => simp [Res.wp]
@[simp] theorem wp_iRange1 (a : SE) (Q : List D × Chk → Mem → Prop) : (iRange1 a cl r M).wp Q = (a cl r M).wp fun x M => intV x fun n => (n < 2 ^ 62 ∧ -(2 ^ 62) ≤ n) ∧ Q (rngD 0 n.toNat, []) M := by
  unfold iRange1; rw [wp_bind]; refine wp_ext fun x M => ?_
  unfold intV
  split
  · rw [wp_ite]; simp [Res.wp]
  · first | rfl | (split <;> first | rfl | simp_all)
/-! statements -/
variable {N : Env → Mem → Prop} {R : RV → Mem → Prop}
theorem wp_ofE (s : Res RV) (f : RV → Mem → SR) : (ofE s r f).wp N R = s.wp fun x M => (f x M).wp N R := by cases s <;> rfl
theorem wp_ofT (s : Res Bool) (f : Bool → Mem → SR) : (ofT s r f).wp N R = s.wp fun x M => (f x M).wp N R := by cases s <;> rfl
theorem wp_ofI (s : Res (List D × Chk)) (f : List D × Chk → Mem → SR) : (ofI s r f).wp N R = s.wp fun x M => (f x M).wp N R := by cases s <;> rfl
@[simp] theorem wp_sNil : (sNil cl r M).wp N R = N r M := nrfl rfl
@[simp] theorem wp_sSeq (a b : SS) : (sSeq a b cl r M).wp N R = (a cl r M).wp (fun r M => (b cl r M).wp N R) R := by
  unfold sSeq; cases a cl r M <;> rfl
@[simp] theorem wp_sSet (i : Nat) (e : SE) : (sSet i e cl r M).wp N R = (e cl r M).wp fun x M => N (r.set i (some (box x M).1)) (box x M).2 := by
  unfold sSet; rw [wp_ofE]; rfl
def tupV (x : RV) (Q : List D → Prop) (_ : Hid Q := .mk) : Prop := match x with
  | .d (.tup n) => Q n
  | _ => False
@[simp] theorem tupV_tup (n : List D) (Q : List D → Prop) : tupV (.d (.tup n)) Q = Q n := nrfl rfl
def envV (x : Option Env) (Q : Env → Prop) (_ : Hid Q := .mk) : Prop := match x with
  | some n => Q n
  | _ => False
@[simp] theorem envV_some (n : Env) (Q : Env → Prop) : envV (some n) Q = Q n := nrfl rfl
@[simp] theorem wp_sUnp (is : List Nat) (e : SE) : (sUnp is e cl r M).wp N R = (e cl r M).wp fun x M => tupV x fun ds => envV (setAll is ds r) fun r => N r M := by
  unfold sUnp; rw [wp_ofE]; refine wp_ext fun x M => ?_
  unfold tupV
  split
  · unfold envV
    split <;> rename_i h <;> simp [h, SR.wp]
  · first | rfl | (split <;> first | rfl | simp_all)
def memV (x : Option Mem) (Q : Mem → Prop) (_ : Hid Q := .mk) : Prop := match x with
  | some n => Q n
  | _ => False
@[simp] theorem memV_some (n : Mem) (Q : Mem → Prop) : memV (some n) Q = Q n := nrfl rfl
def datV (x : RV) (Q : D → Prop) (_ : Hid Q := .mk) : Prop := match x with
  | .d n => Q n
  | _ => False
@[simp] theorem datV_d (n : D) (Q : D → Prop) : datV (.d n) Q = Q n := nrfl rfl
@[simp] theorem wp_sSetIx (o k e : SE) : (sSetIx o k e cl r M).wp N R = (e cl r M).wp fun x M => (o cl r (box x M).2).wp fun y M1 => (k cl r M1).wp fun z M2 => datV y fun y => datV z fun z => memV (setIx y z (box x M).1 M2) fun M => N r M := by
  unfold sSetIx; rw [wp_ofE]; refine wp_ext fun x M => ?_; rw [wp_ofE]; refine wp_ext fun y M1 => ?_; rw [wp_ofE]; refine wp_ext fun z M2 => ?_
  unfold datV
  cases y <;> cases z <;> simp only [] <;> try rfl
  unfold memV
  split <;> rename_i h <;> simp [h, SR.wp]
@[simp] theorem wp_sExpr (e : SE) : (sExpr e cl r M).wp N R = (e cl r M).wp fun _ M => N r M := by
  unfold sExpr; rw [wp_ofE]; rfl
@[simp] theorem wp_sRet (e : SE) : (sRet e cl r M).wp N R = (e cl r M).wp fun x M => R x M := by
  unfold sRet; rw [wp_ofE]; rfl
@[simp] theorem wp_sRetN : (sRetN cl r M).wp N R = R (.d .non) M := nrfl rfl
@[simp] theorem wp_sIf (t : STt) (a b : SS) : (sIf t a b cl r M).wp N R = (t cl r M).wp fun x M => if x = true then (a cl r M).wp N R else (b cl r M).wp N R := by
  unfold sIf; rw [wp_ofT]; refine wp_ext fun x M => ?_; rw [wp_iteS]
@[simp] theorem wp_sFor (tg : Tg) (it : SI) (body : SS) : (sFor tg it body cl r M).wp N R = (it cl r M).wp fun p M => (forL (body cl) tg p.2 p.1 r M).wp N R := by
  unfold sFor; rw [wp_ofI]
/-! functions -/
class HasF (T : Tab) (f : Str) (F : Fn) : Prop where
  look : T.lookup f = some F
theorem run_has {T : Tab} {f : Str} {F : Fn} (i : HasF T f F) (n : Nat) (ds : List D) (M : Mem) : run T (n + 1) f ds M = F.run (run T n) ds M := by
  simp only [run, i.look]
theorem run_succ {T : Tab} {f : Str} {F : Fn} (h : T.lookup f = some F) (n : Nat) (ds : List D) (M : Mem) : run T (n + 1) f ds M = F.run (run T n) ds M := by
  simp only [run, h]
theorem wp_run {F : Fn} {cl : Cl} {ds : List D} {M : Mem} {Q : RV → Mem → Prop} (hl : ds.length = F.ar)
    (h : (F.body cl (ds.map some ++ List.replicate (F.ns - ds.length) none) M).wp (fun _ M' => (fin F.mode M (.d .non) M').wp Q) (fun x M' => (fin F.mode M x M').wp Q)) : (F.run cl ds M).wp Q := by
  unfold Fn.run
  rw [if_pos hl]
  cases e : F.body cl (ds.map some ++ List.replicate (F.ns - ds.length) none) M with
  | nx r M' => rw [e] at h; exact h
  | ret x M' => rw [e] at h; exact h
  | err => rw [e] at h; exact h.elim
  | bad => rw [e] at h; exact h.elim
theorem fin_d {M : Mem} {x : D} {l : Mem} (h : x.bel M.length = true) (hn : ∀ n, x ≠ .hdl n) : fin .pure M (.d x) (M ++ l) = .ok (.d x) M := by
  unfold fin
  simp only [List.take_left, if_true]
  cases x with
  | hdl n => exact absurd rfl (hn n)
  | _ => simp only [h, if_true]
theorem fin_d0 {M : Mem} {x : D} (h : x.bel M.length = true) (hn : ∀ n, x ≠ .hdl n) : fin .pure M (.d x) M = .ok (.d x) M := by
  have := fin_d (l := []) h hn
  rwa [List.append_nil] at this
theorem fin_o {M : Mem} {x : O} {l : Mem} (h : x.bel M.length = true) : fin .pure M (.o x) (M ++ l) = .ok (.o x) M := by
  unfold fin
  simp only [List.take_left, if_true, h]
theorem fin_h {M : Mem} {n : Nat} {l : Mem} {o : O} (hn : M.length ≤ n) (he : (M ++ l)[n]? = some o) (h : o.bel M.length = true) : fin .pure M (.d (.hdl n)) (M ++ l) = .ok (.o o) M := by
  unfold fin
  simp only [List.take_left, if_true, he, h]
  rw [if_neg (by omega)]
end
/-! loops -/
theorem forL_wp {A : Type} (enc : A → D) {body : Env → Mem → SR} {tg : Tg} {c : Chk} {N : Env → Mem → Prop} {R : RV → Mem → Prop} (I : List A → Env → Mem → Prop)
    (h0 : ∀ r M, I [] r M → chkOk c M = true ∧ N r M)
    (hs : ∀ a l r M, I (a :: l) r M → chkOk c M = true ∧ envV (asg tg (enc a) r) fun r1 => (body r1 M).wp (fun r2 M2 => Kp (I l r2 M2)) R) :
    ∀ (l : List A) r M, I l r M → (forL body tg c (l.map enc) r M).wp N R
  | [], r, M, h => by
    obtain ⟨h1, h2⟩ := h0 r M h
    simp only [List.map_nil, forL, h1, if_true, SR.wp]
    exact h2
  | a :: l, r, M, h => by
    obtain ⟨h1, h2⟩ := hs a l r M h
    simp only [List.map_cons, forL, h1, if_true]
    cases e : asg tg (enc a) r with
    | none => rw [e] at h2; exact h2.elim
    | some r1 =>
      rw [e] at h2
      simp only [envV] at h2
      simp only
      cases e2 : body r1 M with
      | nx r2 M2 => rw [e2] at h2; exact forL_wp enc I h0 hs l r2 M2 h2
      | ret x M2 => rw [e2] at h2; exact h2
      | err => rw [e2] at h2; exact h2.elim
      | bad => rw [e2] at h2; exact h2.elim
@[simp] theorem chk_nil (M : Mem) : chkOk [] M = true := nrfl rfl
/-- a loop that is a fold -/
theorem forL_fold {A S : Type} (enc : A → D) (st : S → Env) (mm : S → Mem) (f : S → A → S) {body : Env → Mem → SR} {tg : Tg} {c : Chk} (hc : ∀ s, chkOk c (mm s) = true)
    (hs : ∀ s a, envV (asg tg (enc a) (st s)) fun r1 => body r1 (mm s) = .nx (st (f s a)) (mm (f s a))) : ∀ (l : List A) s, forL body tg c (l.map enc) (st s) (mm s) = .nx (st (l.foldl f s)) (mm (l.foldl f s))
  | [], s => by simp [forL, hc]
  | a :: l, s => by
    have h := hs s a
    simp only [List.map_cons, forL, hc, if_true]
    cases e : asg tg (enc a) (st s) with
    | none => rw [e] at h; exact h.elim
    | some r1 =>
      rw [e] at h
      simp only [envV] at h
      simp only [h]
      exact forL_fold enc st mm f hc hs l _
/-- a comprehension -/
theorem compL_map {A : Type} (enc : A → D) {elt : Env → Mem → Res RV} {tst : Env → Mem → Res Bool} {tg : Tg} {r : Env} {M : Mem} {c : Chk} (hc : chkOk c M = true) (p : A → Bool) (g : A → D)
    (h : ∀ a, envV (asg tg (enc a) r) fun r1 => tst r1 M = .ok (p a) M ∧ (p a = true → elt r1 M = .ok (.d (g a)) M)) : ∀ (l : List A) (acc : List D), acc.length + l.length ≤ lim →
    compL elt tst tg c r (l.map enc) acc M = .ok (.o (.lst (acc ++ (l.filter p).map g))) M
  | [], acc, _ => by simp [compL, hc]
  | a :: l, acc, hl => by
    have h1 := h a
    simp only [List.map_cons, compL, hc, if_true]
    simp only [List.length_cons] at hl
    cases e : asg tg (enc a) r with
    | none => rw [e] at h1; exact h1.elim
    | some r1 =>
      rw [e] at h1
      simp only [envV] at h1
      obtain ⟨h2, h3⟩ := h1
      simp only [h2, Res.calm, Res.bind]
      cases hp : p a with
      | false =>
        simp only [Bool.false_eq_true, if_false, List.filter_cons, hp]
        exact compL_map enc hc p g h l acc (by omega)
      | true =>
        simp only [if_true, h3 hp, Res.calm, Res.bind, List.filter_cons, hp]
        rw [if_pos (by omega)]
        simp only [box]
        rw [compL_map enc hc p g h l _ (by simp; omega)]
        simp
@[simp] theorem wp_eComp {elt : SE} {tst : STt} {tg : Tg} {own : List Nat} {it : SI} {cl : Cl} {r : Env} {M : Mem} {Q : RV → Mem → Prop} :
    (eComp elt tst tg own it cl r M).wp Q = (it cl r M).wp fun p M => (compL (elt cl) (tst cl) tg p.2 (wipe r own) p.1 [] M).wp Q := by
  unfold eComp; rw [wp_bind]
end MI
namespace MI
/-- a loop over range(n) -/
theorem forL_range {body : Env → Mem → SR} {tg : Tg} {N : Env → Mem → Prop} {R : RV → Mem → Prop} {lo : Int} {n : Nat} (I : Nat → Env → Mem → Prop)
    (h0 : ∀ r M, I n r M → N r M)
    (hs : ∀ j r M, j < n → I j r M → envV (asg tg (.int (lo + (j : Int))) r) fun r1 => (body r1 M).wp (fun r2 M2 => Kp (I (j + 1) r2 M2)) R) :
    ∀ r M, I 0 r M → (forL body tg [] (rngD lo n) r M).wp N R := by
  have key : ∀ (m j : Nat) r M, j + m = n → I j r M → (forL body tg [] ((List.range' j m).map fun k : Nat => D.int (lo + (k : Int))) r M).wp N R := by
    intro m
    induction m with
    | zero =>
      intro j r M e h
      have e' : j = n := by omega
      subst e'
      simp only [List.range'_zero, List.map_nil, forL, chk_nil, if_true, SR.wp]
      exact h0 r M h
    | succ m ih =>
      intro j r M e h
      have h2 := hs j r M (by omega) h
      simp only [List.range'_succ, List.map_cons, forL, chk_nil, if_true]
      cases e1 : asg tg (.int (lo + (j : Int))) r with
      | none => rw [e1] at h2; exact h2.elim
      | some r1 =>
        rw [e1] at h2
        simp only [envV] at h2
        simp only
        cases e2 : body r1 M with
        | nx r2 M2 => rw [e2] at h2; exact ih (j + 1) r2 M2 (by omega) h2
        | ret x M2 => rw [e2] at h2; exact h2
        | err => rw [e2] at h2; exact h2.elim
        | bad => rw [e2] at h2; exact h2.elim
  intro r M h
  have := key n 0 r M (by omega) h
  rwa [← List.range_eq_range'] at this
end MI
namespace MI
/-- a comprehension without a test -/
theorem compL_all {A : Type} (enc : A → D) {elt : Env → Mem → Res RV} {cl : Cl} {tg : Tg} {r : Env} {M : Mem} {c : Chk} (hc : chkOk c M = true) (g : A → D)
    (h : ∀ a, envV (asg tg (enc a) r) fun r1 => elt r1 M = .ok (.d (g a)) M) (l : List A) (hl : l.length ≤ lim) :
    compL elt (tYes cl) tg c r (l.map enc) [] M = .ok (.o (.lst (l.map g))) M := by
  rw [compL_map enc hc (fun _ => true) g (fun a => ?_) l [] (by simpa using hl)]
  · simp only [List.nil_append]
    congr 3
    rw [show (l.filter fun _ => true) = l from List.filter_eq_self.mpr fun _ _ => rfl]
  · have := h a
    cases e : asg tg (enc a) r with
    | none => rw [e] at this; exact this.elim
    | some r1 => rw [e] at this; exact ⟨rfl, fun _ => this⟩
end MI
namespace MI
open PySem (Str PyData)
section
variable {A B : Type} {cl : Cl} {r : Env} {M : Mem}
@[simp] theorem wp_eM0 (m : Nat → Mem → Res RV) (o : SE) (Q : RV → Mem → Prop) : (eM0 m o cl r M).wp Q = (o cl r M).wp fun x M => hdlV x fun n => (lstT (.d (.hdl n)) M).isSome = true ∧ (m n M).wp Q := by
  unfold eM0; rw [wp_bind]; refine wp_ext fun x M => ?_
  unfold hdlV
  split
  · rw [wp_ite]; simp [Res.wp]
  · first | rfl | (split <;> first | rfl | simp_all)
theorem wp_if_bad {c : Prop} [Decidable c] (x : Res A) (Q : A → Mem → Prop) : (if c then x else .bad).wp Q = (c ∧ x.wp Q) := by
  split <;> rename_i h <;> simp [h, Res.wp]
@[simp] theorem wp_eM2 (m : Nat → D → D → Mem → Res RV) (o a b : SE) (Q : RV → Mem → Prop) : (eM2 m o a b cl r M).wp Q = (o cl r M).wp fun x M => hdlV x fun n => (lstT (.d (.hdl n)) M).isSome = true ∧ (a cl r M).wp fun y M => (b cl r (box y M).2).wp fun z M2 => (m n (box y M).1 (box z M2).1 (box z M2).2).wp Q := by
  unfold eM2; rw [wp_bind]; refine wp_ext fun x M => ?_
  unfold hdlV
  split
  · rw [wp_if_bad, wp_bind]; congr 1; refine wp_ext fun y M => ?_; rw [wp_bind]
  · first | rfl | (split <;> first | rfl | simp_all)
def newV (x : RV) (Q : List D → Prop) (_ : Hid Q := .mk) : Prop := match x with
  | .o (.lst ds) => Q ds
  | _ => False
@[simp] theorem newV_lst (ds : List D) (Q : List D → Prop) : newV (.o (.lst ds)) Q = Q ds := nrfl rfl
@[simp] theorem wp_eN1 (m : Nat → D → Mem → Res RV) (o a : SE) (Q : RV → Mem → Prop) : (eN1 m o a cl r M).wp Q = (o cl r M).wp fun x M => newV x fun ds => (a cl r (M ++ [.lst ds])).wp fun y M2 => (m M.length (box y M2).1 (box y M2).2).wp Q := by
  unfold eN1; rw [wp_bind]; refine wp_ext fun x M => ?_
  unfold newV
  split
  · rw [wp_bind]
  · first | rfl | (split <;> first | rfl | simp_all)
@[simp] theorem wp_eN0 (m : Nat → Mem → Res RV) (o : SE) (Q : RV → Mem → Prop) : (eN0 m o cl r M).wp Q = (o cl r M).wp fun x M => newV x fun ds => (m M.length (M ++ [.lst ds])).wp Q := by
  unfold eN0; rw [wp_bind]; refine wp_ext fun x M => ?_
  unfold newV
  split
  · rfl
  · first | rfl | (split <;> first | rfl | simp_all)
def lstV (x : RV) (M : Mem) (Q : List D → Prop) (_ : Hid Q := .mk) : Prop := match lstOf x M with
  | some ds => Q ds
  | _ => False
@[simp] theorem lstV_o (ds : List D) (Q : List D → Prop) : lstV (.o (.lst ds)) M Q = Q ds := nrfl rfl
@[simp] theorem lstV_ro (ds : List D) (Q : List D → Prop) : lstV (.d (.ro ds)) M Q = Q ds := nrfl rfl
theorem lstV_of {x : RV} {ds : List D} (h : lstOf x M = some ds) (Q : List D → Prop) : lstV x M Q = Q ds := by unfold lstV; rw [h]
@[simp] theorem wp_eStep (a : SE) (lo hi : SO) (k : Nat) (Q : RV → Mem → Prop) : (eStep a lo hi k cl r M).wp Q = (a cl r M).wp fun x M => (lo cl r M).wp fun l M => (hi cl r M).wp fun h M => lstV x M fun ds => Q (.o (.lst (pickS (sIx ds.length 0 l) k (ds.take (sIx ds.length ds.length h))))) M := by
  unfold eStep; rw [wp_bind]; refine wp_ext fun x M => ?_; rw [wp_bind]; refine wp_ext fun y M => ?_; rw [wp_bind]; refine wp_ext fun z M => ?_
  unfold lstV
  cases lstOf x M <;> rfl
@[simp] theorem wp_eRev (a : SE) (Q : RV → Mem → Prop) : (eRev a cl r M).wp Q = (a cl r M).wp fun x M => lstV x M fun ds => Q (.o (.lst ds.reverse)) M := by
  unfold eRev; rw [wp_bind]; refine wp_ext fun x M => ?_
  unfold lstV
  cases lstOf x M <;> rfl
@[simp] theorem wp_iRange2 (a b : SE) (Q : List D × Chk → Mem → Prop) : (iRange2 a b cl r M).wp Q = (a cl r M).wp fun x M => (b cl r M).wp fun y M => intV x fun i => intV y fun j => ((-(2 ^ 62) ≤ i ∧ i < 2 ^ 62) ∧ -(2 ^ 62) ≤ j ∧ j < 2 ^ 62) ∧ Q (rngD i (j - i).toNat, []) M := by
  unfold iRange2; rw [wp_bind]; refine wp_ext fun x M => ?_; rw [wp_bind]; refine wp_ext fun y M => ?_
  rcases x with (_ | _ | i | _ | _ | _ | _) | _ <;> rcases y with (_ | _ | j | _ | _ | _ | _) | _ <;> first | rfl | skip
  simp only [intV]
  rw [wp_if_bad]; rfl
@[simp] theorem wp_iRange3 (a b c : SE) (Q : List D × Chk → Mem → Prop) : (iRange3 a b c cl r M).wp Q = (a cl r M).wp fun x M => (b cl r M).wp fun y M => (c cl r M).wp fun z M => intV x fun i => intV y fun j => intV z fun c => ((-(2 ^ 61) ≤ i ∧ i < 2 ^ 61) ∧ (-(2 ^ 61) ≤ j ∧ j < 2 ^ 61) ∧ c ≠ 0 ∧ c.natAbs < 1000000) ∧ Q (rngC i c (rgN i j c), []) M := by
  unfold iRange3; rw [wp_bind]; refine wp_ext fun x M => ?_; rw [wp_bind]; refine wp_ext fun y M => ?_; rw [wp_bind]; refine wp_ext fun z M => ?_
  rcases x with (_ | _ | i | _ | _ | _ | _) | _ <;> rcases y with (_ | _ | j | _ | _ | _ | _) | _ <;> rcases z with (_ | _ | j | _ | _ | _ | _) | _ <;> first | rfl | skip
  simp only [intV]
  rw [wp_if_bad]; rfl
end
end MI
namespace MI
/-- .. over data as they stand -/
theorem forL_wpD {body : Env → Mem → SR} {tg : Tg} {c : Chk} {N : Env → Mem → Prop} {R : RV → Mem → Prop} (I : List D → Env → Mem → Prop)
    (h0 : ∀ r M, I [] r M → chkOk c M = true ∧ N r M)
    (hs : ∀ a l r M, I (a :: l) r M → chkOk c M = true ∧ envV (asg tg a r) fun r1 => (body r1 M).wp (fun r2 M2 => Kp (I l r2 M2)) R) (l : List D) (r : Env) (M : Mem) (h : I l r M) : (forL body tg c l r M).wp N R := by
  have := forL_wp (fun d : D => d) I h0 hs l r M h
  rwa [List.map_id' l] at this
end MI
namespace MI
/-- a comprehension, by what its items are -/
theorem compL_mapM {A : Type} (enc : A → D) {elt : Env → Mem → Res RV} {tst : Env → Mem → Res Bool} {tg : Tg} {r : Env} {M : Mem} {c : Chk} (hc : chkOk c M = true) (p : A → Bool) (g : A → D) :
    ∀ (l : List A), (∀ a ∈ l, envV (asg tg (enc a) r) fun r1 => tst r1 M = .ok (p a) M ∧ (p a = true → elt r1 M = .ok (.d (g a)) M)) → ∀ (acc : List D), acc.length + l.length ≤ lim →
    compL elt tst tg c r (l.map enc) acc M = .ok (.o (.lst (acc ++ (l.filter p).map g))) M
  | [], _, acc, _ => by simp [compL, hc]
  | a :: l, h, acc, hl => by
    have h1 := h a List.mem_cons_self
    have h' := fun x hx => h x (List.mem_cons_of_mem _ hx)
    simp only [List.map_cons, compL, hc, if_true]
    simp only [List.length_cons] at hl
    cases e : asg tg (enc a) r with
    | none => rw [e] at h1; exact h1.elim
    | some r1 =>
      rw [e] at h1
      simp only [envV] at h1
      obtain ⟨h2, h3⟩ := h1
      simp only [h2, Res.calm, Res.bind]
      cases hp : p a with
      | false =>
        simp only [Bool.false_eq_true, if_false, List.filter_cons, hp]
        exact compL_mapM enc hc p g l h' acc (by omega)
      | true =>
        simp only [if_true, h3 hp, Res.calm, Res.bind, List.filter_cons, hp]
        rw [if_pos (by omega)]
        simp only [box]
        rw [compL_mapM enc hc p g l h' _ (by simp; omega)]
        simp
theorem compL_allM {A : Type} (enc : A → D) {elt : Env → Mem → Res RV} {cl : Cl} {tg : Tg} {r : Env} {M : Mem} {c : Chk} (hc : chkOk c M = true) (g : A → D) (l : List A)
    (h : ∀ a ∈ l, envV (asg tg (enc a) r) fun r1 => elt r1 M = .ok (.d (g a)) M) (hl : l.length ≤ lim) :
    compL elt (tYes cl) tg c r (l.map enc) [] M = .ok (.o (.lst (l.map g))) M := by
  rw [compL_mapM enc hc (fun _ => true) g l (fun a ha => ?_) [] (by simpa using hl)]
  · simp only [List.nil_append]
    congr 3
    rw [show (l.filter fun _ => true) = l from List.filter_eq_self.mpr fun _ _ => rfl]
  · have := h a ha
    cases e : asg tg (enc a) r with
    | none => rw [e] at this; exact this.elim
    | some r1 => rw [e] at this; exact ⟨rfl, fun _ => this⟩
end MI
end
section
set_option linter.all false
set_option autoImplicit false
/-! MJ2: operations on plain data -/
namespace MI
open PySem (Str PyData)
@[simp] theorem wp_bad {A : Type} (Q : A → Mem → Prop) : (Res.bad : Res A).wp Q = False := nrfl rfl
section
variable {M : Mem} {i j : Int} {b c : Bool}
@[simp] theorem oAdd_int : oAdd (.d (.int i)) (.d (.int j)) M = .ok (.d (.int (i + j))) M := nrfl rfl
@[simp] theorem oSub_int : oSub (.d (.int i)) (.d (.int j)) M = .ok (.d (.int (i - j))) M := nrfl rfl
@[simp] theorem oNeg_int : oNeg (.d (.int i)) M = .ok (.d (.int (-i))) M := nrfl rfl
@[simp] theorem oMul_int : oMul (.d (.int i)) (.d (.int j)) M = if (-(2 ^ 64) < i ∧ i < 2 ^ 64) ∨ (-(2 ^ 64) < j ∧ j < 2 ^ 64) then .ok (.d (.int (i * j))) M else .bad := nrfl rfl
@[simp] theorem oDiv_int : oDiv (.d (.int i)) (.d (.int j)) M = if 0 < j ∧ j < 1073741824 then .ok (.d (.int (i / j))) M else .bad := nrfl rfl
@[simp] theorem oMod_int : oMod (.d (.int i)) (.d (.int j)) M = if 0 < j then .ok (.d (.int (i % j))) M else .bad := nrfl rfl
@[simp] theorem oPow_int : oPow (.d (.int i)) (.d (.int j)) M = if 0 ≤ j ∧ j ≤ 1000000 ∧ i.natAbs < 2 ^ 64 then .ok (.d (.int (i ^ j.toNat))) M else .bad := nrfl rfl
@[simp] theorem oLt_int : oLt (.d (.int i)) (.d (.int j)) M = .ok (.d (.bl (decide (i < j)))) M := nrfl rfl
@[simp] theorem oLe_int : oLe (.d (.int i)) (.d (.int j)) M = .ok (.d (.bl (decide (i ≤ j)))) M := nrfl rfl
@[simp] theorem oGt_int : oGt (.d (.int i)) (.d (.int j)) M = .ok (.d (.bl (decide (j < i)))) M := nrfl rfl
@[simp] theorem oGe_int : oGe (.d (.int i)) (.d (.int j)) M = .ok (.d (.bl (decide (j ≤ i)))) M := nrfl rfl
@[simp] theorem derR_int : derR (.d (.int i)) M = some (.int i) := nrfl rfl
@[simp] theorem derR_bl : derR (.d (.bl b)) M = some (.bool b) := nrfl rfl
@[simp] theorem derR_non : derR (.d .non) M = some .none := nrfl rfl
theorem oEq_of {x y : RV} {p q : PyData} (h1 : derR x M = some p) (h2 : derR y M = some q) : oEq x y M = .ok (.d (.bl (peq p q))) M := by unfold oEq; rw [h1, h2]; rfl
theorem oNe_of {x y : RV} {p q : PyData} (h1 : derR x M = some p) (h2 : derR y M = some q) : oNe x y M = .ok (.d (.bl (!peq p q))) M := by unfold oNe; rw [h1, h2]; rfl
@[simp] theorem oEq_int : oEq (.d (.int i)) (.d (.int j)) M = .ok (.d (.bl (decide (i = j)))) M := by rw [oEq_of derR_int derR_int]; rfl
@[simp] theorem oNe_int : oNe (.d (.int i)) (.d (.int j)) M = .ok (.d (.bl (!decide (i = j)))) M := by rw [oNe_of derR_int derR_int]; rfl
@[simp] theorem oEq_bl : oEq (.d (.bl b)) (.d (.bl c)) M = .ok (.d (.bl (b == c))) M := by rw [oEq_of derR_bl derR_bl]; rfl
@[simp] theorem oNe_bl : oNe (.d (.bl b)) (.d (.bl c)) M = .ok (.d (.bl (b != c))) M := by rw [oNe_of derR_bl derR_bl]; rfl
@[simp] theorem oIs_non (x : RV) : oIs x (.d .non) M = .ok (.d (.bl (decide (x = .d .non)))) M := by
  cases x with
  | d d => cases d <;> rfl
  | o o => rfl
@[simp] theorem oIsNot_non (x : RV) : oIsNot x (.d .non) M = .ok (.d (.bl (!decide (x = .d .non)))) M := by
  cases x with
  | d d => cases d <;> rfl
  | o o => rfl
@[simp] theorem truR_bl : truR (.d (.bl b)) M = some b := nrfl rfl
@[simp] theorem truR_int : truR (.d (.int i)) M = some (i != 0) := nrfl rfl
@[simp] theorem truR_non : truR (.d .non) M = some false := nrfl rfl
/-- the item of a sequence -/
theorem oIx_seq {x : RV} {ds : List D} {k : Nat} {d : D} (h : seqOf x M = some ds) (h1 : ixN ds.length i = some k) (h2 : ds[k]? = some d) : oIx x (.d (.int i)) M = .ok (.d d) M := by
  unfold oIx
  simp only [h, h1, h2]
theorem ixN_pos {n : Nat} {i : Int} (h0 : 0 ≤ i) (h1 : i < n) : ixN n i = some i.toNat := by
  unfold ixN; rw [if_pos h0, if_pos h1]
theorem ixN_neg {n : Nat} {i : Int} (h0 : i < 0) (h1 : -(n : Int) ≤ i) : ixN n i = some (i + n).toNat := by
  unfold ixN; rw [if_neg (by omega), if_pos h1]
@[simp] theorem seqOf_tup (ds : List D) : seqOf (.d (.tup ds)) M = some ds := nrfl rfl
@[simp] theorem seqOf_ro (ds : List D) : seqOf (.d (.ro ds)) M = some ds := nrfl rfl
@[simp] theorem seqOf_lst (ds : List D) : seqOf (.o (.lst ds)) M = some ds := nrfl rfl
@[simp] theorem chkR_tup (ds : List D) : chkR (.d (.tup ds)) M = [] := nrfl rfl
@[simp] theorem chkR_ro (ds : List D) : chkR (.d (.ro ds)) M = [] := nrfl rfl
@[simp] theorem chkR_o (o : O) : chkR (.o o) M = [] := nrfl rfl
@[simp] theorem oIx_t0 (a : D) (r : List D) : oIx (.d (.tup (a :: r))) (.d (.int 0)) M = .ok (.d a) M := by
  refine oIx_seq rfl (ixN_pos (by omega) (by simp)) rfl
@[simp] theorem oIx_t1 (a b : D) (r : List D) : oIx (.d (.tup (a :: b :: r))) (.d (.int 1)) M = .ok (.d b) M := by
  refine oIx_seq rfl (ixN_pos (by omega) (by simp; omega)) rfl
@[simp] theorem oIx_t2 (a b c : D) (r : List D) : oIx (.d (.tup (a :: b :: c :: r))) (.d (.int 2)) M = .ok (.d c) M := by
  refine oIx_seq rfl (ixN_pos (by omega) (by simp; omega)) rfl
@[simp] theorem bLen_tup (ds : List D) : bLen (.d (.tup ds)) M = .ok (.d (.int ds.length)) M := nrfl rfl
@[simp] theorem bLen_ro (ds : List D) : bLen (.d (.ro ds)) M = .ok (.d (.int ds.length)) M := nrfl rfl
@[simp] theorem bLen_lst (ds : List D) : bLen (.o (.lst ds)) M = .ok (.d (.int ds.length)) M := nrfl rfl
@[simp] theorem box_d (d : D) : box (.d d) M = (d, M) := nrfl rfl
@[simp] theorem box_o (o : O) : box (.o o) M = (.hdl M.length, M ++ [o]) := nrfl rfl
@[simp] theorem asg_nm (k : Nat) (d : D) (r : Env) : asg (.nm k) d r = some (r.set k (some d)) := nrfl rfl
@[simp] theorem asg_tp (is : List Nat) (ds : List D) (r : Env) : asg (.tp is) (.tup ds) r = setAll is ds r := nrfl rfl
@[simp] theorem setAll_nil (r : Env) : setAll [] [] r = some r := nrfl rfl
@[simp] theorem setAll_cons (k : Nat) (is : List Nat) (d : D) (ds : List D) (r : Env) : setAll (k :: is) (d :: ds) r = setAll is ds (r.set k (some d)) := nrfl rfl
@[simp] theorem wipe_nil (r : Env) : wipe r [] = r := nrfl rfl
@[simp] theorem wipe_cons (k : Nat) (is : List Nat) (r : Env) : wipe r (k :: is) = (wipe r is).set k none := nrfl rfl
/-! the memory's end -/
@[simp] theorem get_last (o : O) : (M ++ [o])[M.length]? = some o := by simp
@[simp] theorem set_last (o o' : O) : (M ++ [o]).set M.length o' = M ++ [o'] := by
  rw [List.set_append_right _ _ (Nat.le_refl _), Nat.sub_self]; rfl
end
end MI
namespace MI
open PySem (Str PyData)
/-! texts -/
theorem ofString_inj {a b : String} : Str.ofString a = Str.ofString b ↔ a = b := by
  refine ⟨fun h => ?_, fun h => by rw [h]⟩
  rw [Str.ofString_eq_toList, Str.ofString_eq_toList] at h
  injection h with h
  have h2 : a.toList.map Char.toNat = b.toList.map Char.toNat := by simpa using h
  have h3 : a.toList = b.toList := by
    generalize a.toList = xs at h2
    generalize b.toList = ys at h2
    induction xs generalizing ys with
    | nil => cases ys with
      | nil => rfl
      | cons => simp at h2
    | cons x xs ih => cases ys with
      | nil => simp at h2
      | cons y ys =>
        simp only [List.map_cons, List.cons.injEq] at h2
        rw [Char.toNat_inj.mp h2.1, ih ys h2.2]
  exact String.toList_inj.mp h3
@[simp] theorem ofString_eq_iff (a b : String) : (Str.ofString a = Str.ofString b) = (a = b) := propext ofString_inj
def okS (s : Str) : Bool := s.cps.all (· < 0x110000)
@[simp] theorem okS_lit (a : String) : okS (Str.ofString a) = true := by
  rw [Str.ofString_eq_toList]
  unfold okS
  rw [List.all_toArray, List.all_eq_true]
  intro x hx
  obtain ⟨c, _, rfl⟩ := List.mem_map.mp hx
  have := c.valid
  have h2 : c.toNat = c.val.toNat := rfl
  simp only [UInt32.isValidChar, Nat.isValidChar] at this
  rw [decide_eq_true_eq, h2]
  omega
section
variable {M : Mem} {s t : Str}
theorem derR_str (h : okS s = true) : derR (.d (.str s)) M = some (.str s) := by
  show (if s.cps.all (· < 0x110000) then some (PyData.str s) else none) = _
  exact if_pos h
@[simp] theorem oEq_str : oEq (.d (.str s)) (.d (.str t)) M = if okS s = true ∧ okS t = true then .ok (.d (.bl (decide (s = t)))) M else .bad := by
  split
  · rename_i h
    rw [oEq_of (derR_str h.1) (derR_str h.2)]
    rfl
  · rename_i h
    unfold oEq
    have e : ∀ s : Str, derR (.d (.str s)) M = if okS s = true then some (.str s) else none := fun s => rfl
    rw [e, e]
    by_cases h1 : okS s = true
    · have h2 : ¬ okS t = true := fun z => h ⟨h1, z⟩
      rw [if_neg h2]; cases (if okS s = true then some (PyData.str s) else none) <;> rfl
    · rw [if_neg h1]
end
end MI
namespace MI
open PySem (Str PyData)
/-! dicts -/
theorem dget_cons' (p : D × D) (r : List (D × D)) (k : D) : dget (p :: r) k = if p.1 = k then some p.2 else dget r k := by
  unfold dget
  rw [List.find?_cons]
  by_cases h : p.1 = k
  · simp [h]
  · simp [h]
theorem dget_none {k : D} : ∀ {kvs : List (D × D)}, (kvs.any fun kv => decide (kv.1 = k)) = false → dget kvs k = none
  | [], _ => rfl
  | p :: r, h => by
    rw [List.any_cons, Bool.or_eq_false_iff] at h
    rw [dget_cons', if_neg (by simpa using h.1), dget_none h.2]
theorem dget_append {k : D} (a b : List (D × D)) : dget (a ++ b) k = (dget a k).orElse fun _ => dget b k := by
  induction a with
  | nil => rfl
  | cons p r ih =>
    rw [List.cons_append, dget_cons', dget_cons', ih]
    split <;> rfl
theorem dget_repl {k v k' : D} : ∀ {kvs : List (D × D)}, dget (kvs.map fun kv => if kv.1 = k then (kv.1, v) else kv) k' = if k = k' then (if (kvs.any fun kv => decide (kv.1 = k)) = true then some v else none) else dget kvs k'
  | [] => by simp [dget]
  | p :: r => by
    rw [List.map_cons, dget_cons', dget_repl, List.any_cons, dget_cons']
    by_cases h : p.1 = k
    · simp only [h, if_true, decide_true, Bool.true_or]
      by_cases h2 : k = k'
      · simp [h2]
      · simp [h2]
    · simp only [h, if_false, decide_false, Bool.false_or]
      by_cases h2 : k = k'
      · subst h2; simp [h]
      · simp [h2]
theorem dget_dput (kvs : List (D × D)) (k v k' : D) : dget (dput kvs k v) k' = if k = k' then some v else dget kvs k' := by
  unfold dput
  split
  · rename_i h
    rw [dget_repl, h]; simp
  · rename_i h
    rw [dget_append]
    have h' : (kvs.any fun kv => decide (kv.1 = k)) = false := by revert h; cases (kvs.any fun kv => decide (kv.1 = k)) <;> simp
    by_cases h2 : k = k'
    · subst h2
      rw [dget_none h', if_pos rfl]
      simp [dget_cons']
    · rw [if_neg h2]
      simp [dget_cons', h2, dget]
theorem dput_length (kvs : List (D × D)) (k v : D) : (dput kvs k v).length ≤ kvs.length + 1 := by
  unfold dput; split <;> simp
section
variable {M : Mem} {i j : Int} {b c : Bool}
@[simp] theorem get_off (M l : Mem) (k : Nat) : (M ++ l)[M.length + k]? = l[k]? := by
  rw [List.getElem?_append_right (Nat.le_add_right _ _), Nat.add_sub_cancel_left]
@[simp] theorem get_off0 (M l : Mem) : (M ++ l)[M.length]? = l[0]? := get_off M l 0
@[simp] theorem set_off (M l : Mem) (k : Nat) (o : O) : (M ++ l).set (M.length + k) o = M ++ l.set k o := by
  rw [List.set_append_right _ _ (Nat.le_add_right _ _), Nat.add_sub_cancel_left]
@[simp] theorem set_off0 (M l : Mem) (o : O) : (M ++ l).set M.length o = M ++ l.set 0 o := set_off M l 0 o
@[simp] theorem setIx_hdl (n : Nat) (k v : D) : setIx (.hdl n) k v M = match M[n]? with
    | some (.lst ds) => match k with
      | .int i => match ixN ds.length i with
        | some j => some (M.set n (.lst (ds.set j v)))
        | none => none
      | _ => none
    | some (.dic kvs) => if isKey k ∧ kvs.length < lim then some (M.set n (.dic (dput kvs k v))) else none
    | _ => none := nrfl rfl
@[simp] theorem isKey_int (i : Int) : isKey (.int i) = true := nrfl rfl
@[simp] theorem isKey_str (i : Str) : isKey (.str i) = true := nrfl rfl
theorem oIn_dic {k : D} {x : RV} {kvs : List (D × D)} (h : dicOf x M = some kvs) (hk : isKey k = true) : oIn (.d k) x M = .ok (.d (.bl (dget kvs k).isSome)) M := by
  unfold oIn inR
  simp only [h, hk, if_true]; rfl
theorem oNotIn_dic {k : D} {x : RV} {kvs : List (D × D)} (h : dicOf x M = some kvs) (hk : isKey k = true) : oNotIn (.d k) x M = .ok (.d (.bl (!(dget kvs k).isSome))) M := by
  unfold oNotIn inR
  simp only [h, hk, if_true]; rfl
@[simp] theorem dicOf_hdl (n : Nat) : dicOf (.d (.hdl n)) M = match M[n]? with
    | some (.dic kvs) => some kvs
    | _ => none := nrfl rfl
@[simp] theorem fin_hdl (k : Nat) (l : Mem) : fin .pure M (.d (.hdl (M.length + k))) (M ++ l) = match l[k]? with
    | some o => if o.bel M.length = true then .ok (.o o) M else .bad
    | none => .bad := by
  unfold fin
  simp only [List.take_left, if_true, get_off]
  rw [if_neg (by omega)]
  all_goals (cases l[k]? <;> rfl)
@[simp] theorem fin_hdl0 (l : Mem) : fin .pure M (.d (.hdl M.length)) (M ++ l) = match l[0]? with
    | some o => if o.bel M.length = true then .ok (.o o) M else .bad
    | none => .bad := fin_hdl 0 l
@[simp] theorem fin_o' (o : O) (l : Mem) : fin .pure M (.o o) (M ++ l) = if o.bel M.length = true then .ok (.o o) M else .bad := by
  unfold fin; simp only [List.take_left, if_true]
@[simp] theorem fin_o0' (o : O) : fin .pure M (.o o) M = if o.bel M.length = true then .ok (.o o) M else .bad := by
  unfold fin; simp only [List.take_length, if_true]
@[simp] theorem mAppend_def (n : Nat) (d : D) : mAppend n d M = match M[n]? with
    | some (.lst ds) => if ds.length < lim then .ok (.d .non) (M.set n (.lst (ds ++ [d]))) else .bad
    | _ => .bad := nrfl rfl
@[simp] theorem lstT_hdl (n : Nat) : lstT (.d (.hdl n)) M = match M[n]? with
    | some (.lst ds) => some ds
    | _ => none := nrfl rfl
@[simp] theorem lstT_o (ds : List D) : lstT (.o (.lst ds)) M = some ds := nrfl rfl
@[simp] theorem lstOf_hdl (n : Nat) : lstOf (.d (.hdl n)) M = match M[n]? with
    | some (.lst ds) => some ds
    | _ => none := nrfl rfl
@[simp] theorem lstOf_o (ds : List D) : lstOf (.o (.lst ds)) M = some ds := nrfl rfl
@[simp] theorem lstOf_ro (ds : List D) : lstOf (.d (.ro ds)) M = some ds := nrfl rfl
@[simp] theorem seqOf_hdl (n : Nat) : seqOf (.d (.hdl n)) M = match M[n]? with
    | some (.lst ds) => some ds
    | _ => none := nrfl rfl
@[simp] theorem chkR_hdl (n : Nat) : chkR (.d (.hdl n)) M = match M[n]? with
    | some (.lst ds) => [(n, ds)]
    | _ => [] := nrfl rfl
@[simp] theorem oIn_hdl (n : Nat) (k : D) : oIn (.d k) (.d (.hdl n)) M = match M[n]? with
    | some (.dic kvs) => if isKey k = true then .ok (.d (.bl (dget kvs k).isSome)) M else .bad
    | some (.lst ds) => if (k.flat && ds.all D.flat) = true then .ok (.d (.bl (ds.any fun d => feq d k))) M else .bad
    | _ => .bad := by
  unfold oIn inR
  simp only [dicOf_hdl, seqOf_hdl]
  cases M[n]? with
  | none => rfl
  | some o =>
    cases o with
    | lst ds => simp only; split <;> rename_i h <;> split at h <;> simp_all [vB]
    | dic kvs => simp only; split <;> rename_i h <;> split at h <;> simp_all [vB]
    | ins => rfl
@[simp] theorem oNotIn_hdl (n : Nat) (k : D) : oNotIn (.d k) (.d (.hdl n)) M = match M[n]? with
    | some (.dic kvs) => if isKey k = true then .ok (.d (.bl (!(dget kvs k).isSome))) M else .bad
    | some (.lst ds) => if (k.flat && ds.all D.flat) = true then .ok (.d (.bl (!(ds.any fun d => feq d k)))) M else .bad
    | _ => .bad := by
  unfold oNotIn inR
  simp only [dicOf_hdl, seqOf_hdl]
  cases M[n]? with
  | none => rfl
  | some o =>
    cases o with
    | lst ds => simp only; split <;> rename_i h <;> split at h <;> simp_all [vB]
    | dic kvs => simp only; split <;> rename_i h <;> split at h <;> simp_all [vB]
    | ins => rfl
@[simp] theorem bTuple_hdl (n : Nat) : bTuple (.d (.hdl n)) M = match M[n]? with
    | some (.lst ds) => .ok (.d (.tup ds)) M
    | _ => .bad := by
  unfold bTuple; rw [seqOf_hdl]; cases M[n]? with
  | none => rfl
  | some o => cases o <;> rfl
@[simp] theorem bTuple_o (ds : List D) : bTuple (.o (.lst ds)) M = .ok (.d (.tup ds)) M := nrfl rfl
@[simp] theorem bTuple_tup (ds : List D) : bTuple (.d (.tup ds)) M = .ok (.d (.tup ds)) M := nrfl rfl
@[simp] theorem bList_hdl (n : Nat) : bList (.d (.hdl n)) M = match M[n]? with
    | some (.lst ds) => .ok (.o (.lst ds)) M
    | _ => .bad := by
  unfold bList; rw [seqOf_hdl]; cases M[n]? with
  | none => rfl
  | some o => cases o <;> rfl
@[simp] theorem bList_o (ds : List D) : bList (.o (.lst ds)) M = .ok (.o (.lst ds)) M := nrfl rfl
@[simp] theorem bList_tup (ds : List D) : bList (.d (.tup ds)) M = .ok (.o (.lst ds)) M := nrfl rfl
@[simp] theorem bLen_hdl (n : Nat) : bLen (.d (.hdl n)) M = match M[n]? with
    | some (.lst ds) => .ok (.d (.int ds.length)) M
    | _ => .bad := by
  show (match seqOf (.d (.hdl n)) M with | some ds => vI ds.length M | none => .bad) = _
  rw [seqOf_hdl]; cases M[n]? with
  | none => rfl
  | some o => cases o <;> rfl
@[simp] theorem oAdd_tup (xs ys : List D) : oAdd (.d (.tup xs)) (.d (.tup ys)) M = if xs.length + ys.length ≤ lim then .ok (.d (.tup (xs ++ ys))) M else .bad := nrfl rfl
@[simp] theorem asInts_map (l : List Int) : asInts (l.map D.int) = some l := by
  induction l with
  | nil => rfl
  | cons a l ih => simp [asInts, ih]
theorem bSortedSet_of {x : RV} {l : List Int} (h : seqOf x M = some (l.map D.int)) (hl : l.length < 4000) : bSortedSet x M = .ok (.o (.lst ((sortI (dedI l)).map D.int))) M := by
  unfold bSortedSet
  simp only [h, asInts_map, hl, if_true]
@[simp] theorem bSortedSet_tup (ds : List D) : bSortedSet (.d (.tup ds)) M = match asInts ds with
    | some ns => if ns.length < 4000 then .ok (.o (.lst ((sortI (dedI ns)).map D.int))) M else .bad
    | none => .bad := nrfl rfl
@[simp] theorem bSortedSet_o (ds : List D) : bSortedSet (.o (.lst ds)) M = match asInts ds with
    | some ns => if ns.length < 4000 then .ok (.o (.lst ((sortI (dedI ns)).map D.int))) M else .bad
    | none => .bad := nrfl rfl
@[simp] theorem asInts_app (l l' : List Int) : asInts (l.map D.int ++ l'.map D.int) = some (l ++ l') := by
  rw [← List.map_append]; exact asInts_map _
@[simp] theorem pairUp_nil (acc : List (D × D)) : pairUp [] acc = some acc := nrfl rfl
@[simp] theorem pairUp_cons (k v : D) (r : List D) (acc : List (D × D)) : pairUp (k :: v :: r) acc = if isKey k = true then pairUp r (dput acc k v) else none := nrfl rfl
/-- a dict whose keys are whole numbers -/
def IK (kvs : List (D × D)) : Prop := ∃ ks : List Int, kvs.map (·.1) = ks.map D.int
theorem IK.nil : IK [] := ⟨[], rfl⟩
theorem IK.put {kvs : List (D × D)} (h : IK kvs) (e : Int) (v : D) : IK (dput kvs (.int e) v) := by
  obtain ⟨ks, h⟩ := h
  unfold dput
  split
  · refine ⟨ks, ?_⟩
    rw [← h, List.map_map]
    refine List.map_congr_left fun kv _ => ?_
    simp only [Function.comp]
    split <;> rfl
  · exact ⟨ks ++ [e], by simp [h]⟩
@[simp] theorem bSorted_hdl (n : Nat) : bSorted (.d (.hdl n)) M = match M[n]? with
    | some (.dic kvs) => match asInts (kvs.map (·.1)) with
      | some ns => .ok (.o (.lst ((sortI ns).map D.int))) M
      | none => .bad
    | some (.lst ds) => match asInts ds with
      | some ns => .ok (.o (.lst ((sortI ns).map D.int))) M
      | none => .bad
    | _ => .bad := by
  unfold bSorted
  simp only [dicOf_hdl, lstOf_hdl]
  cases M[n]? with
  | none => rfl
  | some o => cases o <;> rfl
@[simp] theorem chkOk_cons (n : Nat) (ds : List D) (c : Chk) : chkOk ((n, ds) :: c) M = (decide (M[n]? = some (.lst ds)) && chkOk c M) := nrfl rfl
@[simp] theorem chkOk_nil : chkOk [] M = true := nrfl rfl
/-- what stood ahead stands -/
theorem get_ahead {l : Mem} {n : Nat} {o : O} (h : M[n]? = some o) : (M ++ l)[n]? = some o := by
  rw [List.getElem?_append_left (List.getElem?_eq_some_iff.mp h).1]; exact h
theorem oIx_any {x : RV} {ds : List D} {i : Int} (h : seqOf x M = some ds) (h0 : 0 ≤ i) (h1 : i < ds.length) : ∃ d, d ∈ ds ∧ oIx x (.d (.int i)) M = .ok (.d d) M := by
  have hl : i.toNat < ds.length := by omega
  exact ⟨ds[i.toNat], List.getElem_mem hl, oIx_seq h (ixN_pos h0 h1) (List.getElem?_eq_getElem hl)⟩
@[simp] theorem bMin2_int : bMin2 (.d (.int i)) (.d (.int j)) M = .ok (.d (.int (min i j))) M := by
  show vI (if j < i then j else i) M = _
  have : (if j < i then j else i) = min i j := by split <;> omega
  rw [this]; rfl
@[simp] theorem bMax2_int : bMax2 (.d (.int i)) (.d (.int j)) M = .ok (.d (.int (max i j))) M := by
  show vI (if j > i then j else i) M = _
  have : (if j > i then j else i) = max i j := by split <;> omega
  rw [this]; rfl
@[simp] theorem bIsi_bl (t : Ty) : bIsi t (.d (.bl b)) M = .ok (.d (.bl (decide (t = .bool) || decide (t = .int)))) M := nrfl rfl
@[simp] theorem bIsi_int (t : Ty) : bIsi t (.d (.int i)) M = .ok (.d (.bl (decide (t = .int)))) M := nrfl rfl
@[simp] theorem bIsi_non (t : Ty) : bIsi t (.d .non) M = .ok (.d (.bl false)) M := nrfl rfl
@[simp] theorem bIsi_str (t : Ty) (s : Str) : bIsi t (.d (.str s)) M = .ok (.d (.bl (decide (t = .str)))) M := nrfl rfl
@[simp] theorem bIsi_tup (t : Ty) (ds : List D) : bIsi t (.d (.tup ds)) M = .ok (.d (.bl (decide (t = .tuple)))) M := nrfl rfl
@[simp] theorem bIsi_ro (t : Ty) (ds : List D) : bIsi t (.d (.ro ds)) M = .ok (.d (.bl (decide (t = .list)))) M := nrfl rfl
@[simp] theorem bIsi_o (t : Ty) (ds : List D) : bIsi t (.o (.lst ds)) M = .ok (.d (.bl (decide (t = .list)))) M := nrfl rfl
@[simp] theorem lim_1 : 1 ≤ lim := by decide
@[simp] theorem lim_2 : 2 ≤ lim := by decide
@[simp] theorem lim_3 : 3 ≤ lim := by decide
@[simp] theorem lim_4 : 4 ≤ lim := by decide
@[simp] theorem lim_5 : 5 ≤ lim := by decide
@[simp] theorem lim_6 : 6 ≤ lim := by decide
@[simp] theorem lim_7 : 7 ≤ lim := by decide
@[simp] theorem lim_8 : 8 ≤ lim := by decide
@[simp] theorem lim_9 : 9 ≤ lim := by decide
@[simp] theorem lim_10 : 10 ≤ lim := by decide
@[simp] theorem lim_11 : 11 ≤ lim := by decide
@[simp] theorem lim_12 : 12 ≤ lim := by decide
@[simp] theorem lim_13 : 13 ≤ lim := by decide
@[simp] theorem lim_14 : 14 ≤ lim := by decide
@[simp] theorem lim_15 : 15 ≤ lim := by decide
@[simp] theorem lim_16 : 16 ≤ lim := by decide
@[simp] theorem lim_17 : 17 ≤ lim := by decide
@[simp] theorem lim_18 : 18 ≤ lim := by decide
@[simp] theorem lim_19 : 19 ≤ lim := by decide
@[simp] theorem lim_20 : 20 ≤ lim := by decide
@[simp] theorem oAdd_ho (n : Nat) (ys : List D) : oAdd (.d (.hdl n)) (.o (.lst ys)) M = match M[n]? with
    | some (.lst xs) => if xs.length + ys.length ≤ lim then .ok (.o (.lst (xs ++ ys))) M else .bad
    | _ => .bad := by
  show (match lstT (.d (.hdl n)) M, lstT (.o (.lst ys)) M with | some xs, some ys => if xs.length + ys.length ≤ lim then Res.ok (RV.o (.lst (xs ++ ys))) M else Res.bad | _, _ => Res.bad) = _
  rw [lstT_hdl, lstT_o]; cases M[n]? with
  | none => rfl
  | some o => cases o <;> rfl
@[simp] theorem oAdd_oo (xs ys : List D) : oAdd (.o (.lst xs)) (.o (.lst ys)) M = if xs.length + ys.length ≤ lim then .ok (.o (.lst (xs ++ ys))) M else .bad := nrfl rfl
@[simp] theorem oAdd_oh (n : Nat) (xs : List D) : oAdd (.o (.lst xs)) (.d (.hdl n)) M = match M[n]? with
    | some (.lst ys) => if xs.length + ys.length ≤ lim then .ok (.o (.lst (xs ++ ys))) M else .bad
    | _ => .bad := by
  show (match lstT (.o (.lst xs)) M, lstT (.d (.hdl n)) M with | some xs, some ys => if xs.length + ys.length ≤ lim then Res.ok (RV.o (.lst (xs ++ ys))) M else Res.bad | _, _ => Res.bad) = _
  rw [lstT_hdl, lstT_o]; cases M[n]? with
  | none => rfl
  | some o => cases o <;> rfl
@[simp] theorem oAdd_hh (n m : Nat) : oAdd (.d (.hdl n)) (.d (.hdl m)) M = match M[n]?, M[m]? with
    | some (.lst xs), some (.lst ys) => if xs.length + ys.length ≤ lim then .ok (.o (.lst (xs ++ ys))) M else .bad
    | _, _ => .bad := by
  show (match lstT (.d (.hdl n)) M, lstT (.d (.hdl m)) M with | some xs, some ys => if xs.length + ys.length ≤ lim then Res.ok (RV.o (.lst (xs ++ ys))) M else Res.bad | _, _ => Res.bad) = _
  rw [lstT_hdl, lstT_hdl]
  rcases M[n]? with _ | (_ | _ | _) <;> rcases M[m]? with _ | (_ | _ | _) <;> rfl
end
end MI

namespace MI
section
variable {M : Mem} {b c : Bool}
@[simp] theorem oIs_bl : oIs (.d (.bl b)) (.d (.bl c)) M = .ok (.d (.bl (decide (b = c)))) M := nrfl rfl
@[simp] theorem oIsNot_bl : oIsNot (.d (.bl b)) (.d (.bl c)) M = .ok (.d (.bl (!decide (b = c)))) M := nrfl rfl
end
end MI
end
section
set_option linter.all false
set_option autoImplicit false
/-! MK1: reaches, plainly -/
namespace HW
open MI (sortI insI dedI)
abbrev Reach := Bool × List Int
def lf (k : Int) (t : Bool) (e : Int) : Bool := if e ≤ k then !t else t
def liesIn (r : Reach) (k : Int) : Bool := r.2.foldl (lf k) r.1
def Rising (l : List Int) : Prop := l.Pairwise (· < ·)
theorem liesIn_nil (f : Bool) (k : Int) : liesIn (f, []) k = f := rfl
theorem liesIn_cons (f : Bool) (e : Int) (l : List Int) (k : Int) : liesIn (f, e :: l) k = if e ≤ k then liesIn (!f, l) k else liesIn (f, l) k := by
  simp only [liesIn, List.foldl_cons, lf]
  split <;> rfl
theorem liesIn_gt {k : Int} : ∀ {l : List Int} {f : Bool}, (∀ e ∈ l, k < e) → liesIn (f, l) k = f
  | [], f, _ => rfl
  | e :: l, f, h => by
    rw [liesIn_cons, if_neg (by have := h e List.mem_cons_self; omega)]
    exact liesIn_gt fun x hx => h x (List.mem_cons_of_mem _ hx)
theorem liesIn_not (f : Bool) (l : List Int) (k : Int) : liesIn (!f, l) k = !liesIn (f, l) k := by
  induction l generalizing f with
  | nil => rfl
  | cons e l ih => rw [liesIn_cons, liesIn_cons]; split <;> rw [ih]
/-- by counting -/
theorem liesIn_count (f : Bool) (l : List Int) (k : Int) : liesIn (f, l) k = (f != decide ((l.filter (fun e => decide (e ≤ k))).length % 2 = 1)) := by
  induction l generalizing f with
  | nil => simp [liesIn]
  | cons e l ih =>
    rw [liesIn_cons, List.filter_cons]
    by_cases h : e ≤ k
    · simp only [h, if_true, decide_true, List.length_cons]
      rw [ih]
      rcases Nat.mod_two_eq_zero_or_one (l.filter (fun e => decide (e ≤ k))).length with h2 | h2
      · have : ((l.filter (fun e => decide (e ≤ k))).length + 1) % 2 = 1 := by omega
        simp [h2, this]
      · have : ((l.filter (fun e => decide (e ≤ k))).length + 1) % 2 = 0 := by omega
        simp [h2, this]
    · simp only [h, if_false, decide_false, Bool.false_eq_true]
      rw [ih]
theorem Rising.cons {e : Int} {l : List Int} : Rising (e :: l) ↔ (∀ x ∈ l, e < x) ∧ Rising l := List.pairwise_cons
theorem rising_one {xs ys : List Int} (h : Rising xs) (h2 : Rising ys) (m : ∀ k, k ∈ xs ↔ k ∈ ys) : xs = ys := by
  have nd : ∀ {l : List Int}, Rising l → l.Nodup := fun h => List.Pairwise.imp (fun h => Int.ne_of_lt h) h
  have p : xs.Perm ys := (List.perm_ext_iff_of_nodup (nd h) (nd h2)).mpr m
  exact List.Perm.eq_of_pairwise (le := fun a b : Int => a ≤ b) (fun a b _ _ h1 h2 => Int.le_antisymm h1 h2) (List.Pairwise.imp (fun h => Int.le_of_lt h) h) (List.Pairwise.imp (fun h => Int.le_of_lt h) h2) p
/-- one reach for each set -/
theorem edges_ext : ∀ (A B : List Int) (f : Bool), Rising A → Rising B → (∀ k, liesIn (f, A) k = liesIn (f, B) k) → A = B
  | [], [], _, _, _, _ => rfl
  | [], b :: B, f, _, hB, h => by
    have h1 := h b
    rw [liesIn_nil, liesIn_cons, if_pos (Int.le_refl _), liesIn_gt (Rising.cons.mp hB).1] at h1
    cases f <;> cases h1
  | a :: A, [], f, hA, _, h => by
    have h1 := h a
    rw [liesIn_nil, liesIn_cons, if_pos (Int.le_refl _), liesIn_gt (Rising.cons.mp hA).1] at h1
    cases f <;> cases h1
  | a :: A, b :: B, f, hA, hB, h => by
    obtain ⟨hA1, hA2⟩ := Rising.cons.mp hA
    obtain ⟨hB1, hB2⟩ := Rising.cons.mp hB
    have hab : a = b := by
      rcases Int.lt_trichotomy a b with q | q | q
      · have h1 := h a
        rw [liesIn_cons, if_pos (Int.le_refl _), liesIn_gt hA1, liesIn_gt (k := a) (l := b :: B)] at h1
        · cases f <;> cases h1
        · intro e he
          rcases List.mem_cons.mp he with r | r
          · omega
          · have := hB1 e r; omega
      · exact q
      · have h1 := h b
        rw [liesIn_gt (k := b) (l := a :: A), liesIn_cons, if_pos (Int.le_refl _), liesIn_gt hB1] at h1
        · cases f <;> cases h1
        · intro e he
          rcases List.mem_cons.mp he with r | r
          · omega
          · have := hA1 e r; omega
    subst hab
    rw [edges_ext A B (!f) hA2 hB2 fun k => ?_]
    by_cases hk : a ≤ k
    · have h1 := h k
      rwa [liesIn_cons, liesIn_cons, if_pos hk, if_pos hk] at h1
    · rw [liesIn_gt (fun e he => by have := hA1 e he; omega), liesIn_gt (fun e he => by have := hB1 e he; omega)]
theorem low_point (l : List Int) : ∃ k : Int, ∀ e ∈ l, k < e := by
  induction l with
  | nil => exact ⟨0, fun e h => nomatch h⟩
  | cons a l ih =>
    obtain ⟨k, h⟩ := ih
    refine ⟨min k (a - 1), fun e he => ?_⟩
    rcases List.mem_cons.mp he with r | r
    · omega
    · have := h e r; omega
theorem reach_ext {a b : Reach} (ha : Rising a.2) (hb : Rising b.2) (h : ∀ k, liesIn a k = liesIn b k) : a = b := by
  obtain ⟨f, A⟩ := a
  obtain ⟨g, B⟩ := b
  have hf : f = g := by
    obtain ⟨k1, h1⟩ := low_point (A ++ B)
    have := h k1
    rwa [liesIn_gt (fun e he => h1 e (List.mem_append_left _ he)), liesIn_gt (fun e he => h1 e (List.mem_append_right _ he))] at this
  subst hf
  rw [edges_ext A B f ha hb h]
/-! ### sorted(set(..)) -/
theorem insI_mem (i k : Int) : ∀ l : List Int, k ∈ insI i l ↔ k = i ∨ k ∈ l
  | [] => by simp [insI]
  | j :: r => by
    unfold insI
    split
    · simp
    · simp only [List.mem_cons, insI_mem i k r]
      constructor <;> (intro h; rcases h with h | h | h <;> simp [h])
theorem sortI_mem (k : Int) : ∀ l : List Int, k ∈ sortI l ↔ k ∈ l
  | [] => .rfl
  | i :: r => by unfold sortI; rw [insI_mem, sortI_mem k r, List.mem_cons]
theorem dedI_mem (k : Int) : ∀ l : List Int, k ∈ dedI l ↔ k ∈ l
  | [] => .rfl
  | i :: r => by
    unfold dedI
    split
    · rename_i c
      rw [dedI_mem k r, List.mem_cons]
      refine ⟨.inr, fun h => h.elim (fun e => ?_) id⟩
      rw [e]; simpa using c
    · rw [List.mem_cons, List.mem_cons, dedI_mem k r]
theorem insI_le (i : Int) : ∀ l : List Int, l.Pairwise (· ≤ ·) → (insI i l).Pairwise (· ≤ ·)
  | [], _ => List.pairwise_singleton _ _
  | j :: r, h => by
    unfold insI
    obtain ⟨h1, h2⟩ := List.pairwise_cons.mp h
    split
    · rename_i c
      refine List.pairwise_cons.mpr ⟨fun x hx => ?_, h⟩
      rcases List.mem_cons.mp hx with e | hx
      · rw [e]; exact c
      · exact Int.le_trans c (h1 x hx)
    · rename_i c
      refine List.pairwise_cons.mpr ⟨fun x hx => ?_, insI_le i r h2⟩
      rcases (insI_mem i x r).mp hx with e | hx
      · rw [e]; omega
      · exact h1 x hx
theorem sortI_le : ∀ l : List Int, (sortI l).Pairwise (· ≤ ·)
  | [] => .nil
  | i :: r => insI_le i _ (sortI_le r)
theorem insI_rising (i : Int) : ∀ l : List Int, i ∉ l → Rising l → Rising (insI i l)
  | [], _, _ => List.pairwise_singleton _ _
  | j :: r, hn, h => by
    unfold insI
    obtain ⟨h1, h2⟩ := Rising.cons.mp h
    split
    · rename_i c
      have : i ≠ j := fun e => hn (e ▸ List.mem_cons_self)
      refine Rising.cons.mpr ⟨fun x hx => ?_, h⟩
      rcases List.mem_cons.mp hx with e | hx
      · omega
      · have := h1 x hx; omega
    · rename_i c
      refine Rising.cons.mpr ⟨fun x hx => ?_, insI_rising i r (fun z => hn (List.mem_cons_of_mem _ z)) h2⟩
      rcases (insI_mem i x r).mp hx with e | hx
      · omega
      · exact h1 x hx
theorem dedI_nodup : ∀ l : List Int, (dedI l).Nodup
  | [] => .nil
  | i :: r => by
    unfold dedI
    split
    · exact dedI_nodup r
    · rename_i c
      refine List.nodup_cons.mpr ⟨fun h => c ?_, dedI_nodup r⟩
      simpa using (dedI_mem i r).mp h
theorem sortI_rising : ∀ l : List Int, l.Nodup → Rising (sortI l)
  | [], _ => .nil
  | i :: r, h => by
    obtain ⟨h1, h2⟩ := List.nodup_cons.mp h
    exact insI_rising i _ (fun z => h1 ((sortI_mem i r).mp z)) (sortI_rising r h2)
def ss (l : List Int) : List Int := sortI (dedI l)
theorem ss_rising (l : List Int) : Rising (ss l) := sortI_rising _ (dedI_nodup l)
theorem ss_mem (l : List Int) (k : Int) : k ∈ ss l ↔ k ∈ l := by unfold ss; rw [sortI_mem, dedI_mem]
theorem ss_of_rising {l : List Int} (h : Rising l) : ss l = l := rising_one (ss_rising l) h (ss_mem l)
/-! ### blends -/
inductive W4 where
  | both | either | less | just
  deriving DecidableEq
def W4.tb : W4 → Bool → Bool → Bool
  | .both, a, b => a && b
  | .either, a, b => a || b
  | .less, a, b => a && !b
  | .just, a, b => a != b
def blendGo (w : W4) (A B : List Int) : List Int → Bool → Bool → Bool → List Int
  | [], _, _, _ => []
  | e :: r, h, t, u =>
    if w.tb (if e ∈ A then !h else h) (if e ∈ B then !t else t) != u
    then e :: blendGo w A B r (if e ∈ A then !h else h) (if e ∈ B then !t else t) (!u)
    else blendGo w A B r (if e ∈ A then !h else h) (if e ∈ B then !t else t) u
def blend (w : W4) (a b : Reach) : Reach := (w.tb a.1 b.1, blendGo w a.2 b.2 (ss (a.2 ++ b.2)) a.1 b.1 (w.tb a.1 b.1))
theorem blendGo_sub (w : W4) (A B : List Int) : ∀ (es : List Int) h t u, (blendGo w A B es h t u).Sublist es
  | [], _, _, _ => .slnil
  | e :: r, h, t, u => by
    unfold blendGo
    generalize (if e ∈ A then !h else h) = h'
    generalize (if e ∈ B then !t else t) = t'
    split
    · exact (blendGo_sub w A B r _ _ _).cons_cons e
    · exact (blendGo_sub w A B r _ _ _).cons e
theorem blend_rising (w : W4) (a b : Reach) : Rising (blend w a b).2 := List.Pairwise.sublist (blendGo_sub _ _ _ _ _ _ _) (ss_rising _)
theorem blendGo_lies (w : W4) (A B : List Int) (k : Int) : ∀ (es : List Int), Rising es → ∀ h t, liesIn (w.tb h t, blendGo w A B es h t (w.tb h t)) k = w.tb (liesIn (h, es.filter (fun e => decide (e ∈ A))) k) (liesIn (t, es.filter (fun e => decide (e ∈ B))) k)
  | [], _, h, t => rfl
  | e :: r, hr, h, t => by
    obtain ⟨h1, h2⟩ := Rising.cons.mp hr
    by_cases hk : e ≤ k
    · have ih := blendGo_lies w A B k r h2 (if e ∈ A then !h else h) (if e ∈ B then !t else t)
      have lhs : liesIn (w.tb h t, blendGo w A B (e :: r) h t (w.tb h t)) k = liesIn (w.tb (if e ∈ A then !h else h) (if e ∈ B then !t else t), blendGo w A B r (if e ∈ A then !h else h) (if e ∈ B then !t else t) (w.tb (if e ∈ A then !h else h) (if e ∈ B then !t else t))) k := by
        rw [blendGo]
        generalize (if e ∈ A then !h else h) = h'
        generalize (if e ∈ B then !t else t) = t'
        by_cases c : w.tb h' t' = w.tb h t
        · simp [c]
        · have c' : w.tb h' t' = !w.tb h t := by revert c; cases w.tb h' t' <;> cases w.tb h t <;> simp
          simp only [c', bne_self_eq_false]
          have : ((!w.tb h t) != w.tb h t) = true := by cases w.tb h t <;> rfl
          rw [if_pos this, liesIn_cons, if_pos hk]
      rw [lhs, ih]
      congr 1
      · rw [List.filter_cons]
        by_cases c : e ∈ A
        · simp only [c, if_true, decide_true]; rw [liesIn_cons, if_pos hk]
        · simp only [c, if_false, decide_false, Bool.false_eq_true]
      · rw [List.filter_cons]
        by_cases c : e ∈ B
        · simp only [c, if_true, decide_true]; rw [liesIn_cons, if_pos hk]
        · simp only [c, if_false, decide_false, Bool.false_eq_true]
    · have gt : ∀ x ∈ e :: r, k < x := fun x hx => by
        rcases List.mem_cons.mp hx with q | q
        · omega
        · have := h1 x q; omega
      rw [liesIn_gt fun x hx => gt x ((blendGo_sub _ _ _ _ _ _ _).subset hx), liesIn_gt fun x hx => gt x (List.mem_filter.mp hx).1, liesIn_gt fun x hx => gt x (List.mem_filter.mp hx).1]
theorem filter_ss {A L : List Int} (h : Rising A) (hL : Rising L) (sub : ∀ x ∈ A, x ∈ L) : L.filter (fun e => decide (e ∈ A)) = A :=
  rising_one (List.Pairwise.filter _ hL) h fun k => by simp only [List.mem_filter, decide_eq_true_eq]; exact ⟨fun z => z.2, fun z => ⟨sub k z, z⟩⟩
theorem blend_lies (w : W4) {a b : Reach} (ha : Rising a.2) (hb : Rising b.2) (k : Int) : liesIn (blend w a b) k = w.tb (liesIn a k) (liesIn b k) := by
  unfold blend
  rw [blendGo_lies w a.2 b.2 k _ (ss_rising _), filter_ss ha (ss_rising _) fun x hx => (ss_mem _ _).mpr (List.mem_append_left _ hx), filter_ss hb (ss_rising _) fun x hx => (ss_mem _ _).mpr (List.mem_append_right _ hx)]
theorem ss_len (l : List Int) : (ss l).length ≤ l.length := by
  unfold ss
  have e1 : ∀ i (l : List Int), (insI i l).length = l.length + 1 := fun i l => by
    induction l with
    | nil => rfl
    | cons j r ih => unfold insI; split <;> simp [ih]
  have e2 : ∀ l : List Int, (sortI l).length = l.length := fun l => by
    induction l with
    | nil => rfl
    | cons j r ih => unfold sortI; rw [e1, ih]; rfl
  have e3 : ∀ l : List Int, (dedI l).length ≤ l.length := fun l => by
    induction l with
    | nil => exact Nat.le_refl _
    | cons j r ih => unfold dedI; split <;> simp <;> omega
  rw [e2]; exact e3 _
theorem blend_length (w : W4) (a b : Reach) (ha : Rising a.2) (hb : Rising b.2) : (blend w a b).2.length ≤ a.2.length + b.2.length := by
  have h1 := (blendGo_sub w a.2 b.2 (ss (a.2 ++ b.2)) a.1 b.1 (w.tb a.1 b.1)).length_le
  have h2 := ss_len (a.2 ++ b.2)
  rw [List.length_append] at h2
  exact Nat.le_trans h1 h2
/-! ### moved -/
def movedBy (a : Reach) (by_ : Int) : Reach := (a.1, a.2.map (· + by_))
theorem moved_rising {a : Reach} (h : Rising a.2) (d : Int) : Rising (movedBy a d).2 := by
  unfold movedBy Rising
  exact List.pairwise_map.mpr (List.Pairwise.imp (fun h => by omega) h)
theorem moved_lies (a : Reach) (d k : Int) : liesIn (movedBy a d) k = liesIn a (k - d) := by
  obtain ⟨f, l⟩ := a
  unfold movedBy
  induction l generalizing f with
  | nil => rfl
  | cons e l ih =>
    simp only [List.map_cons] at ih ⊢
    rw [liesIn_cons, liesIn_cons, ih, ih]
    by_cases c : e + d ≤ k
    · rw [if_pos c, if_pos (by omega)]
    · rw [if_neg c, if_neg (by omega)]
theorem Rising.snoc {l : List Int} {e : Int} (h : Rising l) (h2 : ∀ x ∈ l, x < e) : Rising (l ++ [e]) := by
  unfold Rising
  rw [List.pairwise_append]
  exact ⟨h, List.pairwise_singleton _ _, fun a ha b hb => by rw [List.mem_singleton.mp hb]; exact h2 a ha⟩
end HW
end
section
set_option linter.all false
set_option autoImplicit false
/-! MJ3: words and reaches: what the program's defs compute -/
namespace HW
open MI PySem
def encR (r : Reach) : D := .tup [.bl r.1, .tup (r.2.map D.int)]
def W4.s : W4 → Str
  | .both => "both"
  | .either => "either"
  | .less => "less"
  | .just => "just"
@[simp] theorem bels_ints (n : Nat) (l : List Int) : D.bels n (l.map D.int) = true := by
  induction l with
  | nil => rfl
  | cons a l ih => simp [D.bels, D.bel, ih]
@[simp] theorem oIx_encR0 (r : Reach) (M : Mem) : oIx (.d (encR r)) (.d (.int 0)) M = .ok (.d (.bl r.1)) M := oIx_t0 _ _
@[simp] theorem oIx_encR1 (r : Reach) (M : Mem) : oIx (.d (encR r)) (.d (.int 1)) M = .ok (.d (.tup (r.2.map D.int))) M := oIx_t1 _ _ _
@[simp] theorem bel_encR (n : Nat) (r : Reach) : D.bel n (encR r) = true := by simp [encR, D.bel, D.bels]
@[simp] theorem fin_tup (M l : Mem) (ds : List D) : fin .pure M (.d (.tup ds)) (M ++ l) = if D.bels M.length ds = true then .ok (.d (.tup ds)) M else .bad := by
  unfold fin; simp only [List.take_left, List.take_length, if_true]; rfl
@[simp] theorem fin_tup0 (M : Mem) (ds : List D) : fin .pure M (.d (.tup ds)) M = if D.bels M.length ds = true then .ok (.d (.tup ds)) M else .bad := by
  unfold fin; simp only [List.take_left, List.take_length, if_true]; rfl
@[simp] theorem fin_int (M l : Mem) (b : Int) : fin .pure M (.d (.int b)) (M ++ l) = .ok (.d (.int b)) M := by simp [fin, D.bel]
@[simp] theorem fin_int0 (M : Mem) (b : Int) : fin .pure M (.d (.int b)) M = .ok (.d (.int b)) M := by simp [fin, D.bel]
@[simp] theorem fin_bl (M l : Mem) (b : Bool) : fin .pure M (.d (.bl b)) (M ++ l) = .ok (.d (.bl b)) M := by simp [fin, D.bel]
@[simp] theorem fin_bl0 (M : Mem) (b : Bool) : fin .pure M (.d (.bl b)) M = .ok (.d (.bl b)) M := by simp [fin, D.bel]
@[simp] theorem fin_bl_nil (M : Mem) (b : Bool) : fin .pure [] (.d (.bl b)) M = .ok (.d (.bl b)) [] := by simp [fin, D.bel]
@[simp] theorem fin_non (M l : Mem) : fin .pure M (.d .non) (M ++ l) = .ok (.d .non) M := by simp [fin, D.bel]
@[simp] theorem fin_non0 (M : Mem) : fin .pure M (.d .non) M = .ok (.d .non) M := by simp [fin, D.bel]
@[simp] theorem bels_nil (n : Nat) : D.bels n [] = true := nrfl rfl
@[simp] theorem bels_cons (n : Nat) (d : D) (r : List D) : D.bels n (d :: r) = (D.bel n d && D.bels n r) := nrfl rfl
@[simp] theorem bel_int (n : Nat) (i : Int) : D.bel n (.int i) = true := nrfl rfl
@[simp] theorem bel_bl (n : Nat) (i : Bool) : D.bel n (.bl i) = true := nrfl rfl
@[simp] theorem bel_non (n : Nat) : D.bel n .non = true := nrfl rfl
@[simp] theorem bel_str (n : Nat) (s : Str) : D.bel n (.str s) = true := nrfl rfl
@[simp] theorem bel_tup (n : Nat) (ds : List D) : D.bel n (.tup ds) = D.bels n ds := nrfl rfl
@[simp] theorem obel_lst (n : Nat) (ds : List D) : O.bel n (.lst ds) = D.bels n ds := nrfl rfl
@[simp] theorem fin_R (M l : Mem) (r : Reach) : fin .pure M (.d (encR r)) (M ++ l) = .ok (.d (encR r)) M := by
  show fin .pure M (.d (.tup _)) (M ++ l) = _
  rw [fin_tup]; simp [encR]
@[simp] theorem fin_R0 (M : Mem) (r : Reach) : fin .pure M (.d (encR r)) M = .ok (.d (encR r)) M := by
  have := fin_R M [] r
  rwa [List.append_nil] at this
section
variable {T : Tab}
theorem lies_in_run [i : HasF T "lies_in" F_lies_in] (n : Nat) (r : Reach) (k : Int) (M : Mem) : run T (n + 1) "lies_in" [encR r, .int k] M = .ok (.d (.bl (liesIn r k))) M := by
  rw [run_has i, ← Res.wp_eq]
  refine wp_run rfl ?_
  simp [F_lies_in, b_lies_in, encR]
  refine forL_wp D.int (fun l env M' => ∃ t j, env = [some (encR r), some (.int k), some (.bl t), j] ∧ M' = M ∧ l.foldl (lf k) t = liesIn r k) ?_ ?_ _ _ _ ⟨_, _, rfl, rfl, rfl⟩
  · rintro _ _ ⟨t, j, rfl, rfl, h⟩
    have h' : t = liesIn r k := h
    simp [h']
  · rintro a l _ _ ⟨t, j, rfl, rfl, h⟩
    have h' : l.foldl (lf k) (lf k t a) = liesIn r k := h
    simp
    split
    · rename_i c; exact ⟨_, _, rfl, rfl, by rw [← h']; simp [lf, c]⟩
    · rename_i c; exact ⟨_, _, rfl, rfl, by rw [← h']; simp [lf, c]⟩
theorem truth_by_run [i : HasF T "truth_by" F_truth_by] (n : Nat) (w : W4) (a b : Bool) (M : Mem) : run T (n + 1) "truth_by" [.str w.s, .bl a, .bl b] M = .ok (.d (.bl (w.tb a b))) M := by
  rw [run_has i, ← Res.wp_eq]
  refine wp_run rfl ?_
  cases w <;> cases a <;> simp [F_truth_by, b_truth_by, W4.s, W4.tb]
/-- a dict of True by some numbers -/
def marks (l : List Int) : List (D × D) := l.foldl (fun kvs e => dput kvs (.int e) (.bl true)) []
end
end HW
namespace HW
open MI PySem
section
variable {T : Tab}
@[simp] theorem obel_dic (n : Nat) (kvs : List (D × D)) : O.bel n (.dic kvs) = kvs.all fun kv => kv.1.bel n && kv.2.bel n := nrfl rfl
theorem dput_bel {n : Nat} {kvs : List (D × D)} {k v : D} (h : (kvs.all fun kv => kv.1.bel n && kv.2.bel n) = true) (hk : k.bel n = true) (hv : v.bel n = true) : ((dput kvs k v).all fun kv => kv.1.bel n && kv.2.bel n) = true := by
  unfold dput
  split
  · rw [List.all_map, List.all_eq_true]
    intro kv hkv
    have := List.all_eq_true.mp h kv hkv
    simp only [Function.comp]
    split
    · simp only [Bool.and_eq_true] at this ⊢; exact ⟨this.1, hv⟩
    · exact this
  · rw [List.all_append, h]; simp [hk, hv]
theorem marks_bel (n : Nat) (l : List Int) : ∀ kvs : List (D × D), (kvs.all fun kv => kv.1.bel n && kv.2.bel n) = true → ((l.foldl (fun kvs e => dput kvs (.int e) (.bl true)) kvs).all fun kv => kv.1.bel n && kv.2.bel n) = true := by
  induction l with
  | nil => exact fun kvs h => h
  | cons a l ih =>
    intro kvs h
    exact ih _ (dput_bel h rfl rfl)
theorem marks_get (l : List Int) (k : Int) : ∀ kvs : List (D × D), (dget (l.foldl (fun kvs e => dput kvs (.int e) (.bl true)) kvs) (.int k)).isSome = (decide (k ∈ l) || (dget kvs (.int k)).isSome) := by
  induction l with
  | nil => intro kvs; simp
  | cons a l ih =>
    intro kvs
    rw [List.foldl_cons, ih, dget_dput]
    by_cases h : k ∈ l
    · simp [h]
    · by_cases h2 : a = k
      · subst h2; simp
      · have h3 : ¬ (D.int a = D.int k) := fun e => h2 (by injection e)
        have h4 : ¬ k = a := fun e => h2 e.symm
        simp [h3, h, h4]
theorem edges_marked_run [i : HasF T "edges_marked" F_edges_marked] (n : Nat) (r : Reach) (M : Mem) (hl : r.2.length < lim) : run T (n + 1) "edges_marked" [encR r] M = .ok (.o (.dic (marks r.2))) M := by
  rw [run_has i, ← Res.wp_eq]
  refine wp_run rfl ?_
  simp [F_edges_marked, b_edges_marked, encR]
  refine forL_wp D.int (fun l env M' => ∃ kvs j, env = [some (encR r), some (.hdl M.length), j] ∧ M' = M ++ [.dic kvs] ∧ kvs.length + l.length ≤ r.2.length ∧ l.foldl (fun kvs e => dput kvs (.int e) (.bl true)) kvs = marks r.2) ?_ ?_ _ _ _ ⟨_, _, rfl, rfl, by simp, rfl⟩
  · rintro _ _ ⟨kvs, j, rfl, rfl, h1, h⟩
    have h' : kvs = marks r.2 := h
    subst h'
    have hb : ((marks r.2).all fun kv => kv.1.bel M.length && kv.2.bel M.length) = true := marks_bel M.length r.2 [] rfl
    simp [hb]
  · rintro a l _ _ ⟨kvs, j, rfl, rfl, h1, h⟩
    simp only [List.length_cons] at h1
    have := dput_length kvs (.int a) (.bl true)
    have hk : kvs.length < lim := by omega
    simp [hk]
    exact ⟨_, _, rfl, rfl, by omega, h⟩
end
end HW
end
section
set_option linter.all false
set_option autoImplicit false
namespace HW
open MI PySem
section
variable {T : Tab}
theorem lim_big : 1000000 ≤ lim := by decide
theorem marks_get' (l : List Int) (k : Int) : (dget (marks l) (.int k)).isSome = decide (k ∈ l) := by
  unfold marks; rw [marks_get]; simp [dget]
theorem blend_run [HasF T "edges_marked" F_edges_marked] [HasF T "truth_by" F_truth_by] [i : HasF T "blend" F_blend] (n : Nat) (w : W4) (a b : Reach) (hl : a.2.length + b.2.length < 4000) (M : Mem) :
    run T (n + 2) "blend" [encR a, encR b, .str w.s] M = .ok (.d (encR (blend w a b))) M := by
  have hlim := lim_big
  rw [run_has i, ← Res.wp_eq]
  refine wp_run rfl ?_
  simp [F_blend, b_blend]
  rw [edges_marked_run n a M (by omega)]
  simp
  rw [edges_marked_run n b _ (by omega)]
  simp [encR]
  rw [truth_by_run]
  simp
  refine ⟨by omega, hl, ?_⟩
  refine forL_wp D.int (fun l env M' => ∃ h t u acc j, env = [some (encR a), some (encR b), some (.str w.s), some (.hdl M.length), some (.hdl (M.length + 1)), some (.bl h), some (.bl t), some (.bl (w.tb a.1 b.1)), some (.bl u), some (.hdl (M.length + 2)), j] ∧
    M' = M ++ [.dic (marks a.2), .dic (marks b.2), .lst (acc.map D.int)] ∧ acc.length + l.length ≤ 4000 ∧ acc ++ blendGo w a.2 b.2 l h t u = (blend w a b).2) ?_ ?_ _ _ _ ⟨_, _, _, [], _, rfl, rfl, ?_, ?_⟩
  · rintro _ _ ⟨h, t, u, acc, j, rfl, rfl, h1, h2⟩
    simp only [blendGo, List.append_nil] at h2
    subst h2
    simp [encR]
    try rfl
  · rintro e l _ _ ⟨h, t, u, acc, j, rfl, rfl, h1, h2⟩
    simp only [List.length_cons] at h1
    have hacc : acc.length < lim := by omega
    simp [marks_get']
    by_cases c1 : e ∈ a.2 <;> by_cases c2 : e ∈ b.2
    all_goals
      simp [c1, c2]
      rw [truth_by_run]
      simp
      rw [blendGo] at h2
      simp only [c1, c2, if_true, if_false] at h2
      split
      · rename_i c3
        rw [if_neg (by simpa using c3)] at h2
        exact ⟨_, _, _, acc, _, rfl, rfl, by omega, h2⟩
      · rename_i c3
        rw [if_pos (by simpa using c3)] at h2
        simp [hacc]
        exact ⟨_, _, _, acc ++ [e], _, rfl, by simp, by simp; omega, by rw [← h2]; simp⟩
  · have h1 := ss_len (a.2 ++ b.2)
    rw [List.length_append] at h1
    show 0 + (ss (a.2 ++ b.2)).length ≤ 4000
    omega
  · rfl
end
end HW
end
section
set_option linter.all false
set_option autoImplicit false
/-! MJ5: what the laws' own defs compute: numbers, reaches -/
namespace HW
open MI PySem
abbrev scr (ns : List Int) : D := .ro (ns.map D.int)
section
variable {T : Tab}
def lawDraw (ns : List Int) (k many : Int) : Int :=
  if ns = [] then 0 else
    ((ns.getD (k % ns.length).toNat 0 % 1000000007 + 5) * (40692 + 977 * k) % 2147483629 + k) * ((ns.getD (k % ns.length).toNat 0 % 1000000007 + 5) * (40692 + 977 * k) % 2147483629 + 3) % 2147483647 / 13 % many
theorem lawDraw_nn (ns : List Int) (k : Int) {many : Int} (h : 0 < many) : 0 ≤ lawDraw ns k many := by
  unfold lawDraw
  split
  · exact Int.le_refl _
  · exact Int.emod_nonneg _ (by omega)
theorem lawDraw_lt (ns : List Int) (k : Int) {many : Int} (h : 0 < many) : lawDraw ns k many < many := by
  unfold lawDraw
  split
  · exact h
  · exact Int.emod_lt_of_pos _ h
theorem oIx_ro_mod {M : Mem} {ns : List Int} (h : ns ≠ []) (k : Int) : oIx (.d (.ro (ns.map D.int))) (.d (.int (k % ns.length))) M = .ok (.d (.int (ns.getD (k % ns.length).toNat 0))) M := by
  have hl : 0 < (ns.length : Int) := by cases ns with
    | nil => exact absurd rfl h
    | cons => simp
  have h0 := Int.emod_nonneg k (show (ns.length : Int) ≠ 0 by omega)
  have h1 := Int.emod_lt_of_pos k hl
  refine oIx_seq rfl (ixN_pos h0 (by simpa using h1)) ?_
  rw [List.getElem?_map]
  have h2 : (k % ns.length).toNat < ns.length := by omega
  rw [List.getElem?_eq_getElem h2]
  simp [List.getD_eq_getElem?_getD, List.getElem?_eq_getElem h2]
theorem law_draw_run [i : HasF T "_law_draw" F__law_draw] (n : Nat) (ns : List Int) (k many : Int) (hm : 0 < many) (M : Mem) : run T (n + 1) "_law_draw" [scr ns, .int k, .int many] M = .ok (.d (.int (lawDraw ns k many))) M := by
  rw [run_has i, ← Res.wp_eq]
  refine wp_run rfl ?_
  simp [F__law_draw, b__law_draw]
  split
  · rename_i h
    simp [h, lawDraw]
  · rename_i h
    have hl : 0 < ns.length := List.length_pos_iff.mpr h
    refine ⟨hl, ?_⟩
    rw [oIx_ro_mod h]
    simp
    have h1 := Int.emod_nonneg (ns.getD (k % ns.length).toNat 0) (show (1000000007 : Int) ≠ 0 by omega)
    have h2 := Int.emod_lt_of_pos (ns.getD (k % ns.length).toNat 0) (show (0 : Int) < 1000000007 by omega)
    have h3 := Int.emod_nonneg ((ns.getD (k % ns.length).toNat 0 % 1000000007 + 5) * (40692 + 977 * k)) (show (2147483629 : Int) ≠ 0 by omega)
    have h4 := Int.emod_lt_of_pos ((ns.getD (k % ns.length).toNat 0 % 1000000007 + 5) * (40692 + 977 * k)) (show (0 : Int) < 2147483629 by omega)
    simp only [List.getD_eq_getElem?_getD] at h1 h2 h3 h4
    refine ⟨.inl ⟨by omega, by omega⟩, .inr ⟨by omega, by omega⟩, hm, ?_⟩
    rw [lawDraw, if_neg h]
    simp only [List.getD_eq_getElem?_getD]
theorem law_far_ex [HasF T "_law_draw" F__law_draw] [i : HasF T "_law_far" F__law_far] (ns : List Int) (k : Int) : ∃ v : Int, 0 ≤ v ∧ v < 10 ^ 50 ∧ ∀ n M, run T (n + 2) "_law_far" [scr ns, .int k] M = .ok (.d (.int v)) M := by
  by_cases h : ns = []
  · subst h
    refine ⟨0, by decide, by decide, fun n M => ?_⟩
    rw [run_has i, ← Res.wp_eq]
    refine wp_run rfl ?_
    simp [F__law_far, b__law_far]
  · refine ⟨(ns.getD (k % ns.length).toNat 0 % 10 ^ 50 * (lawDraw ns k 100000000 + 1) + (lawDraw ns k 100000000 + 1) ^ 5) % 10 ^ 50, Int.emod_nonneg _ (by decide), Int.emod_lt_of_pos _ (by decide), fun n M => ?_⟩
    rw [run_has i, ← Res.wp_eq]
    refine wp_run rfl ?_
    have hl : 0 < ns.length := List.length_pos_iff.mpr h
    have h1 := lawDraw_nn ns k (show (0 : Int) < 100000000 by decide)
    have h2 := lawDraw_lt ns k (show (0 : Int) < 100000000 by decide)
    simp [F__law_far, b__law_far, h]
    rw [law_draw_run _ _ _ _ (by decide)]
    simp [hl]
    rw [oIx_ro_mod h]
    simp
    refine ⟨.inr ⟨by omega, by omega⟩, by omega⟩
/-- edges within sight -/
def Bd (l : List Int) : Prop := ∀ e ∈ l, -10 ^ 52 < e ∧ e < 10 ^ 52
theorem Bd.snoc {l : List Int} {e : Int} (h : Bd l) (h2 : -10 ^ 52 < e ∧ e < 10 ^ 52) : Bd (l ++ [e]) := fun x hx => by
  rcases List.mem_append.mp hx with q | q
  · exact h x q
  · rw [List.mem_singleton.mp q]; exact h2
theorem Bd.nil : Bd [] := fun _ h => nomatch h
theorem law_reach_ex [HasF T "_law_draw" F__law_draw] [HasF T "_law_far" F__law_far] [i : HasF T "_law_reach" F__law_reach_k02] (ns : List Int) (k : Int) (n : Nat) (M : Mem) :
    ∃ r : Reach, Rising r.2 ∧ r.2.length ≤ 13 ∧ Bd r.2 ∧ run T (n + 3) "_law_reach" [scr ns, .int k] M = .ok (.d (encR r)) M := by
  have : (run T (n + 3) "_law_reach" [scr ns, .int k] M).wp fun x M' => Kp (M' = M ∧ ∃ r : Reach, Rising r.2 ∧ r.2.length ≤ 13 ∧ Bd r.2 ∧ x = .d (encR r)) := by
    rw [run_has i]
    refine wp_run rfl ?_
    simp [F__law_reach_k02, b__law_reach_k02]
    rw [law_draw_run _ _ _ _ (by decide)]
    simp
    rw [law_draw_run _ _ _ _ (by decide)]
    simp
    have hr0 := lawDraw_nn ns (k + 1) (show (0 : Int) < 100000000 by decide)
    have hr1 := lawDraw_lt ns (k + 1) (show (0 : Int) < 100000000 by decide)
    have hw0 := lawDraw_nn ns k (show (0 : Int) < 5 by decide)
    have hw1 := lawDraw_lt ns k (show (0 : Int) < 5 by decide)
    generalize lawDraw ns (k + 1) 100000000 = rest at *
    generalize lawDraw ns k 5 = way at *
    split
    · rename_i hw
      refine forL_range (fun j env M' => ∃ (acc : List Int) (rest : Int) (jj : Option D), env = [some (scr ns), some (.int k), some (.int way), some (.int rest), some (.hdl M.length), some (.int (2 + 2 * (way / 2))), jj, none] ∧ M' = M ++ [.lst (acc.map D.int)] ∧
        Rising acc ∧ (∀ e ∈ acc, e < (j : Int) - 4) ∧ acc.length ≤ j ∧ Bd acc) ?_ ?_ _ _ ⟨[], _, _, rfl, rfl, .nil, by simp, by simp, Bd.nil⟩
      · rintro _ _ ⟨acc, rest, jj, rfl, rfl, h1, h2, h3, h4⟩
        have hw3 : ¬ way = 3 := by omega
        simp [hw3]
        rw [law_draw_run _ _ _ _ (by decide)]
        simp
        exact ⟨rfl, (_, acc), h1, h3, h4, rfl⟩
      · rintro j _ _ hj ⟨acc, rest, jj, rfl, rfl, h1, h2, h3, h4⟩
        have hacc : acc.length < lim := by have := lim_big; omega
        simp [hacc]
        refine ⟨by omega, ?_⟩
        split
        · refine ⟨by omega, acc ++ [(j : Int) - 4], _, _, rfl, by simp, h1.snoc h2, ?_, by simp; omega, h4.snoc ⟨by omega, by omega⟩⟩
          intro e he
          rcases List.mem_append.mp he with q | q
          · have := h2 e q; omega
          · rw [List.mem_singleton.mp q]; omega
        · exact ⟨by omega, acc, _, _, rfl, rfl, h1, fun e he => by have := h2 e he; omega, by omega, h4⟩
    · split
      · rename_i hw hw3
        obtain ⟨v, hv0, hv1, hv⟩ := law_far_ex (T := T) ns (k + 2)
        rw [hv]
        simp
        have hm0 := Int.emod_nonneg rest (show (7 : Int) ≠ 0 by decide)
        have hm1 := Int.emod_lt_of_pos rest (show (0 : Int) < 7 by decide)
        refine ⟨⟨by omega, by omega⟩, ?_⟩
        refine forL_range (fun j env M' => ∃ (acc : List Int) (e : Int) (jj : Option D), env = [some (scr ns), some (.int k), some (.int way), some (.int rest), some (.hdl M.length), none, jj, some (.int e)] ∧ M' = M ++ [.lst (acc.map D.int)] ∧
          Rising acc ∧ (∀ x ∈ acc, x < e) ∧ acc.length ≤ j ∧ Bd acc ∧ -(5 * 10 ^ 49) ≤ e ∧ e ≤ 10 ^ 50 + (j : Int) * (10 ^ 48 + 1)) ?_ ?_ _ _ ⟨[], _, _, rfl, rfl, .nil, by simp, by simp, Bd.nil, by omega, by omega⟩
        · rintro _ _ ⟨acc, e, jj, rfl, rfl, h1, h2, h3, h4, h5, h6⟩
          simp
          rw [law_draw_run _ _ _ _ (by decide)]
          simp
          exact ⟨rfl, (_, acc), h1, by show acc.length ≤ 13; omega, h4, rfl⟩
        · rintro j _ _ hj ⟨acc, e, jj, rfl, rfl, h1, h2, h3, h4, h5, h6⟩
          have hacc : acc.length < lim := by have := lim_big; omega
          simp [hacc]
          obtain ⟨v2, hv20, hv21, hv2⟩ := law_far_ex (T := T) ns (k + 3 + (j : Int))
          rw [hv2]
          simp
          obtain ⟨d, hd, he⟩ := oIx_any (M := M ++ [.lst (acc.map D.int ++ [D.int e])]) (x := .o (.lst [.int 3, .int (10 ^ 48)])) (i := rest / 7 % 2) rfl (Int.emod_nonneg _ (by decide)) (by have := Int.emod_lt_of_pos (rest / 7) (show (0 : Int) < 2 by decide); simpa using this)
          simp at he
          rw [he]
          have hm : ∃ m : Int, 0 < m ∧ m ≤ 10 ^ 48 ∧ d = .int m := by
            simp only [List.mem_cons, List.not_mem_nil, or_false] at hd
            rcases hd with rfl | rfl
            · exact ⟨3, by decide, by decide, rfl⟩
            · exact ⟨10 ^ 48, by decide, by decide, rfl⟩
          obtain ⟨m, hm0, hm3, rfl⟩ := hm
          simp [hm0]
          have := Int.emod_nonneg v2 (show m ≠ 0 by omega)
          have hm4 := Int.emod_lt_of_pos v2 hm0
          refine ⟨acc ++ [e], _, _, rfl, by simp, h1.snoc h2, ?_, by simp; omega, h4.snoc ⟨by omega, by omega⟩, by omega, by omega⟩
          intro x hx
          rcases List.mem_append.mp hx with q | q
          · have := h2 x q; omega
          · rw [List.mem_singleton.mp q]; omega
      · rw [law_draw_run _ _ _ _ (by decide)]
        simp
        exact ⟨rfl, (_, []), .nil, by simp, Bd.nil, rfl⟩
  obtain ⟨x, M', e, rfl, r, h1, h2, h3, rfl⟩ := Res.wp_ex this
  exact ⟨r, h1, h2, h3, e⟩
end
end HW
end
section
set_option linter.all false
set_option autoImplicit false
/-! MJ6: the laws' own defs: where a number lies, points -/
namespace HW
open MI PySem
section
variable {T : Tab}
theorem law_in_run [i : HasF T "_law_in" F__law_in] (n : Nat) (r : Reach) (k : Int) (M : Mem) (hl : r.2.length ≤ lim) : run T (n + 1) "_law_in" [encR r, .int k] M = .ok (.d (.bl (liesIn r k))) M := by
  rw [run_has i, ← Res.wp_eq]
  refine wp_run rfl ?_
  simp [F__law_in, b__law_in, encR]
  rw [compL_map D.int rfl (fun e => decide (e ≤ k)) D.int (fun a => by simp [← Res.wp_eq]) r.2 [] (by simpa using hl)]
  simp
  rw [show r = (r.1, r.2) from rfl, liesIn_count]
  have e : ((r.2.filter fun e => decide (e ≤ k)).length : Int) % 2 = 1 ↔ (r.2.filter fun e => decide (e ≤ k)).length % 2 = 1 := by omega
  by_cases c : (r.2.filter fun e => decide (e ≤ k)).length % 2 = 1
  · simp [c, e.mpr c]
  · have c' : ¬ ((r.2.filter fun e => decide (e ≤ k)).length : Int) % 2 = 1 := fun z => c (e.mp z)
    rw [decide_eq_false c', decide_eq_false c]
theorem oIx_lit {M : Mem} {x : RV} {P : D → Prop} {ds : List D} {i : Int} (h : seqOf x M = some ds) (h0 : 0 ≤ i) (h1 : i < ds.length) (hP : ∀ d ∈ ds, P d) : ∃ d, P d ∧ oIx x (.d (.int i)) M = .ok (.d d) M := by
  obtain ⟨d, hd, e⟩ := oIx_any h h0 h1
  exact ⟨d, hP d hd, e⟩
theorem oIx_litO {P : D → Prop} {ds : List D} {i : Int} (h0 : 0 ≤ i) (h1 : i < ds.length) (hP : ∀ d ∈ ds, P d) : ∃ d, P d ∧ ∀ M, oIx (.o (.lst ds)) (.d (.int i)) M = .ok (.d d) M := by
  have hl : i.toNat < ds.length := by omega
  exact ⟨ds[i.toNat], hP _ (List.getElem_mem hl), fun M => oIx_seq rfl (ixN_pos h0 h1) (List.getElem?_eq_getElem hl)⟩
theorem dput3 (a b c x y z : D) : (dput (dput (dput [] a x) b y) c z).length ≤ 3 := by
  have a1 := dput_length (dput (dput [] a x) b y) c z
  have a2 := dput_length (dput [] a x) b y
  have a3 := dput_length [] a x
  simp only [List.length_nil] at a3
  omega
/-- some points -/
theorem law_points_ex [i : HasF T "_law_points" F__law_points] (n : Nat) (rs : List Reach) (h : Nat) (M : Mem) (hM : M[h]? = some (.lst (rs.map encR))) (h1 : rs.length ≤ 10) (h2 : ∀ r ∈ rs, r.2.length ≤ 300) :
    ∃ ps : List Int, run T (n + 1) "_law_points" [.hdl h] M = .ok (.o (.lst (ps.map D.int))) M := by
  have : (run T (n + 1) "_law_points" [.hdl h] M).wp fun x M' => Kp (M' = M ∧ ∃ ps : List Int, x = .o (.lst (ps.map D.int))) := by
    have hlim := lim_big
    rw [run_has i]
    refine wp_run rfl ?_
    simp [F__law_points, b__law_points]
    have hM2 : ∀ l : Mem, (M ++ l)[h]? = some (.lst (rs.map encR)) := fun l => get_ahead hM
    simp [hM2]
    refine forL_wp encR (fun l env M' => ∃ (kvs : List (D × D)) (j1 j2 j3 : Option D), env = [some (.hdl h), some (.hdl M.length), j1, j2, j3] ∧ M' = M ++ [.dic kvs] ∧ IK kvs ∧ kvs.length + 900 * l.length ≤ 10000 ∧ ∀ r ∈ l, r.2.length ≤ 300) ?_ ?_ _ _ _ ⟨_, _, _, _, rfl, rfl, ((IK.nil.put 0 (.bl true)).put _ (.bl true)).put _ (.bl true), ?_, h2⟩
    · rintro _ _ ⟨kvs, j1, j2, j3, rfl, rfl, ⟨ks, hk⟩, hl, _⟩
      simp [hM2, hk]
      exact ⟨rfl, sortI ks, rfl⟩
    · rintro r l _ _ ⟨kvs, j1, j2, j3, rfl, rfl, hk, hl, hr⟩
      simp only [List.length_cons] at hl
      have hr1 := hr r List.mem_cons_self
      have hr2 : ∀ x ∈ l, x.2.length ≤ 300 := fun x hx => hr x (List.mem_cons_of_mem _ hx)
      simp [hM2, encR]
      refine forL_wp D.int (fun l2 env M' => ∃ (kvs : List (D × D)) (j2 j3 : Option D), env = [some (.hdl h), some (.hdl M.length), some (encR r), j2, j3] ∧ M' = M ++ [.dic kvs] ∧ IK kvs ∧ kvs.length + 3 * l2.length + 900 * l.length ≤ 10000) ?_ ?_ _ _ _ ⟨_, _, _, rfl, rfl, hk, by omega⟩
      · rintro _ _ ⟨kvs, j2, j3, rfl, rfl, hk, hl⟩
        simp
        exact ⟨kvs, _, _, _, rfl, rfl, hk, by simpa using hl, hr2⟩
      · rintro e l2 _ _ ⟨kvs, j2, j3, rfl, rfl, hk, hl⟩
        simp only [List.length_cons] at hl
        simp
        refine forL_wp D.int (fun l3 env M' => ∃ (kvs : List (D × D)) (j3 : Option D), env = [some (.hdl h), some (.hdl M.length), some (encR r), some (.int e), j3] ∧ M' = M ++ [.dic kvs] ∧ IK kvs ∧ kvs.length + l3.length + 3 * l2.length + 900 * l.length ≤ 10000) ?_ ?_ [-1, 0, 1] _ _ ⟨_, _, rfl, rfl, hk, by simp only [List.length_cons, List.length_nil]; omega⟩
        · rintro _ _ ⟨kvs, j3, rfl, rfl, hk, hl⟩
          simp
          exact ⟨kvs, _, _, rfl, rfl, hk, by simpa using hl⟩
        · rintro b l3 _ _ ⟨kvs, j3, rfl, rfl, hk, hl⟩
          simp only [List.length_cons] at hl
          have := dput_length kvs (.int (e + b)) (.bl true)
          have hkl : kvs.length < lim := by omega
          simp [hkl]
          exact ⟨_, _, rfl, rfl, hk.put _ _, by omega⟩
    · exact Nat.le_trans (Nat.add_le_add_right (dput3 _ _ _ _ _ _) _) (by omega)
  obtain ⟨x, M', e, rfl, ps, rfl⟩ := Res.wp_ex this
  exact ⟨ps, e⟩
end
end HW
end
section
set_option linter.all false
set_option autoImplicit false
/-! MJ8: == of plain data -/
namespace MI
open PySem (Str PyData)
mutual
/-- plain data, not deeper than n -/
def pl : Nat → D → Bool
  | _, .non => true
  | _, .bl _ => true
  | _, .int _ => true
  | _, .str s => okS s
  | 0, .tup _ => false
  | n + 1, .tup ds => pls n ds
  | _, .hdl _ => false
  | _, .ro _ => false
def pls : Nat → List D → Bool
  | _, [] => true
  | n, d :: ds => pl n d && pls n ds
end
mutual
def py : D → PyData
  | .non => .none
  | .bl b => .bool b
  | .int i => .int i
  | .str s => .str s
  | .tup ds => .tuple (pys ds)
  | .hdl _ => .none
  | .ro ds => .list (pys ds)
def pys : List D → List PyData
  | [] => []
  | d :: ds => py d :: pys ds
end
mutual
theorem der_pl (M : Mem) : ∀ (n : Nat) (d : D), pl n d = true → der n M d = some (py d)
  | n, .non, _ => by cases n <;> simp [der, py]
  | n, .bl _, _ => by cases n <;> simp [der, py]
  | n, .int _, _ => by cases n <;> simp [der, py]
  | n, .str s, h => by
    have h' : okS s = true := by cases n <;> simpa only [pl] using h
    unfold okS at h'
    cases n <;> simp only [der, if_pos h', py]
  | 0, .tup _, h => by simp [pl] at h
  | n + 1, .tup ds, h => by
    have h' : pls n ds = true := by simpa only [pl] using h
    simp only [der, ders_pl M n ds h', py, Option.map_some]
  | n, .hdl _, h => by cases n <;> simp [pl] at h
  | n, .ro _, h => by cases n <;> simp [pl] at h
theorem ders_pl (M : Mem) : ∀ (n : Nat) (ds : List D), pls n ds = true → ds.mapM (fun d => der n M d) = some (pys ds)
  | _, [], _ => rfl
  | n, d :: ds, h => by
    have h' : pl n d = true ∧ pls n ds = true := by simpa only [pls, Bool.and_eq_true] using h
    rw [List.mapM_cons, der_pl M n d h'.1, ders_pl M n ds h'.2]
    rfl
end
/-- == -/
def deq (a b : D) : Bool := peq (py a) (py b)
def deqs (a b : List D) : Bool := peqs (pys a) (pys b)
section
variable {M : Mem}
theorem oEq_d {a b : D} (ha : pl 16 a = true) (hb : pl 16 b = true) : oEq (.d a) (.d b) M = .ok (.d (.bl (deq a b))) M := oEq_of (der_pl M 16 a ha) (der_pl M 16 b hb)
theorem oNe_d {a b : D} (ha : pl 16 a = true) (hb : pl 16 b = true) : oNe (.d a) (.d b) M = .ok (.d (.bl (!deq a b))) M := oNe_of (der_pl M 16 a ha) (der_pl M 16 b hb)
theorem derR_l {x : RV} {ds : List D} (h : lstT x M = some ds) (hp : pls 15 ds = true) : derR x M = some (.list (pys ds)) := by
  cases x with
  | o o =>
    cases o with
    | lst es =>
      simp only [lstT, Option.some.injEq] at h
      subst h
      simp only [derR, ders_pl M 15 es hp, Option.map_some]
    | _ => simp [lstT] at h
  | d d =>
    cases d with
    | hdl n =>
      simp only [lstT] at h
      split at h
      · rename_i es e
        cases h
        simp only [derR, der, e, ders_pl M 15 _ hp, Option.map_some]
      · cases h
    | _ => simp [lstT] at h
theorem oEq_l {x y : RV} {as bs : List D} (h1 : lstT x M = some as) (h2 : lstT y M = some bs) (ha : pls 15 as = true) (hb : pls 15 bs = true) : oEq x y M = .ok (.d (.bl (deqs as bs))) M := oEq_of (derR_l h1 ha) (derR_l h2 hb)
theorem oNe_l {x y : RV} {as bs : List D} (h1 : lstT x M = some as) (h2 : lstT y M = some bs) (ha : pls 15 as = true) (hb : pls 15 bs = true) : oNe x y M = .ok (.d (.bl (!deqs as bs))) M := oNe_of (derR_l h1 ha) (derR_l h2 hb)
end
@[simp] theorem deq_tup (a b : List D) : deq (.tup a) (.tup b) = deqs a b := nrfl rfl
@[simp] theorem deq_int (a b : Int) : deq (.int a) (.int b) = decide (a = b) := nrfl rfl
@[simp] theorem deq_bl (a b : Bool) : deq (.bl a) (.bl b) = (a == b) := nrfl rfl
@[simp] theorem deq_str (a b : Str) : deq (.str a) (.str b) = decide (a = b) := nrfl rfl
@[simp] theorem deq_non : deq .non .non = true := nrfl rfl
@[simp] theorem deq_non_tup (a : List D) : deq .non (.tup a) = false := nrfl rfl
@[simp] theorem deq_tup_non (a : List D) : deq (.tup a) .non = false := nrfl rfl
@[simp] theorem deq_int_non (a : Int) : deq (.int a) .non = false := nrfl rfl
@[simp] theorem deq_non_int (a : Int) : deq .non (.int a) = false := nrfl rfl
@[simp] theorem deqs_nil : deqs [] [] = true := nrfl rfl
@[simp] theorem deqs_cons (a b : D) (as bs : List D) : deqs (a :: as) (b :: bs) = (deq a b && deqs as bs) := nrfl rfl
@[simp] theorem deqs_nc (b : D) (bs : List D) : deqs [] (b :: bs) = false := nrfl rfl
@[simp] theorem deqs_cn (b : D) (bs : List D) : deqs (b :: bs) [] = false := nrfl rfl
/-- lists of data of one kind -/
theorem deqs_map {A : Type} [DecidableEq A] {enc : A → D} (h : ∀ a b, deq (enc a) (enc b) = decide (a = b)) : ∀ as bs : List A, deqs (as.map enc) (bs.map enc) = decide (as = bs)
  | [], [] => by simp
  | [], _ :: _ => by simp
  | _ :: _, [] => by simp
  | a :: as, b :: bs => by
    simp only [List.map_cons, deqs_cons, h, deqs_map h as bs, List.cons.injEq]
    by_cases h1 : a = b <;> by_cases h2 : as = bs <;> simp [h1, h2]
theorem pls_map {A : Type} {enc : A → D} {n : Nat} : ∀ {as : List A}, (∀ a ∈ as, pl n (enc a) = true) → pls n (as.map enc) = true
  | [], _ => rfl
  | a :: as, h => by
    simp only [List.map_cons, pls, h a List.mem_cons_self, Bool.true_and]
    exact pls_map fun x hx => h x (List.mem_cons_of_mem _ hx)
@[simp] theorem deqs_ints (as bs : List Int) : deqs (as.map D.int) (bs.map D.int) = decide (as = bs) := deqs_map deq_int as bs
@[simp] theorem pl_non (n : Nat) : pl n .non = true := by cases n <;> simp [pl]
@[simp] theorem pl_bl (n : Nat) (b : Bool) : pl n (.bl b) = true := by cases n <;> simp [pl]
@[simp] theorem pl_int (n : Nat) (b : Int) : pl n (.int b) = true := by cases n <;> simp [pl]
@[simp] theorem pl_str (n : Nat) (b : Str) : pl n (.str b) = okS b := by cases n <;> simp [pl]
@[simp] theorem pl_tup (n : Nat) (ds : List D) : pl (n + 1) (.tup ds) = pls n ds := by simp [pl]
@[simp] theorem pls_nil (n : Nat) : pls n [] = true := by simp [pls]
@[simp] theorem pls_cons (n : Nat) (d : D) (ds : List D) : pls n (d :: ds) = (pl n d && pls n ds) := by simp [pls]
@[simp] theorem pls_ints (n : Nat) (l : List Int) : pls n (l.map D.int) = true := pls_map fun _ _ => pl_int _ _
end MI
namespace HW
open MI PySem
@[simp] theorem deq_R (a b : Reach) : deq (encR a) (encR b) = decide (a = b) := by
  obtain ⟨f, A⟩ := a
  obtain ⟨g, B⟩ := b
  simp only [encR, deq_tup, deqs_cons, deq_bl, deqs_ints, deqs_nil, Bool.and_true, Prod.mk.injEq]
  by_cases h1 : f = g <;> by_cases h2 : A = B <;> simp [h1, h2]
theorem pl_R (n : Nat) (r : Reach) : pl (n + 2) (encR r) = true := by simp [encR]
@[simp] theorem oEq_R (a b : Reach) (M : Mem) : oEq (.d (encR a)) (.d (encR b)) M = .ok (.d (.bl (decide (a = b)))) M := by rw [oEq_d (pl_R 14 a) (pl_R 14 b), deq_R]
@[simp] theorem oNe_R (a b : Reach) (M : Mem) : oNe (.d (encR a)) (.d (encR b)) M = .ok (.d (.bl (!decide (a = b)))) M := by rw [oNe_d (pl_R 14 a) (pl_R 14 b), deq_R]
@[simp] theorem oEq_ints (a b : List Int) (M : Mem) : oEq (.o (.lst (a.map D.int))) (.o (.lst (b.map D.int))) M = .ok (.d (.bl (decide (a = b)))) M := by
  rw [oEq_l rfl rfl (pls_ints _ _) (pls_ints _ _), deqs_ints]
@[simp] theorem bIsi_R (t : Ty) (r : Reach) (M : Mem) : bIsi t (.d (encR r)) M = .ok (.d (.bl (decide (t = .tuple)))) M := bIsi_tup t _
@[simp] theorem bLen_R (r : Reach) (M : Mem) : bLen (.d (encR r)) M = .ok (.d (.int 2)) M := bLen_tup _
section
variable {T : Tab}
theorem law_whole_run [i : HasF T "_law_whole" F__law_whole_k03] (n : Nat) (k : Int) (M : Mem) : run T (n + 1) "_law_whole" [.int k] M = .ok (.d (.bl true)) M := by
  rw [run_has i, ← Res.wp_eq]
  refine wp_run rfl ?_
  simp [F__law_whole_k03, b__law_whole_k03]
theorem law_is_run [HasF T "_law_whole" F__law_whole_k03] [i : HasF T "_law_is" F__law_is] (n : Nat) (r : Reach) (h : Rising r.2) (hl : r.2.length < 4000) (M : Mem) : run T (n + 2) "_law_is" [encR r] M = .ok (.d (.bl true)) M := by
  rw [run_has i, ← Res.wp_eq]
  refine wp_run rfl ?_
  simp [F__law_is, b__law_is]
  refine forL_wp D.int (fun l env M' => ∃ j, env = [some (encR r), j] ∧ M' = M) ?_ ?_ _ _ _ ⟨_, rfl, rfl⟩
  · rintro _ _ ⟨j, rfl, rfl⟩
    have hs : sortI (dedI r.2) = r.2 := ss_of_rising h
    simp [hl, hs]
  · rintro a l _ _ ⟨j, rfl, rfl⟩
    simp
    rw [law_whole_run]
    simp
    exact ⟨_, rfl, rfl⟩
theorem law_due_run [i : HasF T "_law_due" F__law_due] (n : Nat) (w : W4) (a b : Bool) (M : Mem) : run T (n + 1) "_law_due" [.str w.s, .bl a, .bl b] M = .ok (.d (.bl (w.tb a b))) M := by
  rw [run_has i, ← Res.wp_eq]
  refine wp_run rfl ?_
  cases w <;> cases a <;> simp [F__law_due, b__law_due, W4.s, W4.tb]
end
end HW
end
section
set_option linter.all false
set_option autoImplicit false
/-! MJ10: stretches; law k03 -/
namespace HW
open MI PySem
def encO : Option Int → D
  | none => .non
  | some i => .int i
def stretchOf : Option Int → Option Int → Reach
  | none, none => (true, [])
  | none, some h => (true, [h])
  | some l, none => (false, [l])
  | some l, some h => if h ≤ l then (false, []) else (false, [l, h])
theorem stretch_rising (a b : Option Int) : Rising (stretchOf a b).2 := by
  unfold stretchOf Rising
  cases a <;> cases b <;> simp
  split
  · simp
  · simp; omega
theorem stretch_len (a b : Option Int) : (stretchOf a b).2.length ≤ 2 := by
  unfold stretchOf
  cases a <;> cases b <;> simp
  split <;> simp
section
variable {T : Tab}
theorem stretch_of_run [i : HasF T "stretch_of" F_stretch_of] (n : Nat) (a b : Option Int) (M : Mem) : run T (n + 1) "stretch_of" [encO a, encO b] M = .ok (.d (encR (stretchOf a b))) M := by
  rw [run_has i, ← Res.wp_eq]
  refine wp_run rfl ?_
  cases a <;> cases b <;> simp [F_stretch_of, b_stretch_of, encO, stretchOf, encR]
  split <;> simp
theorem law_due_k03_run [i : HasF T "_law_due" F__law_due_k03] (n : Nat) (a b : Option Int) (M : Mem) : run T (n + 1) "_law_due" [encO a, encO b] M = .ok (.d (encR (stretchOf a b))) M := by
  have hl : (2 : Nat) ≤ lim := by decide
  rw [run_has i, ← Res.wp_eq]
  refine wp_run rfl ?_
  simp [F__law_due_k03, b__law_due_k03, hl]
  rw [show ([encO a, encO b] : List D) = [a, b].map encO from rfl, compL_map encO rfl Option.isSome encO (fun x => by cases x <;> simp [← Res.wp_eq, encO]) [a, b] [] (by simpa using hl)]
  cases a <;> cases b <;> simp [encO, stretchOf, encR]
  split <;> simp
theorem law_k03_run [HasF T "stretch_of" F_stretch_of] [HasF T "_law_draw" F__law_draw] [HasF T "_law_far" F__law_far] [HasF T "_law_whole" F__law_whole_k03] [HasF T "_law_is" F__law_is] [HasF T "_law_due" F__law_due_k03] [i : HasF T "law" F_law_k03] (ns : List Int) (hns : ns.length ≤ 63) (n : Nat) :
    ∃ M, run T (n + 4) "law" [scr ns] [] = .ok (.d (.bl true)) M := by
  have : (run T (n + 4) "law" [scr ns] []).wp fun x M' => Kp (x = .d (.bl true)) := by
    rw [run_has i]
    refine wp_run rfl ?_
    simp [F_law_k03, b_law_k03]
    refine ⟨by omega, ?_⟩
    refine forL_range (fun j env M' => ∃ (j1 j2 j3 j4 j5 : Option D), env = [some (scr ns), j1, j2, j3, j4, j5]) ?_ ?_ _ _ ⟨_, _, _, _, _, rfl⟩
    · rintro _ M ⟨j1, j2, j3, j4, j5, rfl⟩
      have e1 := stretch_of_run (T := T) (n + 2) none none M
      have e2 := stretch_of_run (T := T) (n + 2) (some 5) (some 5) M
      simp only [encO] at e1 e2
      have d1 : ∀ M, oEq (.d (encR (stretchOf none none))) (.d (.tup [.bl true, .tup []])) M = .ok (.d (.bl true)) M := fun M => by
        have := oEq_R (stretchOf none none) (true, []) M
        simpa [encR, stretchOf] using this
      have d2 : ∀ M, oEq (.d (encR (stretchOf (some 5) (some 5)))) (.d (.tup [.bl false, .tup []])) M = .ok (.d (.bl true)) M := fun M => by
        have := oEq_R (stretchOf (some 5) (some 5)) (false, []) M
        simpa [encR, stretchOf] using this
      simp [e1, d1, e2, d2]
      rfl
    · rintro j _ M hj ⟨j1, j2, j3, j4, j5, rfl⟩
      have s1 : ∀ (a b : Int) M, run T (n + 3) "stretch_of" [.int a, .int b] M = .ok (.d (encR (stretchOf (some a) (some b)))) M := fun a b M => stretch_of_run (T := T) (n + 2) (some a) (some b) M
      have s2 : ∀ (a : Int) M, run T (n + 3) "stretch_of" [.int a, .non] M = .ok (.d (encR (stretchOf (some a) none))) M := fun a M => stretch_of_run (T := T) (n + 2) (some a) none M
      have s3 : ∀ (b : Int) M, run T (n + 3) "stretch_of" [.non, .int b] M = .ok (.d (encR (stretchOf none (some b)))) M := fun b M => stretch_of_run (T := T) (n + 2) none (some b) M
      have s4 : ∀ M, run T (n + 3) "stretch_of" [.non, .non] M = .ok (.d (encR (stretchOf none none))) M := fun M => stretch_of_run (T := T) (n + 2) none none M
      have t1 : ∀ (a b : Int) M, run T (n + 3) "_law_due" [.int a, .int b] M = .ok (.d (encR (stretchOf (some a) (some b)))) M := fun a b M => law_due_k03_run (T := T) (n + 2) (some a) (some b) M
      have t2 : ∀ (a : Int) M, run T (n + 3) "_law_due" [.int a, .non] M = .ok (.d (encR (stretchOf (some a) none))) M := fun a M => law_due_k03_run (T := T) (n + 2) (some a) none M
      have t3 : ∀ (b : Int) M, run T (n + 3) "_law_due" [.non, .int b] M = .ok (.d (encR (stretchOf none (some b)))) M := fun b M => law_due_k03_run (T := T) (n + 2) none (some b) M
      have t4 : ∀ M, run T (n + 3) "_law_due" [.non, .non] M = .ok (.d (encR (stretchOf none none))) M := fun M => law_due_k03_run (T := T) (n + 2) none none M
      have li : ∀ (a b : Option Int) M, run T (n + 3) "_law_is" [encR (stretchOf a b)] M = .ok (.d (.bl true)) M := fun a b M => law_is_run (n + 1) _ (stretch_rising a b) (by have := stretch_len a b; omega) M
      have dr : ∀ (k many : Int) M, 0 < many → run T (n + 3) "_law_draw" [scr ns, .int k, .int many] M = .ok (.d (.int (lawDraw ns k many))) M := fun k many M hm => law_draw_run (n + 2) ns k many hm M
      obtain ⟨v1, _, _, f1⟩ := law_far_ex (T := T) ns (j : Int)
      obtain ⟨v2, _, _, f2⟩ := law_far_ex (T := T) ns ((j : Int) + 63)
      have f1' := fun M => f1 (n + 1) M
      have f2' := fun M => f2 (n + 1) M
      simp [dr, f1', f2', s1, s2, s3, s4, t1, t2, t3, t4, li]
      repeat' split
      all_goals exact ⟨_, _, _, _, _, rfl⟩
  obtain ⟨x, M', e, rfl⟩ := Res.wp_ex this
  exact ⟨M', e⟩
end
end HW
end
section
set_option linter.all false
set_option autoImplicit false
/-! MK2: where two reaches part -/
namespace HW
open MI (sortI insI dedI)
/-- the edges that only one has -/
def symd (A B : List Int) : List Int := sortI (A.filter (fun e => !decide (e ∈ B)) ++ B.filter (fun e => !decide (e ∈ A)))
theorem Rising.nodup {l : List Int} (h : Rising l) : l.Nodup := List.Pairwise.imp (fun h => Int.ne_of_lt h) h
theorem symd_rising {A B : List Int} (ha : Rising A) (hb : Rising B) : Rising (symd A B) := by
  refine sortI_rising _ (List.nodup_append.mpr ⟨ha.nodup.sublist List.filter_sublist, hb.nodup.sublist List.filter_sublist, fun x hx y hy e => ?_⟩)
  subst e
  simp only [List.mem_filter, Bool.not_eq_true', decide_eq_false_iff_not] at hx hy
  exact hx.2 hy.1
theorem filter_len_add {A : Type} (p : A → Bool) (l : List A) : (l.filter p).length + (l.filter fun x => !p x).length = l.length := by
  induction l with
  | nil => rfl
  | cons x l ih =>
    rw [List.filter_cons, List.filter_cons]
    by_cases h : p x = true
    · simp only [h, if_true, Bool.not_true, Bool.false_eq_true, if_false, List.length_cons]; omega
    · have h' : p x = false := by simpa using h
      simp only [h', Bool.not_false, if_true, Bool.false_eq_true, if_false, List.length_cons]; omega
theorem filter_sort (p : Int → Bool) (l : List Int) : ((sortI l).filter p).length = (l.filter p).length := by
  have hi : ∀ i (l : List Int), ((insI i l).filter p).length = ((i :: l).filter p).length := fun i l => by
    induction l with
    | nil => rfl
    | cons j r ih =>
      unfold insI
      split
      · rfl
      · rw [List.filter_cons, List.filter_cons, List.filter_cons]
        rw [List.filter_cons] at ih
        split <;> split at ih <;> simp_all
  induction l with
  | nil => rfl
  | cons i r ih => unfold sortI; rw [hi, List.filter_cons, List.filter_cons]; split <;> simp [ih]
theorem just_eq {a b : Reach} (ha : Rising a.2) (hb : Rising b.2) : blend .just a b = ((a.1 != b.1), symd a.2 b.2) := by
  refine reach_ext (blend_rising _ _ _) (symd_rising ha hb) fun k => ?_
  rw [blend_lies _ ha hb]
  obtain ⟨f, A⟩ := a
  obtain ⟨g, B⟩ := b
  simp only at ha hb ⊢
  show (liesIn (f, A) k != liesIn (g, B) k) = _
  rw [liesIn_count, liesIn_count, liesIn_count]
  have e1 : ((symd A B).filter fun e => decide (e ≤ k)).length = ((A.filter fun e => !decide (e ∈ B)).filter fun e => decide (e ≤ k)).length + ((B.filter fun e => !decide (e ∈ A)).filter fun e => decide (e ≤ k)).length := by
    unfold symd
    rw [filter_sort, List.filter_append, List.length_append]
  have sw : ∀ (L : List Int) (p q : Int → Bool), (L.filter p).filter q = (L.filter q).filter p := fun L p q => by
    rw [List.filter_filter, List.filter_filter]
    congr 1; funext x; exact Bool.and_comm _ _
  have e2 := filter_len_add (fun e => decide (e ∈ B)) (A.filter fun e => decide (e ≤ k))
  have e3 := filter_len_add (fun e => decide (e ∈ A)) (B.filter fun e => decide (e ≤ k))
  rw [sw A, sw B] at e1
  have e4 : ((A.filter fun e => decide (e ≤ k)).filter fun e => decide (e ∈ B)) = ((B.filter fun e => decide (e ≤ k)).filter fun e => decide (e ∈ A)) := by
    refine rising_one (List.Pairwise.filter _ (List.Pairwise.filter _ ha)) (List.Pairwise.filter _ (List.Pairwise.filter _ hb)) fun x => ?_
    simp only [List.mem_filter, decide_eq_true_eq]
    constructor
    · rintro ⟨⟨h1, h2⟩, h3⟩; exact ⟨⟨h3, h2⟩, h1⟩
    · rintro ⟨⟨h1, h2⟩, h3⟩; exact ⟨⟨h3, h2⟩, h1⟩
  rw [e4] at e2
  generalize ((symd A B).filter fun e => decide (e ≤ k)).length = s at *
  generalize (A.filter fun e => decide (e ≤ k)).length = x at *
  generalize (B.filter fun e => decide (e ≤ k)).length = y at *
  generalize (((B.filter fun e => decide (e ≤ k)).filter fun e => decide (e ∈ A)).length) = z at *
  generalize ((A.filter fun e => decide (e ≤ k)).filter fun e => !decide (e ∈ B)).length = u at *
  generalize ((B.filter fun e => decide (e ≤ k)).filter fun e => !decide (e ∈ A)).length = v at *
  rcases Nat.mod_two_eq_zero_or_one x with h1 | h1 <;> rcases Nat.mod_two_eq_zero_or_one y with h2 | h2
  · have : s % 2 = 0 := by omega
    simp [h1, h2, this]
  · have : s % 2 = 1 := by omega
    simp [h1, h2, this]
  · have : s % 2 = 1 := by omega
    simp [h1, h2, this]
  · have : s % 2 = 0 := by omega
    simp [h1, h2, this]
theorem symd_nil {A B : List Int} (ha : Rising A) (hb : Rising B) (h : symd A B = []) : A = B := by
  have key : ∀ x, x ∈ symd A B ↔ (x ∈ A ∧ x ∉ B) ∨ (x ∈ B ∧ x ∉ A) := fun x => by
    unfold symd
    rw [sortI_mem]; simp [List.mem_append, List.mem_filter]
  refine rising_one ha hb fun k => ?_
  have := key k
  rw [h] at this
  simp only [List.not_mem_nil, false_iff, not_or, not_and, Classical.not_not] at this
  exact ⟨this.1, this.2⟩
def partingF (a b : Reach) : Option Int :=
  if a = b then none
  else match symd a.2 b.2 with
    | [] => some 0
    | e :: _ => if a.1 = b.1 then some e else some (e - 1)
/-- the point told lies in just one -/
theorem parting_lies {a b : Reach} (ha : Rising a.2) (hb : Rising b.2) {k : Int} (h : partingF a b = some k) : (liesIn a k == liesIn b k) = false := by
  have hj : liesIn (blend .just a b) k = true := by
    rw [just_eq ha hb]
    unfold partingF at h
    split at h
    · cases h
    · rename_i hne
      split at h
      · rename_i e
        cases h
        rw [e, liesIn_nil]
        have hab : a.2 = b.2 := symd_nil ha hb e
        have : ¬ a.1 = b.1 := fun z => hne (Prod.ext z hab)
        simpa using this
      · rename_i e r es
        have hr := symd_rising ha hb
        rw [es] at hr ⊢
        obtain ⟨h1, h2⟩ := Rising.cons.mp hr
        split at h
        · rename_i hf
          cases h
          rw [liesIn_cons, if_pos (Int.le_refl _), liesIn_gt h1]
          simp [hf]
        · rename_i hf
          cases h
          rw [liesIn_gt fun x hx => ?_]
          · simpa using hf
          · rcases List.mem_cons.mp hx with q | q
            · omega
            · have := h1 x q; omega
  rw [blend_lies _ ha hb] at hj
  revert hj
  show (liesIn a k != liesIn b k) = true → _
  cases liesIn a k <;> cases liesIn b k <;> simp
theorem symd_comm {A B : List Int} (ha : Rising A) (hb : Rising B) : symd A B = symd B A := by
  refine rising_one (symd_rising ha hb) (symd_rising hb ha) fun k => ?_
  unfold symd
  rw [sortI_mem, sortI_mem, List.mem_append, List.mem_append, Or.comm]
theorem parting_comm {a b : Reach} (ha : Rising a.2) (hb : Rising b.2) : partingF a b = partingF b a := by
  unfold partingF
  rw [symd_comm ha hb]
  by_cases h : a = b
  · rw [if_pos h, if_pos h.symm]
  · rw [if_neg h, if_neg fun z => h z.symm]
    split
    · rfl
    · by_cases h2 : a.1 = b.1
      · rw [if_pos h2, if_pos h2.symm]
      · rw [if_neg h2, if_neg fun z => h2 z.symm]
end HW
end
section
set_option linter.all false
set_option autoImplicit false
/-! MJ12: parting; law k08 -/
namespace MI
section
variable {M : Mem}
theorem oNotIn_ints (k : Int) (l : List Int) : oNotIn (.d (.int k)) (.d (.tup (l.map D.int))) M = .ok (.d (.bl (!decide (k ∈ l)))) M := by
  have h1 : (l.map D.int).all D.flat = true := by
    rw [List.all_eq_true]; intro d hd; obtain ⟨x, _, rfl⟩ := List.mem_map.mp hd; rfl
  have h2 : ((l.map D.int).any fun d => feq d (.int k)) = decide (k ∈ l) := by
    induction l with
    | nil => rfl
    | cons a l ih =>
      rw [List.map_cons, List.all_cons, Bool.and_eq_true] at h1
      rw [List.map_cons, List.any_cons, ih h1.2]
      by_cases c : k = a
      · subst c; simp [feq]
      · have : ¬ a = k := fun z => c z.symm
        simp [feq, c, this]
  have h3 : inR (.d (.int k)) (.d (.tup (l.map D.int))) M = some (decide (k ∈ l)) := by
    show (if ((D.int k).flat && (l.map D.int).all D.flat) = true then some ((l.map D.int).any fun d => feq d (.int k)) else none) = _
    rw [h1, h2]; rfl
  unfold oNotIn
  rw [h3]; rfl
@[simp] theorem bSorted_o (ds : List D) : bSorted (.o (.lst ds)) M = match asInts ds with
    | some ns => .ok (.o (.lst ((sortI ns).map D.int))) M
    | none => .bad := nrfl rfl
@[simp] theorem mPopAt_def (n : Nat) (i : Int) : mPopAt n (.int i) M = match M[n]? with
    | some (.lst ds) => if 0 ≤ i ∧ i < ds.length ∧ i < 2 ^ 62 then match ds[i.toNat]? with
        | some d => .ok (.d d) (M.set n (.lst (ds.eraseIdx i.toNat)))
        | none => .bad
      else .bad
    | _ => .bad := nrfl rfl
end
end MI
namespace HW
open MI PySem
section
variable {T : Tab}
theorem parting_run [HasF T "edges_marked" F_edges_marked] [HasF T "truth_by" F_truth_by] [HasF T "blend" F_blend] [i : HasF T "parting" F_parting] (n : Nat) (a b : Reach) (ha : Rising a.2) (hb : Rising b.2) (hl : a.2.length + b.2.length < 4000) (M : Mem) :
    run T (n + 3) "parting" [encR a, encR b] M = .ok (.d (encO (partingF a b))) M := by
  rw [run_has i, ← Res.wp_eq]
  refine wp_run rfl ?_
  have h0 := blend_run (T := T) n .just a b hl M
  rw [just_eq ha hb] at h0
  simp only [W4.s] at h0
  simp [F_parting, b_parting, h0]
  have h1 : ∀ (l : List Int) M, oEq (.d (.tup (l.map D.int))) (.d (.tup [])) M = .ok (.d (.bl (decide (l = [])))) M := fun l M => by
    rw [oEq_d (by simp) (by simp), deq_tup]
    have := deqs_ints l []
    simp only [List.map_nil] at this
    rw [this]
  by_cases hab : a = b
  · subst hab
    have hp : partingF a a = none := by unfold partingF; rw [if_pos rfl]
    simp [hp, encO]
  · have hne : symd a.2 b.2 = [] → ¬ a.1 = b.1 := fun e z => hab (Prod.ext z (symd_nil ha hb e))
    cases es : symd a.2 b.2 with
    | nil =>
      have hf := hne es
      have hp : partingF a b = some 0 := by unfold partingF; rw [if_neg hab, es]
      have h2 := h1 []
      simp only [List.map_nil, decide_true] at h2
      simp [hab, hf, h2, hp, encO]
    | cons e r =>
      have h2 := h1 (e :: r)
      simp only [List.map_cons] at h2
      by_cases hf : a.1 = b.1
      · have hp : partingF a b = some e := by unfold partingF; rw [if_neg hab, es]; simp [hf]
        simp [hab, hf, hp, encO]
      · have hp : partingF a b = some (e - 1) := by unfold partingF; rw [if_neg hab, es]; simp [hf]
        simp [hab, hf, h2, hp, encO]
theorem law_due_k08_run [i : HasF T "_law_due" F__law_due_k08] (n : Nat) (a b : Reach) (ha : Rising a.2) (hb : Rising b.2) (hl : a.2.length + b.2.length ≤ 1000) (hab : ¬ a = b) (M : Mem) :
    run T (n + 1) "_law_due" [encR a, encR b] M = .ok (.d (encO (partingF a b))) M := by
  have hlim := lim_big
  rw [run_has i, ← Res.wp_eq]
  refine wp_run rfl ?_
  simp [F__law_due_k08, b__law_due_k08]
  rw [compL_map D.int rfl (fun e => !decide (e ∈ b.2)) D.int (fun x => by simp [← Res.wp_eq, oNotIn_ints]) a.2 [] (by simp; omega)]
  simp
  rw [compL_map D.int rfl (fun e => !decide (e ∈ a.2)) D.int (fun x => by simp [← Res.wp_eq, oNotIn_ints]) b.2 [] (by simp; omega)]
  have hs : sortI (a.2.filter (fun e => !decide (e ∈ b.2)) ++ b.2.filter (fun e => !decide (e ∈ a.2))) = symd a.2 b.2 := rfl
  have f1 : (a.2.filter (fun e => !decide (e ∈ b.2))).length ≤ a.2.length := List.length_filter_le _ _
  have f2 : (b.2.filter (fun e => !decide (e ∈ a.2))).length ≤ b.2.length := List.length_filter_le _ _
  have f3 : (a.2.filter (fun e => !decide (e ∈ b.2))).length + (b.2.filter (fun e => !decide (e ∈ a.2))).length ≤ lim := by omega
  simp [hs, f3]
  have hne : symd a.2 b.2 = [] → ¬ a.1 = b.1 := fun e z => hab (Prod.ext z (symd_nil ha hb e))
  have h1 : ∀ (l : List Int) M n, M[n]? = some (O.lst (l.map D.int)) → oEq (.d (.hdl n)) (.o (.lst [])) M = .ok (.d (.bl (decide (l = [])))) M := fun l M n h => by
    rw [oEq_l (as := l.map D.int) (bs := []) (by simp [h]) rfl (by simp) (by simp)]
    have := deqs_ints l []
    simp only [List.map_nil] at this
    rw [this]
  have h3 : ∀ (e : Int) (r : List Int) M n, M[n]? = some (O.lst ((e :: r).map D.int)) → oIx (.d (.hdl n)) (.d (.int 0)) M = .ok (.d (.int e)) M := fun e r M n h => by
    refine oIx_seq (ds := (e :: r).map D.int) (by simp [h]) (ixN_pos (by omega) (by simp)) rfl
  cases es : symd a.2 b.2 with
  | nil =>
    have hf := hne es
    have hp : partingF a b = some 0 := by unfold partingF; rw [if_neg hab, es]
    have h2 := fun M n => h1 [] M n
    simp only [List.map_nil, decide_true] at h2
    simp [hf, es]
    rw [h2 _ _ (by simp)]
    simp [hp, encO]
  | cons e r =>
    have h2 := fun M n => h1 (e :: r) M n
    by_cases hf : a.1 = b.1
    · have hp : partingF a b = some e := by unfold partingF; rw [if_neg hab, es]; simp [hf]
      simp [hf, es]
      rw [h3 e r _ _ (by simp)]
      simp [hp, encO]
    · have hp : partingF a b = some (e - 1) := by unfold partingF; rw [if_neg hab, es]; simp [hf]
      simp [hf, es]
      rw [h2 _ _ (by simp)]
      simp
      rw [h3 e r _ _ (by simp)]
      simp [hp, encO]
theorem eraseIdx_rising {l : List Int} (h : Rising l) (k : Nat) : Rising (l.eraseIdx k) := List.Pairwise.sublist (List.eraseIdx_sublist _ _) h
theorem map_erase {A B : Type} (f : A → B) : ∀ (l : List A) (k : Nat), (l.map f).eraseIdx k = (l.eraseIdx k).map f
  | [], _ => rfl
  | a :: l, 0 => rfl
  | a :: l, k + 1 => by simp [map_erase f l k]
theorem law_near_ex [HasF T "_law_draw" F__law_draw] [HasF T "_law_far" F__law_far] [HasF T "_law_reach" F__law_reach_k02] [i : HasF T "_law_near" F__law_near] (ns : List Int) (r : Reach) (hr : Rising r.2) (hl : r.2.length ≤ 13) (n : Nat) (M : Mem) :
    ∃ o : Reach, Rising o.2 ∧ o.2.length ≤ 14 ∧ run T (n + 4) "_law_near" [scr ns, encR r] M = .ok (.d (encR o)) M := by
  have : (run T (n + 4) "_law_near" [scr ns, encR r] M).wp fun x M' => Kp (M' = M ∧ ∃ o : Reach, Rising o.2 ∧ o.2.length ≤ 14 ∧ x = .d (encR o)) := by
    have hlim := lim_big
    rw [run_has i]
    refine wp_run rfl ?_
    have dr : ∀ (k many : Int) M, 0 < many → run T (n + 3) "_law_draw" [scr ns, .int k, .int many] M = .ok (.d (.int (lawDraw ns k many))) M := fun k many M hm => law_draw_run (n + 2) ns k many hm M
    have hw0 := lawDraw_nn ns 20 (show (0 : Int) < 6 by decide)
    simp [F__law_near, b__law_near, dr]
    generalize lawDraw ns 20 6 = way at *
    split
    · rename_i h0
      exact ⟨rfl, (!r.1, r.2), hr, by show r.2.length ≤ 14; omega, rfl⟩
    · rename_i h0
      by_cases h1 : way = 1
      · subst h1
        by_cases hn : 0 < (r.2.length : Int)
        · have q0 := lawDraw_nn ns 21 hn
          have q1 := lawDraw_lt ns 21 hn
          have q2 : (lawDraw ns 21 r.2.length).toNat < r.2.length := by omega
          have q3 : 0 < r.2.length := by omega
          simp [q3, dr, q0, q1]
          have q4 : (r.2.map D.int)[(lawDraw ns 21 r.2.length).toNat]? = some (.int r.2[(lawDraw ns 21 r.2.length).toNat]) := by
            rw [List.getElem?_map, List.getElem?_eq_getElem q2]; rfl
          have e5 : (r.2.map D.int).eraseIdx (lawDraw ns 21 r.2.length).toNat = (r.2.eraseIdx (lawDraw ns 21 r.2.length).toNat).map D.int := map_erase _ _ _
          rw [e5]
          refine ⟨by omega, by simp, rfl, (r.1, _), eraseIdx_rising hr _, ?_, rfl⟩
          have := List.length_eraseIdx_le r.2 (lawDraw ns 21 r.2.length).toNat
          show (r.2.eraseIdx _).length ≤ 14
          omega
        · have q3 : ¬ 0 < r.2.length := by omega
          simp [q3]
          exact ⟨rfl, (r.1, r.2), hr, by show r.2.length ≤ 14; omega, rfl⟩
      · by_cases h2 : way = 2
        · subst h2
          have q5 : r.2.length + 1 ≤ lim := by omega
          have q6 : r.2.length + 1 < 4000 := by omega
          have e1 : r.2.map D.int ++ [D.int (lawDraw ns 22 30 - 10)] = (r.2 ++ [lawDraw ns 22 30 - 10]).map D.int := by simp
          simp [dr, q5, e1, -List.map_append, q6]
          refine ⟨rfl, (r.1, ss (r.2 ++ [lawDraw ns 22 30 - 10])), ss_rising _, ?_, rfl⟩
          have := ss_len (r.2 ++ [lawDraw ns 22 30 - 10])
          rw [List.length_append] at this
          show (ss (r.2 ++ [lawDraw ns 22 30 - 10])).length ≤ 14
          simp only [List.length_cons, List.length_nil] at this
          omega
        · by_cases h3 : 3 < way
          · obtain ⟨r2, a1, a2, _, e2⟩ := law_reach_ex (T := T) ns 30 n (M ++ [.lst (r.2.map D.int)])
            simp [h1, h2, h3, e2]
            exact ⟨rfl, r2, a1, by omega, rfl⟩
          · simp [h1, h2, h3]
            exact ⟨rfl, (r.1, r.2), hr, by show r.2.length ≤ 14; omega, rfl⟩
  obtain ⟨x, M', e, rfl, o, h1, h2, rfl⟩ := Res.wp_ex this
  exact ⟨o, h1, h2, e⟩
@[simp] theorem encO_some (k : Int) : encO (some k) = .int k := nrfl rfl
@[simp] theorem encO_none : encO none = .non := nrfl rfl
theorem law_k08_run [HasF T "edges_marked" F_edges_marked] [HasF T "truth_by" F_truth_by] [HasF T "blend" F_blend] [HasF T "parting" F_parting] [HasF T "_law_draw" F__law_draw] [HasF T "_law_far" F__law_far] [HasF T "_law_reach" F__law_reach_k02] [HasF T "_law_in" F__law_in] [HasF T "_law_whole" F__law_whole_k03]
    [HasF T "_law_near" F__law_near] [HasF T "_law_due" F__law_due_k08] [i : HasF T "law" F_law_k08] (ns : List Int) (hns : ns.length ≤ 63) (n : Nat) :
    ∃ M, run T (n + 5) "law" [scr ns] [] = .ok (.d (.bl true)) M := by
  have : (run T (n + 5) "law" [scr ns] []).wp fun x M' => Kp (x = .d (.bl true)) := by
    have hlim := lim_big
    rw [run_has i]
    refine wp_run rfl ?_
    simp [F_law_k08, b_law_k08]
    obtain ⟨a, a1, a2, _, e1⟩ := law_reach_ex (T := T) ns 0 (n + 1) []
    obtain ⟨b, c1, c2, e2⟩ := law_near_ex (T := T) ns a a1 a2 n []
    simp [e1, e2]
    have ln : ∀ (r : Reach) (k : Int) M, r.2.length ≤ 100 → run T (n + 4) "_law_in" [encR r, .int k] M = .ok (.d (.bl (liesIn r k))) M := fun r k M h => law_in_run (n + 3) r k M (by omega)
    have la : a.2.length ≤ 100 := by omega
    have lb : b.2.length ≤ 100 := by omega
    have self : partingF a a = none := by unfold partingF; rw [if_pos rfl]
    have pa : ∀ M, run T (n + 4) "parting" [encR a, encR a] M = .ok (.d .non) M := fun M => by
      rw [parting_run (n + 1) a a a1 a1 (by omega), self]; rfl
    refine forL_wp (fun p : Reach × Reach => D.tup [encR p.1, encR p.2]) (fun l env M' => ∃ (j3 j4 : Option D), env = [some (scr ns), some (encR a), some (encR b), j3, j4] ∧ ∀ p ∈ l, p = (a, b) ∨ p = (b, a)) ?_ ?_ [(a, b), (b, a)] _ _ ⟨_, _, rfl, by simp⟩
    · rintro _ M ⟨j3, j4, rfl, _⟩
      simp [pa]
      rfl
    · rintro p l _ M ⟨j3, j4, rfl, hp⟩
      have hp1 : partingF p.1 p.2 = partingF a b ∧ Rising p.1.2 ∧ Rising p.2.2 ∧ p.1.2.length + p.2.2.length < 4000 := by
        rcases hp p List.mem_cons_self with rfl | rfl
        · exact ⟨rfl, a1, c1, by show a.2.length + b.2.length < 4000; omega⟩
        · exact ⟨(parting_comm a1 c1).symm, c1, a1, by show b.2.length + a.2.length < 4000; omega⟩
      obtain ⟨p1, p2, p3, p4⟩ := hp1
      have hl : ∀ q ∈ l, q = (a, b) ∨ q = (b, a) := fun q hq => hp q (List.mem_cons_of_mem _ hq)
      simp
      rw [parting_run (n + 1) p.1 p.2 p2 p3 p4, p1]
      by_cases hab : a = b
      · subst hab
        simp [self]
        exact ⟨_, _, rfl, hl⟩
      · cases hk : partingF a b with
        | none =>
          unfold partingF at hk
          rw [if_neg hab] at hk
          split at hk
          · cases hk
          · split at hk <;> cases hk
        | some k =>
          have hlies := parting_lies a1 c1 hk
          simp [hab]
          rw [law_whole_run]
          simp
          rw [law_due_k08_run (n + 3) a b a1 c1 (by omega) hab, hk]
          simp [ln, la, lb, hlies]
          exact ⟨_, _, rfl, hl⟩
  obtain ⟨x, M', e, rfl⟩ := Res.wp_ex this
  exact ⟨M', e⟩
end
end HW
end
section
set_option linter.all false
set_option autoImplicit false
/-! MJ13: is_reach; law k05 -/
namespace HW
open MI PySem
/-- a thing whose kind may be asked -/
def kOk (M : Mem) : D → Prop
  | .hdl n => (∃ ds, M[n]? = some (.lst ds)) ∨ ∃ kvs, M[n]? = some (.dic kvs)
  | _ => True
def tyB : Ty → D → Bool
  | .tuple, .tup _ => true
  | .bool, .bl _ => true
  | .int, .bl _ => true
  | .int, .int _ => true
  | _, _ => false
theorem bIsi_k {M : Mem} {d : D} (t : Ty) (ht : t = .tuple ∨ t = .bool ∨ t = .int) (h : kOk M d) : bIsi t (.d d) M = .ok (.d (.bl (tyB t d))) M := by
  have key : isTy t (.d d) M = some (tyB t d) := by
    cases d with
    | hdl n =>
      rcases h with ⟨ds, h⟩ | ⟨ds, h⟩ <;> rcases ht with rfl | rfl | rfl <;> simp [isTy, h, tyB]
    | _ => rcases ht with rfl | rfl | rfl <;> rfl
  unfold bIsi
  rw [key]; rfl
def rdD : Option Int → List D → Bool
  | _, [] => true
  | none, .int i :: r => rdD (some i) r
  | some j, .int i :: r => !decide (i ≤ j) && rdD (some i) r
  | _, _ :: _ => false
def isReachD : D → Bool
  | .tup [.bl _, .tup es] => rdD none es
  | _ => false
/-- .. and its parts' -/
def kOk2 (M : Mem) (d : D) : Prop := kOk M d ∧ (∀ a b, d = .tup [a, b] → kOk M a ∧ kOk M b) ∧ ∀ a es, d = .tup [a, .tup es] → ∀ e ∈ es, kOk M e
theorem rdD_map {l : List Int} : ∀ {o : Option Int}, (∀ j, o = some j → ∀ x ∈ l, j < x) → Rising l → rdD o (l.map D.int) = true := by
  induction l with
  | nil => intro o _ _; rfl
  | cons a l ih =>
    intro o h hr
    obtain ⟨h1, h2⟩ := Rising.cons.mp hr
    have h3 : rdD (some a) (l.map D.int) = true := ih (fun j e x hx => by cases e; exact h1 x hx) h2
    cases o with
    | none => exact h3
    | some j =>
      have := h j rfl a List.mem_cons_self
      have h4 : ¬ a ≤ j := by omega
      simp [rdD, h3, h4]
theorem isReach_R {r : Reach} (h : Rising r.2) : isReachD (encR r) = true := rdD_map (fun j e => by cases e) h
theorem rdD_bad {l : List D} {d : D} (h : ∀ i, d ≠ .int i) (hm : d ∈ l) : ∀ o, rdD o l = false := by
  induction l with
  | nil => cases hm
  | cons a l ih =>
    intro o
    rcases List.mem_cons.mp hm with e | hm
    · subst e
      cases d with
      | int i => exact absurd rfl (h i)
      | _ => cases o <;> rfl
    · have ih' := ih hm
      cases a with
      | int i => cases o <;> simp [rdD, ih']
      | _ => cases o <;> rfl
theorem rdD_fall : ∀ (l : List Int) (a b : Int) (r : List D) (o : Option Int), b ≤ a → rdD o (l.map D.int ++ D.int a :: D.int b :: r) = false
  | [], a, b, r, o, h => by cases o <;> simp [rdD, h]
  | x :: l, a, b, r, o, h => by
    have := rdD_fall l a b r (some x) h
    cases o <;> simp [rdD, this]
section
variable {T : Tab}
theorem is_reach_run [i : HasF T "is_reach" F_is_reach] (n : Nat) (d : D) (M : Mem) (h : kOk2 M d) : run T (n + 1) "is_reach" [d] M = .ok (.d (.bl (isReachD d))) M := by
  obtain ⟨h0, h1, h2⟩ := h
  rw [run_has i, ← Res.wp_eq]
  refine wp_run rfl ?_
  simp [F_is_reach, b_is_reach]
  rw [bIsi_k _ (.inl rfl) h0]
  cases d with
  | tup ds =>
    rcases ds with _ | ⟨a, _ | ⟨b, _ | ⟨c, r⟩⟩⟩
    · simp [tyB, isReachD]
    · simp [tyB, isReachD]
    · obtain ⟨ha, hb⟩ := h1 a b rfl
      simp [tyB]
      rw [bIsi_k _ (.inr (.inl rfl)) ha]
      cases a with
      | bl f =>
        simp [tyB]
        rw [bIsi_k _ (.inl rfl) hb]
        cases b with
        | tup es =>
          have he := h2 _ es rfl
          simp [tyB]
          refine forL_wpD (fun l env M' => ∃ (o : Option Int) (j : Option D), env = [some (.tup [.bl f, .tup es]), some (encO o), j] ∧ M' = M ∧ (∀ e ∈ l, kOk M e) ∧ rdD o l = rdD none es) ?_ ?_ _ _ _ ⟨none, _, rfl, rfl, he, rfl⟩
          · rintro _ _ ⟨o, j, rfl, rfl, _, h⟩
            have h' : true = rdD none es := by rw [← h]; cases o <;> rfl
            simp [isReachD, ← h']
          · rintro e l _ _ ⟨o, j, rfl, rfl, hk, h⟩
            have hk2 := fun x hx => hk x (List.mem_cons_of_mem _ hx)
            simp
            rw [bIsi_k _ (.inr (.inr rfl)) (hk e List.mem_cons_self)]
            cases e with
            | int v =>
              simp [tyB]
              cases o with
              | none =>
                simp [encO]
                exact ⟨some v, _, rfl, rfl, hk2, h⟩
              | some w =>
                by_cases c : v ≤ w
                · have h' : false = rdD none es := by rw [← h]; simp [rdD, c]
                  simp [encO, c, isReachD, ← h']
                · simp [encO, c]
                  refine ⟨some v, _, rfl, rfl, hk2, by rw [← h]; simp [rdD, c]⟩
            | bl v =>
              have h' : false = rdD none es := by rw [← h]; cases o <;> rfl
              simp [tyB, isReachD, ← h']
            | _ =>
              have h' : false = rdD none es := by rw [← h]; cases o <;> rfl
              simp [tyB, isReachD, ← h']
        | _ => simp [tyB, isReachD]
      | _ => simp [tyB, isReachD]
    · simp [tyB, isReachD]
      have : ¬ ((r.length : Int) + 1 + 1 + 1 = 2) := by omega
      simp [this]
  | _ => simp [tyB, isReachD]
end
end HW
end
section
set_option linter.all false
set_option autoImplicit false
/-! MJ14: law k05 -/
namespace MI
section
variable {M : Mem}
theorem sIx_none (n d : Nat) : sIx n d none = d := nrfl rfl
theorem sIx_some {n d : Nat} {v : Int} (h : 0 ≤ v) : sIx n d (some v) = min v.toNat n := by show (if v < 0 then (v + (n : Int)).toNat else min v.toNat n) = _; rw [if_neg (by omega)]
@[simp] theorem oSlice_tup (ds : List D) (lo hi : Option Int) : oSlice (.d (.tup ds)) lo hi M = .ok (.d (.tup (cut ds lo hi))) M := nrfl rfl
theorem cut_to {A : Type} (xs : List A) {i : Int} (h : 0 ≤ i) : cut xs none (some i) = xs.take i.toNat := by
  unfold cut
  rw [sIx_none, sIx_some h]
  simp only [List.drop_zero, Nat.sub_zero]
  rw [List.take_eq_take_iff]; omega
theorem cut_from {A : Type} (xs : List A) {i : Int} (h : 0 ≤ i) : cut xs (some i) none = xs.drop i.toNat := by
  unfold cut
  rw [sIx_none, sIx_some h]
  by_cases c : i.toNat ≤ xs.length
  · rw [Nat.min_eq_left c]
    refine List.take_of_length_le (by simp)
  · have c2 : xs.length ≤ i.toNat := by omega
    rw [Nat.min_eq_right c2, List.drop_of_length_le (Nat.le_refl _), List.drop_of_length_le c2]; simp
end
end MI
namespace HW
open MI PySem
section
variable {T : Tab}
theorem law_put_run [i : HasF T "_law_put" F__law_put] (n : Nat) (es : List D) (at_ : Int) (d : D) (h0 : 0 ≤ at_) (hl : es.length ≤ 100) (M : Mem) (hb : D.bels M.length es = true) (hd : d.bel M.length = true) :
    run T (n + 1) "_law_put" [.tup es, .int at_, d] M = .ok (.d (.tup (es.take at_.toNat ++ d :: es.drop at_.toNat))) M := by
  have hlim := lim_big
  have bt : ∀ (l : List D) (k : Nat), D.bels M.length l = true → D.bels M.length (l.take k) = true ∧ D.bels M.length (l.drop k) = true := by
    intro l
    induction l with
    | nil => intro k _; simp
    | cons a l ih =>
      intro k h
      simp only [bels_cons, Bool.and_eq_true] at h
      cases k with
      | zero => simp [h.1, h.2]
      | succ k => simp [h.1, (ih k h.2).1, (ih k h.2).2]
  have bapp : ∀ a b : List D, D.bels M.length a = true → D.bels M.length b = true → D.bels M.length (a ++ b) = true := by
    intro a b
    induction a with
    | nil => intro _ h; exact h
    | cons x a ih =>
      intro h1 h2
      simp only [bels_cons, Bool.and_eq_true] at h1
      simp [h1.1, ih h1.2 h2]
  rw [run_has i, ← Res.wp_eq]
  refine wp_run rfl ?_
  simp [F__law_put, b__law_put, cut_to _ h0, cut_from _ h0]
  have l1 : (1 : Nat) ≤ lim := by omega
  have hm := Nat.min_le_right at_.toNat es.length
  have l2 : min at_.toNat es.length + 1 ≤ lim := by omega
  have l3 : min at_.toNat es.length + (es.length - at_.toNat + 1) ≤ lim := by omega
  simp [l1, l2]
  refine ⟨by omega, ?_⟩
  have := bapp _ _ (bt es at_.toNat hb).1 (show D.bels M.length (d :: es.drop at_.toNat) = true by simp [hd, (bt es at_.toNat hb).2])
  simp [this]
/-- an odd thing, by what it is -/
theorem bad_x {M : Mem} {x : RV} (h : isReachD (box x M).1 = false) (k : kOk2 (box x M).2 (box x M).1) : (fun x M => isReachD (box x M).1 = false ∧ kOk2 (box x M).2 (box x M).1) x M := ⟨h, k⟩
def badOk (x : RV) (M : Mem) : Prop := isReachD (box x M).1 = false ∧ kOk2 (box x M).2 (box x M).1
theorem kOk_flat {M : Mem} {d : D} (h : ∀ n, d ≠ .hdl n) : kOk M d := by
  cases d with
  | hdl n => exact absurd rfl (h n)
  | _ => trivial
theorem bad_tup {M : Mem} {ds : List D} (h : isReachD (.tup ds) = false) (k : ∀ d ∈ ds, kOk M d) (k2 : ∀ a es, ds = [a, .tup es] → ∀ e ∈ es, kOk M e) : badOk (.d (.tup ds)) M :=
  ⟨h, trivial, fun a b e => by cases e; exact ⟨k _ (by simp), k _ (by simp)⟩, fun a es e => k2 a es (by injection e)⟩
theorem bad_flat {M : Mem} {d : D} (h : ∀ ds, d ≠ .tup ds) (k : kOk M d) : badOk (.d d) M := by
  refine ⟨?_, k, fun a b e => absurd e (h _), fun a es e => absurd e (h _)⟩
  cases d with
  | tup ds => exact absurd rfl (h ds)
  | _ => rfl
theorem kOk_int {M : Mem} {l : List Int} : ∀ e ∈ l.map D.int, kOk M e := fun e he => by
  obtain ⟨x, _, rfl⟩ := List.mem_map.mp he; trivial
theorem rd_take {l : List Int} {k : Nat} {d : D} (r : List D) (h : ∀ i, d ≠ .int i) : rdD none (l.take k |>.map D.int |>.append (d :: r)) = false :=
  rdD_bad h (List.mem_append_right _ List.mem_cons_self) none
theorem law_bad_ex [HasF T "_law_draw" F__law_draw] [HasF T "_law_far" F__law_far] [HasF T "_law_put" F__law_put] [i : HasF T "_law_bad" F__law_bad] (ns : List Int) (r : Reach) (hr : Rising r.2) (hl : r.2.length ≤ 13) (n : Nat) (M : Mem) :
    (run T (n + 3) "_law_bad" [scr ns, encR r] M).wp fun x M' => Kp (badOk x M') := by
  have hlim := lim_big
  rw [run_has i]
  refine wp_run rfl ?_
  have dr : ∀ (k many : Int) M, 0 < many → run T (n + 2) "_law_draw" [scr ns, .int k, .int many] M = .ok (.d (.int (lawDraw ns k many))) M := fun k many M hm => law_draw_run (n + 1) ns k many hm M
  obtain ⟨v, hv0, _, hv⟩ := law_far_ex (T := T) ns 22
  have hv' := fun M => hv n M
  have hs0 := lawDraw_nn ns 21 (show (0 : Int) < 1000 by decide)
  have hw0 := lawDraw_nn ns 20 (show (0 : Int) < 8 by decide)
  have pt : ∀ (at_ : Int) (d : D) (M : Mem), 0 ≤ at_ → d.bel M.length = true → run T (n + 2) "_law_put" [.tup (r.2.map D.int), .int at_, d] M = .ok (.d (.tup ((r.2.map D.int).take at_.toNat ++ d :: (r.2.map D.int).drop at_.toNat))) M := fun at_ d M h hd => law_put_run (n + 1) _ at_ d h (by simp; omega) M (by simp) hd
  simp [F__law_bad, b__law_bad, dr]
  generalize lawDraw ns 21 1000 = some_ at *
  generalize lawDraw ns 20 8 = way at *
  have l10 : (10 : Nat) ≤ lim := by omega
  have l5 : (5 : Nat) ≤ lim := by omega
  have l6 : (6 : Nat) ≤ lim := by omega
  have l2 : (2 : Nat) ≤ lim := by omega
  have fk : ∀ (x : RV) (M' : Mem), (fin Mode.keep M x M').wp (fun x M' => Kp (badOk x M')) = badOk x M' := fun x M' => rfl
  have lit : ∀ (ds : List D) (k : Int), 0 < (ds.length : Int) → ∀ (M' : Mem) (P : D → Prop), (∀ d ∈ ds, P d) → ∃ d, P d ∧ oIx (.o (.lst ds)) (.d (.int (k % ds.length))) M' = .ok (.d d) M' := fun ds k hk M' P hP => by
    obtain ⟨d, hd, e⟩ := oIx_litO (P := P) (ds := ds) (i := k % ds.length) (Int.emod_nonneg _ (by omega)) (Int.emod_lt_of_pos _ hk) hP
    exact ⟨d, hd, e M'⟩
  split
  · obtain ⟨d, hd, e⟩ := lit [D.non, D.int 5, D.bl true, D.str "out", D.tup [], D.tup [D.bl true], D.tup [D.bl false, D.tup [], D.tup []], D.hdl M.length, D.hdl (M.length + 1), D.tup [D.bl false, D.tup [D.int 1], D.tup [D.int 3]]] some_ (by simp) (M ++ [O.lst [D.bl false, D.tup []], O.dic []])
      (fun d => badOk (.d d) (M ++ [O.lst [D.bl false, D.tup []], O.dic []])) (by
        have tt : ∀ ds : List D, (∀ d ∈ ds, kOk (M ++ [O.lst [D.bl false, D.tup []], O.dic []]) d) → isReachD (.tup ds) = false → (∀ a es, ds = [a, .tup es] → ∀ e ∈ es, kOk (M ++ [O.lst [D.bl false, D.tup []], O.dic []]) e) → badOk (.d (.tup ds)) (M ++ [O.lst [D.bl false, D.tup []], O.dic []]) := fun ds h1 h2 h3 => bad_tup h2 h1 h3
        simp only [List.forall_mem_cons]
        refine ⟨bad_flat nofun trivial, bad_flat nofun trivial, bad_flat nofun trivial, bad_flat nofun trivial, tt _ nofun rfl nofun, tt _ (by simp [kOk]) rfl nofun, tt _ (by simp [kOk]) rfl nofun, bad_flat nofun (.inl ⟨_, get_off0 M _⟩), bad_flat nofun (.inr ⟨_, get_off M _ 1⟩), tt _ (by simp [kOk]) rfl nofun, fun _ h => nomatch h⟩)
    simp at e
    rw [e]
    exact hd
  · split
    · obtain ⟨d, hd, e⟩ := lit [D.int 0, D.int 1, D.non, D.str "in", D.tup [D.bl true]] some_ (by simp) M (fun d => (∀ f, d ≠ .bl f) ∧ kOk M d) (by
        simp only [List.forall_mem_cons]
        refine ⟨⟨nofun, trivial⟩, ⟨nofun, trivial⟩, ⟨nofun, trivial⟩, ⟨nofun, trivial⟩, ⟨nofun, trivial⟩, fun _ h => nomatch h⟩)
      simp at e
      rw [e]
      simp [fk]
      have hd2 := hd.2
      refine bad_tup ?_ (by simp [hd2]; exact trivial) ?_
      · cases d with
        | bl f => exact absurd rfl (hd.1 f)
        | _ => rfl
      · rintro a es e
        simp only [List.cons.injEq, and_true] at e
        obtain ⟨_, e⟩ := e
        injection e with e
        subst e
        exact kOk_int
    · split
      · obtain ⟨d, hd, e⟩ := lit [D.hdl M.length, D.non, D.int 3, D.str "", D.bl true] some_ (by simp) (M ++ [O.lst (r.2.map D.int)]) (fun d => (∀ f, d ≠ .tup f) ∧ kOk (M ++ [O.lst (r.2.map D.int)]) d) (by
          simp only [List.forall_mem_cons]
          refine ⟨⟨nofun, .inl ⟨_, get_off0 M _⟩⟩, ⟨nofun, trivial⟩, ⟨nofun, trivial⟩, ⟨nofun, trivial⟩, ⟨nofun, trivial⟩, fun _ h => nomatch h⟩)
        simp at e
        rw [e]
        simp [fk]
        have hd2 := hd.2
        refine bad_tup ?_ (by simp [hd2]; exact trivial) ?_
        · cases d with
          | tup f => exact absurd rfl (hd.1 f)
          | _ => rfl
        · rintro a es e
          simp only [List.cons.injEq, and_true] at e
          exact absurd e.2 (hd.1 _)
      · have q0 : ∀ (l : List D), (∀ d ∈ l, kOk M d) → rdD none l = false → badOk (.d (.tup [.bl r.1, .tup l])) M := fun l h1 h2 => by
          refine bad_tup h2 (by simp [kOk]) ?_
          rintro a es e
          simp only [List.cons.injEq, and_true] at e
          obtain ⟨_, e⟩ := e
          injection e with e
          subst e
          exact h1
        have kt : ∀ (k : Nat) (d : D) (M' : Mem), kOk M' d → ∀ x ∈ (r.2.map D.int).take k ++ d :: (r.2.map D.int).drop k, kOk M' x := fun k d M' hd x hx => by
          rcases List.mem_append.mp hx with q | q
          · exact kOk_int x (List.mem_of_mem_take q)
          · rcases List.mem_cons.mp q with rfl | q
            · exact hd
            · exact kOk_int x (List.mem_of_mem_drop q)
        have kt2 : ∀ (k : Nat) (d : D) (M' : Mem), kOk M' d → rdD none ((r.2.map D.int).take k ++ d :: (r.2.map D.int).drop k) = false → badOk (.d (.tup [.bl r.1, .tup ((r.2.map D.int).take k ++ d :: (r.2.map D.int).drop k)])) M' := fun k d M' hd h2 => by
          refine bad_tup h2 (by simp [kOk]) ?_
          rintro a es e
          simp only [List.cons.injEq, and_true] at e
          obtain ⟨_, e⟩ := e
          injection e with e
          subst e
          exact kt k d M' hd
        obtain ⟨d, hd, e⟩ := lit [D.non, D.bl true, D.str "3", D.tup [D.int 3], D.hdl M.length, D.bl false] (some_ / 50) (by simp) (M ++ [O.lst [D.int 3]]) (fun d => (∀ i, d ≠ .int i) ∧ kOk (M ++ [O.lst [D.int 3]]) d ∧ d.bel (M.length + 1) = true) (by
          simp only [List.forall_mem_cons]
          refine ⟨⟨nofun, trivial, rfl⟩, ⟨nofun, trivial, rfl⟩, ⟨nofun, trivial, rfl⟩, ⟨nofun, trivial, rfl⟩, ⟨nofun, .inl ⟨_, get_off0 M _⟩, by simp [D.bel]⟩, ⟨nofun, trivial, rfl⟩, fun _ h => nomatch h⟩)
        simp at e
        have hm0 : 0 ≤ some_ % ((r.2.length : Int) + 1) := Int.emod_nonneg _ (by omega)
        have pt' := pt (some_ % ((r.2.length : Int) + 1)) d (M ++ [O.lst [D.int 3]]) hm0 (by simpa using hd.2.2)
        have last := kt2 (some_ % ((r.2.length : Int) + 1)).toNat d (M ++ [O.lst [D.int 3]]) hd.2.1 (rdD_bad hd.1 (List.mem_append_right _ List.mem_cons_self) none)
        by_cases h0' : 0 < r.2.length
        · have hp : 0 < (r.2.length : Int) := by omega
          have a0 := Int.emod_nonneg some_ (show (r.2.length : Int) ≠ 0 by omega)
          have a1 := Int.emod_lt_of_pos some_ hp
          have q2 : (some_ % (r.2.length : Int)).toNat < r.2.length := by omega
          have el : r.2 = r.2.take (some_ % (r.2.length : Int)).toNat ++ r.2[(some_ % (r.2.length : Int)).toNat] :: r.2.drop ((some_ % (r.2.length : Int)).toNat + 1) := by
            rw [← List.drop_eq_getElem_cons q2, List.take_append_drop]
          generalize hat : some_ % (r.2.length : Int) = at_ at *
          have gx : oIx (.d (.tup (r.2.map D.int))) (.d (.int at_)) M = .ok (.d (.int r.2[at_.toNat])) M := oIx_seq rfl (ixN_pos a0 (by simpa using a1)) (by rw [List.getElem?_map, List.getElem?_eq_getElem q2]; rfl)
          by_cases h5 : way < 5
          · have last := kt2 at_.toNat (.int r.2[at_.toNat]) M trivial (by
              have := rdD_fall (r.2.take at_.toNat) r.2[at_.toNat] r.2[at_.toNat] ((r.2.drop (at_.toNat + 1)).map D.int) none (Int.le_refl _)
              rw [← List.map_take, ← List.map_drop, List.drop_eq_getElem_cons q2]
              exact this)
            simp [h0', h5, hat, gx]
            rw [pt _ _ _ a0 rfl]
            simp [fk]
            simpa using last
          · by_cases h7 : way < 7
            · have v0 := Int.emod_nonneg v (show (5 : Int) ≠ 0 by decide)
              have e1 : (1 + at_).toNat = at_.toNat + 1 := by omega
              have last := kt2 (1 + at_).toNat (.int (r.2[at_.toNat] - 1 - v % 5)) M trivial (by
                have := rdD_fall (r.2.take at_.toNat) r.2[at_.toNat] (r.2[at_.toNat] - 1 - v % 5) ((r.2.drop (at_.toNat + 1)).map D.int) none (by omega)
                have e3 : (r.2.map D.int).take (at_.toNat + 1) = (r.2.take at_.toNat).map D.int ++ [D.int r.2[at_.toNat]] := by
                  rw [← List.map_take, List.take_succ_eq_append_getElem q2, List.map_append]; rfl
                rw [← List.map_drop, e1, e3, List.append_assoc]
                exact this)
              have e2 : 1 + at_ - 1 = at_ := by omega
              simp [h0', h5, h7, hat, e2, gx, hv']
              rw [pt _ _ _ (by omega) rfl]
              simp [fk]
              simpa using last
            · simp [h0', h5, h7, e]
              rw [pt']
              simp [fk]
              simpa using last
        · simp [h0', e]
          rw [pt']
          simp [fk]
          simpa using last
theorem law_k05_run [HasF T "is_reach" F_is_reach] [HasF T "_law_draw" F__law_draw] [HasF T "_law_far" F__law_far] [HasF T "_law_reach" F__law_reach_k02] [HasF T "_law_put" F__law_put] [HasF T "_law_bad" F__law_bad] [i : HasF T "law" F_law_k05] (ns : List Int) (hns : ns.length ≤ 63) (n : Nat) :
    ∃ M, run T (n + 4) "law" [scr ns] [] = .ok (.d (.bl true)) M := by
  have : (run T (n + 4) "law" [scr ns] []).wp fun x M' => Kp (x = .d (.bl true)) := by
    rw [run_has i]
    refine wp_run rfl ?_
    simp [F_law_k05, b_law_k05]
    obtain ⟨r, a1, a2, _, e1⟩ := law_reach_ex (T := T) ns 0 n []
    have kr : ∀ M, kOk2 M (encR r) := fun M => by
      refine ⟨trivial, fun a b e => ?_, fun a es e => ?_⟩
      · simp only [encR, D.tup.injEq, List.cons.injEq, and_true] at e
        obtain ⟨rfl, rfl⟩ := e
        exact ⟨trivial, trivial⟩
      · simp only [encR, D.tup.injEq, List.cons.injEq, and_true] at e
        obtain ⟨_, rfl⟩ := e
        exact kOk_int
    have ir : ∀ M, run T (n + 3) "is_reach" [encR r] M = .ok (.d (.bl true)) M := fun M => by rw [is_reach_run (n + 2) _ _ (kr M), isReach_R a1]
    simp [e1, ir]
    refine Res.wp_mono (law_bad_ex ns r a1 a2 n []) fun x M' h => ?_
    obtain ⟨h1, h2⟩ := h
    simp
    rw [is_reach_run (n + 2) _ _ h2, h1]
    simp [ir]
    rfl
  obtain ⟨x, M', e, rfl⟩ := Res.wp_ex this
  exact ⟨M', e⟩
end
end HW
end
section
set_option linter.all false
set_option autoImplicit false
/-! MJ9: law k04 -/
namespace HW
open MI PySem
def wordsL : List D := [.str "both", .str "either", .str "less", .str "just"]
theorem words_ix {M : Mem} {h : Nat} (hM : M[h]? = some (.lst wordsL)) {k : Int} (h0 : 0 ≤ k) (h1 : k < 4) : ∃ w : W4, oIx (.d (.hdl h)) (.d (.int k)) M = .ok (.d (.str w.s)) M := by
  obtain ⟨d, ⟨w, rfl⟩, e⟩ := oIx_lit (M := M) (x := .d (.hdl h)) (ds := wordsL) (i := k) (P := fun d => ∃ w : W4, d = .str w.s) (by simp [hM]) h0 h1 (by
    simp only [wordsL, List.forall_mem_cons]
    exact ⟨⟨.both, rfl⟩, ⟨.either, rfl⟩, ⟨.less, rfl⟩, ⟨.just, rfl⟩, fun _ h => nomatch h⟩)
  exact ⟨w, e⟩
section
variable {T : Tab}
theorem law_blended_run [HasF T "_law_whole" F__law_whole_k03] [HasF T "_law_is" F__law_is] [HasF T "_law_points" F__law_points] [HasF T "_law_in" F__law_in] [HasF T "_law_due" F__law_due] [i : HasF T "_law_blended" F__law_blended]
    (n : Nat) (w : W4) (a b : Reach) (ha : Rising a.2) (hb : Rising b.2) (hla : a.2.length ≤ 130) (hlb : b.2.length ≤ 130) (M : Mem) : run T (n + 3) "_law_blended" [encR (blend w a b), encR a, encR b, .str w.s] M = .ok (.d (.bl true)) M := by
  have hc := blend_rising w a b
  have hcl := blend_length w a b ha hb
  have hlim := lim_big
  rw [run_has i, ← Res.wp_eq]
  refine wp_run rfl ?_
  simp [F__law_blended, b__law_blended]
  rw [law_is_run n (blend w a b) hc (by omega)]
  have hcl' : ((blend w a b).2.length : Int) ≤ a.2.length + b.2.length := by omega
  have hcl2 : ¬ ((a.2.length : Int) + b.2.length < (blend w a b).2.length) := by omega
  simp [hcl2]
  obtain ⟨ps, hps⟩ := law_points_ex (T := T) (n + 1) [a, b, blend w a b] M.length (M ++ [.lst [encR a, encR b, encR (blend w a b)]]) (by simp) (by simp) (fun x hx => by
    simp only [List.mem_cons, List.not_mem_nil, or_false] at hx
    rcases hx with rfl | rfl | rfl <;> omega)
  rw [hps]
  simp
  refine forL_wp D.int (fun l env M' => ∃ j, env = [some (encR (blend w a b)), some (encR a), some (encR b), some (.str w.s), j] ∧ M' = M ++ [.lst [encR a, encR b, encR (blend w a b)]]) ?_ ?_ _ _ _ ⟨_, rfl, rfl⟩
  · rintro _ _ ⟨j, rfl, rfl⟩
    simp
  · rintro p l _ _ ⟨j, rfl, rfl⟩
    simp
    rw [law_in_run (n + 1) _ _ _ (by omega)]
    simp
    rw [law_in_run (n + 1) _ _ _ (by omega)]
    simp
    rw [law_in_run (n + 1) _ _ _ (by omega)]
    simp
    rw [law_due_run]
    simp [blend_lies w ha hb]
    exact ⟨_, rfl, rfl⟩
theorem law_long_k04_ex [HasF T "_law_draw" F__law_draw] [HasF T "_law_far" F__law_far] [i : HasF T "_law_long" F__law_long_k04] (ns : List Int) (hns : ns.length ≤ 63) (n : Nat) (M : Mem) :
    ∃ r : Reach, Rising r.2 ∧ r.2.length ≤ 63 ∧ run T (n + 3) "_law_long" [scr ns] M = .ok (.d (encR r)) M := by
  have : (run T (n + 3) "_law_long" [scr ns] M).wp fun x M' => Kp (M' = M ∧ ∃ r : Reach, Rising r.2 ∧ r.2.length ≤ 63 ∧ x = .d (encR r)) := by
    have hlim := lim_big
    rw [run_has i]
    refine wp_run rfl ?_
    simp [F__law_long_k04, b__law_long_k04]
    obtain ⟨v, hv0, hv1, hv⟩ := law_far_ex (T := T) ns 80
    rw [hv]
    simp
    rw [law_draw_run _ _ _ _ (by decide)]
    simp
    have key : ∀ (e0 : Int), (forL (sSeq (sExpr (eM1 mAppend (eVar 1) (eVar 2))) (sSet 2 (e2 oAdd (e2 oAdd (eVar 2) (eC (.int 1))) (eCall "_law_draw" (dCons (eVar 0) (dCons (e2 oAdd (eC (.int 90)) (eVar 3)) (dCons (eC (.int 3)) dNil)))))) (run T (n + 2))) (.nm 3) [] (rngD 0 (min (ns.length : Int) 63).toNat)
        [some (scr ns), some (.hdl M.length), some (.int e0), none] (M ++ [.lst []])).wp (fun r M1 => ∃ (acc : List Int) (e : Int) (j : Option D), r = [some (scr ns), some (.hdl M.length), some (.int e), j] ∧ M1 = M ++ [.lst (acc.map D.int)] ∧ Rising acc ∧ acc.length ≤ 63) (fun _ _ => False) := by
      intro e0
      refine forL_range (fun j env M' => ∃ (acc : List Int) (e : Int) (jj : Option D), env = [some (scr ns), some (.hdl M.length), some (.int e), jj] ∧ M' = M ++ [.lst (acc.map D.int)] ∧
        Rising acc ∧ (∀ x ∈ acc, x < e) ∧ acc.length ≤ j) ?_ ?_ _ _ ⟨[], _, _, rfl, rfl, .nil, by simp, by simp⟩
      · rintro _ _ ⟨acc, e, jj, rfl, rfl, h1, h2, h3⟩
        exact ⟨acc, e, jj, rfl, rfl, h1, by omega⟩
      · rintro j _ _ hj ⟨acc, e, jj, rfl, rfl, h1, h2, h3⟩
        have hacc : acc.length < lim := by omega
        simp [hacc]
        rw [law_draw_run _ _ _ _ (by decide)]
        have := lawDraw_nn ns (90 + (j : Int)) (show (0 : Int) < 3 by decide)
        simp
        refine ⟨acc ++ [e], _, _, rfl, by simp, h1.snoc h2, ?_, by simp; omega⟩
        intro x hx
        rcases List.mem_append.mp hx with q | q
        · have := h2 x q; omega
        · rw [List.mem_singleton.mp q]; omega
    have fin' : ∀ (e0 : Int), (min (ns.length : Int) 63 < 4611686018427387904 ∧ -4611686018427387904 ≤ min (ns.length : Int) 63) := fun _ => by omega
    split
    all_goals
      refine ⟨fin' 0, SR.wp_mono (key _) ?_ fun _ _ h => h.elim⟩
      rintro _ _ ⟨acc, e, j, rfl, rfl, h1, h2⟩
      simp
      rw [law_draw_run _ _ _ _ (by decide)]
      simp
      exact ⟨rfl, (_, acc), h1, h2, rfl⟩
  obtain ⟨x, M', e, rfl, r, h1, h2, rfl⟩ := Res.wp_ex this
  exact ⟨r, h1, h2, e⟩
theorem law_k04_run [HasF T "edges_marked" F_edges_marked] [HasF T "truth_by" F_truth_by] [HasF T "blend" F_blend] [HasF T "_law_draw" F__law_draw] [HasF T "_law_far" F__law_far] [HasF T "_law_reach" F__law_reach_k02] [HasF T "_law_whole" F__law_whole_k03] [HasF T "_law_is" F__law_is]
    [HasF T "_law_points" F__law_points] [HasF T "_law_in" F__law_in] [HasF T "_law_due" F__law_due] [HasF T "_law_blended" F__law_blended] [HasF T "_law_long" F__law_long_k04] [i : HasF T "law" F_law_k04] (ns : List Int) (hns : ns.length ≤ 63) (n : Nat) :
    ∃ M, run T (n + 4) "law" [scr ns] [] = .ok (.d (.bl true)) M := by
  have : (run T (n + 4) "law" [scr ns] []).wp fun x M' => Kp (x = .d (.bl true)) := by
    rw [run_has i]
    refine wp_run rfl ?_
    simp [F_law_k04, b_law_k04]
    obtain ⟨r1, a1, a2, _, e1⟩ := law_reach_ex (T := T) ns 0 n [.lst wordsL]
    obtain ⟨r2, c1, c2, _, e2⟩ := law_reach_ex (T := T) ns 20 n [.lst wordsL]
    obtain ⟨r3, d1, d2, _, e3⟩ := law_reach_ex (T := T) ns 40 n [.lst wordsL]
    obtain ⟨r4, f1, f2, e4⟩ := law_long_k04_ex (T := T) ns hns n [.lst wordsL]
    rw [show ([D.str "both", D.str "either", D.str "less", D.str "just"] : List D) = wordsL from rfl]
    rw [e1]
    simp
    rw [e2]
    simp
    rw [e3]
    simp
    rw [law_draw_run _ _ _ _ (by decide)]
    simp
    have key : ∀ r3 : Reach, Rising r3.2 → r3.2.length ≤ 63 → ∀ (j5 j6 j7 : Option D), (forL (sSeq (sSet 6 (eCall "blend" (dCons (eVar 2) (dCons (eVar 3) (dCons (MI.e2 oIx (eVar 1) (eVar 5)) dNil))))) (sIf (tNot (tTru (eCall "_law_blended" (dCons (eVar 6) (dCons (eVar 2) (dCons (eVar 3) (dCons (MI.e2 oIx (eVar 1) (eVar 5)) dNil))))))) (sRet (eC (.bl false))) sNil) (run T (n + 3))) (.nm 5) [] (rngD 0 4)
        [some (scr ns), some (.hdl 0), some (encR r1), some (encR r2), some (encR r3), j5, j6, j7] [.lst wordsL]).wp (fun r M1 => ∃ (j5 j6 j7 : Option D), r = [some (scr ns), some (.hdl 0), some (encR r1), some (encR r2), some (encR r3), j5, j6, j7] ∧ M1 = [.lst wordsL]) (fun _ _ => False) := by
      intro r3 d1 d2 j5 j6 j7
      refine forL_range (fun j env M' => ∃ (j5 j6 j7 : Option D), env = [some (scr ns), some (.hdl 0), some (encR r1), some (encR r2), some (encR r3), j5, j6, j7] ∧ M' = [.lst wordsL]) ?_ ?_ _ _ ⟨_, _, _, rfl, rfl⟩
      · rintro _ _ ⟨j5, j6, j7, rfl, rfl⟩
        exact ⟨_, _, _, rfl, rfl⟩
      · rintro j _ _ hj ⟨j5, j6, j7, rfl, rfl⟩
        obtain ⟨w, hw⟩ := words_ix (M := [.lst wordsL]) (h := 0) rfl (k := (j : Int)) (by omega) (by omega)
        simp [hw]
        rw [blend_run (n + 1) w r1 r2 (by omega)]
        simp [hw]
        rw [law_blended_run n w r1 r2 a1 c1 (by omega) (by omega)]
        simp
        exact ⟨_, _, _, rfl, rfl⟩
    have last : ∀ r3 : Reach, Rising r3.2 → r3.2.length ≤ 63 → ∀ (j5 j6 j7 : Option D), (sSeq (sSet 6 (eCall "blend" (dCons (eVar 2) (dCons (eVar 3) (dCons (MI.e2 oIx (eVar 1) (eCall "_law_draw" (dCons (eVar 0) (dCons (eC (.int 60)) (dCons (eC (.int 4)) dNil))))) dNil))))) (sSeq (sSet 7 (MI.e2 oIx (eVar 1) (eCall "_law_draw" (dCons (eVar 0) (dCons (eC (.int 61)) (dCons (eC (.int 4)) dNil))))))
        (sRet (eCall "_law_blended" (dCons (eCall "blend" (dCons (eVar 4) (dCons (eVar 6) (dCons (eVar 7) dNil)))) (dCons (eVar 4) (dCons (eVar 6) (dCons (eVar 7) dNil))))))) (run T (n + 3)) [some (scr ns), some (.hdl 0), some (encR r1), some (encR r2), some (encR r3), j5, j6, j7] [.lst wordsL]).wp
        (fun x M' => (fin .pure [] (.d .non) M').wp fun x M' => Kp (x = .d (.bl true))) (fun x M' => (fin .pure [] x M').wp fun x M' => Kp (x = .d (.bl true))) := by
      intro r3 d1 d2 j5 j6 j7
      obtain ⟨w, hw⟩ := words_ix (M := [.lst wordsL]) (h := 0) rfl (k := lawDraw ns 60 4) (lawDraw_nn _ _ (by decide)) (lawDraw_lt _ _ (by decide))
      obtain ⟨w2, hw2⟩ := words_ix (M := [.lst wordsL]) (h := 0) rfl (k := lawDraw ns 61 4) (lawDraw_nn _ _ (by decide)) (lawDraw_lt _ _ (by decide))
      simp
      rw [law_draw_run _ _ _ _ (by decide)]
      simp [hw]
      rw [blend_run (n + 1) w r1 r2 (by omega)]
      simp
      rw [law_draw_run _ _ _ _ (by decide)]
      simp [hw2]
      have hb := blend_length w r1 r2 a1 c1
      rw [blend_run (n + 1) w2 r3 (blend w r1 r2) (by omega)]
      simp
      rw [law_blended_run n w2 r3 (blend w r1 r2) d1 (blend_rising w r1 r2) (by omega) (by omega)]
      simp
      rfl
    split
    · rw [e4]
      simp
      refine SR.wp_mono (key r4 f1 f2 _ _ _) ?_ fun _ _ h => h.elim
      rintro _ _ ⟨j5, j6, j7, rfl, rfl⟩
      exact last r4 f1 f2 _ _ _
    · refine SR.wp_mono (key r3 d1 (by omega) _ _ _) ?_ fun _ _ h => h.elim
      rintro _ _ ⟨j5, j6, j7, rfl, rfl⟩
      exact last r3 d1 (by omega) _ _ _
  obtain ⟨x, M', e, rfl⟩ := Res.wp_ex this
  exact ⟨M', e⟩
end
end HW
end
section
set_option linter.all false
set_option autoImplicit false
/-! MJx: runs that may raise -/
namespace MI
open PySem (Str PyData)
def Res.wpx {A : Type} (r : Res A) (E : Str → Mem → Prop) (Q : A → Mem → Prop) (_ : Hid E := .mk) (_ : Hid Q := .mk) : Prop := match r with
  | .ok a M => Q a M
  | .err c M => E c M
  | .bad => False
def SR.wpx (r : SR) (F : Str → Env → Mem → Prop) (N : Env → Mem → Prop) (R : RV → Mem → Prop) (_ : Hid F := .mk) (_ : Hid N := .mk) (_ : Hid R := .mk) : Prop := match r with
  | .nx r M => N r M
  | .ret x M => R x M
  | .err c r M => F c r M
  | .bad => False
theorem wpx_ext {A : Type} {r : Res A} {E : Str → Mem → Prop} {Q Q' : A → Mem → Prop} (h : ∀ a M, Q a M = Q' a M) : r.wpx E Q = r.wpx E Q' := by
  have e : Q = Q' := by funext a M; exact h a M
  rw [e]
theorem Res.wpx_mono {A : Type} {r : Res A} {E E' : Str → Mem → Prop} {Q Q' : A → Mem → Prop} (h : r.wpx E Q) (q : ∀ a M, Q a M → Q' a M) (e : ∀ c M, E c M → E' c M) : r.wpx E' Q' := by
  cases r with
  | ok a M => exact q a M h
  | err c M => exact e c M h
  | bad => exact h
theorem SR.wpx_mono {r : SR} {F F' : Str → Env → Mem → Prop} {N N' : Env → Mem → Prop} {R R' : RV → Mem → Prop} (h : r.wpx F N R) (q : ∀ a M, N a M → N' a M) (q' : ∀ a M, R a M → R' a M) (e : ∀ c r M, F c r M → F' c r M) : r.wpx F' N' R' := by
  cases r with
  | nx a M => exact q a M h
  | ret a M => exact q' a M h
  | err c r M => exact e c r M h
  | bad => exact h
theorem Res.wpx_of {A : Type} {r : Res A} {E : Str → Mem → Prop} {Q : A → Mem → Prop} (h : r.wp Q) : r.wpx E Q := by
  cases r with
  | ok a M => exact h
  | err c M => exact h.elim
  | bad => exact h
theorem SR.wpx_of {r : SR} {F : Str → Env → Mem → Prop} {N : Env → Mem → Prop} {R : RV → Mem → Prop} (h : r.wp N R) : r.wpx F N R := by
  cases r with
  | nx a M => exact h
  | ret a M => exact h
  | err c r M => exact h.elim
  | bad => exact h
theorem Res.wpx_err {A : Type} {r : Res A} {c : Str} {M : Mem} : r.wpx (fun c' M' => c' = c ∧ M' = M) (fun _ _ => False) ↔ r = .err c M := by
  cases r with
  | ok b M' => simp [Res.wpx]
  | err => simp [Res.wpx]
  | bad => simp [Res.wpx]
theorem Res.wpx_ex {A : Type} {r : Res A} {E : Str → Mem → Prop} {Q : A → Mem → Prop} (h : r.wpx E Q) : (∃ a M, r = .ok a M ∧ Q a M) ∨ ∃ c M, r = .err c M ∧ E c M := by
  cases r with
  | ok b M' => exact .inl ⟨b, M', rfl, h⟩
  | err c M' => exact .inr ⟨c, M', rfl, h⟩
  | bad => exact h.elim
@[simp] theorem wpx_bad {A : Type} (E : Str → Mem → Prop) (Q : A → Mem → Prop) : (Res.bad : Res A).wpx E Q = False := nrfl rfl
@[simp] theorem wpx_rerr {A : Type} (c : Str) (M : Mem) (E : Str → Mem → Prop) (Q : A → Mem → Prop) : (Res.err c M : Res A).wpx E Q = E c M := nrfl rfl
section
variable {A B : Type} {cl : Cl} {r : Env} {M : Mem} {E : Str → Mem → Prop} {F : Str → Env → Mem → Prop}
@[simp] theorem wpx_ok (a : A) (M : Mem) (Q : A → Mem → Prop) : (Res.ok a M).wpx E Q = Q a M := nrfl rfl
@[simp] theorem wpx_nx (r : Env) (M : Mem) (N : Env → Mem → Prop) (R : RV → Mem → Prop) : (SR.nx r M).wpx F N R = N r M := nrfl rfl
@[simp] theorem wpx_ret (x : RV) (M : Mem) (N : Env → Mem → Prop) (R : RV → Mem → Prop) : (SR.ret x M).wpx F N R = R x M := nrfl rfl
@[simp] theorem wpx_bind (x : Res A) (f : A → Mem → Res B) (Q : B → Mem → Prop) : (x.bind f).wpx E Q = x.wpx E fun a M => (f a M).wpx E Q := by
  cases x <;> rfl
@[simp] theorem wpx_ite {c : Prop} [Decidable c] (a b : Res A) (Q : A → Mem → Prop) : (if c then a else b).wpx E Q = if c then a.wpx E Q else b.wpx E Q := by
  split <;> rfl
@[simp] theorem wpx_iteS {c : Prop} [Decidable c] (a b : SR) (N : Env → Mem → Prop) (R : RV → Mem → Prop) : (if c then a else b).wpx F N R = if c then a.wpx F N R else b.wpx F N R := by
  split <;> rfl
/-! expressions -/
@[simp] theorem wpx_eVar (i : Nat) (Q : RV → Mem → Prop) : (eVar i cl r M).wpx E Q = getV r[i]? fun x => Q x M := by
  unfold eVar getV
  cases r[i]? with
  | none => rfl
  | some o => cases o <;> rfl
@[simp] theorem wpx_eC (d : D) (Q : RV → Mem → Prop) : (eC d cl r M).wpx E Q = Q (.d d) M := nrfl rfl
@[simp] theorem wpx_e1 (op : Op1) (a : SE) (Q : RV → Mem → Prop) : (e1 op a cl r M).wpx E Q = (a cl r M).wpx E fun x M => (op x M).wpx E Q := wpx_bind _ _ _
@[simp] theorem wpx_e2 (op : Op2) (a b : SE) (Q : RV → Mem → Prop) : (e2 op a b cl r M).wpx E Q = (a cl r M).wpx E fun x M => (b cl r M).wpx E fun y M => (op x y M).wpx E Q := by
  unfold e2; rw [wpx_bind]; refine wpx_ext fun x M => ?_; rw [wpx_bind]
@[simp] theorem wpx_eNot (a : SE) (Q : RV → Mem → Prop) : (eNot a cl r M).wpx E Q = (a cl r M).wpx E fun x M => truV (truR x M) fun b => Q (.d (.bl !b)) M := by
  unfold eNot; rw [wpx_bind]; refine wpx_ext fun x M => ?_
  cases truR x M <;> rfl
@[simp] theorem wpx_eAnd (a b : SE) (Q : RV → Mem → Prop) : (eAnd a b cl r M).wpx E Q = (a cl r M).wpx E fun x M => truV (truR x M) fun t => if t = true then (b cl r M).wpx E Q else Q x M := by
  unfold eAnd; rw [wpx_bind]; refine wpx_ext fun x M => ?_
  cases truR x M with
  | none => rfl
  | some t => cases t <;> simp [truV, Res.wpx]
@[simp] theorem wpx_eOr (a b : SE) (Q : RV → Mem → Prop) : (eOr a b cl r M).wpx E Q = (a cl r M).wpx E fun x M => truV (truR x M) fun t => if t = true then Q x M else (b cl r M).wpx E Q := by
  unfold eOr; rw [wpx_bind]; refine wpx_ext fun x M => ?_
  cases truR x M with
  | none => rfl
  | some t => cases t <;> simp [truV, Res.wpx]
@[simp] theorem wpx_tAnd (a b : STt) (Q : Bool → Mem → Prop) : (tAnd a b cl r M).wpx E Q = (a cl r M).wpx E fun x M => if x = true then (b cl r M).wpx E Q else Q false M := by
  unfold tAnd; rw [wpx_bind]; refine wpx_ext fun x M => ?_; rw [wpx_ite]; rfl
@[simp] theorem wpx_tOr (a b : STt) (Q : Bool → Mem → Prop) : (tOr a b cl r M).wpx E Q = (a cl r M).wpx E fun x M => if x = true then Q true M else (b cl r M).wpx E Q := by
  unfold tOr; rw [wpx_bind]; refine wpx_ext fun x M => ?_; rw [wpx_ite]; rfl
@[simp] theorem wpx_tNot (a : STt) (Q : Bool → Mem → Prop) : (tNot a cl r M).wpx E Q = (a cl r M).wpx E fun x M => Q (!x) M := by
  unfold tNot; rw [wpx_bind]; rfl
@[simp] theorem wpx_tTru (a : SE) (Q : Bool → Mem → Prop) : (tTru a cl r M).wpx E Q = (a cl r M).wpx E fun x M => truV (truR x M) fun b => Q b M := by
  unfold tTru; rw [wpx_bind]; refine wpx_ext fun x M => ?_
  cases truR x M <;> rfl
@[simp] theorem wpx_tB (a : SE) (Q : Bool → Mem → Prop) : (tB a cl r M).wpx E Q = (a cl r M).wpx E fun x M => blV x fun b => Q b M := by
  unfold tB; rw [wpx_bind]; refine wpx_ext fun x M => ?_
  unfold blV
  split
  · rfl
  · first | rfl | (split <;> first | rfl | simp_all)
@[simp] theorem wpx_eIf (t : STt) (a b : SE) (Q : RV → Mem → Prop) : (eIf t a b cl r M).wpx E Q = (t cl r M).wpx E fun x M => if x = true then (a cl r M).wpx E Q else (b cl r M).wpx E Q := by
  unfold eIf; rw [wpx_bind]; refine wpx_ext fun x M => ?_; rw [wpx_ite]
@[simp] theorem wpx_dNil (Q : List D → Mem → Prop) : (dNil cl r M).wpx E Q = Q [] M := nrfl rfl
@[simp] theorem wpx_dCons (a : SE) (as : SDs) (Q : List D → Mem → Prop) : (dCons a as cl r M).wpx E Q = (a cl r M).wpx E fun x M => (as cl r (box x M).2).wpx E fun ds M' => Q ((box x M).1 :: ds) M' := by
  unfold dCons; rw [wpx_bind]; refine wpx_ext fun x M => ?_; rw [wpx_bind]; rfl
@[simp] theorem wpx_eTup (as : SDs) (Q : RV → Mem → Prop) : (eTup as cl r M).wpx E Q = (as cl r M).wpx E fun ds M => ds.length ≤ lim ∧ Q (.d (.tup ds)) M := by
  unfold eTup; rw [wpx_bind]; refine wpx_ext fun x M => ?_; rw [wpx_ite]; simp [Res.wpx]
@[simp] theorem wpx_eLst (as : SDs) (Q : RV → Mem → Prop) : (eLst as cl r M).wpx E Q = (as cl r M).wpx E fun ds M => ds.length ≤ lim ∧ Q (.o (.lst ds)) M := by
  unfold eLst; rw [wpx_bind]; refine wpx_ext fun x M => ?_; rw [wpx_ite]; simp [Res.wpx]
@[simp] theorem wpx_eDic0 (Q : RV → Mem → Prop) : (eDic0 cl r M).wpx E Q = Q (.o (.dic [])) M := nrfl rfl
@[simp] theorem wpx_eDic (as : SDs) (Q : RV → Mem → Prop) : (eDic as cl r M).wpx E Q = (as cl r M).wpx E fun ds M => ∃ kvs, pairUp ds [] = some kvs ∧ ds.length ≤ 30 ∧ Q (.o (.dic kvs)) M := by
  unfold eDic; rw [wpx_bind]; refine wpx_ext fun x M => ?_
  cases pairUp x [] with
  | none => simp [Res.wpx]
  | some kvs => simp only [wpx_ite]; simp [Res.wpx]
@[simp] theorem wpx_eCall (f : Str) (as : SDs) (Q : RV → Mem → Prop) : (eCall f as cl r M).wpx E Q = (as cl r M).wpx E fun ds M => (cl f ds M).wpx E Q := by
  unfold eCall; rw [wpx_bind]
@[simp] theorem wpx_oNone (Q : Option Int → Mem → Prop) : (oNone cl r M).wpx E Q = Q none M := nrfl rfl
@[simp] theorem wpx_oSome (a : SE) (Q : Option Int → Mem → Prop) : (oSome a cl r M).wpx E Q = (a cl r M).wpx E fun x M => intV x fun i => Q (some i) M := by
  unfold oSome; rw [wpx_bind]; refine wpx_ext fun x M => ?_
  unfold intV
  split
  · rfl
  · first | rfl | (split <;> first | rfl | simp_all)
@[simp] theorem wpx_eSlice (a : SE) (lo hi : SO) (Q : RV → Mem → Prop) : (eSlice a lo hi cl r M).wpx E Q = (a cl r M).wpx E fun x M => (lo cl r M).wpx E fun l M => (hi cl r M).wpx E fun h M => (oSlice x l h M).wpx E Q := by
  unfold eSlice; rw [wpx_bind]; refine wpx_ext fun x M => ?_; rw [wpx_bind]; refine wpx_ext fun y M => ?_; rw [wpx_bind]
@[simp] theorem wpx_eM1 (m : Nat → D → Mem → Res RV) (o a : SE) (Q : RV → Mem → Prop) : (eM1 m o a cl r M).wpx E Q = (o cl r M).wpx E fun x M => hdlV x fun n => (lstT (.d (.hdl n)) M).isSome = true ∧ (a cl r M).wpx E fun y M => (m n (box y M).1 (box y M).2).wpx E Q := by
  unfold eM1; rw [wpx_bind]; refine wpx_ext fun x M => ?_
  unfold hdlV
  split
  · rw [wpx_ite, wpx_bind]; simp [Res.wpx]
  · first | rfl | (split <;> first | rfl | simp_all)
@[simp] theorem wpx_iSeq (a : SE) (Q : List D × Chk → Mem → Prop) : (iSeq a cl r M).wpx E Q = (a cl r M).wpx E fun x M => ∃ ds, seqOf x M = some ds ∧ Q (ds, chkR x M) M := by
  unfold iSeq; rw [wpx_bind]; refine wpx_ext fun x M => ?_
  cases h : seqOf x M with
  | none => simp [Res.wpx]
  | some ds => simp [Res.wpx]
@[simp] theorem wpx_iRange1 (a : SE) (Q : List D × Chk → Mem → Prop) : (iRange1 a cl r M).wpx E Q = (a cl r M).wpx E fun x M => intV x fun n => (n < 2 ^ 62 ∧ -(2 ^ 62) ≤ n) ∧ Q (rngD 0 n.toNat, []) M := by
  unfold iRange1; rw [wpx_bind]; refine wpx_ext fun x M => ?_
  unfold intV
  split
  · rw [wpx_ite]; simp [Res.wpx]
  · first | rfl | (split <;> first | rfl | simp_all)
/-! statements -/
variable {N : Env → Mem → Prop} {R : RV → Mem → Prop}
theorem wpx_ofE (s : Res RV) (f : RV → Mem → SR) : (ofE s r f).wpx F N R = s.wpx (fun c M => F c r M) fun x M => (f x M).wpx F N R := by cases s <;> rfl
theorem wpx_ofT (s : Res Bool) (f : Bool → Mem → SR) : (ofT s r f).wpx F N R = s.wpx (fun c M => F c r M) fun x M => (f x M).wpx F N R := by cases s <;> rfl
theorem wpx_ofI (s : Res (List D × Chk)) (f : List D × Chk → Mem → SR) : (ofI s r f).wpx F N R = s.wpx (fun c M => F c r M) fun x M => (f x M).wpx F N R := by cases s <;> rfl
@[simp] theorem wpx_sNil : (sNil cl r M).wpx F N R = N r M := nrfl rfl
@[simp] theorem wpx_sSeq (a b : SS) : (sSeq a b cl r M).wpx F N R = (a cl r M).wpx F (fun r M => (b cl r M).wpx F N R) R := by
  unfold sSeq; cases a cl r M <;> rfl
@[simp] theorem wpx_sSet (i : Nat) (e : SE) : (sSet i e cl r M).wpx F N R = (e cl r M).wpx (fun c M => F c r M) fun x M => N (r.set i (some (box x M).1)) (box x M).2 := by
  unfold sSet; rw [wpx_ofE]; rfl
@[simp] theorem wpx_sUnp (is : List Nat) (e : SE) : (sUnp is e cl r M).wpx F N R = (e cl r M).wpx (fun c M => F c r M) fun x M => tupV x fun ds => envV (setAll is ds r) fun r => N r M := by
  unfold sUnp; rw [wpx_ofE]; refine wpx_ext fun x M => ?_
  unfold tupV
  split
  · unfold envV
    split <;> rename_i h <;> simp [h, SR.wpx]
  · first | rfl | (split <;> first | rfl | simp_all)
@[simp] theorem wpx_sSetIx (o k e : SE) : (sSetIx o k e cl r M).wpx F N R = (e cl r M).wpx (fun c M => F c r M) fun x M => (o cl r (box x M).2).wpx (fun c M => F c r M) fun y M1 => (k cl r M1).wpx (fun c M => F c r M) fun z M2 => datV y fun y => datV z fun z => memV (setIx y z (box x M).1 M2) fun M => N r M := by
  unfold sSetIx; rw [wpx_ofE]; refine wpx_ext fun x M => ?_; rw [wpx_ofE]; refine wpx_ext fun y M1 => ?_; rw [wpx_ofE]; refine wpx_ext fun z M2 => ?_
  unfold datV
  cases y <;> cases z <;> simp only [] <;> try rfl
  unfold memV
  split <;> rename_i h <;> simp [h, SR.wpx]
@[simp] theorem wpx_sExpr (e : SE) : (sExpr e cl r M).wpx F N R = (e cl r M).wpx (fun c M => F c r M) fun _ M => N r M := by
  unfold sExpr; rw [wpx_ofE]; rfl
@[simp] theorem wpx_sRet (e : SE) : (sRet e cl r M).wpx F N R = (e cl r M).wpx (fun c M => F c r M) fun x M => R x M := by
  unfold sRet; rw [wpx_ofE]; rfl
@[simp] theorem wpx_sRetN : (sRetN cl r M).wpx F N R = R (.d .non) M := nrfl rfl
@[simp] theorem wpx_sIf (t : STt) (a b : SS) : (sIf t a b cl r M).wpx F N R = (t cl r M).wpx (fun c M => F c r M) fun x M => if x = true then (a cl r M).wpx F N R else (b cl r M).wpx F N R := by
  unfold sIf; rw [wpx_ofT]; refine wpx_ext fun x M => ?_; rw [wpx_iteS]
@[simp] theorem wpx_sFor (tg : Tg) (it : SI) (body : SS) : (sFor tg it body cl r M).wpx F N R = (it cl r M).wpx (fun c M => F c r M) fun p M => (forL (body cl) tg p.2 p.1 r M).wpx F N R := by
  unfold sFor; rw [wpx_ofI]

end
section
variable {A B : Type} {cl : Cl} {r : Env} {M : Mem} {E : Str → Mem → Prop} {F : Str → Env → Mem → Prop}
@[simp] theorem wpx_eM0 (m : Nat → Mem → Res RV) (o : SE) (Q : RV → Mem → Prop) : (eM0 m o cl r M).wpx E Q = (o cl r M).wpx E fun x M => hdlV x fun n => (lstT (.d (.hdl n)) M).isSome = true ∧ (m n M).wpx E Q := by
  unfold eM0; rw [wpx_bind]; refine wpx_ext fun x M => ?_
  unfold hdlV
  split
  · rw [wpx_ite]; simp [Res.wpx]
  · first | rfl | (split <;> first | rfl | simp_all)
theorem wpx_if_bad {c : Prop} [Decidable c] (x : Res A) (Q : A → Mem → Prop) : (if c then x else .bad).wpx E Q = (c ∧ x.wpx E Q) := by
  split <;> rename_i h <;> simp [h, Res.wpx]
@[simp] theorem wpx_eM2 (m : Nat → D → D → Mem → Res RV) (o a b : SE) (Q : RV → Mem → Prop) : (eM2 m o a b cl r M).wpx E Q = (o cl r M).wpx E fun x M => hdlV x fun n => (lstT (.d (.hdl n)) M).isSome = true ∧ (a cl r M).wpx E fun y M => (b cl r (box y M).2).wpx E fun z M2 => (m n (box y M).1 (box z M2).1 (box z M2).2).wpx E Q := by
  unfold eM2; rw [wpx_bind]; refine wpx_ext fun x M => ?_
  unfold hdlV
  split
  · rw [wpx_if_bad, wpx_bind]; congr 1; refine wpx_ext fun y M => ?_; rw [wpx_bind]
  · first | rfl | (split <;> first | rfl | simp_all)
@[simp] theorem wpx_eN1 (m : Nat → D → Mem → Res RV) (o a : SE) (Q : RV → Mem → Prop) : (eN1 m o a cl r M).wpx E Q = (o cl r M).wpx E fun x M => newV x fun ds => (a cl r (M ++ [.lst ds])).wpx E fun y M2 => (m M.length (box y M2).1 (box y M2).2).wpx E Q := by
  unfold eN1; rw [wpx_bind]; refine wpx_ext fun x M => ?_
  unfold newV
  split
  · rw [wpx_bind]
  · first | rfl | (split <;> first | rfl | simp_all)
@[simp] theorem wpx_eN0 (m : Nat → Mem → Res RV) (o : SE) (Q : RV → Mem → Prop) : (eN0 m o cl r M).wpx E Q = (o cl r M).wpx E fun x M => newV x fun ds => (m M.length (M ++ [.lst ds])).wpx E Q := by
  unfold eN0; rw [wpx_bind]; refine wpx_ext fun x M => ?_
  unfold newV
  split
  · rfl
  · first | rfl | (split <;> first | rfl | simp_all)
@[simp] theorem wpx_eStep (a : SE) (lo hi : SO) (k : Nat) (Q : RV → Mem → Prop) : (eStep a lo hi k cl r M).wpx E Q = (a cl r M).wpx E fun x M => (lo cl r M).wpx E fun l M => (hi cl r M).wpx E fun h M => lstV x M fun ds => Q (.o (.lst (pickS (sIx ds.length 0 l) k (ds.take (sIx ds.length ds.length h))))) M := by
  unfold eStep; rw [wpx_bind]; refine wpx_ext fun x M => ?_; rw [wpx_bind]; refine wpx_ext fun y M => ?_; rw [wpx_bind]; refine wpx_ext fun z M => ?_
  unfold lstV
  cases lstOf x M <;> rfl
@[simp] theorem wpx_eRev (a : SE) (Q : RV → Mem → Prop) : (eRev a cl r M).wpx E Q = (a cl r M).wpx E fun x M => lstV x M fun ds => Q (.o (.lst ds.reverse)) M := by
  unfold eRev; rw [wpx_bind]; refine wpx_ext fun x M => ?_
  unfold lstV
  cases lstOf x M <;> rfl
@[simp] theorem wpx_iRange2 (a b : SE) (Q : List D × Chk → Mem → Prop) : (iRange2 a b cl r M).wpx E Q = (a cl r M).wpx E fun x M => (b cl r M).wpx E fun y M => intV x fun i => intV y fun j => ((-(2 ^ 62) ≤ i ∧ i < 2 ^ 62) ∧ -(2 ^ 62) ≤ j ∧ j < 2 ^ 62) ∧ Q (rngD i (j - i).toNat, []) M := by
  unfold iRange2; rw [wpx_bind]; refine wpx_ext fun x M => ?_; rw [wpx_bind]; refine wpx_ext fun y M => ?_
  rcases x with (_ | _ | i | _ | _ | _ | _) | _ <;> rcases y with (_ | _ | j | _ | _ | _ | _) | _ <;> first | rfl | skip
  simp only [intV]
  rw [wpx_if_bad]; rfl
@[simp] theorem wpx_iRange3 (a b c : SE) (Q : List D × Chk → Mem → Prop) : (iRange3 a b c cl r M).wpx E Q = (a cl r M).wpx E fun x M => (b cl r M).wpx E fun y M => (c cl r M).wpx E fun z M => intV x fun i => intV y fun j => intV z fun c => ((-(2 ^ 61) ≤ i ∧ i < 2 ^ 61) ∧ (-(2 ^ 61) ≤ j ∧ j < 2 ^ 61) ∧ c ≠ 0 ∧ c.natAbs < 1000000) ∧ Q (rngC i c (rgN i j c), []) M := by
  unfold iRange3; rw [wpx_bind]; refine wpx_ext fun x M => ?_; rw [wpx_bind]; refine wpx_ext fun y M => ?_; rw [wpx_bind]; refine wpx_ext fun z M => ?_
  rcases x with (_ | _ | i | _ | _ | _ | _) | _ <;> rcases y with (_ | _ | j | _ | _ | _ | _) | _ <;> rcases z with (_ | _ | j | _ | _ | _ | _) | _ <;> first | rfl | skip
  simp only [intV]
  rw [wpx_if_bad]; rfl
end
end MI

namespace MI
open PySem (Str PyData)
section
variable {A B : Type} {cl : Cl} {r : Env} {M : Mem} {E : Str → Mem → Prop} {F : Str → Env → Mem → Prop} {N : Env → Mem → Prop} {R : RV → Mem → Prop}
@[simp] theorem wpx_sRaise (c : Str) : (sRaise c cl r M).wpx F N R = F c r M := nrfl rfl
@[simp] theorem wpx_eComp {elt : SE} {tst : STt} {tg : Tg} {own : List Nat} {it : SI} {Q : RV → Mem → Prop} :
    (eComp elt tst tg own it cl r M).wpx E Q = (it cl r M).wpx E fun p M => (compL (elt cl) (tst cl) tg p.2 (wipe r own) p.1 [] M).wpx E Q := by
  unfold eComp; rw [wpx_bind]
theorem wpx_run {F : Fn} {cl : Cl} {ds : List D} {M : Mem} {E : Str → Mem → Prop} {Q : RV → Mem → Prop} (hl : ds.length = F.ar)
    (h : (F.body cl (ds.map some ++ List.replicate (F.ns - ds.length) none) M).wpx (fun c r M' => (finS F.mode M (.err c r M')).wpx E Q) (fun _ M' => (fin F.mode M (.d .non) M').wpx E Q) (fun x M' => (fin F.mode M x M').wpx E Q)) : (F.run cl ds M).wpx E Q := by
  unfold Fn.run
  rw [if_pos hl]
  cases e : F.body cl (ds.map some ++ List.replicate (F.ns - ds.length) none) M with
  | nx r M' => rw [e] at h; exact h
  | ret x M' => rw [e] at h; exact h
  | err => rw [e] at h; exact h
  | bad => rw [e] at h; exact h.elim
@[simp] theorem finS_err (M l : Mem) (c : Str) (r : Env) : finS .pure M (.err c r (M ++ l)) = .err c M := by
  unfold finS; simp only [List.take_left, if_true]
@[simp] theorem finS_err0 (M : Mem) (c : Str) (r : Env) : finS .pure M (.err c r M) = .err c M := by
  unfold finS; simp only [List.take_length, if_true]
@[simp] theorem finS_errN (M : Mem) (c : Str) (r : Env) : finS .pure [] (.err c r M) = .err c [] := by
  unfold finS; simp
@[simp] theorem finS_errK (M M' : Mem) (c : Str) (r : Env) : finS .keep M (.err c r M') = .err c M' := nrfl rfl
/-- try: .. except .. as ..: -/
@[simp] theorem wp_sTry (i : Option Nat) (body : SS) (cat : Str → Bool) (suite : Str → SS) : (sTry i body cat suite cl r M).wp N R =
    (body cl r M).wpx (fun c r1 M1 => cat c = true ∧ (suite c cl (gone i r1) M1).wp (fun r2 M2 => N (gone i r2) M2) R) N R := by
  unfold sTry
  cases e : body cl r M with
  | err c r1 M1 =>
    simp only [SR.wpx]
    by_cases h : cat c = true
    · simp only [h, if_true, true_and]
      cases e2 : suite c cl (gone i r1) M1 <;> rfl
    · simp [h, SR.wp]
  | _ => rfl
/-- a loop that may raise -/
theorem forL_wpx {A : Type} (enc : A → D) {body : Env → Mem → SR} {tg : Tg} {c : Chk} (I : List A → Env → Mem → Prop)
    (h0 : ∀ r M, I [] r M → chkOk c M = true ∧ N r M)
    (hs : ∀ a l r M, I (a :: l) r M → chkOk c M = true ∧ envV (asg tg (enc a) r) fun r1 => (body r1 M).wpx F (fun r2 M2 => Kp (I l r2 M2)) R) :
    ∀ (l : List A) r M, I l r M → (forL body tg c (l.map enc) r M).wpx F N R
  | [], r, M, h => by
    obtain ⟨h1, h2⟩ := h0 r M h
    simp only [List.map_nil, forL, h1, if_true, SR.wpx]
    exact h2
  | a :: l, r, M, h => by
    obtain ⟨h1, h2⟩ := hs a l r M h
    simp only [List.map_cons, forL, h1, if_true]
    cases e : asg tg (enc a) r with
    | none => rw [e] at h2; exact h2.elim
    | some r1 =>
      rw [e] at h2
      simp only [envV] at h2
      simp only
      cases e2 : body r1 M with
      | nx r2 M2 => rw [e2] at h2; exact forL_wpx enc I h0 hs l r2 M2 h2
      | ret x M2 => rw [e2] at h2; exact h2
      | err => rw [e2] at h2; exact h2
      | bad => rw [e2] at h2; exact h2.elim
end
/-! suites -/
@[simp] theorem catX_def (exs : List Str) (x c : Str) : catX exs x c = (decide (c ∈ exs) && subX c x) := nrfl rfl
@[simp] theorem subX_def (c d : Str) : subX c d = (decide (c = d) || (decide (d = "HeldError") || decide (d = "ValueError"))) := nrfl rfl
theorem suSem_in {exs : List Str} {spec : List SuS} {c : Str} (h : c ∈ exs) : suSem exs spec c = suBody c spec := by unfold suSem; rw [if_pos h]
@[simp] theorem suBody_nil (c : Str) : suBody c [] = sNil := nrfl rfl
@[simp] theorem suBody_cons (c : Str) (s : SuS) (r : List SuS) : suBody c (s :: r) = sSeq (s.sem c) (suBody c r) := nrfl rfl
@[simp] theorem suS_lst (c : Str) (j : Nat) (its : List SuI) : (SuS.lst j false its).sem c = sSet j (eLst (suLst c its)) := nrfl rfl
@[simp] theorem suS_add (c : Str) (j : Nat) (its : List SuI) : (SuS.lst j true its).sem c = sSet j (e2 oAdd (eVar j) (eLst (suLst c its))) := nrfl rfl
@[simp] theorem suS_con (c : Str) (j : Nat) (b : Bool) : (SuS.con j b).sem c = sSet j (eC (.bl b)) := nrfl rfl
@[simp] theorem suS_one (c : Str) (j : Nat) (it : SuI) : (SuS.one j it).sem c = sSet j (it.sem c) := nrfl rfl
@[simp] theorem suLst_nil (c : Str) : suLst c [] = dNil := nrfl rfl
@[simp] theorem suLst_cons (c : Str) (s : SuI) (r : List SuI) : suLst c (s :: r) = dCons (s.sem c) (suLst c r) := nrfl rfl
@[simp] theorem suI_var (c : Str) (j : Nat) : (SuI.var j).sem c = eVar j := nrfl rfl
@[simp] theorem suI_isi (c : Str) (cs : List Str) : (SuI.isi false cs).sem c = eC (.bl (cs.any (subX c))) := nrfl rfl
@[simp] theorem suI_isn (c : Str) (cs : List Str) : (SuI.isi true cs).sem c = eC (.bl (!cs.any (subX c))) := nrfl rfl
@[simp] theorem gone_some (i : Nat) (r : Env) : gone (some i) r = r.set i none := nrfl rfl
@[simp] theorem gone_none (r : Env) : gone none r = r := nrfl rfl
end MI
end
section
set_option linter.all false
set_option autoImplicit false
/-! MJ15: refusals; law k01 -/
namespace HW
open MI PySem
/-- a text that is no word that blends -/
def OddW (s : Str) : Prop := okS s = true ∧ s ≠ "both" ∧ s ≠ "either" ∧ s ≠ "less" ∧ s ≠ "just"
section
variable {T : Tab}
theorem truth_by_odd [i : HasF T "truth_by" F_truth_by] (n : Nat) (s : Str) (hs : OddW s) (a b : Bool) (M : Mem) : run T (n + 1) "truth_by" [.str s, .bl a, .bl b] M = .err "NoWord" M := by
  obtain ⟨h0, h1, h2, h3, h4⟩ := hs
  rw [run_has i, ← Res.wpx_err]
  refine wpx_run rfl ?_
  simp [F_truth_by, b_truth_by, h0, h1, h2, h3, h4]
theorem blend_odd [HasF T "edges_marked" F_edges_marked] [HasF T "truth_by" F_truth_by] [i : HasF T "blend" F_blend] (n : Nat) (s : Str) (hs : OddW s) (a b : Reach) (hl : a.2.length + b.2.length < 4000) (M : Mem) :
    run T (n + 2) "blend" [encR a, encR b, .str s] M = .err "NoWord" M := by
  have hlim := lim_big
  rw [run_has i, ← Res.wpx_err]
  refine wpx_run rfl ?_
  simp [F_blend, b_blend]
  rw [edges_marked_run n a M (by omega)]
  simp
  rw [edges_marked_run n b _ (by omega)]
  simp
  rw [truth_by_odd n s hs]
  simp
theorem law_refused_run [HasF T "edges_marked" F_edges_marked] [HasF T "truth_by" F_truth_by] [HasF T "blend" F_blend] [i : HasF T "_law_refused" F__law_refused] (n : Nat) (s : Str) (hs : OddW s) (a b : Bool) (x y : List Int) (hl : x.length + y.length < 4000) (M : Mem) :
    run T (n + 3) "_law_refused" [.str s, .bl a, .bl b, .tup [.tup (x.map D.int), .tup (y.map D.int)]] M = .ok (.d (.bl true)) M := by
  have hlim := lim_big
  rw [run_has i, ← Res.wp_eq]
  refine wp_run rfl ?_
  simp [F__law_refused, b__law_refused]
  rw [truth_by_odd (n + 1) s hs]
  have hin : ("NoWord" : Str) ∈ exsAll := by decide
  simp [hin, suSem_in hin]
  have hb := fun M => blend_odd (T := T) n s hs (a, x) (b, y) hl M
  simp [encR] at hb
  rw [hb]
  simp [hin, suSem_in hin]
  rw [oEq_l (as := [D.bl true, D.bl true, D.bl false]) (bs := [D.bl true, D.bl true, D.bl false]) (by simp) rfl (by simp) (by simp)]
  simp
  rw [oEq_l (as := [D.bl true, D.bl true, D.bl false]) (bs := [D.bl true, D.bl true, D.bl false]) (by simp) (by simp) (by simp) (by simp)]
  simp
def oddL : List D := [.str "", .str "Both", .str "both ", .str " either", .str "eithe", .str "eithers", .str "LESS", .str "les", .str "more", .str "juts", .str "or", .str "and", .str "not", .str "just\n"]
theorem odd_ix {M : Mem} {h : Nat} (hM : M[h]? = some (.lst oddL)) {k : Int} (h0 : 0 ≤ k) (h1 : k < 14) : ∃ s : Str, OddW s ∧ oIx (.d (.hdl h)) (.d (.int k)) M = .ok (.d (.str s)) M := by
  obtain ⟨d, ⟨w, hw, rfl⟩, e⟩ := oIx_lit (M := M) (x := .d (.hdl h)) (ds := oddL) (i := k) (P := fun d => ∃ s : Str, OddW s ∧ d = .str s) (by simp [hM]) h0 h1 (by
    simp only [oddL, List.forall_mem_cons]
    refine ⟨⟨_, ?_, rfl⟩, ⟨_, ?_, rfl⟩, ⟨_, ?_, rfl⟩, ⟨_, ?_, rfl⟩, ⟨_, ?_, rfl⟩, ⟨_, ?_, rfl⟩, ⟨_, ?_, rfl⟩, ⟨_, ?_, rfl⟩, ⟨_, ?_, rfl⟩, ⟨_, ?_, rfl⟩, ⟨_, ?_, rfl⟩, ⟨_, ?_, rfl⟩, ⟨_, ?_, rfl⟩, ⟨_, ?_, rfl⟩, fun _ h => nomatch h⟩
    all_goals (simp [OddW]))
  exact ⟨w, hw, e⟩
theorem law_k01_run [HasF T "edges_marked" F_edges_marked] [HasF T "truth_by" F_truth_by] [HasF T "blend" F_blend] [HasF T "_law_draw" F__law_draw] [HasF T "_law_due" F__law_due] [HasF T "_law_refused" F__law_refused] [i : HasF T "law" F_law_k01] (ns : List Int) (hns : ns.length ≤ 63) (n : Nat) :
    ∃ M, run T (n + 4) "law" [scr ns] [] = .ok (.d (.bl true)) M := by
  have : (run T (n + 4) "law" [scr ns] []).wp fun x M' => Kp (x = .d (.bl true)) := by
    have hlim := lim_big
    rw [run_has i]
    refine wp_run rfl ?_
    have dr : ∀ (k many : Int) M, 0 < many → run T (n + 3) "_law_draw" [scr ns, .int k, .int many] M = .ok (.d (.int (lawDraw ns k many))) M := fun k many M hm => law_draw_run (n + 2) ns k many hm M
    have l14 : (14 : Nat) ≤ lim := by omega
    have l8 : (8 : Nat) ≤ lim := by omega
    have l6 : (6 : Nat) ≤ lim := by omega
    have l4 : (4 : Nat) ≤ lim := by omega
    have l2 : (2 : Nat) ≤ lim := by omega
    simp [F_law_k01, b_law_k01, l14, l8, l6, l4]
    refine ⟨by omega, ?_⟩
    have ref : ∀ (s : Str) (a b : Bool) (x y : List Int) M, OddW s → x.length + y.length < 4000 → run T (n + 3) "_law_refused" [.str s, .bl a, .bl b, .tup [.tup (x.map D.int), .tup (y.map D.int)]] M = .ok (.d (.bl true)) M := fun s a b x y M hs hl => law_refused_run n s hs a b x y hl M
    generalize hM0 : ([O.lst wordsL, O.lst [.str "", .str "Both", .str "both ", .str " either", .str "eithe", .str "eithers", .str "LESS", .str "les"], O.lst oddL] : Mem) = M0
    have hM1 : ([O.lst [D.str "both", D.str "either", D.str "less", D.str "just"], O.lst [.str "", .str "Both", .str "both ", .str " either", .str "eithe", .str "eithers", .str "LESS", .str "les"], O.lst [.str "", .str "Both", .str "both ", .str " either", .str "eithe", .str "eithers", .str "LESS", .str "les", .str "more", .str "juts", .str "or", .str "and", .str "not", .str "just\n"]] : Mem) = M0 := hM0
    rw [hM1]
    have g0 : M0[0]? = some (.lst wordsL) := by rw [← hM0]; rfl
    have g2 : M0[2]? = some (.lst oddL) := by rw [← hM0]; rfl
    refine forL_range (fun j env M' => M' = M0 ∧ ∃ (j3 j4 j5 j6 j7 j8 : Option D), env = [some (scr ns), some (.hdl 0), some (.hdl 2), j3, j4, j5, j6, j7, j8]) ?_ ?_ _ _ ⟨rfl, _, _, _, _, _, _, rfl⟩
    · rintro _ M' ⟨rfl, j3, j4, j5, j6, j7, j8, rfl⟩
      simp [dr]
      obtain ⟨s, hs, e⟩ := odd_ix g2 (k := lawDraw ns 63 14) (lawDraw_nn _ _ (by decide)) (lawDraw_lt _ _ (by decide))
      simp [e]
      have := ref s true false [] [] M' hs (by simp)
      simp at this
      simp [this]
      rfl
    · rintro j _ _ hj ⟨rfl, j3, j4, j5, j6, j7, j8, rfl⟩
      have w0 := lawDraw_nn ns (j : Int) (show (0 : Int) < 16 by decide)
      have w1 := lawDraw_lt ns (j : Int) (show (0 : Int) < 16 by decide)
      have v0 := lawDraw_nn ns (j : Int) (show (0 : Int) < 224 by decide)
      have v1 := lawDraw_lt ns (j : Int) (show (0 : Int) < 224 by decide)
      obtain ⟨w, ew⟩ := words_ix g0 (k := lawDraw ns (j : Int) 16 / 4) (by omega) (by omega)
      obtain ⟨s, hs, es⟩ := odd_ix g2 (k := lawDraw ns (j : Int) 224 / 16) (by omega) (by omega)
      have tb : ∀ a b M, run T (n + 3) "truth_by" [.str w.s, .bl a, .bl b] M = .ok (.d (.bl (w.tb a b))) M := fun a b M => truth_by_run (n + 2) w a b M
      have du : ∀ a b M, run T (n + 3) "_law_due" [.str w.s, .bl a, .bl b] M = .ok (.d (.bl (w.tb a b))) M := fun a b M => law_due_run (n + 2) w a b M
      obtain ⟨d, ⟨x, y, hxy, rfl⟩, ed⟩ := oIx_litO (ds := [D.tup [.tup [.int 3, .int 5], .tup []], D.tup [.tup [], .tup []], D.tup [.tup [.int 3], .tup [.int 3]], D.tup [.tup [], .tup [.int (-4)]]]) (i := lawDraw ns ((j : Int) + 70) 4) (P := fun d => ∃ x y : List Int, x.length + y.length < 4000 ∧ d = .tup [.tup (x.map D.int), .tup (y.map D.int)]) (lawDraw_nn _ _ (by decide)) (lawDraw_lt _ _ (by decide))
        (by simp only [List.forall_mem_cons]; exact ⟨⟨[3, 5], [], by decide, rfl⟩, ⟨[], [], by decide, rfl⟩, ⟨[3], [3], by decide, rfl⟩, ⟨[], [-4], by decide, rfl⟩, fun _ h => nomatch h⟩)
      simp [dr, ew, tb, du, l2, l4, show (1 : Nat) ≤ lim by omega, ed, es, ref s _ _ x y _ hs hxy]
      exact ⟨rfl, _, _, _, _, _, _, rfl⟩
  obtain ⟨x, M', e, rfl⟩ := Res.wp_ex this
  exact ⟨M', e⟩
end
end HW
end
section
set_option linter.all false
set_option autoImplicit false
namespace HW
open MI PySem
section
variable {T : Tab}
theorem law_long_ex [HasF T "_law_draw" F__law_draw] [HasF T "_law_far" F__law_far] [i : HasF T "_law_long" F__law_long] (ns : List Int) (hns : ns.length ≤ 63) (n : Nat) (M : Mem) :
    ∃ r : Reach, Rising r.2 ∧ r.2.length ≤ 63 ∧ Bd r.2 ∧ run T (n + 3) "_law_long" [scr ns] M = .ok (.d (encR r)) M := by
  have : (run T (n + 3) "_law_long" [scr ns] M).wp fun x M' => Kp (M' = M ∧ ∃ r : Reach, Rising r.2 ∧ r.2.length ≤ 63 ∧ Bd r.2 ∧ x = .d (encR r)) := by
    have hlim := lim_big
    rw [run_has i]
    refine wp_run rfl ?_
    simp [F__law_long, b__law_long]
    obtain ⟨v, hv0, hv1, hv⟩ := law_far_ex (T := T) ns 20
    rw [hv]
    simp
    refine ⟨by omega, ?_⟩
    refine forL_range (fun j env M' => ∃ (acc : List Int) (e : Int) (jj : Option D), env = [some (scr ns), some (.hdl M.length), some (.int e), jj] ∧ M' = M ++ [.lst (acc.map D.int)] ∧
      Rising acc ∧ (∀ x ∈ acc, x < e) ∧ acc.length ≤ j ∧ Bd acc ∧ -(5 * 10 ^ 49) ≤ e ∧ e ≤ 10 ^ 50 + (j : Int) * (10 ^ 47 + 1)) ?_ ?_ _ _ ⟨[], _, _, rfl, rfl, .nil, by simp, by simp, Bd.nil, by omega, by omega⟩
    · rintro _ _ ⟨acc, e, jj, rfl, rfl, h1, h2, h3, h4, h5, h6⟩
      simp
      rw [law_draw_run _ _ _ _ (by decide)]
      simp
      exact ⟨rfl, (_, acc), h1, by show acc.length ≤ 63; omega, h4, rfl⟩
    · rintro j _ _ hj ⟨acc, e, jj, rfl, rfl, h1, h2, h3, h4, h5, h6⟩
      have hacc : acc.length < lim := by omega
      simp [hacc]
      obtain ⟨v2, hv20, hv21, hv2⟩ := law_far_ex (T := T) ns (30 + (j : Int))
      rw [hv2]
      simp
      rw [law_draw_run _ _ _ _ (by decide)]
      simp
      obtain ⟨d, ⟨m, hm0, hm3, rfl⟩, he⟩ := oIx_lit (M := M ++ [.lst (acc.map D.int ++ [D.int e])]) (x := .o (.lst [.int 1, .int 3, .int (10 ^ 47)])) (i := lawDraw ns (100 + (j : Int)) 3) (P := fun d => ∃ m : Int, 0 < m ∧ m ≤ 10 ^ 47 ∧ d = .int m) rfl (lawDraw_nn _ _ (by decide)) (lawDraw_lt _ _ (by decide))
        (by simp only [List.forall_mem_cons]; exact ⟨⟨1, by decide, by decide, rfl⟩, ⟨3, by decide, by decide, rfl⟩, ⟨10 ^ 47, by decide, by decide, rfl⟩, fun _ h => nomatch h⟩)
      simp at he
      rw [he]
      simp [hm0]
      have hm5 := Int.emod_nonneg v2 (show m ≠ 0 by omega)
      have hm4 := Int.emod_lt_of_pos v2 hm0
      refine ⟨acc ++ [e], _, _, rfl, by simp, h1.snoc h2, ?_, by simp; omega, h4.snoc ⟨by omega, by omega⟩, by omega, by omega⟩
      intro x hx
      rcases List.mem_append.mp hx with q | q
      · have := h2 x q; omega
      · rw [List.mem_singleton.mp q]; omega
  obtain ⟨x, M', e, rfl, r, h1, h2, h3, rfl⟩ := Res.wp_ex this
  exact ⟨r, h1, h2, h3, e⟩
theorem law_k02_run [HasF T "lies_in" F_lies_in] [HasF T "_law_draw" F__law_draw] [HasF T "_law_far" F__law_far] [HasF T "_law_reach" F__law_reach_k02] [HasF T "_law_in" F__law_in] [HasF T "_law_points" F__law_points] [HasF T "_law_long" F__law_long]
    [i : HasF T "law" F_law_k02] (ns : List Int) (hns : ns.length ≤ 63) (n : Nat) : ∃ M, run T (n + 4) "law" [scr ns] [] = .ok (.d (.bl true)) M := by
  have : (run T (n + 4) "law" [scr ns] []).wp fun x M' => Kp (x = .d (.bl true)) := by
    rw [run_has i]
    refine wp_run rfl ?_
    simp [F_law_k02, b_law_k02]
    obtain ⟨r1, a1, a2, a3, e1⟩ := law_reach_ex (T := T) ns 0 n []
    rw [e1]
    simp
    obtain ⟨r2, c1, c2, c3, e2⟩ := law_long_ex (T := T) ns hns n []
    rw [e2]
    simp
    refine forL_wp encR (fun l env M' => ∃ (j1 j2 j3 j4 j5 : Option D), env = [some (scr ns), j1, j2, j3, j4, j5] ∧ ∀ r ∈ l, Rising r.2 ∧ r.2.length ≤ 63 ∧ Bd r.2) ?_ ?_ [r1, r2] _ _ ⟨_, _, _, _, _, rfl, ?_⟩
    · rintro _ M ⟨j1, j2, j3, j4, j5, rfl, _⟩
      simp
      rfl
    · rintro r l _ M ⟨j1, j2, j3, j4, j5, rfl, hr⟩
      obtain ⟨d1, d2, d3⟩ := hr r List.mem_cons_self
      have hr2 : ∀ x ∈ l, Rising x.2 ∧ x.2.length ≤ 63 ∧ Bd x.2 := fun x hx => hr x (List.mem_cons_of_mem _ hx)
      have hi : ∀ (k : Int) M, run T (n + 3) "lies_in" [encR r, .int k] M = .ok (.d (.bl (liesIn r k))) M := fun k M => lies_in_run (n + 2) r k M
      have hlow : liesIn r (-10 ^ 59) = r.1 := liesIn_gt (f := r.1) fun e he => by have := d3 e he; omega
      have hlies : ∀ (k : Int) M, run T (n + 3) "_law_in" [encR r, .int k] M = .ok (.d (.bl (liesIn r k))) M := fun k M => law_in_run (n + 2) r k M (by have := lim_big; omega)
      simp at hlow
      simp [hi, hlow]
      refine forL_wp D.int (fun l2 env M' => ∃ (t : Bool) (j3 j4 j5 : Option D) (done : List Int), env = [some (scr ns), some (encR r), some (.bl t), j3, j4, j5] ∧ r.2 = done ++ l2 ∧ ∀ k, (∀ x ∈ done, x ≤ k) → liesIn r k = liesIn (t, l2) k) ?_ ?_ _ _ _ ⟨_, _, _, _, [], rfl, rfl, fun k _ => rfl⟩
      · rintro _ M ⟨t, j3, j4, j5, done, rfl, hd, ht⟩
        have hhigh := ht (10 ^ 59) fun x hx => by have := d3 x (by rw [hd, List.append_nil]; exact hx); omega
        rw [liesIn_nil] at hhigh
        simp at hhigh
        simp [hi, hhigh]
        obtain ⟨ps, hps⟩ := law_points_ex (T := T) (n + 2) [r] M.length (M ++ [.lst [encR r]]) (by simp) (by simp) (fun x hx => by rw [List.mem_singleton.mp hx]; omega)
        rw [hps]
        simp
        refine forL_wp D.int (fun l3 env M' => ∃ (j2 j3 j4 j5 : Option D), env = [some (scr ns), some (encR r), j2, j3, j4, j5]) ?_ ?_ _ _ _ ⟨_, _, _, _, rfl⟩
        · rintro _ M ⟨j2, j3, j4, j5, rfl⟩
          exact ⟨rfl, _, _, _, _, _, rfl, hr2⟩
        · rintro p l3 _ M ⟨j2, j3, j4, j5, rfl⟩
          simp [hi, hlies]
          exact ⟨_, _, _, _, rfl⟩
      · rintro e l2 _ M ⟨t, j3, j4, j5, done, rfl, hd, ht⟩
        have hr3 := d1
        rw [hd] at hr3
        unfold Rising at hr3
        rw [List.pairwise_append, List.pairwise_cons] at hr3
        have h1 : liesIn r (e - 1) = t := by
          rw [ht (e - 1) fun x hx => by have := hr3.2.2 x hx e List.mem_cons_self; omega]
          refine liesIn_gt fun x hx => ?_
          rcases List.mem_cons.mp hx with q | q
          · omega
          · have := hr3.2.1.1 x q; omega
        have h2 : ∀ k, (∀ x ∈ done ++ [e], x ≤ k) → liesIn r k = liesIn (!t, l2) k := fun k hk => by
          rw [ht k fun x hx => hk x (List.mem_append_left _ hx), liesIn_cons, if_pos (hk e (List.mem_append_right _ (List.mem_singleton.mpr rfl)))]
        have h3 : liesIn r e = !t := by
          rw [h2 e fun x hx => ?_, liesIn_gt hr3.2.1.1]
          rcases List.mem_append.mp hx with q | q
          · have := hr3.2.2 x q e List.mem_cons_self; omega
          · rw [List.mem_singleton.mp q]; exact Int.le_refl _
        simp [hi, h1, h3]
        exact ⟨_, _, _, _, done ++ [e], rfl, by rw [hd]; simp, h2⟩
    · intro r hr
      simp only [List.mem_cons, List.not_mem_nil, or_false] at hr
      rcases hr with rfl | rfl
      · exact ⟨a1, by omega, a3⟩
      · exact ⟨c1, c2, c3⟩
  obtain ⟨x, M', e, rfl⟩ := Res.wp_ex this
  exact ⟨M', e⟩
end
end HW
end
section
set_option linter.all false
set_option autoImplicit false
/-! MK3: the runs of a reach -/
namespace HW
abbrev Run := Option Int × Option Int
def runsGo : Bool → Option Int → List Int → List Run
  | t, low, [] => if t = true then [(low, none)] else []
  | t, low, e :: r => if t = true then (low, some e) :: runsGo (!t) (some e) r else runsGo (!t) (some e) r
def runsOf (r : Reach) : List Run := runsGo r.1 none r.2
def prs : List (Option Int) → List Run
  | a :: b :: r => (a, b) :: prs r
  | _ => []
def ends : Bool → Option Int → List Int → List (Option Int)
  | true, low, l => low :: (l.map some ++ if l.length % 2 = 0 then [none] else [])
  | false, _, l => l.map some ++ if l.length % 2 = 1 then [none] else []
theorem prs_ends : ∀ (l : List Int) (t : Bool) (low : Option Int), prs (ends t low l) = runsGo t low l
  | [], t, low => by cases t <;> rfl
  | e :: r, true, low => by
    have ih := prs_ends r false (some e)
    have hp : ((e :: r).length % 2 = 0) ↔ (r.length % 2 = 1) := by simp only [List.length_cons]; omega
    simp only [ends, runsGo, if_true, Bool.not_true, ← ih, List.map_cons, List.cons_append, prs, hp]
  | e :: r, false, low => by
    have ih := prs_ends r true (some e)
    have hp : ((e :: r).length % 2 = 1) ↔ (r.length % 2 = 0) := by simp only [List.length_cons]; omega
    simp only [ends, runsGo, Bool.false_eq_true, if_false, Bool.not_false, ← ih, List.map_cons, List.cons_append, hp]
theorem ends_even (t : Bool) (low : Option Int) (l : List Int) : (ends t low l).length % 2 = 0 := by
  cases t <;> simp only [ends, List.length_cons, List.length_append, List.length_map]
  · split <;> simp <;> omega
  · split <;> simp <;> omega
theorem prs_range : ∀ (es : List (Option Int)), es.length % 2 = 0 → (List.range (es.length / 2)).map (fun k => ((es.getD (2 * k) none), (es.getD (2 * k + 1) none))) = prs es
  | [], _ => rfl
  | [a], h => by simp at h
  | a :: b :: r, h => by
    have ih := prs_range r (by simp only [List.length_cons] at h; omega)
    have e : (a :: b :: r).length / 2 = r.length / 2 + 1 := by simp only [List.length_cons]; omega
    rw [e, List.range_succ_eq_map, List.map_cons, List.map_map]
    simp only [prs]
    refine List.cons_eq_cons.mpr ⟨rfl, ?_⟩
    rw [← ih]
    refine List.map_congr_left fun k _ => ?_
    simp only [Function.comp, Nat.succ_eq_add_one]
    have e1 : 2 * (k + 1) = 2 * k + 1 + 1 := by omega
    rw [e1]
    rfl
def inRun (p : Int) (r : Run) : Bool := (match r.1 with | none => true | some l => decide (l ≤ p)) && (match r.2 with | none => true | some h => decide (p < h))
theorem runs_high (p : Int) : ∀ (l : List Int) (t : Bool) (e : Int), p < e → Rising (e :: l) → (runsGo t (some e) l).any (inRun p) = false
  | [], t, e, h, _ => by
    cases t
    · rfl
    · have : ¬ e ≤ p := by omega
      simp [runsGo, inRun, this]
  | x :: r, t, e, h, hr => by
    obtain ⟨h1, h2⟩ := Rising.cons.mp hr
    have hx := h1 x List.mem_cons_self
    have ih := runs_high p r (!t) x (by omega) h2
    have : ¬ e ≤ p := by omega
    cases t <;> simp only [Bool.not_true, Bool.not_false] at ih <;> simp [runsGo, inRun, this, ih]
theorem runs_lies (p : Int) : ∀ (l : List Int) (t : Bool) (low : Option Int), Rising l → (∀ e, low = some e → e ≤ p) → (runsGo t low l).any (inRun p) = liesIn (t, l) p
  | [], t, low, _, hl => by
    rw [liesIn_nil]
    cases t
    · rfl
    · cases low with
      | none => rfl
      | some e => have := hl e rfl; simp [runsGo, inRun, this]
  | x :: r, t, low, hr, hl => by
    obtain ⟨h1, h2⟩ := Rising.cons.mp hr
    rw [liesIn_cons]
    by_cases hx : x ≤ p
    · have ih := runs_lies p r (!t) (some x) h2 (fun e q => by cases q; exact hx)
      rw [if_pos hx, ← ih]
      have : ¬ p < x := by omega
      cases t
      · rfl
      · simp [runsGo, inRun, this]
    · rw [if_neg hx, liesIn_gt fun e he => by have := h1 e he; omega]
      have hh := runs_high p r (!t) x (by omega) hr
      cases t
      · exact hh
      · have : p < x := by omega
        cases low with
        | none => simp [runsGo, inRun, this]
        | some e => have := hl e rfl; simp [runsGo, inRun, *]
theorem runsOf_lies {r : Reach} (h : Rising r.2) (p : Int) : (runsOf r).any (inRun p) = liesIn r p := runs_lies p r.2 r.1 none h (fun e q => by cases q)
theorem runsGo_len : ∀ (l : List Int) (t : Bool) (low : Option Int), (runsGo t low l).length ≤ l.length + 1
  | [], t, low => by cases t <;> simp [runsGo]
  | x :: r, t, low => by
    have := runsGo_len r (!t) (some x)
    cases t <;> simp only [Bool.not_true, Bool.not_false] at this <;> simp [runsGo] <;> omega
end HW
end
section
set_option linter.all false
set_option autoImplicit false
/-! MJ16: runs; law k06 -/
namespace MI
section
variable {M : Mem}
@[simp] theorem oSlice_o (ds : List D) (lo hi : Option Int) : oSlice (.o (.lst ds)) lo hi M = .ok (.o (.lst (cut ds lo hi))) M := nrfl rfl
@[simp] theorem mInsert_def (n : Nat) (i : Int) (d : D) : mInsert n (.int i) d M = match M[n]? with
    | some (.lst ds) => if 0 ≤ i ∧ i < 2 ^ 62 ∧ ds.length < lim then .ok (.d .non) (M.set n (.lst (ds.take i.toNat ++ [d] ++ ds.drop i.toNat))) else .bad
    | _ => .bad := nrfl rfl
@[simp] theorem oSlice_ro (ds : List D) (lo hi : Option Int) : oSlice (.d (.ro ds)) lo hi M = .ok (.o (.lst (cut ds lo hi))) M := nrfl rfl
@[simp] theorem oSlice_hdl (n : Nat) (lo hi : Option Int) : oSlice (.d (.hdl n)) lo hi M = match M[n]? with
    | some (.lst ds) => .ok (.o (.lst (cut ds lo hi))) M
    | _ => .bad := by
  show (match lstOf (.d (.hdl n)) M with | some ds => Res.ok (RV.o (.lst (cut ds lo hi))) M | none => .bad) = _
  rw [lstOf_hdl]; cases M[n]? with
  | none => rfl
  | some o => cases o <;> rfl
theorem isTy_hdl (t : Ty) (n : Nat) : isTy t (.d (.hdl n)) M = match M[n]? with
    | some (.lst _) => some (decide (t = .list))
    | some (.dic _) => some (decide (t = .dict))
    | _ => none := by cases t <;> rfl
@[simp] theorem bIsi_hdl (t : Ty) (n : Nat) : bIsi t (.d (.hdl n)) M = match M[n]? with
    | some (.lst _) => .ok (.d (.bl (decide (t = .list)))) M
    | some (.dic _) => .ok (.d (.bl (decide (t = .dict)))) M
    | _ => .bad := by
  unfold bIsi
  rw [isTy_hdl]
  cases M[n]? with
  | none => rfl
  | some o => cases o <;> rfl
end
end MI
namespace HW
open MI PySem
def encRun (r : Run) : D := .tup [encO r.1, encO r.2]
section
variable {T : Tab}
theorem rgN_two (n : Nat) (h : n % 2 = 0) : rgN 0 (n : Int) 2 = n / 2 := by
  unfold rgN
  rw [if_pos (by decide)]
  omega
theorem encO_get (es : List (Option Int)) (k : Nat) (h : k < es.length) : (es.map encO)[k]? = some (encO (es.getD k none)) := by
  rw [List.getElem?_map, List.getElem?_eq_getElem h]
  simp [List.getD_eq_getElem?_getD, List.getElem?_eq_getElem h]
theorem runs_of_run [i : HasF T "runs_of" F_runs_of] (n : Nat) (r : Reach) (hl : r.2.length ≤ 1000) (M : Mem) : run T (n + 1) "runs_of" [encR r] M = .ok (.o (.lst ((runsOf r).map encRun))) M := by
  have hlim := lim_big
  rw [run_has i, ← Res.wp_eq]
  refine wp_run rfl ?_
  obtain ⟨f, l⟩ := r
  simp only at hl
  have last : ∀ es : List (Option Int), es.length % 2 = 0 → es.length ≤ 1002 → prs es = runsOf (f, l) → ∀ env : MI.Env, env = [some (encR (f, l)), some (.hdl M.length), none] →
      (sRet (eComp (eTup (dCons (MI.e2 oIx (eVar 1) (eVar 2)) (dCons (MI.e2 oIx (eVar 1) (MI.e2 oAdd (eVar 2) (eC (.int 1)))) dNil))) tYes (.nm 2) [2] (iRange3 (eC (.int 0)) (e1 bLen (eVar 1)) (eC (.int 2)))) (run T n) env (M ++ [.lst (es.map encO)])).wp
        (fun _ M' => (fin .pure M (.d .non) M').wp fun x M'' => x = .o (.lst ((runsOf (f, l)).map encRun)) ∧ M'' = M) (fun x M' => (fin .pure M x M').wp fun x M'' => x = .o (.lst ((runsOf (f, l)).map encRun)) ∧ M'' = M) := by
    intro es h2 hl2 hp env henv
    subst henv
    simp
    refine ⟨by omega, ?_⟩
    rw [rgN_two _ h2]
    rw [show rngC 0 2 (es.length / 2) = (List.range (es.length / 2)).map fun k : Nat => D.int (0 + (k : Int) * 2) from rfl]
    rw [compL_allM (fun k : Nat => D.int (0 + (k : Int) * 2)) rfl (fun k : Nat => encRun (es.getD (2 * k) none, es.getD (2 * k + 1) none))]
    · have e : ((List.range (es.length / 2)).map fun k : Nat => encRun (es.getD (2 * k) none, es.getD (2 * k + 1) none)) = (prs es).map encRun := by
        rw [← prs_range es h2, List.map_map]; rfl
      rw [e, hp]
      have hb : D.bels M.length ((runsOf (f, l)).map encRun) = true := by
        generalize runsOf (f, l) = rs
        induction rs with
        | nil => rfl
        | cons a rs ih =>
          obtain ⟨a, b⟩ := a
          cases a <;> cases b <;> simp [encRun, encO, ih]
      simp [hb]
    · intro k hk
      have hk := List.mem_range.mp hk
      simp [← Res.wp_eq]
      have g1 := encO_get es (2 * k) (by omega)
      have g2 := encO_get es (2 * k + 1) (by omega)
      rw [oIx_seq (ds := es.map encO) (k := 2 * k) (by simp) (by rw [ixN_pos (by omega) (by simp; omega)]; congr 1; omega) g1]
      simp
      rw [oIx_seq (ds := es.map encO) (k := 2 * k + 1) (by simp) (by rw [ixN_pos (by omega) (by simp; omega)]; congr 1; omega) g2]
      simp [encRun]
    · simp; omega
  simp [F_runs_of, b_runs_of, encR]
  have hll : l.length < lim := by omega
  have hl2 : l.length + 1 < lim := by omega
  have ev := ends_even
  cases f
  · simp
    have q0 := prs_ends l false none
    have q1 := ends_even false none l
    simp only [ends] at q0 q1
    split
    · rename_i h
      have h' : l.length % 2 = 1 := by omega
      simp only [h', if_true] at q0 q1
      simp [hll]
      have q := last (l.map some ++ [none]) q1 (by simp; omega) q0 _ rfl
      simpa [encR, encO, Function.comp_def] using q
    · rename_i h
      have h' : ¬ l.length % 2 = 1 := by omega
      simp only [h', if_false, List.append_nil] at q0 q1
      have q := last (l.map some) q1 (by simp; omega) q0 _ rfl
      simpa [encR, encO, Function.comp_def] using q
  · simp [hll]
    have q0 := prs_ends l true none
    have q1 := ends_even true none l
    simp only [ends] at q0 q1
    split
    · rename_i h
      have h' : l.length % 2 = 0 := by omega
      simp only [h', if_true] at q0 q1
      simp [hl2]
      have q := last (none :: (l.map some ++ [none])) q1 (by simp; omega) q0 _ rfl
      simpa [encR, encO, Function.comp_def] using q
    · rename_i h
      have h' : ¬ l.length % 2 = 0 := by omega
      simp only [h', if_false, List.append_nil] at q0 q1
      have q := last (none :: l.map some) q1 (by simp; omega) q0 _ rfl
      simpa [encR, encO, Function.comp_def] using q
@[simp] theorem bels_runs (n : Nat) (rs : List Run) : D.bels n (rs.map encRun) = true := by
  induction rs with
  | nil => rfl
  | cons a rs ih =>
    obtain ⟨a, b⟩ := a
    cases a <;> cases b <;> simp [encRun, encO, ih]
theorem bels_append (n : Nat) (a b : List D) : D.bels n (a ++ b) = (D.bels n a && D.bels n b) := by
  induction a with
  | nil => simp
  | cons x a ih => simp [ih, Bool.and_assoc]
theorem law_due_k06_run [i : HasF T "_law_due" F__law_due_k06] (n : Nat) (r : Reach) (hl : r.2.length ≤ 1000) (M : Mem) : run T (n + 1) "_law_due" [encR r] M = .ok (.o (.lst ((runsOf r).map encRun))) M := by
  have hlim := lim_big
  rw [run_has i, ← Res.wp_eq]
  refine wp_run rfl ?_
  simp [F__law_due_k06, b__law_due_k06]
  refine forL_wp D.int (fun l env M' => ∃ (acc : List Run) (t : Bool) (low : Option Int) (j : Option D), env = [some (encR r), some (.hdl M.length), some (.bl t), some (encO low), j] ∧ M' = M ++ [.lst (acc.map encRun)] ∧ acc.length + l.length ≤ r.2.length ∧ acc ++ runsGo t low l = runsOf r) ?_ ?_ _ _ _ ⟨[], _, none, _, rfl, rfl, by simp, rfl⟩
  · rintro _ _ ⟨acc, t, low, j, rfl, rfl, h1, h2⟩
    have hll : acc.length < lim := by simp at h1; omega
    cases t
    · simp only [runsGo, Bool.false_eq_true, if_false, List.append_nil] at h2
      subst h2
      simp
    · simp only [runsGo, if_true] at h2
      simp [hll, ← h2, encRun, encO]
      cases low <;> simp [encO, bels_append]
  · rintro e l _ _ ⟨acc, t, low, j, rfl, rfl, h1, h2⟩
    have hll : acc.length < lim := by simp at h1; omega
    simp only [List.length_cons] at h1
    cases t
    · simp only [runsGo, Bool.false_eq_true, if_false] at h2
      simp
      exact ⟨acc, _, some e, _, rfl, rfl, by omega, h2⟩
    · simp only [runsGo, if_true] at h2
      simp [hll]
      exact ⟨acc ++ [(low, some e)], _, some e, _, rfl, by simp [encRun, encO], by simp; omega, by rw [← h2]; simp⟩
@[simp] theorem deq_O (a b : Option Int) : deq (encO a) (encO b) = decide (a = b) := by
  cases a <;> cases b <;> simp [encO]
@[simp] theorem pl_O (n : Nat) (a : Option Int) : pl n (encO a) = true := by cases a <;> simp [encO]
theorem deq_Run (a b : Run) : deq (encRun a) (encRun b) = decide (a = b) := by
  obtain ⟨a1, a2⟩ := a
  obtain ⟨b1, b2⟩ := b
  simp only [encRun, deq_tup, deqs_cons, deq_O, deqs_nil, Bool.and_true, Prod.mk.injEq, Bool.decide_and]
theorem pl_Run (n : Nat) (a : Run) : pl (n + 1) (encRun a) = true := by simp [encRun]
theorem law_pairs_run [HasF T "_law_whole" F__law_whole_k03] [i : HasF T "_law_pairs" F__law_pairs_k06] (n : Nat) (rs : List Run) (h h' : Nat) (M : Mem) (hM : M[h]? = some (.lst (rs.map encRun))) (hM' : M[h']? = some (.lst (rs.map encRun))) :
    run T (n + 2) "_law_pairs" [.hdl h, .hdl h'] M = .ok (.d (.bl true)) M := by
  rw [run_has i, ← Res.wp_eq]
  refine wp_run rfl ?_
  simp [F__law_pairs_k06, b__law_pairs_k06, hM, hM']
  refine forL_wp encRun (fun l env M' => ∃ (j2 j3 : Option D), env = [some (.hdl h), some (.hdl h'), j2, j3] ∧ M' = M) ?_ ?_ _ _ _ ⟨_, _, rfl, rfl⟩
  · rintro _ M' ⟨j2, j3, rfl, rfl⟩
    simp [hM, hM']
    rw [oEq_l (as := rs.map encRun) (bs := rs.map encRun) (by simp [hM]) (by simp [hM']) (pls_map fun _ _ => pl_Run _ _) (pls_map fun _ _ => pl_Run _ _), deqs_map deq_Run]
    simp
  · rintro a l _ M' ⟨j2, j3, rfl, rfl⟩
    obtain ⟨lo, hi⟩ := a
    simp [hM, encRun]
    refine forL_wp encO (fun l env M'' => ∃ (j3 : Option D), env = [some (.hdl h), some (.hdl h'), some (.tup [encO lo, encO hi]), j3] ∧ M'' = M') ?_ ?_ [lo, hi] _ _ ⟨_, rfl, rfl⟩
    · rintro _ _ ⟨j3, rfl, rfl⟩
      simp
      exact ⟨_, _, rfl, rfl⟩
    · rintro e l2 _ _ ⟨j3, rfl, rfl⟩
      cases e with
      | none =>
        simp [encO]
        exact ⟨_, rfl, rfl⟩
      | some v =>
        simp [encO]
        rw [law_whole_run]
        simp
        exact ⟨_, rfl, rfl⟩
theorem law_within_run [i : HasF T "_law_within" F__law_within] (n : Nat) (rs : List Run) (h : Nat) (p : Int) (M : Mem) (hM : M[h]? = some (.lst (rs.map encRun))) :
    run T (n + 1) "_law_within" [.hdl h, .int p] M = .ok (.d (.bl (rs.any (inRun p)))) M := by
  rw [run_has i, ← Res.wp_eq]
  refine wp_run rfl ?_
  simp [F__law_within, b__law_within, hM]
  refine forL_wp encRun (fun l env M' => ∃ (j2 j3 : Option D), env = [some (.hdl h), some (.int p), j2, j3] ∧ M' = M ∧ l.any (inRun p) = rs.any (inRun p)) ?_ ?_ _ _ _ ⟨_, _, rfl, rfl, rfl⟩
  · rintro _ M' ⟨j2, j3, rfl, rfl, hr⟩
    simp only [List.any_nil] at hr
    simp [hM, ← hr]
  · rintro a l _ M' ⟨j2, j3, rfl, rfl, hr⟩
    obtain ⟨lo, hi⟩ := a
    rw [List.any_cons] at hr
    have key : inRun p (lo, hi) = true ∨ inRun p (lo, hi) = false := by cases inRun p (lo, hi) <;> simp
    rcases key with q | q
    · rw [q, Bool.true_or] at hr
      rw [← hr]
      unfold inRun at q
      cases lo <;> cases hi <;> simp at q <;> simp [hM, encO, encRun, q]
    · rw [q, Bool.false_or] at hr
      unfold inRun at q
      cases lo with
      | none =>
        cases hi with
        | none => simp at q
        | some hi =>
          have q' : ¬ p < hi := by simpa using q
          simp [hM, encO, encRun, q']
          refine ⟨_, _, rfl, ?_⟩
          simpa using hr
      | some lo =>
        cases hi with
        | none =>
          have q' : ¬ lo ≤ p := by simpa using q
          simp [hM, encO, encRun, q']
          refine ⟨_, _, rfl, ?_⟩
          simpa using hr
        | some hi =>
          by_cases c : lo ≤ p
          · have q' : ¬ p < hi := by simpa [c] using q
            simp [hM, encO, encRun, c, q']
            refine ⟨_, _, rfl, ?_⟩
            simpa using hr
          · simp [hM, encO, encRun, c]
            refine ⟨_, _, rfl, ?_⟩
            simpa using hr
theorem law_k06_run [HasF T "runs_of" F_runs_of] [HasF T "_law_draw" F__law_draw] [HasF T "_law_far" F__law_far] [HasF T "_law_reach" F__law_reach_k02] [HasF T "_law_in" F__law_in] [HasF T "_law_points" F__law_points] [HasF T "_law_whole" F__law_whole_k03] [HasF T "_law_long" F__law_long]
    [HasF T "_law_due" F__law_due_k06] [HasF T "_law_pairs" F__law_pairs_k06] [HasF T "_law_within" F__law_within] [i : HasF T "law" F_law_k06] (ns : List Int) (hns : ns.length ≤ 63) (n : Nat) : ∃ M, run T (n + 4) "law" [scr ns] [] = .ok (.d (.bl true)) M := by
  have : (run T (n + 4) "law" [scr ns] []).wp fun x M' => Kp (x = .d (.bl true)) := by
    rw [run_has i]
    refine wp_run rfl ?_
    simp [F_law_k06, b_law_k06]
    obtain ⟨r1, a1, a2, a3, e1⟩ := law_reach_ex (T := T) ns 0 n []
    rw [e1]
    simp
    obtain ⟨r2, c1, c2, c3, e2⟩ := law_long_ex (T := T) ns hns n []
    rw [e2]
    simp
    refine forL_wp encR (fun l env M' => ∃ (j1 j2 j3 : Option D), env = [some (scr ns), j1, j2, j3] ∧ ∀ r ∈ l, Rising r.2 ∧ r.2.length ≤ 63) ?_ ?_ [r1, r2] _ _ ⟨_, _, _, rfl, ?_⟩
    · rintro _ M ⟨j1, j2, j3, rfl, _⟩
      simp
      rfl
    · rintro r l _ M ⟨j1, j2, j3, rfl, hr⟩
      obtain ⟨d1, d2⟩ := hr r List.mem_cons_self
      have hr2 : ∀ x ∈ l, Rising x.2 ∧ x.2.length ≤ 63 := fun x hx => hr x (List.mem_cons_of_mem _ hx)
      have d3 : r.2.length ≤ 1000 := by omega
      simp
      rw [runs_of_run (n + 2) r d3]
      simp
      rw [law_due_k06_run (n + 2) r d3]
      simp
      rw [law_pairs_run (n + 1) (runsOf r) _ _ _ (by simp) (by simp)]
      simp
      obtain ⟨ps, hps⟩ := law_points_ex (T := T) (n + 2) [r] (M.length + 2) (M ++ [.lst ((runsOf r).map encRun), .lst ((runsOf r).map encRun), .lst [encR r]]) (by simp) (by simp) (fun x hx => by rw [List.mem_singleton.mp hx]; omega)
      rw [hps]
      simp
      rw [show cut (ps.map D.int) none (some 60) = (ps.take 60).map D.int by rw [cut_to _ (by decide), List.map_take]; rfl]
      refine forL_wp D.int (fun l3 env M' => M'[M.length]? = some (.lst ((runsOf r).map encRun)) ∧ ∃ (j3 : Option D), env = [some (scr ns), some (encR r), some (.hdl M.length), j3]) ?_ ?_ _ _ _ ⟨by simp, _, rfl⟩
      · rintro _ M' ⟨hM', j3, rfl⟩
        simp
        exact ⟨_, _, _, rfl, hr2⟩
      · rintro p l3 _ M' ⟨hM', j3, rfl⟩
        simp
        rw [law_within_run (n + 2) (runsOf r) _ _ _ hM', runsOf_lies d1]
        simp
        rw [law_in_run (n + 2) _ _ _ (by have := lim_big; omega)]
        simp
        exact ⟨hM', _, rfl⟩
    · intro r hr
      simp only [List.mem_cons, List.not_mem_nil, or_false] at hr
      rcases hr with rfl | rfl
      · exact ⟨a1, by omega⟩
      · exact ⟨c1, c2⟩
  obtain ⟨x, M', e, rfl⟩ := Res.wp_ex this
  exact ⟨M', e⟩
end
end HW
end
section
set_option linter.all false
set_option autoImplicit false
/-! MK4: plots, plainly -/
namespace HW
open MI (sortI insI dedI)
abbrev Step := Int × Reach
abbrev Plot := Reach × List Step
def stp (t : Int) (here : Reach) (s : Step) : Reach := if s.1 ≤ t then s.2 else here
def atL (g : Reach) (ss : List Step) (t : Int) : Reach := ss.foldl (stp t) g
def atP (p : Plot) (t : Int) : Reach := atL p.1 p.2 t
def turnsOf (p : Plot) : List Int := p.2.map (·.1)
def Alt : Reach → List Step → Prop
  | _, [] => True
  | g, s :: r => s.2 ≠ g ∧ Alt s.2 r
structure POk (p : Plot) : Prop where
  g : Rising p.1.2
  ts : Rising (turnsOf p)
  rs : ∀ s ∈ p.2, Rising s.2.2
  alt : Alt p.1 p.2
theorem atL_nil (g : Reach) (t : Int) : atL g [] t = g := rfl
theorem atL_cons (g : Reach) (s : Step) (r : List Step) (t : Int) : atL g (s :: r) t = if s.1 ≤ t then atL s.2 r t else atL g r t := by
  simp only [atL, List.foldl_cons, stp]; split <;> rfl
theorem atL_gt {t : Int} : ∀ {ss : List Step} {g : Reach}, (∀ s ∈ ss, t < s.1) → atL g ss t = g
  | [], g, _ => rfl
  | s :: r, g, h => by
    rw [atL_cons, if_neg (by have := h s List.mem_cons_self; omega)]
    exact atL_gt fun x hx => h x (List.mem_cons_of_mem _ hx)
theorem turns_mem {ss : List Step} {P : Int → Prop} (h : ∀ t ∈ ss.map (·.1), P t) : ∀ s ∈ ss, P s.1 := fun s hs => h s.1 (List.mem_map_of_mem hs)
theorem turns_gt {s : Step} {r : List Step} (h : Rising ((s :: r).map (·.1))) : ∀ x ∈ r, s.1 < x.1 := turns_mem (P := fun t => s.1 < t) (Rising.cons.mp h).1
theorem atL_mem (g : Reach) (t : Int) : ∀ (ss : List Step), atL g ss t = g ∨ ∃ s ∈ ss, s.1 ≤ t ∧ atL g ss t = s.2
  | [] => .inl rfl
  | s :: r => by
    rw [atL_cons]
    split
    · rename_i h
      rcases atL_mem s.2 t r with q | ⟨x, hx, h1, q⟩
      · exact .inr ⟨s, List.mem_cons_self, h, q⟩
      · exact .inr ⟨x, List.mem_cons_of_mem _ hx, h1, q⟩
    · rcases atL_mem g t r with q | ⟨x, hx, h1, q⟩
      · exact .inl q
      · exact .inr ⟨x, List.mem_cons_of_mem _ hx, h1, q⟩
theorem atL_all {P : Reach → Prop} {g : Reach} {ss : List Step} (hg : P g) (h : ∀ s ∈ ss, P s.2) (t : Int) : P (atL g ss t) := by
  rcases atL_mem g t ss with q | ⟨s, hs, _, q⟩
  · rw [q]; exact hg
  · rw [q]; exact h s hs
theorem atP_rising {p : Plot} (h : POk p) (t : Int) : Rising (atP p t).2 := atL_all (P := fun r => Rising r.2) h.g h.rs t
/-- between the turns nothing changes -/
theorem atL_const {x t : Int} (hx : x ≤ t) : ∀ {ss : List Step} {g : Reach}, (∀ s ∈ ss, ¬ (x < s.1 ∧ s.1 ≤ t)) → atL g ss t = atL g ss x
  | [], g, _ => rfl
  | s :: r, g, h => by
    have h1 := h s List.mem_cons_self
    have h2 : ∀ y ∈ r, ¬ (x < y.1 ∧ y.1 ≤ t) := fun y hy => h y (List.mem_cons_of_mem _ hy)
    rw [atL_cons, atL_cons]
    by_cases c : s.1 ≤ x
    · rw [if_pos c, if_pos (by omega)]; exact atL_const hx h2
    · rw [if_neg c, if_neg (by omega)]; exact atL_const hx h2
theorem steps_ext : ∀ (A B : List Step) (g : Reach), Rising (A.map (·.1)) → Rising (B.map (·.1)) → Alt g A → Alt g B → (∀ t, atL g A t = atL g B t) → A = B
  | [], [], _, _, _, _, _, _ => rfl
  | [], b :: B, g, _, hB, _, aB, h => by
    have h1 := h b.1
    rw [atL_nil, atL_cons, if_pos (Int.le_refl _), atL_gt (turns_gt hB)] at h1
    exact absurd h1.symm aB.1
  | a :: A, [], g, hA, _, aA, _, h => by
    have h1 := h a.1
    rw [atL_nil, atL_cons, if_pos (Int.le_refl _), atL_gt (turns_gt hA)] at h1
    exact absurd h1 aA.1
  | a :: A, b :: B, g, hA, hB, aA, aB, h => by
    have gA := turns_gt hA
    have gB := turns_gt hB
    have key : ∀ (a b : Step) (A B : List Step), (∀ x ∈ A, a.1 < x.1) → (∀ x ∈ B, b.1 < x.1) → a.2 ≠ g → (∀ t, atL g (a :: A) t = atL g (b :: B) t) → b.1 ≤ a.1 := by
      intro a b A B gA gB na h
      rcases Int.lt_or_le a.1 b.1 with q | q
      · have h1 := h a.1
        rw [atL_cons, if_pos (Int.le_refl _), atL_gt gA, atL_gt (ss := b :: B) (fun x hx => ?_)] at h1
        · exact absurd h1 na
        · rcases List.mem_cons.mp hx with e | hx
          · rw [e]; exact q
          · have := gB x hx; omega
      · exact q
    have e1 := key a b A B gA gB aA.1 h
    have e2 := key b a B A gB gA aB.1 fun t => (h t).symm
    have et : a.1 = b.1 := by omega
    have er : a.2 = b.2 := by
      have h1 := h a.1
      rw [atL_cons, if_pos (Int.le_refl _), atL_gt gA, atL_cons, if_pos e1, atL_gt (fun x hx => by have := gB x hx; omega)] at h1
      exact h1
    have eab : a = b := Prod.ext et er
    subst eab
    rw [steps_ext A B a.2 (Rising.cons.mp hA).2 (Rising.cons.mp hB).2 aA.2 aB.2 fun t => ?_]
    by_cases c : a.1 ≤ t
    · have h1 := h t
      rwa [atL_cons, atL_cons, if_pos c, if_pos c] at h1
    · rw [atL_gt (fun x hx => by have := gA x hx; omega), atL_gt (fun x hx => by have := gB x hx; omega)]
theorem low_turn (l : List Step) : ∃ k : Int, ∀ s ∈ l, k < s.1 := by
  obtain ⟨k, h⟩ := low_point (l.map (·.1))
  exact ⟨k, turns_mem (P := fun t => k < t) h⟩
theorem plot_ext_at {p q : Plot} (hp : POk p) (hq : POk q) (h : ∀ t, atP p t = atP q t) : p = q := by
  obtain ⟨g, A⟩ := p
  obtain ⟨g', B⟩ := q
  have e : g = g' := by
    obtain ⟨k, hk⟩ := low_turn (A ++ B)
    have := h k
    rwa [atP, atP, atL_gt fun s hs => hk s (List.mem_append_left _ hs), atL_gt fun s hs => hk s (List.mem_append_right _ hs)] at this
  subst e
  rw [steps_ext A B g hp.ts hq.ts hp.alt hq.alt h]
/-- does a spot lie in a plot -/
def spot (p : Plot) (d t : Int) : Bool := liesIn (atP p t) d
theorem plot_ext {p q : Plot} (hp : POk p) (hq : POk q) (h : ∀ d t, spot p d t = spot q d t) : p = q :=
  plot_ext_at hp hq fun t => reach_ext (atP_rising hp t) (atP_rising hq t) fun d => h d t
/-! ### plots made -/
def mkS : Reach → List Step → List Step
  | _, [] => []
  | l, s :: r => if s.2 = l then mkS l r else s :: mkS s.2 r
def plotOf (g : Reach) (ps : List Step) : Plot := (g, mkS g ps)
theorem mkS_sub : ∀ (g : Reach) (ps : List Step), (mkS g ps).Sublist ps
  | _, [] => .slnil
  | l, s :: r => by
    unfold mkS
    split
    · exact (mkS_sub l r).cons s
    · exact (mkS_sub s.2 r).cons_cons s
theorem mkS_alt : ∀ (g : Reach) (ps : List Step), Alt g (mkS g ps)
  | _, [] => trivial
  | l, s :: r => by
    unfold mkS
    split
    · exact mkS_alt l r
    · rename_i h; exact ⟨h, mkS_alt s.2 r⟩
theorem mkS_at (t : Int) : ∀ (g : Reach) (ps : List Step), Rising (ps.map (·.1)) → atL g (mkS g ps) t = atL g ps t
  | _, [], _ => rfl
  | l, s :: r, h => by
    have h2 := (Rising.cons.mp h).2
    have gt := turns_gt h
    unfold mkS
    split
    · rename_i e
      rw [mkS_at t l r h2, atL_cons]
      split
      · rw [e]
      · rfl
    · rw [atL_cons, atL_cons]
      split
      · exact mkS_at t s.2 r h2
      · rename_i c
        rw [atL_gt (fun x hx => by have := gt x ((mkS_sub _ _).subset hx); omega), atL_gt (fun x hx => by have := gt x hx; omega)]
theorem plotOf_ok {g : Reach} {ps : List Step} (hg : Rising g.2) (ht : Rising (ps.map (·.1))) (hr : ∀ s ∈ ps, Rising s.2.2) : POk (plotOf g ps) :=
  ⟨hg, List.Pairwise.sublist ((mkS_sub g ps).map _) ht, fun s hs => hr s ((mkS_sub g ps).subset hs), mkS_alt g ps⟩
theorem plotOf_at {g : Reach} {ps : List Step} (ht : Rising (ps.map (·.1))) (t : Int) : atP (plotOf g ps) t = atL g ps t := mkS_at t g ps ht
theorem mkS_self : ∀ {g : Reach} {ps : List Step}, Alt g ps → mkS g ps = ps
  | _, [], _ => rfl
  | l, s :: r, h => by unfold mkS; rw [if_neg h.1, mkS_self h.2]
theorem plotOf_self {p : Plot} (h : POk p) : plotOf p.1 p.2 = p := by unfold plotOf; rw [mkS_self h.alt]
/-- a function of turns, told at its turns -/
theorem sample {F : Int → Reach} {t : Int} : ∀ {T : List Int} {g : Reach}, Rising T → ((∀ x ∈ T, t < x) → F t = g) → (∀ x ∈ T, x ≤ t → (∀ y ∈ T, ¬ (x < y ∧ y ≤ t)) → F t = F x) → atL g (T.map fun x => (x, F x)) t = F t
  | [], g, _, h0, _ => (h0 fun x hx => nomatch hx).symm
  | x :: r, g, hr, h0, hc => by
    obtain ⟨h1, h2⟩ := Rising.cons.mp hr
    rw [List.map_cons, atL_cons]
    by_cases c : x ≤ t
    · rw [if_pos c]
      refine sample h2 (fun h => hc x List.mem_cons_self c fun y hy => ?_) fun y hy hyt h => hc y (List.mem_cons_of_mem _ hy) hyt fun z hz => ?_
      · rcases List.mem_cons.mp hy with e | hy
        · omega
        · have := h y hy; omega
      · rcases List.mem_cons.mp hz with e | hz
        · have := h1 y hy; omega
        · exact h z hz
    · rw [if_neg c, atL_gt]
      · exact (h0 fun y hy => by
          rcases List.mem_cons.mp hy with e | hy
          · omega
          · have := h1 y hy; omega).symm
      · intro s hs
        obtain ⟨y, hy, rfl⟩ := List.mem_map.mp hs
        have := h1 y hy
        show t < y
        omega
theorem map_fst_map (T : List Int) (F : Int → Reach) : (T.map fun x => (x, F x)).map (·.1) = T := by
  rw [List.map_map]; exact List.map_id _
theorem sampled_ok {F : Int → Reach} {T : List Int} {g : Reach} (hT : Rising T) (hg : Rising g.2) (hF : ∀ t, Rising (F t).2) : POk (plotOf g (T.map fun x => (x, F x))) :=
  plotOf_ok hg (by rw [map_fst_map]; exact hT) fun s hs => by obtain ⟨y, _, rfl⟩ := List.mem_map.mp hs; exact hF y
/-! ### the blend of two plots -/
def blendP (w : W4) (a b : Plot) : Plot := plotOf (blend w a.1 b.1) ((ss (turnsOf a ++ turnsOf b)).map fun t => (t, blend w (atP a t) (atP b t)))
theorem blendP_ok (w : W4) (a b : Plot) : POk (blendP w a b) := sampled_ok (ss_rising _) (blend_rising _ _ _) fun _ => blend_rising _ _ _
theorem atP_low {p : Plot} {t : Int} (h : ∀ x ∈ turnsOf p, t < x) : atP p t = p.1 := atL_gt (turns_mem (P := fun x => t < x) h)
theorem atP_const {p : Plot} {x t : Int} (hx : x ≤ t) (h : ∀ y ∈ turnsOf p, ¬ (x < y ∧ y ≤ t)) : atP p t = atP p x := atL_const hx (turns_mem (P := fun y => ¬ (x < y ∧ y ≤ t)) h)
theorem blendP_at (w : W4) (a b : Plot) (t : Int) : atP (blendP w a b) t = blend w (atP a t) (atP b t) := by
  unfold blendP
  rw [plotOf_at (by rw [map_fst_map]; exact ss_rising _)]
  have ha : ∀ x, x ∈ turnsOf a → x ∈ ss (turnsOf a ++ turnsOf b) := fun x hx => (ss_mem _ _).mpr (List.mem_append_left _ hx)
  have hb : ∀ x, x ∈ turnsOf b → x ∈ ss (turnsOf a ++ turnsOf b) := fun x hx => (ss_mem _ _).mpr (List.mem_append_right _ hx)
  refine sample (ss_rising _) (fun h => ?_) fun x _ hxt h => ?_
  · rw [atP_low fun x hx => h x (ha x hx), atP_low fun x hx => h x (hb x hx)]
  · rw [atP_const hxt fun y hy => h y (ha y hy), atP_const hxt fun y hy => h y (hb y hy)]
theorem blendP_spot (w : W4) {a b : Plot} (ha : POk a) (hb : POk b) (d t : Int) : spot (blendP w a b) d t = w.tb (spot a d t) (spot b d t) := by
  unfold spot
  rw [blendP_at, blend_lies w (atP_rising ha t) (atP_rising hb t)]
/-! ### sizes: all edges are of some list -/
def Sub (L : List Int) (r : Reach) : Prop := ∀ e ∈ r.2, e ∈ L
theorem len_of_sub : ∀ {L l : List Int}, l.Nodup → (∀ e ∈ l, e ∈ L) → l.length ≤ L.length
  | L, [], _, _ => Nat.zero_le _
  | L, x :: l, hn, h => by
    obtain ⟨h1, h2⟩ := List.nodup_cons.mp hn
    have hx := h x List.mem_cons_self
    have := len_of_sub (L := L.erase x) h2 fun e he => (List.mem_erase_of_ne (fun q => h1 (by rw [← q]; exact he))).mpr (h e (List.mem_cons_of_mem _ he))
    rw [List.length_erase_of_mem hx] at this
    have hp := List.length_pos_of_mem hx
    simp only [List.length_cons]; omega
theorem sub_len {L : List Int} {r : Reach} (h : Rising r.2) (hs : Sub L r) : r.2.length ≤ L.length := len_of_sub h.nodup hs
theorem blend_sub {L : List Int} (w : W4) {a b : Reach} (ha : Sub L a) (hb : Sub L b) : Sub L (blend w a b) := fun e he => by
  have := (ss_mem _ _).mp ((blendGo_sub _ _ _ _ _ _ _).subset he)
  rcases List.mem_append.mp this with q | q
  · exact ha e q
  · exact hb e q
structure PSub (L : List Int) (p : Plot) : Prop where
  g : Sub L p.1
  rs : ∀ s ∈ p.2, Sub L s.2
theorem PSub.at {L : List Int} {p : Plot} (h : PSub L p) (t : Int) : Sub L (atP p t) := atL_all (P := Sub L) h.g h.rs t
theorem plotOf_sub {L : List Int} {g : Reach} {ps : List Step} (hg : Sub L g) (h : ∀ s ∈ ps, Sub L s.2) : PSub L (plotOf g ps) := ⟨hg, fun s hs => h s ((mkS_sub g ps).subset hs)⟩
theorem blendP_sub {L : List Int} (w : W4) {a b : Plot} (ha : PSub L a) (hb : PSub L b) : PSub L (blendP w a b) :=
  plotOf_sub (blend_sub w ha.g hb.g) fun s hs => by obtain ⟨y, _, rfl⟩ := List.mem_map.mp hs; exact blend_sub w (ha.at y) (hb.at y)
theorem plotOf_len (g : Reach) (ps : List Step) : (plotOf g ps).2.length ≤ ps.length := (mkS_sub g ps).length_le
theorem blendP_len (w : W4) (a b : Plot) : (blendP w a b).2.length ≤ a.2.length + b.2.length := by
  refine Nat.le_trans (plotOf_len _ _) ?_
  rw [List.length_map]
  have := ss_len (turnsOf a ++ turnsOf b)
  simp only [turnsOf, List.length_append, List.length_map] at this ⊢
  exact this
/-- turns are of some list -/
theorem blendP_turns (w : W4) (a b : Plot) : ∀ t ∈ turnsOf (blendP w a b), t ∈ turnsOf a ∨ t ∈ turnsOf b := fun t ht => by
  have := ((mkS_sub _ _).map (·.1)).subset ht
  rw [map_fst_map, ss_mem] at this
  exact List.mem_append.mp this
end HW
end
section
set_option linter.all false
set_option autoImplicit false
/-! MJ17: plots: what the program's defs compute -/
namespace HW
open MI PySem
def encS (s : Step) : D := .tup [.int s.1, encR s.2]
def encP (p : Plot) : D := .tup [encR p.1, .tup (p.2.map encS)]
@[simp] theorem asg_S (is : List Nat) (s : Step) (r : MI.Env) : asg (.tp is) (encS s) r = setAll is [.int s.1, encR s.2] r := nrfl rfl
@[simp] theorem oIx_S0 (s : Step) (M : Mem) : oIx (.d (encS s)) (.d (.int 0)) M = .ok (.d (.int s.1)) M := oIx_t0 _ _
@[simp] theorem oIx_S1 (s : Step) (M : Mem) : oIx (.d (encS s)) (.d (.int 1)) M = .ok (.d (encR s.2)) M := oIx_t1 _ _ _
@[simp] theorem oIx_P0 (p : Plot) (M : Mem) : oIx (.d (encP p)) (.d (.int 0)) M = .ok (.d (encR p.1)) M := oIx_t0 _ _
@[simp] theorem oIx_P1 (p : Plot) (M : Mem) : oIx (.d (encP p)) (.d (.int 1)) M = .ok (.d (.tup (p.2.map encS))) M := oIx_t1 _ _ _
@[simp] theorem bel_S (n : Nat) (s : Step) : D.bel n (encS s) = true := by simp [encS]
theorem bels_mapT {A : Type} {enc : A → D} (n : Nat) (l : List A) (h : ∀ a, D.bel n (enc a) = true) : D.bels n (l.map enc) = true := by
  induction l with
  | nil => rfl
  | cons a l ih => simp [h, ih]
@[simp] theorem bels_S (n : Nat) (l : List Step) : D.bels n (l.map encS) = true := bels_mapT n l fun _ => bel_S _ _
@[simp] theorem bels_R (n : Nat) (l : List Reach) : D.bels n (l.map encR) = true := bels_mapT n l fun _ => bel_encR _ _
@[simp] theorem bel_P (n : Nat) (p : Plot) : D.bel n (encP p) = true := by simp [encP]
@[simp] theorem bels_P (n : Nat) (l : List Plot) : D.bels n (l.map encP) = true := bels_mapT n l fun _ => bel_P _ _
@[simp] theorem fin_P (M l : Mem) (p : Plot) : fin .pure M (.d (encP p)) (M ++ l) = .ok (.d (encP p)) M := by
  show fin .pure M (.d (.tup _)) (M ++ l) = _
  rw [fin_tup]; simp [encP]
@[simp] theorem fin_P0 (M : Mem) (p : Plot) : fin .pure M (.d (encP p)) M = .ok (.d (encP p)) M := by
  have := fin_P M [] p
  rwa [List.append_nil] at this
@[simp] theorem deq_S (a b : Step) : deq (encS a) (encS b) = decide (a = b) := by
  obtain ⟨a1, a2⟩ := a
  obtain ⟨b1, b2⟩ := b
  simp only [encS, deq_tup, deqs_cons, deq_int, deq_R, deqs_nil, Bool.and_true, Prod.mk.injEq, Bool.decide_and]
theorem pl_S (n : Nat) (s : Step) : pl (n + 3) (encS s) = true := by simp [encS, pl_R]
@[simp] theorem deqs_S (a b : List Step) : deqs (a.map encS) (b.map encS) = decide (a = b) := deqs_map deq_S a b
@[simp] theorem deq_P (a b : Plot) : deq (encP a) (encP b) = decide (a = b) := by
  obtain ⟨a1, a2⟩ := a
  obtain ⟨b1, b2⟩ := b
  simp only [encP, deq_tup, deqs_cons, deq_R, deqs_S, deqs_nil, Bool.and_true, Prod.mk.injEq, Bool.decide_and]
theorem pl_P (n : Nat) (p : Plot) : pl (n + 5) (encP p) = true := by
  have : pls (n + 3) (p.2.map encS) = true := pls_map fun _ _ => pl_S _ _
  simp [encP, pl_R, this]
@[simp] theorem oEq_P (a b : Plot) (M : Mem) : oEq (.d (encP a)) (.d (encP b)) M = .ok (.d (.bl (decide (a = b)))) M := by rw [oEq_d (pl_P 11 a) (pl_P 11 b), deq_P]
@[simp] theorem oNe_P (a b : Plot) (M : Mem) : oNe (.d (encP a)) (.d (encP b)) M = .ok (.d (.bl (!decide (a = b)))) M := by rw [oNe_d (pl_P 11 a) (pl_P 11 b), deq_P]
@[simp] theorem bIsi_P (t : Ty) (r : Plot) (M : Mem) : bIsi t (.d (encP r)) M = .ok (.d (.bl (decide (t = .tuple)))) M := bIsi_tup t _
@[simp] theorem bIsi_S (t : Ty) (r : Step) (M : Mem) : bIsi t (.d (encS r)) M = .ok (.d (.bl (decide (t = .tuple)))) M := bIsi_tup t _
@[simp] theorem bLen_P (r : Plot) (M : Mem) : bLen (.d (encP r)) M = .ok (.d (.int 2)) M := bLen_tup _
@[simp] theorem bLen_S (r : Step) (M : Mem) : bLen (.d (encS r)) M = .ok (.d (.int 2)) M := bLen_tup _
section
variable {T : Tab}
theorem reach_at_run [i : HasF T "reach_at" F_reach_at] (n : Nat) (p : Plot) (t : Int) (M : Mem) : run T (n + 1) "reach_at" [encP p, .int t] M = .ok (.d (encR (atP p t))) M := by
  rw [run_has i, ← Res.wp_eq]
  refine wp_run rfl ?_
  simp [F_reach_at, b_reach_at]
  refine forL_wp encS (fun l env M' => ∃ (here : Reach) (j3 j4 : Option D), env = [some (encP p), some (.int t), some (encR here), j3, j4] ∧ M' = M ∧ atL here l t = atP p t) ?_ ?_ _ _ _ ⟨_, _, _, rfl, rfl, rfl⟩
  · rintro _ M' ⟨here, j3, j4, rfl, rfl, h⟩
    rw [atL_nil] at h
    simp [h]
  · rintro s l _ M' ⟨here, j3, j4, rfl, rfl, h⟩
    rw [atL_cons] at h
    simp
    split
    · rename_i c
      rw [if_pos c] at h
      exact ⟨_, _, _, rfl, rfl, h⟩
    · rename_i c
      rw [if_neg c] at h
      exact ⟨_, _, _, rfl, rfl, h⟩
theorem law_at_run [i : HasF T "_law_at" F__law_at_k09] (n : Nat) (p : Plot) (t : Int) (M : Mem) : run T (n + 1) "_law_at" [encP p, .int t] M = .ok (.d (encR (atP p t))) M := by
  rw [run_has i, ← Res.wp_eq]
  refine wp_run rfl ?_
  simp [F__law_at_k09, b__law_at_k09]
  refine forL_wp encS (fun l env M' => ∃ (here : Reach) (j3 j4 : Option D), env = [some (encP p), some (.int t), some (encR here), j3, j4] ∧ M' = M ∧ atL here l t = atP p t) ?_ ?_ _ _ _ ⟨_, _, _, rfl, rfl, rfl⟩
  · rintro _ M' ⟨here, j3, j4, rfl, rfl, h⟩
    rw [atL_nil] at h
    simp [h]
  · rintro s l _ M' ⟨here, j3, j4, rfl, rfl, h⟩
    rw [atL_cons] at h
    simp
    split
    · rename_i c
      rw [if_pos c] at h
      exact ⟨_, _, _, rfl, rfl, h⟩
    · rename_i c
      rw [if_neg c] at h
      exact ⟨_, _, _, rfl, rfl, h⟩
theorem lies_at_run [HasF T "lies_in" F_lies_in] [HasF T "reach_at" F_reach_at] [i : HasF T "lies_at" F_lies_at] (n : Nat) (p : Plot) (d t : Int) (M : Mem) : run T (n + 2) "lies_at" [encP p, .int d, .int t] M = .ok (.d (.bl (spot p d t))) M := by
  rw [run_has i, ← Res.wp_eq]
  refine wp_run rfl ?_
  simp [F_lies_at, b_lies_at]
  rw [reach_at_run]
  simp
  rw [lies_in_run]
  simp [spot]
theorem turns_of_run [i : HasF T "turns_of" F_turns_of] (n : Nat) (p : Plot) (hl : p.2.length ≤ lim) (M : Mem) : run T (n + 1) "turns_of" [encP p] M = .ok (.o (.lst ((turnsOf p).map D.int))) M := by
  rw [run_has i, ← Res.wp_eq]
  refine wp_run rfl ?_
  simp [F_turns_of, b_turns_of]
  rw [compL_all encS rfl (fun s => D.int s.1) (fun s => by simp [← Res.wp_eq]) p.2 hl]
  have e : (p.2.map fun s => D.int s.1) = (turnsOf p).map D.int := by simp [turnsOf]
  rw [e]
  simp
/-- all edges of some steps -/
def edgesL (ss : List Step) : List Int := ss.flatMap fun s => s.2.2
def daysOf (p : Plot) : List Int := ss (p.1.2 ++ edgesL p.2)
def edgeCount (p : Plot) : Nat := (p.1.2 ++ edgesL p.2).length
theorem days_of_run [i : HasF T "days_of" F_days_of] (n : Nat) (p : Plot) (hl : edgeCount p < 4000) (M : Mem) : run T (n + 1) "days_of" [encP p] M = .ok (.o (.lst ((daysOf p).map D.int))) M := by
  have hlim := lim_big
  rw [run_has i, ← Res.wp_eq]
  refine wp_run rfl ?_
  simp [F_days_of, b_days_of]
  refine forL_wp encS (fun l env M' => ∃ (acc : List Int) (h : Nat) (l2 : Mem) (j2 j3 : Option D), env = [some (encP p), some (.hdl (M.length + h)), j2, j3] ∧ M' = M ++ l2 ∧ l2[h]? = some (.lst (acc.map D.int)) ∧ acc ++ edgesL l = p.1.2 ++ edgesL p.2) ?_ ?_ _ _ _ ⟨p.1.2, 0, _, _, _, rfl, rfl, rfl, rfl⟩
  · rintro _ _ ⟨acc, h, l2, j2, j3, rfl, rfl, h1, h2⟩
    simp only [edgesL, List.flatMap_nil, List.append_nil] at h2
    unfold edgeCount at hl
    have h3 : acc = p.1.2 ++ edgesL p.2 := h2
    rw [← h3] at hl
    simp
    rw [bSortedSet_of (l := acc) (by simp [h1]) hl]
    simp [daysOf, ← h3]
    rfl
  · rintro s l _ _ ⟨acc, h, l2, j2, j3, rfl, rfl, h1, h2⟩
    have hle : acc.length + s.2.2.length ≤ edgeCount p := by
      unfold edgeCount
      rw [← h2]; simp [edgesL]
    have hle2 : acc.length + s.2.2.length ≤ lim := by omega
    simp [h1, hle2]
    refine ⟨acc ++ s.2.2, l2.length, l2 ++ [.lst ((acc ++ s.2.2).map D.int)], _, _, by simp; exact ⟨rfl, rfl⟩, by simp, by simp, ?_⟩
    rw [← h2]; simp [edgesL]
end
end HW
end
section
set_option linter.all false
set_option autoImplicit false
/-! MJ18: the laws' own defs: plots drawn -/
namespace HW
open MI PySem
def stir (cell by_ : Int) : Int := ((cell % 2147483647 + 1) * by_ % 2147483647) * ((cell % 2147483647 + 1) * by_ % 2147483647) % 2147483629
theorem stir_nn (c b : Int) : 0 ≤ stir c b := Int.emod_nonneg _ (by decide)
theorem stir_lt (c b : Int) : stir c b < 2147483629 := Int.emod_lt_of_pos _ (by decide)
/-- divided by three so many times -/
def third (s : Int) : Nat → Int
  | 0 => s
  | k + 1 => third s k / 3
def line (spread low : Int) : List Int := (List.range 6).map fun k : Nat => low + ((k : Int) - 2) * spread
def lawReach (cell by_ spread low : Int) : Reach := (decide (stir cell by_ % 2 = 1), ((List.range 6).filter fun k => decide (third (stir cell by_) (k + 1) % 3 = 0)).map fun k : Nat => low + ((k : Int) - 2) * spread)
theorem lawReach_sub (cell by_ spread low : Int) : Sub (line spread low) (lawReach cell by_ spread low) := fun e he => by
  obtain ⟨k, hk, rfl⟩ := List.mem_map.mp he
  exact List.mem_map.mpr ⟨k, (List.mem_filter.mp hk).1, rfl⟩
theorem line_rising {spread : Int} (h : 0 < spread) (low : Int) (p : Nat → Bool) : Rising (((List.range 6).filter p).map fun k : Nat => low + ((k : Int) - 2) * spread) := by
  unfold Rising
  rw [List.pairwise_map]
  refine List.Pairwise.imp (R := fun a b => a < b) (fun {a b} hab => ?_) (List.Pairwise.filter _ List.pairwise_lt_range)
  have := Int.mul_lt_mul_of_pos_right (show (a : Int) - 2 < (b : Int) - 2 by omega) h
  omega
theorem lawReach_rising {spread : Int} (h : 0 < spread) (cell by_ low : Int) : Rising (lawReach cell by_ spread low).2 := line_rising h low _
def lastR (g : Reach) (acc : List Step) : Reach := match acc.getLast? with
  | some s => s.2
  | none => g
theorem lastR_snoc (g : Reach) (acc : List Step) (s : Step) : lastR g (acc ++ [s]) = s.2 := by simp [lastR]
theorem alt_snoc : ∀ (g : Reach) (acc : List Step) (s : Step), Alt g acc → s.2 ≠ lastR g acc → Alt g (acc ++ [s])
  | g, [], s, _, h => ⟨h, trivial⟩
  | g, x :: acc, s, ha, h => by
    refine ⟨ha.1, alt_snoc x.2 acc s ha.2 ?_⟩
    unfold lastR at h ⊢
    cases acc with
    | nil => simpa using h
    | cons y r =>
      rw [List.getLast?_cons_cons] at h
      cases e : (y :: r).getLast? with
      | none => simp at e
      | some z => simpa [e] using h
@[simp] theorem pickSlice {ns : List Int} (lo hi : Option Int) : cut (ns.map D.int) lo hi = (cut ns lo hi).map D.int := by
  unfold cut; simp [List.map_drop, List.map_take]
section
variable {T : Tab}
theorem law_cell_run [i : HasF T "_law_cell" F__law_cell] (n : Nat) (ns : List Int) (k : Nat) (M : Mem) : run T (n + 1) "_law_cell" [scr ns, .int (k : Int)] M = .ok (.d (.int (ns.getD k 0))) M := by
  rw [run_has i, ← Res.wp_eq]
  refine wp_run rfl ?_
  simp [F__law_cell, b__law_cell]
  split
  · rename_i h
    rw [oIx_seq (ds := ns.map D.int) (k := k) (d := .int ns[k]) rfl (by rw [ixN_pos (by omega) (by simp; omega)]; simp) (by rw [List.getElem?_map, List.getElem?_eq_getElem h]; rfl)]
    simp [List.getElem?_eq_getElem h]
  · rename_i h
    simp [List.getElem?_eq_none (show ns.length ≤ k by omega)]
theorem law_stir_run [i : HasF T "_law_stir" F__law_stir] (n : Nat) (c b : Int) (M : Mem) : run T (n + 1) "_law_stir" [.int c, .int b] M = .ok (.d (.int (stir c b))) M := by
  rw [run_has i, ← Res.wp_eq]
  refine wp_run rfl ?_
  have h0 := Int.emod_nonneg c (show (2147483647 : Int) ≠ 0 by decide)
  have h1 := Int.emod_lt_of_pos c (show (0 : Int) < 2147483647 by decide)
  have h2 := Int.emod_nonneg ((c % 2147483647 + 1) * b) (show (2147483647 : Int) ≠ 0 by decide)
  have h3 := Int.emod_lt_of_pos ((c % 2147483647 + 1) * b) (show (0 : Int) < 2147483647 by decide)
  simp [F__law_stir, b__law_stir, stir]
  refine ⟨.inl ⟨by omega, by omega⟩, by omega, by omega⟩
theorem law_reach_run9 [HasF T "_law_stir" F__law_stir] [i : HasF T "_law_reach" F__law_reach_k09] (n : Nat) (c b spread low : Int) (M : Mem) : run T (n + 2) "_law_reach" [.int c, .int b, .int spread, .int low] M = .ok (.d (encR (lawReach c b spread low))) M := by
  have hlim := lim_big
  rw [run_has i, ← Res.wp_eq]
  refine wp_run rfl ?_
  simp [F__law_reach_k09, b__law_reach_k09]
  rw [law_stir_run]
  simp
  refine forL_range (fun j env M' => ∃ (jj : Option D), env = [some (.int c), some (.int b), some (.int spread), some (.int low), some (.int (third (stir c b) j)), some (.hdl M.length), jj] ∧
    M' = M ++ [.lst ((((List.range j).filter fun k => decide (third (stir c b) (k + 1) % 3 = 0)).map fun k : Nat => low + ((k : Int) - 2) * spread).map D.int)]) ?_ ?_ _ _ ⟨_, rfl, rfl⟩
  · rintro _ M' ⟨jj, rfl, rfl⟩
    simp
    rw [law_stir_run]
    simp [lawReach, encR]
    exact bels_mapT _ _ fun _ => rfl
  · rintro j _ M' hj ⟨jj, rfl, rfl⟩
    have hacc : (((List.range j).filter fun k => decide (third (stir c b) (k + 1) % 3 = 0))).length < lim := by
      have := List.length_filter_le (fun k => decide (third (stir c b) (k + 1) % 3 = 0)) (List.range j)
      simp only [List.length_range] at this; omega
    simp
    split
    · rename_i h
      simp [hacc]
      refine ⟨.inl ⟨by omega, by omega⟩, _, rfl, ?_⟩
      have h' : third (stir c b) (j + 1) % 3 = 0 := h
      rw [List.range_succ, List.filter_append, List.filter_cons_of_pos (by simpa using h')]
      simp
    · rename_i h
      refine ⟨_, rfl, ?_⟩
      have h' : ¬ third (stir c b) (j + 1) % 3 = 0 := h
      rw [List.range_succ, List.filter_append, List.filter_cons_of_neg (by simpa using h')]
      simp
theorem law_scale_ex [i : HasF T "_law_scale" F__law_scale] (c : Int) : ∃ spread low : Int, 0 < spread ∧ spread ≤ 10 ^ 50 ∧ -10 ^ 50 ≤ low ∧ low ≤ 10 ^ 50 ∧ ∀ n M, run T (n + 1) "_law_scale" [.int c] M = .ok (.d (.tup [.int spread, .int low])) M := by
  have m0 := Int.emod_nonneg c (show (10 ^ 50 : Int) ≠ 0 by decide)
  have m1 := Int.emod_lt_of_pos c (show (0 : Int) < 10 ^ 50 by decide)
  obtain ⟨d, ⟨spread, h1, h2, rfl⟩, e1⟩ := oIx_litO (ds := [.int 1, .int 1, .int 2, .int (10 ^ 50)]) (i := c % 4) (P := fun d => ∃ m : Int, 0 < m ∧ m ≤ 10 ^ 50 ∧ d = .int m) (Int.emod_nonneg _ (by decide)) (Int.emod_lt_of_pos _ (by decide))
    (by simp only [List.forall_mem_cons]; exact ⟨⟨1, by decide, by decide, rfl⟩, ⟨1, by decide, by decide, rfl⟩, ⟨2, by decide, by decide, rfl⟩, ⟨10 ^ 50, by decide, by decide, rfl⟩, fun _ h => nomatch h⟩)
  obtain ⟨d, ⟨low, h3, h4, rfl⟩, e2⟩ := oIx_litO (ds := [.int 0, .int 0, .int (c % 10 ^ 50), .int (-(c % 10 ^ 50))]) (i := c / 4 % 4) (P := fun d => ∃ m : Int, -10 ^ 50 ≤ m ∧ m ≤ 10 ^ 50 ∧ d = .int m) (Int.emod_nonneg _ (by decide)) (Int.emod_lt_of_pos _ (by decide))
    (by simp only [List.forall_mem_cons]; exact ⟨⟨0, by decide, by decide, rfl⟩, ⟨0, by decide, by decide, rfl⟩, ⟨_, by omega, by omega, rfl⟩, ⟨_, by omega, by omega, rfl⟩, fun _ h => nomatch h⟩)
  refine ⟨spread, low, h1, h2, h3, h4, fun n M => ?_⟩
  rw [run_has i, ← Res.wp_eq]
  refine wp_run rfl ?_
  have l4 : (4 : Nat) ≤ lim := by decide
  have l2 : (2 : Nat) ≤ lim := by decide
  simp at e1 e2
  simp [F__law_scale, b__law_scale, l4, l2, e1, e2]
theorem law_plot_ex [HasF T "_law_stir" F__law_stir] [HasF T "_law_reach" F__law_reach_k09] [i : HasF T "_law_plot" F__law_plot_k09] (n : Nat) (cells : List Int) (h : Nat) (b spread low : Int) (hs : 0 < spread) (hl : cells.length ≤ 100) (M : Mem) (hM : M[h]? = some (.lst (cells.map D.int))) :
    ∃ p : Plot, POk p ∧ PSub (line spread low) p ∧ p.2.length ≤ cells.length ∧ run T (n + 3) "_law_plot" [.hdl h, .int b, .int spread, .int low] M = .ok (.d (encP p)) M := by
  have : (run T (n + 3) "_law_plot" [.hdl h, .int b, .int spread, .int low] M).wp fun x M' => Kp (M' = M ∧ ∃ p : Plot, POk p ∧ PSub (line spread low) p ∧ p.2.length ≤ cells.length ∧ x = .d (encP p)) := by
    have hlim := lim_big
    have hM2 : ∀ l : Mem, (M ++ l)[h]? = some (.lst (cells.map D.int)) := fun l => get_ahead hM
    rw [run_has i]
    refine wp_run rfl ?_
    simp [F__law_plot_k09, b__law_plot_k09, hM2, hM]
    rw [cut_to _ (by decide)]
    have key : ∀ last : Reach, Rising last.2 → Sub (line spread low) last → ∀ (j5 : Option D), (sSeq (sSet 6 (eVar 4)) (sSeq (sSet 7 (eLst dNil)) (sSeq (sSet 8 (MI.e2 oMul (e1 oNeg (eC (.int 3))) (eVar 2))) (sSeq (sFor (.nm 5) (iSeq (eVar 0)) (sSeq (sSet 8 (MI.e2 oAdd (eVar 8) (MI.e2 oMul (MI.e2 oAdd (eC (.int 1)) (MI.e2 oMod (MI.e2 oDiv (eCall "_law_stir" (dCons (eVar 5) (dCons (MI.e2 oAdd (eVar 1) (eC (.int 2))) dNil))) (eC (.int 7))) (eC (.int 3)))) (eVar 2)))) (sSeq (sSet 9 (eCall "_law_reach" (dCons (eVar 5) (dCons (eVar 1) (dCons (eVar 2) (dCons (eVar 3) dNil)))))) (sSeq (sIf (tB (MI.e2 oNe (eVar 9) (eVar 4))) (sExpr (eM1 mAppend (eVar 7) (eTup (dCons (eVar 8) (dCons (eVar 9) dNil))))) sNil) (sSet 4 (eVar 9)))))) (sRet (eTup (dCons (eVar 6) (dCons (e1 bTuple (eVar 7)) dNil))))))) (run T (n + 2))
        [some (.hdl h), some (.int b), some (.int spread), some (.int low), some (encR last), j5, none, none, none, none] M).wp (fun x M' => (fin .pure M (.d .non) M').wp fun x M' => Kp (M' = M ∧ ∃ p : Plot, POk p ∧ PSub (line spread low) p ∧ p.2.length ≤ cells.length ∧ x = .d (encP p))) (fun x M' => (fin .pure M x M').wp fun x M' => Kp (M' = M ∧ ∃ p : Plot, POk p ∧ PSub (line spread low) p ∧ p.2.length ≤ cells.length ∧ x = .d (encP p))) := by
      intro g hg hgs j5
      simp [hM, hM2]
      refine forL_wp D.int (fun l env M' => ∃ (acc : List Step) (turn : Int) (j5 j9 : Option D), env = [some (.hdl h), some (.int b), some (.int spread), some (.int low), some (encR (lastR g acc)), j5, some (encR g), some (.hdl M.length), some (.int turn), j9] ∧ M' = M ++ [.lst (acc.map encS)] ∧
        Rising (acc.map (·.1)) ∧ (∀ s ∈ acc, s.1 ≤ turn) ∧ (∀ s ∈ acc, Rising s.2.2) ∧ (∀ s ∈ acc, Sub (line spread low) s.2) ∧ Alt g acc ∧ acc.length + l.length ≤ cells.length) ?_ ?_ _ _ _ ⟨[], _, _, _, rfl, rfl, .nil, by simp, by simp, by simp, trivial, by simp⟩
      · rintro _ _ ⟨acc, turn, j5, j9, rfl, rfl, h1, h2, h3, h4, h5, h6⟩
        simp [hM2]
        exact ⟨rfl, (g, acc), ⟨hg, h1, h3, h5⟩, ⟨hgs, h4⟩, by simpa using h6, rfl⟩
      · rintro c l _ _ ⟨acc, turn, j5, j9, rfl, rfl, h1, h2, h3, h4, h5, h6⟩
        simp only [List.length_cons] at h6
        simp [hM2]
        rw [law_stir_run]
        have s0 := stir_nn c (b + 2)
        have s1 := Int.emod_nonneg (stir c (b + 2) / 7) (show (3 : Int) ≠ 0 by decide)
        have s2 := Int.emod_lt_of_pos (stir c (b + 2) / 7) (show (0 : Int) < 3 by decide)
        simp
        refine ⟨.inl ⟨by omega, by omega⟩, ?_⟩
        rw [law_reach_run9]
        simp
        have hpos : 0 < (1 + stir c (b + 2) / 7 % 3) * spread := Int.mul_pos (by omega) hs
        have hacc : acc.length < lim := by omega
        have l2 : (2 : Nat) ≤ lim := by omega
        split
        · rename_i hr
          refine ⟨acc, _, _, _, by rw [← hr]; rfl, rfl, h1, fun s hs' => by have := h2 s hs'; omega, h3, h4, h5, by omega⟩
        · rename_i hr
          simp [hacc, l2]
          refine ⟨acc ++ [(turn + (1 + stir c (b + 2) / 7 % 3) * spread, lawReach c b spread low)], _, _, _, by rw [lastR_snoc]; rfl, by simp [encS], ?_, ?_, ?_, ?_, alt_snoc _ _ _ h5 hr, by simp; omega⟩
          · rw [List.map_append]
            refine Rising.snoc h1 fun x hx => ?_
            obtain ⟨s, hs', rfl⟩ := List.mem_map.mp hx
            have := h2 s hs'
            show s.1 < turn + (1 + stir c (b + 2) / 7 % 3) * spread
            omega
          · intro s hs'
            rcases List.mem_append.mp hs' with q | q
            · have := h2 s q; omega
            · rw [List.mem_singleton.mp q]; exact Int.le_refl _
          · intro s hs'
            rcases List.mem_append.mp hs' with q | q
            · exact h3 s q
            · rw [List.mem_singleton.mp q]; exact lawReach_rising hs _ _ _
          · intro s hs'
            rcases List.mem_append.mp hs' with q | q
            · exact h4 s q
            · rw [List.mem_singleton.mp q]; exact lawReach_sub _ _ _ _
    refine forL_wp D.int (fun l env M' => ∃ (last : Reach) (j5 : Option D), env = [some (.hdl h), some (.int b), some (.int spread), some (.int low), some (encR last), j5, none, none, none, none] ∧ M' = M ∧ Rising last.2 ∧ Sub (line spread low) last) ?_ ?_ _ _ _ ⟨(false, []), _, rfl, rfl, .nil, fun e he => nomatch he⟩
    · rintro _ M' ⟨last, j5, rfl, rfl, h1, h2⟩
      have := key last h1 h2 j5
      simpa [hM, hM2] using this
    · rintro c l _ M' ⟨last, j5, rfl, rfl, h1, h2⟩
      simp
      rw [law_stir_run]
      simp
      split
      · rw [law_reach_run9]
        simp
        exact ⟨_, _, rfl, rfl, lawReach_rising hs _ _ _, lawReach_sub _ _ _ _⟩
      · exact ⟨_, _, rfl, rfl, h1, h2⟩
  obtain ⟨x, M', e, rfl, p, h1, h2, h3, rfl⟩ := Res.wp_ex this
  exact ⟨p, h1, h2, h3, e⟩
end
end HW
end
section
set_option linter.all false
set_option autoImplicit false
/-! MJ19: the laws' own defs: points beside, plots looked over -/
namespace MI
section
variable {M : Mem}
@[simp] theorem bMax1_hdl (n : Nat) : bMax1 (.d (.hdl n)) M = match M[n]? with
    | some (.lst ds) => match asInts ds with
      | some (n :: ns) => .ok (.d (.int (maxL n ns))) M
      | _ => .bad
    | _ => .bad := by
  unfold bMax1; rw [lstOf_hdl]; cases M[n]? with
  | none => rfl
  | some o => cases o <;> rfl
@[simp] theorem bMin1_hdl (n : Nat) : bMin1 (.d (.hdl n)) M = match M[n]? with
    | some (.lst ds) => match asInts ds with
      | some (n :: ns) => .ok (.d (.int (minL n ns))) M
      | _ => .bad
    | _ => .bad := by
  unfold bMin1; rw [lstOf_hdl]; cases M[n]? with
  | none => rfl
  | some o => cases o <;> rfl
end
end MI
namespace HW
open MI PySem
section
variable {T : Tab}
theorem law_in_run9 [i : HasF T "_law_in" F__law_in_k09] (n : Nat) (r : Reach) (k : Int) (M : Mem) (hl : r.2.length ≤ lim) : run T (n + 1) "_law_in" [encR r, .int k] M = .ok (.d (.bl (liesIn r k))) M := by
  rw [run_has i, ← Res.wp_eq]
  refine wp_run rfl ?_
  simp [F__law_in_k09, b__law_in_k09]
  rw [compL_map D.int rfl (fun e => decide (e ≤ k)) D.int (fun a => by simp [← Res.wp_eq]) r.2 [] (by simpa using hl)]
  simp
  rw [show r = (r.1, r.2) from rfl, liesIn_count]
  have e : ((r.2.filter fun e => decide (e ≤ k)).length : Int) % 2 = 1 ↔ (r.2.filter fun e => decide (e ≤ k)).length % 2 = 1 := by omega
  by_cases c : (r.2.filter fun e => decide (e ≤ k)).length % 2 = 1
  · simp [c, e.mpr c]
  · have c' : ¬ ((r.2.filter fun e => decide (e ≤ k)).length : Int) % 2 = 1 := fun z => c (e.mp z)
    rw [decide_eq_false c', decide_eq_false c]
theorem law_beside_exL [i : HasF T "_law_beside" F__law_beside] (n : Nat) (ns : List Int) (h : Nat) (hl : ns.length ≤ 1900) (M : Mem) (hM : M[h]? = some (.lst (ns.map D.int))) :
    ∃ ps : List Int, ps.length ≤ 4000 ∧ run T (n + 1) "_law_beside" [.hdl h] M = .ok (.o (.lst (ps.map D.int))) M := by
  have : (run T (n + 1) "_law_beside" [.hdl h] M).wp fun x M' => Kp (M' = M ∧ ∃ ps : List Int, ps.length ≤ 4000 ∧ x = .o (.lst (ps.map D.int))) := by
    have hlim := lim_big
    have hM2 : ∀ l : Mem, (M ++ l)[h]? = some (.lst (ns.map D.int)) := fun l => get_ahead hM
    rw [run_has i]
    refine wp_run rfl ?_
    simp [F__law_beside, b__law_beside, hM2, show (1 : Nat) ≤ lim by omega]
    refine forL_wp D.int (fun l env M' => ∃ (acc : List Int) (k : Nat) (l2 : Mem) (j : Option D), env = [some (.hdl h), some (.hdl (M.length + k)), j] ∧ M' = M ++ l2 ∧ l2[k]? = some (.lst (acc.map D.int)) ∧ acc ≠ [] ∧ acc.length + 2 * l.length ≤ 3900) ?_ ?_ _ _ _ ⟨[0], 0, _, _, rfl, rfl, rfl, by simp, by simp; omega⟩
    · rintro _ _ ⟨acc, k, l2, j, rfl, rfl, h1, h2, h3⟩
      simp at h3
      obtain ⟨a, r, rfl⟩ := List.exists_cons_of_ne_nil h2
      simp at h3
      have l2' : r.length + 1 + 1 + 1 ≤ lim := by omega
      have l3 : r.length + 1 + 1 + 1 < 4000 := by omega
      have hm : asInts (D.int a :: r.map D.int) = some (a :: r) := asInts_map (a :: r)
      simp [hM2, h1, hm, show (2 : Nat) ≤ lim by omega, l2']
      have hm2 := asInts_map (a :: (r ++ [minL a r - 10 ^ 55, maxL a r + 10 ^ 55]))
      simp at hm2
      simp [hm2, show r.length + 1 + 1 + 1 < 4000 by omega]
      exact ⟨rfl, ss (a :: (r ++ [minL a r - 10 ^ 55, maxL a r + 10 ^ 55])), Nat.le_trans (ss_len _) (by simp; omega), rfl⟩
    · rintro e l _ _ ⟨acc, k, l2, j, rfl, rfl, h1, h2, h3⟩
      simp only [List.length_cons] at h3
      have l2' : acc.length + 2 ≤ lim := by omega
      simp [hM2, h1, show (2 : Nat) ≤ lim by omega, l2']
      refine ⟨acc ++ [e - 1, e], l2.length, l2 ++ [.lst ((acc ++ [e - 1, e]).map D.int)], _, by simp; rfl, by simp, by simp, by simp, by simp; omega⟩
  obtain ⟨x, M', e, rfl, ps, hps, rfl⟩ := Res.wp_ex this
  exact ⟨ps, hps, e⟩
theorem law_beside_ex [i : HasF T "_law_beside" F__law_beside] (n : Nat) (ns : List Int) (h : Nat) (hl : ns.length ≤ 1900) (M : Mem) (hM : M[h]? = some (.lst (ns.map D.int))) :
    ∃ ps : List Int, run T (n + 1) "_law_beside" [.hdl h] M = .ok (.o (.lst (ps.map D.int))) M :=
  let ⟨ps, _, e⟩ := law_beside_exL (T := T) n ns h hl M hM
  ⟨ps, e⟩
theorem law_turns_exL [HasF T "_law_beside" F__law_beside] [i : HasF T "_law_turns" F__law_turns] (n : Nat) (pl : List Plot) (h : Nat) (hl : pl.length ≤ 2) (hp : ∀ p ∈ pl, p.2.length ≤ 300) (M : Mem) (hM : M[h]? = some (.lst (pl.map encP))) :
    ∃ ps : List Int, ps.length ≤ 4000 ∧ run T (n + 2) "_law_turns" [.hdl h] M = .ok (.o (.lst (ps.map D.int))) M := by
  have : (run T (n + 2) "_law_turns" [.hdl h] M).wp fun x M' => Kp (M' = M ∧ ∃ ps : List Int, ps.length ≤ 4000 ∧ x = .o (.lst (ps.map D.int))) := by
    have hlim := lim_big
    have hM2 : ∀ l : Mem, (M ++ l)[h]? = some (.lst (pl.map encP)) := fun l => get_ahead hM
    rw [run_has i]
    refine wp_run rfl ?_
    simp [F__law_turns, b__law_turns, hM2]
    refine forL_wp encP (fun l env M' => ∃ (acc : List Int) (k : Nat) (l2 : Mem) (j j3 : Option D), env = [some (.hdl h), some (.hdl (M.length + k)), j, j3] ∧ M' = M ++ l2 ∧ l2[k]? = some (.lst (acc.map D.int)) ∧ acc.length + 300 * l.length ≤ 1800 ∧ ∀ p ∈ l, p.2.length ≤ 300) ?_ ?_ _ _ _ ⟨[], 0, _, _, _, rfl, rfl, rfl, by simp; omega, hp⟩
    · rintro _ _ ⟨acc, k, l2, j, j3, rfl, rfl, h1, h2, _⟩
      simp at h2
      simp [hM2]
      rw [bSortedSet_of (l := acc) (by simp [h1]) (by omega)]
      simp
      obtain ⟨ps, hpl, hps⟩ := law_beside_exL (T := T) n (ss acc) (M ++ l2).length (by have := ss_len acc; omega) ((M ++ l2) ++ [.lst ((ss acc).map D.int)]) (by simp)
      simp [ss] at hps
      rw [hps]
      simp
      exact ⟨rfl, ps, hpl, rfl⟩
    · rintro p l _ _ ⟨acc, k, l2, j, j3, rfl, rfl, h1, h2, h3⟩
      simp only [List.length_cons] at h2
      have hpl := h3 p List.mem_cons_self
      have h3' : ∀ x ∈ l, x.2.length ≤ 300 := fun x hx => h3 x (List.mem_cons_of_mem _ hx)
      simp [hM2, h1]
      rw [compL_all encS rfl (fun s => D.int s.1) (fun s => by simp [← Res.wp_eq]) p.2 (by omega)]
      have l2' : acc.length + p.2.length ≤ lim := by omega
      simp [h1, l2']
      refine ⟨acc ++ p.2.map (·.1), l2.length, l2 ++ [.lst ((acc ++ p.2.map (·.1)).map D.int)], _, _, by simp; exact ⟨rfl, rfl⟩, by simp, by simp, by simp; omega, h3'⟩
  obtain ⟨x, M', e, rfl, ps, hps, rfl⟩ := Res.wp_ex this
  exact ⟨ps, hps, e⟩
theorem law_turns_ex [HasF T "_law_beside" F__law_beside] [i : HasF T "_law_turns" F__law_turns] (n : Nat) (pl : List Plot) (h : Nat) (hl : pl.length ≤ 2) (hp : ∀ p ∈ pl, p.2.length ≤ 300) (M : Mem) (hM : M[h]? = some (.lst (pl.map encP))) :
    ∃ ps : List Int, run T (n + 2) "_law_turns" [.hdl h] M = .ok (.o (.lst (ps.map D.int))) M :=
  let ⟨ps, _, e⟩ := law_turns_exL (T := T) n pl h hl hp M hM
  ⟨ps, e⟩
theorem law_days_exL [HasF T "_law_beside" F__law_beside] [i : HasF T "_law_days" F__law_days] (n : Nat) (pl : List Plot) (h : Nat) (hl : pl.length ≤ 2) (hp : ∀ p ∈ pl, edgeCount p ≤ 900) (M : Mem) (hM : M[h]? = some (.lst (pl.map encP))) :
    ∃ ps : List Int, ps.length ≤ 4000 ∧ run T (n + 2) "_law_days" [.hdl h] M = .ok (.o (.lst (ps.map D.int))) M := by
  have : (run T (n + 2) "_law_days" [.hdl h] M).wp fun x M' => Kp (M' = M ∧ ∃ ps : List Int, ps.length ≤ 4000 ∧ x = .o (.lst (ps.map D.int))) := by
    have hlim := lim_big
    have hM2 : ∀ l : Mem, (M ++ l)[h]? = some (.lst (pl.map encP)) := fun l => get_ahead hM
    rw [run_has i]
    refine wp_run rfl ?_
    simp [F__law_days, b__law_days, hM2]
    refine forL_wp encP (fun l env M' => ∃ (acc : List Int) (k : Nat) (l2 : Mem) (j j3 j4 : Option D), env = [some (.hdl h), some (.hdl (M.length + k)), j, j3, j4] ∧ M' = M ++ l2 ∧ l2[k]? = some (.lst (acc.map D.int)) ∧ acc.length + 900 * l.length ≤ 1800 ∧ ∀ p ∈ l, edgeCount p ≤ 900) ?_ ?_ _ _ _ ⟨[], 0, _, _, _, _, rfl, rfl, rfl, by simp; omega, hp⟩
    · rintro _ _ ⟨acc, k, l2, j, j3, j4, rfl, rfl, h1, h2, _⟩
      simp at h2
      simp [hM2]
      rw [bSortedSet_of (l := acc) (by simp [h1]) (by omega)]
      simp
      obtain ⟨ps, hpl, hps⟩ := law_beside_exL (T := T) n (ss acc) (M ++ l2).length (by have := ss_len acc; omega) ((M ++ l2) ++ [.lst ((ss acc).map D.int)]) (by simp)
      simp [ss] at hps
      rw [hps]
      simp
      exact ⟨rfl, ps, hpl, rfl⟩
    · rintro p l _ _ ⟨acc, k, l2, j, j3, j4, rfl, rfl, h1, h2, h3⟩
      simp only [List.length_cons] at h2
      have hpl := h3 p List.mem_cons_self
      have h3' : ∀ x ∈ l, edgeCount x ≤ 900 := fun x hx => h3 x (List.mem_cons_of_mem _ hx)
      have hg : p.1.2.length ≤ edgeCount p := by unfold edgeCount; simp
      have l2' : acc.length + p.1.2.length ≤ lim := by omega
      simp [hM2, h1, l2']
      refine forL_wp encS (fun ls env M' => ∃ (acc2 : List Int) (k : Nat) (l2 : Mem) (j3 j4 : Option D), env = [some (.hdl h), some (.hdl (M.length + k)), some (encP p), j3, j4] ∧ M' = M ++ l2 ∧ l2[k]? = some (.lst (acc2.map D.int)) ∧ acc2.length + (edgesL ls).length ≤ acc.length + edgeCount p) ?_ ?_ _ _ _ ⟨acc ++ p.1.2, l2.length, l2 ++ [.lst ((acc ++ p.1.2).map D.int)], _, _, by simp; exact ⟨rfl, rfl⟩, by simp, by simp, by simp [edgeCount]; omega⟩
      · rintro _ _ ⟨acc2, k, l2, j3, j4, rfl, rfl, h4, h5⟩
        simp [edgesL] at h5
        simp [hM2]
        exact ⟨acc2, k, l2, _, _, _, rfl, rfl, h4, by omega, h3'⟩
      · rintro s ls _ _ ⟨acc2, k, l2, j3, j4, rfl, rfl, h4, h5⟩
        simp [edgesL] at h5
        have l3 : acc2.length + s.2.2.length ≤ lim := by omega
        simp [h4, l3]
        refine ⟨acc2 ++ s.2.2, l2.length, l2 ++ [.lst ((acc2 ++ s.2.2).map D.int)], _, _, by simp; exact ⟨rfl, rfl⟩, by simp, by simp, by simp [edgesL]; omega⟩
  obtain ⟨x, M', e, rfl, ps, hps, rfl⟩ := Res.wp_ex this
  exact ⟨ps, hps, e⟩
theorem law_days_ex [HasF T "_law_beside" F__law_beside] [i : HasF T "_law_days" F__law_days] (n : Nat) (pl : List Plot) (h : Nat) (hl : pl.length ≤ 2) (hp : ∀ p ∈ pl, edgeCount p ≤ 900) (M : Mem) (hM : M[h]? = some (.lst (pl.map encP))) :
    ∃ ps : List Int, run T (n + 2) "_law_days" [.hdl h] M = .ok (.o (.lst (ps.map D.int))) M :=
  let ⟨ps, _, e⟩ := law_days_exL (T := T) n pl h hl hp M hM
  ⟨ps, e⟩
end
end HW
end
section
set_option linter.all false
set_option autoImplicit false
/-! MJ20: things looked over: reaches, plots -/
namespace HW
open MI PySem
def wholeD : D → Bool
  | .int _ => true
  | _ => false
section
variable {T : Tab}
theorem law_whole_runD [i : HasF T "_law_whole" F__law_whole] (n : Nat) (d : D) (M : Mem) (h : kOk M d) : run T (n + 1) "_law_whole" [d] M = .ok (.d (.bl (wholeD d))) M := by
  rw [run_has i, ← Res.wp_eq]
  refine wp_run rfl ?_
  simp [F__law_whole, b__law_whole]
  rw [bIsi_k _ (.inr (.inr rfl)) h]
  cases d with
  | int v => simp [tyB, wholeD]
  | bl v => simp [tyB, wholeD]
  | _ => simp [tyB, wholeD]
theorem rdD_int {o : Option Int} {v : Int} {r : List D} (h : ∀ j, o = some j → ¬ v ≤ j) : rdD o (.int v :: r) = rdD (some v) r := by
  cases o with
  | none => rfl
  | some j => simp [rdD, h j rfl]
theorem law_is_reach_run [HasF T "_law_whole" F__law_whole] [i : HasF T "_law_is_reach" F__law_is_reach_k09] (n : Nat) (d : D) (M : Mem) (h : kOk2 M d) (hl : ∀ a es, d = .tup [a, .tup es] → es.length ≤ 1000000) : run T (n + 2) "_law_is_reach" [d] M = .ok (.d (.bl (isReachD d))) M := by
  obtain ⟨h0, h1, h2⟩ := h
  rw [run_has i, ← Res.wp_eq]
  refine wp_run rfl ?_
  simp [F__law_is_reach_k09, b__law_is_reach_k09]
  rw [bIsi_k _ (.inl rfl) h0]
  cases d with
  | tup ds =>
    rcases ds with _ | ⟨a, _ | ⟨b, _ | ⟨c, r⟩⟩⟩
    · simp [tyB, isReachD]
    · simp [tyB, isReachD]
    · obtain ⟨ha, hb⟩ := h1 a b rfl
      simp [tyB]
      rw [bIsi_k _ (.inr (.inl rfl)) ha]
      cases a with
      | bl f =>
        simp [tyB]
        rw [bIsi_k _ (.inl rfl) hb]
        cases b with
        | tup es =>
          have he := h2 _ es rfl
          have hes := hl _ es rfl
          simp [tyB]
          refine ⟨by omega, ?_⟩
          refine forL_range (fun j env M' => M' = M ∧ ∃ (o : Option Int) (jj : Option D), env = [some (.tup [.bl f, .tup es]), jj] ∧ (j = 0 → o = none) ∧ (0 < j → ∃ v, es[j - 1]? = some (.int v) ∧ o = some v) ∧ rdD o (es.drop j) = rdD none es) ?_ ?_ _ _ ⟨rfl, none, _, rfl, fun _ => rfl, fun h => absurd h (Nat.lt_irrefl 0), rfl⟩
          · rintro _ M' ⟨hM', o, jj, rfl, h3, h4, h5⟩
            rw [List.drop_length] at h5
            have h' : true = rdD none es := by rw [← h5]; cases o <;> rfl
            simp [isReachD, ← h', hM']
          · rintro j _ M' hj ⟨hM', o, jj, rfl, h3, h4, h5⟩
            rw [hM']
            rw [List.drop_eq_getElem_cons hj] at h5
            have ex : oIx (.d (.tup es)) (.d (.int (j : Int))) M = .ok (.d es[j]) M := oIx_seq rfl (by rw [ixN_pos (by omega) (by omega)]; simp) (List.getElem?_eq_getElem hj)
            simp [ex]
            rw [law_whole_runD _ _ _ (he _ (List.getElem_mem hj))]
            cases ed : es[j] with
            | int v =>
              rw [ed] at h5 ex
              simp [wholeD]
              rcases Nat.eq_zero_or_pos j with hj0 | hj0
              · subst hj0
                rw [h3 rfl] at h5
                simp
                exact ⟨rfl, some v, _, rfl, by simp, fun _ => ⟨v, by simpa [List.getElem?_eq_getElem hj] using ed, rfl⟩, h5⟩
              · obtain ⟨w, hw1, hw2⟩ := h4 hj0
                subst hw2
                have ex2 : oIx (.d (.tup es)) (.d (.int ((j : Int) - 1))) M = .ok (.d (.int w)) M := oIx_seq rfl (by rw [ixN_pos (by omega) (by omega)]) (by rw [show ((j : Int) - 1).toNat = j - 1 by omega]; exact hw1)
                have hj0' : ¬ j = 0 := by omega
                by_cases c : v ≤ w
                · have h' : false = rdD none es := by rw [← h5]; simp [rdD, c]
                  simp [hj0, ex, ex2, c, isReachD, ← h']
                · simp [hj0, ex, ex2, c]
                  exact ⟨rfl, some v, _, rfl, by simp, fun _ => ⟨v, by simpa [List.getElem?_eq_getElem hj] using ed, rfl⟩, by rw [← h5, rdD_int fun j e => by cases e; exact c]⟩
            | _ =>
              rw [ed] at h5
              have h' : false = rdD none es := by rw [← h5]; cases o <;> rfl
              simp [wholeD, isReachD, ← h']
        | _ => simp [tyB, isReachD]
      | _ => simp [tyB, isReachD]
    · simp [tyB, isReachD]
      have : ¬ ((r.length : Int) + 1 + 1 + 1 = 2) := by omega
      simp [this]
  | _ => simp [tyB, isReachD]
theorem kOk2_R (r : Reach) (M : Mem) : kOk2 M (encR r) := by
  refine ⟨trivial, fun a b e => ?_, fun a es e => ?_⟩
  · simp only [encR, D.tup.injEq, List.cons.injEq, and_true] at e
    obtain ⟨rfl, rfl⟩ := e
    exact ⟨trivial, trivial⟩
  · simp only [encR, D.tup.injEq, List.cons.injEq, and_true] at e
    obtain ⟨_, rfl⟩ := e
    exact kOk_int
theorem law_is_reachR [HasF T "_law_whole" F__law_whole] [HasF T "_law_is_reach" F__law_is_reach_k09] (n : Nat) (r : Reach) (M : Mem) (h : Rising r.2) (hl : r.2.length ≤ 1000000) : run T (n + 2) "_law_is_reach" [encR r] M = .ok (.d (.bl true)) M := by
  rw [law_is_reach_run n _ _ (kOk2_R r M) (fun a es e => by
    simp only [encR, D.tup.injEq, List.cons.injEq, and_true] at e
    obtain ⟨_, rfl⟩ := e
    simpa using hl), isReach_R h]
theorem law_is_plotP [HasF T "_law_whole" F__law_whole] [HasF T "_law_is_reach" F__law_is_reach_k09] [i : HasF T "_law_is_plot" F__law_is_plot_k09] (n : Nat) (p : Plot) (M : Mem) (h : POk p) (hl : p.2.length ≤ 1000000) (hg : p.1.2.length ≤ 1000000) (hr : ∀ s ∈ p.2, s.2.2.length ≤ 1000000) :
    run T (n + 3) "_law_is_plot" [encP p] M = .ok (.d (.bl true)) M := by
  rw [run_has i, ← Res.wp_eq]
  refine wp_run rfl ?_
  simp [F__law_is_plot_k09, b__law_is_plot_k09]
  rw [law_is_reachR n p.1 M h.g hg]
  simp
  refine ⟨by omega, ?_⟩
  refine forL_range (fun j env M' => M' = M ∧ ∃ (last : Reach) (j2 j3 : Option D), env = [some (encP p), some (encR last), j2, j3] ∧ Alt last (p.2.drop j)) ?_ ?_ _ _ ⟨rfl, _, _, _, rfl, h.alt⟩
  · rintro _ M' ⟨hM', last, j2, j3, rfl, _⟩
    simp [hM']
  · rintro j _ M' hj ⟨hM', last, j2, j3, rfl, ha⟩
    rw [hM']
    have ex : oIx (.d (.tup (p.2.map encS))) (.d (.int (j : Int))) M = .ok (.d (encS p.2[j])) M := oIx_seq rfl (k := j) (by rw [ixN_pos (by omega) (by rw [List.length_map]; omega)]; simp) (by rw [List.getElem?_map, List.getElem?_eq_getElem hj]; rfl)
    simp [ex]
    rw [law_whole_runD _ (.int p.2[j].1) _ trivial]
    simp [wholeD]
    have hm := List.getElem_mem hj
    rw [law_is_reachR n _ M (h.rs _ hm) (hr _ hm)]
    rw [List.drop_eq_getElem_cons hj] at ha
    have hne : ¬ p.2[j].2 = last := ha.1
    simp [hne]
    rcases Nat.eq_zero_or_pos j with hj0 | hj0
    · subst hj0
      simp
      exact ⟨rfl, _, _, _, rfl, ha.2⟩
    · have hj1 : j - 1 < p.2.length := by omega
      have ex2 : oIx (.d (.tup (p.2.map encS))) (.d (.int ((j : Int) - 1))) M = .ok (.d (encS p.2[j - 1])) M := oIx_seq rfl (by rw [ixN_pos (by omega) (by simp; omega)]) (by rw [List.getElem?_map, show ((j : Int) - 1).toNat = j - 1 by omega, List.getElem?_eq_getElem hj1]; rfl)
      have hlt : p.2[j - 1].1 < p.2[j].1 := by
        have := List.pairwise_iff_getElem.mp h.ts (j - 1) j (by simp [turnsOf]; omega) (by simp [turnsOf]; omega) (by omega)
        simpa [turnsOf] using this
      have hlt' : ¬ p.2[j].1 ≤ p.2[j - 1].1 := by omega
      simp [hj0, ex2, hlt']
      exact ⟨rfl, _, _, _, rfl, ha.2⟩
end
end HW
end
section
set_option linter.all false
set_option autoImplicit false
/-! MJ21: law k09 -/
namespace HW
open MI PySem
section
variable {T : Tab}
theorem edgesL_len {L : List Int} {k : Nat} (hL : L.length ≤ k) : ∀ {ss : List Step}, (∀ s ∈ ss, Rising s.2.2) → (∀ s ∈ ss, Sub L s.2) → (edgesL ss).length ≤ k * ss.length
  | [], _, _ => Nat.zero_le _
  | s :: r, h1, h2 => by
    have ih := edgesL_len hL (fun x hx => h1 x (List.mem_cons_of_mem _ hx)) (fun x hx => h2 x (List.mem_cons_of_mem _ hx))
    have := sub_len (h1 s List.mem_cons_self) (h2 s List.mem_cons_self)
    simp only [edgesL, List.flatMap_cons, List.length_append, List.length_cons] at ih ⊢
    have e : k * (r.length + 1) = k * r.length + k := Nat.mul_succ _ _
    omega
theorem edgeCount_le {L : List Int} {k : Nat} {p : Plot} (hL : L.length ≤ k) (h : POk p) (hs : PSub L p) : edgeCount p ≤ k * (p.2.length + 1) := by
  have h1 := sub_len h.g hs.g
  have h2 := edgesL_len hL h.rs hs.rs
  unfold edgeCount
  rw [List.length_append]
  have e : k * (p.2.length + 1) = k * p.2.length + k := Nat.mul_succ _ _
  omega
theorem line_len (a b : Int) : (line a b).length = 6 := by simp [line]
theorem law_numbers_run [HasF T "_law_whole" F__law_whole] [i : HasF T "_law_numbers" F__law_numbers] (n : Nat) (l : List Int) (h h' : Nat) (hl : l.length ≤ 100000) (M : Mem) (hM : M[h]? = some (.lst (l.map D.int))) (hM' : M[h']? = some (.lst (l.map D.int))) :
    run T (n + 2) "_law_numbers" [.hdl h, .hdl h'] M = .ok (.d (.bl true)) M := by
  have hlim := lim_big
  rw [run_has i, ← Res.wp_eq]
  refine wp_run rfl ?_
  simp [F__law_numbers, b__law_numbers, hM, hM']
  rw [compL_map D.int (by simp [chkOk, hM]) (fun _ => false) D.int (fun a => by simp [← Res.wp_eq]; rw [law_whole_runD _ (.int a) _ trivial]; simp [wholeD]) l [] (by simp; omega)]
  simp
  have ef : (l.filter fun _ => false) = [] := by simp
  simp [ef]
  rw [oNe_l (as := []) (bs := []) rfl rfl rfl rfl]
  simp
  rw [oEq_l (as := l.map D.int) (bs := l.map D.int) (by simp [hM]) (by simp [hM']) (by simp) (by simp), deqs_ints]
  simp
theorem law_edges_run [i : HasF T "_law_edges" F__law_edges] (n : Nat) (p : Plot) (hl : edgeCount p < 4000) (M : Mem) : run T (n + 1) "_law_edges" [encP p] M = .ok (.o (.lst ((daysOf p).map D.int))) M := by
  have hlim := lim_big
  rw [run_has i, ← Res.wp_eq]
  refine wp_run rfl ?_
  simp [F__law_edges, b__law_edges]
  refine forL_wp encS (fun l env M' => ∃ (acc : List Int) (h : Nat) (l2 : Mem) (j2 j3 : Option D), env = [some (encP p), some (.hdl (M.length + h)), j2, j3] ∧ M' = M ++ l2 ∧ l2[h]? = some (.lst (acc.map D.int)) ∧ acc ++ edgesL l = p.1.2 ++ edgesL p.2) ?_ ?_ _ _ _ ⟨p.1.2, 0, _, _, _, rfl, rfl, rfl, rfl⟩
  · rintro _ _ ⟨acc, h, l2, j2, j3, rfl, rfl, h1, h2⟩
    simp only [edgesL, List.flatMap_nil, List.append_nil] at h2
    unfold edgeCount at hl
    have h3 : acc = p.1.2 ++ edgesL p.2 := h2
    rw [← h3] at hl
    simp
    rw [bSortedSet_of (l := acc) (by simp [h1]) hl]
    simp [daysOf, ← h3]
    rfl
  · rintro s l _ _ ⟨acc, h, l2, j2, j3, rfl, rfl, h1, h2⟩
    have hle : acc.length + s.2.2.length ≤ edgeCount p := by
      unfold edgeCount
      rw [← h2]; simp [edgesL]
    have hle2 : acc.length + s.2.2.length ≤ lim := by omega
    simp [h1, hle2]
    refine ⟨acc ++ s.2.2, l2.length, l2 ++ [.lst ((acc ++ s.2.2).map D.int)], _, _, by simp; exact ⟨rfl, rfl⟩, by simp, by simp, ?_⟩
    rw [← h2]; simp [edgesL]
theorem comp_turns {cl : Cl} {k : Nat} {r : MI.Env} (hk : k < r.length) (p : Plot) (hl : p.2.length ≤ lim) (M : Mem) : compL (MI.e2 oIx (eVar k) (eC (.int 0)) cl) (tYes cl) (.nm k) [] r (p.2.map encS) [] M = .ok (.o (.lst ((turnsOf p).map D.int))) M := by
  rw [compL_all encS rfl (fun s => D.int s.1) (fun s => by simp [← Res.wp_eq, hk]) p.2 hl]
  simp [turnsOf]
theorem law_k09_run [HasF T "lies_in" F_lies_in] [HasF T "reach_at" F_reach_at] [HasF T "lies_at" F_lies_at] [HasF T "turns_of" F_turns_of] [HasF T "days_of" F_days_of] [HasF T "_law_cell" F__law_cell] [HasF T "_law_whole" F__law_whole] [HasF T "_law_stir" F__law_stir] [HasF T "_law_reach" F__law_reach_k09]
    [HasF T "_law_plot" F__law_plot_k09] [HasF T "_law_scale" F__law_scale] [HasF T "_law_in" F__law_in_k09] [HasF T "_law_at" F__law_at_k09] [HasF T "_law_beside" F__law_beside] [HasF T "_law_days" F__law_days] [HasF T "_law_turns" F__law_turns] [HasF T "_law_is_reach" F__law_is_reach_k09]
    [HasF T "_law_numbers" F__law_numbers] [HasF T "_law_edges" F__law_edges] [i : HasF T "law" F_law_k09] (ns : List Int) (hns : ns.length ≤ 63) (n : Nat) : ∃ M, run T (n + 5) "law" [scr ns] [] = .ok (.d (.bl true)) M := by
  have : (run T (n + 5) "law" [scr ns] []).wp fun x M' => Kp (x = .d (.bl true)) := by
    have hlim := lim_big
    rw [run_has i]
    refine wp_run rfl ?_
    simp [F_law_k09, b_law_k09]
    have c0 := law_cell_run (T := T) (n + 3) ns 0 []
    simp at c0
    rw [c0]
    obtain ⟨spread, low, s1, s2, s3, s4, es⟩ := law_scale_ex (T := T) (ns[0]?.getD 0)
    simp
    rw [es (n + 3)]
    simp
    obtain ⟨p, p1, p2, p3, ep⟩ := law_plot_ex (T := T) (n + 1) (cut ns (some 1) (some 21)) 0 48271 spread low s1 (by unfold cut; simp; omega) [.lst ((cut ns (some 1) (some 21)).map D.int)] rfl
    have p3' : p.2.length ≤ 20 := by
      have : (cut ns (some 1) (some 21)).length ≤ 20 := by
        unfold cut; simp [sIx]; omega
      omega
    rw [ep]
    simp
    have pe := edgeCount_le (k := 6) (by rw [line_len]; exact Nat.le_refl _) p1 p2
    have pe' : edgeCount p ≤ 126 := by omega
    obtain ⟨ds, eds⟩ := law_days_ex (T := T) (n + 2) [p] 1 (by simp) (by simp; omega) [.lst ((cut ns (some 1) (some 21)).map D.int), .lst [encP p]] rfl
    rw [eds]
    simp
    obtain ⟨ts, ets⟩ := law_turns_ex (T := T) (n + 2) [p] 3 (by simp) (by simp; omega) [.lst ((cut ns (some 1) (some 21)).map D.int), .lst [encP p], .lst (ds.map D.int), .lst [encP p]] rfl
    rw [ets]
    simp
    have hat : ∀ t M, run T (n + 4) "_law_at" [encP p, .int t] M = .ok (.d (encR (atP p t))) M := fun t M => law_at_run (n + 3) p t M
    have hra : ∀ t M, run T (n + 4) "reach_at" [encP p, .int t] M = .ok (.d (encR (atP p t))) M := fun t M => reach_at_run (n + 3) p t M
    have hrs : ∀ t, Rising (atP p t).2 := fun t => atP_rising p1 t
    have hrl : ∀ t, (atP p t).2.length ≤ 6 := fun t => by have := sub_len (hrs t) (p2.at t); rwa [line_len] at this
    have hir : ∀ t M, run T (n + 4) "_law_is_reach" [encR (atP p t)] M = .ok (.d (.bl true)) M := fun t M => law_is_reachR (n + 2) _ M (hrs t) (by have := hrl t; omega)
    have hla : ∀ d t M, run T (n + 4) "lies_at" [encP p, .int d, .int t] M = .ok (.d (.bl (spot p d t))) M := fun d t M => lies_at_run (n + 2) p d t M
    have hin : ∀ d t M, run T (n + 4) "_law_in" [encR (atP p t), .int d] M = .ok (.d (.bl (spot p d t))) M := fun d t M => law_in_run9 (n + 3) _ _ M (by have := hrl t; omega)
    refine forL_wp D.int (fun l env M' => M'[2]? = some (.lst (ds.map D.int)) ∧ ∃ (j5 j6 j7 j8 j9 j10 : Option D), env = [some (scr ns), some (.int spread), some (.int low), some (encP p), some (.hdl 2), j5, j6, j7, j8, j9, j10]) ?_ ?_ _ _ _ ⟨rfl, _, _, _, _, _, _, rfl⟩
    · rintro _ M' ⟨hM, j5, j6, j7, j8, j9, j10, rfl⟩
      simp
      have htu : ∀ M, run T (n + 4) "turns_of" [encP p] M = .ok (.o (.lst ((turnsOf p).map D.int))) M := fun M => turns_of_run (n + 3) p (by omega) M
      have hda : ∀ M, run T (n + 4) "days_of" [encP p] M = .ok (.o (.lst ((daysOf p).map D.int))) M := fun M => days_of_run (n + 3) p (by omega) M
      have hed : ∀ M, run T (n + 4) "_law_edges" [encP p] M = .ok (.o (.lst ((daysOf p).map D.int))) M := fun M => law_edges_run (n + 3) p (by omega) M
      have ht : (turnsOf p).length ≤ 100000 := by simp [turnsOf]; omega
      have hd : (daysOf p).length ≤ 100000 := by have := ss_len (p.1.2 ++ edgesL p.2); unfold daysOf; unfold edgeCount at pe'; omega
      simp [htu]
      rw [comp_turns (by simp) p (by omega)]
      simp
      rw [law_numbers_run (n + 2) (turnsOf p) _ _ ht _ (by simp) (by simp)]
      simp [hda]
      rw [hed]
      simp
      rw [law_numbers_run (n + 2) (daysOf p) _ _ hd _ (by simp) (by simp)]
      have ht' : (turnsOf p).length < lim := by omega
      have hd' : (daysOf p).length < lim := by omega
      simp [ht', hda, hd', htu]
      rw [comp_turns (by simp) p (by omega)]
      simp [hda, hed]
      rfl
    · rintro t l _ M' ⟨hM, j5, j6, j7, j8, j9, j10, rfl⟩
      simp [hat, hra, hir, hM]
      refine forL_wp D.int (fun l env M' => M'[2]? = some (.lst (ds.map D.int)) ∧ ∃ (j8 j9 j10 : Option D), env = [some (scr ns), some (.int spread), some (.int low), some (encP p), some (.hdl 2), some (.int t), some (encR (atP p t)), some (encR (atP p t)), j8, j9, j10]) ?_ ?_ _ _ _ ⟨hM, _, _, _, rfl⟩
      · rintro _ M' ⟨hM, j8, j9, j10, rfl⟩
        simp [hM]
        exact ⟨hM, _, _, _, _, _, _, rfl⟩
      · rintro d l2 _ M' ⟨hM, j8, j9, j10, rfl⟩
        simp [hla, hin, hM]
        exact ⟨hM, _, _, _, rfl⟩
  obtain ⟨x, M', e, rfl⟩ := Res.wp_ex this
  exact ⟨M', e⟩
end
end HW
end
section
set_option linter.all false
set_option autoImplicit false
/-! MJ22: plots made; law k10 -/
namespace HW
open MI PySem
theorem lastR_cons (g : Reach) (x : Step) (l : List Step) : lastR g (x :: l) = lastR x.2 l := by
  unfold lastR
  cases l with
  | nil => rfl
  | cons y r =>
    rw [List.getLast?_cons_cons]
    cases e : (y :: r).getLast? with
    | none => simp at e
    | some z => rfl
theorem mkS_snoc : ∀ (g : Reach) (l : List Step) (s : Step), mkS g (l ++ [s]) = mkS g l ++ (if s.2 = lastR g l then [] else [s])
  | g, [], s => by by_cases h : s.2 = g <;> simp [mkS, lastR, h]
  | g, x :: l, s => by
    rw [List.cons_append, lastR_cons]
    unfold mkS
    by_cases h : x.2 = g
    · rw [if_pos h, if_pos h, mkS_snoc g l s, h]
    · rw [if_neg h, if_neg h, mkS_snoc x.2 l s, List.cons_append]
theorem at_pair {g : Reach} : ∀ {ps : List Step}, Rising (ps.map (·.1)) → ∀ s ∈ ps, atL g ps s.1 = s.2
  | [], _, s, hs => nomatch hs
  | x :: r, h, s, hs => by
    have h2 := (Rising.cons.mp h).2
    have gt := turns_gt h
    rw [atL_cons]
    rcases List.mem_cons.mp hs with e | hs
    · subst e
      rw [if_pos (Int.le_refl _), atL_gt gt]
    · have := gt s hs
      rw [if_pos (by omega)]
      exact at_pair h2 s hs
section
variable {T : Tab}
theorem plot_of_run [i : HasF T "plot_of" F_plot_of] (n : Nat) (g : Reach) (ps : List Step) (h : Nat) (hl : ps.length ≤ 1000000) (M : Mem) (hM : M[h]? = some (.lst (ps.map encS))) : run T (n + 1) "plot_of" [encR g, .hdl h] M = .ok (.d (encP (plotOf g ps))) M := by
  have hlim : 10000000 ≤ lim := by decide
  have hM2 : ∀ l : Mem, (M ++ l)[h]? = some (.lst (ps.map encS)) := fun l => get_ahead hM
  rw [run_has i, ← Res.wp_eq]
  refine wp_run rfl ?_
  simp [F_plot_of, b_plot_of, hM2]
  refine forL_wp encS (fun l env M' => ∃ (done : List Step) (j4 j5 : Option D), env = [some (encR g), some (.hdl h), some (.hdl M.length), some (encR (lastR g done)), j4, j5] ∧ M' = M ++ [.lst ((mkS g done).map encS)] ∧ done ++ l = ps) ?_ ?_ _ _ _ ⟨[], _, _, rfl, rfl, rfl⟩
  · rintro _ _ ⟨done, j4, j5, rfl, rfl, h1⟩
    rw [List.append_nil] at h1
    subst h1
    simp [hM2, encP, plotOf]
  · rintro s l _ _ ⟨done, j4, j5, rfl, rfl, h1⟩
    have hd : done.length ≤ ps.length := by rw [← h1]; simp
    have hm := (mkS_sub g done).length_le
    have hacc : (mkS g done).length < lim := by omega
    simp [hM2]
    split
    · rename_i hr
      refine ⟨done ++ [s], _, _, by rw [lastR_snoc, ← hr], by rw [mkS_snoc, if_pos hr, List.append_nil], by rw [← h1]; simp⟩
    · rename_i hr
      simp [hacc, show (2 : Nat) ≤ lim by omega]
      refine ⟨done ++ [s], _, _, by rw [lastR_snoc]; rfl, by rw [mkS_snoc, if_neg hr]; simp [encS], by rw [← h1]; simp⟩
theorem law_due_k10_run [i : HasF T "_law_due" F__law_due_k10] (n : Nat) (g : Reach) (ps : List Step) (h : Nat) (hl : ps.length ≤ 1000000) (M : Mem) (hM : M[h]? = some (.lst (ps.map encS))) : run T (n + 1) "_law_due" [encR g, .hdl h] M = .ok (.d (encP (plotOf g ps))) M := by
  have hlim : 10000000 ≤ lim := by decide
  have hM2 : ∀ l : Mem, (M ++ l)[h]? = some (.lst (ps.map encS)) := fun l => get_ahead hM
  rw [run_has i, ← Res.wp_eq]
  refine wp_run rfl ?_
  simp [F__law_due_k10, b__law_due_k10, hM2]
  refine ⟨by omega, ?_⟩
  refine forL_range (fun j env M' => ∃ (j3 j4 : Option D), env = [some (encR g), some (.hdl h), some (.hdl M.length), j3, j4] ∧ M' = M ++ [.lst ((mkS g (ps.take j)).map encS)]) ?_ ?_ _ _ ⟨_, _, rfl, rfl⟩
  · rintro _ _ ⟨j3, j4, rfl, rfl⟩
    simp [encP, plotOf]
  · rintro j _ _ hj ⟨j3, j4, rfl, rfl⟩
    have hm := (mkS_sub g (ps.take j)).length_le
    rw [List.length_take] at hm
    have hacc : (mkS g (ps.take j)).length < lim := by omega
    have gx : ∀ M', M'[h]? = some (O.lst (ps.map encS)) → oIx (.d (.hdl h)) (.d (.int (j : Int))) M' = .ok (.d (encS ps[j])) M' := fun M' hM' => oIx_seq (ds := ps.map encS) (k := j) (by simp [hM']) (by rw [ixN_pos (by omega) (by rw [List.length_map]; omega)]; simp) (by rw [List.getElem?_map, List.getElem?_eq_getElem hj]; rfl)
    have step : (∃ (j3 j4 : Option D), [some (encR g), some (.hdl h), some (.hdl M.length), some (D.int (j : Int)), some (encR (lastR g (ps.take j)))] = [some (encR g), some (.hdl h), some (.hdl M.length), j3, j4] ∧
        M ++ [O.lst ((mkS g (ps.take j) ++ (if ps[j].2 = lastR g (ps.take j) then [] else [ps[j]])).map encS)] = M ++ [.lst ((mkS g (ps.take (j + 1))).map encS)]) := ⟨_, _, rfl, by rw [List.take_succ_eq_append_getElem hj, mkS_snoc]⟩
    have tail : (sIf (tB (MI.e2 oNe (MI.e2 oIx (MI.e2 oIx (eVar 1) (eVar 3)) (eC (.int 1))) (eVar 4))) (sExpr (eM1 mAppend (eVar 2) (MI.e2 oIx (eVar 1) (eVar 3)))) sNil (run T n)
        [some (encR g), some (.hdl h), some (.hdl M.length), some (.int (j : Int)), some (encR (lastR g (ps.take j)))] (M ++ [.lst ((mkS g (ps.take j)).map encS)])).wp (fun r2 M2 => Kp (∃ (j3 j4 : Option D), r2 = [some (encR g), some (.hdl h), some (.hdl M.length), j3, j4] ∧ M2 = M ++ [.lst ((mkS g (ps.take (j + 1))).map encS)]))
        (fun x M' => (fin .pure M x M').wp fun x M' => x = .d (encP (plotOf g ps)) ∧ M' = M) := by
      simp [gx _ (hM2 _)]
      split
      · rename_i hr
        simp only [if_pos hr, List.append_nil] at step
        exact step
      · rename_i hr
        simp only [if_neg hr, List.map_append, List.map_cons, List.map_nil] at step
        simp [gx _ (hM2 _), hacc]
        exact step
    rcases Nat.eq_zero_or_pos j with hj0 | hj0
    · subst hj0
      simp at tail ⊢
      exact tail
    · have hj1 : j - 1 < ps.length := by omega
      have gx2 : oIx (.d (.hdl h)) (.d (.int ((j : Int) - 1))) (M ++ [.lst ((mkS g (ps.take j)).map encS)]) = .ok (.d (encS ps[j - 1])) (M ++ [.lst ((mkS g (ps.take j)).map encS)]) := oIx_seq (ds := ps.map encS) (k := j - 1) (by simp [hM2]) (by rw [ixN_pos (by omega) (by rw [List.length_map]; omega)]; congr 1; omega) (by rw [List.getElem?_map, List.getElem?_eq_getElem hj1]; rfl)
      have hla : lastR g (ps.take j) = ps[j - 1].2 := by
        have : ps.take j = ps.take (j - 1) ++ [ps[j - 1]] := by
          rw [← List.take_succ_eq_append_getElem hj1]; congr 1; omega
        rw [this, lastR_snoc]
      rw [hla] at tail
      simp [hj0, gx2]
      simpa using tail
theorem law_pairs_k10_ex [HasF T "_law_stir" F__law_stir] [HasF T "_law_reach" F__law_reach_k09] [i : HasF T "_law_pairs" F__law_pairs_k10] (n : Nat) (cells : List Int) (h : Nat) (g : Reach) (spread low : Int) (hs : 0 < spread) (hl : cells.length ≤ 100) (hg : Rising g.2) (hgs : Sub (line spread low) g) (M : Mem) (hM : M[h]? = some (.lst (cells.map D.int))) :
    ∃ ps : List Step, Rising (ps.map (·.1)) ∧ (∀ s ∈ ps, Rising s.2.2) ∧ (∀ s ∈ ps, Sub (line spread low) s.2) ∧ ps.length ≤ cells.length ∧ run T (n + 3) "_law_pairs" [.hdl h, encR g, .int spread, .int low] M = .ok (.o (.lst (ps.map encS))) M := by
  have : (run T (n + 3) "_law_pairs" [.hdl h, encR g, .int spread, .int low] M).wp fun x M' => Kp (M' = M ∧ ∃ ps : List Step, Rising (ps.map (·.1)) ∧ (∀ s ∈ ps, Rising s.2.2) ∧ (∀ s ∈ ps, Sub (line spread low) s.2) ∧ ps.length ≤ cells.length ∧ x = .o (.lst (ps.map encS))) := by
    have hlim := lim_big
    have hM2 : ∀ l : Mem, (M ++ l)[h]? = some (.lst (cells.map D.int)) := fun l => get_ahead hM
    rw [run_has i]
    refine wp_run rfl ?_
    simp [F__law_pairs_k10, b__law_pairs_k10, hM2]
    refine forL_wp D.int (fun l env M' => ∃ (acc : List Step) (turn : Int) (last : Reach) (j7 : Option D), env = [some (.hdl h), some (encR g), some (.int spread), some (.int low), some (.hdl M.length), some (encR last), some (.int turn), j7] ∧ M' = M ++ [.lst (acc.map encS)] ∧
      Rising (acc.map (·.1)) ∧ (∀ s ∈ acc, s.1 ≤ turn) ∧ (∀ s ∈ acc, Rising s.2.2) ∧ (∀ s ∈ acc, Sub (line spread low) s.2) ∧ acc.length + l.length ≤ cells.length ∧ Rising last.2 ∧ Sub (line spread low) last) ?_ ?_ _ _ _ ⟨[], _, g, _, rfl, rfl, .nil, by simp, by simp, by simp, by simp, hg, hgs⟩
    · rintro _ _ ⟨acc, turn, last, j7, rfl, rfl, h1, h2, h3, h4, h5, h6, h7⟩
      simp [hM2]
      exact ⟨rfl, acc, h1, h3, h4, by simpa using h5, rfl⟩
    · rintro c l _ _ ⟨acc, turn, last, j7, rfl, rfl, h1, h2, h3, h4, h5, h6, h7⟩
      simp only [List.length_cons] at h5
      simp [hM2]
      rw [law_stir_run]
      have s0 := stir_nn c 40014
      have s1 := Int.emod_nonneg (stir c 40014 / 7) (show (3 : Int) ≠ 0 by decide)
      have s2 := Int.emod_lt_of_pos (stir c 40014 / 7) (show (0 : Int) < 3 by decide)
      simp
      refine ⟨.inl ⟨by omega, by omega⟩, ?_⟩
      rw [law_stir_run]
      simp
      have hpos : 0 < (1 + stir c 40014 / 7 % 3) * spread := Int.mul_pos (by omega) hs
      have hacc : acc.length < lim := by omega
      have l2 : (2 : Nat) ≤ lim := by omega
      have fin' : ∀ r : Reach, Rising r.2 → Sub (line spread low) r → Kp (∃ (acc' : List Step) (turn' : Int) (last : Reach) (j7 : Option D), [some (.hdl h), some (encR g), some (.int spread), some (.int low), some (.hdl M.length), some (encR r), some (.int (turn + (1 + stir c 40014 / 7 % 3) * spread)), some (D.int c)] = [some (.hdl h), some (encR g), some (.int spread), some (.int low), some (.hdl M.length), some (encR last), some (.int turn'), j7] ∧
          M ++ [O.lst (acc.map encS ++ [D.tup [.int (turn + (1 + stir c 40014 / 7 % 3) * spread), encR r]])] = M ++ [.lst (acc'.map encS)] ∧ Rising (acc'.map (·.1)) ∧ (∀ s ∈ acc', s.1 ≤ turn') ∧ (∀ s ∈ acc', Rising s.2.2) ∧ (∀ s ∈ acc', Sub (line spread low) s.2) ∧ acc'.length + l.length ≤ cells.length ∧ Rising last.2 ∧ Sub (line spread low) last) := by
        intro r hr1 hr2
        refine ⟨acc ++ [(turn + (1 + stir c 40014 / 7 % 3) * spread, r)], _, _, _, rfl, by simp [encS], ?_, ?_, ?_, ?_, by simp; omega, hr1, hr2⟩
        · rw [List.map_append]
          refine Rising.snoc h1 fun x hx => ?_
          obtain ⟨s, hs', rfl⟩ := List.mem_map.mp hx
          have := h2 s hs'
          show s.1 < turn + (1 + stir c 40014 / 7 % 3) * spread
          omega
        · intro s hs'
          rcases List.mem_append.mp hs' with q | q
          · have := h2 s q; omega
          · rw [List.mem_singleton.mp q]; exact Int.le_refl _
        · intro s hs'
          rcases List.mem_append.mp hs' with q | q
          · exact h3 s q
          · rw [List.mem_singleton.mp q]; exact hr1
        · intro s hs'
          rcases List.mem_append.mp hs' with q | q
          · exact h4 s q
          · rw [List.mem_singleton.mp q]; exact hr2
      split
      · rw [law_reach_run9]
        simp [hacc, l2]
        exact fin' _ (lawReach_rising hs _ _ _) (lawReach_sub _ _ _ _)
      · simp [hacc, l2]
        exact fin' _ h6 h7
  obtain ⟨x, M', e, rfl, p, h1, h2, h3, h4, rfl⟩ := Res.wp_ex this
  exact ⟨p, h1, h2, h3, h4, e⟩
end
end HW
end
section
set_option linter.all false
set_option autoImplicit false
/-! MJ23: law k10 -/
namespace MI
@[simp] theorem mClear_def (n : Nat) (M : Mem) : mClear n M = match M[n]? with
    | some (.lst _) => .ok (.d .non) (M.set n (.lst []))
    | _ => .bad := nrfl rfl
end MI
namespace HW
open MI PySem
section
variable {T : Tab}
theorem law_k10_run [HasF T "reach_at" F_reach_at] [HasF T "plot_of" F_plot_of] [HasF T "_law_cell" F__law_cell] [HasF T "_law_whole" F__law_whole] [HasF T "_law_stir" F__law_stir] [HasF T "_law_reach" F__law_reach_k09] [HasF T "_law_scale" F__law_scale] [HasF T "_law_is_reach" F__law_is_reach_k09]
    [HasF T "_law_is_plot" F__law_is_plot_k09] [HasF T "_law_pairs" F__law_pairs_k10] [HasF T "_law_due" F__law_due_k10] [i : HasF T "law" F_law_k10] (ns : List Int) (hns : ns.length ≤ 63) (n : Nat) : ∃ M, run T (n + 5) "law" [scr ns] [] = .ok (.d (.bl true)) M := by
  have : (run T (n + 5) "law" [scr ns] []).wp fun x M' => Kp (x = .d (.bl true)) := by
    have hlim := lim_big
    rw [run_has i]
    refine wp_run rfl ?_
    simp [F_law_k10, b_law_k10]
    have c0 := law_cell_run (T := T) (n + 3) ns 0 []
    simp at c0
    rw [c0]
    generalize ns[0]?.getD 0 = first
    obtain ⟨spread, low, s1, s2, s3, s4, es⟩ := law_scale_ex (T := T) first
    simp
    rw [es (n + 3)]
    simp
    rw [law_reach_run9]
    simp
    have key : ∀ g : Reach, Rising g.2 → Sub (line spread low) g → (sSeq (sSet 5 (eCall "_law_pairs" (dCons (eSlice (eVar 0) (oSome (eC (.int 1))) (oSome (eC (.int 41)))) (dCons (eVar 4) (dCons (eVar 2) (dCons (eVar 3) dNil)))))) (sSeq (sSet 6 (e1 bList (eVar 5))) (sSeq (sSet 7 (eCall "plot_of" (dCons (eVar 4) (dCons (eVar 6) dNil)))) (sSeq (sIf (tOr (tNot (tTru (eCall "_law_is_plot" (dCons (eVar 7) dNil)))) (tOr (tB (MI.e2 oNe (eVar 7) (eCall "_law_due" (dCons (eVar 4) (dCons (eVar 5) dNil))))) (tB (MI.e2 oNe (eVar 6) (eVar 5))))) (sRet (eC (.bl false))) sNil) (sSeq (sExpr (eM0 mClear (eVar 6))) (sSeq (sFor (.tp [8, 9]) (iSeq (eVar 5)) (sIf (tB (MI.e2 oNe (eCall "reach_at" (dCons (eVar 7) (dCons (eVar 8) dNil))) (eVar 9))) (sRet (eC (.bl false))) sNil)) (sRet (eAnd (MI.e2 oEq (eCall "plot_of" (dCons (eVar 4) (dCons (eLst dNil) dNil))) (eTup (dCons (eVar 4) (dCons (eTup dNil) dNil)))) (MI.e2 oEq (eCall "plot_of" (dCons (eVar 4) (dCons (e1 bList (MI.e2 oIx (eVar 7) (eC (.int 1)))) dNil))) (eVar 7)))))))))
        (run T (n + 4)) [some (scr ns), some (.int first), some (.int spread), some (.int low), some (encR g), none, none, none, none, none] []).wp (fun x M' => (fin .pure [] (.d .non) M').wp fun x M' => Kp (x = .d (.bl true))) (fun x M' => (fin .pure [] x M').wp fun x M' => Kp (x = .d (.bl true))) := by
      intro g hg hgs
      simp
      obtain ⟨ps, p1, p2, p3, p4, ep⟩ := law_pairs_k10_ex (T := T) (n + 1) (cut ns (some 1) (some 41)) 0 g spread low s1 (by unfold cut; simp; omega) hg hgs [.lst ((cut ns (some 1) (some 41)).map D.int)] rfl
      have p4' : ps.length ≤ 63 := by
        have : (cut ns (some 1) (some 41)).length ≤ 63 := by unfold cut; simp; omega
        omega
      rw [ep]
      simp
      have hpo := fun h M hM => plot_of_run (T := T) (n + 3) g ps h (by omega) M hM
      have ok := plotOf_ok hg p1 p2
      rw [hpo 2 _ rfl]
      simp
      have hle := fun r hr hs => sub_len (r := r) (L := line spread low) hr hs
      have hsub := plotOf_sub hgs p3
      rw [law_is_plotP (n + 1) _ _ ok (by have := plotOf_len g ps; omega) (by have := sub_len ok.g hsub.g; rw [line_len] at this; omega) (fun s hs => by have := sub_len (ok.rs s hs) (hsub.rs s hs); rw [line_len] at this; omega)]
      simp
      rw [law_due_k10_run (n + 3) g ps 1 (by omega) _ rfl]
      simp
      rw [oNe_l (as := ps.map encS) (bs := ps.map encS) rfl rfl (pls_map fun _ _ => pl_S _ _) (pls_map fun _ _ => pl_S _ _), deqs_S]
      simp
      refine forL_wp encS (fun l env M' => M'[1]? = some (.lst (ps.map encS)) ∧ (∀ s ∈ l, s ∈ ps) ∧ ∃ (j8 j9 : Option D), env = [some (scr ns), some (.int first), some (.int spread), some (.int low), some (encR g), some (.hdl 1), some (.hdl 2), some (encP (plotOf g ps)), j8, j9]) ?_ ?_ _ _ _ ⟨rfl, fun _ h => h, _, _, rfl⟩
      · rintro _ M' ⟨hM, _, j8, j9, rfl⟩
        simp [hM]
        rw [plot_of_run (n + 3) g [] _ (by simp) _ (by simp)]
        simp [show (0 : Nat) ≤ lim by omega, show (2 : Nat) ≤ lim by omega]
        have e0 : ∀ M, oEq (.d (encP (plotOf g []))) (.d (.tup [encR g, .tup []])) M = .ok (.d (.bl true)) M := fun M => by
          have := oEq_P (plotOf g []) (g, []) M
          simpa [plotOf, mkS, encP] using this
        rw [e0]
        simp
        rw [plot_of_run (n + 3) g (plotOf g ps).2 _ (by have := plotOf_len g ps; omega) _ (by simp)]
        have : plotOf g (plotOf g ps).2 = plotOf g ps := plotOf_self ok
        simp [this]
        rfl
      · rintro s l _ M' ⟨hM, hs, j8, j9, rfl⟩
        simp [hM]
        rw [reach_at_run]
        have hat : atP (plotOf g ps) s.1 = s.2 := by rw [plotOf_at p1, at_pair p1 s (hs s List.mem_cons_self)]
        simp [hat]
        exact ⟨hM, fun x hx => hs x (List.mem_cons_of_mem _ hx), _, _, rfl⟩
    split
    · have := key (false, []) .nil (fun e he => nomatch he)
      simpa [encR] using this
    · have := key (lawReach first 16807 spread low) (lawReach_rising s1 _ _ _) (lawReach_sub _ _ _ _)
      simpa using this
  obtain ⟨x, M', e, rfl⟩ := Res.wp_ex this
  exact ⟨M', e⟩
end
end HW
end
section
set_option linter.all false
set_option autoImplicit false
/-! MJ24: plots blended; law k11 -/
namespace MI
section
variable {M : Mem}
@[simp] theorem lstV_hdl (n : Nat) (Q : List D → Prop) : lstV (.d (.hdl n)) M Q = match M[n]? with
    | some (.lst ds) => Q ds
    | _ => False := by
  unfold lstV; rw [lstOf_hdl]; cases M[n]? with
  | none => rfl
  | some o => cases o <;> rfl
theorem pickS_ints (lo k : Nat) (hk : 0 < k) (l : List Int) : ∃ l' : List Int, pickS lo k (l.map D.int) = l'.map D.int ∧ l'.length ≤ l.length := by
  refine ⟨(List.range ((l.length - lo + (k - 1)) / k)).filterMap fun j => l[lo + k * j]?, ?_, ?_⟩
  · unfold pickS
    rw [List.length_map, List.map_filterMap]
    congr 1
    funext j
    rw [List.getElem?_map]
  · refine Nat.le_trans (List.length_filterMap_le _ _) ?_
    rw [List.length_range]
    rcases Nat.eq_zero_or_pos (l.length - lo) with h0 | h0
    · rw [h0, Nat.div_eq_of_lt (by omega)]; exact Nat.zero_le _
    · refine Nat.le_trans (Nat.le_of_lt_succ ((Nat.div_lt_iff_lt_mul hk).mpr ?_)) (Nat.sub_le l.length lo)
      have : (l.length - lo + 1) * k = (l.length - lo) * k + k := by rw [Nat.add_mul, Nat.one_mul]
      have h3 : l.length - lo ≤ (l.length - lo) * k := Nat.le_mul_of_pos_right _ hk
      show l.length - lo + (k - 1) < (l.length - lo + 1) * k
      omega
end
end MI
namespace HW
open MI PySem
theorem cut_all {A : Type} (l : List A) : cut l none none = l := by
  unfold cut; simp [sIx]
section
variable {T : Tab}
theorem at_len {L : List Int} {p : Plot} (h : POk p) (hs : PSub L p) (t : Int) : (atP p t).2.length ≤ L.length := sub_len (atP_rising h t) (hs.at t)
theorem blend_plots_run [HasF T "edges_marked" F_edges_marked] [HasF T "truth_by" F_truth_by] [HasF T "blend" F_blend] [HasF T "reach_at" F_reach_at] [HasF T "plot_of" F_plot_of] [HasF T "turns_of" F_turns_of] [i : HasF T "blend_plots" F_blend_plots] (n : Nat) (w : W4) {L : List Int} {a b : Plot} (ha : POk a) (hb : POk b) (sa : PSub L a) (sb : PSub L b)
    (hL : L.length ≤ 1900) (hl : a.2.length + b.2.length ≤ 3900) (M : Mem) : run T (n + 3) "blend_plots" [encP a, encP b, .str w.s] M = .ok (.d (encP (blendP w a b))) M := by
  have hlim := lim_big
  rw [run_has i, ← Res.wp_eq]
  refine wp_run rfl ?_
  have tu : ∀ p : Plot, p.2.length ≤ 3900 → ∀ M, run T (n + 2) "turns_of" [encP p] M = .ok (.o (.lst ((turnsOf p).map D.int))) M := fun p hp M => turns_of_run (n + 1) p (by omega) M
  have ra : ∀ (p : Plot) (t : Int) M, run T (n + 2) "reach_at" [encP p, .int t] M = .ok (.d (encR (atP p t))) M := fun p t M => reach_at_run (n + 1) p t M
  have hla : (turnsOf a).length = a.2.length := by simp [turnsOf]
  have hlb : (turnsOf b).length = b.2.length := by simp [turnsOf]
  have hss := ss_len (turnsOf a ++ turnsOf b)
  rw [List.length_append] at hss
  simp [F_blend_plots, b_blend_plots, tu a (by omega), tu b (by omega)]
  have h1 : (turnsOf a).length + (turnsOf b).length ≤ lim := by omega
  have h2 : (turnsOf a).length + (turnsOf b).length < 4000 := by omega
  simp [h1, h2]
  refine forL_wp D.int (fun l env M' => ∃ (done : List Int) (l2 : Mem) (j4 : Option D), env = [some (encP a), some (encP b), some (.str w.s), some (.hdl M.length), j4] ∧ M' = M ++ (.lst ((done.map fun t => (t, blend w (atP a t) (atP b t))).map encS) :: l2) ∧ done ++ l = ss (turnsOf a ++ turnsOf b)) ?_ ?_ _ _ _ ⟨[], _, _, rfl, rfl, rfl⟩
  · rintro _ _ ⟨done, l2, j4, rfl, rfl, hd⟩
    rw [List.append_nil] at hd
    simp
    have g1 := sub_len ha.g sa.g
    have g2 := sub_len hb.g sb.g
    rw [blend_run n w a.1 b.1 (by omega)]
    simp
    have := plot_of_run (T := T) (n + 1) (blend w a.1 b.1) (done.map fun t => (t, blend w (atP a t) (atP b t))) M.length (by rw [List.length_map, hd]; omega) (M ++ (.lst ((done.map fun t => (t, blend w (atP a t) (atP b t))).map encS) :: l2)) (by simp)
    simp at this
    rw [this]
    simp [blendP, hd]
  · rintro t l _ _ ⟨done, l2, j4, rfl, rfl, hd⟩
    have e1 := at_len ha sa t
    have e2 := at_len hb sb t
    have hdl : done.length < lim := by
      have : done.length ≤ (ss (turnsOf a ++ turnsOf b)).length := by rw [← hd]; simp
      omega
    simp [ra]
    rw [blend_run n w (atP a t) (atP b t) (by omega)]
    simp [hdl, show (2 : Nat) ≤ lim by omega]
    refine ⟨done ++ [t], l2, _, rfl, by simp [encS], by rw [← hd]; simp⟩
theorem blend_plots_odd [HasF T "edges_marked" F_edges_marked] [HasF T "truth_by" F_truth_by] [HasF T "blend" F_blend] [HasF T "reach_at" F_reach_at] [HasF T "plot_of" F_plot_of] [HasF T "turns_of" F_turns_of] [i : HasF T "blend_plots" F_blend_plots] (n : Nat) (s : Str) (hs : OddW s) {L : List Int} {a b : Plot} (ha : POk a) (hb : POk b) (sa : PSub L a) (sb : PSub L b)
    (hL : L.length ≤ 1900) (hl : a.2.length + b.2.length ≤ 3900) (M : Mem) : run T (n + 3) "blend_plots" [encP a, encP b, .str s] M = .err "NoWord" M := by
  have hlim := lim_big
  rw [run_has i, ← Res.wpx_err]
  refine wpx_run rfl ?_
  have tu : ∀ p : Plot, p.2.length ≤ 3900 → ∀ M, run T (n + 2) "turns_of" [encP p] M = .ok (.o (.lst ((turnsOf p).map D.int))) M := fun p hp M => turns_of_run (n + 1) p (by omega) M
  have ra : ∀ (p : Plot) (t : Int) M, run T (n + 2) "reach_at" [encP p, .int t] M = .ok (.d (encR (atP p t))) M := fun p t M => reach_at_run (n + 1) p t M
  have hla : (turnsOf a).length = a.2.length := by simp [turnsOf]
  have hlb : (turnsOf b).length = b.2.length := by simp [turnsOf]
  simp [F_blend_plots, b_blend_plots, tu a (by omega), tu b (by omega)]
  have h1 : (turnsOf a).length + (turnsOf b).length ≤ lim := by omega
  have h2 : (turnsOf a).length + (turnsOf b).length < 4000 := by omega
  simp [h1, h2]
  refine forL_wpx D.int (fun l env M' => ∃ (ds : List D) (l2 : Mem) (j4 : Option D), env = [some (encP a), some (encP b), some (.str s), some (.hdl M.length), j4] ∧ M' = M ++ (.lst ds :: l2)) ?_ ?_ _ _ _ ⟨[], _, _, rfl, rfl⟩
  · rintro _ _ ⟨ds, l2, j4, rfl, rfl⟩
    simp
    have g1 := sub_len ha.g sa.g
    have g2 := sub_len hb.g sb.g
    rw [blend_odd n s hs a.1 b.1 (by omega)]
    simp
  · rintro t l _ _ ⟨ds, l2, j4, rfl, rfl⟩
    have e1 := at_len ha sa t
    have e2 := at_len hb sb t
    simp [ra]
    rw [blend_odd n s hs (atP a t) (atP b t) (by omega)]
    simp
theorem law_word_run [i : HasF T "_law_word" F__law_word] (n : Nat) (w : W4) (a b : Bool) (M : Mem) : run T (n + 1) "_law_word" [.str w.s, .bl a, .bl b] M = .ok (.d (.bl (w.tb a b))) M := by
  rw [run_has i, ← Res.wp_eq]
  refine wp_run rfl ?_
  cases w <;> cases a <;> simp [F__law_word, b__law_word, W4.s, W4.tb]
theorem law_right_run [HasF T "edges_marked" F_edges_marked] [HasF T "truth_by" F_truth_by] [HasF T "blend" F_blend] [HasF T "reach_at" F_reach_at] [HasF T "plot_of" F_plot_of] [HasF T "turns_of" F_turns_of] [HasF T "blend_plots" F_blend_plots] [HasF T "_law_whole" F__law_whole] [HasF T "_law_is_reach" F__law_is_reach_k09] [HasF T "_law_is_plot" F__law_is_plot_k09]
    [HasF T "_law_in" F__law_in_k09] [HasF T "_law_at" F__law_at_k09] [HasF T "_law_beside" F__law_beside] [HasF T "_law_days" F__law_days] [HasF T "_law_turns" F__law_turns] [HasF T "_law_word" F__law_word] [i : HasF T "_law_right" F__law_right] (n : Nat) (w : W4) {L : List Int} {a b : Plot} (ha : POk a) (hb : POk b) (sa : PSub L a) (sb : PSub L b)
    (hL : L.length ≤ 20) (la : a.2.length ≤ 40) (lb : b.2.length ≤ 40) (M : Mem) : run T (n + 4) "_law_right" [encP a, encP b, .str w.s] M = .ok (.d (.bl true)) M := by
  have hlim := lim_big
  rw [run_has i, ← Res.wp_eq]
  refine wp_run rfl ?_
  simp [F__law_right, b__law_right]
  rw [blend_plots_run n w ha hb sa sb (by omega) (by omega)]
  have ok := blendP_ok w a b
  have su := blendP_sub w sa sb
  have ln := blendP_len w a b
  simp
  have hr : ∀ s ∈ (blendP w a b).2, s.2.2.length ≤ 1000000 := fun s hs => by have := sub_len (ok.rs s hs) (su.rs s hs); omega
  rw [law_is_plotP n _ _ ok (by omega) (by have := sub_len ok.g su.g; omega) hr]
  simp [show (2 : Nat) ≤ lim by omega]
  have ea := edgeCount_le (k := 20) hL ha sa
  have eb := edgeCount_le (k := 20) hL hb sb
  obtain ⟨ds, eds⟩ := law_days_ex (T := T) (n + 1) [a, b] M.length (by simp) (by simp; omega) (M ++ [.lst [encP a, encP b]]) (by simp)
  rw [eds]
  simp [show (2 : Nat) ≤ lim by omega]
  obtain ⟨ts, ets⟩ := law_turns_ex (T := T) (n + 1) [a, b] (M.length + 2) (by simp) (by simp; omega) (M ++ [.lst [encP a, encP b], .lst (ds.map D.int), .lst [encP a, encP b]]) (by simp)
  rw [ets]
  simp
  have hat : ∀ (p : Plot) t M, run T (n + 3) "_law_at" [encP p, .int t] M = .ok (.d (encR (atP p t))) M := fun p t M => law_at_run (n + 2) p t M
  have hin : ∀ (p : Plot), POk p → PSub L p → ∀ d t M, run T (n + 3) "_law_in" [encR (atP p t), .int d] M = .ok (.d (.bl (spot p d t))) M := fun p h1 h2 d t M => law_in_run9 (n + 2) _ _ M (by have := at_len h1 h2 t; omega)
  have hwd : ∀ a b M, run T (n + 3) "_law_word" [.str w.s, .bl a, .bl b] M = .ok (.d (.bl (w.tb a b))) M := fun a b M => law_word_run (n + 2) w a b M
  refine forL_wp D.int (fun l env M' => M' = M ++ [.lst [encP a, encP b], .lst (ds.map D.int), .lst [encP a, encP b]] ∧ ∃ (j5 j6 j7 j8 j9 : Option D), env = [some (encP a), some (encP b), some (.str w.s), some (encP (blendP w a b)), some (.hdl (M.length + 1)), j5, j6, j7, j8, j9]) ?_ ?_ _ _ _ ⟨rfl, _, _, _, _, _, rfl⟩
  · rintro _ _ ⟨rfl, j5, j6, j7, j8, j9, rfl⟩
    simp
  · rintro t l _ _ ⟨rfl, j5, j6, j7, j8, j9, rfl⟩
    simp [hat]
    refine forL_wp D.int (fun l env M' => M' = M ++ [.lst [encP a, encP b], .lst (ds.map D.int), .lst [encP a, encP b]] ∧ ∃ (j9 : Option D), env = [some (encP a), some (encP b), some (.str w.s), some (encP (blendP w a b)), some (.hdl (M.length + 1)), some (.int t), some (encR (atP (blendP w a b) t)), some (encR (atP a t)), some (encR (atP b t)), j9]) ?_ ?_ _ _ _ ⟨rfl, _, rfl⟩
    · rintro _ _ ⟨rfl, j9, rfl⟩
      simp
      exact ⟨rfl, _, _, _, _, _, rfl⟩
    · rintro d l2 _ _ ⟨rfl, j9, rfl⟩
      simp [hin _ ha sa, hin _ hb sb, hin _ ok su, hwd, blendP_spot w ha hb]
      exact ⟨rfl, _, rfl⟩
theorem law_refused_k11_run [HasF T "edges_marked" F_edges_marked] [HasF T "truth_by" F_truth_by] [HasF T "blend" F_blend] [HasF T "reach_at" F_reach_at] [HasF T "plot_of" F_plot_of] [HasF T "turns_of" F_turns_of] [HasF T "blend_plots" F_blend_plots] [i : HasF T "_law_refused" F__law_refused_k11] (n : Nat) (s : Str) (hs : OddW s) {L : List Int} {a b : Plot} (ha : POk a) (hb : POk b) (sa : PSub L a) (sb : PSub L b)
    (hL : L.length ≤ 1900) (hl : a.2.length + b.2.length ≤ 3900) (M : Mem) : run T (n + 4) "_law_refused" [encP a, encP b, .str s] M = .ok (.d (.bl true)) M := by
  have hlim := lim_big
  rw [run_has i, ← Res.wp_eq]
  refine wp_run rfl ?_
  simp [F__law_refused_k11, b__law_refused_k11]
  rw [blend_plots_odd n s hs ha hb sa sb hL hl]
  have hin : ("NoWord" : Str) ∈ exsAll := by decide
  simp [hin, suSem_in hin, show (3 : Nat) ≤ lim by omega]
  rw [oEq_l (as := [D.bl true, D.bl true, D.bl false]) (bs := [D.bl true, D.bl true, D.bl false]) (by simp) rfl (by simp) (by simp)]
  simp
/-- with its days turned over -/
def overR (r : Reach) : Reach := (!r.1, r.2)
def overP (p : Plot) : Plot := (overR p.1, p.2.map fun s => (s.1, overR s.2))
theorem overR_inj {a b : Reach} (h : overR a = overR b) : a = b := by
  obtain ⟨f, A⟩ := a
  obtain ⟨g, B⟩ := b
  simp only [overR, Prod.mk.injEq] at h
  obtain ⟨h1, h2⟩ := h
  rw [h2, show f = g by revert h1; cases f <;> cases g <;> simp]
theorem over_alt : ∀ (g : Reach) (ss : List Step), Alt g ss → Alt (overR g) (ss.map fun s => (s.1, overR s.2))
  | _, [], _ => trivial
  | g, s :: r, h => ⟨fun e => h.1 (overR_inj e), over_alt s.2 r h.2⟩
theorem overP_ok {p : Plot} (h : POk p) : POk (overP p) := ⟨h.g, by have := h.ts; simpa [turnsOf, overP, Function.comp_def] using this, fun s hs => by
  obtain ⟨x, hx, rfl⟩ := List.mem_map.mp hs
  exact h.rs x hx, over_alt _ _ h.alt⟩
theorem overP_sub {L : List Int} {p : Plot} (h : PSub L p) : PSub L (overP p) := ⟨h.g, fun s hs => by
  obtain ⟨x, hx, rfl⟩ := List.mem_map.mp hs
  exact h.rs x hx⟩
theorem law_turned_over_run [i : HasF T "_law_turned_over" F__law_turned_over] (n : Nat) (p : Plot) (hl : p.2.length ≤ 1000) (M : Mem) : run T (n + 1) "_law_turned_over" [encP p] M = .ok (.d (encP (overP p))) M := by
  have hlim := lim_big
  rw [run_has i, ← Res.wp_eq]
  refine wp_run rfl ?_
  simp [F__law_turned_over, b__law_turned_over, show (2 : Nat) ≤ lim by omega]
  rw [compL_all encS rfl (fun s => encS (s.1, overR s.2)) (fun s => by simp [← Res.wp_eq, encS, overR, encR, show (2 : Nat) ≤ lim by omega]) p.2 (by omega)]
  have e : (p.2.map fun s => encS (s.1, overR s.2)) = (p.2.map fun s => (s.1, overR s.2)).map encS := by simp
  rw [e]
  simp [-List.map_map, encP, overP, show (2 : Nat) ≤ lim by omega]
  simp [encR, overR]
end
end HW
end
section
set_option linter.all false
set_option autoImplicit false
/-! MJ25: law k11 -/
namespace HW
open MI PySem
section
variable {T : Tab}
theorem law_k11_run [HasF T "edges_marked" F_edges_marked] [HasF T "truth_by" F_truth_by] [HasF T "blend" F_blend] [HasF T "reach_at" F_reach_at] [HasF T "plot_of" F_plot_of] [HasF T "turns_of" F_turns_of] [HasF T "blend_plots" F_blend_plots] [HasF T "_law_cell" F__law_cell] [HasF T "_law_whole" F__law_whole] [HasF T "_law_stir" F__law_stir] [HasF T "_law_reach" F__law_reach_k09] [HasF T "_law_plot" F__law_plot_k09] [HasF T "_law_scale" F__law_scale] [HasF T "_law_is_reach" F__law_is_reach_k09] [HasF T "_law_is_plot" F__law_is_plot_k09]
    [HasF T "_law_in" F__law_in_k09] [HasF T "_law_at" F__law_at_k09] [HasF T "_law_beside" F__law_beside] [HasF T "_law_days" F__law_days] [HasF T "_law_turns" F__law_turns] [HasF T "_law_word" F__law_word] [HasF T "_law_right" F__law_right] [HasF T "_law_refused" F__law_refused_k11] [HasF T "_law_turned_over" F__law_turned_over] [i : HasF T "law" F_law_k11] (ns : List Int) (hns : ns.length ≤ 63) (n : Nat) :
    ∃ M, run T (n + 5) "law" [scr ns] [] = .ok (.d (.bl true)) M := by
  have : (run T (n + 5) "law" [scr ns] []).wp fun x M' => Kp (x = .d (.bl true)) := by
    have hlim := lim_big
    rw [run_has i]
    refine wp_run rfl ?_
    simp [F_law_k11, b_law_k11]
    have c0 := law_cell_run (T := T) (n + 3) ns 0 []
    simp at c0
    rw [c0]
    generalize ns[0]?.getD 0 = first
    obtain ⟨spread, low, s1, s2, s3, s4, es⟩ := law_scale_ex (T := T) first
    simp
    rw [es (n + 3)]
    simp
    have hcl : (cut ns (some 1) (some 17)).length ≤ 16 := by unfold cut; simp [sIx]; omega
    generalize cut ns (some 1) (some 17) = cells at *
    have e0 : (cells.map D.int).take (sIx cells.length cells.length none) = cells.map D.int := by rw [sIx_none]; exact List.take_of_length_le (by simp)
    have e1 : sIx cells.length 0 none = 0 := rfl
    obtain ⟨c1, q1, q2⟩ := pickS_ints 0 2 (by decide) cells
    obtain ⟨c2, q3, q4⟩ := pickS_ints (sIx cells.length 0 (some 1)) 2 (by decide) cells
    rw [e0, e1, q1]
    obtain ⟨a, a1, a2, a3, ea⟩ := law_plot_ex (T := T) (n + 1) c1 1 48271 spread low s1 (by omega) [.lst (cells.map D.int), .lst (c1.map D.int)] rfl
    rw [ea]
    simp
    rw [e0, q3]
    obtain ⟨b, b1, b2, b3, eb⟩ := law_plot_ex (T := T) (n + 1) c2 2 69621 spread low s1 (by omega) [.lst (cells.map D.int), .lst (c1.map D.int), .lst (c2.map D.int)] rfl
    rw [eb]
    have hL := line_len spread low
    have key : ∀ b : Plot, POk b → PSub (line spread low) b → b.2.length ≤ 16 → (sSeq (sFor (.nm 7) (iSeq (eLst (dCons (eC (.str "both")) (dCons (eC (.str "either")) (dCons (eC (.str "less")) (dCons (eC (.str "just")) dNil)))))) (sIf (tNot (tTru (eCall "_law_right" (dCons (eVar 5) (dCons (eVar 6) (dCons (eVar 7) dNil)))))) (sRet (eC (.bl false))) sNil)) (sSeq (sSet 8 (eLst (dCons (eC (.str "")) (dCons (eC (.str "Both")) (dCons (eC (.str "and")) (dCons (eC (.str "eithe")) (dCons (eC (.str "just ")) (dCons (eC (.str "not")) (dCons (eC (.str "is")) (dCons (eC (.str "known")) (dCons (eC (.str "or")) (dCons (eC (.str "xor")) (dCons (eC (.str "any")) dNil))))))))))))) (sRet (eCall "_law_refused" (dCons (eVar 5) (dCons (eVar 6) (dCons (MI.e2 oIx (eVar 8) (MI.e2 oMod (MI.e2 oDiv (eVar 1) (eC (.int 96))) (eC (.int 11)))) dNil))))))
        (run T (n + 4)) [some (scr ns), some (.int first), some (.int spread), some (.int low), some (.hdl 0), some (encP a), some (encP b), none, none] [.lst (cells.map D.int), .lst (c1.map D.int), .lst (c2.map D.int)]).wp (fun x M' => (fin .pure [] (.d .non) M').wp fun x M' => Kp (x = .d (.bl true))) (fun x M' => (fin .pure [] x M').wp fun x M' => Kp (x = .d (.bl true))) := by
      intro b b1 b2 b3
      simp [show (4 : Nat) ≤ lim by omega]
      have rg : ∀ (w : W4) M, run T (n + 4) "_law_right" [encP a, encP b, .str w.s] M = .ok (.d (.bl true)) M := fun w M => law_right_run n w a1 b1 a2 b2 (by omega) (by omega) (by omega) M
      rw [show ([D.str "both", D.str "either", D.str "less", D.str "just"] : List D) = [W4.both, W4.either, W4.less, W4.just].map fun w => D.str w.s from rfl]
      refine forL_wp (fun w : W4 => D.str w.s) (fun l env M' => M' = [.lst (cells.map D.int), .lst (c1.map D.int), .lst (c2.map D.int)] ∧ ∃ (j7 : Option D), env = [some (scr ns), some (.int first), some (.int spread), some (.int low), some (.hdl 0), some (encP a), some (encP b), j7, none]) ?_ ?_ _ _ _ ⟨rfl, _, rfl⟩
      · rintro _ _ ⟨rfl, j7, rfl⟩
        simp [show (11 : Nat) ≤ lim by omega]
        obtain ⟨d, ⟨s, hs, rfl⟩, e⟩ := oIx_lit (M := [.lst (cells.map D.int), .lst (c1.map D.int), .lst (c2.map D.int), .lst [.str "", .str "Both", .str "and", .str "eithe", .str "just ", .str "not", .str "is", .str "known", .str "or", .str "xor", .str "any"]]) (x := .d (.hdl 3)) (ds := [.str "", .str "Both", .str "and", .str "eithe", .str "just ", .str "not", .str "is", .str "known", .str "or", .str "xor", .str "any"]) (i := first / 96 % 11) (P := fun d => ∃ s : Str, OddW s ∧ d = .str s) (by simp) (Int.emod_nonneg _ (by decide)) (Int.emod_lt_of_pos _ (by decide)) (by
          simp only [List.forall_mem_cons]
          refine ⟨⟨_, ?_, rfl⟩, ⟨_, ?_, rfl⟩, ⟨_, ?_, rfl⟩, ⟨_, ?_, rfl⟩, ⟨_, ?_, rfl⟩, ⟨_, ?_, rfl⟩, ⟨_, ?_, rfl⟩, ⟨_, ?_, rfl⟩, ⟨_, ?_, rfl⟩, ⟨_, ?_, rfl⟩, ⟨_, ?_, rfl⟩, fun _ h => nomatch h⟩
          all_goals (simp [OddW]))
        rw [e]
        simp
        rw [law_refused_k11_run n s hs a1 b1 a2 b2 (by omega) (by omega)]
        simp
        rfl
      · rintro w l _ _ ⟨rfl, j7, rfl⟩
        simp [rg]
        exact ⟨rfl, _, rfl⟩
    have k1 := key a a1 a2 (by omega)
    have k2 := key b b1 b2 (by omega)
    have k3 := key (overP a) (overP_ok a1) (overP_sub a2) (by simp [overP]; omega)
    have hto : ∀ M, run T (n + 4) "_law_turned_over" [encP a] M = .ok (.d (encP (overP a))) M := fun M => law_turned_over_run (n + 3) a (by omega) M
    by_cases f1 : first / 16 % 6 = 1
    · simp [f1]
      simpa using k1
    · by_cases f2 : first / 16 % 6 = 2
      · simp [f2, hto]
        simpa using k3
      · simp [f1, f2]
        simpa using k2
  obtain ⟨x, M', e, rfl⟩ := Res.wp_ex this
  exact ⟨M', e⟩
end
end HW
end
section
set_option linter.all false
set_option autoImplicit false
/-! MJ26: is_plot, of anything -/
namespace HW
open MI PySem
mutual
/-- every handle within is of a list or a dict -/
def kAll (M : Mem) : D → Prop
  | .hdl n => (∃ ds, M[n]? = some (.lst ds)) ∨ ∃ kvs, M[n]? = some (.dic kvs)
  | .tup ds => kAlls M ds
  | _ => True
def kAlls (M : Mem) : List D → Prop
  | [] => True
  | d :: ds => kAll M d ∧ kAlls M ds
end
theorem kAlls_mem {M : Mem} : ∀ {ds : List D}, kAlls M ds ↔ ∀ d ∈ ds, kAll M d
  | [] => by simp [kAlls]
  | d :: ds => by simp [kAlls, kAlls_mem]
theorem kAll_kOk {M : Mem} {d : D} (h : kAll M d) : kOk M d := by
  cases d with
  | hdl n => simp only [kAll] at h; exact h
  | _ => trivial
theorem kAll_tup {M : Mem} {ds : List D} : kAll M (.tup ds) ↔ ∀ d ∈ ds, kAll M d := by
  show kAlls M ds ↔ _
  exact kAlls_mem
theorem kAll_2 {M : Mem} {d : D} (h : kAll M d) : kOk2 M d := by
  refine ⟨kAll_kOk h, fun a b e => ?_, fun a es e x hx => ?_⟩
  · subst e
    have := kAll_tup.mp h
    exact ⟨kAll_kOk (this a (by simp)), kAll_kOk (this b (by simp))⟩
  · subst e
    exact kAll_kOk (kAll_tup.mp (kAll_tup.mp h (.tup es) (by simp)) x hx)
mutual
theorem kAll_mono {M : Mem} (l : Mem) : ∀ {d : D}, kAll M d → kAll (M ++ l) d
  | .non, _ => by simp [kAll]
  | .bl _, _ => by simp [kAll]
  | .int _, _ => by simp [kAll]
  | .str _, _ => by simp [kAll]
  | .ro _, _ => by simp [kAll]
  | .hdl n, h => by
    simp only [kAll] at h ⊢
    rcases h with ⟨ds, h⟩ | ⟨ds, h⟩
    · exact .inl ⟨ds, get_ahead h⟩
    · exact .inr ⟨ds, get_ahead h⟩
  | .tup ds, h => by
    simp only [kAll] at h ⊢
    exact kAlls_mono l h
theorem kAlls_mono {M : Mem} (l : Mem) : ∀ {ds : List D}, kAlls M ds → kAlls (M ++ l) ds
  | [], _ => by simp [kAlls]
  | d :: ds, h => by
    simp only [kAlls] at h ⊢
    exact ⟨kAll_mono l h.1, kAlls_mono l h.2⟩
end
theorem kAll_int (M : Mem) (i : Int) : kAll M (.int i) := by simp [kAll]
theorem kAll_R (M : Mem) (r : Reach) : kAll M (encR r) := by
  refine kAll_tup.mpr fun d hd => ?_
  simp only [List.mem_cons, List.not_mem_nil, or_false] at hd
  rcases hd with rfl | rfl
  · simp [kAll]
  · refine kAll_tup.mpr fun d hd => ?_
    obtain ⟨x, _, rfl⟩ := List.mem_map.mp hd
    exact kAll_int _ _
theorem kAll_S (M : Mem) (s : Step) : kAll M (encS s) := by
  refine kAll_tup.mpr fun d hd => ?_
  simp only [List.mem_cons, List.not_mem_nil, or_false] at hd
  rcases hd with rfl | rfl
  · exact kAll_int _ _
  · exact kAll_R _ _
theorem kAll_Ss (M : Mem) (l : List Step) : kAll M (.tup (l.map encS)) := by
  refine kAll_tup.mpr fun d hd => ?_
  obtain ⟨x, _, rfl⟩ := List.mem_map.mp hd
  exact kAll_S _ _
theorem kAll_P (M : Mem) (p : Plot) : kAll M (encP p) := by
  refine kAll_tup.mpr fun d hd => ?_
  simp only [List.mem_cons, List.not_mem_nil, or_false] at hd
  rcases hd with rfl | rfl
  · exact kAll_R _ _
  · exact kAll_Ss _ _
/-- what reads as a reach is one -/
theorem rdD_ints : ∀ {es : List D} {o : Option Int}, rdD o es = true → ∃ l : List Int, es = l.map D.int ∧ Rising l ∧ ∀ j, o = some j → ∀ x ∈ l, j < x
  | [], o, _ => ⟨[], rfl, .nil, by simp⟩
  | d :: es, o, h => by
    cases d with
    | int v =>
      have h2 : rdD (some v) es = true ∧ ∀ j, o = some j → j < v := by
        cases o with
        | none => exact ⟨h, by simp⟩
        | some j =>
          simp only [rdD, Bool.and_eq_true, Bool.not_eq_true', decide_eq_false_iff_not] at h
          exact ⟨h.2, fun k e => by cases e; omega⟩
      obtain ⟨l, e, hr, hx⟩ := rdD_ints h2.1
      refine ⟨v :: l, by rw [e]; rfl, Rising.cons.mpr ⟨hx v rfl, hr⟩, fun j e2 x hx' => ?_⟩
      have hj := h2.2 j e2
      rcases List.mem_cons.mp hx' with q | q
      · omega
      · have := hx v rfl x q; omega
    | _ => cases o <;> simp [rdD] at h
theorem isReachD_inv {d : D} (h : isReachD d = true) : ∃ r : Reach, d = encR r ∧ Rising r.2 := by
  unfold isReachD at h
  split at h
  · rename_i f es
    obtain ⟨l, e, hr, _⟩ := rdD_ints h
    exact ⟨(f, l), by rw [e]; rfl, hr⟩
  · cases h
def stepOk (d : D) : Option Step := match d with
  | .tup [.int t, .tup [.bl f, .tup es]] => if rdD none es = true then match asInts es with
      | some l => some (t, (f, l))
      | none => none
    else none
  | _ => none
theorem stepOk_some {d : D} {s : Step} (h : stepOk d = some s) : d = encS s ∧ Rising s.2.2 := by
  unfold stepOk at h
  split at h
  · split at h
    · rename_i t f es hr
      obtain ⟨l, e, hl, _⟩ := rdD_ints hr
      subst e
      rw [asInts_map] at h
      cases h
      exact ⟨rfl, hl⟩
    · cases h
  · cases h
theorem stepOk_S {s : Step} (h : Rising s.2.2) : stepOk (encS s) = some s := by
  have : rdD none (s.2.2.map D.int) = true := rdD_map (fun j e => by cases e) h
  simp [stepOk, encS, encR, this]
/-- the steps of a thing -/
def stD : Reach → Option Int → List D → Bool
  | _, _, [] => true
  | last, ahead, d :: r => match stepOk d with
    | some s => !decide (s.2 = last) && ((match ahead with | none => true | some a => decide (a < s.1)) && stD s.2 (some s.1) r)
    | none => false
def isPlotD : D → Bool
  | .tup [.tup [.bl f, .tup es], .tup ss] => rdD none es && (match asInts es with | some l => stD (f, l) none ss | none => false)
  | _ => false
theorem isPlotD_R {r : Reach} (h : Rising r.2) (ss : List D) : isPlotD (.tup [encR r, .tup ss]) = stD r none ss := by
  have : rdD none (r.2.map D.int) = true := rdD_map (fun j e => by cases e) h
  simp [isPlotD, encR, this]
theorem isPlotD_no {a b : D} (h : isReachD a = false) : isPlotD (.tup [a, b]) = false := by
  unfold isPlotD
  split
  · rename_i f es ss e
    simp only [D.tup.injEq, List.cons.injEq, and_true] at e
    obtain ⟨rfl, rfl⟩ := e
    have : rdD none es = false := h
    simp [this]
  · rfl
theorem isPlotD_no2 {a b : D} (h : ∀ ss, b ≠ .tup ss) : isPlotD (.tup [a, b]) = false := by
  unfold isPlotD
  split
  · rename_i f es ss e
    simp only [D.tup.injEq, List.cons.injEq, and_true] at e
    exact absurd e.2 (h _)
  · rfl
theorem stD_ok {ss : List Step} : ∀ {g : Reach} {o : Option Int}, Alt g ss → Rising (ss.map (·.1)) → (∀ s ∈ ss, Rising s.2.2) → (∀ a, o = some a → ∀ s ∈ ss, a < s.1) → stD g o (ss.map encS) = true := by
  induction ss with
  | nil => intro g o _ _ _ _; rfl
  | cons s ss ih =>
    intro g o ha ht hr ho
    have h1 := ih (g := s.2) (o := some s.1) ha.2 (Rising.cons.mp ht).2 (fun x hx => hr x (List.mem_cons_of_mem _ hx)) (fun a e x hx => by cases e; exact turns_gt ht x hx)
    have h2 : ¬ s.2 = g := ha.1
    rw [List.map_cons, stD, stepOk_S (hr s List.mem_cons_self)]
    cases o with
    | none => simp [h1, h2]
    | some a => have := ho a rfl s List.mem_cons_self; simp [h1, h2, this]
theorem isPlotD_P {p : Plot} (h : POk p) : isPlotD (encP p) = true := by
  unfold encP
  rw [isPlotD_R h.g]
  exact stD_ok h.alt h.ts h.rs (by simp)
section
variable {T : Tab}
theorem is_turn_run [i : HasF T "is_turn" F_is_turn] (n : Nat) (d : D) (M : Mem) (h : kOk M d) : run T (n + 1) "is_turn" [d] M = .ok (.d (.bl (wholeD d))) M := by
  rw [run_has i, ← Res.wp_eq]
  refine wp_run rfl ?_
  simp [F_is_turn, b_is_turn]
  rw [bIsi_k _ (.inr (.inr rfl)) h]
  cases d with
  | int v => simp [tyB, wholeD]
  | bl v => simp [tyB, wholeD]
  | _ => simp [tyB, wholeD]
theorem stepOk_two {a b : D} : (stepOk (.tup [a, b])).isSome = (wholeD a && isReachD b) := by
  cases a with
  | int t =>
    cases hb : isReachD b with
    | true =>
      obtain ⟨r, rfl, hr⟩ := isReachD_inv hb
      have := stepOk_S (s := (t, r)) hr
      simp only [encS] at this
      rw [this]; rfl
    | false =>
      have : stepOk (.tup [.int t, b]) = none := by
        unfold stepOk
        split
        · rename_i t' f es e
          simp only [D.tup.injEq, List.cons.injEq, and_true] at e
          obtain ⟨_, rfl⟩ := e
          have : rdD none es = false := hb
          rw [if_neg (by rw [this]; simp)]
        · rfl
      rw [this]; rfl
  | _ => simp [stepOk, wholeD]
theorem is_step_run [HasF T "is_turn" F_is_turn] [HasF T "is_reach" F_is_reach] [i : HasF T "is_step" F_is_step] (n : Nat) (d : D) (M : Mem) (h : kAll M d) : run T (n + 2) "is_step" [d] M = .ok (.d (.bl (stepOk d).isSome)) M := by
  rw [run_has i, ← Res.wp_eq]
  refine wp_run rfl ?_
  simp [F_is_step, b_is_step]
  rw [bIsi_k _ (.inl rfl) (kAll_kOk h)]
  cases d with
  | tup ds =>
    have hk := kAll_tup.mp h
    rcases ds with _ | ⟨a, _ | ⟨b, _ | ⟨c, r⟩⟩⟩
    · simp [tyB, stepOk]
    · simp [tyB, stepOk]
    · simp [tyB]
      rw [is_turn_run n a M (kAll_kOk (hk a (by simp))), stepOk_two]
      cases wholeD a with
      | false => simp
      | true =>
        simp
        rw [is_reach_run n b M (kAll_2 (hk b (by simp)))]
        simp
    · simp [tyB, stepOk]
      have : ¬ ((r.length : Int) + 1 + 1 + 1 = 2) := by omega
      simp [this]
  | _ => simp [tyB, stepOk]
theorem is_plot_run [HasF T "is_turn" F_is_turn] [HasF T "is_reach" F_is_reach] [HasF T "is_step" F_is_step] [i : HasF T "is_plot" F_is_plot] (n : Nat) (d : D) (M : Mem) (h : kAll M d) : run T (n + 3) "is_plot" [d] M = .ok (.d (.bl (isPlotD d))) M := by
  rw [run_has i, ← Res.wp_eq]
  refine wp_run rfl ?_
  simp [F_is_plot, b_is_plot]
  rw [bIsi_k _ (.inl rfl) (kAll_kOk h)]
  cases d with
  | tup ds =>
    have hk := kAll_tup.mp h
    rcases ds with _ | ⟨a, _ | ⟨b, _ | ⟨c, r⟩⟩⟩
    · simp [tyB, isPlotD]
    · simp [tyB, isPlotD]
    · simp [tyB]
      rw [is_reach_run (n + 1) a M (kAll_2 (hk a (by simp)))]
      cases hr : isReachD a with
      | false => simp [isPlotD_no hr]
      | true =>
        obtain ⟨g, rfl, hg⟩ := isReachD_inv hr
        simp
        rw [bIsi_k _ (.inl rfl) (kAll_kOk (hk b (by simp)))]
        cases b with
        | tup ss =>
          have hs := kAll_tup.mp (hk (.tup ss) (by simp))
          simp [tyB]
          rw [isPlotD_R hg]
          refine forL_wpD (fun l env M' => M' = M ∧ ∃ (last : Reach) (o : Option Int) (j : Option D), env = [some (.tup [encR g, .tup ss]), some (encR last), some (encO o), j] ∧ (∀ d ∈ l, kAll M d) ∧ stD last o l = stD g none ss) ?_ ?_ _ _ _ ⟨rfl, g, none, _, rfl, hs, rfl⟩
          · rintro _ M' ⟨hM', last, o, j, rfl, _, hst⟩
            simp [hM', ← hst, stD]
          · rintro d l _ M' ⟨hM', last, o, j, rfl, hd, hst⟩
            rw [hM']
            have hd' : ∀ x ∈ l, kAll M x := fun x hx => hd x (List.mem_cons_of_mem _ hx)
            simp
            rw [is_step_run n d M (hd d List.mem_cons_self)]
            rw [stD] at hst
            cases hs : stepOk d with
            | none =>
              rw [hs] at hst
              simp [← hst]
            | some s =>
              rw [hs] at hst
              obtain ⟨rfl, hsr⟩ := stepOk_some hs
              simp only at hst
              by_cases e : s.2 = last
              · simp [e] at hst ⊢
                simp [← hst]
              · simp [e] at hst ⊢
                cases o with
                | none =>
                  simp at hst
                  simp [encO]
                  exact ⟨rfl, s.2, some s.1, _, rfl, hd', hst⟩
                | some a =>
                  by_cases c : s.1 ≤ a
                  · have c' : ¬ a < s.1 := by omega
                    simp [c'] at hst
                    simp [encO, c, ← hst]
                  · have c' : a < s.1 := by omega
                    simp [c'] at hst
                    simp [encO, c]
                    exact ⟨rfl, s.2, some s.1, _, rfl, hd', hst⟩
        | _ => simp [tyB, isPlotD]
    · simp [tyB, isPlotD]
      have : ¬ ((r.length : Int) + 1 + 1 + 1 = 2) := by omega
      simp [this]
  | _ => simp [tyB, isPlotD]
end
end HW
end
section
set_option linter.all false
set_option autoImplicit false
/-! MJ27: the law's own is_plot, of anything -/
namespace HW
open MI PySem
mutual
/-- no tuple within is too long -/
def shortD : D → Prop
  | .tup ds => ds.length ≤ 1000000 ∧ shortDs ds
  | _ => True
def shortDs : List D → Prop
  | [] => True
  | d :: ds => shortD d ∧ shortDs ds
end
theorem shortDs_mem : ∀ {ds : List D}, shortDs ds ↔ ∀ d ∈ ds, shortD d
  | [] => by simp [shortDs]
  | d :: ds => by simp [shortDs, shortDs_mem]
theorem short_tup {ds : List D} : shortD (.tup ds) ↔ ds.length ≤ 1000000 ∧ ∀ d ∈ ds, shortD d := by
  show (ds.length ≤ 1000000 ∧ shortDs ds) ↔ _
  rw [shortDs_mem]
theorem short_R {r : Reach} (h : r.2.length ≤ 1000) : shortD (encR r) := by
  refine short_tup.mpr ⟨by simp, fun d hd => ?_⟩
  simp only [List.mem_cons, List.not_mem_nil, or_false] at hd
  rcases hd with rfl | rfl
  · simp [shortD]
  · refine short_tup.mpr ⟨by simp; omega, fun d hd => ?_⟩
    obtain ⟨x, _, rfl⟩ := List.mem_map.mp hd
    simp [shortD]
theorem short_S {s : Step} (h : s.2.2.length ≤ 1000) : shortD (encS s) := by
  refine short_tup.mpr ⟨by simp, fun d hd => ?_⟩
  simp only [List.mem_cons, List.not_mem_nil, or_false] at hd
  rcases hd with rfl | rfl
  · simp [shortD]
  · exact short_R h
theorem short_Ss {l : List Step} (hl : l.length ≤ 1000) (h : ∀ s ∈ l, s.2.2.length ≤ 1000) : shortD (.tup (l.map encS)) := by
  refine short_tup.mpr ⟨by simp; omega, fun d hd => ?_⟩
  obtain ⟨x, hx, rfl⟩ := List.mem_map.mp hd
  exact short_S (h x hx)
theorem short_is {d : D} (h : shortD d) : ∀ a es, d = .tup [a, .tup es] → es.length ≤ 1000000 := fun a es e => by
  subst e
  exact (short_tup.mp ((short_tup.mp h).2 (.tup es) (by simp))).1
section
variable {T : Tab}
theorem law_is_plot_run [HasF T "_law_whole" F__law_whole] [HasF T "_law_is_reach" F__law_is_reach_k09] [i : HasF T "_law_is_plot" F__law_is_plot_k09] (n : Nat) (d : D) (M : Mem) (h : kAll M d) (hs : shortD d) : run T (n + 3) "_law_is_plot" [d] M = .ok (.d (.bl (isPlotD d))) M := by
  rw [run_has i, ← Res.wp_eq]
  refine wp_run rfl ?_
  simp [F__law_is_plot_k09, b__law_is_plot_k09]
  rw [bIsi_k _ (.inl rfl) (kAll_kOk h)]
  cases d with
  | tup ds =>
    have hk := kAll_tup.mp h
    have hsh := (short_tup.mp hs).2
    rcases ds with _ | ⟨a, _ | ⟨b, _ | ⟨c, r⟩⟩⟩
    · simp [tyB, isPlotD]
    · simp [tyB, isPlotD]
    · simp [tyB]
      rw [law_is_reach_run n a M (kAll_2 (hk a (by simp))) (short_is (hsh a (by simp)))]
      cases hr : isReachD a with
      | false => simp [isPlotD_no hr]
      | true =>
        obtain ⟨g, rfl, hg⟩ := isReachD_inv hr
        simp
        rw [bIsi_k _ (.inl rfl) (kAll_kOk (hk b (by simp)))]
        cases b with
        | tup ss =>
          have hss := kAll_tup.mp (hk (.tup ss) (by simp))
          have hssh := short_tup.mp (hsh (.tup ss) (by simp))
          simp [tyB]
          refine ⟨by omega, ?_⟩
          rw [isPlotD_R hg]
          refine forL_range (fun j env M' => M' = M ∧ ∃ (last : Reach) (o : Option Int) (j2 j3 : Option D), env = [some (.tup [encR g, .tup ss]), some (encR last), j2, j3] ∧ (j = 0 → o = none) ∧ (0 < j → ∃ s : Step, ss[j - 1]? = some (encS s) ∧ o = some s.1) ∧ stD last o (ss.drop j) = stD g none ss) ?_ ?_ _ _ ⟨rfl, g, none, _, _, rfl, fun _ => rfl, fun h => absurd h (Nat.lt_irrefl 0), rfl⟩
          · rintro _ M' ⟨hM', last, o, j2, j3, rfl, _, _, hst⟩
            rw [List.drop_length] at hst
            simp [hM', ← hst, stD]
          · rintro j _ M' hj ⟨hM', last, o, j2, j3, rfl, h3, h4, hst⟩
            rw [hM']
            rw [List.drop_eq_getElem_cons hj, stD] at hst
            have hmem := List.getElem_mem hj
            have ex : oIx (.d (.tup ss)) (.d (.int (j : Int))) M = .ok (.d ss[j]) M := oIx_seq rfl (k := j) (by rw [ixN_pos (by omega) (by omega)]; simp) (List.getElem?_eq_getElem hj)
            have he1 := hss _ hmem
            have he2 := hssh.2 _ hmem
            have hgj : ss[j]? = some ss[j] := List.getElem?_eq_getElem hj
            simp [ex]
            generalize hes : ss[j] = e at *
            rw [bIsi_k _ (.inl rfl) (kAll_kOk he1)]
            have no : ∀ (P : Prop), stepOk e = none → (false = stD g none ss → P) → P := fun P hn hp => by
              rw [hn] at hst
              exact hp (by simpa using hst)
            cases e with
            | tup ds =>
              have hkd := kAll_tup.mp he1
              have hsd := (short_tup.mp he2).2
              rcases ds with _ | ⟨a, _ | ⟨b, _ | ⟨c, r⟩⟩⟩
              · exact no _ rfl fun q => by simp [tyB, ← q]
              · exact no _ (by simp [stepOk]) fun q => by simp [tyB, ← q]
              · simp [tyB]
                rw [law_whole_runD _ a M (kAll_kOk (hkd a (by simp)))]
                have two := stepOk_two (a := a) (b := b)
                cases hw : wholeD a with
                | false =>
                  rw [hw] at two
                  refine no _ (by simpa using two) fun q => by simp [← q]
                | true =>
                  simp
                  rw [law_is_reach_run n b M (kAll_2 (hkd b (by simp))) (short_is (hsd b (by simp)))]
                  cases hrb : isReachD b with
                  | false =>
                    rw [hw, hrb] at two
                    refine no _ (by simpa using two) fun q => by simp [← q]
                  | true =>
                    obtain ⟨rb, rfl, hrr⟩ := isReachD_inv hrb
                    cases a with
                    | int t =>
                      have hso := stepOk_S (s := (t, rb)) hrr
                      simp only [encS] at hso
                      rw [hso] at hst
                      simp only at hst
                      by_cases el : rb = last
                      · simp [el] at hst ⊢
                        simp [← hst]
                      · simp [el] at hst ⊢
                        rcases Nat.eq_zero_or_pos j with hj0 | hj0
                        · subst hj0
                          rw [h3 rfl] at hst
                          simp at hst
                          simp
                          exact ⟨rfl, rb, some t, _, _, rfl, by simp, fun _ => ⟨(t, rb), by simpa [encS] using hgj, rfl⟩, by simpa using hst⟩
                        · obtain ⟨s', hs1, hs2⟩ := h4 hj0
                          subst hs2
                          have hj1 : j - 1 < ss.length := by omega
                          have hj0' : ¬ j = 0 := by omega
                          have ex2 : oIx (.d (.tup ss)) (.d (.int ((j : Int) - 1))) M = .ok (.d (encS s')) M := oIx_seq rfl (k := j - 1) (by rw [ixN_pos (by omega) (by omega)]; congr 1; omega) hs1
                          by_cases c : t ≤ s'.1
                          · have c' : ¬ s'.1 < t := by omega
                            simp [c'] at hst
                            simp [hj0, ex2, c, ← hst]
                          · have c' : s'.1 < t := by omega
                            simp [c'] at hst
                            simp [hj0, ex2, c]
                            exact ⟨rfl, rb, some t, _, _, rfl, by simp, fun _ => ⟨(t, rb), by simpa [encS] using hgj, rfl⟩, hst⟩
                    | _ => simp [wholeD] at hw
              · refine no _ (by simp [stepOk]) fun q => ?_
                simp [tyB]
                have : ¬ ((r.length : Int) + 1 + 1 + 1 = 2) := by omega
                simp [this, ← q]
            | _ => exact no _ rfl fun q => by simp [tyB, ← q]
        | _ => simp [tyB, isPlotD]
    · simp [tyB, isPlotD]
      have : ¬ ((r.length : Int) + 1 + 1 + 1 = 2) := by omega
      simp [this]
  | _ => simp [tyB, isPlotD]
end
end HW
end
section
set_option linter.all false
set_option autoImplicit false
/-! MJ28: spoilt plots; law k12 -/
namespace MI
@[simp] theorem fin_keep (M0 M : Mem) (x : RV) : fin .keep M0 x M = .ok x M := nrfl rfl
section
variable {M : Mem} {b : Bool}
@[simp] theorem bInt_bl : bInt (.d (.bl b)) M = .ok (.d (.int (if b then 1 else 0))) M := nrfl rfl
@[simp] theorem bInt_int (i : Int) : bInt (.d (.int i)) M = .ok (.d (.int i)) M := nrfl rfl
@[simp] theorem bStr_int (i : Int) : bStr (.d (.int i)) M = if i.natAbs.log2 < 1920 then .ok (.d (.str (PySem.Str.ofString (toString i)))) M else .bad := nrfl rfl
end
end MI
namespace HW
open MI PySem
theorem kAll_non (M : Mem) : kAll M .non := by simp [kAll]
theorem kAll_bl (M : Mem) (b : Bool) : kAll M (.bl b) := by simp [kAll]
theorem kAll_str (M : Mem) (b : Str) : kAll M (.str b) := by simp [kAll]
theorem short_int (i : Int) : shortD (.int i) := by simp [shortD]
theorem short_non : shortD .non := by simp [shortD]
theorem short_bl (b : Bool) : shortD (.bl b) := by simp [shortD]
theorem short_str (b : Str) : shortD (.str b) := by simp [shortD]
theorem short_hdl (n : Nat) : shortD (.hdl n) := by simp [shortD]
def vldH (M : Mem) (n : Nat) : Prop := (∃ ds, M[n]? = some (.lst ds)) ∨ ∃ kvs, M[n]? = some (.dic kvs)
mutual
theorem kAll_to {M M' : Mem} (hv : ∀ n, vldH M n → vldH M' n) : ∀ {d : D}, kAll M d → kAll M' d
  | .non, _ => by simp [kAll]
  | .bl _, _ => by simp [kAll]
  | .int _, _ => by simp [kAll]
  | .str _, _ => by simp [kAll]
  | .ro _, _ => by simp [kAll]
  | .hdl n, h => by
    simp only [kAll] at h ⊢
    exact hv n h
  | .tup ds, h => by
    simp only [kAll] at h ⊢
    exact kAlls_to hv h
theorem kAlls_to {M M' : Mem} (hv : ∀ n, vldH M n → vldH M' n) : ∀ {ds : List D}, kAlls M ds → kAlls M' ds
  | [], _ => by simp [kAlls]
  | d :: ds, h => by
    simp only [kAlls] at h ⊢
    exact ⟨kAll_to hv h.1, kAlls_to hv h.2⟩
end
theorem vld_mid {M e : Mem} {a b : List D} (n : Nat) (h : vldH (M ++ O.lst a :: e) n) : vldH (M ++ O.lst b :: e) n := by
  unfold vldH at *
  by_cases c : n < M.length
  · rw [List.getElem?_append_left c] at h ⊢; exact h
  · have c' : M.length ≤ n := by omega
    rw [List.getElem?_append_right c'] at h ⊢
    cases hk : n - M.length with
    | zero => exact .inl ⟨b, rfl⟩
    | succ k => rw [hk] at h; exact h
/-- a datum that may be looked over -/
def oddD (M : Mem) (d : D) : Prop := kAll M d ∧ shortD d
theorem odd_tup {M : Mem} {ds : List D} (hl : ds.length ≤ 1000000) (h : ∀ d ∈ ds, oddD M d) : oddD M (.tup ds) := ⟨kAll_tup.mpr fun d hd => (h d hd).1, short_tup.mpr ⟨hl, fun d hd => (h d hd).2⟩⟩
theorem odd_mono {M : Mem} {d : D} (l : Mem) (h : oddD M d) : oddD (M ++ l) d := ⟨kAll_mono l h.1, h.2⟩
theorem odd_int (M : Mem) (i : Int) : oddD M (.int i) := ⟨kAll_int _ _, short_int _⟩
theorem odd_non (M : Mem) : oddD M .non := ⟨kAll_non _, short_non⟩
theorem odd_bl (M : Mem) (b : Bool) : oddD M (.bl b) := ⟨kAll_bl _ _, short_bl _⟩
theorem odd_str (M : Mem) (b : Str) : oddD M (.str b) := ⟨kAll_str _ _, short_str _⟩
theorem odd_lst {M : Mem} {n : Nat} {ds : List D} (h : M[n]? = some (.lst ds)) : oddD M (.hdl n) := ⟨by simp only [kAll]; exact .inl ⟨ds, h⟩, short_hdl _⟩
theorem odd_dic {M : Mem} {n : Nat} {ds : List (D × D)} (h : M[n]? = some (.dic ds)) : oddD M (.hdl n) := ⟨by simp only [kAll]; exact .inr ⟨ds, h⟩, short_hdl _⟩
theorem odd_R {M : Mem} {r : Reach} (h : r.2.length ≤ 1000) : oddD M (encR r) := ⟨kAll_R _ _, short_R h⟩
theorem odd_ints {M : Mem} {l : List Int} (h : l.length ≤ 1000) : oddD M (.tup (l.map D.int)) := odd_tup (by simp; omega) fun d hd => by obtain ⟨x, _, rfl⟩ := List.mem_map.mp hd; exact odd_int _ _
theorem odd_S {M : Mem} {s : Step} (h : s.2.2.length ≤ 1000) : oddD M (encS s) := ⟨kAll_S _ _, short_S h⟩
theorem odd_Ss {M : Mem} {l : List Step} (hl : l.length ≤ 1000) (h : ∀ s ∈ l, s.2.2.length ≤ 1000) : oddD M (.tup (l.map encS)) := ⟨kAll_Ss _ _, short_Ss hl h⟩
theorem odd_mid {M e : Mem} {a b : List D} {d : D} (h : oddD (M ++ O.lst a :: e) d) : oddD (M ++ O.lst b :: e) d := ⟨kAll_to vld_mid h.1, h.2⟩
def oddX (x : RV) (M : Mem) : Prop := oddD (box x M).2 (box x M).1
theorem oddX_d {M : Mem} {d : D} (h : oddD M d) : oddX (.d d) M := h
theorem oddX_lst {M : Mem} {ds : List D} : oddX (.o (.lst ds)) M := by
  unfold oddX
  simp only [box_o]
  exact odd_lst (ds := ds) (by simp)
theorem oddX_dic {M : Mem} {ds : List (D × D)} : oddX (.o (.dic ds)) M := by
  unfold oddX
  simp only [box_o]
  exact odd_dic (ds := ds) (by simp)
theorem two_mem {P : D → Prop} {a b : D} (ha : P a) (hb : P b) : ∀ d ∈ [a, b], P d := by
  simp only [List.forall_mem_cons]; exact ⟨ha, hb, fun _ h => nomatch h⟩
theorem three_mem {P : D → Prop} {a b c : D} (ha : P a) (hb : P b) (hc : P c) : ∀ d ∈ [a, b, c], P d := by
  simp only [List.forall_mem_cons]; exact ⟨ha, hb, hc, fun _ h => nomatch h⟩
theorem one_mem {P : D → Prop} {a : D} (ha : P a) : ∀ d ∈ [a], P d := by
  simp only [List.forall_mem_cons]; exact ⟨ha, fun _ h => nomatch h⟩
section
variable {T : Tab}
theorem law_bad_reach_ex [i : HasF T "_law_bad_reach" F__law_bad_reach] (n : Nat) (r : Reach) (way : Int) (hl : r.2.length ≤ 20) (M : Mem) :
    (run T (n + 1) "_law_bad_reach" [encR r, .int way] M).wp fun x M' => Kp (∃ l, M' = M ++ l ∧ oddX x M') := by
  have hlim := lim_big
  rw [run_has i]
  refine wp_run rfl ?_
  have l1 : (1 : Nat) ≤ lim := by omega
  have l2 : (2 : Nat) ≤ lim := by omega
  have l3 : (3 : Nat) ≤ lim := by omega
  have q1 : r.2.length + 1 ≤ lim := by omega
  have o2 : ∀ {M : Mem} {a b : D}, oddD M a → oddD M b → oddX (.d (.tup [a, b])) M := fun ha hb => oddX_d (odd_tup (by simp) (two_mem ha hb))
  simp [F__law_bad_reach, b__law_bad_reach, l1, l2, l3, q1]
  split
  · exact ⟨[], by simp, oddX_lst⟩
  split
  · exact ⟨[], by simp, o2 (odd_int _ _) (odd_ints (by omega))⟩
  split
  · exact ⟨[.lst (r.2.map D.int)], by simp, o2 (odd_bl _ _) (odd_lst (get_off0 _ _))⟩
  split
  · have e : r.2.map D.int ++ [D.int 0] = (r.2 ++ [0]).map D.int := by simp
    have hc : ∀ (lo hi : Option Int), (cut (r.2 ++ [0]) lo hi).length ≤ 21 := fun lo hi => by
      unfold cut
      rw [List.length_take, List.length_drop]
      simp only [List.length_append, List.length_cons, List.length_nil]
      omega
    have h1 := hc (some (-1)) none
    simp [e, -List.map_append]
    have l4 : r.2.length + (cut (r.2 ++ [0]) (some (-1)) none).length ≤ lim := by omega
    have l5 : r.2.length + (cut (r.2 ++ [0]) (some (-1)) none).length + (cut (r.2 ++ [0]) (some (-1)) none).length ≤ lim := by omega
    simp [l4, l5]
    refine ⟨[], by simp, ?_⟩
    have := o2 (M := M) (odd_bl M r.1) (odd_ints (M := M) (l := r.2 ++ (cut (r.2 ++ [0]) (some (-1)) none ++ cut (r.2 ++ [0]) (some (-1)) none)) (by simp; omega))
    simp only [List.map_append, List.append_assoc] at this ⊢
    rw [show cut (r.2.map D.int ++ [D.int 0]) (some (-1)) none = (cut (r.2 ++ [0]) (some (-1)) none).map D.int from by rw [e, pickSlice]]
    exact this
  split
  · exact ⟨[], by simp, o2 (odd_bl _ _) (odd_ints (l := [5, 3]) (by simp))⟩
  split
  · exact ⟨[], by simp, oddX_d (odd_tup (by simp) (three_mem (odd_bl _ _) (odd_ints (by omega)) (odd_ints (l := []) (by simp))))⟩
  split
  · exact ⟨[], by simp, o2 (odd_bl _ _) (odd_tup (by simp) (one_mem (odd_bl _ _)))⟩
  · exact ⟨[], by simp, oddX_d (odd_non _)⟩
theorem log2_small {v : Int} (h0 : -10 ^ 70 < v) (h1 : v < 10 ^ 70) : v.natAbs.log2 < 1920 := by
  have : v.natAbs < 2 ^ 256 := by omega
  rcases Nat.eq_zero_or_pos v.natAbs with h | h
  · rw [h]; decide
  · have := (Nat.log2_lt (by omega)).mpr this
    omega
theorem law_bad_step_ex [i : HasF T "_law_bad_step" F__law_bad_step] (n : Nat) (s : Step) (a : Reach) (way : Int) (h0 : 0 ≤ way) (h1 : way < 11) (hl : s.2.2.length ≤ 20) (ha : a.2.length ≤ 20) (M : Mem) :
    (run T (n + 1) "_law_bad_step" [encS s, encR a, .int way] M).wp fun x M' => Kp (M' = M ∧ oddX x M') := by
  have hlim := lim_big
  rw [run_has i]
  refine wp_run rfl ?_
  have l1 : (1 : Nat) ≤ lim := by omega
  have l2 : (2 : Nat) ≤ lim := by omega
  have l3 : (3 : Nat) ≤ lim := by omega
  have l4 : (4 : Nat) ≤ lim := by omega
  have o2 : ∀ {M : Mem} {a b : D}, oddD M a → oddD M b → oddX (.d (.tup [a, b])) M := fun ha hb => oddX_d (odd_tup (by simp) (two_mem ha hb))
  have m0 := Int.emod_nonneg s.1 (show (10 ^ 60 : Int) ≠ 0 by decide)
  have m1 := Int.emod_lt_of_pos s.1 (show (0 : Int) < 10 ^ 60 by decide)
  have lg := log2_small (v := s.1 % 10 ^ 60) (by omega) (by omega)
  simp at lg
  simp [F__law_bad_step, b__law_bad_step, l1, l2, l3, l4]
  split
  · exact ⟨rfl, oddX_lst⟩
  split
  · exact ⟨rfl, oddX_d (odd_tup (by simp) (one_mem (odd_int _ _)))⟩
  split
  · exact ⟨rfl, o2 (odd_bl _ _) (odd_R (by omega))⟩
  split
  · simp [lg]
    exact ⟨rfl, o2 (odd_str _ _) (odd_R (by omega))⟩
  split
  · exact ⟨rfl, o2 (odd_non _) (odd_R (by omega))⟩
  split
  · exact ⟨rfl, o2 (odd_int _ _) (odd_R (by omega))⟩
  split
  · rename_i h7
    have hk : way - 7 = 0 ∨ way - 7 = 1 ∨ way - 7 = 2 ∨ way - 7 = 3 := by omega
    have gx : ∀ (k : Nat) (d : D), ([D.non, .int s.1, .str "in", .hdl M.length] : List D)[k]? = some d → ∀ M', oIx (.o (.lst [D.non, .int s.1, .str "in", .hdl M.length])) (.d (.int (k : Int))) M' = .ok (.d d) M' := fun k d h M' => by
      have hk : k < 4 := by
        have := (List.getElem?_eq_some_iff.mp h).1
        simpa using this
      exact oIx_seq rfl (k := k) (by rw [ixN_pos (by omega) (by simp; omega)]; simp) h
    rcases hk with e | e | e | e <;> rw [e]
    · have := gx 0 _ rfl (M ++ [O.dic []])
      simp at this
      rw [this]
      simp
      exact ⟨rfl, oddX_d (odd_non _)⟩
    · have := gx 1 _ rfl (M ++ [O.dic []])
      simp at this
      rw [this]
      simp
      exact ⟨rfl, oddX_d (odd_int _ _)⟩
    · have := gx 2 _ rfl (M ++ [O.dic []])
      simp at this
      rw [this]
      simp [fin, D.bel]
      exact ⟨rfl, oddX_d (odd_str _ _)⟩
    · have := gx 3 _ rfl (M ++ [O.dic []])
      simp at this
      rw [this]
      simp
      exact ⟨rfl, oddX_dic⟩
  · exact ⟨rfl, oddX_d (odd_tup (by simp) (three_mem (odd_int _ _) (odd_R (by omega)) (odd_R (by omega))))⟩
theorem law_odd_ex [i : HasF T "_law_odd" F__law_odd] (n : Nat) (p : Plot) (c : Int) (h0 : p.2.length ≤ 100) (h1 : p.1.2.length ≤ 20) (h2 : ∀ s ∈ p.2, s.2.2.length ≤ 20) (M : Mem) :
    (run T (n + 1) "_law_odd" [encP p, .int c] M).wp fun x M' => Kp (∃ l, M' = M ++ l ∧ oddX x M') := by
  have hlim := lim_big
  rw [run_has i]
  refine wp_run rfl ?_
  have l : ∀ k : Nat, k ≤ 14 → k ≤ lim := fun k h => by omega
  have lN := fun k (h : decide (k ≤ 14) = true) => l k (of_decide_eq_true h)
  have q : ∀ (M : Mem), bList (.d (encP p)) M = .ok (.o (.lst [encR p.1, .tup (p.2.map encS)])) M := fun M => bList_tup _
  have q2 : ∀ (M : Mem), oAdd (.d (encP p)) (.d (.tup [.tup []])) M = .ok (.d (.tup [encR p.1, .tup (p.2.map encS), .tup []])) M := fun M => by
    unfold encP; rw [oAdd_tup]; simp; try omega
  simp [F__law_odd, b__law_odd, q, q2, lN 0 rfl, lN 1 rfl, lN 2 rfl, lN 9 rfl, lN 5 rfl, lN 14 rfl]
  have oP : ∀ {M : Mem}, oddD M (encR p.1) := odd_R (by omega)
  have oS : ∀ {M : Mem}, oddD M (.tup (p.2.map encS)) := odd_Ss (by omega) fun s hs => by have := h2 s hs; omega
  generalize hex : ([O.lst [], O.lst [encR p.1, .tup (p.2.map encS)], O.lst (p.2.map encS), O.lst [.non, .int 3, .str "plot", .hdl M.length, .tup [], .tup [encR p.1], .hdl (M.length + 1), .tup [encR p.1, .tup (p.2.map encS), .tup []], .tup [encR p.1, .hdl (M.length + 2)]], O.dic [],
    O.lst [.non, .int 3, .str "plot", .hdl M.length, .tup [], .tup [encR p.1], .hdl (M.length + 1), .tup [encR p.1, .tup (p.2.map encS), .tup []], .tup [encR p.1, .hdl (M.length + 2)], .tup [.tup (p.2.map encS), encR p.1], .tup [.non, .tup (p.2.map encS)], .hdl (M.length + 4), .tup [.tup [.bl false, .tup []], .int 0], .bl true]] : Mem) = ex
  have e0 : ∀ {M : Mem}, oddD M (.tup []) := odd_tup (by simp) nofun
  have g0 : oddD (M ++ ex) (.hdl M.length) := odd_lst (ds := []) (by rw [← hex, get_off0]; rfl)
  have g1 : oddD (M ++ ex) (.hdl (M.length + 1)) := odd_lst (by rw [← hex, get_off]; rfl)
  have g2 : oddD (M ++ ex) (.hdl (M.length + 2)) := odd_lst (by rw [← hex, get_off]; rfl)
  have g4 : oddD (M ++ ex) (.hdl (M.length + 4)) := odd_dic (ds := []) (by rw [← hex, get_off]; rfl)
  obtain ⟨d, hd, e⟩ := oIx_lit (M := M ++ ex) (x := .d (.hdl (M.length + 5))) (i := c % 14) (P := fun d => oddD (M ++ ex) d) (ds := [.non, .int 3, .str "plot", .hdl M.length, .tup [], .tup [encR p.1], .hdl (M.length + 1), .tup [encR p.1, .tup (p.2.map encS), .tup []], .tup [encR p.1, .hdl (M.length + 2)], .tup [.tup (p.2.map encS), encR p.1], .tup [.non, .tup (p.2.map encS)], .hdl (M.length + 4), .tup [.tup [.bl false, .tup []], .int 0], .bl true])
    (by rw [seqOf_hdl, get_off, ← hex]; rfl) (Int.emod_nonneg _ (by decide)) (Int.emod_lt_of_pos _ (by decide)) (by
      simp only [List.forall_mem_cons]
      exact ⟨odd_non _, odd_int _ _, odd_str _ _, g0, e0, odd_tup (by simp) (one_mem oP), g1, odd_tup (by simp) (three_mem oP oS e0), odd_tup (by simp) (two_mem oP g2), odd_tup (by simp) (two_mem oS oP), odd_tup (by simp) (two_mem (odd_non _) oS), g4, odd_tup (by simp) (two_mem (odd_tup (by simp) (two_mem (odd_bl _ _) e0)) (odd_int _ _)), odd_bl _ _, fun _ h => nomatch h⟩)
  rw [e]
  exact ⟨ex, rfl, hd⟩
theorem set_mid {A B : Type} (f : A → B) (l : List A) (k : Nat) (x : B) : ∀ d ∈ (l.map f).set k x, d = x ∨ ∃ a ∈ l, d = f a := fun d hd => by
  rcases List.mem_or_eq_of_mem_set hd with q | q
  · obtain ⟨a, ha, rfl⟩ := List.mem_map.mp q
    exact .inr ⟨a, ha, rfl⟩
  · exact .inl q
theorem law_spoilt_ex [HasF T "_law_bad_reach" F__law_bad_reach] [HasF T "_law_bad_step" F__law_bad_step] [HasF T "_law_odd" F__law_odd] [i : HasF T "_law_spoilt" F__law_spoilt] (n : Nat) (p : Plot) (c : Int) (h0 : p.2.length ≤ 100) (h1 : p.1.2.length ≤ 20) (h2 : ∀ s ∈ p.2, s.2.2.length ≤ 20) (M : Mem) :
    (run T (n + 2) "_law_spoilt" [encP p, .int c] M).wp fun x M' => Kp (oddX x M') := by
  have hlim := lim_big
  rw [run_has i]
  refine wp_run rfl ?_
  have l2 : (2 : Nat) ≤ lim := by omega
  have oP : ∀ {M : Mem}, oddD M (encR p.1) := odd_R (by omega)
  have oS : ∀ {M : Mem}, oddD M (.tup (p.2.map encS)) := odd_Ss (by omega) fun s hs => by have := h2 s hs; omega
  simp [F__law_spoilt, b__law_spoilt]
  have odd : ∀ (M : Mem), (run T (n + 1) "_law_odd" [encP p, .int (c / 4)] M).wp fun x M' => (fin .keep M x M').wp fun x M' => Kp (oddX x M') := fun M => by
    refine Res.wp_mono (law_odd_ex n p (c / 4) h0 h1 h2 M) ?_
    rintro x M' ⟨l, rfl, h⟩
    rw [fin_keep]
    exact h
  by_cases c0 : c % 4 = 0
  · simp [c0]
    exact odd M
  · by_cases z : p.2 = []
    · simp [c0, z]
      exact odd M
    · have zl : 0 < p.2.length := List.length_pos_iff.mpr z
      have a0 := Int.emod_nonneg (c / 4) (show (p.2.length : Int) ≠ 0 by omega)
      have a1 := Int.emod_lt_of_pos (c / 4) (show (0 : Int) < p.2.length by omega)
      simp [c0, z, zl]
      generalize c / 4 % (p.2.length : Int) = at_ at *
      have hk : at_.toNat < p.2.length := by omega
      have gx : ∀ (M' : Mem) (h : Nat), M'[h]? = some (O.lst (p.2.map encS)) → ∀ (j : Int), 0 ≤ j → ∀ (hj : j.toNat < p.2.length), oIx (.d (.hdl h)) (.d (.int j)) M' = .ok (.d (encS p.2[j.toNat])) M' := fun M' h hM j hj0 hj => oIx_seq (ds := p.2.map encS) (k := j.toNat) (by simp [hM]) (ixN_pos hj0 (by rw [List.length_map]; omega)) (by rw [List.getElem?_map, List.getElem?_eq_getElem hj]; rfl)
      have hM1 : (M ++ [O.lst (p.2.map encS)])[M.length]? = some (O.lst (p.2.map encS)) := by simp
      have w0 := Int.emod_nonneg (c / 80) (show (8 : Int) ≠ 0 by decide)
      have v0 := Int.emod_nonneg (c / 80) (show (11 : Int) ≠ 0 by decide)
      have v1 := Int.emod_lt_of_pos (c / 80) (show (0 : Int) < 11 by decide)
      have last : ∀ (d : D) (l : Mem), oddD (M ++ l) d → oddX (.d (.tup [encR p.1, .tup ((p.2.map encS).set at_.toNat d)])) (M ++ l) := fun d l hd => oddX_d (odd_tup (by simp) (two_mem oP (odd_tup (by simp; omega) fun e he => by
        rcases set_mid encS p.2 at_.toNat d e he with rfl | ⟨s, hs, rfl⟩
        · exact hd
        · exact odd_S (by have := h2 s hs; omega))))
      have ixs : ixN (p.2.map encS).length at_ = some at_.toNat := ixN_pos a0 (by rw [List.length_map]; omega)
      have key : ∀ a : Reach, a.2.length ≤ 20 → (sSeq (sIf (tB (MI.e2 oEq (MI.e2 oMod (eVar 1) (eC (.int 4))) (eC (.int 1)))) (sSetIx (eVar 4) (eVar 3) (eTup (dCons (MI.e2 oIx (MI.e2 oIx (eVar 4) (eVar 3)) (eC (.int 0))) (dCons (eCall "_law_bad_reach" (dCons (MI.e2 oIx (MI.e2 oIx (eVar 4) (eVar 3)) (eC (.int 1))) (dCons (MI.e2 oMod (MI.e2 oDiv (eVar 1) (eC (.int 80))) (eC (.int 8))) dNil))) dNil)))) (sIf (tB (MI.e2 oEq (MI.e2 oMod (eVar 1) (eC (.int 4))) (eC (.int 2)))) (sSetIx (eVar 4) (eVar 3) (eCall "_law_bad_step" (dCons (MI.e2 oIx (eVar 4) (eVar 3)) (dCons (eVar 5) (dCons (MI.e2 oMod (MI.e2 oDiv (eVar 1) (eC (.int 80))) (eC (.int 11))) dNil))))) (sIf (tB (MI.e2 oGt (eVar 3) (eC (.int 0)))) (sSetIx (eVar 4) (eVar 3) (eTup (dCons (MI.e2 oSub (MI.e2 oIx (MI.e2 oIx (eVar 4) (MI.e2 oSub (eVar 3) (eC (.int 1)))) (eC (.int 0))) (MI.e2 oMod (MI.e2 oDiv (eVar 1) (eC (.int 80))) (eC (.int 2)))) (dCons (MI.e2 oIx (MI.e2 oIx (eVar 4) (eVar 3)) (eC (.int 1))) dNil)))) (sRet (eTup (dCons (eCall "_law_bad_reach" (dCons (MI.e2 oIx (eVar 0) (eC (.int 0))) (dCons (MI.e2 oMod (MI.e2 oDiv (eVar 1) (eC (.int 80))) (eC (.int 8))) dNil))) (dCons (MI.e2 oIx (eVar 0) (eC (.int 1))) dNil))))))) (sRet (eTup (dCons (MI.e2 oIx (eVar 0) (eC (.int 0))) (dCons (e1 bTuple (eVar 4)) dNil)))) (run T (n + 1))
          [some (encP p), some (.int c), some (.int p.2.length), some (.int at_), some (.hdl M.length), some (encR a)] (M ++ [O.lst (p.2.map encS)])).wp (fun _ M' => (fin .keep M (.d .non) M').wp fun x M' => Kp (oddX x M')) (fun x M' => (fin .keep M x M').wp fun x M' => Kp (oddX x M')) := by
        intro a ha
        by_cases k1 : c % 4 = 1
        · simp [k1, l2, gx _ _ hM1 at_ a0 hk]
          have hs := h2 _ (List.getElem_mem hk)
          refine Res.wp_mono (law_bad_reach_ex n p.2[at_.toNat].2 (c / 80 % 8) hs (M ++ [O.lst (p.2.map encS)])) ?_
          rintro x M' ⟨l, rfl, hx⟩
          obtain ⟨e1, e2⟩ : ∃ l', (box x (M ++ [O.lst (p.2.map encS)] ++ l)).2 = M ++ (O.lst (p.2.map encS) :: l') ∧ True := by
            cases x with
            | d d => exact ⟨l, by simp, trivial⟩
            | o o => exact ⟨l ++ [o], by simp, trivial⟩
          have hx' : oddD (M ++ (O.lst (p.2.map encS) :: e1)) (box x (M ++ [O.lst (p.2.map encS)] ++ l)).1 := by rw [← e2.1]; exact hx
          rw [e2.1]
          generalize (box x (M ++ [O.lst (p.2.map encS)] ++ l)).1 = d at *
          rw [List.length_map] at ixs
          simp [l2, ixs]
          exact last _ (O.lst ((p.2.map encS).set at_.toNat (.tup [.int p.2[at_.toNat].1, d])) :: e1) (odd_tup (by simp) (two_mem (odd_int _ _) (odd_mid hx')))
        · by_cases k2 : c % 4 = 2
          · simp [k2, l2, gx _ _ hM1 at_ a0 hk]
            have hs := h2 _ (List.getElem_mem hk)
            refine Res.wp_mono (law_bad_step_ex n p.2[at_.toNat] a (c / 80 % 11) v0 v1 hs ha (M ++ [O.lst (p.2.map encS)])) ?_
            rintro x M' ⟨rfl, hx⟩
            obtain ⟨e1, e2⟩ : ∃ l', (box x (M ++ [O.lst (p.2.map encS)])).2 = M ++ (O.lst (p.2.map encS) :: l') ∧ True := by
              cases x with
              | d d => exact ⟨[], by simp, trivial⟩
              | o o => exact ⟨[o], by simp, trivial⟩
            have hx' : oddD (M ++ (O.lst (p.2.map encS) :: e1)) (box x (M ++ [O.lst (p.2.map encS)])).1 := by rw [← e2.1]; exact hx
            rw [e2.1]
            generalize (box x (M ++ [O.lst (p.2.map encS)])).1 = d at *
            rw [List.length_map] at ixs
            simp [l2, ixs]
            exact last _ (O.lst ((p.2.map encS).set at_.toNat d) :: e1) (odd_mid hx')
          · by_cases hp : 0 < at_
            · have hk1 : (at_ - 1).toNat < p.2.length := by omega
              have g1 := gx _ _ hM1 (at_ - 1) (by omega) hk1
              have hs := h2 _ (List.getElem_mem hk)
              rw [List.length_map] at ixs
              simp [k1, k2, hp, l2, gx _ _ hM1 at_ a0 hk, g1, ixs]
              exact last _ [O.lst ((p.2.map encS).set at_.toNat (.tup [.int (p.2[at_.toNat - 1].1 - c / 80 % 2), encR p.2[at_.toNat].2]))] (odd_tup (by simp) (two_mem (odd_int _ _) (odd_R (r := p.2[at_.toNat].2) (by omega))))
            · simp [k1, k2, hp, l2]
              refine Res.wp_mono (law_bad_reach_ex n p.1 (c / 80 % 8) h1 (M ++ [O.lst (p.2.map encS)])) ?_
              rintro x M' ⟨l, rfl, hx⟩
              have hx2 : oddX x (M ++ O.lst (p.2.map encS) :: l) := by simpa using hx
              simp [l2]
              refine oddX_d (odd_tup (by simp) (two_mem hx2 oS))
      by_cases hp : 0 < at_
      · have hk1 : (at_ - 1).toNat < p.2.length := by omega
        have g1 := gx _ _ hM1 (at_ - 1) (by omega) hk1
        have hs := h2 _ (List.getElem_mem hk1)
        have := key _ hs
        simp [hp, g1]
        simpa [hp, g1] using this
      · have := key _ h1
        simp [hp]
        simpa [hp] using this
end
end HW
end
section
set_option linter.all false
set_option autoImplicit false
/-! MJ29: law k12 -/
namespace HW
open MI PySem
section
variable {T : Tab}
theorem law_told_k12_run [HasF T "is_turn" F_is_turn] [HasF T "is_reach" F_is_reach] [HasF T "is_step" F_is_step] [HasF T "is_plot" F_is_plot] [HasF T "_law_whole" F__law_whole] [HasF T "_law_is_reach" F__law_is_reach_k09] [HasF T "_law_is_plot" F__law_is_plot_k09] [i : HasF T "_law_told" F__law_told_k12] (n : Nat) (d : D) (M : Mem) (h : oddD M d) : run T (n + 4) "_law_told" [d] M = .ok (.d (.bl true)) M := by
  rw [run_has i, ← Res.wp_eq]
  refine wp_run rfl ?_
  simp [F__law_told_k12, b__law_told_k12]
  rw [is_plot_run n d M h.1]
  simp
  rw [law_is_plot_run n d M h.1 h.2]
  simp
theorem law_k12_run [HasF T "is_turn" F_is_turn] [HasF T "is_reach" F_is_reach] [HasF T "is_step" F_is_step] [HasF T "is_plot" F_is_plot] [HasF T "_law_cell" F__law_cell] [HasF T "_law_whole" F__law_whole] [HasF T "_law_stir" F__law_stir] [HasF T "_law_reach" F__law_reach_k09] [HasF T "_law_plot" F__law_plot_k09] [HasF T "_law_scale" F__law_scale] [HasF T "_law_is_reach" F__law_is_reach_k09] [HasF T "_law_is_plot" F__law_is_plot_k09]
    [HasF T "_law_bad_reach" F__law_bad_reach] [HasF T "_law_bad_step" F__law_bad_step] [HasF T "_law_odd" F__law_odd] [HasF T "_law_spoilt" F__law_spoilt] [HasF T "_law_told" F__law_told_k12] [i : HasF T "law" F_law_k12] (ns : List Int) (hns : ns.length ≤ 63) (n : Nat) :
    ∃ M, run T (n + 6) "law" [scr ns] [] = .ok (.d (.bl true)) M := by
  have : (run T (n + 6) "law" [scr ns] []).wp fun x M' => Kp (x = .d (.bl true)) := by
    have hlim := lim_big
    rw [run_has i]
    refine wp_run rfl ?_
    simp [F_law_k12, b_law_k12]
    have c0 := fun M => law_cell_run (T := T) (n + 4) ns 0 M
    have c1 := fun M => law_cell_run (T := T) (n + 4) ns 1 M
    simp at c0 c1
    rw [c0]
    generalize ns[0]?.getD 0 = first
    obtain ⟨spread, low, s1, s2, s3, s4, es⟩ := law_scale_ex (T := T) first
    simp
    rw [es (n + 4)]
    simp
    obtain ⟨p, p1, p2, p3, ep⟩ := law_plot_ex (T := T) (n + 2) (cut ns (some 2) (some 22)) 0 48271 spread low s1 (by unfold cut; simp; omega) [.lst ((cut ns (some 2) (some 22)).map D.int)] rfl
    have hp : p.2.length ≤ 63 := by
      have : (cut ns (some 2) (some 22)).length ≤ 63 := by unfold cut; simp; omega
      omega
    rw [ep]
    simp
    have ipl : ∀ M, run T (n + 5) "is_plot" [encP p] M = .ok (.d (.bl true)) M := fun M => by rw [is_plot_run (n + 2) _ M (kAll_P M p), isPlotD_P p1]
    have hg := sub_len p1.g p2.g
    rw [line_len] at hg
    have hr : ∀ s ∈ p.2, s.2.2.length ≤ 6 := fun s hs => by have := sub_len (p1.rs s hs) (p2.rs s hs); rwa [line_len] at this
    simp [ipl, c1]
    generalize ns[1]?.getD 0 = second
    refine Res.wp_mono (law_spoilt_ex (n + 3) p second (by omega) (by omega) (fun s hs => by have := hr s hs; omega) [.lst ((cut ns (some 2) (some 22)).map D.int)]) fun x M' hx => ?_
    simp
    rw [law_told_k12_run (n + 1) _ _ hx]
    simp
    refine forL_wp encS (fun l env M' => (∀ s ∈ l, s ∈ p.2) ∧ ∃ (j4 j5 : Option D), env = [some (scr ns), some (.int spread), some (.int low), some (encP p), j4, j5]) ?_ ?_ _ _ _ ⟨fun _ h => h, _, _, rfl⟩
    · rintro _ M' ⟨_, j4, j5, rfl⟩
      simp [ipl]
      rfl
    · rintro s l _ M' ⟨hs, j4, j5, rfl⟩
      simp
      rw [is_plot_run (n + 2) _ _ (kAll_R _ _)]
      have : isPlotD (encR s.2) = false := by
        unfold encR
        exact isPlotD_no rfl
      simp [this]
      exact ⟨fun x hx => hs x (List.mem_cons_of_mem _ hx), _, _, rfl⟩
  obtain ⟨x, M', e, rfl⟩ := Res.wp_ex this
  exact ⟨M', e⟩
end
end HW
end
section
set_option linter.all false
set_option autoImplicit false
/-! MK5: plots flipped -/
namespace HW
def edgesGo (d : Int) : Bool → List Step → List Int
  | _, [] => []
  | last, s :: r => if liesIn s.2 d != last then s.1 :: edgesGo d (!last) r else edgesGo d last r
def turnsWith (p : Plot) (d : Int) : Reach := (liesIn p.1 d, edgesGo d (liesIn p.1 d) p.2)
theorem edgesGo_sub (d : Int) : ∀ (b : Bool) (ss : List Step), (edgesGo d b ss).Sublist (ss.map (·.1))
  | _, [] => .slnil
  | b, s :: r => by
    unfold edgesGo
    split
    · exact (edgesGo_sub d _ r).cons_cons _
    · exact (edgesGo_sub d _ r).cons _
theorem turnsWith_rising {p : Plot} (h : POk p) (d : Int) : Rising (turnsWith p d).2 := List.Pairwise.sublist (edgesGo_sub d _ p.2) h.ts
theorem edgesGo_lies (d t : Int) : ∀ (ss : List Step) (g : Reach), Rising (ss.map (·.1)) → liesIn (liesIn g d, edgesGo d (liesIn g d) ss) t = liesIn (atL g ss t) d
  | [], g, _ => by rw [atL_nil]; rfl
  | s :: r, g, h => by
    have h2 := (Rising.cons.mp h).2
    have gt := turns_gt h
    rw [atL_cons]
    unfold edgesGo
    by_cases e : liesIn s.2 d = liesIn g d
    · have e' : (liesIn s.2 d != liesIn g d) = false := by rw [e]; simp
      rw [e']
      simp only [Bool.false_eq_true, if_false]
      by_cases c : s.1 ≤ t
      · rw [if_pos c, ← e]
        exact edgesGo_lies d t r s.2 h2
      · rw [if_neg c, liesIn_gt fun x hx => ?_, atL_gt fun x hx => by have := gt x hx; omega]
        have := (edgesGo_sub d _ r).subset hx
        obtain ⟨y, hy, rfl⟩ := List.mem_map.mp this
        have := gt y hy
        omega
    · have e' : (liesIn s.2 d != liesIn g d) = true := by simpa using e
      have e2 : (!liesIn g d) = liesIn s.2 d := by revert e; cases liesIn s.2 d <;> cases liesIn g d <;> simp
      rw [e', if_pos rfl, liesIn_cons, e2]
      by_cases c : s.1 ≤ t
      · rw [if_pos c, if_pos c]
        exact edgesGo_lies d t r s.2 h2
      · rw [if_neg c, if_neg c, atL_gt fun x hx => by have := gt x hx; omega]
        exact liesIn_gt fun x hx => by
          have := (edgesGo_sub d _ r).subset hx
          obtain ⟨y, hy, rfl⟩ := List.mem_map.mp this
          have := gt y hy
          omega
theorem turnsWith_lies {p : Plot} (h : POk p) (d t : Int) : liesIn (turnsWith p d) t = spot p d t := edgesGo_lies d t p.2 p.1 h.ts
def flipP (p : Plot) : Plot := match daysOf p with
  | [] => (turnsWith p 0, [])
  | d :: r => plotOf (turnsWith p (d - 1)) ((d :: r).map fun x => (x, turnsWith p x))
theorem lies_const {r : Reach} {x d : Int} (hx : x ≤ d) (h : ∀ e ∈ r.2, ¬ (x < e ∧ e ≤ d)) : liesIn r d = liesIn r x := by
  obtain ⟨f, l⟩ := r
  induction l generalizing f with
  | nil => rfl
  | cons e l ih =>
    have h1 := h e List.mem_cons_self
    have h2 : ∀ y ∈ l, ¬ (x < y ∧ y ≤ d) := fun y hy => h y (List.mem_cons_of_mem _ hy)
    rw [liesIn_cons, liesIn_cons]
    by_cases c : e ≤ x
    · rw [if_pos c, if_pos (by omega)]; exact ih (!f) h2
    · rw [if_neg c, if_neg (by omega)]; exact ih f h2
theorem edgesGo_eq {d d' : Int} : ∀ (ss : List Step) (b : Bool), (∀ s ∈ ss, liesIn s.2 d = liesIn s.2 d') → edgesGo d b ss = edgesGo d' b ss
  | [], _, _ => rfl
  | s :: r, b, h => by
    have h1 := h s List.mem_cons_self
    have h2 := fun x hx => h x (List.mem_cons_of_mem _ hx)
    unfold edgesGo
    rw [h1, edgesGo_eq r _ h2, edgesGo_eq r _ h2]
theorem turnsWith_eq {p : Plot} {d d' : Int} (hg : liesIn p.1 d = liesIn p.1 d') (h : ∀ s ∈ p.2, liesIn s.2 d = liesIn s.2 d') : turnsWith p d = turnsWith p d' := by
  unfold turnsWith; rw [hg, edgesGo_eq p.2 _ h]
theorem days_g {p : Plot} {e : Int} (h : e ∈ p.1.2) : e ∈ daysOf p := (ss_mem _ _).mpr (List.mem_append_left _ h)
theorem days_s {p : Plot} {e : Int} {s : Step} (hs : s ∈ p.2) (h : e ∈ s.2.2) : e ∈ daysOf p := (ss_mem _ _).mpr (List.mem_append_right _ (List.mem_flatMap.mpr ⟨s, hs, h⟩))
theorem tw_const {p : Plot} {x d : Int} (hx : x ≤ d) (h : ∀ e ∈ daysOf p, ¬ (x < e ∧ e ≤ d)) : turnsWith p d = turnsWith p x :=
  turnsWith_eq (lies_const hx fun e he => h e (days_g he)) fun s hs => lies_const hx fun e he => h e (days_s hs he)
theorem flipP_at {p : Plot} (d : Int) : atP (flipP p) d = turnsWith p d := by
  unfold flipP
  have hr := ss_rising (p.1.2 ++ edgesL p.2)
  cases e : daysOf p with
  | nil =>
    show turnsWith p 0 = _
    refine turnsWith_eq ?_ ?_
    · have : p.1.2 = [] := List.eq_nil_iff_forall_not_mem.mpr fun x hx => by have := days_g hx; rw [e] at this; cases this
      rw [show p.1 = (p.1.1, p.1.2) from rfl, this]; rfl
    · intro s hs
      have : s.2.2 = [] := List.eq_nil_iff_forall_not_mem.mpr fun x hx => by have := days_s hs hx; rw [e] at this; cases this
      rw [show s.2 = (s.2.1, s.2.2) from rfl, this]; rfl
  | cons d0 r =>
    simp only
    have hd : Rising (d0 :: r) := by rw [← e]; exact hr
    obtain ⟨h1, h2⟩ := Rising.cons.mp hd
    rw [plotOf_at (by rw [map_fst_map]; exact hd)]
    refine sample (F := turnsWith p) hd (fun h => ?_) fun x _ hxd h => ?_
    · have hlt := h d0 List.mem_cons_self
      symm
      refine tw_const (by omega) fun y hy => ?_
      rw [e] at hy
      rcases List.mem_cons.mp hy with q | q
      · omega
      · have := h1 y q; omega
    · exact tw_const hxd fun y hy => h y (by rw [← e]; exact hy)
theorem flipP_ok {p : Plot} (h : POk p) : POk (flipP p) := by
  unfold flipP
  have hr := ss_rising (p.1.2 ++ edgesL p.2)
  cases e : daysOf p with
  | nil => exact ⟨turnsWith_rising h 0, .nil, nofun, trivial⟩
  | cons d r =>
    have hd : Rising (d :: r) := by rw [← e]; exact hr
    exact sampled_ok hd (turnsWith_rising h _) fun t => turnsWith_rising h t
theorem flipP_spot {p : Plot} (h : POk p) (d t : Int) : spot (flipP p) t d = spot p d t := by
  unfold spot
  rw [flipP_at, turnsWith_lies h]
  rfl
theorem flipP_flip {p : Plot} (h : POk p) : flipP (flipP p) = p := plot_ext (flipP_ok (flipP_ok h)) h fun d t => by rw [flipP_spot (flipP_ok h), flipP_spot h]
theorem flipP_blend (w : W4) {a b : Plot} (ha : POk a) (hb : POk b) : flipP (blendP w a b) = blendP w (flipP a) (flipP b) :=
  plot_ext (flipP_ok (blendP_ok w a b)) (blendP_ok w _ _) fun d t => by rw [flipP_spot (blendP_ok w a b), blendP_spot w ha hb, blendP_spot w (flipP_ok ha) (flipP_ok hb), flipP_spot ha, flipP_spot hb]
/-! ### its turns are the days, its days the turns -/
theorem flip_turns_sub {p : Plot} : ∀ t ∈ turnsOf (flipP p), t ∈ daysOf p := by
  intro t ht
  unfold flipP at ht
  cases e : daysOf p with
  | nil => rw [e] at ht; simp [turnsOf] at ht
  | cons d r =>
    rw [e] at ht
    have := ((mkS_sub _ _).map (·.1)).subset ht
    rwa [map_fst_map] at this
/-- each turn of a plot is a change: of some day -/
theorem turn_change {p : Plot} (h : POk p) {t : Int} (ht : t ∈ turnsOf p) : atP p t ≠ atP p (t - 1) := by
  obtain ⟨g, ss⟩ := p
  have key : ∀ (ss : List Step) (g : Reach), Rising (ss.map (·.1)) → Alt g ss → t ∈ ss.map (·.1) → atL g ss t ≠ atL g ss (t - 1) := by
    intro ss
    induction ss with
    | nil => intro g _ _ ht; simp at ht
    | cons s r ih =>
      intro g hr ha ht
      have gt := turns_gt hr
      rcases List.mem_cons.mp ht with e | ht
      · subst e
        show atL g (s :: r) s.1 ≠ atL g (s :: r) (s.1 - 1)
        rw [atL_cons, if_pos (Int.le_refl _), atL_gt gt, atL_cons, if_neg (by omega), atL_gt fun x hx => by have := gt x hx; omega]
        exact ha.1
      · obtain ⟨y, hy, e⟩ := List.mem_map.mp ht
        have h1 := gt y hy
        rw [atL_cons, if_pos (by omega), atL_cons, if_pos (by omega)]
        exact ih s.2 (Rising.cons.mp hr).2 ha.2 ht
  exact key ss g h.ts h.alt ht
theorem edge_change {r : Reach} (h : Rising r.2) {e : Int} (he : e ∈ r.2) : liesIn r e ≠ liesIn r (e - 1) := by
  obtain ⟨f, l⟩ := r
  induction l generalizing f with
  | nil => cases he
  | cons a l ih =>
    obtain ⟨h1, h2⟩ := Rising.cons.mp h
    rcases List.mem_cons.mp he with q | he
    · subst q
      rw [liesIn_cons, if_pos (Int.le_refl _), liesIn_gt h1, liesIn_gt fun x hx => ?_]
      · cases f <;> simp
      · rcases List.mem_cons.mp hx with q | q
        · omega
        · have := h1 x q; omega
    · have h3 := h1 e he
      rw [liesIn_cons, if_pos (by omega), liesIn_cons, if_pos (by omega)]
      exact ih (!f) h2 he
/-- a day that is an edge: some spot changes there -/
theorem day_change {p : Plot} (h : POk p) {e : Int} (he : e ∈ daysOf p) : ∃ t, spot p e t ≠ spot p (e - 1) t := by
  have he := (ss_mem _ _).mp he
  rcases List.mem_append.mp he with q | q
  · obtain ⟨k, hk⟩ := low_turn p.2
    refine ⟨k, ?_⟩
    unfold spot
    rw [show atP p k = p.1 from atL_gt hk]
    exact edge_change h.g q
  · obtain ⟨s, hs, hq⟩ := List.mem_flatMap.mp q
    refine ⟨s.1, ?_⟩
    unfold spot
    have : atP p s.1 = s.2 := by
      have : ∀ (ss : List Step) (g : Reach), Rising (ss.map (·.1)) → s ∈ ss → atL g ss s.1 = s.2 := fun ss g hr hs => at_pair hr s hs
      exact this p.2 p.1 h.ts hs
    rw [this]
    exact edge_change (h.rs s hs) hq
theorem const_turn {p : Plot} {t : Int} (h : t ∉ turnsOf p) : atP p t = atP p (t - 1) := atP_const (by omega) fun y hy hh => by
  have : y = t := by omega
  exact h (this ▸ hy)
theorem const_day {p : Plot} {e : Int} (h : e ∉ daysOf p) (t : Int) : spot p e t = spot p (e - 1) t := by
  have key : ∀ r : Reach, (∀ x ∈ r.2, x ∈ daysOf p) → liesIn r e = liesIn r (e - 1) := fun r hr => lies_const (by omega) fun y hy hh => by
    have : y = e := by omega
    exact h (this ▸ hr y hy)
  unfold spot
  exact atL_all (P := fun r => liesIn r e = liesIn r (e - 1)) (key _ fun x hx => days_g hx) (fun s hs => key _ fun x hx => days_s hs hx) t
theorem flip_turns {p : Plot} (h : POk p) : turnsOf (flipP p) = daysOf p := by
  refine rising_one (flipP_ok h).ts (ss_rising _) fun e => ⟨flip_turns_sub e, fun he => ?_⟩
  refine Classical.byContradiction fun hn => ?_
  obtain ⟨t, ht⟩ := day_change h he
  have := const_turn hn
  refine ht ?_
  rw [← flipP_spot h, ← flipP_spot h]
  unfold spot
  rw [this]
theorem flip_days {p : Plot} (h : POk p) : daysOf (flipP p) = turnsOf p := by
  have := flip_turns (flipP_ok h)
  rw [flipP_flip h] at this
  exact this.symm
end HW
end
section
set_option linter.all false
set_option autoImplicit false
/-! MJ30: flips; law k13 -/
namespace HW
open MI PySem
section
variable {T : Tab}
theorem turns_with_run [HasF T "lies_in" F_lies_in] [i : HasF T "turns_with" F_turns_with] (n : Nat) (p : Plot) (d : Int) (hl : p.2.length ≤ 10000) (M : Mem) : run T (n + 2) "turns_with" [encP p, .int d] M = .ok (.d (encR (turnsWith p d))) M := by
  have hlim := lim_big
  rw [run_has i, ← Res.wp_eq]
  refine wp_run rfl ?_
  have li : ∀ (r : Reach) M, run T (n + 1) "lies_in" [encR r, .int d] M = .ok (.d (.bl (liesIn r d))) M := fun r M => lies_in_run n r d M
  simp [F_turns_with, b_turns_with, li]
  refine forL_wp encS (fun l env M' => ∃ (acc : List Int) (last : Bool) (j5 j6 : Option D), env = [some (encP p), some (.int d), some (.bl (liesIn p.1 d)), some (.bl last), some (.hdl M.length), j5, j6] ∧ M' = M ++ [.lst (acc.map D.int)] ∧ acc.length + l.length ≤ p.2.length ∧ acc ++ edgesGo d last l = (turnsWith p d).2) ?_ ?_ _ _ _ ⟨[], _, _, _, rfl, rfl, by simp, rfl⟩
  · rintro _ _ ⟨acc, last, j5, j6, rfl, rfl, h1, h2⟩
    simp only [edgesGo, List.append_nil] at h2
    simp [encR, turnsWith] at h2 ⊢
    rw [h2]
  · rintro s l _ _ ⟨acc, last, j5, j6, rfl, rfl, h1, h2⟩
    simp only [List.length_cons] at h1
    have hacc : acc.length < lim := by omega
    simp only [edgesGo] at h2
    simp [li]
    by_cases e : liesIn s.2 d = last
    · have e' : (liesIn s.2 d != last) = false := by rw [e]; simp
      rw [e'] at h2
      simp [e]
      exact ⟨acc, _, _, _, rfl, rfl, by omega, by simpa using h2⟩
    · have e' : (liesIn s.2 d != last) = true := by simpa using e
      rw [e', if_pos rfl] at h2
      simp [e, hacc]
      exact ⟨acc ++ [s.1], _, _, _, rfl, by simp, by simp; omega, by rw [← h2]; simp⟩
theorem flipped_run [HasF T "lies_in" F_lies_in] [HasF T "days_of" F_days_of] [HasF T "plot_of" F_plot_of] [HasF T "turns_with" F_turns_with] [i : HasF T "flipped" F_flipped] (n : Nat) (p : Plot) (hl : p.2.length ≤ 10000) (he : edgeCount p < 4000) (M : Mem) : run T (n + 3) "flipped" [encP p] M = .ok (.d (encP (flipP p))) M := by
  have hlim := lim_big
  rw [run_has i, ← Res.wp_eq]
  refine wp_run rfl ?_
  have dl : (daysOf p).length < 4000 := by have := ss_len (p.1.2 ++ edgesL p.2); unfold daysOf; unfold edgeCount at he; omega
  have tw : ∀ d M, run T (n + 2) "turns_with" [encP p, .int d] M = .ok (.d (encR (turnsWith p d))) M := fun d M => turns_with_run n p d hl M
  simp [F_flipped, b_flipped]
  rw [days_of_run (n + 1) p he]
  simp
  rw [oEq_l (as := (daysOf p).map D.int) (bs := []) (by simp) rfl (by simp) rfl]
  have e0 : deqs ((daysOf p).map D.int) [] = decide (daysOf p = []) := by
    have := deqs_ints (daysOf p) []
    simpa using this
  simp [e0, tw, show (2 : Nat) ≤ lim by omega]
  cases e : daysOf p with
  | nil =>
    simp
    have : encP (flipP p) = .tup [encR (turnsWith p 0), .tup []] := by simp [flipP, e, encP]
    simp [this]
  | cons d r =>
    have hd : D.int d :: r.map D.int = (d :: r).map D.int := rfl
    have ix : ∀ l : Mem, oIx (.d (.hdl M.length)) (.d (.int 0)) (M ++ O.lst (D.int d :: r.map D.int) :: l) = .ok (.d (.int d)) (M ++ O.lst (D.int d :: r.map D.int) :: l) := fun l => oIx_seq (ds := D.int d :: r.map D.int) (k := 0) (by simp) (ixN_pos (by omega) (by simp)) rfl
    simp [ix, tw]
    rw [hd]
    rw [compL_all D.int (by simp [chkOk]) (fun x => encS (x, turnsWith p x)) (fun x => by simp [← Res.wp_eq, tw, encS, show (2 : Nat) ≤ lim by omega]) (d :: r) (by rw [e] at dl; omega)]
    simp [-List.map_cons]
    have e1 : ((d :: r).map fun x => encS (x, turnsWith p x)) = (((d :: r).map fun x => (x, turnsWith p x)).map encS) := by simp
    rw [e1]
    have := plot_of_run (T := T) (n + 1) (turnsWith p (d - 1)) ((d :: r).map fun x => (x, turnsWith p x)) (M.length + 1) (by rw [List.length_map]; rw [e] at dl; omega) (M ++ [O.lst ((d :: r).map D.int), O.lst (((d :: r).map fun x => (x, turnsWith p x)).map encS)]) (by simp)
    rw [this]
    simp [flipP, e]
def line14 (spread low : Int) : List Int := (List.range 14).map fun k : Nat => low + ((k : Int) - 2) * spread
theorem line14_len (a b : Int) : (line14 a b).length = 14 := by simp [line14]
theorem line_14 {spread low m : Int} (h0 : 0 ≤ m) (h1 : m < 9) {r : Reach} (h : Sub (line spread (low + m * spread)) r) : Sub (line14 spread low) r := fun e he => by
  obtain ⟨k, hk, rfl⟩ := List.mem_map.mp (h e he)
  have hk := List.mem_range.mp hk
  refine List.mem_map.mpr ⟨k + m.toNat, List.mem_range.mpr (by omega), ?_⟩
  have : ((k + m.toNat : Nat) : Int) - 2 = m + ((k : Int) - 2) := by omega
  rw [this, Int.add_mul]; omega
theorem law_plot_k13_ex [HasF T "_law_stir" F__law_stir] [HasF T "_law_reach" F__law_reach_k09] [i : HasF T "_law_plot" F__law_plot_k13] (n : Nat) (cells : List Int) (h : Nat) (b spread low : Int) (hs : 0 < spread) (hl : cells.length ≤ 100) (M : Mem) (hM : M[h]? = some (.lst (cells.map D.int))) :
    ∃ p : Plot, POk p ∧ PSub (line14 spread low) p ∧ p.2.length ≤ cells.length ∧ run T (n + 3) "_law_plot" [.hdl h, .int b, .int spread, .int low] M = .ok (.d (encP p)) M := by
  have : (run T (n + 3) "_law_plot" [.hdl h, .int b, .int spread, .int low] M).wp fun x M' => Kp (M' = M ∧ ∃ p : Plot, POk p ∧ PSub (line14 spread low) p ∧ p.2.length ≤ cells.length ∧ x = .d (encP p)) := by
    have hlim := lim_big
    have hM2 : ∀ l : Mem, (M ++ l)[h]? = some (.lst (cells.map D.int)) := fun l => get_ahead hM
    have z14 : ∀ r : Reach, Sub (line spread low) r → Sub (line14 spread low) r := fun r hr => line_14 (m := 0) (by omega) (by omega) (by simpa using hr)
    rw [run_has i]
    refine wp_run rfl ?_
    simp [F__law_plot_k13, b__law_plot_k13, hM2, hM]
    rw [cut_to _ (by decide)]
    have key : ∀ g : Reach, Rising g.2 → Sub (line14 spread low) g → ∀ (j5 : Option D) (env : MI.Env), env = [some (.hdl h), some (.int b), some (.int spread), some (.int low), some (encR g), j5, some (encR g), some (.hdl M.length), some (.int (-3 * spread)), none] →
        (forL (sSeq (sSet 8 (MI.e2 oAdd (eVar 8) (MI.e2 oMul (MI.e2 oAdd (eC (.int 1)) (MI.e2 oMod (MI.e2 oDiv (eCall "_law_stir" (dCons (eVar 5) (dCons (MI.e2 oAdd (eVar 1) (eC (.int 2))) dNil))) (eC (.int 7))) (eC (.int 3)))) (eVar 2)))) (sSeq (sSet 9 (eCall "_law_reach" (dCons (eVar 5) (dCons (eVar 1) (dCons (eVar 2) (dCons (MI.e2 oAdd (eVar 3) (MI.e2 oMul (MI.e2 oMul (MI.e2 oMod (MI.e2 oDiv (eCall "_law_stir" (dCons (eVar 5) (dCons (MI.e2 oAdd (eVar 1) (eC (.int 4))) dNil))) (eC (.int 5))) (eC (.int 9))) (e1 bInt (MI.e2 oNe (eVar 3) (eC (.int 0))))) (eVar 2))) dNil)))))) (sSeq (sIf (tB (MI.e2 oNe (eVar 9) (eVar 4))) (sExpr (eM1 mAppend (eVar 7) (eTup (dCons (eVar 8) (dCons (eVar 9) dNil))))) sNil) (sSet 4 (eVar 9)))) (run T (n + 2))) (.nm 5) [(h, cells.map D.int)] (cells.map D.int) env (M ++ [.lst []])).wp
        (fun r M1 => ∃ (acc : List Step) (j4 j5 j8 j9 : Option D), r = [some (.hdl h), some (.int b), some (.int spread), some (.int low), j4, j5, some (encR g), some (.hdl M.length), j8, j9] ∧ M1 = M ++ [.lst (acc.map encS)] ∧ POk (g, acc) ∧ PSub (line14 spread low) (g, acc) ∧ acc.length ≤ cells.length) (fun _ _ => False) := by
      rintro g hg hgs j5 _ rfl
      refine forL_wp D.int (fun l env M' => ∃ (acc : List Step) (turn : Int) (j5 j9 : Option D), env = [some (.hdl h), some (.int b), some (.int spread), some (.int low), some (encR (lastR g acc)), j5, some (encR g), some (.hdl M.length), some (.int turn), j9] ∧ M' = M ++ [.lst (acc.map encS)] ∧
        Rising (acc.map (·.1)) ∧ (∀ s ∈ acc, s.1 ≤ turn) ∧ (∀ s ∈ acc, Rising s.2.2) ∧ (∀ s ∈ acc, Sub (line14 spread low) s.2) ∧ Alt g acc ∧ acc.length + l.length ≤ cells.length) ?_ ?_ _ _ _ ⟨[], _, _, _, rfl, rfl, .nil, by simp, by simp, by simp, trivial, by simp⟩
      · rintro _ _ ⟨acc, turn, j5, j9, rfl, rfl, h1, h2, h3, h4, h5, h6⟩
        refine ⟨by simp [chkOk, hM2], acc, _, _, _, _, rfl, rfl, ⟨hg, h1, h3, h5⟩, ⟨hgs, h4⟩, by simpa using h6⟩
      · rintro c l _ _ ⟨acc, turn, j5, j9, rfl, rfl, h1, h2, h3, h4, h5, h6⟩
        simp only [List.length_cons] at h6
        have st : ∀ c b M, run T (n + 2) "_law_stir" [.int c, .int b] M = .ok (.d (.int (stir c b))) M := fun c b M => law_stir_run (n + 1) c b M
        have s0 := stir_nn c (b + 2)
        have s1 := Int.emod_nonneg (stir c (b + 2) / 7) (show (3 : Int) ≠ 0 by decide)
        have s2 := Int.emod_lt_of_pos (stir c (b + 2) / 7) (show (0 : Int) < 3 by decide)
        have t1 := Int.emod_nonneg (stir c (b + 4) / 5) (show (9 : Int) ≠ 0 by decide)
        have t2 := Int.emod_lt_of_pos (stir c (b + 4) / 5) (show (0 : Int) < 9 by decide)
        simp [hM2, st, chkOk]
        refine ⟨.inl ⟨by omega, by omega⟩, .inl ⟨by omega, by omega⟩, ?_⟩
        have m0 : 0 ≤ stir c (b + 4) / 5 % 9 * (if low = 0 then 0 else 1) ∧ stir c (b + 4) / 5 % 9 * (if low = 0 then 0 else 1) < 9 := by
          by_cases z : low = 0 <;> simp [z] <;> omega
        generalize stir c (b + 4) / 5 % 9 * (if low = 0 then 0 else 1) = m at *
        refine ⟨.inl ⟨by omega, by omega⟩, ?_⟩
        rw [law_reach_run9]
        simp
        have hpos : 0 < (1 + stir c (b + 2) / 7 % 3) * spread := Int.mul_pos (by omega) hs
        have hacc : acc.length < lim := by omega
        have l2 : (2 : Nat) ≤ lim := by omega
        split
        · rename_i hr
          refine ⟨acc, _, _, _, by rw [← hr]; rfl, rfl, h1, fun s hs' => by have := h2 s hs'; omega, h3, h4, h5, by omega⟩
        · rename_i hr
          simp [hacc, l2]
          refine ⟨acc ++ [(turn + (1 + stir c (b + 2) / 7 % 3) * spread, lawReach c b spread (low + m * spread))], _, _, _, by rw [lastR_snoc]; rfl, by simp [encS], ?_, ?_, ?_, ?_, alt_snoc _ _ _ h5 hr, by simp; omega⟩
          · rw [List.map_append]
            refine Rising.snoc h1 fun x hx => ?_
            obtain ⟨s, hs', rfl⟩ := List.mem_map.mp hx
            have := h2 s hs'
            show s.1 < turn + (1 + stir c (b + 2) / 7 % 3) * spread
            omega
          · intro s hs'
            rcases List.mem_append.mp hs' with q | q
            · have := h2 s q; omega
            · rw [List.mem_singleton.mp q]; exact Int.le_refl _
          · intro s hs'
            rcases List.mem_append.mp hs' with q | q
            · exact h3 s q
            · rw [List.mem_singleton.mp q]; exact lawReach_rising hs _ _ _
          · intro s hs'
            rcases List.mem_append.mp hs' with q | q
            · exact h4 s q
            · rw [List.mem_singleton.mp q]; exact line_14 m0.1 m0.2 (lawReach_sub _ _ _ _)
    refine forL_wp D.int (fun l env M' => ∃ (last : Reach) (j5 : Option D), env = [some (.hdl h), some (.int b), some (.int spread), some (.int low), some (encR last), j5, none, none, none, none] ∧ M' = M ∧ Rising last.2 ∧ Sub (line14 spread low) last) ?_ ?_ _ _ _ ⟨(false, []), _, rfl, rfl, .nil, fun e he => nomatch he⟩
    · rintro _ M' ⟨last, j5, rfl, rfl, h1, h2⟩
      simp [hM, hM2]
      refine SR.wp_mono (key last h1 h2 j5 _ rfl) ?_ fun _ _ h => h.elim
      rintro _ _ ⟨acc, j4, j5, j8, j9, rfl, rfl, k1, k2, k3⟩
      simp [hM2]
      exact ⟨rfl, (last, acc), k1, k2, k3, rfl⟩
    · rintro c l _ M' ⟨last, j5, rfl, rfl, h1, h2⟩
      simp
      rw [law_stir_run]
      simp
      split
      · rw [law_reach_run9]
        simp
        exact ⟨_, _, rfl, rfl, lawReach_rising hs _ _ _, z14 _ (lawReach_sub _ _ _ _)⟩
      · exact ⟨_, _, rfl, rfl, h1, h2⟩
  obtain ⟨x, M', e, rfl, p, h1, h2, h3, rfl⟩ := Res.wp_ex this
  exact ⟨p, h1, h2, h3, e⟩
end
end HW
end
section
set_option linter.all false
set_option autoImplicit false
/-! MJ31: laws k13, k14 -/
namespace HW
open MI PySem
theorem turns_sub (p : Plot) (h : POk p) : PSub (turnsOf p) (flipP p) := by
  have key : ∀ d, Sub (turnsOf p) (turnsWith p d) := fun d e he => (edgesGo_sub d _ p.2).subset he
  unfold flipP
  split
  · exact ⟨key 0, nofun⟩
  · exact plotOf_sub (key _) fun s hs => by obtain ⟨y, _, rfl⟩ := List.mem_map.mp hs; exact key y
theorem flip_len (p : Plot) (h : POk p) : (flipP p).2.length = (daysOf p).length := by
  have := congrArg List.length (flip_turns h)
  simpa [turnsOf] using this
theorem days_le {L : List Int} {p : Plot} (h : PSub L p) : (daysOf p).length ≤ L.length := by
  refine len_of_sub (ss_rising _).nodup fun e he => ?_
  rcases List.mem_append.mp ((ss_mem _ _).mp he) with q | q
  · exact h.g e q
  · obtain ⟨s, hs, hq⟩ := List.mem_flatMap.mp q
    exact h.rs s hs e hq
section
variable {T : Tab}
theorem law_k13_run [HasF T "lies_in" F_lies_in] [HasF T "days_of" F_days_of] [HasF T "plot_of" F_plot_of] [HasF T "turns_with" F_turns_with] [HasF T "flipped" F_flipped] [HasF T "_law_cell" F__law_cell] [HasF T "_law_whole" F__law_whole] [HasF T "_law_stir" F__law_stir] [HasF T "_law_reach" F__law_reach_k09] [HasF T "_law_plot" F__law_plot_k13] [HasF T "_law_scale" F__law_scale]
    [HasF T "_law_in" F__law_in_k09] [HasF T "_law_at" F__law_at_k09] [HasF T "_law_beside" F__law_beside] [HasF T "_law_days" F__law_days] [HasF T "_law_turns" F__law_turns] [HasF T "_law_is_reach" F__law_is_reach_k09] [HasF T "_law_is_plot" F__law_is_plot_k09] [i : HasF T "law" F_law_k13] (ns : List Int) (hns : ns.length ≤ 63) (n : Nat) :
    ∃ M, run T (n + 5) "law" [scr ns] [] = .ok (.d (.bl true)) M := by
  have : (run T (n + 5) "law" [scr ns] []).wp fun x M' => Kp (x = .d (.bl true)) := by
    have hlim := lim_big
    rw [run_has i]
    refine wp_run rfl ?_
    simp [F_law_k13, b_law_k13]
    have c0 := fun M => law_cell_run (T := T) (n + 3) ns 0 M
    simp at c0
    rw [c0]
    generalize ns[0]?.getD 0 = first
    obtain ⟨spread, low, s1, s2, s3, s4, es⟩ := law_scale_ex (T := T) first
    simp
    rw [es (n + 3)]
    simp
    obtain ⟨p, p1, p2, p3, ep⟩ := law_plot_k13_ex (T := T) (n + 1) (cut ns (some 1) (some 25)) 0 48271 spread low s1 (by unfold cut; simp; omega) [.lst ((cut ns (some 1) (some 25)).map D.int)] rfl
    have hp : p.2.length ≤ 63 := by
      have : (cut ns (some 1) (some 25)).length ≤ 63 := by unfold cut; simp; omega
      omega
    rw [ep]
    simp
    have ec := edgeCount_le (k := 14) (by rw [line14_len]; exact Nat.le_refl _) p1 p2
    rw [flipped_run (n + 1) p (by omega) (by omega)]
    simp
    have fo := flipP_ok p1
    have fs := turns_sub p p1
    have tl : (turnsOf p).length ≤ 63 := by simpa [turnsOf] using hp
    have dl := days_le p2
    rw [line14_len] at dl
    have fl := flip_len p p1
    rw [law_is_plotP (n + 1) _ _ fo (by omega) (by have := sub_len fo.g fs.g; omega) (fun s hs => by have := sub_len (fo.rs s hs) (fs.rs s hs); omega)]
    simp
    obtain ⟨ts, tsl, ets⟩ := law_turns_exL (T := T) (n + 2) [p] 1 (by simp) (by simp; omega) [.lst ((cut ns (some 1) (some 25)).map D.int), .lst [encP p]] rfl
    rw [ets]
    simp
    have hat : ∀ (p : Plot) t M, run T (n + 4) "_law_at" [encP p, .int t] M = .ok (.d (encR (atP p t))) M := fun p t M => law_at_run (n + 3) p t M
    rw [compL_all D.int (by simp [chkOk]) (fun t => encR (atP p t)) (fun t => by simp [← Res.wp_eq, hat]) ts (by omega)]
    simp
    obtain ⟨ds, dsl, eds⟩ := law_days_exL (T := T) (n + 2) [p] 4 (by simp) (by simp; omega) [.lst ((cut ns (some 1) (some 25)).map D.int), .lst [encP p], .lst (ts.map D.int), .lst (ts.map fun t => encR (atP p t)), .lst [encP p]] rfl
    rw [eds]
    simp
    have hin1 : ∀ d t M, run T (n + 4) "_law_in" [encR (atP p t), .int d] M = .ok (.d (.bl (spot p d t))) M := fun d t M => law_in_run9 (n + 3) _ _ M (by have := at_len p1 p2 t; rw [line14_len] at this; omega)
    have hin2 : ∀ d t M, run T (n + 4) "_law_in" [encR (turnsWith p d), .int t] M = .ok (.d (.bl (spot p d t))) M := fun d t M => by
      have h1 := at_len fo fs d
      rw [flipP_at] at h1
      rw [law_in_run9 (n + 3) _ _ M (by omega), turnsWith_lies p1]
    refine forL_wp D.int (fun l env M' => M'[2]? = some (.lst (ts.map D.int)) ∧ M'[3]? = some (.lst (ts.map fun t => encR (atP p t))) ∧ ∃ (j7 j8 j9 j10 : Option D), env = [some (scr ns), some (.int spread), some (.int low), some (encP p), some (encP (flipP p)), some (.hdl 2), some (.hdl 3), j7, j8, j9, j10]) ?_ ?_ _ _ _ ⟨rfl, rfl, _, _, _, _, rfl⟩
    · rintro _ M' ⟨hM, hM3, j7, j8, j9, j10, rfl⟩
      simp
      rfl
    · rintro d l _ M' ⟨hM, hM3, j7, j8, j9, j10, rfl⟩
      simp [hat, hM, flipP_at]
      refine ⟨by omega, ?_⟩
      refine forL_range (fun j env M' => M'[2]? = some (.lst (ts.map D.int)) ∧ M'[3]? = some (.lst (ts.map fun t => encR (atP p t))) ∧ ∃ (j9 j10 : Option D), env = [some (scr ns), some (.int spread), some (.int low), some (encP p), some (encP (flipP p)), some (.hdl 2), some (.hdl 3), some (.int d), some (encR (turnsWith p d)), j9, j10]) ?_ ?_ _ _ ⟨hM, hM3, _, _, rfl⟩
      · rintro _ M' ⟨hM, hM3, j9, j10, rfl⟩
        exact ⟨hM, hM3, _, _, _, _, rfl⟩
      · rintro j _ M' hj ⟨hM, hM3, j9, j10, rfl⟩
        have e1 : oIx (.d (.hdl 2)) (.d (.int (j : Int))) M' = .ok (.d (.int ts[j])) M' := oIx_seq (ds := ts.map D.int) (k := j) (by simp [hM]) (by rw [ixN_pos (by omega) (by rw [List.length_map]; omega)]; simp) (by rw [List.getElem?_map, List.getElem?_eq_getElem hj]; rfl)
        have e2 : oIx (.d (.hdl 3)) (.d (.int (j : Int))) M' = .ok (.d (encR (atP p ts[j]))) M' := oIx_seq (ds := ts.map fun t => encR (atP p t)) (k := j) (by simp [hM3]) (by rw [ixN_pos (by omega) (by rw [List.length_map]; omega)]; simp) (by rw [List.getElem?_map, List.getElem?_eq_getElem hj]; rfl)
        simp [e1, e2, hin1, hin2]
        exact ⟨hM, hM3, _, _, rfl⟩
  obtain ⟨x, M', e, rfl⟩ := Res.wp_ex this
  exact ⟨M', e⟩
theorem law_turned_run [HasF T "lies_in" F_lies_in] [HasF T "days_of" F_days_of] [HasF T "turns_of" F_turns_of] [HasF T "plot_of" F_plot_of] [HasF T "turns_with" F_turns_with] [HasF T "flipped" F_flipped] [i : HasF T "_law_turned" F__law_turned] (n : Nat) {L : List Int} (p : Plot) (h : POk p) (hs : PSub L p) (hL : L.length ≤ 14) (hl : p.2.length ≤ 63) (M : Mem) : run T (n + 4) "_law_turned" [encP p] M = .ok (.d (.bl true)) M := by
  have hlim := lim_big
  have fo := flipP_ok h
  have fs := turns_sub p h
  have tl : (turnsOf p).length ≤ 63 := by simpa [turnsOf] using hl
  have dl := days_le hs
  have fl := flip_len p h
  have ec := edgeCount_le (k := 14) hL h hs
  have ec2 := edgeCount_le (k := 63) tl fo fs
  rw [run_has i, ← Res.wp_eq]
  refine wp_run rfl ?_
  simp [F__law_turned, b__law_turned]
  rw [flipped_run n p (by omega) (by omega)]
  simp
  rw [flipped_run n (flipP p) (by omega) (by omega), flipP_flip h]
  simp
  rw [turns_of_run (n + 2) (flipP p) (by omega)]
  simp
  rw [days_of_run (n + 2) p (by omega)]
  simp [flip_turns h]
  rw [days_of_run (n + 2) (flipP p) (by omega)]
  simp
  rw [turns_of_run (n + 2) p (by omega)]
  simp [flip_days h]
theorem law_k14_run [HasF T "edges_marked" F_edges_marked] [HasF T "truth_by" F_truth_by] [HasF T "blend" F_blend] [HasF T "reach_at" F_reach_at] [HasF T "blend_plots" F_blend_plots] [HasF T "turns_of" F_turns_of] [HasF T "lies_in" F_lies_in] [HasF T "days_of" F_days_of] [HasF T "plot_of" F_plot_of] [HasF T "turns_with" F_turns_with] [HasF T "flipped" F_flipped] [HasF T "_law_cell" F__law_cell] [HasF T "_law_stir" F__law_stir] [HasF T "_law_reach" F__law_reach_k09] [HasF T "_law_plot" F__law_plot_k13] [HasF T "_law_scale" F__law_scale]
    [HasF T "_law_turned" F__law_turned] [i : HasF T "law" F_law_k14] (ns : List Int) (hns : ns.length ≤ 63) (n : Nat) : ∃ M, run T (n + 5) "law" [scr ns] [] = .ok (.d (.bl true)) M := by
  have : (run T (n + 5) "law" [scr ns] []).wp fun x M' => Kp (x = .d (.bl true)) := by
    have hlim := lim_big
    rw [run_has i]
    refine wp_run rfl ?_
    simp [F_law_k14, b_law_k14]
    have c0 := fun M => law_cell_run (T := T) (n + 3) ns 0 M
    simp at c0
    rw [c0]
    generalize ns[0]?.getD 0 = first
    obtain ⟨spread, low, s1, s2, s3, s4, es⟩ := law_scale_ex (T := T) first
    simp
    rw [es (n + 3)]
    simp
    have hcl : (cut ns (some 1) (some 63)).length ≤ 63 := by unfold cut; simp; omega
    generalize cut ns (some 1) (some 63) = cells at *
    have e0 : (cells.map D.int).take (sIx cells.length cells.length none) = cells.map D.int := by rw [sIx_none]; exact List.take_of_length_le (by simp)
    have e1 : sIx cells.length 0 none = 0 := rfl
    obtain ⟨c1, q1, q2⟩ := pickS_ints 0 2 (by decide) cells
    obtain ⟨c2, q3, q4⟩ := pickS_ints (sIx cells.length 0 (some 1)) 2 (by decide) cells
    rw [e0, e1, q1]
    obtain ⟨a, a1, a2, a3, ea⟩ := law_plot_k13_ex (T := T) (n + 1) c1 1 48271 spread low s1 (by omega) [.lst (cells.map D.int), .lst (c1.map D.int)] rfl
    rw [ea]
    simp
    rw [e0, q3]
    obtain ⟨b, b1, b2, b3, eb⟩ := law_plot_k13_ex (T := T) (n + 1) c2 2 69621 spread low s1 (by omega) [.lst (cells.map D.int), .lst (c1.map D.int), .lst (c2.map D.int)] rfl
    rw [eb]
    simp
    have hL := line14_len spread low
    rw [law_turned_run n a a1 a2 (by omega) (by omega)]
    simp
    rw [law_turned_run n b b1 b2 (by omega) (by omega)]
    simp [show (4 : Nat) ≤ lim by omega]
    have ta : (turnsOf a).length ≤ 63 := by simp [turnsOf]; omega
    have tb : (turnsOf b).length ≤ 63 := by simp [turnsOf]; omega
    have fa := turns_sub a a1
    have fb := turns_sub b b1
    have da := days_le a2
    have db := days_le b2
    have la := flip_len a a1
    have lb := flip_len b b1
    have ca := edgeCount_le (k := 14) (by omega) a1 a2
    have cb := edgeCount_le (k := 14) (by omega) b1 b2
    have both : PSub (turnsOf a ++ turnsOf b) (flipP a) ∧ PSub (turnsOf a ++ turnsOf b) (flipP b) := ⟨⟨fun e he => List.mem_append_left _ (fa.g e he), fun s hs e he => List.mem_append_left _ (fa.rs s hs e he)⟩, ⟨fun e he => List.mem_append_right _ (fb.g e he), fun s hs e he => List.mem_append_right _ (fb.rs s hs e he)⟩⟩
    rw [show ([D.str "both", D.str "either", D.str "less", D.str "just"] : List D) = [W4.both, W4.either, W4.less, W4.just].map fun w => D.str w.s from rfl]
    refine forL_wp (fun w : W4 => D.str w.s) (fun l env M' => ∃ (j6 : Option D), env = [some (scr ns), some (.int spread), some (.int low), some (.hdl 0), some (encP a), some (encP b), j6]) ?_ ?_ _ _ _ ⟨_, rfl⟩
    · rintro _ M' ⟨j6, rfl⟩
      simp
      rfl
    · rintro w l _ M' ⟨j6, rfl⟩
      have bo := blendP_ok w a b
      have bs := blendP_sub w a2 b2
      have bl := blendP_len w a b
      have cc := edgeCount_le (k := 14) (by omega) bo bs
      simp
      rw [blend_plots_run (n + 1) w a1 b1 a2 b2 (by omega) (by omega)]
      simp
      rw [flipped_run (n + 1) _ (by omega) (by omega)]
      simp
      rw [flipped_run (n + 1) a (by omega) (by omega)]
      simp
      rw [flipped_run (n + 1) b (by omega) (by omega)]
      simp
      rw [blend_plots_run (n + 1) w (flipP_ok a1) (flipP_ok b1) both.1 both.2 (by rw [List.length_append]; omega) (by omega)]
      simp [flipP_blend w a1 b1]
      exact ⟨_, rfl⟩
  obtain ⟨x, M', e, rfl⟩ := Res.wp_ex this
  exact ⟨M', e⟩
end
end HW
end
section
set_option linter.all false
set_option autoImplicit false
/-! MK6: where two plots part, plainly -/
namespace HW
open MI PySem
def no0 : Reach := (false, [])
def dayR (r : Reach) : Int := match r.2 with
  | [] => 0
  | e :: _ => if r.1 = true then e - 1 else e
theorem partingF_no {r : Reach} (h : Rising r.2) (hn : r ≠ no0) : partingF r no0 = some (dayR r) := by
  obtain ⟨f, A⟩ := r
  have hs : symd A [] = A := by
    have e := just_eq (a := (f, A)) (b := (false, [])) h .nil
    have : sortI (A.filter fun e => !decide (e ∈ ([] : List Int))) = A := by
      have f1 : A.filter (fun e => !decide (e ∈ ([] : List Int))) = A := by simp
      rw [f1]
      exact rising_one (sortI_rising _ (Rising.nodup h)) h fun k => sortI_mem k A
    unfold symd
    simpa using this
  unfold partingF
  rw [if_neg hn]
  show (match symd A [] with | [] => some 0 | e :: _ => if f = false then some e else some (e - 1)) = _
  rw [hs]
  cases A with
  | nil => rfl
  | cons e A =>
    show (if f = false then some e else some (e - 1)) = some (if f = true then e - 1 else e)
    cases f <;> rfl
theorem dayR_lies {r : Reach} (h : Rising r.2) (hn : r ≠ no0) : liesIn r (dayR r) = true := by
  have := parting_lies (b := no0) h List.Pairwise.nil (partingF_no h hn)
  have e0 : liesIn no0 (dayR r) = false := rfl
  rw [e0] at this
  revert this
  cases liesIn r (dayR r) <;> simp
def headT (a : Plot) : Int := match a.2 with
  | [] => 0
  | s :: _ => if a.1 = no0 then s.1 else s.1 - 1
def spotD (a b : Plot) : Option (Int × Int) :=
  if blendP .just a b = (no0, []) then none else some (dayR (atP (blendP .just a b) (headT (blendP .just a b))), headT (blendP .just a b))
def dif (a b : Plot) (t : Int) : Reach := blend .just (atP a t) (atP b t)
def dif0 (a b : Plot) : Reach := blend .just a.1 b.1
def keptT (a b : Plot) : List Int := (ss (turnsOf a ++ turnsOf b)).filter fun t => !decide (dif a b t = dif0 a b)
def dueF (a b : Plot) : Option (Int × Int) :=
  if dif0 a b = no0 then match keptT a b with
    | [] => none
    | t :: _ => some (dayR (dif a b t), t)
  else match keptT a b with
    | [] => some (dayR (dif0 a b), 0)
    | t :: _ => some (dayR (dif0 a b), t - 1)
theorem mkS_head (g : Reach) (F : Int → Reach) : ∀ T : List Int, (mkS g (T.map fun t => (t, F t))).head? = ((T.filter fun t => !decide (F t = g)).head?).map fun t => (t, F t)
  | [] => rfl
  | t :: T => by
    rw [List.map_cons]
    unfold mkS
    by_cases h : F t = g
    · rw [if_pos h, mkS_head g F T, List.filter_cons_of_neg (by simp [h])]
    · rw [if_neg h, List.filter_cons_of_pos (by simp [h])]
      rfl
theorem spotD_due (a b : Plot) : spotD a b = dueF a b := by
  have hok := blendP_ok .just a b
  have hh := mkS_head (dif0 a b) (dif a b) (ss (turnsOf a ++ turnsOf b))
  have hc1 : (blendP .just a b).1 = dif0 a b := rfl
  have hc2 : (blendP .just a b).2 = mkS (dif0 a b) ((ss (turnsOf a ++ turnsOf b)).map fun t => (t, dif a b t)) := rfl
  rw [← hc2] at hh
  have hk : (ss (turnsOf a ++ turnsOf b)).filter (fun t => !decide (dif a b t = dif0 a b)) = keptT a b := rfl
  rw [hk] at hh
  have hat := blendP_at .just a b
  unfold spotD dueF
  cases ek : keptT a b with
  | nil =>
    rw [ek] at hh
    have e2 : (blendP .just a b).2 = [] := by
      cases e : (blendP .just a b).2 with
      | nil => rfl
      | cons s r => rw [e] at hh; cases hh
    have hc : blendP .just a b = (dif0 a b, []) := Prod.ext hc1 e2
    rw [hc]
    by_cases h : dif0 a b = no0
    · rw [if_pos (by rw [h]), if_pos h]
    · rw [if_neg (fun e => h (Prod.mk.inj e).1), if_neg h]
      rfl
  | cons t T =>
    rw [ek] at hh
    cases e2 : (blendP .just a b).2 with
    | nil => rw [e2] at hh; cases hh
    | cons s r =>
      rw [e2] at hh
      have es : s = (t, dif a b t) := Option.some.inj hh
      have hne : ¬ blendP .just a b = (no0, []) := fun e => by rw [e] at e2; cases e2
      rw [if_neg hne]
      have hT : headT (blendP .just a b) = if dif0 a b = no0 then t else t - 1 := by
        unfold headT
        rw [e2, hc1, es]
      by_cases h : dif0 a b = no0
      · rw [hT, if_pos h, if_pos h, hat]
        rfl
      · rw [hT, if_neg h, if_neg h]
        have : atP (blendP .just a b) (t - 1) = dif0 a b := by
          unfold atP
          rw [hc1]
          refine atL_gt fun x hx => ?_
          rw [e2] at hx
          have hts := hok.ts
          unfold turnsOf at hts
          rw [e2] at hts
          rcases List.mem_cons.mp hx with q | q
          · rw [q, es]; show t - 1 < t; omega
          · have := turns_gt hts x q
            rw [es] at this
            have h3 : t < x.1 := this
            omega
        rw [this]
theorem spotD_none {a b : Plot} (ha : POk a) (hb : POk b) : spotD a b = none ↔ a = b := by
  unfold spotD
  constructor
  · intro h
    have e : blendP .just a b = (no0, []) := by
      by_cases c : blendP .just a b = (no0, [])
      · exact c
      · rw [if_neg c] at h; cases h
    refine plot_ext ha hb fun d t => ?_
    have := blendP_spot .just ha hb d t
    rw [e] at this
    have e0 : spot (no0, []) d t = false := rfl
    rw [e0] at this
    revert this
    show false = W4.tb .just _ _ → _
    simp only [W4.tb]
    cases spot a d t <;> cases spot b d t <;> simp
  · rintro rfl
    refine if_pos ?_
    refine plot_ext (blendP_ok _ _ _) ⟨.nil, .nil, nofun, trivial⟩ fun d t => ?_
    rw [blendP_spot .just ha ha]
    show _ = false
    simp only [W4.tb]
    cases spot a d t <;> rfl
theorem headT_ne {a b : Plot} (h : blendP .just a b ≠ (no0, [])) : atP (blendP .just a b) (headT (blendP .just a b)) ≠ no0 := by
  have hok := blendP_ok .just a b
  revert hok h
  generalize blendP .just a b = c
  intro h hok
  obtain ⟨g, ss⟩ := c
  cases ss with
  | nil => exact fun e => h (by rw [show g = no0 from e])
  | cons s r =>
    have hts := hok.ts
    have hal := hok.alt
    have gt := turns_gt hts
    show atL g (s :: r) (if g = no0 then s.1 else s.1 - 1) ≠ no0
    by_cases c : g = no0
    · rw [if_pos c, atL_cons, if_pos (Int.le_refl _), atL_gt gt]
      intro e
      exact hal.1 (by rw [e]; exact c.symm)
    · rw [if_neg c, atL_gt]
      · exact c
      · intro x hx
        rcases List.mem_cons.mp hx with q | q
        · rw [q]; omega
        · have := gt x q; omega
theorem spotD_some {a b : Plot} (ha : POk a) (hb : POk b) {d t : Int} (h : spotD a b = some (d, t)) : ¬ spot a d t = spot b d t := by
  unfold spotD at h
  by_cases c : blendP .just a b = (no0, [])
  · rw [if_pos c] at h; cases h
  · rw [if_neg c] at h
    obtain ⟨rfl, rfl⟩ := Prod.mk.inj (Option.some.inj h)
    have hn := headT_ne c
    have hl := dayR_lies (atP_rising (blendP_ok .just a b) _) hn
    have := blendP_spot .just ha hb (dayR (atP (blendP .just a b) (headT (blendP .just a b)))) (headT (blendP .just a b))
    unfold spot at this ⊢
    rw [hl] at this
    revert this
    simp only [W4.tb]
    generalize liesIn (atP a _) _ = x
    generalize liesIn (atP b _) _ = y
    cases x <;> cases y <;> simp
end HW
end
section
set_option linter.all false
set_option autoImplicit false
/-! MJ32: spot_apart -/
namespace HW
open MI PySem
theorem oEq_P0 (a : Plot) (M : Mem) : oEq (.d (encP a)) (.d (.tup [.tup [.bl false, .tup []], .tup []])) M = .ok (.d (.bl (decide (a = (no0, []))))) M := oEq_P a (no0, []) M
theorem oEq_R0 (a : Reach) (M : Mem) : oEq (.d (encR a)) (.d (.tup [.bl false, .tup []])) M = .ok (.d (.bl (decide (a = no0)))) M := oEq_R a no0 M
theorem oNe_R0 (a : Reach) (M : Mem) : oNe (.d (encR a)) (.d (.tup [.bl false, .tup []])) M = .ok (.d (.bl (!decide (a = no0)))) M := oNe_R a no0 M
theorem deqs_S0 (l : List Step) : deqs (l.map encS) [] = decide (l = []) := by have := deqs_S l []; simpa using this
theorem oNe_S0 (l : List Step) (M : Mem) : oNe (.d (.tup (l.map encS))) (.d (.tup [])) M = .ok (.d (.bl (!decide (l = [])))) M := by
  rw [oNe_d (by simp only [pl]; exact pls_map (fun a _ => pl_S _ _)) (by simp), deq_tup, deqs_S0]
theorem oEq_S0 (l : List Step) (M : Mem) : oEq (.d (.tup (l.map encS))) (.d (.tup [])) M = .ok (.d (.bl (decide (l = [])))) M := by
  rw [oEq_d (by simp only [pl]; exact pls_map (fun a _ => pl_S _ _)) (by simp), deq_tup, deqs_S0]
theorem oNe_nn (M : Mem) : oNe (.d (.tup [])) (.d (.tup [])) M = .ok (.d (.bl false)) M := by simpa using oNe_S0 [] M
theorem oNe_ns (s : Step) (l : List Step) (M : Mem) : oNe (.d (.tup (encS s :: l.map encS))) (.d (.tup [])) M = .ok (.d (.bl true)) M := by simpa using oNe_S0 (s :: l) M
theorem oEq_nn (M : Mem) : oEq (.d (.tup [])) (.d (.tup [])) M = .ok (.d (.bl true)) M := by simpa using oEq_S0 [] M
theorem oEq_ns (s : Step) (l : List Step) (M : Mem) : oEq (.d (.tup (encS s :: l.map encS))) (.d (.tup [])) M = .ok (.d (.bl false)) M := by simpa using oEq_S0 (s :: l) M
def encSp : Option (Int × Int) → D
  | none => .non
  | some (d, t) => .tup [.int d, .int t]
section
variable {T : Tab}
theorem spot_apart_run [HasF T "edges_marked" F_edges_marked] [HasF T "truth_by" F_truth_by] [HasF T "blend" F_blend] [HasF T "parting" F_parting] [HasF T "reach_at" F_reach_at] [HasF T "plot_of" F_plot_of] [HasF T "turns_of" F_turns_of] [HasF T "blend_plots" F_blend_plots] [i : HasF T "spot_apart" F_spot_apart] (n : Nat) {L : List Int} {a b : Plot} (ha : POk a) (hb : POk b) (sa : PSub L a) (sb : PSub L b)
    (hL : L.length ≤ 1900) (hl : a.2.length + b.2.length ≤ 3900) (M : Mem) : run T (n + 4) "spot_apart" [encP a, encP b] M = .ok (.d (encSp (spotD a b))) M := by
  have hlim := lim_big
  rw [run_has i, ← Res.wp_eq]
  refine wp_run rfl ?_
  have hb1 := fun M => blend_plots_run (T := T) n .just ha hb sa sb hL hl M
  simp only [W4.s] at hb1
  simp [F_spot_apart, b_spot_apart, hb1, oEq_P0]
  have hok := blendP_ok .just a b
  have hsub := blendP_sub .just sa sb
  have hT : ∀ c, blendP .just a b = c → headT (blendP .just a b) = headT c := fun c e => by rw [e]
  have hs : ¬ blendP .just a b = (no0, []) → spotD a b = some (dayR (atP (blendP .just a b) (headT (blendP .just a b))), headT (blendP .just a b)) := fun h => if_neg h
  have hs0 : blendP .just a b = (no0, []) → spotD a b = none := fun h => if_pos h
  have hne := fun h => headT_ne (a := a) (b := b) h
  revert hok hsub hs hs0 hne
  generalize blendP .just a b = c
  intro hok hsub hs hs0 hne
  have ra : ∀ (t : Int) M, run T (n + 3) "reach_at" [encP c, .int t] M = .ok (.d (encR (atP c t))) M := fun t M => reach_at_run (n + 2) c t M
  have pa : ∀ (t : Int), atP c t ≠ no0 → ∀ M, run T (n + 3) "parting" [encR (atP c t), .tup [.bl false, .tup []]] M = .ok (.d (.int (dayR (atP c t)))) M := fun t ht M => by
    have := parting_run (T := T) n (atP c t) no0 (atP_rising hok t) .nil (by have := at_len hok hsub t; show (atP c t).2.length + 0 < 4000; omega) M
    rw [partingF_no (atP_rising hok t) ht] at this
    exact this
  by_cases h : c = (no0, [])
  · simp [h, hs0 h, encSp]
  · have h1 := hne h
    have h2 := hs h
    obtain ⟨g, ss⟩ := c
    cases ss with
    | nil =>
      have hg : ¬ g = no0 := fun e => h (by rw [e])
      have ht : headT (g, []) = 0 := rfl
      rw [ht] at h1 h2
      simp [h, oEq_R0, hg, oNe_nn, ra, pa 0 h1, h2, encSp, show (2 : Nat) ≤ lim by omega]

    | cons s r =>
      by_cases hg : g = no0
      · subst hg
        have ht : headT (no0, s :: r) = s.1 := by unfold headT; simp
        rw [ht] at h1 h2
        simp [h, oEq_R0, oNe_ns, ra, h2, pa _ h1, encSp, show (2 : Nat) ≤ lim by omega]
      · have ht : headT (g, s :: r) = s.1 - 1 := if_neg hg
        rw [ht] at h1 h2
        simp [h, oEq_R0, hg, oNe_ns, ra, h2, pa _ h1, encSp, show (2 : Nat) ≤ lim by omega]
theorem law_unlike_run [i : HasF T "_law_unlike" F__law_unlike] (n : Nat) (a b : Reach) (ha : Rising a.2) (hb : Rising b.2) (hl : a.2.length + b.2.length ≤ 1000) (M : Mem) :
    run T (n + 1) "_law_unlike" [encR a, encR b] M = .ok (.d (encR (blend .just a b))) M := by
  have hlim := lim_big
  rw [run_has i, ← Res.wp_eq]
  refine wp_run rfl ?_
  simp [F__law_unlike, b__law_unlike]
  rw [compL_map D.int rfl (fun e => !decide (e ∈ b.2)) D.int (fun x => by simp [← Res.wp_eq, oNotIn_ints]) a.2 [] (by simp; omega)]
  simp
  rw [compL_map D.int rfl (fun e => !decide (e ∈ a.2)) D.int (fun x => by simp [← Res.wp_eq, oNotIn_ints]) b.2 [] (by simp; omega)]
  have hs : sortI (a.2.filter (fun e => !decide (e ∈ b.2)) ++ b.2.filter (fun e => !decide (e ∈ a.2))) = symd a.2 b.2 := rfl
  have f1 : (a.2.filter (fun e => !decide (e ∈ b.2))).length ≤ a.2.length := List.length_filter_le _ _
  have f2 : (b.2.filter (fun e => !decide (e ∈ a.2))).length ≤ b.2.length := List.length_filter_le _ _
  have f3 : (a.2.filter (fun e => !decide (e ∈ b.2))).length + (b.2.filter (fun e => !decide (e ∈ a.2))).length ≤ lim := by omega
  simp [hs, f3, show (2 : Nat) ≤ lim by omega, just_eq ha hb, encR]
theorem law_day_run [i : HasF T "_law_day" F__law_day] (n : Nat) (r : Reach) (hn : r ≠ no0) (M : Mem) : run T (n + 1) "_law_day" [encR r] M = .ok (.d (.int (dayR r))) M := by
  have hlim := lim_big
  rw [run_has i, ← Res.wp_eq]
  refine wp_run rfl ?_
  have h1 : ∀ (l : List Int) M, oEq (.d (.tup (l.map D.int))) (.d (.tup [])) M = .ok (.d (.bl (decide (l = [])))) M := fun l M => by
    rw [oEq_d (by simp) (by simp), deq_tup]
    have := deqs_ints l []
    simp only [List.map_nil] at this
    rw [this]
  obtain ⟨f, A⟩ := r
  simp [F__law_day, b__law_day, h1]
  cases f with
  | false =>
    cases A with
    | nil => exact absurd rfl hn
    | cons e A => simp [dayR]
  | true =>
    cases A with
    | nil => simp [dayR]
    | cons e A => simp [dayR]
theorem law_due_k15_run [HasF T "_law_at" F__law_at_k09] [HasF T "_law_unlike" F__law_unlike] [HasF T "_law_day" F__law_day] [i : HasF T "_law_due" F__law_due_k15] (n : Nat) {L : List Int} {a b : Plot} (ha : POk a) (hb : POk b) (sa : PSub L a) (sb : PSub L b)
    (hL : L.length ≤ 500) (hl : a.2.length + b.2.length ≤ 3900) (M : Mem) : run T (n + 2) "_law_due" [encP a, encP b] M = .ok (.d (encSp (dueF a b))) M := by
  have hlim := lim_big
  have la : ∀ (p : Plot) (t : Int) M, run T (n + 1) "_law_at" [encP p, .int t] M = .ok (.d (encR (atP p t))) M := fun p t M => law_at_run n p t M
  have lu : ∀ (t : Int) M, run T (n + 1) "_law_unlike" [encR (atP a t), encR (atP b t)] M = .ok (.d (encR (dif a b t))) M := fun t M => law_unlike_run n _ _ (atP_rising ha t) (atP_rising hb t) (by have := at_len ha sa t; have := at_len hb sb t; omega) M
  have lu0 : ∀ M, run T (n + 1) "_law_unlike" [encR a.1, encR b.1] M = .ok (.d (encR (dif0 a b))) M := fun M => law_unlike_run n _ _ ha.g hb.g (by have := sub_len ha.g sa.g; have := sub_len hb.g sb.g; omega) M
  have ld : ∀ r, r ≠ no0 → ∀ M, run T (n + 1) "_law_day" [encR r] M = .ok (.d (.int (dayR r))) M := fun r hr M => law_day_run n r hr M
  rw [run_has i, ← Res.wp_eq]
  refine wp_run rfl ?_
  have h1 : a.2.length + b.2.length ≤ lim := by omega
  simp [F__law_due_k15, b__law_due_k15, h1]
  rw [← List.map_append]
  rw [compL_all encS rfl (fun s => .int s.1) (fun s => by simp [← Res.wp_eq]) (a.2 ++ b.2) (by rw [List.length_append]; omega)]
  have e1 : (a.2 ++ b.2).map (fun s => D.int s.1) = (turnsOf a ++ turnsOf b).map D.int := by simp [turnsOf, Function.comp_def]
  rw [e1]
  have hss := ss_len (turnsOf a ++ turnsOf b)
  have hla : (turnsOf a).length = a.2.length := by simp [turnsOf]
  have hlb : (turnsOf b).length = b.2.length := by simp [turnsOf]
  rw [List.length_append] at hss
  simp [-List.map_append]
  refine ⟨by omega, ?_⟩
  rw [show sortI (dedI (turnsOf a ++ turnsOf b)) = ss (turnsOf a ++ turnsOf b) from rfl]
  have hk : keptT a b = (ss (turnsOf a ++ turnsOf b)).filter fun t => !decide (dif a b t = dif0 a b) := rfl
  have hkl : (keptT a b).length ≤ (ss (turnsOf a ++ turnsOf b)).length := by rw [hk]; exact List.length_filter_le _ _
  revert hk hkl hss
  generalize ss (turnsOf a ++ turnsOf b) = ts
  intro hss hk hkl
  simp [lu0, oNe_R0]
  unfold dueF
  by_cases hg : dif0 a b = no0
  · simp [hg]
    rw [hg] at hk
    refine forL_wp D.int (fun l env M' => ∃ (j4 j5 : Option D) (r : Reach), env = [some (encP a), some (encP b), some (.hdl M.length), some (encR r), j4, j5, none] ∧ M' = M ++ [.lst (ts.map D.int)] ∧ l.filter (fun t => !decide (dif a b t = no0)) = keptT a b) ?_ ?_ _ _ _ ⟨_, _, no0, by first | rfl | simp, rfl, hk.symm⟩
    · rintro _ _ ⟨j4, j5, r, rfl, rfl, h2⟩
      rw [← h2]
      simp [encSp, hg]
    · rintro t l _ _ ⟨j4, j5, r, rfl, rfl, h2⟩
      simp [la, lu, oNe_R0]
      by_cases c : dif a b t = no0
      · rw [List.filter_cons_of_neg (by simp [c])] at h2
        simp [c]
        exact ⟨_, _, dif a b t, rfl, rfl, h2⟩
      · rw [List.filter_cons_of_pos (by simp [c])] at h2
        rw [← h2]
        simp [c, ld _ c, encSp, hg, show (2 : Nat) ≤ lim by omega]
  · simp [hg]
    rw [compL_map D.int (by simp [chkOk]) (fun t => !decide (dif a b t = dif0 a b)) D.int (fun x => by simp [← Res.wp_eq, la, lu]) ts [] (by simp; omega)]
    rw [← hk]
    have h3 : ∀ (l : List Int) M n, M[n]? = some (O.lst (l.map D.int)) → oEq (.d (.hdl n)) (.o (.lst [])) M = .ok (.d (.bl (decide (l = [])))) M := fun l M n h => by
      rw [oEq_l (as := l.map D.int) (bs := []) (by simp [h]) rfl (by simp) (by simp)]
      have := deqs_ints l []
      simp only [List.map_nil] at this
      rw [this]
    cases ek : keptT a b with
    | nil =>
      simp
      rw [h3 [] _ _ (by simp)]
      simp [ld _ hg, encSp, hg, show (2 : Nat) ≤ lim by omega]
    | cons t r =>
      simp
      rw [h3 (t :: r) _ _ (by simp)]
      simp [ld _ hg]
      rw [oIx_seq (ds := (t :: r).map D.int) (k := 0) (d := .int t) (by simp) (ixN_pos (by omega) (by simp)) rfl]
      simp [encSp, hg, show (2 : Nat) ≤ lim by omega]
end
end HW
end
section
set_option linter.all false
set_option autoImplicit false
/-! MJ33: law k15 -/
namespace HW
open MI PySem
theorem take_sub {A : Type} {l : List A} {k : Nat} {P : A → Prop} (h : ∀ x ∈ l, P x) : ∀ x ∈ l.take k, P x := fun x hx => h x (List.mem_of_mem_take hx)
theorem drop_sub {A : Type} {l : List A} {k : Nat} {P : A → Prop} (h : ∀ x ∈ l, P x) : ∀ x ∈ l.drop k, P x := fun x hx => h x (List.mem_of_mem_drop hx)
section
variable {T : Tab}
theorem law_made_run [i : HasF T "_law_made" F__law_made] (n : Nat) (g : Reach) (ps : List Step) (h : Nat) (hl : ps.length ≤ 1000000) (M : Mem) (hM : M[h]? = some (.lst (ps.map encS))) : run T (n + 1) "_law_made" [encR g, .hdl h] M = .ok (.d (encP (plotOf g ps))) M := by
  have hlim : 10000000 ≤ lim := by decide
  have hM2 : ∀ l : Mem, (M ++ l)[h]? = some (.lst (ps.map encS)) := fun l => get_ahead hM
  rw [run_has i, ← Res.wp_eq]
  refine wp_run rfl ?_
  simp [F__law_made, b__law_made, hM2]
  refine forL_wp encS (fun l env M' => ∃ (done : List Step) (j4 j5 : Option D), env = [some (encR g), some (.hdl h), some (.hdl M.length), some (encR (lastR g done)), j4, j5] ∧ M' = M ++ [.lst ((mkS g done).map encS)] ∧ done ++ l = ps) ?_ ?_ _ _ _ ⟨[], _, _, rfl, rfl, rfl⟩
  · rintro _ _ ⟨done, j4, j5, rfl, rfl, h1⟩
    rw [List.append_nil] at h1
    subst h1
    simp [hM2, encP, plotOf]
  · rintro s l _ _ ⟨done, j4, j5, rfl, rfl, h1⟩
    have hd : done.length ≤ ps.length := by rw [← h1]; simp
    have hm := (mkS_sub g done).length_le
    have hacc : (mkS g done).length < lim := by omega
    simp [hM2]
    split
    · rename_i hr
      refine ⟨done ++ [s], _, _, by rw [lastR_snoc]; simp; exact ⟨rfl, rfl⟩, by rw [mkS_snoc, if_pos hr, List.append_nil]; simp, by rw [← h1]; simp⟩
    · rename_i hr
      simp [hacc, show (2 : Nat) ≤ lim by omega]
      refine ⟨done ++ [s], _, _, by rw [lastR_snoc]; rfl, by rw [mkS_snoc, if_neg hr]; simp [encS], by rw [← h1]; simp⟩
def ovS (l : List Step) : List Step := l.map fun s => (s.1, overR s.2)
theorem ovS_fst (l : List Step) : (ovS l).map (·.1) = l.map (·.1) := by simp [ovS, Function.comp_def]
theorem ovS_rs {l : List Step} (h : ∀ s ∈ l, Rising s.2.2) : ∀ s ∈ ovS l, Rising s.2.2 := fun s hs => by
  obtain ⟨x, hx, rfl⟩ := List.mem_map.mp hs
  exact h x hx
theorem ovS_sub {L : List Int} {l : List Step} (h : ∀ s ∈ l, Sub L s.2) : ∀ s ∈ ovS l, Sub L s.2 := fun s hs => by
  obtain ⟨x, hx, rfl⟩ := List.mem_map.mp hs
  exact h x hx
theorem law_other_ex [HasF T "_law_made" F__law_made] [i : HasF T "_law_other" F__law_other] (n : Nat) {L : List Int} {a b : Plot} (ha : POk a) (hb : POk b) (sa : PSub L a) (sb : PSub L b) (la : a.2.length ≤ 100) (lb : b.2.length ≤ 100) (c : Int) (M : Mem) :
    ∃ p, POk p ∧ PSub L p ∧ p.2.length ≤ 100 ∧ run T (n + 2) "_law_other" [encP a, encP b, .int c] M = .ok (.d (encP p)) M := by
  have : (run T (n + 2) "_law_other" [encP a, encP b, .int c] M).wp fun x M' => Kp (M' = M ∧ ∃ p, POk p ∧ PSub L p ∧ p.2.length ≤ 100 ∧ x = .d (encP p)) := by
    have hlim := lim_big
    rw [run_has i]
    refine wp_run rfl ?_
    simp [F__law_other, b__law_other]
    have p0 := Int.emod_nonneg (c / 8) (show ((a.2.length : Int) + 1) ≠ 0 by omega)
    have p1 := Int.emod_lt_of_pos (c / 8) (show (0 : Int) < (a.2.length : Int) + 1 by omega)
    have e9 : ∀ x y : Reach, D.tup [D.bl !x.1, D.tup (x.2.map D.int)] = encR (overR x) := fun x y => rfl
    generalize hk : c / 8 % ((a.2.length : Int) + 1) = k at *
    have ct : cut (a.2.map encS) none (some k) = (a.2.take k.toNat).map encS := by rw [cut_to _ p0, List.map_take]
    have cd : cut (a.2.map encS) (some k) none = (a.2.drop k.toNat).map encS := by rw [cut_from _ p0, List.map_drop]
    have cd1 : cut (a.2.map encS) (some (k + 1)) none = (a.2.drop (k + 1).toNat).map encS := by rw [cut_from _ (by omega), List.map_drop]
    have hsb : (a.2.take k.toNat ++ a.2.drop (k + 1).toNat).Sublist a.2 := by
      have h1 : (a.2.drop (k + 1).toNat).Sublist (a.2.drop k.toNat) := by
        rw [show (k + 1).toNat = k.toNat + 1 by omega, ← List.drop_drop]
        exact List.drop_sublist _ _
      have h2 := List.Sublist.append (List.Sublist.refl (a.2.take k.toNat)) h1
      rwa [List.take_append_drop] at h2
    by_cases c1 : c % 8 = 1
    · simp [c1]
      exact ⟨rfl, a, ha, sa, la, rfl⟩
    by_cases c2 : c % 8 = 2
    · simp [c2, ct, cd1, -List.map_take, -List.map_drop, -List.take_append_drop]
      have hl1 : (a.2.take k.toNat ++ a.2.drop (k + 1).toNat).length ≤ a.2.length := hsb.length_le
      rw [List.length_append] at hl1
      refine ⟨by omega, ?_⟩
      rw [← List.map_append]
      rw [law_made_run n a.1 (a.2.take k.toNat ++ a.2.drop (k + 1).toNat) _ (by rw [List.length_append]; omega) _ (by simp)]
      simp
      exact ⟨rfl, _, plotOf_ok ha.g (List.Pairwise.sublist (hsb.map _) ha.ts) (fun s hs => ha.rs s (hsb.subset hs)), plotOf_sub sa.g (fun s hs => sa.rs s (hsb.subset hs)), by have := plotOf_len a.1 (a.2.take k.toNat ++ a.2.drop (k + 1).toNat); rw [List.length_append] at this; omega, rfl⟩
    by_cases c3 : c % 8 = 3
    · simp [c3]
      rw [e9 a.1 a.1]
      rw [law_made_run n (overR a.1) a.2 _ (by omega) _ (by simp)]
      simp
      exact ⟨rfl, _, plotOf_ok (g := overR a.1) ha.g ha.ts ha.rs, plotOf_sub (g := overR a.1) sa.g sa.rs, Nat.le_trans (plotOf_len _ _) la, rfl⟩
    by_cases c4 : c % 8 = 4
    · simp [c4, ct, cd, -List.map_take, -List.map_drop]
      rw [compL_all encS rfl (fun s => encS (s.1, overR s.2)) (fun s => by simp [← Res.wp_eq, encS, overR, encR, show (2 : Nat) ≤ lim by omega]) (a.2.take k.toNat) (by rw [List.length_take]; omega)]
      have e : ((a.2.take k.toNat).map fun s => encS (s.1, overR s.2)) = (ovS (a.2.take k.toNat)).map encS := by simp [ovS, Function.comp_def, -List.map_take]
      rw [e]
      have hle : (ovS (a.2.take k.toNat) ++ a.2.drop k.toNat).length = a.2.length := by simp [ovS]; omega
      have hle2 := hle
      rw [List.length_append] at hle2
      simp [cd, -List.map_take, -List.map_drop]
      refine ⟨by simp at hle2; omega, ?_⟩
      rw [← List.map_append]
      rw [law_made_run n a.1 (ovS (a.2.take k.toNat) ++ a.2.drop k.toNat) _ (by omega) _ (by simp)]
      simp
      refine ⟨rfl, _, plotOf_ok ha.g ?_ ?_, plotOf_sub sa.g ?_, Nat.le_trans (plotOf_len _ _) (by omega), rfl⟩
      · rw [List.map_append, ovS_fst, ← List.map_append, List.take_append_drop]
        exact ha.ts
      · intro s hs
        rcases List.mem_append.mp hs with q | q
        · exact ovS_rs (take_sub ha.rs) s q
        · exact drop_sub ha.rs s q
      · intro s hs
        rcases List.mem_append.mp hs with q | q
        · exact ovS_sub (take_sub sa.rs) s q
        · exact drop_sub sa.rs s q
    by_cases c5 : c % 8 = 5
    · simp [c5]
      rw [compL_all encS (by simp [chkOk]) (fun s => encS (s.1, overR s.2)) (fun s => by simp [← Res.wp_eq, encS, overR, encR, show (2 : Nat) ≤ lim by omega]) a.2 (by omega)]
      have e : (a.2.map fun s => encS (s.1, overR s.2)) = (ovS a.2).map encS := by simp [ovS, Function.comp_def]
      rw [e]
      have hle : (ovS a.2).length = a.2.length := by simp [ovS]
      simp
      rw [e9 a.1 a.1]
      rw [law_made_run n (overR a.1) (ovS a.2) _ (by omega) _ (by simp)]
      simp
      refine ⟨rfl, _, plotOf_ok (g := overR a.1) ha.g ?_ (ovS_rs ha.rs), plotOf_sub (g := overR a.1) sa.g (ovS_sub sa.rs), Nat.le_trans (plotOf_len _ _) (by omega), rfl⟩
      rw [ovS_fst]
      exact ha.ts
    · simp [c1, c2, c3, c4, c5]
      exact ⟨rfl, b, hb, sb, lb, rfl⟩
  obtain ⟨x, M', e, rfl, p, h1, h2, h3, rfl⟩ := Res.wp_ex this
  exact ⟨p, h1, h2, h3, e⟩
theorem law_k15_run [HasF T "edges_marked" F_edges_marked] [HasF T "truth_by" F_truth_by] [HasF T "blend" F_blend] [HasF T "parting" F_parting] [HasF T "reach_at" F_reach_at] [HasF T "plot_of" F_plot_of] [HasF T "turns_of" F_turns_of] [HasF T "blend_plots" F_blend_plots] [HasF T "spot_apart" F_spot_apart] [HasF T "_law_cell" F__law_cell] [HasF T "_law_whole" F__law_whole] [HasF T "_law_stir" F__law_stir] [HasF T "_law_reach" F__law_reach_k09] [HasF T "_law_plot" F__law_plot_k09] [HasF T "_law_scale" F__law_scale]
    [HasF T "_law_in" F__law_in_k09] [HasF T "_law_at" F__law_at_k09] [HasF T "_law_made" F__law_made] [HasF T "_law_other" F__law_other] [HasF T "_law_unlike" F__law_unlike] [HasF T "_law_day" F__law_day] [HasF T "_law_due" F__law_due_k15] [i : HasF T "law" F_law_k15] (ns : List Int) (hns : ns.length ≤ 63) (n : Nat) :
    ∃ M, run T (n + 5) "law" [scr ns] [] = .ok (.d (.bl true)) M := by
  have : (run T (n + 5) "law" [scr ns] []).wp fun x M' => Kp (x = .d (.bl true)) := by
    have hlim := lim_big
    rw [run_has i]
    refine wp_run rfl ?_
    simp [F_law_k15, b_law_k15]
    have c0 := fun M => law_cell_run (T := T) (n + 3) ns 0 M
    have c1 := fun M => law_cell_run (T := T) (n + 3) ns 1 M
    simp at c0 c1
    rw [c0]
    generalize ns[0]?.getD 0 = first
    generalize ns[1]?.getD 0 = second at *
    obtain ⟨spread, low, s1, s2, s3, s4, es⟩ := law_scale_ex (T := T) first
    simp
    rw [es (n + 3)]
    simp
    have hcl : (cut ns (some 2) (some 26)).length ≤ 24 := by unfold cut; simp [sIx]; omega
    generalize cut ns (some 2) (some 26) = cells at *
    have e0 : (cells.map D.int).take (sIx cells.length cells.length none) = cells.map D.int := by rw [sIx_none]; exact List.take_of_length_le (by simp)
    have e1 : sIx cells.length 0 none = 0 := rfl
    obtain ⟨d1, q1, q2⟩ := pickS_ints 0 2 (by decide) cells
    obtain ⟨d2, q3, q4⟩ := pickS_ints (sIx cells.length 0 (some 1)) 2 (by decide) cells
    rw [e0, e1, q1]
    obtain ⟨a, a1, a2, a3, ea⟩ := law_plot_ex (T := T) (n + 1) d1 1 48271 spread low s1 (by omega) [.lst (cells.map D.int), .lst (d1.map D.int)] rfl
    rw [ea]
    simp
    rw [e0, q3]
    obtain ⟨b0, b1, b2, b3, eb⟩ := law_plot_ex (T := T) (n + 1) d2 2 69621 spread low s1 (by omega) [.lst (cells.map D.int), .lst (d1.map D.int), .lst (d2.map D.int)] rfl
    rw [eb]
    simp
    rw [c1]
    simp
    have hL := line_len spread low
    obtain ⟨b, o1, o2, o3, eo⟩ := law_other_ex (T := T) (n + 2) a1 b1 a2 b2 (by omega) (by omega) second [.lst (cells.map D.int), .lst (d1.map D.int), .lst (d2.map D.int)]
    rw [eo]
    simp
    rw [law_due_k15_run (n + 2) a1 o1 a2 o2 (by omega) (by omega), ← spotD_due]
    simp
    rw [spot_apart_run n a1 o1 a2 o2 (by omega) (by omega)]
    simp
    have hn := spotD_none a1 o1
    have hself := (spotD_none a1 a1).mpr rfl
    have sa := fun M => spot_apart_run (T := T) n a1 a1 a2 a2 (by omega) (by omega) M
    rw [hself] at sa
    have la : ∀ (p : Plot) (t : Int) M, run T (n + 4) "_law_at" [encP p, .int t] M = .ok (.d (encR (atP p t))) M := fun p t M => law_at_run (n + 3) p t M
    have hin1 : ∀ d t M, run T (n + 4) "_law_in" [encR (atP a t), .int d] M = .ok (.d (.bl (spot a d t))) M := fun d t M => law_in_run9 (n + 3) _ _ M (by have := at_len a1 a2 t; omega)
    have hin2 : ∀ d t M, run T (n + 4) "_law_in" [encR (atP b t), .int d] M = .ok (.d (.bl (spot b d t))) M := fun d t M => law_in_run9 (n + 3) _ _ M (by have := at_len o1 o2 t; omega)
    have lw : ∀ (k : Int) M, run T (n + 4) "_law_whole" [.int k] M = .ok (.d (.bl true)) M := fun k M => by
      rw [law_whole_runD (n + 3) (.int k) M trivial]; rfl
    cases hsp : spotD a b with
    | none =>
      have hab : a = b := hn.mp hsp
      simp [encSp, hab]
      rw [hab] at sa
      simp [sa, encSp]
      rfl
    | some z =>
      obtain ⟨d, t⟩ := z
      have hab : ¬ a = b := fun e => by rw [hn.mpr e] at hsp; cases hsp
      have hdf := spotD_some a1 o1 hsp
      simp [encSp, hab, sa]
      simp [lw, la, hin1, hin2, hdf]
      rw [oEq_d (by simp [pl]) (by simp [pl])]
      simp
      rfl
  obtain ⟨x, M', e, rfl⟩ := Res.wp_ex this
  exact ⟨M', e⟩
end
end HW
end
section
set_option linter.all false
set_option autoImplicit false
/-! MJ11: moved; law k07 -/
namespace HW
open MI PySem
theorem moved_moved (a : Reach) (d e : Int) : movedBy (movedBy a d) e = movedBy a (d + e) := by
  unfold movedBy
  simp only [List.map_map, Prod.mk.injEq, true_and]
  refine List.map_congr_left fun x _ => ?_
  simp only [Function.comp]; omega
theorem moved_zero (a : Reach) : movedBy a 0 = a := by
  unfold movedBy; simp
theorem moved_back (a : Reach) (d : Int) : movedBy (movedBy a d) (-d) = a := by
  rw [moved_moved, show d + -d = 0 by omega, moved_zero]
theorem moved_blend (w : W4) {a b : Reach} (ha : Rising a.2) (hb : Rising b.2) (d : Int) : movedBy (blend w a b) d = blend w (movedBy a d) (movedBy b d) := by
  refine reach_ext (moved_rising (blend_rising w a b) d) (blend_rising w _ _) fun k => ?_
  rw [moved_lies, blend_lies w ha hb, blend_lies w (moved_rising ha d) (moved_rising hb d), moved_lies, moved_lies]
theorem moved_len (a : Reach) (d : Int) : (movedBy a d).2.length = a.2.length := by unfold movedBy; simp
section
variable {T : Tab}
theorem moved_by_run [i : HasF T "moved_by" F_moved_by] (n : Nat) (a : Reach) (d : Int) (hl : a.2.length ≤ lim) (M : Mem) : run T (n + 1) "moved_by" [encR a, .int d] M = .ok (.d (encR (movedBy a d))) M := by
  rw [run_has i, ← Res.wp_eq]
  refine wp_run rfl ?_
  simp [F_moved_by, b_moved_by]
  rw [compL_all D.int rfl (fun e => D.int (e + d)) (fun x => by simp [← Res.wp_eq]) a.2 hl]
  have e : (a.2.map fun e => D.int (e + d)) = (a.2.map (· + d)).map D.int := by simp
  rw [e]
  simp [-List.map_map, encR, movedBy]
theorem law_k07_run [HasF T "edges_marked" F_edges_marked] [HasF T "truth_by" F_truth_by] [HasF T "blend" F_blend] [HasF T "moved_by" F_moved_by] [HasF T "_law_draw" F__law_draw] [HasF T "_law_far" F__law_far] [HasF T "_law_reach" F__law_reach_k02] [HasF T "_law_whole" F__law_whole_k03] [HasF T "_law_is" F__law_is]
    [HasF T "_law_points" F__law_points] [HasF T "_law_in" F__law_in] [i : HasF T "law" F_law_k07] (ns : List Int) (hns : ns.length ≤ 63) (n : Nat) :
    ∃ M, run T (n + 4) "law" [scr ns] [] = .ok (.d (.bl true)) M := by
  have : (run T (n + 4) "law" [scr ns] []).wp fun x M' => Kp (x = .d (.bl true)) := by
    have hlim := lim_big
    rw [run_has i]
    refine wp_run rfl ?_
    have dr : ∀ (k many : Int) M, 0 < many → run T (n + 3) "_law_draw" [scr ns, .int k, .int many] M = .ok (.d (.int (lawDraw ns k many))) M := fun k many M hm => law_draw_run (n + 2) ns k many hm M
    obtain ⟨v1, _, _, f1⟩ := law_far_ex (T := T) ns 42
    obtain ⟨v2, _, _, f2⟩ := law_far_ex (T := T) ns 43
    have f1' := fun M => f1 (n + 1) M
    have f2' := fun M => f2 (n + 1) M
    simp [F_law_k07, b_law_k07]
    obtain ⟨r1, a1, a2, _, e1⟩ := law_reach_ex (T := T) ns 0 n []
    obtain ⟨r2, c1, c2, _, e2⟩ := law_reach_ex (T := T) ns 20 n []
    have mv : ∀ (a : Reach) (d : Int) M, a.2.length ≤ 100 → run T (n + 3) "moved_by" [encR a, .int d] M = .ok (.d (encR (movedBy a d))) M := fun a d M h => moved_by_run (n + 2) a d (by omega) M
    simp [e1, e2, dr, f1', f2']
    obtain ⟨d, ⟨by_, rfl⟩, he⟩ := oIx_lit (M := []) (x := .o (.lst [.int 0, .int (lawDraw ns 41 9 - 4), .int v1, .int (-v2)])) (i := lawDraw ns 40 4) (P := fun d => ∃ m : Int, d = .int m) rfl (lawDraw_nn _ _ (by decide)) (lawDraw_lt _ _ (by decide))
      (by simp only [List.forall_mem_cons]; exact ⟨⟨_, rfl⟩, ⟨_, rfl⟩, ⟨_, rfl⟩, ⟨_, rfl⟩, fun _ h => nomatch h⟩)
    have hm1 := moved_rising a1 by_
    have hm1l := moved_len r1 by_
    have l1 : r1.2.length ≤ 100 := by omega
    have l2 : r2.2.length ≤ 100 := by omega
    have li : ∀ M, run T (n + 3) "_law_is" [encR (movedBy r1 by_)] M = .ok (.d (.bl true)) M := fun M => law_is_run (n + 1) _ hm1 (by omega) M
    have ln : ∀ (r : Reach) (k : Int) M, r.2.length ≤ 100 → run T (n + 3) "_law_in" [encR r, .int k] M = .ok (.d (.bl (liesIn r k))) M := fun r k M h => law_in_run (n + 2) r k M (by omega)
    simp [he, dr, mv, l1, li]
    obtain ⟨ps, hps⟩ := law_points_ex (T := T) (n + 2) [r1] 0 [.lst [encR r1]] rfl (by simp) (fun x hx => by rw [List.mem_singleton.mp hx]; omega)
    rw [hps]
    simp
    refine forL_wp D.int (fun l3 env M' => ∃ (j7 j8 : Option D), env = [some (scr ns), some (encR r1), some (encR r2), some (D.int (lawDraw ns 40 4)), some (D.int by_), some (D.int (lawDraw ns 44 100 - 50)), some (encR (movedBy r1 by_)), j7, j8]) ?_ ?_ _ _ _ ⟨_, _, rfl⟩
    · rintro _ M ⟨j7, j8, rfl⟩
      obtain ⟨w, hw⟩ : ∃ w : W4, ∀ M, oIx (.o (.lst wordsL)) (.d (.int (lawDraw ns 45 4))) M = .ok (.d (.str w.s)) M := by
        obtain ⟨d, ⟨w, rfl⟩, e⟩ := oIx_litO (ds := wordsL) (i := lawDraw ns 45 4) (P := fun d => ∃ w : W4, d = .str w.s) (lawDraw_nn _ _ (by decide)) (lawDraw_lt _ _ (by decide)) (by
          simp only [wordsL, List.forall_mem_cons]
          exact ⟨⟨.both, rfl⟩, ⟨.either, rfl⟩, ⟨.less, rfl⟩, ⟨.just, rfl⟩, fun _ h => nomatch h⟩)
        exact ⟨w, e⟩
      simp only [wordsL] at hw
      have hb := blend_length w r1 r2 a1 c1
      have l3 : (blend w r1 r2).2.length ≤ 100 := by omega
      have bl : ∀ (a b : Reach) M, a.2.length ≤ 100 → b.2.length ≤ 100 → run T (n + 3) "blend" [encR a, encR b, .str w.s] M = .ok (.d (encR (blend w a b))) M := fun a b M h1 h2 => blend_run (n + 1) w a b (by omega) M
      simp [mv, hm1l, l1, l2, moved_back, moved_moved, Int.add_right_neg, moved_zero, dr, hw, bl, l3, moved_blend w a1 c1, moved_len]
      rfl
    · rintro p l _ M ⟨j7, j8, rfl⟩
      simp [ln, hm1l, l1, moved_lies]
      exact ⟨_, _, rfl⟩
  obtain ⟨x, M', e, rfl⟩ := Res.wp_ex this
  exact ⟨M', e⟩
end
end HW
end
section
set_option linter.all false
set_option autoImplicit false
/-! MK7: plots lifted, plainly -/
namespace HW
open MI PySem
inductive W6 where
  | moved | ever | always | known | asof | frm
  deriving DecidableEq
def W6.s : W6 → Str
  | .moved => "moved"
  | .ever => "ever"
  | .always => "always"
  | .known => "known"
  | .asof => "asof"
  | .frm => "from"
def all0 : Reach := (true, [])
def everR (r : Reach) : Reach := (!decide (r = no0), [])
def alwaysR (r : Reach) : Reach := (decide (r = all0), [])
def accL : Reach → List Step → List Step
  | _, [] => []
  | s, x :: r => (x.1, blend .either s x.2) :: accL (blend .either s x.2) r
def mapS (f : Reach → Reach) (ss : List Step) : List Step := ss.map fun s => (s.1, f s.2)
def liftP : W6 → Plot → Int → Plot
  | .moved, p, b => plotOf (movedBy p.1 b) (mapS (movedBy · b) p.2)
  | .ever, p, _ => plotOf (everR p.1) (mapS everR p.2)
  | .always, p, _ => plotOf (alwaysR p.1) (mapS alwaysR p.2)
  | .known, p, _ => plotOf p.1 (accL p.1 p.2)
  | .asof, p, b => (p.1, p.2.filter fun s => decide (s.1 ≤ b))
  | .frm, p, b => plotOf no0 ((b, atP p b) :: p.2.filter fun s => decide (b < s.1))
def liftL : W6 → List Int → Int → List Int
  | .moved, L, b => L.map (· + b)
  | _, L, _ => L
theorem liftL_len (w : W6) (L : List Int) (b : Int) : (liftL w L b).length = L.length := by cases w <;> simp [liftL]
theorem mapS_fst (f : Reach → Reach) (ss : List Step) : (mapS f ss).map (·.1) = ss.map (·.1) := by simp [mapS, Function.comp_def]
theorem mapS_all {f : Reach → Reach} {P Q : Reach → Prop} {ss : List Step} (hf : ∀ r, P r → Q (f r)) (h : ∀ s ∈ ss, P s.2) : ∀ s ∈ mapS f ss, Q s.2 := fun s hs => by
  obtain ⟨x, hx, rfl⟩ := List.mem_map.mp hs
  exact hf _ (h x hx)
theorem mapS_at (f : Reach → Reach) (t : Int) : ∀ (ss : List Step) (g : Reach), atL (f g) (mapS f ss) t = f (atL g ss t)
  | [], g => rfl
  | s :: r, g => by
    show atL (f g) ((s.1, f s.2) :: mapS f r) t = _
    rw [atL_cons, atL_cons]
    by_cases h : s.1 ≤ t
    · rw [if_pos h, if_pos h]; exact mapS_at f t r s.2
    · rw [if_neg h, if_neg h]; exact mapS_at f t r g
theorem accL_fst : ∀ (ss : List Step) (g : Reach), (accL g ss).map (·.1) = ss.map (·.1)
  | [], _ => rfl
  | s :: r, g => by
    show s.1 :: (accL _ r).map (·.1) = _
    rw [accL_fst r]; rfl
theorem accL_rising : ∀ (ss : List Step) (g : Reach), ∀ s ∈ accL g ss, Rising s.2.2
  | [], _, s, hs => nomatch hs
  | x :: r, g, s, hs => by
    rcases List.mem_cons.mp hs with q | q
    · rw [q]; exact blend_rising _ _ _
    · exact accL_rising r _ s q
theorem accL_sub {L : List Int} : ∀ (ss : List Step) (g : Reach), Sub L g → (∀ s ∈ ss, Sub L s.2) → ∀ s ∈ accL g ss, Sub L s.2
  | [], _, _, _, s, hs => nomatch hs
  | x :: r, g, hg, h, s, hs => by
    have hb : Sub L (blend .either g x.2) := blend_sub _ hg (h x List.mem_cons_self)
    rcases List.mem_cons.mp hs with q | q
    · rw [q]; exact hb
    · exact accL_sub r _ hb (fun s hs => h s (List.mem_cons_of_mem _ hs)) s q
theorem accL_len : ∀ (ss : List Step) (g : Reach), (accL g ss).length = ss.length
  | [], _ => rfl
  | s :: r, g => by
    show (accL _ r).length + 1 = _
    rw [accL_len r]; rfl
theorem acc_lies (d t : Int) : ∀ (ss : List Step) (g : Reach), Rising g.2 → (∀ s ∈ ss, Rising s.2.2) → Rising (ss.map (·.1)) →
    liesIn (atL g (accL g ss) t) d = (liesIn g d || (ss.filter fun s => decide (s.1 ≤ t)).any fun s => liesIn s.2 d)
  | [], g, _, _, _ => by simp [accL, atL]
  | x :: r, g, hg, hr, ht => by
    have ih := acc_lies d t r (blend .either g x.2) (blend_rising _ _ _) (fun s hs => hr s (List.mem_cons_of_mem _ hs)) (Rising.cons.mp ht).2
    have gt := turns_gt ht
    show liesIn (atL g ((x.1, blend .either g x.2) :: accL (blend .either g x.2) r) t) d = _
    rw [atL_cons]
    by_cases h : x.1 ≤ t
    · rw [if_pos h, List.filter_cons_of_pos (by simp [h]), List.any_cons]
      show liesIn (atL (blend .either g x.2) _ t) d = _
      rw [ih, blend_lies .either hg (hr x List.mem_cons_self)]
      simp only [W4.tb]
      rw [Bool.or_assoc]
    · have hx : ∀ s ∈ accL (blend .either g x.2) r, t < s.1 := turns_mem (P := fun y => t < y) (by
        rw [accL_fst]
        intro y hy
        obtain ⟨s, hs, rfl⟩ := List.mem_map.mp hy
        have := gt s hs
        omega)
      rw [if_neg h, atL_gt hx, List.filter_cons_of_neg (by simp [h])]
      have : (r.filter fun s => decide (s.1 ≤ t)) = [] := by
        rw [List.filter_eq_nil_iff]
        intro s hs
        have := gt s hs
        simp; omega
      rw [this]; simp
theorem asof_at (b t : Int) : ∀ (ss : List Step) (g : Reach), atL g (ss.filter fun s => decide (s.1 ≤ b)) t = atL g ss (min t b)
  | [], _ => rfl
  | x :: r, g => by
    by_cases h : x.1 ≤ b
    · rw [List.filter_cons_of_pos (by simp [h]), atL_cons, atL_cons, asof_at b t r, asof_at b t r]
      by_cases c : x.1 ≤ t
      · rw [if_pos c, if_pos (by omega)]
      · rw [if_neg c, if_neg (by omega)]
    · rw [List.filter_cons_of_neg (by simp [h]), atL_cons, if_neg (by omega), asof_at b t r]
theorem asof_alt (b : Int) : ∀ (ss : List Step) (g : Reach), Rising (ss.map (·.1)) → Alt g ss → Alt g (ss.filter fun s => decide (s.1 ≤ b))
  | [], _, _, _ => trivial
  | x :: r, g, h, ha => by
    have gt := turns_gt h
    by_cases c : x.1 ≤ b
    · rw [List.filter_cons_of_pos (by simp [c])]
      exact ⟨ha.1, asof_alt b r x.2 (Rising.cons.mp h).2 ha.2⟩
    · have : ((x :: r).filter fun s => decide (s.1 ≤ b)) = [] := by
        rw [List.filter_eq_nil_iff]
        intro s hs
        rcases List.mem_cons.mp hs with q | q
        · rw [q]; simp; omega
        · have := gt s q; simp; omega
      rw [this]; trivial
theorem from_at {b t : Int} (hb : b ≤ t) : ∀ (ss : List Step) (g : Reach), Rising (ss.map (·.1)) → atL (atL g ss b) (ss.filter fun s => decide (b < s.1)) t = atL g ss t
  | [], _, _ => rfl
  | x :: r, g, h => by
    have gt := turns_gt h
    by_cases c : x.1 ≤ b
    · rw [atL_cons, if_pos c, List.filter_cons_of_neg (by simp; omega), from_at hb r x.2 (Rising.cons.mp h).2, atL_cons, if_pos (by omega)]
    · have all : ∀ s ∈ x :: r, b < s.1 := fun s hs => by
        rcases List.mem_cons.mp hs with q | q
        · rw [q]; omega
        · have := gt s q; omega
      rw [atL_gt all, List.filter_eq_self.mpr (fun s hs => by simpa using all s hs)]
theorem from_ts {p : Plot} (h : POk p) (b : Int) : Rising (((b, atP p b) :: p.2.filter fun s => decide (b < s.1)).map (·.1)) := by
  rw [List.map_cons]
  refine Rising.cons.mpr ⟨fun x hx => ?_, List.Pairwise.sublist (List.filter_sublist.map _) h.ts⟩
  obtain ⟨s, hs, rfl⟩ := List.mem_map.mp hx
  have := (List.mem_filter.mp hs).2
  simpa using this
theorem liftP_ok (w : W6) {p : Plot} (h : POk p) (b : Int) : POk (liftP w p b) := by
  cases w with
  | moved => exact plotOf_ok (moved_rising h.g b) (by rw [mapS_fst]; exact h.ts) (mapS_all (P := fun r => Rising r.2) (Q := fun r => Rising r.2) (fun r hr => moved_rising hr b) h.rs)
  | ever => exact plotOf_ok (g := everR p.1) List.Pairwise.nil (by rw [mapS_fst]; exact h.ts) (mapS_all (P := fun r => Rising r.2) (Q := fun r => Rising r.2) (fun r hr => List.Pairwise.nil) h.rs)
  | always => exact plotOf_ok (g := alwaysR p.1) List.Pairwise.nil (by rw [mapS_fst]; exact h.ts) (mapS_all (P := fun r => Rising r.2) (Q := fun r => Rising r.2) (fun r hr => List.Pairwise.nil) h.rs)
  | known => exact plotOf_ok h.g (by rw [accL_fst]; exact h.ts) (accL_rising _ _)
  | asof => exact ⟨h.g, List.Pairwise.sublist (List.filter_sublist.map _) h.ts, fun s hs => h.rs s (List.mem_filter.mp hs).1, asof_alt b _ _ h.ts h.alt⟩
  | frm =>
    refine plotOf_ok (g := no0) List.Pairwise.nil (from_ts h b) fun s hs => ?_
    rcases List.mem_cons.mp hs with q | q
    · rw [q]; exact atP_rising h b
    · exact h.rs s (List.mem_filter.mp q).1
theorem lift_mvsub {L : List Int} {r : Reach} (b : Int) (h : Sub L r) : Sub (L.map (· + b)) (movedBy r b) := fun e he => by
  obtain ⟨x, hx, rfl⟩ := List.mem_map.mp he
  exact List.mem_map_of_mem (h x hx)
theorem liftP_sub (w : W6) {L : List Int} {p : Plot} (h : PSub L p) (b : Int) : PSub (liftL w L b) (liftP w p b) := by
  cases w with
  | moved => exact plotOf_sub (lift_mvsub b h.g) (mapS_all (P := Sub L) (Q := Sub (L.map (· + b))) (fun r hr => lift_mvsub b hr) h.rs)
  | ever => exact plotOf_sub (fun e he => nomatch he) (mapS_all (P := Sub L) (Q := Sub L) (fun r hr e he => nomatch he) h.rs)
  | always => exact plotOf_sub (fun e he => nomatch he) (mapS_all (P := Sub L) (Q := Sub L) (fun r hr e he => nomatch he) h.rs)
  | known => exact plotOf_sub h.g (accL_sub _ _ h.g h.rs)
  | asof => exact ⟨h.g, fun s hs => h.rs s (List.mem_filter.mp hs).1⟩
  | frm =>
    refine plotOf_sub (fun e he => nomatch he) fun s hs => ?_
    rcases List.mem_cons.mp hs with q | q
    · rw [q]; exact h.at b
    · exact h.rs s (List.mem_filter.mp q).1
theorem liftP_len (w : W6) (p : Plot) (b : Int) : (liftP w p b).2.length ≤ p.2.length + 1 := by
  cases w with
  | moved => exact Nat.le_trans (plotOf_len _ _) (by simp [mapS])
  | ever => exact Nat.le_trans (plotOf_len _ _) (by simp [mapS])
  | always => exact Nat.le_trans (plotOf_len _ _) (by simp [mapS])
  | known => exact Nat.le_trans (plotOf_len _ _) (by rw [accL_len]; omega)
  | asof => exact Nat.le_trans (List.length_filter_le _ _) (by omega)
  | frm => exact Nat.le_trans (plotOf_len _ _) (by have := List.length_filter_le (fun s : Step => decide (b < s.1)) p.2; simp only [List.length_cons]; omega)
/-! ### at a turn -/
section
variable {p : Plot} (h : POk p) (b t : Int)
include h
theorem lift_moved : atP (liftP .moved p b) t = movedBy (atP p t) b := by
  unfold liftP
  rw [plotOf_at (by rw [mapS_fst]; exact h.ts)]
  exact mapS_at (movedBy · b) t p.2 p.1
theorem lift_ever : atP (liftP .ever p b) t = everR (atP p t) := by
  unfold liftP
  rw [plotOf_at (by rw [mapS_fst]; exact h.ts), mapS_at]; rfl
theorem lift_always : atP (liftP .always p b) t = alwaysR (atP p t) := by
  unfold liftP
  rw [plotOf_at (by rw [mapS_fst]; exact h.ts), mapS_at]; rfl
def upTo (p : Plot) (t : Int) : List Reach := p.1 :: (p.2.filter fun s => decide (s.1 ≤ t)).map (·.2)
theorem lift_known (d : Int) : spot (liftP .known p b) d t = (upTo p t).any fun r => liesIn r d := by
  unfold spot liftP
  rw [plotOf_at (by rw [accL_fst]; exact h.ts), acc_lies d t _ _ h.g h.rs h.ts]
  unfold upTo
  rw [List.any_cons, List.any_map]; rfl
theorem lift_asof : atP (liftP .asof p b) t = atP p (min t b) := asof_at b t p.2 p.1
theorem lift_from : atP (liftP .frm p b) t = if b ≤ t then atP p t else no0 := by
  unfold liftP
  rw [plotOf_at (from_ts h b), atL_cons]
  by_cases c : b ≤ t
  · rw [if_pos c, if_pos c]; exact from_at c p.2 p.1 h.ts
  · rw [if_neg c, if_neg c]
    refine atL_gt fun s hs => ?_
    have := (List.mem_filter.mp hs).2
    simp at this; omega
theorem lift_known_ex (d : Int) : spot (liftP .known p b) d t = true ↔ ∃ t', t' ≤ t ∧ spot p d t' = true := by
  rw [lift_known h]
  unfold upTo
  rw [List.any_cons, Bool.or_eq_true, List.any_eq_true]
  constructor
  · rintro (q | ⟨r, hr, q⟩)
    · obtain ⟨k, hk⟩ := low_turn p.2
      refine ⟨min k t, by omega, ?_⟩
      unfold spot
      rw [show atP p (min k t) = p.1 from atL_gt fun s hs => by have := hk s hs; omega]
      exact q
    · obtain ⟨s, hs, rfl⟩ := List.mem_map.mp hr
      obtain ⟨h1, h2⟩ := List.mem_filter.mp hs
      refine ⟨s.1, by simpa using h2, ?_⟩
      unfold spot
      have : atP p s.1 = s.2 := by
        have key : ∀ (ss : List Step) (g : Reach), Rising (ss.map (·.1)) → s ∈ ss → atL g ss s.1 = s.2 := by
          intro ss
          induction ss with
          | nil => intro g _ hs; cases hs
          | cons x r ih =>
            intro g hr hs
            have gt := turns_gt hr
            rw [atL_cons]
            rcases List.mem_cons.mp hs with q | q
            · subst q; rw [if_pos (Int.le_refl _), atL_gt gt]
            · have := gt s q
              rw [if_pos (by omega)]
              exact ih _ (Rising.cons.mp hr).2 q
        exact key p.2 p.1 h.ts h1
      rw [this]; exact q
  · rintro ⟨t', ht, q⟩
    unfold spot atP at q
    rcases atL_mem p.1 t' p.2 with e | ⟨s, hs, h1, e⟩
    · rw [e] at q; exact .inl q
    · rw [e] at q
      exact .inr ⟨s.2, List.mem_map_of_mem (List.mem_filter.mpr ⟨hs, by simp; omega⟩), q⟩
end
/-! ### equal plots -/
theorem lies_all0 (d : Int) : liesIn all0 d = true := rfl
theorem lies_no0 (d : Int) : liesIn no0 d = false := rfl
theorem lies_ever (r : Reach) (d : Int) : liesIn (everR r) d = !decide (r = no0) := rfl
theorem lies_always (r : Reach) (d : Int) : liesIn (alwaysR r) d = decide (r = all0) := rfl
theorem eq_no0 {r : Reach} (h : Rising r.2) : r = no0 ↔ ∀ d, liesIn r d = false :=
  ⟨fun e d => by rw [e]; rfl, fun q => reach_ext h .nil q⟩
theorem eq_all0 {r : Reach} (h : Rising r.2) : r = all0 ↔ ∀ d, liesIn r d = true :=
  ⟨fun e d => by rw [e]; rfl, fun q => reach_ext h .nil q⟩
theorem either_no0 {A B : Reach} (ha : Rising A.2) (hb : Rising B.2) : blend .either A B = no0 ↔ A = no0 ∧ B = no0 := by
  rw [eq_no0 (blend_rising _ _ _), eq_no0 ha, eq_no0 hb]
  constructor
  · intro q
    exact ⟨fun d => by have := q d; rw [blend_lies .either ha hb] at this; simp only [W4.tb, Bool.or_eq_false_iff] at this; exact this.1,
      fun d => by have := q d; rw [blend_lies .either ha hb] at this; simp only [W4.tb, Bool.or_eq_false_iff] at this; exact this.2⟩
  · rintro ⟨q1, q2⟩ d
    rw [blend_lies .either ha hb, q1, q2]; rfl
theorem less_no0 {A : Reach} (ha : Rising A.2) : blend .less all0 A = no0 ↔ A = all0 := by
  have h0 : Rising all0.2 := .nil
  rw [eq_no0 (blend_rising _ _ _), eq_all0 ha]
  refine forall_congr' fun d => ?_
  rw [blend_lies .less h0 ha, lies_all0]
  simp only [W4.tb]
  cases liesIn A d <;> simp
theorem just_no0 {A : Reach} (ha : Rising A.2) : blend .just A no0 = A := by
  refine reach_ext (blend_rising _ _ _) ha fun d => ?_
  rw [blend_lies .just ha (b := no0) .nil, lies_no0]
  simp only [W4.tb]
  cases liesIn A d <;> rfl
def allP : Plot := (all0, [])
theorem allP_ok : POk allP := ⟨.nil, .nil, nofun, trivial⟩
theorem allP_at (t : Int) : atP allP t = all0 := rfl
theorem lift_blend {w : W6} (hw : w ≠ .always) {p q : Plot} (hp : POk p) (hq : POk q) (a : Int) : liftP w (blendP .either p q) a = blendP .either (liftP w p a) (liftP w q a) := by
  have hb := blendP_ok .either p q
  refine plot_ext (liftP_ok w hb a) (blendP_ok _ _ _) fun d t => ?_
  rw [blendP_spot .either (liftP_ok w hp a) (liftP_ok w hq a)]
  simp only [W4.tb]
  cases w with
  | always => exact absurd rfl hw
  | moved =>
    unfold spot
    rw [lift_moved hb, lift_moved hp, lift_moved hq, moved_lies, moved_lies, moved_lies]
    exact blendP_spot .either hp hq (d - a) t
  | ever =>
    unfold spot
    rw [lift_ever hb, lift_ever hp, lift_ever hq, lies_ever, lies_ever, lies_ever, blendP_at]
    have := either_no0 (atP_rising hp t) (atP_rising hq t)
    revert this
    generalize atP p t = A
    generalize atP q t = B
    intro this
    have e : decide (blend .either A B = no0) = decide (A = no0 ∧ B = no0) := decide_eq_decide.mpr this
    rw [e]
    by_cases c1 : A = no0 <;> by_cases c2 : B = no0 <;> simp [c1, c2]
  | known =>
    rw [Bool.eq_iff_iff, Bool.or_eq_true, lift_known_ex hb, lift_known_ex hp, lift_known_ex hq]
    constructor
    · rintro ⟨t', h1, h2⟩
      rw [blendP_spot .either hp hq] at h2
      simp only [W4.tb, Bool.or_eq_true] at h2
      exact h2.elim (fun z => .inl ⟨t', h1, z⟩) fun z => .inr ⟨t', h1, z⟩
    · rintro (⟨t', h1, h2⟩ | ⟨t', h1, h2⟩)
      · exact ⟨t', h1, by rw [blendP_spot .either hp hq, h2]; rfl⟩
      · exact ⟨t', h1, by rw [blendP_spot .either hp hq, h2]; simp [W4.tb]⟩
  | asof =>
    unfold spot
    rw [lift_asof hb, lift_asof hp, lift_asof hq]
    exact blendP_spot .either hp hq d _
  | frm =>
    unfold spot
    rw [lift_from hb, lift_from hp, lift_from hq]
    by_cases c : a ≤ t
    · rw [if_pos c, if_pos c, if_pos c]; exact blendP_spot .either hp hq d _
    · rw [if_neg c, if_neg c, if_neg c]; rfl
theorem lift_twice {w : W6} (hw : w ≠ .moved) {p : Plot} (hp : POk p) (a : Int) : liftP w (liftP w p a) a = liftP w p a := by
  have hl := liftP_ok w hp a
  refine plot_ext (liftP_ok w hl a) hl fun d t => ?_
  cases w with
  | moved => exact absurd rfl hw
  | ever =>
    unfold spot
    rw [lift_ever hl, lift_ever hp, lies_ever, lies_ever]
    unfold everR
    by_cases c : atP p t = no0 <;> simp [c, no0]
  | always =>
    unfold spot
    rw [lift_always hl, lift_always hp, lies_always, lies_always]
    unfold alwaysR
    by_cases c : atP p t = all0 <;> simp [c, all0]
  | known =>
    rw [Bool.eq_iff_iff, lift_known_ex hl, lift_known_ex hp]
    constructor
    · rintro ⟨t', h1, h2⟩
      obtain ⟨t2, h3, h4⟩ := (lift_known_ex hp a t' d).mp h2
      exact ⟨t2, by omega, h4⟩
    · rintro ⟨t', h1, h2⟩
      exact ⟨t, Int.le_refl _, (lift_known_ex hp a t d).mpr ⟨t', h1, h2⟩⟩
  | asof =>
    unfold spot
    rw [lift_asof hl, lift_asof hp, lift_asof hp, show min (min t a) a = min t a by omega]
  | frm =>
    unfold spot
    rw [lift_from hl]
    by_cases c : a ≤ t
    · rw [if_pos c]
    · rw [if_neg c, lift_from hp, if_neg c]
theorem always_spared {p : Plot} (hp : POk p) (a b : Int) : liftP .always p a = blendP .less allP (liftP .ever (blendP .less allP p) b) := by
  have hb := blendP_ok .less allP p
  have hl := liftP_ok .ever hb b
  refine plot_ext (liftP_ok .always hp a) (blendP_ok _ _ _) fun d t => ?_
  rw [blendP_spot .less allP_ok hl]
  unfold spot
  rw [lift_ever hb, lift_always hp, lies_ever, lies_always, allP_at, lies_all0, blendP_at, allP_at]
  have := less_no0 (atP_rising hp t)
  simp only [W4.tb]
  have e : decide (blend .less all0 (atP p t) = no0) = decide (atP p t = all0) := decide_eq_decide.mpr this
  rw [e]
  simp
theorem from_from {p : Plot} (hp : POk p) (a b : Int) : liftP .frm (liftP .frm p a) b = liftP .frm p (max a b) := by
  refine plot_ext_at (liftP_ok _ (liftP_ok _ hp _) _) (liftP_ok _ hp _) fun t => ?_
  rw [lift_from (liftP_ok _ hp _), lift_from hp, lift_from hp]
  by_cases c1 : a ≤ t <;> by_cases c2 : b ≤ t
  · rw [if_pos c1, if_pos c2, if_pos (by omega)]
  · rw [if_neg c2, if_neg (by omega)]
  · rw [if_pos c2, if_neg c1, if_neg (by omega)]
  · rw [if_neg c2, if_neg (by omega)]
theorem asof_asof {p : Plot} (hp : POk p) (a b : Int) : liftP .asof (liftP .asof p a) b = liftP .asof p (min a b) := by
  refine plot_ext_at (liftP_ok _ (liftP_ok _ hp _) _) (liftP_ok _ hp _) fun t => ?_
  rw [lift_asof (liftP_ok _ hp _), lift_asof hp, lift_asof hp, show min (min t b) a = min t (min a b) by omega]
theorem movedBy_two (r : Reach) (a b : Int) : movedBy (movedBy r a) b = movedBy r (a + b) := by
  unfold movedBy
  simp only [List.map_map]
  congr 1
  refine List.map_congr_left fun x _ => ?_
  show x + a + b = x + (a + b)
  omega
theorem movedBy_0 (r : Reach) : movedBy r 0 = r := by
  unfold movedBy
  have : r.2.map (· + 0) = r.2 := by simp
  rw [this]
theorem lift_back2 {p : Plot} (hp : POk p) (a b : Int) : liftP .moved (liftP .moved p a) b = liftP .moved p (a + b) := by
  refine plot_ext_at (liftP_ok _ (liftP_ok _ hp _) _) (liftP_ok _ hp _) fun t => ?_
  rw [lift_moved (liftP_ok _ hp _), lift_moved hp, lift_moved hp, movedBy_two]
theorem lift_back {p : Plot} (hp : POk p) (a : Int) : liftP .moved (liftP .moved p a) (0 - a) = p := by
  refine plot_ext_at (liftP_ok _ (liftP_ok _ hp _) _) hp fun t => ?_
  rw [lift_moved (liftP_ok _ hp _), lift_moved hp, movedBy_two, show a + (0 - a) = 0 by omega, movedBy_0]
theorem alike_lift (w : W6) {p q : Plot} (hp : POk p) (hq : POk q) {a : Int} (h : ∀ t, t ≤ a → atP p t = atP q t) (b : Int) : ∀ t, t ≤ a → atP (liftP w p b) t = atP (liftP w q b) t := fun t ht => by
  cases w with
  | moved => rw [lift_moved hp, lift_moved hq, h t ht]
  | ever => rw [lift_ever hp, lift_ever hq, h t ht]
  | always => rw [lift_always hp, lift_always hq, h t ht]
  | known =>
    refine reach_ext (atP_rising (liftP_ok _ hp _) t) (atP_rising (liftP_ok _ hq _) t) fun d => ?_
    have h1 := lift_known_ex hp b t d
    have h2 := lift_known_ex hq b t d
    unfold spot at h1 h2
    rw [Bool.eq_iff_iff, h1, h2]
    constructor
    · rintro ⟨t', q1, q2⟩
      exact ⟨t', q1, by rw [← h t' (by omega)]; exact q2⟩
    · rintro ⟨t', q1, q2⟩
      exact ⟨t', q1, by rw [h t' (by omega)]; exact q2⟩
  | asof => rw [lift_asof hp, lift_asof hq, h _ (by omega)]
  | frm => rw [lift_from hp, lift_from hq, h t ht]
theorem alike_asof {p q : Plot} (hp : POk p) (hq : POk q) {a : Int} (h : ∀ t, t ≤ a → atP p t = atP q t) : liftP .asof p a = liftP .asof q a :=
  plot_ext_at (liftP_ok _ hp _) (liftP_ok _ hq _) fun t => by rw [lift_asof hp, lift_asof hq, h _ (by omega)]
theorem later_alike {p q : Plot} (hp : POk p) (hq : POk q) (a : Int) : ∀ t, t ≤ a → atP (blendP .just p (liftP .frm q (a + 1))) t = atP p t := fun t ht => by
  rw [blendP_at, lift_from hq, if_neg (by omega), just_no0 (atP_rising hp t)]
end HW
end
section
set_option linter.all false
set_option autoImplicit false
/-! MJ34: lifts -/
namespace HW
open MI PySem
theorem encS_mk (t : Int) (r : Reach) : D.tup [.int t, encR r] = encS (t, r) := rfl
theorem oEq_R1 (a : Reach) (M : Mem) : oEq (.d (encR a)) (.d (.tup [.bl true, .tup []])) M = .ok (.d (.bl (decide (a = all0)))) M := oEq_R a all0 M
section
variable {T : Tab}
theorem moved_plot_run [HasF T "moved_by" F_moved_by] [HasF T "plot_of" F_plot_of] [i : HasF T "moved_plot" F_moved_plot] (n : Nat) (p : Plot) (b : Int) (hg : p.1.2.length ≤ lim) (hr : ∀ s ∈ p.2, s.2.2.length ≤ lim) (hl : p.2.length ≤ 1000000) (M : Mem) :
    run T (n + 2) "moved_plot" [encP p, .int b] M = .ok (.d (encP (liftP .moved p b))) M := by
  have hlim : 10000000 ≤ lim := by decide
  rw [run_has i, ← Res.wp_eq]
  refine wp_run rfl ?_
  simp [F_moved_plot, b_moved_plot]
  rw [moved_by_run n _ b hg]
  simp
  rw [compL_allM encS rfl (fun s => encS (s.1, movedBy s.2 b)) p.2 (fun s hs => by simp [moved_by_run n s.2 b (hr s hs), show (2 : Nat) ≤ lim by omega, ← Res.wp_eq, encS]) (Nat.le_trans hl lim_big)]
  have e : (p.2.map fun s => encS (s.1, movedBy s.2 b)) = (mapS (movedBy · b) p.2).map encS := by simp [mapS, Function.comp_def]
  rw [e]
  simp
  rw [plot_of_run n _ (mapS (movedBy · b) p.2) _ (by simp [mapS]; omega) _ (by simp)]
  simp [liftP]
theorem ever_plot_run [HasF T "plot_of" F_plot_of] [i : HasF T "ever_plot" F_ever_plot] (n : Nat) (p : Plot) (hl : p.2.length ≤ 1000000) (b : Int) (M : Mem) :
    run T (n + 2) "ever_plot" [encP p] M = .ok (.d (encP (liftP .ever p b))) M := by
  have hlim : 10000000 ≤ lim := by decide
  rw [run_has i, ← Res.wp_eq]
  refine wp_run rfl ?_
  simp [F_ever_plot, b_ever_plot]
  rw [compL_all encS rfl (fun s => encS (s.1, everR s.2)) (fun s => by simp [← Res.wp_eq, oNe_R0, show (2 : Nat) ≤ lim by omega]; rfl) p.2 (Nat.le_trans hl lim_big)]
  have e : (p.2.map fun s => encS (s.1, everR s.2)) = (mapS everR p.2).map encS := by simp [mapS, Function.comp_def]
  rw [e]
  simp [oNe_R0]
  have e2 : D.tup [.bl (!decide (p.1 = no0)), .tup []] = encR (everR p.1) := rfl
  rw [e2, plot_of_run n _ (mapS everR p.2) _ (by simp [mapS]; omega) _ (by simp)]
  simp [liftP]
theorem always_plot_run [HasF T "plot_of" F_plot_of] [i : HasF T "always_plot" F_always_plot] (n : Nat) (p : Plot) (hl : p.2.length ≤ 1000000) (b : Int) (M : Mem) :
    run T (n + 2) "always_plot" [encP p] M = .ok (.d (encP (liftP .always p b))) M := by
  have hlim : 10000000 ≤ lim := by decide
  rw [run_has i, ← Res.wp_eq]
  refine wp_run rfl ?_
  simp [F_always_plot, b_always_plot]
  rw [compL_all encS rfl (fun s => encS (s.1, alwaysR s.2)) (fun s => by simp [← Res.wp_eq, oEq_R1, show (2 : Nat) ≤ lim by omega]; rfl) p.2 (Nat.le_trans hl lim_big)]
  have e : (p.2.map fun s => encS (s.1, alwaysR s.2)) = (mapS alwaysR p.2).map encS := by simp [mapS, Function.comp_def]
  rw [e]
  simp [oEq_R1]
  have e2 : D.tup [.bl (decide (p.1 = all0)), .tup []] = encR (alwaysR p.1) := rfl
  rw [e2, plot_of_run n _ (mapS alwaysR p.2) _ (by simp [mapS]; omega) _ (by simp)]
  simp [liftP]
theorem accL_snoc : ∀ (l : List Step) (g : Reach) (s : Step), accL g (l ++ [s]) = accL g l ++ [(s.1, blend .either (l.foldl (fun r x => blend .either r x.2) g) s.2)]
  | [], _, _ => rfl
  | x :: l, g, s => by
    show (x.1, _) :: accL _ (l ++ [s]) = _
    rw [accL_snoc l]; rfl
theorem known_plot_run [HasF T "edges_marked" F_edges_marked] [HasF T "truth_by" F_truth_by] [HasF T "blend" F_blend] [HasF T "plot_of" F_plot_of] [i : HasF T "known_plot" F_known_plot] (n : Nat) {L : List Int} (p : Plot) (hp : POk p) (hs : PSub L p) (hL : L.length ≤ 1900) (hl : p.2.length ≤ 1000000) (b : Int) (M : Mem) :
    run T (n + 3) "known_plot" [encP p] M = .ok (.d (encP (liftP .known p b))) M := by
  have hlim : 10000000 ≤ lim := by decide
  rw [run_has i, ← Res.wp_eq]
  refine wp_run rfl ?_
  simp [F_known_plot, b_known_plot]
  have br : ∀ a b : Reach, Rising a.2 → Rising b.2 → Sub L a → Sub L b → ∀ M, run T (n + 2) "blend" [encR a, encR b, .str "either"] M = .ok (.d (encR (blend .either a b))) M := fun a b h1 h2 h3 h4 M => blend_run n .either a b (by have := sub_len h1 h3; have := sub_len h2 h4; omega) M
  refine forL_wp encS (fun l env M' => ∃ (done : List Step) (j3 j4 : Option D), env = [some (encP p), some (encR (done.foldl (fun r x => blend .either r x.2) p.1)), some (.hdl M.length), j3, j4] ∧ M' = M ++ [.lst ((accL p.1 done).map encS)] ∧ done ++ l = p.2 ∧ Rising (done.foldl (fun r x => blend .either r x.2) p.1).2 ∧ Sub L (done.foldl (fun r x => blend .either r x.2) p.1)) ?_ ?_ _ _ _ ⟨[], _, _, rfl, rfl, rfl, hp.g, hs.g⟩
  · rintro _ _ ⟨done, j3, j4, rfl, rfl, h1, h2, h3⟩
    rw [List.append_nil] at h1
    subst h1
    simp
    rw [plot_of_run (n + 1) _ (accL p.1 p.2) _ (by rw [accL_len]; omega) _ (by simp)]
    simp [liftP]
  · rintro s l _ _ ⟨done, j3, j4, rfl, rfl, h1, h2, h3⟩
    have hm : s ∈ p.2 := by rw [← h1]; simp
    have hd : done.length ≤ p.2.length := by rw [← h1]; simp
    have hacc : (accL p.1 done).length < lim := by rw [accL_len]; omega
    simp [br _ _ h2 (hp.rs s hm) h3 (hs.rs s hm), hacc, show (2 : Nat) ≤ lim by omega]
    refine ⟨done ++ [s], some (.int s.1), some (encR s.2), ?_, ?_, by rw [← h1]; simp, ?_, ?_⟩
    · rw [List.foldl_append]; rfl
    · rw [accL_snoc]; simp [encS]
    · rw [List.foldl_append]; exact blend_rising _ _ _
    · rw [List.foldl_append]; exact blend_sub _ h3 (hs.rs s hm)
theorem asof_plot_run [i : HasF T "asof_plot" F_asof_plot] (n : Nat) (p : Plot) (b : Int) (hl : p.2.length ≤ 1000000) (M : Mem) :
    run T (n + 1) "asof_plot" [encP p, .int b] M = .ok (.d (encP (liftP .asof p b))) M := by
  have hlim : 10000000 ≤ lim := by decide
  rw [run_has i, ← Res.wp_eq]
  refine wp_run rfl ?_
  simp [F_asof_plot, b_asof_plot]
  rw [compL_map encS rfl (fun s => decide (s.1 ≤ b)) encS (fun s => by simp [← Res.wp_eq]) p.2 [] (by simp; exact Nat.le_trans hl lim_big)]
  simp [show (2 : Nat) ≤ lim by omega, liftP, encP]
theorem from_plot_run [HasF T "reach_at" F_reach_at] [HasF T "plot_of" F_plot_of] [i : HasF T "from_plot" F_from_plot] (n : Nat) (p : Plot) (b : Int) (hl : p.2.length ≤ 900000) (M : Mem) :
    run T (n + 2) "from_plot" [encP p, .int b] M = .ok (.d (encP (liftP .frm p b))) M := by
  have hlim : 10000000 ≤ lim := by decide
  have hf := List.length_filter_le (fun s : Step => decide (b < s.1)) p.2
  rw [run_has i, ← Res.wp_eq]
  refine wp_run rfl ?_
  simp [F_from_plot, b_from_plot]
  rw [reach_at_run n]
  simp [show (1 : Nat) ≤ lim by omega, show (2 : Nat) ≤ lim by omega]
  rw [compL_map encS rfl (fun s => decide (b < s.1)) encS (fun s => by simp [← Res.wp_eq]) p.2 [] (by simp; omega)]
  simp
  refine ⟨by omega, ?_⟩
  have := plot_of_run (T := T) n no0 ((b, atP p b) :: p.2.filter fun s => decide (b < s.1)) M.length (by simp only [List.length_cons]; omega) (M ++ [.lst (((b, atP p b) :: p.2.filter fun s => decide (b < s.1)).map encS)]) (by simp)
  simp [encR, no0] at this
  simp [encR, no0, encS] at this ⊢
  rw [this]
  simp [liftP, no0]
end
end HW
end
section
set_option linter.all false
set_option autoImplicit false
/-! MJ35: law k16 -/
namespace HW
open MI PySem
def OddL (s : Str) : Prop := okS s = true ∧ s ≠ "moved" ∧ s ≠ "ever" ∧ s ≠ "always" ∧ s ≠ "known" ∧ s ≠ "asof" ∧ s ≠ "from"
section
variable {T : Tab}
theorem lift_run [HasF T "edges_marked" F_edges_marked] [HasF T "truth_by" F_truth_by] [HasF T "blend" F_blend] [HasF T "moved_by" F_moved_by] [HasF T "reach_at" F_reach_at] [HasF T "plot_of" F_plot_of] [HasF T "moved_plot" F_moved_plot] [HasF T "ever_plot" F_ever_plot] [HasF T "always_plot" F_always_plot] [HasF T "known_plot" F_known_plot] [HasF T "asof_plot" F_asof_plot] [HasF T "from_plot" F_from_plot] [i : HasF T "lift" F_lift]
    (n : Nat) (w : W6) {L : List Int} {p : Plot} (hp : POk p) (hs : PSub L p) (hL : L.length ≤ 1900) (hl : p.2.length ≤ 900000) (b : Int) (M : Mem) : run T (n + 4) "lift" [encP p, .str w.s, .int b] M = .ok (.d (encP (liftP w p b))) M := by
  have hlim : 10000000 ≤ lim := by decide
  rw [run_has i, ← Res.wp_eq]
  refine wp_run rfl ?_
  have r1 := fun M => moved_plot_run (T := T) (n + 1) p b (by have := sub_len hp.g hs.g; omega) (fun s h => by have := sub_len (hp.rs s h) (hs.rs s h); omega) (by omega) M
  have r2 := fun M => ever_plot_run (T := T) (n + 1) p (by omega) b M
  have r3 := fun M => always_plot_run (T := T) (n + 1) p (by omega) b M
  have r4 := fun M => known_plot_run (T := T) n p hp hs hL (by omega) b M
  have r5 := fun M => asof_plot_run (T := T) (n + 2) p b (by omega) M
  have r6 := fun M => from_plot_run (T := T) (n + 1) p b hl M
  cases w <;> simp [F_lift, b_lift, W6.s, r1, r2, r3, r4, r5, r6]
theorem lift_odd [i : HasF T "lift" F_lift] (n : Nat) (s : Str) (hs : OddL s) (p : Plot) (b : Int) (M : Mem) : run T (n + 1) "lift" [encP p, .str s, .int b] M = .err "NoWord" M := by
  obtain ⟨h0, h1, h2, h3, h4, h5, h6⟩ := hs
  rw [run_has i, ← Res.wpx_err]
  refine wpx_run rfl ?_
  simp [F_lift, b_lift, h0, h1, h2, h3, h4, h5, h6]
theorem law_refused_k16_run [HasF T "lift" F_lift] [i : HasF T "_law_refused" F__law_refused_k16] (n : Nat) (s : Str) (hs : OddL s) (p : Plot) (b : Int) (M : Mem) : run T (n + 2) "_law_refused" [encP p, .str s, .int b] M = .ok (.d (.bl true)) M := by
  have hlim := lim_big
  rw [run_has i, ← Res.wp_eq]
  refine wp_run rfl ?_
  simp [F__law_refused_k16, b__law_refused_k16]
  rw [lift_odd n s hs]
  have hin : ("NoWord" : Str) ∈ exsAll := by decide
  simp [hin, suSem_in hin, show (3 : Nat) ≤ lim by omega]
  rw [oEq_l (as := [D.bl true, D.bl true, D.bl false]) (bs := [D.bl true, D.bl true, D.bl false]) (by simp) rfl (by simp) (by simp)]
  simp
theorem law_up_to_run [i : HasF T "_law_up_to" F__law_up_to] (n : Nat) (p : Plot) (t : Int) (hl : p.2.length ≤ 900000) (M : Mem) : run T (n + 1) "_law_up_to" [encP p, .int t] M = .ok (.o (.lst ((upTo p t).map encR))) M := by
  have hlim : 10000000 ≤ lim := by decide
  have hf := List.length_filter_le (fun s : Step => decide (s.1 ≤ t)) p.2
  rw [run_has i, ← Res.wp_eq]
  refine wp_run rfl ?_
  simp [F__law_up_to, b__law_up_to, show (1 : Nat) ≤ lim by omega]
  rw [compL_map encS rfl (fun s => decide (s.1 ≤ t)) (fun s => encR s.2) (fun s => by simp [← Res.wp_eq]) p.2 [] (by simp; omega)]
  simp [upTo, Function.comp_def]
  exact ⟨by omega, bels_mapT (enc := fun s : Step => encR s.2) _ _ fun _ => bel_encR _ _⟩
theorem law_says_run [HasF T "_law_in" F__law_in_k09] [HasF T "_law_at" F__law_at_k09] [HasF T "_law_up_to" F__law_up_to] [i : HasF T "_law_says" F__law_says] (n : Nat) (w : W6) {L : List Int} {p : Plot} (hp : POk p) (hs : PSub L p) (hL : L.length ≤ 1900) (hl : p.2.length ≤ 900000) (b d t : Int) (M : Mem) :
    run T (n + 2) "_law_says" [encP p, .str w.s, .int b, .int d, .int t] M = .ok (.d (.bl (spot (liftP w p b) d t))) M := by
  have hlim : 10000000 ≤ lim := by decide
  rw [run_has i, ← Res.wp_eq]
  refine wp_run rfl ?_
  have la : ∀ (t : Int) M, run T (n + 1) "_law_at" [encP p, .int t] M = .ok (.d (encR (atP p t))) M := fun t M => law_at_run n p t M
  have hin : ∀ d t M, run T (n + 1) "_law_in" [encR (atP p t), .int d] M = .ok (.d (.bl (spot p d t))) M := fun d t M => law_in_run9 n _ _ M (by have := at_len hp hs t; omega)
  cases w with
  | moved =>
    have e : spot (liftP .moved p b) d t = spot p (d - b) t := by unfold spot; rw [lift_moved hp, moved_lies]
    simp [F__law_says, b__law_says, W6.s, la, hin, e]
  | ever =>
    have e : spot (liftP .ever p b) d t = !decide (atP p t = no0) := by unfold spot; rw [lift_ever hp, lies_ever]
    simp [F__law_says, b__law_says, W6.s, la, hin, e, oNe_R0]
  | always =>
    have e : spot (liftP .always p b) d t = decide (atP p t = all0) := by unfold spot; rw [lift_always hp, lies_always]
    simp [F__law_says, b__law_says, W6.s, la, hin, e, oEq_R1]
  | known =>
    have e := lift_known hp b t d
    have ul : (upTo p t).length ≤ 900001 := by
      have hf := List.length_filter_le (fun s : Step => decide (s.1 ≤ t)) p.2
      simp [upTo]; omega
    have hr : ∀ r ∈ upTo p t, r.2.length ≤ lim := by
      intro r hr
      rcases List.mem_cons.mp hr with q | q
      · have := sub_len hp.g hs.g; rw [q]; omega
      · obtain ⟨s, h1, rfl⟩ := List.mem_map.mp q
        have h2 := (List.mem_filter.mp h1).1
        have := sub_len (hp.rs s h2) (hs.rs s h2); omega
    simp [F__law_says, b__law_says, W6.s]
    rw [law_up_to_run n p t hl]
    simp
    rw [compL_mapM encR rfl (fun r => liesIn r d) encR (upTo p t) (fun r h => by simp [← Res.wp_eq]; rw [law_in_run9 n r d M (hr r h)]; simp) [] (by simp; omega)]
    simp
    rw [oNe_l (as := ((upTo p t).filter fun r => liesIn r d).map encR) (bs := []) rfl rfl (pls_map fun r _ => pl_R _ _) rfl]
    rw [e]
    simp
    have := deqs_map deq_R ((upTo p t).filter fun r => liesIn r d) []
    simp only [List.map_nil] at this
    rw [this]
    rw [Bool.eq_iff_iff]
    simp
  | asof =>
    have e : spot (liftP .asof p b) d t = spot p d (min t b) := by unfold spot; rw [lift_asof hp]
    simp [F__law_says, b__law_says, W6.s, la, hin, e]
  | frm =>
    have e : spot (liftP .frm p b) d t = (decide (b ≤ t) && spot p d t) := by
      unfold spot; rw [lift_from hp]
      by_cases c : b ≤ t <;> simp [c, lies_no0]
    simp [F__law_says, b__law_says, W6.s, la, hin, e]
    by_cases c : b ≤ t <;> simp [c]
theorem oIx_step (p : Plot) {k : Int} (h0 : 0 ≤ k) (h1 : k < p.2.length) (M : Mem) : ∃ s : Step, oIx (.d (.tup (p.2.map encS))) (.d (.int k)) M = .ok (.d (encS s)) M := by
  have hk : k.toNat < p.2.length := by omega
  refine ⟨p.2[k.toNat], ?_⟩
  have e : (k : Int) = ((k.toNat : Nat) : Int) := by omega
  have := oIx_seq (M := M) (x := .d (.tup (p.2.map encS))) (i := ((k.toNat : Nat) : Int)) (d := encS p.2[k.toNat]) (ds := p.2.map encS) (k := k.toNat) (by simp) (by rw [ixN_pos (by omega) (by rw [List.length_map]; omega)]; simp; omega) (by rw [List.getElem?_map, List.getElem?_eq_getElem hk]; rfl)
  rw [← e] at this
  exact this
theorem law_by_ex [i : HasF T "_law_by" F__law_by] (n : Nat) (p : Plot) (c : Int) (M : Mem) : ∃ k : Int, run T (n + 1) "_law_by" [encP p, .int c] M = .ok (.d (.int k)) M := by
  have : (run T (n + 1) "_law_by" [encP p, .int c] M).wp fun x M' => Kp (M' = M ∧ ∃ k : Int, x = .d (.int k)) := by
    rw [run_has i]
    refine wp_run rfl ?_
    simp [F__law_by, b__law_by, oEq_S0]
    by_cases c1 : c % 4 = 0
    · simp [c1]; exact ⟨rfl, _, rfl⟩
    by_cases c2 : c % 4 = 1
    · simp [c2]; exact ⟨rfl, _, rfl⟩
    by_cases c3 : p.2 = []
    · simp [c1, c2, c3]; exact ⟨rfl, _, rfl⟩
    · have hp : 0 < p.2.length := List.length_pos_iff.mpr c3
      simp [c1, c2, c3, hp]
      obtain ⟨s, e⟩ := oIx_step p (k := c / 4 % (p.2.length : Int)) (Int.emod_nonneg _ (by omega)) (Int.emod_lt_of_pos _ (by omega)) M
      rw [e]
      simp
      exact ⟨rfl, _, rfl⟩
  obtain ⟨x, M', e, rfl, k, rfl⟩ := Res.wp_ex this
  exact ⟨k, e⟩
theorem law_whole_days_ex [i : HasF T "_law_whole_days" F__law_whole_days] (n : Nat) {L : List Int} {p : Plot} (hp : POk p) (hs : PSub L p) (hl : p.2.length ≤ 900000) (c : Int) (M : Mem) :
    ∃ q : Plot, POk q ∧ PSub L q ∧ q.2.length ≤ p.2.length ∧ run T (n + 1) "_law_whole_days" [encP p, .int c] M = .ok (.d (encP q)) M := by
  have hlim : 10000000 ≤ lim := by decide
  let f : Step → Step := fun s => (s.1, if (c + s.1) % 5 < 2 then (decide ((c + s.1) % 5 = 0), []) else s.2)
  have key : run T (n + 1) "_law_whole_days" [encP p, .int c] M = .ok (.d (encP (plotOf p.1 (p.2.map f)))) M := by
    rw [run_has i, ← Res.wp_eq]
    refine wp_run rfl ?_
    simp [F__law_whole_days, b__law_whole_days]
    refine forL_wp encS (fun l env M' => ∃ (done : List Step) (j4 j5 : Option D), env = [some (encP p), some (.int c), some (.hdl M.length), some (encR (lastR p.1 (done.map f))), j4, j5] ∧ M' = M ++ [.lst ((mkS p.1 (done.map f)).map encS)] ∧ done ++ l = p.2) ?_ ?_ _ _ _ ⟨[], _, _, rfl, rfl, rfl⟩
    · rintro _ _ ⟨done, j4, j5, rfl, rfl, h1⟩
      rw [List.append_nil] at h1
      subst h1
      simp [encP, plotOf, show (2 : Nat) ≤ lim by omega]
    · rintro s l _ _ ⟨done, j4, j5, rfl, rfl, h1⟩
      have hd : done.length ≤ p.2.length := by rw [← h1]; simp
      have hm := (mkS_sub p.1 (done.map f)).length_le
      rw [List.length_map] at hm
      have hacc : (mkS p.1 (done.map f)).length < lim := by omega
      have e1 : (done ++ [s]).map f = done.map f ++ [f s] := by simp
      have ez : ∀ x, D.tup [D.bl x, D.tup []] = encR (x, []) := fun _ => rfl
      have fin : ∀ r : Reach, f s = (s.1, r) → (if r = lastR p.1 (done.map f) then [] else [(s.1, r)]) = mkS p.1 ((done ++ [s]).map f) → True := fun _ _ _ => trivial
      simp [ez]
      by_cases c1 : (c + s.1) % 5 < 2
      · have fs : f s = (s.1, (decide ((c + s.1) % 5 = 0), [])) := by simp only [f]; rw [if_pos c1]
        simp [c1]
        rw [fs] at e1
        by_cases c2 : ((decide ((c + s.1) % 5 = 0), []) : Reach) = lastR p.1 (done.map f)
        · simp [c2]
          refine ⟨done ++ [s], some (.int s.1), some (encR (decide ((c + s.1) % 5 = 0), [])), by rw [e1, lastR_snoc]; simp, by rw [e1, mkS_snoc, if_pos c2]; simp, by rw [← h1]; simp⟩
        · simp [c2, hacc, show (2 : Nat) ≤ lim by omega]
          refine ⟨done ++ [s], some (.int s.1), some (encR (decide ((c + s.1) % 5 = 0), [])), by rw [e1, lastR_snoc]; simp, by rw [e1, mkS_snoc, if_neg c2]; simp [encS], by rw [← h1]; simp⟩
      · have fs : f s = (s.1, s.2) := by simp only [f]; rw [if_neg c1]
        simp [c1]
        rw [fs] at e1
        by_cases c2 : s.2 = lastR p.1 (done.map f)
        · simp [c2]
          refine ⟨done ++ [s], some (.int s.1), some (encR s.2), by rw [e1, lastR_snoc]; simp, by rw [e1, mkS_snoc, if_pos c2]; simp, by rw [← h1]; simp⟩
        · simp [c2, hacc, show (2 : Nat) ≤ lim by omega]
          refine ⟨done ++ [s], some (.int s.1), some (encR s.2), by rw [e1, lastR_snoc]; simp, by rw [e1, mkS_snoc, if_neg c2]; simp [encS], by rw [← h1]; simp⟩
  have f1 : (p.2.map f).map (·.1) = p.2.map (·.1) := by simp [f, Function.comp_def]
  have f2 : ∀ s ∈ p.2.map f, Rising s.2.2 ∧ Sub L s.2 := fun s h => by
    obtain ⟨x, hx, rfl⟩ := List.mem_map.mp h
    simp only [f]
    by_cases c1 : (c + x.1) % 5 < 2
    · rw [if_pos c1]; exact ⟨.nil, fun e he => nomatch he⟩
    · rw [if_neg c1]; exact ⟨hp.rs x hx, hs.rs x hx⟩
  exact ⟨_, plotOf_ok hp.g (by rw [f1]; exact hp.ts) (fun s h => (f2 s h).1), plotOf_sub hs.g (fun s h => (f2 s h).2), Nat.le_trans (plotOf_len _ _) (by simp), key⟩
theorem law_k16_run [HasF T "edges_marked" F_edges_marked] [HasF T "truth_by" F_truth_by] [HasF T "blend" F_blend] [HasF T "moved_by" F_moved_by] [HasF T "reach_at" F_reach_at] [HasF T "plot_of" F_plot_of] [HasF T "moved_plot" F_moved_plot] [HasF T "ever_plot" F_ever_plot] [HasF T "always_plot" F_always_plot] [HasF T "known_plot" F_known_plot] [HasF T "asof_plot" F_asof_plot] [HasF T "from_plot" F_from_plot] [HasF T "lift" F_lift]
    [HasF T "_law_cell" F__law_cell] [HasF T "_law_whole" F__law_whole] [HasF T "_law_stir" F__law_stir] [HasF T "_law_reach" F__law_reach_k09] [HasF T "_law_plot" F__law_plot_k09] [HasF T "_law_scale" F__law_scale] [HasF T "_law_in" F__law_in_k09] [HasF T "_law_at" F__law_at_k09] [HasF T "_law_beside" F__law_beside] [HasF T "_law_days" F__law_days] [HasF T "_law_is_reach" F__law_is_reach_k09] [HasF T "_law_is_plot" F__law_is_plot_k09]
    [HasF T "_law_whole_days" F__law_whole_days] [HasF T "_law_by" F__law_by] [HasF T "_law_up_to" F__law_up_to] [HasF T "_law_says" F__law_says] [HasF T "_law_refused" F__law_refused_k16] [i : HasF T "law" F_law_k16] (ns : List Int) (hns : ns.length ≤ 63) (n : Nat) :
    ∃ M, run T (n + 5) "law" [scr ns] [] = .ok (.d (.bl true)) M := by
  have : (run T (n + 5) "law" [scr ns] []).wp fun x M' => Kp (x = .d (.bl true)) := by
    have hlim : 10000000 ≤ lim := by decide
    rw [run_has i]
    refine wp_run rfl ?_
    simp [F_law_k16, b_law_k16]
    have c0 := fun M => law_cell_run (T := T) (n + 3) ns 0 M
    have c1 := fun M => law_cell_run (T := T) (n + 3) ns 1 M
    simp at c0 c1
    rw [c0]
    generalize ns[0]?.getD 0 = first
    generalize ns[1]?.getD 0 = second at *
    obtain ⟨spread, low, s1, s2, s3, s4, es⟩ := law_scale_ex (T := T) first
    simp
    rw [es (n + 3)]
    simp
    rw [c1]
    simp
    have hcl : (cut ns (some 2) (some 12)).length ≤ 10 := by unfold cut; simp [sIx]; omega
    generalize cut ns (some 2) (some 12) = cells at *
    obtain ⟨p0, a1, a2, a3, ea⟩ := law_plot_ex (T := T) (n + 1) cells 0 48271 spread low s1 (by omega) [.lst (cells.map D.int)] rfl
    rw [ea]
    simp
    obtain ⟨p, p1, p2, p3, ep⟩ := law_whole_days_ex (T := T) (n + 3) a1 a2 (by omega) second [.lst (cells.map D.int)]
    rw [ep]
    simp
    obtain ⟨b, eb⟩ := law_by_ex (T := T) (n + 3) p second [.lst (cells.map D.int)]
    rw [eb]
    simp
    have hL := line_len spread low
    rw [compL_all encS rfl (fun s => .int s.1) (fun s => by simp [← Res.wp_eq]) p.2 (by omega)]
    have e1 : p.2.map (fun s => D.int s.1) = (turnsOf p).map D.int := by simp [turnsOf, Function.comp_def]
    rw [e1]
    have tl : (turnsOf p).length ≤ 10 := by simp [turnsOf]; omega
    simp [show (turnsOf p).length + 1 ≤ lim by omega, show (1 : Nat) ≤ lim by omega]
    have e2 : (turnsOf p).map D.int ++ [D.int b] = (turnsOf p ++ [b]).map D.int := by simp
    rw [e2]
    have ai := asInts_map (turnsOf p ++ [b])
    have l4 : (turnsOf p).length + 1 < 4000 := by omega
    have hss := ss_len (turnsOf p ++ [b])
    rw [List.length_append] at hss
    simp only [List.length_singleton] at hss
    simp [ai, -List.map_append, l4]
    rw [show sortI (dedI (turnsOf p ++ [b])) = ss (turnsOf p ++ [b]) from rfl]
    generalize ss (turnsOf p ++ [b]) = us at *
    obtain ⟨ts, tsl, ets⟩ := law_beside_exL (T := T) (n + 3) us 1 (by omega) [.lst (cells.map D.int), .lst (us.map D.int)] rfl
    rw [ets]
    simp [show (6 : Nat) ≤ lim by omega]
    have lr := fun (w : W6) (M : Mem) => lift_run (T := T) n w p1 p2 (by omega) (by omega) b M
    have lp : ∀ (w : W6) M, run T (n + 4) "_law_is_plot" [encP (liftP w p b)] M = .ok (.d (.bl true)) M := fun w M => by
      have ok := liftP_ok w p1 b
      have su := liftP_sub w p2 b
      have ll := liftL_len w (line spread low) b
      have ln := liftP_len w p b
      exact law_is_plotP (n + 1) _ M ok (by omega) (by have := sub_len ok.g su.g; omega) (fun s hs => by have := sub_len (ok.rs s hs) (su.rs s hs); omega)
    have la : ∀ (p : Plot) (t : Int) M, run T (n + 4) "_law_at" [encP p, .int t] M = .ok (.d (encR (atP p t))) M := fun p t M => law_at_run (n + 3) p t M
    have li : ∀ (w : W6) (d t : Int) M, run T (n + 4) "_law_in" [encR (atP (liftP w p b) t), .int d] M = .ok (.d (.bl (spot (liftP w p b) d t))) M := fun w d t M => by
      have ok := liftP_ok w p1 b
      have su := liftP_sub w p2 b
      have ll := liftL_len w (line spread low) b
      exact law_in_run9 (n + 3) _ _ M (by have := at_len ok su t; omega)
    have ls : ∀ (w : W6) (d t : Int) M, run T (n + 4) "_law_says" [encP p, .str w.s, .int b, .int d, .int t] M = .ok (.d (.bl (spot (liftP w p b) d t))) M := fun w d t M => law_says_run (n + 2) w p1 p2 (by omega) (by omega) b d t M
    have ec := edgeCount_le (k := 6) (by omega) p1 p2
    rw [show ([D.str "moved", D.str "ever", D.str "always", D.str "known", D.str "asof", D.str "from"] : List D) = [W6.moved, W6.ever, W6.always, W6.known, W6.asof, W6.frm].map fun w => D.str w.s from rfl]
    refine forL_wp (fun w : W6 => D.str w.s) (fun l env M' => M'[2]? = some (.lst (ts.map D.int)) ∧ ∃ (j7 j8 j9 j10 j11 j12 : Option D), env = [some (scr ns), some (.int spread), some (.int low), some (.int second), some (encP p), some (.int b), some (.hdl 2), j7, j8, j9, j10, j11, j12, none, none]) ?_ ?_ _ _ _ ⟨rfl, _, _, _, _, _, _, rfl⟩
    · rintro _ M' ⟨h2, j7, j8, j9, j10, j11, j12, rfl⟩
      simp [show (10 : Nat) ≤ lim by omega]
      obtain ⟨d, ⟨s, hs, rfl⟩, e⟩ := oIx_lit (M := M' ++ [.lst [.str "", .str "move", .str "Ever", .str "all", .str "known ", .str "both", .str "is", .str "of", .str "any", .str "some"]]) (x := .d (.hdl M'.length)) (ds := [.str "", .str "move", .str "Ever", .str "all", .str "known ", .str "both", .str "is", .str "of", .str "any", .str "some"]) (i := second / 7 % 10) (P := fun d => ∃ s : Str, OddL s ∧ d = .str s) (by simp) (Int.emod_nonneg _ (by decide)) (Int.emod_lt_of_pos _ (by decide)) (by
          simp only [List.forall_mem_cons]
          refine ⟨⟨_, ?_, rfl⟩, ⟨_, ?_, rfl⟩, ⟨_, ?_, rfl⟩, ⟨_, ?_, rfl⟩, ⟨_, ?_, rfl⟩, ⟨_, ?_, rfl⟩, ⟨_, ?_, rfl⟩, ⟨_, ?_, rfl⟩, ⟨_, ?_, rfl⟩, ⟨_, ?_, rfl⟩, fun _ h => nomatch h⟩
          all_goals (simp [OddL]))
      rw [e]
      simp
      rw [law_refused_k16_run (n + 2) s hs]
      simp
      rfl
    · rintro w l _ M' ⟨h2, j7, j8, j9, j10, j11, j12, rfl⟩
      simp [lr, lp, show (1 : Nat) ≤ lim by omega]
      obtain ⟨ds, dsl, eds⟩ := law_days_exL (T := T) (n + 2) [p] M'.length (by simp) (by simp; omega) (M' ++ [.lst [encP p]]) (by simp)
      rw [eds]
      simp
      have key : ∀ (M2 : Mem) (h : Nat) (ds : List Int), M2[2]? = some (.lst (ts.map D.int)) → M2[h]? = some (.lst (ds.map D.int)) → (sFor (Tg.nm 10) (iSeq (eVar 6)) (sSeq (sSet 11 (eCall "_law_at" (dCons (eVar 8) (dCons (eVar 10) dNil)))) (sFor (Tg.nm 12) (iSeq (eVar 9)) (sIf (tB (MI.e2 oNe (eCall "_law_in" (dCons (eVar 11) (dCons (eVar 12) dNil))) (eCall "_law_says" (dCons (eVar 4) (dCons (eVar 7) (dCons (eVar 5) (dCons (eVar 12) (dCons (eVar 10) dNil)))))))) (sRet (eC (D.bl false))) sNil)))
          (run T (n + 4)) [some (scr ns), some (.int spread), some (.int low), some (.int second), some (encP p), some (.int b), some (.hdl 2), some (.str w.s), some (encP (liftP w p b)), some (.hdl h), j10, j11, j12, none, none] M2).wp
          (fun r2 M2 => Kp (M2[2]? = some (.lst (ts.map D.int)) ∧ ∃ (j7 j8 j9 j10 j11 j12 : Option D), r2 = [some (scr ns), some (.int spread), some (.int low), some (.int second), some (encP p), some (.int b), some (.hdl 2), j7, j8, j9, j10, j11, j12, none, none]))
          (fun x M' => (fin .pure [] x M').wp fun x M' => Kp (x = .d (.bl true))) := by
        intro M2 h ds g1 g2
        simp [g1]
        refine forL_wp D.int (fun l env M' => M' = M2 ∧ ∃ (j10 j11 j12 : Option D), env = [some (scr ns), some (.int spread), some (.int low), some (.int second), some (encP p), some (.int b), some (.hdl 2), some (.str w.s), some (encP (liftP w p b)), some (.hdl h), j10, j11, j12, none, none]) ?_ ?_ _ _ _ ⟨rfl, _, _, _, rfl⟩
        · rintro _ _ ⟨rfl, j10, j11, j12, rfl⟩
          simp [g1]
          exact ⟨g1, _, _, _, _, _, _, rfl⟩
        · rintro t l _ M3 ⟨rfl, j10, j11, j12, rfl⟩
          simp [g1, g2, la]
          refine forL_wp D.int (fun l env M' => M' = M3 ∧ ∃ (j12 : Option D), env = [some (scr ns), some (.int spread), some (.int low), some (.int second), some (encP p), some (.int b), some (.hdl 2), some (.str w.s), some (encP (liftP w p b)), some (.hdl h), some (.int t), some (encR (atP (liftP w p b) t)), j12, none, none]) ?_ ?_ _ _ _ ⟨rfl, _, rfl⟩
          · rintro _ _ ⟨rfl, j12, rfl⟩
            simp [g2]
            exact ⟨rfl, _, _, _, rfl⟩
          · rintro d l _ _ ⟨rfl, j12, rfl⟩
            simp [g2, li, ls]
            exact ⟨rfl, _, rfl⟩
      have h2' : ∀ l : Mem, (M' ++ l)[2]? = some (.lst (ts.map D.int)) := fun l => get_ahead h2
      refine ⟨by cases w <;> simp [W6.s], ?_⟩
      by_cases hw : w.s = "moved"
      · rw [if_pos hw]
        rw [compL_all D.int (by simp [chkOk]) (fun d => .int (d + b)) (fun d => by simp [← Res.wp_eq]) ds (by omega)]
        have e9 : ds.map (fun d => D.int (d + b)) = (ds.map (· + b)).map D.int := by simp
        have := key (M' ++ [.lst [encP p], .lst (ds.map D.int), .lst ((ds ++ ds.map (· + b)).map D.int)]) (M'.length + 2) (ds ++ ds.map (· + b)) (h2' _) (by simp)
        rw [e9]
        simp [show ds.length + ds.length ≤ lim by omega, h2'] at this ⊢
        exact this
      · rw [if_neg hw]
        have := key (M' ++ [.lst [encP p], .lst (ds.map D.int)]) (M'.length + 1) ds (h2' _) (by simp)
        simp [h2'] at this ⊢
        exact this
  obtain ⟨x, M', e, rfl⟩ := Res.wp_ex this
  exact ⟨M', e⟩
end
end HW
end
section
set_option linter.all false
set_option autoImplicit false
/-! MJ36: law k17 -/
namespace HW
open MI PySem
theorem PSub.mono {L L' : List Int} {p : Plot} (h : PSub L p) (hs : ∀ e ∈ L, e ∈ L') : PSub L' p := ⟨fun e he => hs e (h.g e he), fun s hq e he => hs e (h.rs s hq e he)⟩
section
variable {T : Tab}
theorem law_by_k17_ex [i : HasF T "_law_by" F__law_by_k17] (n : Nat) (p : Plot) (c : Int) (M : Mem) : ∃ k : Int, run T (n + 1) "_law_by" [encP p, .int c] M = .ok (.d (.int k)) M := by
  have : (run T (n + 1) "_law_by" [encP p, .int c] M).wp fun x M' => Kp (M' = M ∧ ∃ k : Int, x = .d (.int k)) := by
    rw [run_has i]
    refine wp_run rfl ?_
    simp [F__law_by_k17, b__law_by_k17, oEq_S0]
    by_cases c1 : c % 4 = 0
    · simp [c1]; exact ⟨rfl, _, rfl⟩
    by_cases c3 : p.2 = []
    · simp [c1, c3]; exact ⟨rfl, _, rfl⟩
    · have hp : 0 < p.2.length := List.length_pos_iff.mpr c3
      simp [c1, c3, hp]
      obtain ⟨s, e⟩ := oIx_step p (k := c / 4 % (p.2.length : Int)) (Int.emod_nonneg _ (by omega)) (Int.emod_lt_of_pos _ (by omega)) M
      rw [e]
      simp
      exact ⟨rfl, _, rfl⟩
  obtain ⟨x, M', e, rfl, k, rfl⟩ := Res.wp_ex this
  exact ⟨k, e⟩
/-- the program's lifts are there -/
class HasLift (T : Tab) : Prop where
  run : ∀ (n : Nat) (w : W6) {L : List Int} {p : Plot} (hp : POk p) (hs : PSub L p) (hL : L.length ≤ 1900) (hl : p.2.length ≤ 900000) (b : Int) (M : Mem), run T (n + 4) "lift" [encP p, .str w.s, .int b] M = .ok (.d (encP (liftP w p b))) M
class HasBlendP (T : Tab) : Prop where
  run : ∀ (n : Nat) (w : W4) {L : List Int} {a b : Plot} (ha : POk a) (hb : POk b) (sa : PSub L a) (sb : PSub L b) (hL : L.length ≤ 1900) (hl : a.2.length + b.2.length ≤ 3900) (M : Mem), run T (n + 3) "blend_plots" [encP a, encP b, .str w.s] M = .ok (.d (encP (blendP w a b))) M
instance [HasF T "edges_marked" F_edges_marked] [HasF T "truth_by" F_truth_by] [HasF T "blend" F_blend] [HasF T "moved_by" F_moved_by] [HasF T "reach_at" F_reach_at] [HasF T "plot_of" F_plot_of] [HasF T "moved_plot" F_moved_plot] [HasF T "ever_plot" F_ever_plot] [HasF T "always_plot" F_always_plot] [HasF T "known_plot" F_known_plot] [HasF T "asof_plot" F_asof_plot] [HasF T "from_plot" F_from_plot] [HasF T "lift" F_lift] : HasLift T := ⟨lift_run⟩
instance [HasF T "edges_marked" F_edges_marked] [HasF T "truth_by" F_truth_by] [HasF T "blend" F_blend] [HasF T "reach_at" F_reach_at] [HasF T "plot_of" F_plot_of] [HasF T "turns_of" F_turns_of] [HasF T "blend_plots" F_blend_plots] : HasBlendP T := ⟨blend_plots_run⟩
theorem law_words_run [HasLift T] [HasBlendP T] [i : HasF T "_law_words" F__law_words_k17] (n : Nat) {L : List Int} {p q : Plot} (hp : POk p) (hq : POk q) (sp : PSub L p) (sq : PSub L q) (hL : L.length ≤ 1000) (lp : p.2.length ≤ 1000) (lq : q.2.length ≤ 900) (a b : Int) (M : Mem) :
    run T (n + 5) "_law_words" [encP p, encP q, .int a, .int b] M = .ok (.d (.bl true)) M := by
  have hlim : 10000000 ≤ lim := by decide
  have lr := fun (w : W6) {p : Plot} (hp : POk p) {L : List Int} (hs : PSub L p) (hL : L.length ≤ 1900) (hl : p.2.length ≤ 900000) (b : Int) (M : Mem) => HasLift.run (T := T) n w hp hs hL hl b M
  have bo := blendP_ok .either p q
  have bs := blendP_sub .either sp sq
  have bl := blendP_len .either p q
  rw [run_has i, ← Res.wp_eq]
  refine wp_run rfl ?_
  simp [F__law_words_k17, b__law_words_k17, show (5 : Nat) ≤ lim by omega]
  have be := fun {a b : Plot} (ha : POk a) (hb : POk b) {L : List Int} (sa : PSub L a) (sb : PSub L b) (hL : L.length ≤ 1900) (hl : a.2.length + b.2.length ≤ 3900) (M : Mem) => HasBlendP.run (T := T) (n + 1) .either ha hb sa sb hL hl M
  have bls := fun {a b : Plot} (ha : POk a) (hb : POk b) {L : List Int} (sa : PSub L a) (sb : PSub L b) (hL : L.length ≤ 1900) (hl : a.2.length + b.2.length ≤ 3900) (M : Mem) => HasBlendP.run (T := T) (n + 1) .less ha hb sa sb hL hl M
  simp only [W4.s] at be bls
  rw [be hp hq sp sq (by omega) (by omega)]
  simp
  rw [show ([D.str "moved", D.str "ever", D.str "known", D.str "asof", D.str "from"] : List D) = ([⟨W6.moved, by decide⟩, ⟨W6.ever, by decide⟩, ⟨W6.known, by decide⟩, ⟨W6.asof, by decide⟩, ⟨W6.frm, by decide⟩] : List { w : W6 // w ≠ .always }).map fun w => D.str w.1.s from rfl]
  refine forL_wp (fun w : { w : W6 // w ≠ .always } => D.str w.1.s) (fun l env M' => M' = M ∧ ∃ (j5 : Option D), env = [some (encP p), some (encP q), some (.int a), some (.int b), some (encP (blendP .either p q)), j5, none, none]) ?_ ?_ _ _ _ ⟨rfl, _, rfl⟩
  · rintro _ M2 ⟨rfl, j5, rfl⟩
    simp [show (5 : Nat) ≤ lim by omega]
    rw [show ([D.str "ever", D.str "always", D.str "known", D.str "asof", D.str "from"] : List D) = ([⟨W6.ever, by decide⟩, ⟨W6.always, by decide⟩, ⟨W6.known, by decide⟩, ⟨W6.asof, by decide⟩, ⟨W6.frm, by decide⟩] : List { w : W6 // w ≠ .moved }).map fun w => D.str w.1.s from rfl]
    refine forL_wp (fun w : { w : W6 // w ≠ .moved } => D.str w.1.s) (fun l env M' => M' = M2 ∧ ∃ (j5 : Option D), env = [some (encP p), some (encP q), some (.int a), some (.int b), some (encP (blendP .either p q)), j5, none, none]) ?_ ?_ _ _ _ ⟨rfl, _, rfl⟩
    · rintro _ _ ⟨rfl, j5, rfl⟩
      have ea : D.tup [D.tup [D.bl true, D.tup []], D.tup []] = encP allP := rfl
      have sa : PSub L allP := ⟨(fun e he => nomatch he), nofun⟩
      have la : allP.2.length = 0 := rfl
      simp [show (2 : Nat) ≤ lim by omega, ea]
      have o1 := blendP_ok .less allP p
      have s1 := blendP_sub .less sa sp
      have l1 := blendP_len .less allP p
      rw [bls allP_ok hp sa sp (by omega) (by omega)]
      simp
      have e1 := fun M => lr .ever o1 s1 (by omega) (by omega) b M
      have e2 := fun M => lr .always hp sp (by omega) (by omega) a M
      simp only [W6.s] at e1 e2
      rw [e1]
      simp
      rw [e2]
      simp
      have o2 := liftP_ok .ever o1 b
      have s2 := liftP_sub .ever s1 b
      have l2 := liftP_len .ever (blendP .less allP p) b
      rw [bls allP_ok o2 sa s2 (by omega) (by omega)]
      simp [always_spared hp a b]
    · rintro ⟨w, hw⟩ l _ _ ⟨rfl, j5, rfl⟩
      have ok := liftP_ok w hp a
      have su := liftP_sub w sp a
      have ll := liftL_len w L a
      have ln := liftP_len w p a
      simp
      rw [lr w hp sp (by omega) (by omega)]
      simp
      rw [lr w ok su (by omega) (by omega)]
      simp
      rw [lr w hp sp (by omega) (by omega)]
      simp [lift_twice hw hp]
      exact ⟨rfl, _, rfl⟩
  · rintro ⟨w, hw⟩ l _ _ ⟨rfl, j5, rfl⟩
    have okp := liftP_ok w hp a
    have sup := liftP_sub w sp a
    have lnp := liftP_len w p a
    have okq := liftP_ok w hq a
    have suq := liftP_sub w sq a
    have lnq := liftP_len w q a
    have ll := liftL_len w L a
    simp
    rw [lr w bo bs (by omega) (by omega)]
    simp
    rw [lr w hp sp (by omega) (by omega)]
    simp
    rw [lr w hq sq (by omega) (by omega)]
    simp
    rw [be okp okq sup suq (by omega) (by omega)]
    simp [lift_blend hw hp hq]
    exact ⟨rfl, _, rfl⟩
theorem law_numbers_k17_run [HasLift T] [i : HasF T "_law_numbers" F__law_numbers_k17] (n : Nat) {L : List Int} {p : Plot} (hp : POk p) (sp : PSub L p) (hL : L.length ≤ 1000) (lp : p.2.length ≤ 1000) (a b : Int) (M : Mem) :
    run T (n + 5) "_law_numbers" [encP p, .int a, .int b] M = .ok (.d (.bl true)) M := by
  have lr := fun (w : W6) {p : Plot} (hp : POk p) {L : List Int} (hs : PSub L p) (hL : L.length ≤ 1900) (hl : p.2.length ≤ 900000) (b : Int) (M : Mem) => HasLift.run (T := T) n w hp hs hL hl b M
  have ok := fun w b => liftP_ok w hp b
  have su := fun w b => liftP_sub w sp b
  have ll := fun w b => liftL_len w L b
  have ln := fun w b => liftP_len w p b
  have one : ∀ (w : W6) (b : Int) M, run T (n + 4) "lift" [encP p, .str w.s, .int b] M = .ok (.d (encP (liftP w p b))) M := fun w b M => lr w hp sp (by omega) (by omega) b M
  have two : ∀ (w v : W6) (b c : Int) M, run T (n + 4) "lift" [encP (liftP w p b), .str v.s, .int c] M = .ok (.d (encP (liftP v (liftP w p b) c))) M := fun w v b c M => lr v (ok w b) (su w b) (by have := ll w b; omega) (by have := ln w b; omega) c M
  have of_ := one .frm
  have oa := one .asof
  have om := one .moved
  have tf := two .frm .frm
  have ta := two .asof .asof
  have tm := two .moved .moved
  simp only [W6.s] at of_ oa om tf ta tm
  rw [run_has i, ← Res.wp_eq]
  refine wp_run rfl ?_
  have lb := lift_back hp a
  rw [Int.zero_sub] at lb
  simp [F__law_numbers_k17, b__law_numbers_k17, of_, oa, om, tf, ta, tm, from_from hp, asof_asof hp, lb, lift_back2 hp]
theorem law_alike_k17_run [HasLift T] [HasBlendP T] [i : HasF T "_law_alike" F__law_alike_k17] (n : Nat) {L : List Int} {p q : Plot} (hp : POk p) (hq : POk q) (sp : PSub L p) (sq : PSub L q) (hL : L.length ≤ 1000) (lp : p.2.length ≤ 1000) (lq : q.2.length ≤ 900) (a b : Int) (M : Mem) :
    run T (n + 5) "_law_alike" [encP p, encP q, .int a, .int b] M = .ok (.d (.bl true)) M := by
  have hlim : 10000000 ≤ lim := by decide
  have lr := fun (w : W6) {p : Plot} (hp : POk p) {L : List Int} (hs : PSub L p) (hL : L.length ≤ 1900) (hl : p.2.length ≤ 900000) (b : Int) (M : Mem) => HasLift.run (T := T) n w hp hs hL hl b M
  have of_ := fun M => lr .frm hq sq (by omega) (by omega) (a + 1) M
  have o1 := liftP_ok .frm hq (a + 1)
  have s1 := liftP_sub .frm sq (a + 1)
  have l1 := liftP_len .frm q (a + 1)
  have bj := fun M => HasBlendP.run (T := T) (n + 1) .just hp o1 sp s1 (by omega) (by omega) M
  have alk := later_alike hp hq a
  have o2 := blendP_ok .just p (liftP .frm q (a + 1))
  have s2 := blendP_sub .just sp s1
  have l2 := blendP_len .just p (liftP .frm q (a + 1))
  simp only [W4.s, W6.s] at bj of_
  rw [run_has i, ← Res.wp_eq]
  refine wp_run rfl ?_
  simp [F__law_alike_k17, b__law_alike_k17, of_, bj]
  generalize blendP .just p (liftP .frm q (a + 1)) = c at *
  have ca := fun M => lr .asof o2 s2 (by omega) (by omega) a M
  have pa := fun M => lr .asof hp sp (by omega) (by omega) a M
  simp only [W6.s] at ca pa
  simp [ca, pa, alike_asof o2 hp alk, show (6 : Nat) ≤ lim by omega]
  rw [show ([D.str "moved", D.str "ever", D.str "always", D.str "known", D.str "asof", D.str "from"] : List D) = [W6.moved, W6.ever, W6.always, W6.known, W6.asof, W6.frm].map fun w => D.str w.s from rfl]
  refine forL_wp (fun w : W6 => D.str w.s) (fun l env M' => M' = M ∧ ∃ (j5 : Option D), env = [some (encP p), some (encP q), some (.int a), some (.int b), some (encP c), j5]) ?_ ?_ _ _ _ ⟨rfl, _, rfl⟩
  · rintro _ _ ⟨rfl, j5, rfl⟩
    simp
  · rintro w l _ _ ⟨rfl, j5, rfl⟩
    simp
    have asf := fun {p : Plot} (hp : POk p) {L : List Int} (hs : PSub L p) (hL : L.length ≤ 1900) (hl : p.2.length ≤ 900000) (b : Int) (M : Mem) => HasLift.run (T := T) n .asof hp hs hL hl b M
    simp only [W6.s] at asf
    rw [lr w o2 s2 (by omega) (by omega)]
    simp
    rw [asf (liftP_ok w o2 b) (liftP_sub w s2 b) (by have := liftL_len w L b; omega) (by have := liftP_len w c b; omega)]
    simp
    rw [lr w hp sp (by omega) (by omega)]
    simp
    rw [asf (liftP_ok w hp b) (liftP_sub w sp b) (by have := liftL_len w L b; omega) (by have := liftP_len w p b; omega)]
    simp [alike_asof (liftP_ok w o2 b) (liftP_ok w hp b) (alike_lift w o2 hp alk b)]
    exact ⟨rfl, _, rfl⟩
theorem law_k17_run [HasLift T] [HasBlendP T] [HasF T "_law_cell" F__law_cell] [HasF T "_law_stir" F__law_stir] [HasF T "_law_reach" F__law_reach_k09] [HasF T "_law_plot" F__law_plot_k09] [HasF T "_law_scale" F__law_scale] [HasF T "_law_by" F__law_by_k17] [HasF T "_law_words" F__law_words_k17] [HasF T "_law_numbers" F__law_numbers_k17] [HasF T "_law_alike" F__law_alike_k17] [i : HasF T "law" F_law_k17] (ns : List Int) (hns : ns.length ≤ 63) (n : Nat) :
    ∃ M, run T (n + 6) "law" [scr ns] [] = .ok (.d (.bl true)) M := by
  have : (run T (n + 6) "law" [scr ns] []).wp fun x M' => Kp (x = .d (.bl true)) := by
    have hlim := lim_big
    rw [run_has i]
    refine wp_run rfl ?_
    simp [F_law_k17, b_law_k17]
    have c0 := fun M => law_cell_run (T := T) (n + 4) ns 0 M
    have c1 := fun M => law_cell_run (T := T) (n + 4) ns 1 M
    have c2 := fun M => law_cell_run (T := T) (n + 4) ns 2 M
    simp at c0 c1 c2
    rw [c0]
    generalize ns[0]?.getD 0 = first
    generalize ns[1]?.getD 0 = second at *
    generalize ns[2]?.getD 0 = third at *
    obtain ⟨spread, low, s1, s2, s3, s4, es⟩ := law_scale_ex (T := T) first
    simp
    rw [es (n + 4)]
    simp
    have hcl : (cut ns (some 3) (some 63)).length ≤ 63 := by unfold cut; simp; omega
    generalize cut ns (some 3) (some 63) = cells at *
    have e0 : (cells.map D.int).take (sIx cells.length cells.length none) = cells.map D.int := by rw [sIx_none]; exact List.take_of_length_le (by simp)
    have e1 : sIx cells.length 0 none = 0 := rfl
    obtain ⟨d1, q1, q2⟩ := pickS_ints 0 2 (by decide) cells
    obtain ⟨d2, q3, q4⟩ := pickS_ints (sIx cells.length 0 (some 1)) 2 (by decide) cells
    rw [e0, e1, q1]
    obtain ⟨a, a1, a2, a3, ea⟩ := law_plot_ex (T := T) (n + 2) d1 1 48271 spread low s1 (by omega) [.lst (cells.map D.int), .lst (d1.map D.int)] rfl
    rw [ea]
    simp
    rw [e0, q3]
    obtain ⟨b, b1, b2, b3, eb⟩ := law_plot_ex (T := T) (n + 2) d2 2 69621 spread low s1 (by omega) [.lst (cells.map D.int), .lst (d1.map D.int), .lst (d2.map D.int)] rfl
    rw [eb]
    simp
    rw [c1]
    simp
    obtain ⟨x, ex⟩ := law_by_k17_ex (T := T) (n + 4) a second [.lst (cells.map D.int), .lst (d1.map D.int), .lst (d2.map D.int)]
    rw [ex]
    simp
    rw [c2]
    simp
    obtain ⟨y, ey⟩ := law_by_k17_ex (T := T) (n + 4) b third [.lst (cells.map D.int), .lst (d1.map D.int), .lst (d2.map D.int)]
    rw [ey]
    simp
    have hL := line_len spread low
    rw [law_words_run n a1 b1 a2 b2 (by omega) (by omega) (by omega)]
    simp
    rw [law_numbers_k17_run n a1 a2 (by omega) (by omega)]
    simp
    rw [law_alike_k17_run n a1 b1 a2 b2 (by omega) (by omega) (by omega)]
    simp
    rfl
  obtain ⟨x, M', e, rfl⟩ := Res.wp_ex this
  exact ⟨M', e⟩
end
end HW
end
namespace HW
open PySem PySem.Spec PyProof.Rows L2 He MI
def topS (i : Nat) : Stmt := PySem.Challenge.pw_heldwhen_k17_whole_lifts.main.body.getD i (.Pass ⟨0, 0, 0, 0⟩)
def t_truth_by : Df := { d := ⟨("truth_by", none), "truth_by", "truth_by", defArgs (topS 4), defBody (topS 4), defScope (topS 4), [], []⟩, N := ["word", "one", "other"], ps := ["word", "one", "other"], fn := F_truth_by }
def t_edges_marked : Df := { d := ⟨("edges_marked", none), "edges_marked", "edges_marked", defArgs (topS 6), defBody (topS 6), defScope (topS 6), [], []⟩, N := ["reach", "marks", "edge"], ps := ["reach"], fn := F_edges_marked }
def t_blend : Df := { d := ⟨("blend", none), "blend", "blend", defArgs (topS 7), defBody (topS 7), defScope (topS 7), [], []⟩, N := ["one", "other", "word", "mine", "theirs", "here", "there", "first", "truth", "edges", "edge"], ps := ["one", "other", "word"], fn := F_blend }
def t_moved_by : Df := { d := ⟨("moved_by", none), "moved_by", "moved_by", defArgs (topS 8), defBody (topS 8), defScope (topS 8), [], []⟩, N := ["reach", "by", "edge"], ps := ["reach", "by"], fn := F_moved_by }
def t_reach_at : Df := { d := ⟨("reach_at", none), "reach_at", "reach_at", defArgs (topS 10), defBody (topS 10), defScope (topS 10), [], []⟩, N := ["plot", "turn", "here", "at", "reach"], ps := ["plot", "turn"], fn := F_reach_at }
def t_plot_of : Df := { d := ⟨("plot_of", none), "plot_of", "plot_of", defArgs (topS 11), defBody (topS 11), defScope (topS 11), [], []⟩, N := ["ground", "pairs", "steps", "last", "at", "reach"], ps := ["ground", "pairs"], fn := F_plot_of }
def t_turns_of : Df := { d := ⟨("turns_of", none), "turns_of", "turns_of", defArgs (topS 12), defBody (topS 12), defScope (topS 12), [], []⟩, N := ["plot", "step"], ps := ["plot"], fn := F_turns_of }
def t_blend_plots : Df := { d := ⟨("blend_plots", none), "blend_plots", "blend_plots", defArgs (topS 13), defBody (topS 13), defScope (topS 13), [], []⟩, N := ["one", "other", "word", "pairs", "turn"], ps := ["one", "other", "word"], fn := F_blend_plots }
def t_moved_plot : Df := { d := ⟨("moved_plot", none), "moved_plot", "moved_plot", defArgs (topS 15), defBody (topS 15), defScope (topS 15), [], []⟩, N := ["plot", "by", "turn", "reach"], ps := ["plot", "by"], fn := F_moved_plot }
def t_ever_plot : Df := { d := ⟨("ever_plot", none), "ever_plot", "ever_plot", defArgs (topS 16), defBody (topS 16), defScope (topS 16), [], []⟩, N := ["plot", "some", "turn", "reach"], ps := ["plot"], fn := F_ever_plot }
def t_always_plot : Df := { d := ⟨("always_plot", none), "always_plot", "always_plot", defArgs (topS 17), defBody (topS 17), defScope (topS 17), [], []⟩, N := ["plot", "some", "turn", "reach"], ps := ["plot"], fn := F_always_plot }
def t_known_plot : Df := { d := ⟨("known_plot", none), "known_plot", "known_plot", defArgs (topS 18), defBody (topS 18), defScope (topS 18), [], []⟩, N := ["plot", "so_far", "pairs", "turn", "reach"], ps := ["plot"], fn := F_known_plot }
def t_asof_plot : Df := { d := ⟨("asof_plot", none), "asof_plot", "asof_plot", defArgs (topS 19), defBody (topS 19), defScope (topS 19), [], []⟩, N := ["plot", "by", "step"], ps := ["plot", "by"], fn := F_asof_plot }
def t_from_plot : Df := { d := ⟨("from_plot", none), "from_plot", "from_plot", defArgs (topS 20), defBody (topS 20), defScope (topS 20), [], []⟩, N := ["plot", "by", "pairs", "step"], ps := ["plot", "by"], fn := F_from_plot }
def t_lift : Df := { d := ⟨("lift", none), "lift", "lift", defArgs (topS 21), defBody (topS 21), defScope (topS 21), [], []⟩, N := ["plot", "word", "by"], ps := ["plot", "word", "by"], fn := F_lift }
def t__law_cell : Df := { d := ⟨("_law_cell", none), "_law_cell", "_law_cell", defArgs (topS 23), defBody (topS 23), defScope (topS 23), [], []⟩, N := ["script", "k"], ps := ["script", "k"], fn := F__law_cell }
def t__law_whole : Df := { d := ⟨("_law_whole", none), "_law_whole", "_law_whole", defArgs (topS 24), defBody (topS 24), defScope (topS 24), [], []⟩, N := ["thing"], ps := ["thing"], fn := F__law_whole }
def t__law_stir : Df := { d := ⟨("_law_stir", none), "_law_stir", "_law_stir", defArgs (topS 25), defBody (topS 25), defScope (topS 25), [], []⟩, N := ["cell", "by", "number"], ps := ["cell", "by"], fn := F__law_stir }
def t__law_reach : Df := { d := ⟨("_law_reach", none), "_law_reach", "_law_reach", defArgs (topS 26), defBody (topS 26), defScope (topS 26), [], []⟩, N := ["cell", "by", "spread", "low", "number", "edges", "k"], ps := ["cell", "by", "spread", "low"], fn := F__law_reach_k09 }
def t__law_plot : Df := { d := ⟨("_law_plot", none), "_law_plot", "_law_plot", defArgs (topS 27), defBody (topS 27), defScope (topS 27), [], []⟩, N := ["cells", "by", "spread", "low", "last", "cell", "ground", "steps", "turn", "reach"], ps := ["cells", "by", "spread", "low"], fn := F__law_plot_k09 }
def t__law_scale : Df := { d := ⟨("_law_scale", none), "_law_scale", "_law_scale", defArgs (topS 28), defBody (topS 28), defScope (topS 28), [], []⟩, N := ["cell"], ps := ["cell"], fn := F__law_scale }
def t__law_by : Df := { d := ⟨("_law_by", none), "_law_by", "_law_by", defArgs (topS 29), defBody (topS 29), defScope (topS 29), [], []⟩, N := ["plot", "cell"], ps := ["plot", "cell"], fn := F__law_by_k17 }
def t__law_words : Df := { d := ⟨("_law_words", none), "_law_words", "_law_words", defArgs (topS 30), defBody (topS 30), defScope (topS 30), [], []⟩, N := ["one", "other", "a", "b", "both", "word", "everything", "spared"], ps := ["one", "other", "a", "b"], fn := F__law_words_k17 }
def t__law_numbers : Df := { d := ⟨("_law_numbers", none), "_law_numbers", "_law_numbers", defArgs (topS 31), defBody (topS 31), defScope (topS 31), [], []⟩, N := ["one", "a", "b"], ps := ["one", "a", "b"], fn := F__law_numbers_k17 }
def t__law_alike : Df := { d := ⟨("_law_alike", none), "_law_alike", "_law_alike", defArgs (topS 32), defBody (topS 32), defScope (topS 32), [], []⟩, N := ["one", "other", "a", "b", "later", "word"], ps := ["one", "other", "a", "b"], fn := F__law_alike_k17 }
def t_law : Df := { d := ⟨("law", none), "law", "law", defArgs (topS 33), defBody (topS 33), defScope (topS 33), [], []⟩, N := ["script", "spread", "low", "cells", "one", "other", "a", "b"], ps := ["script"], fn := F_law_k17 }
def cfg : Cfg := { fns := [("truth_by", 3), ("edges_marked", 1), ("blend", 3), ("moved_by", 2), ("reach_at", 2), ("plot_of", 2), ("turns_of", 1), ("blend_plots", 3), ("moved_plot", 2), ("ever_plot", 1), ("always_plot", 1), ("known_plot", 1), ("asof_plot", 2), ("from_plot", 2), ("lift", 3), ("_law_cell", 2), ("_law_whole", 1), ("_law_stir", 2), ("_law_reach", 4), ("_law_plot", 4), ("_law_scale", 1), ("_law_by", 2), ("_law_words", 4), ("_law_numbers", 3), ("_law_alike", 4), ("law", 1)], bl := ["bool", "int", "isinstance", "len", "max", "min", "range", "set", "sorted", "tuple"], kon := [], exs := ["HeldError", "NoWord"] }
def tab : List Df := [t_truth_by, t_edges_marked, t_blend, t_moved_by, t_reach_at, t_plot_of, t_turns_of, t_blend_plots, t_moved_plot, t_ever_plot, t_always_plot, t_known_plot, t_asof_plot, t_from_plot, t_lift, t__law_cell, t__law_whole, t__law_stir, t__law_reach, t__law_plot, t__law_scale, t__law_by, t__law_words, t__law_numbers, t__law_alike, t_law]
abbrev T : MI.Tab := tabOf tab
theorem ok_truth_by : DfOk cfg tab t_truth_by := ⟨by kernel_rfl, ⟨rfl, rfl, rfl, by decide +kernel, rfl, by decide +kernel, by decide +kernel⟩, rfl, rfl, rfl, rfl, rfl, by kernel_rfl, fun _ _ _ _ _ _ us hl => match us, hl with | [_, _, _], _ => rfl⟩
theorem ok_edges_marked : DfOk cfg tab t_edges_marked := ⟨by kernel_rfl, ⟨rfl, rfl, rfl, by decide +kernel, rfl, by decide +kernel, by decide +kernel⟩, rfl, rfl, rfl, rfl, rfl, by kernel_rfl, fun _ _ _ _ _ _ us hl => match us, hl with | [_], _ => rfl⟩
theorem ok_blend : DfOk cfg tab t_blend := ⟨by kernel_rfl, ⟨rfl, rfl, rfl, by decide +kernel, rfl, by decide +kernel, by decide +kernel⟩, rfl, rfl, rfl, rfl, rfl, by kernel_rfl, fun _ _ _ _ _ _ us hl => match us, hl with | [_, _, _], _ => rfl⟩
theorem ok_moved_by : DfOk cfg tab t_moved_by := ⟨by kernel_rfl, ⟨rfl, rfl, rfl, by decide +kernel, rfl, by decide +kernel, by decide +kernel⟩, rfl, rfl, rfl, rfl, rfl, by kernel_rfl, fun _ _ _ _ _ _ us hl => match us, hl with | [_, _], _ => rfl⟩
theorem ok_reach_at : DfOk cfg tab t_reach_at := ⟨by kernel_rfl, ⟨rfl, rfl, rfl, by decide +kernel, rfl, by decide +kernel, by decide +kernel⟩, rfl, rfl, rfl, rfl, rfl, by kernel_rfl, fun _ _ _ _ _ _ us hl => match us, hl with | [_, _], _ => rfl⟩
theorem ok_plot_of : DfOk cfg tab t_plot_of := ⟨by kernel_rfl, ⟨rfl, rfl, rfl, by decide +kernel, rfl, by decide +kernel, by decide +kernel⟩, rfl, rfl, rfl, rfl, rfl, by kernel_rfl, fun _ _ _ _ _ _ us hl => match us, hl with | [_, _], _ => rfl⟩
theorem ok_turns_of : DfOk cfg tab t_turns_of := ⟨by kernel_rfl, ⟨rfl, rfl, rfl, by decide +kernel, rfl, by decide +kernel, by decide +kernel⟩, rfl, rfl, rfl, rfl, rfl, by kernel_rfl, fun _ _ _ _ _ _ us hl => match us, hl with | [_], _ => rfl⟩
theorem ok_blend_plots : DfOk cfg tab t_blend_plots := ⟨by kernel_rfl, ⟨rfl, rfl, rfl, by decide +kernel, rfl, by decide +kernel, by decide +kernel⟩, rfl, rfl, rfl, rfl, rfl, by kernel_rfl, fun _ _ _ _ _ _ us hl => match us, hl with | [_, _, _], _ => rfl⟩
theorem ok_moved_plot : DfOk cfg tab t_moved_plot := ⟨by kernel_rfl, ⟨rfl, rfl, rfl, by decide +kernel, rfl, by decide +kernel, by decide +kernel⟩, rfl, rfl, rfl, rfl, rfl, by kernel_rfl, fun _ _ _ _ _ _ us hl => match us, hl with | [_, _], _ => rfl⟩
theorem ok_ever_plot : DfOk cfg tab t_ever_plot := ⟨by kernel_rfl, ⟨rfl, rfl, rfl, by decide +kernel, rfl, by decide +kernel, by decide +kernel⟩, rfl, rfl, rfl, rfl, rfl, by kernel_rfl, fun _ _ _ _ _ _ us hl => match us, hl with | [_], _ => rfl⟩
theorem ok_always_plot : DfOk cfg tab t_always_plot := ⟨by kernel_rfl, ⟨rfl, rfl, rfl, by decide +kernel, rfl, by decide +kernel, by decide +kernel⟩, rfl, rfl, rfl, rfl, rfl, by kernel_rfl, fun _ _ _ _ _ _ us hl => match us, hl with | [_], _ => rfl⟩
theorem ok_known_plot : DfOk cfg tab t_known_plot := ⟨by kernel_rfl, ⟨rfl, rfl, rfl, by decide +kernel, rfl, by decide +kernel, by decide +kernel⟩, rfl, rfl, rfl, rfl, rfl, by kernel_rfl, fun _ _ _ _ _ _ us hl => match us, hl with | [_], _ => rfl⟩
theorem ok_asof_plot : DfOk cfg tab t_asof_plot := ⟨by kernel_rfl, ⟨rfl, rfl, rfl, by decide +kernel, rfl, by decide +kernel, by decide +kernel⟩, rfl, rfl, rfl, rfl, rfl, by kernel_rfl, fun _ _ _ _ _ _ us hl => match us, hl with | [_, _], _ => rfl⟩
theorem ok_from_plot : DfOk cfg tab t_from_plot := ⟨by kernel_rfl, ⟨rfl, rfl, rfl, by decide +kernel, rfl, by decide +kernel, by decide +kernel⟩, rfl, rfl, rfl, rfl, rfl, by kernel_rfl, fun _ _ _ _ _ _ us hl => match us, hl with | [_, _], _ => rfl⟩
theorem ok_lift : DfOk cfg tab t_lift := ⟨by kernel_rfl, ⟨rfl, rfl, rfl, by decide +kernel, rfl, by decide +kernel, by decide +kernel⟩, rfl, rfl, rfl, rfl, rfl, by kernel_rfl, fun _ _ _ _ _ _ us hl => match us, hl with | [_, _, _], _ => rfl⟩
theorem ok__law_cell : DfOk cfg tab t__law_cell := ⟨by kernel_rfl, ⟨rfl, rfl, rfl, by decide +kernel, rfl, by decide +kernel, by decide +kernel⟩, rfl, rfl, rfl, rfl, rfl, by kernel_rfl, fun _ _ _ _ _ _ us hl => match us, hl with | [_, _], _ => rfl⟩
theorem ok__law_whole : DfOk cfg tab t__law_whole := ⟨by kernel_rfl, ⟨rfl, rfl, rfl, by decide +kernel, rfl, by decide +kernel, by decide +kernel⟩, rfl, rfl, rfl, rfl, rfl, by kernel_rfl, fun _ _ _ _ _ _ us hl => match us, hl with | [_], _ => rfl⟩
theorem ok__law_stir : DfOk cfg tab t__law_stir := ⟨by kernel_rfl, ⟨rfl, rfl, rfl, by decide +kernel, rfl, by decide +kernel, by decide +kernel⟩, rfl, rfl, rfl, rfl, rfl, by kernel_rfl, fun _ _ _ _ _ _ us hl => match us, hl with | [_, _], _ => rfl⟩
theorem ok__law_reach : DfOk cfg tab t__law_reach := ⟨by kernel_rfl, ⟨rfl, rfl, rfl, by decide +kernel, rfl, by decide +kernel, by decide +kernel⟩, rfl, rfl, rfl, rfl, rfl, by kernel_rfl, fun _ _ _ _ _ _ us hl => match us, hl with | [_, _, _, _], _ => rfl⟩
theorem ok__law_plot : DfOk cfg tab t__law_plot := ⟨by kernel_rfl, ⟨rfl, rfl, rfl, by decide +kernel, rfl, by decide +kernel, by decide +kernel⟩, rfl, rfl, rfl, rfl, rfl, by kernel_rfl, fun _ _ _ _ _ _ us hl => match us, hl with | [_, _, _, _], _ => rfl⟩
theorem ok__law_scale : DfOk cfg tab t__law_scale := ⟨by kernel_rfl, ⟨rfl, rfl, rfl, by decide +kernel, rfl, by decide +kernel, by decide +kernel⟩, rfl, rfl, rfl, rfl, rfl, by kernel_rfl, fun _ _ _ _ _ _ us hl => match us, hl with | [_], _ => rfl⟩
theorem ok__law_by : DfOk cfg tab t__law_by := ⟨by kernel_rfl, ⟨rfl, rfl, rfl, by decide +kernel, rfl, by decide +kernel, by decide +kernel⟩, rfl, rfl, rfl, rfl, rfl, by kernel_rfl, fun _ _ _ _ _ _ us hl => match us, hl with | [_, _], _ => rfl⟩
theorem ok__law_words : DfOk cfg tab t__law_words := ⟨by kernel_rfl, ⟨rfl, rfl, rfl, by decide +kernel, rfl, by decide +kernel, by decide +kernel⟩, rfl, rfl, rfl, rfl, rfl, by kernel_rfl, fun _ _ _ _ _ _ us hl => match us, hl with | [_, _, _, _], _ => rfl⟩
theorem ok__law_numbers : DfOk cfg tab t__law_numbers := ⟨by kernel_rfl, ⟨rfl, rfl, rfl, by decide +kernel, rfl, by decide +kernel, by decide +kernel⟩, rfl, rfl, rfl, rfl, rfl, by kernel_rfl, fun _ _ _ _ _ _ us hl => match us, hl with | [_, _, _], _ => rfl⟩
theorem ok__law_alike : DfOk cfg tab t__law_alike := ⟨by kernel_rfl, ⟨rfl, rfl, rfl, by decide +kernel, rfl, by decide +kernel, by decide +kernel⟩, rfl, rfl, rfl, rfl, rfl, by kernel_rfl, fun _ _ _ _ _ _ us hl => match us, hl with | [_, _, _, _], _ => rfl⟩
theorem ok_law : DfOk cfg tab t_law := ⟨by kernel_rfl, ⟨rfl, rfl, rfl, by decide +kernel, rfl, by decide +kernel, by decide +kernel⟩, rfl, rfl, rfl, rfl, rfl, by kernel_rfl, fun _ _ _ _ _ _ us hl => match us, hl with | [_], _ => rfl⟩
theorem ok_all : ∀ t ∈ tab, DfOk cfg tab t := by
  intro t ht
  simp only [tab, List.mem_cons, List.not_mem_nil, or_false] at ht
  rcases ht with rfl | rfl | rfl | rfl | rfl | rfl | rfl | rfl | rfl | rfl | rfl | rfl | rfl | rfl | rfl | rfl | rfl | rfl | rfl | rfl | rfl | rfl | rfl | rfl | rfl | rfl
  · exact ok_truth_by
  · exact ok_edges_marked
  · exact ok_blend
  · exact ok_moved_by
  · exact ok_reach_at
  · exact ok_plot_of
  · exact ok_turns_of
  · exact ok_blend_plots
  · exact ok_moved_plot
  · exact ok_ever_plot
  · exact ok_always_plot
  · exact ok_known_plot
  · exact ok_asof_plot
  · exact ok_from_plot
  · exact ok_lift
  · exact ok__law_cell
  · exact ok__law_whole
  · exact ok__law_stir
  · exact ok__law_reach
  · exact ok__law_plot
  · exact ok__law_scale
  · exact ok__law_by
  · exact ok__law_words
  · exact ok__law_numbers
  · exact ok__law_alike
  · exact ok_law
instance : HasF T "truth_by" F_truth_by := ⟨ok_truth_by.look⟩
instance : HasF T "edges_marked" F_edges_marked := ⟨ok_edges_marked.look⟩
instance : HasF T "blend" F_blend := ⟨ok_blend.look⟩
instance : HasF T "moved_by" F_moved_by := ⟨ok_moved_by.look⟩
instance : HasF T "reach_at" F_reach_at := ⟨ok_reach_at.look⟩
instance : HasF T "plot_of" F_plot_of := ⟨ok_plot_of.look⟩
instance : HasF T "turns_of" F_turns_of := ⟨ok_turns_of.look⟩
instance : HasF T "blend_plots" F_blend_plots := ⟨ok_blend_plots.look⟩
instance : HasF T "moved_plot" F_moved_plot := ⟨ok_moved_plot.look⟩
instance : HasF T "ever_plot" F_ever_plot := ⟨ok_ever_plot.look⟩
instance : HasF T "always_plot" F_always_plot := ⟨ok_always_plot.look⟩
instance : HasF T "known_plot" F_known_plot := ⟨ok_known_plot.look⟩
instance : HasF T "asof_plot" F_asof_plot := ⟨ok_asof_plot.look⟩
instance : HasF T "from_plot" F_from_plot := ⟨ok_from_plot.look⟩
instance : HasF T "lift" F_lift := ⟨ok_lift.look⟩
instance : HasF T "_law_cell" F__law_cell := ⟨ok__law_cell.look⟩
instance : HasF T "_law_whole" F__law_whole := ⟨ok__law_whole.look⟩
instance : HasF T "_law_stir" F__law_stir := ⟨ok__law_stir.look⟩
instance : HasF T "_law_reach" F__law_reach_k09 := ⟨ok__law_reach.look⟩
instance : HasF T "_law_plot" F__law_plot_k09 := ⟨ok__law_plot.look⟩
instance : HasF T "_law_scale" F__law_scale := ⟨ok__law_scale.look⟩
instance : HasF T "_law_by" F__law_by_k17 := ⟨ok__law_by.look⟩
instance : HasF T "_law_words" F__law_words_k17 := ⟨ok__law_words.look⟩
instance : HasF T "_law_numbers" F__law_numbers_k17 := ⟨ok__law_numbers.look⟩
instance : HasF T "_law_alike" F__law_alike_k17 := ⟨ok__law_alike.look⟩
instance : HasF T "law" F_law_k17 := ⟨ok_law.look⟩
def loose0 : List PySem.Str := ["__name__", "HeldError", "NoWord", "truth_by", "edges_marked", "blend", "moved_by", "reach_at", "plot_of", "turns_of", "blend_plots", "moved_plot", "ever_plot", "always_plot", "known_plot", "asof_plot", "from_plot", "lift", "_law_cell", "_law_whole"]
def loose1 : List PySem.Str := ["_law_stir", "_law_reach", "_law_plot", "_law_scale", "_law_by", "_law_words", "_law_numbers", "_law_alike"]
abbrev loose : List PySem.Str := loose0 ++ loose1
abbrev R : PySem.W.OpenRow := PySem.W.OpenLaw.row PySem.Challenge.rw_heldwhen_k17_whole_lifts
abbrev hk : PySem.W.Hook := hookM 5 cfg (tab.map Df.d)
def ob (s : PySem.W.SharedT) : AlM := obsMG 5 cfg (tab.map Df.d) (HandSHeadRun.getT s)
theorem ob_eq (s : PySem.W.SharedT) : ob s = hk.obs s.abs := obsMG_eq (HandSHeadRun.getT_eq s)
theorem run0 (w : World) : HandSHeadRun.RunEq R (PySem.W.view R.prog [33]) hk ob 4000 loose w := by
  intro os
  kernel_rfl
theorem hrun : ∀ ns : List Int, ns.length ≤ 63 → ∃ M, MI.run T 40 t_law.name [.ro (ns.map D.int)] [] = Res.ok (.d (.bl true)) M := fun ns h => law_k17_run ns h 34
end HW
open PySem PySem.W PySem.Calls PyProof.Rows
theorem PySem.Challenge.cw_heldwhen_k17_whole_lifts_holds : PySem.Challenge.rw_heldwhen_k17_whole_lifts.Holds := by
  w_on; o_law
  refine HandSHeadRun.head_any (r := HW.R) (q := view HW.R.prog [33]) (H := HW.hk) (ob := HW.ob) (M := 4000) (loose := HW.loose) (d := HandSHeadRun.topDef HW.R.prog 33) (kwd := []) HW.ob_eq
    (by kernel_rfl) (fun s => by kernel_rfl) HW.run0 (by kernel_rfl) (by kernel_rfl) (by kernel_rfl) (by rfl) (by first | assumption | decide +kernel) (by decide +kernel) ⟨rfl, rfl, rfl, rfl, rfl, by decide +kernel⟩ ?hw ?hc
  case hw => w_witness2
  case hc =>
    exact MI.walk_M (l := PySem.Challenge.rw_heldwhen_k17_whole_lifts) (n := 63) (k := 40) (x := "script") rfl (by decide) (by kernel_rfl) ⟨rfl, by decide, by decide⟩ (MI.end_M (l := PySem.Challenge.rw_heldwhen_k17_whole_lifts) (g := HW.cfg) (ts := HW.tab) (t := HW.t_law) (n := 40) rfl (by kernel_rfl) HW.ok_all rfl (by simp [HW.tab]) HW.hrun)
