import PyProof.Rows.All
import Wide.All
import OpenK.AllK
import Wide.FinOn
import HandS.ForMost
import HandS.Exc
import HandS.TupAny
import HandS.Style
import HandS.IsInst
import HandS.Flow
import HandS.Wide
import HandS.SortInts
import HandS.More
import KE.KeyNested
import PySem.PyData
import HandS.TupLe
import PyProof.DictRoadsH
import PyProof.DictMoreH
import KE.KDictLaws
import KE.KDictCopyH
import HandS.SetKeys
import HandS.TupSets
import HandS.Set
import HandS.Text
import HandS.CallSlots
import HandS.TryOnly
import HandS.Deep
import KE.KDictSum
import HandS.SetFor
import HandS.Strs
import HandS.WordsExc
import HandS.Iter
import HandS.CallRecv
import KE.KDictPairs
import HandS.Conv
import HandS.ExcOwn
import HandS.Defaults
import HandS.ExcIs
import HandS.HeadHook4
import HandS.HeadEnd
import HandS.Head0
import HandS.Head1
import HandS.Head2
import KE.KStateDown
import PySem.Challenge.RW_heldwhen_k43_numbers
set_option Elab.async false
set_option linter.all false
set_option maxRecDepth 100000
set_option maxHeartbeats 0
section
set_option linter.all false
set_option autoImplicit false
/-! MI1: a small semantics over plain data -/
namespace MI
open PySem (Str PyData)

/-! ### data -/
inductive D where
  | non | bl (b : Bool) | int (i : Int) | str (s : Str) | tup (ds : List D) | hdl (n : Nat) | ro (ds : List D)
mutual
def D.dec : (a b : D) → Decidable (a = b)
  | .non, .non => .isTrue rfl
  | .bl a, .bl b => if h : a = b then .isTrue (by rw [h]) else .isFalse (by intro e; cases e; exact h rfl)
  | .int a, .int b => if h : a = b then .isTrue (by rw [h]) else .isFalse (by intro e; cases e; exact h rfl)
  | .str a, .str b => if h : a = b then .isTrue (by rw [h]) else .isFalse (by intro e; cases e; exact h rfl)
  | .hdl a, .hdl b => if h : a = b then .isTrue (by rw [h]) else .isFalse (by intro e; cases e; exact h rfl)
  | .tup a, .tup b => match D.decs a b with
    | .isTrue h => .isTrue (by rw [h])
    | .isFalse h => .isFalse (by intro e; cases e; exact h rfl)
  | .ro a, .ro b => match D.decs a b with
    | .isTrue h => .isTrue (by rw [h])
    | .isFalse h => .isFalse (by intro e; cases e; exact h rfl)
  | .non, .bl _ | .non, .int _ | .non, .str _ | .non, .tup _ | .non, .hdl _ | .non, .ro _ => .isFalse nofun
  | .bl _, .non | .bl _, .int _ | .bl _, .str _ | .bl _, .tup _ | .bl _, .hdl _ | .bl _, .ro _ => .isFalse nofun
  | .int _, .non | .int _, .bl _ | .int _, .str _ | .int _, .tup _ | .int _, .hdl _ | .int _, .ro _ => .isFalse nofun
  | .str _, .non | .str _, .bl _ | .str _, .int _ | .str _, .tup _ | .str _, .hdl _ | .str _, .ro _ => .isFalse nofun
  | .tup _, .non | .tup _, .bl _ | .tup _, .int _ | .tup _, .str _ | .tup _, .hdl _ | .tup _, .ro _ => .isFalse nofun
  | .hdl _, .non | .hdl _, .bl _ | .hdl _, .int _ | .hdl _, .str _ | .hdl _, .tup _ | .hdl _, .ro _ => .isFalse nofun
  | .ro _, .non | .ro _, .bl _ | .ro _, .int _ | .ro _, .str _ | .ro _, .tup _ | .ro _, .hdl _ => .isFalse nofun
def D.decs : (a b : List D) → Decidable (a = b)
  | [], [] => .isTrue rfl
  | x :: xs, y :: ys => match D.dec x y with
    | .isTrue h => match D.decs xs ys with
      | .isTrue h2 => .isTrue (by rw [h, h2])
      | .isFalse h2 => .isFalse (by intro e; cases e; exact h2 rfl)
    | .isFalse h => .isFalse (by intro e; cases e; exact h rfl)
  | [], _ :: _ => .isFalse nofun
  | _ :: _, [] => .isFalse nofun
end
instance : DecidableEq D := D.dec

/-- what may change: a list, a dict, an object of a class -/
inductive O where
  | lst (ds : List D)
  /-- a dict; fz: a loop walks it, it may not be written -/
  | dic (fz : Bool) (kvs : List (D × D))
  | ins (c : Str) (fs : List (Str × D))
  deriving DecidableEq
abbrev Mem := List O
abbrev Env := List (Option D)
/-- an expression's value: a datum, or an object that nothing else names -/
inductive RV where
  | d (d : D) | o (o : O)
  deriving DecidableEq
inductive Res (A : Type) where
  | ok (a : A) (M : Mem) | err (c : Str) (M : Mem) | bad
inductive SR where
  | nx (r : Env) (M : Mem) | ret (r : RV) (M : Mem) | err (c : Str) (r : Env) (M : Mem) | bad
/-- the longest list -/
def lim : Nat := 16777216

def Res.bind {A B : Type} (r : Res A) (f : A → Mem → Res B) : Res B :=
  match r with
  | .ok a M => f a M
  | .err c M => .err c M
  | .bad => .bad
theorem Res.bind_ok {A B : Type} (a : A) (M : Mem) (f : A → Mem → Res B) : (Res.ok a M).bind f = f a M := rfl
theorem Res.bind_err {A B : Type} (c : Str) (M : Mem) (f : A → Mem → Res B) : (Res.err c M : Res A).bind f = .err c M := rfl
theorem Res.bind_bad {A B : Type} (f : A → Mem → Res B) : (Res.bad : Res A).bind f = .bad := rfl

mutual
/-- all handles lie below n -/
def D.bel (n : Nat) : D → Bool
  | .hdl m => decide (m < n)
  | .tup ds => D.bels n ds
  | .ro ds => D.bels n ds
  | _ => true
def D.bels (n : Nat) : List D → Bool
  | [] => true
  | d :: ds => D.bel n d && D.bels n ds
end
def O.bel (n : Nat) : O → Bool
  | .lst ds => D.bels n ds
  | .dic _ kvs => kvs.all fun kv => kv.1.bel n && kv.2.bel n
  | .ins _ fs => fs.all fun f => f.2.bel n

def box : RV → Mem → D × Mem
  | .d d, M => (d, M)
  | .o o, M => (.hdl M.length, M ++ [o])

/-! ### reading -/
def lstOf : RV → Mem → Option (List D)
  | .d (.hdl n), M => match M[n]? with
    | some (.lst ds) => some ds
    | _ => none
  | .d (.ro ds), _ => some ds
  | .o (.lst ds), _ => some ds
  | _, _ => none
/-- a list that may be written -/
def lstT : RV → Mem → Option (List D)
  | .d (.hdl n), M => match M[n]? with
    | some (.lst ds) => some ds
    | _ => none
  | .o (.lst ds), _ => some ds
  | _, _ => none
def seqOf : RV → Mem → Option (List D)
  | .d (.tup ds), _ => some ds
  | r, M => lstOf r M
def dicOf : RV → Mem → Option (List (D × D))
  | .d (.hdl n), M => match M[n]? with
    | some (.dic _ kvs) => some kvs
    | _ => none
  | .o (.dic _ kvs), _ => some kvs
  | _, _ => none

/-- plain data, lists opened, to a depth -/
def der : Nat → Mem → D → Option PyData
  | _, _, .non => some .none
  | _, _, .bl b => some (.bool b)
  | _, _, .int i => some (.int i)
  | _, _, .str s => if s.cps.all (· < 0x110000) then some (.str s) else none
  | 0, _, .tup _ => none
  | 0, _, .hdl _ => none
  | 0, _, .ro _ => none
  | n + 1, M, .tup ds => (ds.mapM fun d => der n M d).map .tuple
  | n + 1, M, .hdl m => match M[m]? with
    | some (.lst ds) => (ds.mapM fun d => der n M d).map .list
    | _ => none
  | n + 1, M, .ro ds => (ds.mapM fun d => der n M d).map .list
def derR : RV → Mem → Option PyData
  | .d d, M => der 32 M d
  | .o (.lst ds), M => (ds.mapM fun d => der 31 M d).map .list
  | _, _ => none
mutual
/-- == of plain data -/
def peq : PyData → PyData → Bool
  | .none, .none => true
  | .bool a, .bool b => a == b
  | .bool a, .int j => (if a then 1 else 0) == j
  | .int i, .bool b => i == (if b then 1 else 0)
  | .int i, .int j => i == j
  | .str x, .str y => x == y
  | .list xs, .list ys => peqs xs ys
  | .tuple xs, .tuple ys => peqs xs ys
  | _, _ => false
def peqs : List PyData → List PyData → Bool
  | [], [] => true
  | x :: xs, y :: ys => peq x y && peqs xs ys
  | _, _ => false
end

/-! ### operations -/
def asInts : List D → Option (List Int)
  | [] => some []
  | .int i :: r => (asInts r).map (i :: ·)
  | _ => none
/-- a row: a tuple of whole numbers -/
def asRow : D → Option (List Int)
  | .tup ds => asInts ds
  | _ => none
def asRows : List D → Option (List (List Int))
  | [] => some []
  | d :: r => match asRow d, asRows r with
    | some a, some b => some (a :: b)
    | _, _ => none
def rowD (ns : List Int) : D := .tup (ns.map D.int)
/-- the order of tuples of whole numbers -/
def lexL : List Int → List Int → Bool
  | [], [] => false
  | [], _ :: _ => true
  | _ :: _, [] => false
  | x :: xs, y :: ys => if x = y then lexL xs ys else decide (x < y)
def insR (a : List Int) : List (List Int) → List (List Int)
  | [] => [a]
  | b :: r => if lexL b a = true then b :: insR a r else a :: b :: r
def sortR : List (List Int) → List (List Int)
  | [] => []
  | a :: r => insR a (sortR r)
def dedR : List (List Int) → List (List Int)
  | [] => []
  | a :: r => if r.contains a then dedR r else a :: dedR r
/-- rows that may be sorted: less than two, or each of a number at least -/
def rowsOk (rs : List (List Int)) : Bool := decide (rs.length < 2) || rs.all fun r => !r.isEmpty
abbrev Op1 := RV → Mem → Res RV
abbrev Op2 := RV → RV → Mem → Res RV
def vI (i : Int) (M : Mem) : Res RV := .ok (.d (.int i)) M
def vB (b : Bool) (M : Mem) : Res RV := .ok (.d (.bl b)) M

def oAdd : Op2
  | .d (.int i), .d (.int j), M => vI (i + j) M
  | .d (.str x), .d (.str y), M => if x.length + y.length ≤ lim then .ok (.d (.str (x ++ y))) M else .bad
  | .d (.tup xs), .d (.tup ys), M => if xs.length + ys.length ≤ lim then .ok (.d (.tup (xs ++ ys))) M else .bad
  | x, y, M => match lstOf x M, lstOf y M with
    | some xs, some ys => if xs.length + ys.length ≤ lim then .ok (.o (.lst (xs ++ ys))) M else .bad
    | _, _ => .bad
def oSub : Op2
  | .d (.int i), .d (.int j), M => vI (i - j) M
  | _, _, _ => .bad
/-- so many times -/
def mulL (l : List Nat) : Nat → List Nat
  | 0 => []
  | n + 1 => l ++ mulL l n
def oMul : Op2
  | .d (.int i), .d (.int j), M => if (-(2 ^ 64) < i ∧ i < 2 ^ 64) ∨ (-(2 ^ 64) < j ∧ j < 2 ^ 64) then vI (i * j) M else .bad
  | .d (.str x), .d (.int n), M => if 0 ≤ n ∧ n ≤ 1000 ∧ x.length ≤ 10000 then .ok (.d (.str ⟨(mulL x.cps.toList n.toNat).toArray⟩)) M else .bad
  | _, _, _ => .bad
def oDiv : Op2
  | .d (.int i), .d (.int j), M => if 0 < j ∧ j < 1267650600228229401496703205376 then vI (i / j) M else .bad
  | _, _, _ => .bad
def oMod : Op2
  | .d (.int i), .d (.int j), M => if 0 < j then vI (i % j) M else .bad
  | _, _, _ => .bad
def oPow : Op2
  | .d (.int i), .d (.int j), M => if 0 ≤ j ∧ j ≤ 1000000 ∧ i.natAbs < 2 ^ 64 then vI (i ^ j.toNat) M else .bad
  | _, _, _ => .bad
def oNeg : Op1
  | .d (.int i), M => vI (-i) M
  | _, _ => .bad
def oEq : Op2 := fun x y M => match derR x M, derR y M with
  | some p, some q => vB (peq p q) M
  | _, _ => .bad
def oNe : Op2 := fun x y M => match derR x M, derR y M with
  | some p, some q => vB (!peq p q) M
  | _, _ => .bad
def oLt : Op2
  | .d (.int i), .d (.int j), M => vB (decide (i < j)) M
  | .d (.tup xs), .d (.tup ys), M => match asInts xs, asInts ys with
    | some a, some b => if a.length = b.length then vB (lexL a b) M else .bad
    | _, _ => .bad
  | _, _, _ => .bad
def oLe : Op2
  | .d (.int i), .d (.int j), M => vB (decide (i ≤ j)) M
  | .d (.tup xs), .d (.tup ys), M => match asInts xs, asInts ys with
    | some a, some b => if a.length = b.length then vB (!lexL b a) M else .bad
    | _, _ => .bad
  | _, _, _ => .bad
def oGt : Op2
  | .d (.int i), .d (.int j), M => vB (decide (j < i)) M
  | .d (.tup xs), .d (.tup ys), M => match asInts xs, asInts ys with
    | some a, some b => if a.length = b.length then vB (lexL b a) M else .bad
    | _, _ => .bad
  | _, _, _ => .bad
def oGe : Op2
  | .d (.int i), .d (.int j), M => vB (decide (j ≤ i)) M
  | .d (.tup xs), .d (.tup ys), M => match asInts xs, asInts ys with
    | some a, some b => if a.length = b.length then vB (!lexL a b) M else .bad
    | _, _ => .bad
  | _, _, _ => .bad
def oIs : Op2
  | x, .d .non, M => vB (decide (x = .d .non)) M
  | .d (.bl a), .d (.bl b), M => vB (decide (a = b)) M
  | _, _, _ => .bad
def oIsNot : Op2
  | x, .d .non, M => vB (!decide (x = .d .non)) M
  | .d (.bl a), .d (.bl b), M => vB (!decide (a = b)) M
  | _, _, _ => .bad
/-- flat data, for in -/
def D.flat : D → Bool
  | .non => true
  | .bl _ => true
  | .int _ => true
  | .str _ => true
  | _ => false
def feq : D → D → Bool
  | .non, .non => true
  | .bl a, .bl b => a == b
  | .bl a, .int b => (if a then 1 else 0) == b
  | .int a, .bl b => a == (if b then 1 else 0)
  | .int a, .int b => a == b
  | .str a, .str b => a == b
  | _, _ => false
/-- a key that is no tuple -/
def isSk : D → Bool
  | .non => true
  | .int _ => true
  | .str _ => true
  | _ => false
mutual
/-- what a key may hold, to a depth -/
def nkOk : Nat → D → Bool
  | _, .non => true
  | _, .int _ => true
  | _, .str _ => true
  | n + 1, .tup ds => nksOk n ds
  | _, _ => false
def nksOk : Nat → List D → Bool
  | _, [] => true
  | n, d :: ds => nkOk n d && nksOk n ds
end
/-- a tuple that may be a key -/
def isTk : D → Bool
  | .tup ds => nkOk 8 (.tup ds)
  | _ => false
/-- a key for this dict: all its keys are tuples, or none is -/
def okK (kvs : List (D × D)) (k : D) : Bool := (isSk k && kvs.all fun p => isSk p.1) || (isTk k && kvs.all fun p => isTk p.1)
def dget (kvs : List (D × D)) (k : D) : Option D := (kvs.find? fun kv => decide (kv.1 = k)).map (·.2)
def dput (kvs : List (D × D)) (k v : D) : List (D × D) :=
  if (kvs.any fun kv => decide (kv.1 = k)) = true then kvs.map (fun kv => if kv.1 = k then (kv.1, v) else kv) else kvs ++ [(k, v)]
/-- a text of one sign -/
def sign1 : D → Option Nat
  | .str s => match s.cps.toList with
    | [c] => some c
    | _ => none
  | _ => none
def inR : RV → RV → Mem → Option Bool
  | .d k, r, M => match dicOf r M with
    | some kvs => if okK kvs k then some (dget kvs k).isSome else none
    | none => match seqOf r M with
      | some ds => if k.flat && ds.all D.flat then some (ds.any fun d => feq d k) else match derR (.d k) M, derR r M with
        | some p, some (.list qs) => some (qs.any fun z => peq z p)
        | _, _ => none
      | none => match r with
        | .d (.str t) => match sign1 k with
          | some c => some (decide (c ∈ t.cps.toList))
          | none => none
        | _ => none
  | _, _, _ => none
def oIn : Op2 := fun x y M => match inR x y M with
  | some b => vB b M
  | none => .bad
def oNotIn : Op2 := fun x y M => match inR x y M with
  | some b => vB (!b) M
  | none => .bad

/-- the place that an index of any sign means -/
def ixN (n : Nat) (i : Int) : Option Nat := if 0 ≤ i then (if i < n then some i.toNat else none) else if -(n : Int) ≤ i then some (i + n).toNat else none
def oIx : Op2
  | x, .d (.int i), M => match seqOf x M with
    | some ds => match ixN ds.length i with
      | some j => match ds[j]? with
        | some d => .ok (.d d) M
        | none => .bad
      | none => .bad
    | none => match dicOf x M with
      | some kvs => if okK kvs (.int i) then match dget kvs (.int i) with
          | some d => .ok (.d d) M
          | none => .bad
        else .bad
      | none => match x with
        | .d (.str t) => if t.length ≤ lim then match ixN t.cps.size i with
            | some j => match t.cps[j]? with
              | some c => .ok (.d (.str ⟨#[c]⟩)) M
              | none => .bad
            | none => .bad
          else .bad
        | _ => .bad
  | x, .d k, M => match dicOf x M with
    | some kvs => if okK kvs k then match dget kvs k with
        | some d => .ok (.d d) M
        | none => .bad
      else .bad
    | none => .bad
  | _, _, _ => .bad
def sIx (n d : Nat) : Option Int → Nat
  | none => d
  | some v => if v < 0 then (v + (n : Int)).toNat else min v.toNat n
def cut {A : Type} (xs : List A) (lo hi : Option Int) : List A := (xs.drop (sIx xs.length 0 lo)).take (sIx xs.length xs.length hi - sIx xs.length 0 lo)
def oSlice (x : RV) (lo hi : Option Int) (M : Mem) : Res RV :=
  match x with
  | .d (.tup ds) => .ok (.d (.tup (cut ds lo hi))) M
  | .d (.str t) => if t.length ≤ lim then .ok (.d (.str ⟨(cut t.cps.toList lo hi).toArray⟩)) M else .bad
  | x => match lstOf x M with
    | some ds => .ok (.o (.lst (cut ds lo hi))) M
    | none => .bad

/-- truth -/
def truR : RV → Mem → Option Bool
  | .d .non, _ => some false
  | .d (.bl b), _ => some b
  | .d (.int i), _ => some (i != 0)
  | .d (.str s), _ => if s.length ≤ lim then some ((s.length : Int) != 0) else none
  | .d (.tup ds), _ => some (!ds.isEmpty)
  | r, M => (lstOf r M).map fun ds => !ds.isEmpty

/-! ### builtins -/
def bLen : Op1
  | .d (.str s), M => if s.length ≤ lim then vI s.length M else .bad
  | r, M => match seqOf r M with
    | some ds => vI ds.length M
    | none => .bad
def bList : Op1 := fun r M => match seqOf r M with
  | some ds => .ok (.o (.lst ds)) M
  | none => match dicOf r M with
    | some kvs => .ok (.o (.lst (kvs.map (·.1)))) M
    | none => .bad
def bTuple : Op1 := fun r M => match seqOf r M with
  | some ds => .ok (.d (.tup ds)) M
  | none => .bad
/-- the number that figures write -/
def figs (cs : List Nat) : Nat := cs.foldl (fun acc c => acc * 10 + (c - 48)) 0
def allFig (cs : List Nat) : Bool := !cs.isEmpty && cs.all fun c => decide (48 ≤ c ∧ c ≤ 57)
def intL : List Nat → Option Int
  | [] => none
  | c :: r => if c = 45 then (if allFig r = true then some (-(figs r : Int)) else none) else if allFig (c :: r) = true then some (figs (c :: r) : Int) else none
def bInt : Op1
  | .d (.int i), M => vI i M
  | .d (.bl b), M => vI (if b then 1 else 0) M
  | .d (.str s), M => if s.length ≤ 640 then match intL s.cps.toList with
      | some n => vI n M
      | none => .bad
    else .bad
  | _, _ => .bad
def bAbs : Op1
  | .d (.int i), M => vI (if i < 0 then -i else i) M
  | _, _ => .bad
def bMax2 : Op2
  | .d (.int i), .d (.int j), M => vI (if j > i then j else i) M
  | _, _, _ => .bad
def bMin2 : Op2
  | .d (.int i), .d (.int j), M => vI (if j < i then j else i) M
  | _, _, _ => .bad
/-- put into a rising list -/
def insI (i : Int) : List Int → List Int
  | [] => [i]
  | j :: r => if i ≤ j then i :: j :: r else j :: insI i r
def sortI : List Int → List Int
  | [] => []
  | i :: r => insI i (sortI r)
def dedI : List Int → List Int
  | [] => []
  | i :: r => if r.contains i then dedI r else i :: dedI r
/-- sorted(list), sorted(dict): whole numbers -/
def bSorted : Op1 := fun r M => match dicOf r M with
  | some kvs => match asInts (kvs.map (·.1)) with
    | some ns => .ok (.o (.lst ((sortI ns).map D.int))) M
    | none => match asRows (kvs.map (·.1)) with
      | some rs => if rowsOk rs = true then .ok (.o (.lst ((sortR rs).map rowD))) M else .bad
      | none => .bad
  | none => match lstOf r M with
    | some ds => match asInts ds with
      | some ns => .ok (.o (.lst ((sortI ns).map D.int))) M
      | none => match asRows ds with
        | some rs => if rowsOk rs = true then .ok (.o (.lst ((sortR rs).map rowD))) M else .bad
        | none => .bad
    | none => .bad
/-- sorted(set(..)) -/
def bSortedSet : Op1 := fun r M => match seqOf r M with
  | some ds => match asInts ds with
    | some ns => if ns.length < 4000 then .ok (.o (.lst ((sortI (dedI ns)).map D.int))) M else .bad
    | none => match lstOf r M, asRows ds with
      | some _, some rs => if rs.length < 64 ∧ rowsOk (dedR rs) = true then .ok (.o (.lst ((sortR (dedR rs)).map rowD))) M else .bad
      | _, _ => .bad
  | none => .bad
/-- max(xs), min(xs) of whole numbers -/
def maxL : Int → List Int → Int
  | m, [] => m
  | m, x :: r => maxL (if m < x then x else m) r
def minL : Int → List Int → Int
  | m, [] => m
  | m, x :: r => minL (if x < m then x else m) r
def bMax1 : Op1 := fun r M => match lstOf r M with
  | some ds => match asInts ds with
    | some (n :: ns) => vI (maxL n ns) M
    | _ => .bad
  | none => .bad
def bMin1 : Op1 := fun r M => match lstOf r M with
  | some ds => match asInts ds with
    | some (n :: ns) => vI (minL n ns) M
    | _ => .bad
  | none => .bad
def asBls : List D → Option (List Bool)
  | [] => some []
  | .bl i :: r => (asBls r).map (i :: ·)
  | _ => none
def bAll : Op1 := fun r M => match lstOf r M with
  | some ds => match asBls ds with
    | some bs => vB (bs.all id) M
    | none => .bad
  | none => .bad
/-- str(i) of a number that is not too long -/
def bStr : Op1
  | .d (.int i), M => if i.natAbs.log2 < 1920 then .ok (.d (.str (Str.ofString (toString i)))) M else .bad
  | _, _ => .bad
inductive Ty where
  | tuple | bool | int | list | str | dict
  deriving DecidableEq
def isTy : Ty → RV → Mem → Option Bool
  | t, .d .non, _ => some false
  | t, .d (.bl _), _ => some (decide (t = .bool) || decide (t = .int))
  | t, .d (.int _), _ => some (decide (t = .int))
  | t, .d (.str _), _ => some (decide (t = .str))
  | t, .d (.tup _), _ => some (decide (t = .tuple))
  | t, .d (.ro _), _ => some (decide (t = .list))
  | t, .d (.hdl n), M => match M[n]? with
    | some (.lst _) => some (decide (t = .list))
    | some (.dic _ _) => some (decide (t = .dict))
    | _ => none
  | t, .o (.lst _), _ => some (decide (t = .list))
  | t, .o (.dic _ _), _ => some (decide (t = .dict))
  | _, _, _ => none
def bIsi (t : Ty) : Op1 := fun r M => match isTy t r M with
  | some b => vB b M
  | none => .bad

/-- isinstance(x, (A, B)), x no object that may change -/
def bIsi2 (t u : Ty) : Op1
  | .d (.hdl _), _ => .bad
  | .d d, M => match isTy t (.d d) M, isTy u (.d d) M with
    | some a, some b => vB (a || b) M
    | _, _ => .bad
  | .o _, _ => .bad

/-! ### methods of lists and dicts: the receiver's handle, the boxed arguments -/
def mAppend (n : Nat) (d : D) (M : Mem) : Res RV := match M[n]? with
  | some (.lst ds) => if ds.length < lim then .ok (.d .non) (M.set n (.lst (ds ++ [d]))) else .bad
  | _ => .bad
def mPopAt (n : Nat) (d : D) (M : Mem) : Res RV := match M[n]? with
  | some (.lst ds) => match d with
    | .int i => if 0 ≤ i ∧ i < ds.length ∧ i < 2 ^ 62 then match ds[i.toNat]? with
        | some d => .ok (.d d) (M.set n (.lst (ds.eraseIdx i.toNat)))
        | none => .bad
      else .bad
    | _ => .bad
  | _ => .bad
def mClear (n : Nat) (M : Mem) : Res RV := match M[n]? with
  | some (.lst _) => .ok (.d .non) (M.set n (.lst []))
  | _ => .bad
def mPop (n : Nat) (M : Mem) : Res RV := match M[n]? with
  | some (.lst ds) => match ds.getLast? with
    | some d => .ok (.d d) (M.set n (.lst ds.dropLast))
    | none => .bad
  | _ => .bad
def mInsert (n : Nat) (i d : D) (M : Mem) : Res RV := match M[n]? with
  | some (.lst ds) => match i with
    | .int i => if 0 ≤ i ∧ i < 2 ^ 62 ∧ ds.length < lim then .ok (.d .non) (M.set n (.lst (ds.take i.toNat ++ [d] ++ ds.drop i.toNat))) else .bad
    | _ => .bad
  | _ => .bad
/-- the place of the first equal one -/
def mIndex (n : Nat) (d : D) (M : Mem) : Res RV := match M[n]? with
  | some (.lst ds) => if d.flat && ds.all D.flat then match ds.findIdx? (fun x => feq x d) with
      | some j => vI j M
      | none => .bad
    else .bad
  | _ => .bad
/-- how many are equal to it -/
def mCount (n : Nat) (d : D) (M : Mem) : Res RV := match M[n]? with
  | some (.lst ds) => if d.flat && ds.all D.flat then vI (ds.countP (fun x => feq x d) : Nat) M else .bad
  | _ => .bad
/-! methods of texts -/
def splC (s : Nat) : List Nat → List Nat → List (List Nat)
  | acc, [] => [acc]
  | acc, c :: r => if c = s then acc :: splC s [] r else splC s (acc ++ [c]) r
def joinC (s : List Nat) : List (List Nat) → List Nat
  | [] => []
  | [p] => p
  | p :: q :: r => p ++ (s ++ joinC s (q :: r))
def asStrs : List D → Option (List Str)
  | [] => some []
  | .str s :: r => (asStrs r).map (s :: ·)
  | _ => none
def strL (l : List Nat) : Str := ⟨l.toArray⟩
def tSplit (a : Str) : RV → Mem → Res RV
  | .d (.str b), M => match b.cps.toList with
    | [s] => if s < 256 ∧ a.length + 2 ≤ lim then .ok (.o (.lst ((splC s [] a.cps.toList).map fun l => .str (strL l)))) M else .bad
    | _ => .bad
  | _, _ => .bad
def tJoin (a : Str) (y : RV) (M : Mem) : Res RV := match seqOf y M with
  | some ds => match asStrs ds with
    | some ys => if (ys.map (·.length)).sum + ys.length * a.length ≤ lim then .ok (.d (.str (strL (joinC a.cps.toList (ys.map (·.cps.toList)))))) M else .bad
    | none => .bad
  | none => .bad
/-! methods of dicts: the receiver's handle -/
def mGet (n : Nat) (k x : D) (M : Mem) : Res RV := match M[n]? with
  | some (.dic _ kvs) => if okK kvs k = true then .ok (.d ((dget kvs k).getD x)) M else .bad
  | _ => .bad
def mSetd (n : Nat) (k x : D) (M : Mem) : Res RV := match M[n]? with
  | some (.dic false kvs) => if okK kvs k = true ∧ kvs.length < lim then match dget kvs k with
      | some d => .ok (.d d) M
      | none => .ok (.d x) (M.set n (.dic false (dput kvs k x)))
    else .bad
  | _ => .bad
def ddel (kvs : List (D × D)) (k : D) : List (D × D) := kvs.filter fun p => !decide (p.1 = k)
def mDpop (n : Nat) (k x : D) (M : Mem) : Res RV := match M[n]? with
  | some (.dic false kvs) => if okK kvs k = true then match dget kvs k with
      | some d => .ok (.d d) (M.set n (.dic false (ddel kvs k)))
      | none => .ok (.d x) M
    else .bad
  | _ => .bad
/-- dict(xs) of a list of pairs -/
def pairsOf : List D → List (D × D) → Option (List (D × D))
  | [], acc => some acc
  | .tup [k, v] :: r, acc => if isTk k = true then pairsOf r (dput acc k v) else none
  | _, _ => none
def bDict : Op1 := fun r M => match lstOf r M with
  | some ds => match pairsOf ds [] with
    | some kvs => if ds.length ≤ lim then .ok (.o (.dic false kvs)) M else .bad
    | none => .bad
  | none => .bad
/-- o[k] = v -/
def setIx (o k v : D) (M : Mem) : Option Mem := match o with
  | .hdl n => match M[n]? with
    | some (.lst ds) => match k with
      | .int i => match ixN ds.length i with
        | some j => some (M.set n (.lst (ds.set j v)))
        | none => none
      | _ => none
    | some (.dic false kvs) => if okK kvs k = true ∧ kvs.length < lim then some (M.set n (.dic false (dput kvs k v))) else none
    | _ => none
  | _ => none

/-! ### expressions, tests, arguments -/
abbrev Cl := Str → List D → Mem → Res RV
abbrev SE := Cl → Env → Mem → Res RV
abbrev STt := Cl → Env → Mem → Res Bool
abbrev SDs := Cl → Env → Mem → Res (List D)
abbrev SO := Cl → Env → Mem → Res (Option Int)
abbrev SS := Cl → Env → Mem → SR

def eVar (i : Nat) : SE := fun _ r M => match r[i]? with
  | some (some d) => .ok (.d d) M
  | _ => .bad
def eC (d : D) : SE := fun _ _ M => .ok (.d d) M
def e1 (op : Op1) (a : SE) : SE := fun cl r M => (a cl r M).bind op
def e2 (op : Op2) (a b : SE) : SE := fun cl r M => (a cl r M).bind fun x M => (b cl r M).bind fun y M => op x y M
/-- not e as a value -/
def eNot (a : SE) : SE := fun cl r M => (a cl r M).bind fun x M => match truR x M with
  | some b => vB (!b) M
  | none => .bad
def eAnd (a b : SE) : SE := fun cl r M => (a cl r M).bind fun x M => match truR x M with
  | some true => b cl r M
  | some false => .ok x M
  | none => .bad
def eOr (a b : SE) : SE := fun cl r M => (a cl r M).bind fun x M => match truR x M with
  | some true => .ok x M
  | some false => b cl r M
  | none => .bad
def tAnd (a b : STt) : STt := fun cl r M => (a cl r M).bind fun x M => if x = true then b cl r M else .ok false M
def tOr (a b : STt) : STt := fun cl r M => (a cl r M).bind fun x M => if x = true then .ok true M else b cl r M
def tNot (a : STt) : STt := fun cl r M => (a cl r M).bind fun x M => .ok (!x) M
/-- a value's truth -/
def tTru (a : SE) : STt := fun cl r M => (a cl r M).bind fun x M => match truR x M with
  | some b => .ok b M
  | none => .bad
/-- a value that is a truth -/
def tB (a : SE) : STt := fun cl r M => (a cl r M).bind fun x M => match x with
  | .d (.bl b) => .ok b M
  | _ => .bad
def eIf (t : STt) (a b : SE) : SE := fun cl r M => (t cl r M).bind fun x M => if x = true then a cl r M else b cl r M
def dNil : SDs := fun _ _ M => .ok [] M
def dCons (a : SE) (as : SDs) : SDs := fun cl r M => (a cl r M).bind fun x M => (as cl r (box x M).2).bind fun ds M' => .ok ((box x M).1 :: ds) M'
def eTup (as : SDs) : SE := fun cl r M => (as cl r M).bind fun ds M => if ds.length ≤ lim then .ok (.d (.tup ds)) M else .bad
def eLst (as : SDs) : SE := fun cl r M => (as cl r M).bind fun ds M => if ds.length ≤ lim then .ok (.o (.lst ds)) M else .bad
def eDic0 : SE := fun _ _ M => .ok (.o (.dic false [])) M
/-- pairs, key value key value .. -/
def pairUp : List D → List (D × D) → Option (List (D × D))
  | [], acc => some acc
  | k :: v :: r, acc => if isSk k = true then pairUp r (dput acc k v) else none
  | _, _ => none
def eDic (as : SDs) : SE := fun cl r M => (as cl r M).bind fun ds M => match pairUp ds [] with
  | some kvs => if ds.length ≤ 30 then .ok (.o (.dic false kvs)) M else .bad
  | none => .bad
def eCall (f : Str) (as : SDs) : SE := fun cl r M => (as cl r M).bind fun ds M => cl f ds M
def oNone : SO := fun _ _ M => .ok none M
def oSome (a : SE) : SO := fun cl r M => (a cl r M).bind fun x M => match x with
  | .d (.int i) => .ok (some i) M
  | _ => .bad
def eSlice (a : SE) (lo hi : SO) : SE := fun cl r M => (a cl r M).bind fun x M => (lo cl r M).bind fun l M => (hi cl r M).bind fun h M => oSlice x l h M
/-- a method of a list, of one argument: the receiver is a handle -/
def eM1 (m : Nat → D → Mem → Res RV) (o a : SE) : SE := fun cl r M => (o cl r M).bind fun x M => match x with
  | .d (.hdl n) => if (lstT (.d (.hdl n)) M).isSome = true then (a cl r M).bind fun y M => m n (box y M).1 (box y M).2 else .bad
  | _ => .bad

def eM0 (m : Nat → Mem → Res RV) (o : SE) : SE := fun cl r M => (o cl r M).bind fun x M => match x with
  | .d (.hdl n) => if (lstT (.d (.hdl n)) M).isSome = true then m n M else .bad
  | _ => .bad
def eM2 (m : Nat → D → D → Mem → Res RV) (o a b : SE) : SE := fun cl r M => (o cl r M).bind fun x M => match x with
  | .d (.hdl n) => if (lstT (.d (.hdl n)) M).isSome = true then (a cl r M).bind fun y M => (b cl r (box y M).2).bind fun z M2 => m n (box y M).1 (box z M2).1 (box z M2).2 else .bad
  | _ => .bad
/-- a method of a dict, of two arguments -/
def eD2 (m : Nat → D → D → Mem → Res RV) (o a b : SE) : SE := fun cl r M => (o cl r M).bind fun x M => match x with
  | .d (.hdl n) => if (dicOf (.d (.hdl n)) M).isSome = true then (a cl r M).bind fun y M => (b cl r (box y M).2).bind fun z M2 => m n (box y M).1 (box z M2).1 (box z M2).2 else .bad
  | _ => .bad
/-- a method of a list that was just made -/
def eN1 (m : Nat → D → Mem → Res RV) (o a : SE) : SE := fun cl r M => (o cl r M).bind fun x M => match x with
  | .o (.lst ds) => (a cl r (M ++ [.lst ds])).bind fun y M2 => m M.length (box y M2).1 (box y M2).2
  | _ => .bad
def eN0 (m : Nat → Mem → Res RV) (o : SE) : SE := fun cl r M => (o cl r M).bind fun x M => match x with
  | .o (.lst ds) => m M.length (M ++ [.lst ds])
  | _ => .bad
/-- every so many-th -/
def pickS (lo : Nat) (k : Nat) (xs : List D) : List D := (List.range ((xs.length - lo + (k - 1)) / k)).filterMap fun j => xs[lo + k * j]?
/-- tuple(range(n)) -/
def eTupRg (a : SE) : SE := fun cl r M => (a cl r M).bind fun x M => match x with
  | .d (.int n) => if 0 ≤ n ∧ n ≤ 16777216 then .ok (.d (.tup ((List.range n.toNat).map fun (k : Nat) => D.int k))) M else .bad
  | _ => .bad
/-- a[lo:hi:k] of a list, k from 1 on -/
def eStep (a : SE) (lo hi : SO) (k : Nat) : SE := fun cl r M => (a cl r M).bind fun x M => (lo cl r M).bind fun l M => (hi cl r M).bind fun h M => match lstOf x M with
  | some ds => .ok (.o (.lst (pickS (sIx ds.length 0 l) k (ds.take (sIx ds.length ds.length h))))) M
  | none => .bad
/-- a[::-1] of a list -/
def eRev (a : SE) : SE := fun cl r M => (a cl r M).bind fun x M => match lstOf x M with
  | some ds => .ok (.o (.lst ds.reverse)) M
  | none => .bad
/-! ### targets, iterations -/
inductive Tg where
  | nm (i : Nat) | tp (is : List Nat)
def setAll : List Nat → List D → Env → Option Env
  | [], [], r => some r
  | i :: is, d :: ds, r => setAll is ds (r.set i (some d))
  | _, _, _ => none
def asg : Tg → D → Env → Option Env
  | .nm i, d, r => some (r.set i (some d))
  | .tp is, .tup ds, r => setAll is ds r
  | _, _, _ => none
/-- a source: its items, and which list must stay as it is -/
abbrev Chk := List (Nat × O)
def chkOk (c : Chk) (M : Mem) : Bool := c.all fun p => decide (M[p.1]? = some p.2)
abbrev SI := Cl → Env → Mem → Res (List D × Chk)
def chkR : RV → Mem → Chk
  | .d (.hdl n), M => match M[n]? with
    | some (.lst ds) => [(n, .lst ds)]
    | _ => []
  | _, _ => []
/-- a text, sign by sign -/
def strD (t : Str) : List D := t.cps.toList.map fun c => D.str ⟨#[c]⟩
def iSeq (a : SE) : SI := fun cl r M => (a cl r M).bind fun x M => match seqOf x M with
  | some ds => .ok (ds, chkR x M) M
  | none => match x with
    | .d (.str t) => .ok (strD t, []) M
    | _ => .bad
/-- zip(xs, ys) of two lists: the pairs -/
def iZip (a b : SE) : SI := fun cl r M => (a cl r M).bind fun x M => (b cl r M).bind fun y M => match lstOf x M, lstOf y M with
  | some xs, some ys => if xs.length = ys.length then .ok ((xs.zip ys).map fun p => D.tup [p.1, p.2], chkR x M ++ chkR y M) M else .bad
  | _, _ => .bad
def rngD (lo : Int) (n : Nat) : List D := (List.range n).map fun (k : Nat) => D.int (lo + k)
def iRange1 (a : SE) : SI := fun cl r M => (a cl r M).bind fun x M => match x with
  | .d (.int n) => if n < 2 ^ 62 ∧ -(2 ^ 62) ≤ n then .ok (rngD 0 n.toNat, []) M else .bad
  | _ => .bad
def iRange2 (a b : SE) : SI := fun cl r M => (a cl r M).bind fun x M => (b cl r M).bind fun y M => match x, y with
  | .d (.int i), .d (.int j) => if (-(2 ^ 62) ≤ i ∧ i < 2 ^ 62) ∧ -(2 ^ 62) ≤ j ∧ j < 2 ^ 62 then .ok (rngD i (j - i).toNat, []) M else .bad
  | _, _ => .bad
def rngC (lo c : Int) (n : Nat) : List D := (List.range n).map fun (k : Nat) => D.int (lo + k * c)
/-- range(i, j, c), c rising or falling -/
def rgN (i j c : Int) : Nat := if 0 < c then ((j - i + c - 1) / c).toNat else ((i - j - c - 1) / (-c)).toNat
def iRange3 (a b c : SE) : SI := fun cl r M => (a cl r M).bind fun x M => (b cl r M).bind fun y M => (c cl r M).bind fun z M => match x, y, z with
  | .d (.int i), .d (.int j), .d (.int c) => if (-(2 ^ 61) ≤ i ∧ i < 2 ^ 61) ∧ (-(2 ^ 61) ≤ j ∧ j < 2 ^ 61) ∧ c ≠ 0 ∧ c.natAbs < 1000000 then .ok (rngC i c (rgN i j c), []) M else .bad
  | _, _, _ => .bad
def forL (body : Env → Mem → SR) (tg : Tg) (c : Chk) : List D → Env → Mem → SR
  | [], r, M => if chkOk c M then .nx r M else .bad
  | x :: xs, r, M => if chkOk c M then
      match asg tg x r with
      | some r1 => match body r1 M with
        | .nx r2 M2 => forL body tg c xs r2 M2
        | o => o
      | none => .bad
    else .bad
def wipe (r : Env) : List Nat → Env
  | [] => r
  | v :: vs => (wipe r vs).set v none
def Res.calm {A : Type} : Res A → Res A
  | .ok a M => .ok a M
  | _ => .bad
/-- the items of a list comprehension -/
def compL (elt : Env → Mem → Res RV) (tst : Env → Mem → Res Bool) (tg : Tg) (c : Chk) (r : Env) : List D → List D → Mem → Res RV
  | [], acc, M => if chkOk c M then .ok (.o (.lst acc)) M else .bad
  | x :: xs, acc, M => if chkOk c M then
      match asg tg x r with
      | some r1 => (tst r1 M).calm.bind fun b M => if b = true then
          (elt r1 M).calm.bind fun y M => if acc.length < lim then compL elt tst tg c r xs (acc ++ [(box y M).1]) (box y M).2 else .bad
        else compL elt tst tg c r xs acc M
      | none => .bad
    else .bad
def tYes : STt := fun _ _ M => .ok true M
def eComp (elt : SE) (tst : STt) (tg : Tg) (own : List Nat) (it : SI) : SE := fun cl r M => (it cl r M).bind fun p M =>
  compL (elt cl) (tst cl) tg p.2 (wipe r own) p.1 [] M
/-- a slot that holds a dict: its handle and what is in it -/
def dicAt (o : Option (Option D)) (M : Mem) : Option (Nat × List (D × D)) := match o with
  | some (some (.hdl n)) => match M[n]? with
    | some (.dic false kvs) => some (n, kvs)
    | _ => none
  | _ => none
/-- the lock is taken off -/
def unlk (n : Nat) (kvs : List (D × D)) (M : Mem) : Option Mem := if M[n]? = some (.dic true kvs) then some (M.set n (.dic false kvs)) else none
/-- .. over a name, that may hold a dict -/
def eCompN (elt : SE) (tst : STt) (tg : Tg) (own : List Nat) (i : Nat) : SE := fun cl r M => match dicAt r[i]? M with
  | some (n, kvs) => match compL (elt cl) (tst cl) tg [(n, .dic true kvs)] (wipe r own) (kvs.map (·.1)) [] (M.set n (.dic true kvs)) with
    | .ok x M1 => match unlk n kvs M1 with
      | some M2 => .ok x M2
      | none => .bad
    | _ => .bad
  | none => eComp elt tst tg own (iSeq (eVar i)) cl r M
/-! objects of classes -/
def mname (c m : Str) : Str := c ++ "." ++ m
def eFld (o : SE) (f : Str) : SE := fun cl r M => (o cl r M).bind fun x M => match x with
  | .d (.hdl n) => match M[n]? with
    | some (.ins _ fs) => match fs.lookup f with
      | some d => .ok (.d d) M
      | none => .bad
    | _ => .bad
  | _ => .bad
def eMeth (m : Str) (o : SE) (as : SDs) : SE := fun cl r M => (o cl r M).bind fun x M => match x with
  | .d (.hdl n) => match M[n]? with
    | some (.ins c fs) => if (fs.lookup m).isNone = true then (as cl r M).calm.bind fun ds M => cl (mname c m) (.hdl n :: ds) M else .bad
    | _ => .bad
  | _ => .bad
def eNew (c : Str) (as : SDs) : SE := fun cl r M => (as cl r M).bind fun ds M => match cl (mname c "__init__") (.hdl M.length :: ds) (M ++ [.ins c []]) with
  | .ok (.d .non) M1 => .ok (.d (.hdl M.length)) M1
  | _ => .bad
/-! methods of texts -/
def eT1 (m : Str → RV → Mem → Res RV) (o a : SE) : SE := fun cl r M => (o cl r M).bind fun x M => match x with
  | .d (.str s) => (a cl r M).bind fun y M => m s y M
  | _ => .bad

/-! ### statements -/
def ofE (s : Res RV) (r : Env) (f : RV → Mem → SR) : SR := match s with
  | .ok x M => f x M
  | .err c M => .err c r M
  | .bad => .bad
def ofT (s : Res Bool) (r : Env) (f : Bool → Mem → SR) : SR := match s with
  | .ok x M => f x M
  | .err c M => .err c r M
  | .bad => .bad
def ofI (s : Res (List D × Chk)) (r : Env) (f : List D × Chk → Mem → SR) : SR := match s with
  | .ok x M => f x M
  | .err c M => .err c r M
  | .bad => .bad
def sNil : SS := fun _ r M => .nx r M
def sSeq (a b : SS) : SS := fun cl r M => match a cl r M with
  | .nx r M => b cl r M
  | o => o
def sSet (i : Nat) (e : SE) : SS := fun cl r M => ofE (e cl r M) r fun x M => .nx (r.set i (some (box x M).1)) (box x M).2
def sUnp (is : List Nat) (e : SE) : SS := fun cl r M => ofE (e cl r M) r fun x M => match x with
  | .d (.tup ds) => match setAll is ds r with
    | some r => .nx r M
    | none => .bad
  | _ => .bad
def sSetIx (o k e : SE) : SS := fun cl r M => ofE (e cl r M) r fun x M => ofE (o cl r (box x M).2) r fun y M1 => ofE (k cl r M1) r fun z M2 => match y, z with
  | .d y, .d z => match setIx y z (box x M).1 M2 with
    | some M => .nx r M
    | none => .bad
  | _, _ => .bad
def sExpr (e : SE) : SS := fun cl r M => ofE (e cl r M) r fun _ M => .nx r M
def sRet (e : SE) : SS := fun cl r M => ofE (e cl r M) r fun x M => .ret x M
def sRetN : SS := fun _ _ M => .ret (.d .non) M
def sIf (t : STt) (a b : SS) : SS := fun cl r M => ofT (t cl r M) r fun b' M => if b' = true then a cl r M else b cl r M
def sRaise (c : Str) : SS := fun _ r M => .err c r M
def sFor (tg : Tg) (it : SI) (body : SS) : SS := fun cl r M => ofI (it cl r M) r fun p M => forL (body cl) tg p.2 p.1 r M
/-- for x in a name, that may hold a dict -/
def sForN (tg : Tg) (i : Nat) (body : SS) : SS := fun cl r M => match dicAt r[i]? M with
  | some (n, kvs) => match forL (body cl) tg [(n, .dic true kvs)] (kvs.map (·.1)) r (M.set n (.dic true kvs)) with
    | .nx r1 M1 => match unlk n kvs M1 with
      | some M2 => .nx r1 M2
      | none => .bad
    | .ret x M1 => match unlk n kvs M1 with
      | some M2 => .ret x M2
      | none => .bad
    | _ => .bad
  | none => sFor tg (iSeq (eVar i)) body cl r M
def whileL (t : Env → Mem → Res Bool) (body : Env → Mem → SR) : Nat → Env → Mem → SR
  | 0, _, _ => .bad
  | n + 1, r, M => match t r M with
    | .ok b M1 => if b = true then match body r M1 with
        | .nx r2 M2 => whileL t body n r2 M2
        | o => o
      else .nx r M1
    | .err c M1 => .err c r M1
    | .bad => .bad
def sWhile (t : STt) (body : SS) : SS := fun cl r M => whileL (t cl) (body cl) 100000 r M
/-- o.f = e -/
def putF (f : Str) (d : D) : List (Str × D) → List (Str × D)
  | [] => [(f, d)]
  | p :: r => if p.1 = f then (f, d) :: r else p :: putF f d r
def sFld (o : SE) (f : Str) (e : SE) : SS := fun cl r M => ofE (e cl r M) r fun x M => ofE (o cl r (box x M).2) r fun y M1 => match y with
  | .d (.hdl n) => match M1[n]? with
    | some (.ins c fs) => if fs.length < 900 then .nx r (M1.set n (.ins c (putF f (box x M).1 fs))) else .bad
    | _ => .bad
  | _ => .bad
def sPass : SS := fun _ r M => .nx r M
/-- the slot of the clause's name, gone -/
def gone (i : Option Nat) (r : Env) : Env := match i with
  | some i => r.set i none
  | none => r
/-- try: body except X as n: suite; cat: is c caught -/
def sTry (i : Option Nat) (body : SS) (cat : Str → Bool) (suite : Str → SS) : SS := fun cl r M => match body cl r M with
  | .err c r1 M1 => if cat c = true then
      match suite c cl (gone i r1) M1 with
      | .nx r2 M2 => .nx (gone i r2) M2
      | .ret x M2 => .ret x M2
      | _ => .bad
    else .err c r1 M1
  | o => o

def dPairs : List (SE × SE) → SDs
  | [] => dNil
  | p :: r => dCons p.1 (dCons p.2 (dPairs r))
/-! ### what a suite does -/
/-- is a c a d -/
def subX (c d : Str) : Bool := decide (c = d) || (decide (d = "HeldError") || decide (d = "ValueError"))
def catX (exs : List Str) (x : Str) (c : Str) : Bool := decide (c ∈ exs) && subX c x
inductive SuI where
  | isi (neg : Bool) (cs : List Str) | var (j : Nat)
inductive SuS where
  | lst (j : Nat) (add : Bool) (its : List SuI) | con (j : Nat) (b : Bool) | one (j : Nat) (it : SuI)
def SuI.val (c : Str) : SuI → Bool
  | .isi neg cs => if neg = true then !(cs.any (subX c)) else cs.any (subX c)
  | .var _ => true
def SuI.sem (c : Str) : SuI → SE
  | .isi neg cs => eC (.bl (SuI.val c (.isi neg cs)))
  | .var j => eVar j
def suLst (c : Str) : List SuI → SDs
  | [] => dNil
  | s :: r => dCons (s.sem c) (suLst c r)
def SuS.sem (c : Str) : SuS → SS
  | .lst j false its => sSet j (eLst (suLst c its))
  | .lst j true its => sSet j (e2 oAdd (eVar j) (eLst (suLst c its)))
  | .con j b => sSet j (eC (.bl b))
  | .one j it => sSet j (it.sem c)
def suBody (c : Str) : List SuS → SS
  | [] => sNil
  | s :: r => sSeq (s.sem c) (suBody c r)
def sBad : SS := fun _ _ _ => .bad
def suSem (exs : List Str) (spec : List SuS) (c : Str) : SS := if c ∈ exs then suBody c spec else sBad
/-! ### functions -/
inductive Mode where
  | pure | keep
  deriving DecidableEq
structure Fn where
  ar : Nat
  ns : Nat
  mode : Mode
  body : SS
/-- what is handed back: the memory as it was, if nothing of the new is wanted -/
def fin (m : Mode) (M0 : Mem) (x : RV) (M : Mem) : Res RV :=
  match m with
  | .keep => .ok x M
  | .pure => if M.take M0.length = M0 then
      match x with
      | .d (.hdl n) => if n < M0.length then .ok x M0 else
          match M[n]? with
          | some o => if o.bel M0.length = true then .ok (.o o) M0 else .bad
          | none => .bad
      | .d d => if d.bel M0.length = true then .ok x M0 else .bad
      | .o o => if o.bel M0.length = true then .ok x M0 else .bad
    else .bad
def finS (m : Mode) (M0 : Mem) : SR → Res RV
  | .nx _ M => fin m M0 (.d .non) M
  | .ret x M => fin m M0 x M
  | .err c _ M => match m with
    | .keep => .err c M
    | .pure => if M.take M0.length = M0 then .err c M0 else .bad
  | .bad => .bad
def Fn.run (F : Fn) : Cl → List D → Mem → Res RV := fun cl ds M =>
  if ds.length = F.ar then finS F.mode M (F.body cl (ds.map some ++ List.replicate (F.ns - ds.length) none) M) else .bad
abbrev Tab := List (Str × Fn)
def run (T : Tab) : Nat → Cl
  | 0, _, _, _ => .bad
  | n + 1, f, ds, M => match T.lookup f with
    | some F => F.run (run T n) ds M
    | none => .bad
end MI
end
section
set_option Elab.async false
set_option linter.all false
set_option maxRecDepth 100000
set_option maxHeartbeats 4000000
/-! MI2: the small semantics and the heap -/
namespace MI
open PySem PySem.Spec PyProof.Rows L2

theorem lim_eq : lim = sizeLine := rfl
abbrev Sg := List (Option V)
/-- the classes' addresses; the world -/
structure CLs where
  of : Str → Option Addr
  cls : Str → Option Addr
  w : World
instance : CoeFun CLs (fun _ => Str → Option Addr) := ⟨CLs.of⟩
mutual
def toNk : D → NestedKey
  | .int i => .num i
  | .str x => .text x
  | .tup ds => .tup (toNks ds)
  | _ => .none
def toNks : List D → List NestedKey
  | [] => []
  | d :: ds => toNk d :: toNks ds
end
abbrev Ent := NestedKey × Value × Value
/-- a dict: its own object, its entries told one by one -/
structure DT0 (w : World) (h : Heap) (a : Addr) (xs : List Ent) : Prop where
  ob : ∃ o es ep, h.get? a = some o ∧ o.ExactDict ∧ o.data = .dict es ep ∧ es.toList = xs.map fun x => ⟨x.1.hash w, x.2.1, x.2.2⟩
  nd : (xs.map (·.1)).Nodup
  sy : (a == sysModules) = false
  len : xs.length ≤ sizeLine
def dictO (w : World) (a : Addr) (xs : List Ent) : HO := .ext fun h => DT0 w h a xs
/-- u stands at a, locked or not -/
def Lk (fz : Bool) (H : Hp) (a : Addr) (u : HO) : Prop := match fz with
  | false => H a = some u
  | true => ∃ od, H a = some (.frz od u)
/-- a list that is only read -/
def SqF (K : PySem.W.Frag) (H : Hp) (a : Addr) (xs : List V) : Prop :=
  (∃ o, H a = some (.frz o (.lst xs))) ∨
    ∃ (o : Obj) (its : Array Value) (n : Nat), K.lookup a = some o ∧ o.cls = .type "list" ∧ o.dict = none ∧ o.data = .seq its n ∧ its.size ≤ sizeLine ∧ Vals xs its.toList
theorem SqF.sq {K : PySem.W.Frag} {H : Hp} {a : Addr} {xs : List V} (h : SqF K H a xs) : SqL K H a xs := by
  rcases h with ⟨o, h⟩ | h
  · exact .inl (.inr ⟨o, h⟩)
  · exact .inr h

section
variable (K : PySem.W.Frag) (CL : CLs) (mu : List Addr) (H : Hp)
mutual
/-- a value of the layer stands for a datum -/
def Rv : D → V → Prop
  | .non, v => v = .non
  | .bl b, v => v = .bl b
  | .int i, v => v = .int i
  | .str s, v => v = .str s
  | .tup ds, v => ∃ a vs, v = .ref a ∧ SqT K H a vs ∧ Rvs ds vs
  | .hdl n, v => ∃ a, mu[n]? = some a ∧ v = .ref a
  | .ro ds, v => ∃ a vs, v = .ref a ∧ SqF K H a vs ∧ Rvs ds vs
def Rvs : List D → List V → Prop
  | [], vs => vs = []
  | d :: ds, vs => ∃ v r, vs = v :: r ∧ Rv d v ∧ Rvs ds r
end
def Rfs : List (Str × D) → List (Str × V) → Prop
  | [], fs => fs = []
  | p :: r, fs => ∃ v fs', fs = (p.1, v) :: fs' ∧ Rv K mu H p.2 v ∧ Rfs r fs'
def Rdt : List (D × D) → List Ent → Prop
  | [], xs => xs = []
  | p :: r, xs => ∃ kv ku u v xs', xs = (toNk p.1, ku, u) :: xs' ∧ RelV kv ku ∧ Rv K mu H p.1 kv ∧ (isSk p.1 = true ∨ isTk p.1 = true) ∧ RelV v u ∧ Rv K mu H p.2 v ∧ Rdt r xs'
/-- an object of the memory stands at a -/
def Ro : O → Addr → Prop
  | .lst ds, a => ∃ vs, H a = some (.lst vs) ∧ Rvs K mu H ds vs
  | .dic fz kvs, a => ∃ xs, Lk fz H a (dictO CL.w a xs) ∧ Rdt K mu H kvs xs
  | .ins c fs, a => ∃ C dx fs', CL.cls c = some C ∧ H a = some (.ins C dx fs') ∧ Rfs K mu H fs fs'
structure Rm (M : Mem) : Prop where
  len : mu.length = M.length
  nd : mu.Nodup
  ob : ∀ (n : Nat) (a : Addr) (o : O), mu[n]? = some a → M[n]? = some o → Ro K CL mu H o a
structure Rst (r : Env) (σ : Sg) : Prop where
  len : r.length = σ.length
  at_ : ∀ (i : Nat) (d : D), r[i]? = some (some d) → ∃ v, σ[i]? = some (some v) ∧ Rv K mu H d v
/-- an expression's value, made behind H0 if it is a new object -/
def Rr (H0 : Hp) : RV → V → Prop
  | .d d, v => Rv K mu H d v
  | .o o, v => ∃ a, v = .ref a ∧ Ro K CL mu H o a ∧ a ∉ mu ∧ H0 a = none
/-- .. wherever it was made -/
def Rw : RV → V → Prop
  | .d d, v => Rv K mu H d v
  | .o o, v => ∃ a, v = .ref a ∧ Ro K CL mu H o a ∧ a ∉ mu
end
/-- from one state to a later one -/
structure Stp (mu : List Addr) (H : Hp) (mu' : List Addr) (H' : Hp) : Prop where
  pre : ∃ t, mu' = mu ++ t
  new : ∀ a, a ∈ mu' → a ∈ mu ∨ H a = none
  keep : ∀ a o, H a = some o → a ∉ mu → H' a = some o
  frz : ∀ a od u, H a = some (.frz od u) → H' a = some (.frz od u)

section
variable {K : PySem.W.Frag} {CL : CLs} {mu mu' mu1 mu2 : List Addr} {H H0 H' H1 H2 : Hp} {M M' : Mem} {r : Env} {σ : Sg}

theorem Rvs.length : ∀ {ds : List D} {vs : List V}, Rvs K mu H ds vs → ds.length = vs.length
  | [], vs, h => by rw [show vs = [] from h]; rfl
  | d :: ds, _, ⟨v, r, e, _, t⟩ => by rw [e, List.length_cons, List.length_cons, Rvs.length t]
theorem Rvs.get : ∀ {ds : List D} {vs : List V} {i : Nat} {d : D}, Rvs K mu H ds vs → ds[i]? = some d → ∃ v, vs[i]? = some v ∧ Rv K mu H d v
  | [], _, _, _, _, e => by simp at e
  | d :: ds, _, 0, _, ⟨v, r, e, h, _⟩, q => by
    rw [e]; simp at q; subst q; exact ⟨v, rfl, h⟩
  | d :: ds, _, i + 1, _, ⟨v, r, e, _, t⟩, q => by
    rw [e]
    obtain ⟨w, h1, h2⟩ := Rvs.get (i := i) t (by simpa using q)
    exact ⟨w, by simpa using h1, h2⟩
theorem Rvs.append : ∀ {ds es : List D} {vs ws : List V}, Rvs K mu H ds vs → Rvs K mu H es ws → Rvs K mu H (ds ++ es) (vs ++ ws)
  | [], _, _, _, h, t => by rw [show _ = [] from h]; exact t
  | d :: ds, _, _, _, ⟨v, r, e, h, q⟩, t => by rw [e]; exact ⟨v, _, rfl, h, Rvs.append q t⟩
theorem Rvs.one {d : D} {v : V} (h : Rv K mu H d v) : Rvs K mu H [d] [v] := ⟨v, [], rfl, h, rfl⟩
theorem Rvs.take : ∀ {ds : List D} {vs : List V} (n : Nat), Rvs K mu H ds vs → Rvs K mu H (ds.take n) (vs.take n)
  | _, _, 0, _ => rfl
  | [], _, n + 1, h => by rw [show _ = [] from h]; rfl
  | d :: ds, _, n + 1, ⟨v, r, e, h, q⟩ => by rw [e]; exact ⟨v, _, rfl, h, Rvs.take n q⟩
theorem Rvs.drop : ∀ {ds : List D} {vs : List V} (n : Nat), Rvs K mu H ds vs → Rvs K mu H (ds.drop n) (vs.drop n)
  | _, _, 0, h => h
  | [], _, n + 1, h => by rw [show _ = [] from h]; rfl
  | d :: ds, _, n + 1, ⟨v, r, e, h, q⟩ => by rw [e]; exact Rvs.drop n q
theorem Rvs.set : ∀ {ds : List D} {vs : List V} {d : D} {v : V} (i : Nat), Rvs K mu H ds vs → Rv K mu H d v → Rvs K mu H (ds.set i d) (vs.set i v)
  | [], _, _, _, _, h, _ => by rw [show _ = [] from h]; rfl
  | d :: ds, _, _, _, 0, ⟨v, r, e, h, q⟩, h2 => by rw [e]; exact ⟨_, _, rfl, h2, q⟩
  | d :: ds, _, _, _, i + 1, ⟨v, r, e, h, q⟩, h2 => by rw [e]; exact ⟨_, _, rfl, h, Rvs.set i q h2⟩
theorem Rvs.eraseIdx : ∀ {ds : List D} {vs : List V} (i : Nat), Rvs K mu H ds vs → Rvs K mu H (ds.eraseIdx i) (vs.eraseIdx i)
  | [], _, _, h => by rw [show _ = [] from h]; rfl
  | d :: ds, _, 0, ⟨v, r, e, h, q⟩ => by rw [e]; exact q
  | d :: ds, _, i + 1, ⟨v, r, e, h, q⟩ => by rw [e]; exact ⟨_, _, rfl, h, Rvs.eraseIdx i q⟩
theorem Rvs.dropLast {ds : List D} {vs : List V} (h : Rvs K mu H ds vs) : Rvs K mu H ds.dropLast vs.dropLast := by
  rw [List.dropLast_eq_take, List.dropLast_eq_take, h.length]; exact h.take _
theorem Rvs.ints : ∀ {ns : List Int} {vs : List V}, Rvs K mu H (ns.map D.int) vs → vs = ns.map V.int
  | [], _, h => h
  | n :: ns, _, ⟨v, r, e, h, t⟩ => by rw [e, show v = V.int n from h, Rvs.ints t]; rfl
theorem Rvs.of_ints : ∀ (ns : List Int), Rvs K mu H (ns.map D.int) (ns.map V.int)
  | [] => rfl
  | n :: ns => ⟨_, _, rfl, rfl, Rvs.of_ints ns⟩

/-! ### tracked objects -/
theorem Rm.get (R : Rm K CL mu H M) {a : Addr} (h : a ∈ mu) : ∃ (n : Nat) (o : O), mu[n]? = some a ∧ M[n]? = some o ∧ Ro K CL mu H o a := by
  obtain ⟨n, hn, e⟩ := List.mem_iff_getElem.mp h
  have hm : n < M.length := by rw [← R.len]; exact hn
  have e1 : mu[n]? = some a := by rw [List.getElem?_eq_getElem hn, e]
  exact ⟨n, M[n], e1, List.getElem?_eq_getElem hm, R.ob n a _ e1 (List.getElem?_eq_getElem hm)⟩
/-- what may stand at a tracked address -/
def isMut : HO → Bool
  | .lst _ => true
  | .dK _ => true
  | .ins _ _ _ => true
  | .ext _ => true
  | .frz _ (.ext _) => true
  | _ => false
theorem Ro.ho {o : O} {a : Addr} (h : Ro K CL mu H o a) : ∃ u, H a = some u ∧ isMut u = true := by
  cases o with
  | lst ds => obtain ⟨vs, e, _⟩ := h; exact ⟨_, e, rfl⟩
  | dic fz kvs =>
    obtain ⟨vs, e, _⟩ := h
    cases fz with
    | false => exact ⟨_, e, rfl⟩
    | true => obtain ⟨od, e⟩ := e; exact ⟨_, e, rfl⟩
  | ins c fs => obtain ⟨C, dx, fs', _, e, _⟩ := h; exact ⟨_, e, rfl⟩
theorem Rm.ho (R : Rm K CL mu H M) {a : Addr} (h : a ∈ mu) : ∃ u, H a = some u ∧ isMut u = true := let ⟨_, _, _, _, q⟩ := R.get h; q.ho
theorem Rm.out (R : Rm K CL mu H M) {a : Addr} {u : HO} (e : H a = some u) (n : isMut u = false) : a ∉ mu := fun h => by
  obtain ⟨w, q, z⟩ := R.ho h
  rw [e] at q; cases q; rw [n] at z; cases z
theorem Rm.fresh (R : Rm K CL mu H M) {a : Addr} (e : H a = none) : a ∉ mu := fun h => by
  obtain ⟨w, q, z⟩ := R.ho h
  rw [e] at q; cases q

/-! ### steps -/
theorem Stp.refl : Stp mu H mu H := ⟨⟨[], by simp⟩, fun a h => .inl h, fun a o e _ => e, fun a od u e => e⟩
theorem Stp.trans (a : Stp mu H mu1 H1) (b : Stp mu1 H1 mu2 H2) (R : Rm K CL mu1 H1 M) : Stp mu H mu2 H2 := by
  obtain ⟨t1, e1⟩ := a.pre
  obtain ⟨t2, e2⟩ := b.pre
  refine ⟨⟨t1 ++ t2, by rw [e2, e1, List.append_assoc]⟩, fun x hx => ?_, fun x o e n => ?_, fun x od u e => b.frz x od u (a.frz x od u e)⟩
  · rcases b.new x hx with h | h
    · exact a.new x h
    · by_cases hm : x ∈ mu
      · exact .inl hm
      · right
        cases q : H x with
        | none => rfl
        | some u => rw [a.keep x u q hm] at h; cases h
  · have q := a.keep x o e n
    refine b.keep x o q fun hx => ?_
    rcases a.new x hx with h | h
    · exact n h
    · rw [e] at h; cases h
theorem Stp.get (s : Stp mu H mu' H') {n : Nat} {a : Addr} (e : mu[n]? = some a) : mu'[n]? = some a := by
  obtain ⟨t, q⟩ := s.pre
  rw [q, List.getElem?_append_left (List.getElem?_eq_some_iff.mp e).1, e]
theorem Stp.mem (s : Stp mu H mu' H') {a : Addr} (h : a ∈ mu) : a ∈ mu' := by
  obtain ⟨t, q⟩ := s.pre
  rw [q]; exact List.mem_append_left _ h
/-- what is new to the later state was new to the elder one -/
theorem Stp.free (s : Stp mu H mu' H') (R : Rm K CL mu' H' M) {a : Addr} (e : H' a = none) : H a = none := by
  cases q : H a with
  | none => rfl
  | some u =>
    by_cases h : a ∈ mu
    · obtain ⟨w, z, _⟩ := R.ho (s.mem h)
      rw [e] at z; cases z
    · rw [s.keep a u q h] at e; cases e
theorem Stp.out (s : Stp mu H mu' H') {a : Addr} {u : HO} (e : H a = some u) (h : a ∉ mu) : a ∉ mu' := fun z => by
  rcases s.new a z with q | q
  · exact h q
  · rw [e] at q; cases q
theorem SqT.stp {a : Addr} {vs : List V} (R : Rm K CL mu H M) (s : Stp mu H mu' H') (h : SqT K H a vs) : SqT K H' a vs := by
  rcases h with (h | ⟨o, h⟩) | h
  · exact .inl (.inl (s.keep _ _ h (R.out h rfl)))
  · exact .inl (.inr ⟨o, s.frz _ _ _ h⟩)
  · exact .inr h
theorem SqF.stp {a : Addr} {vs : List V} (R : Rm K CL mu H M) (s : Stp mu H mu' H') (h : SqF K H a vs) : SqF K H' a vs := by
  rcases h with ⟨o, h⟩ | h
  · exact .inl ⟨o, s.frz _ _ _ h⟩
  · exact .inr h
end
end MI
end
section
set_option Elab.async false
set_option linter.all false
set_option maxRecDepth 100000
set_option maxHeartbeats 4000000
namespace MI
open PySem PySem.Spec PyProof.Rows L2
section
variable {K : PySem.W.Frag} {CL : CLs} {mu mu' mu1 mu2 : List Addr} {H H0 H' H1 H2 : Hp} {M M' M1 : Mem} {r : Env} {σ : Sg}
/-! ### values last -/
mutual
theorem Rv.stp (R : Rm K CL mu H M) (s : Stp mu H mu' H') : ∀ {d : D} {v : V}, Rv K mu H d v → Rv K mu' H' d v
  | .non, _, h => h
  | .bl _, _, h => h
  | .int _, _, h => h
  | .str _, _, h => h
  | .tup ds, _, ⟨a, vs, e, h, t⟩ => ⟨a, vs, e, SqT.stp R s h, Rvs.stp R s t⟩
  | .hdl n, _, ⟨a, e, q⟩ => ⟨a, s.get e, q⟩
  | .ro ds, _, ⟨a, vs, e, h, t⟩ => ⟨a, vs, e, h.stp R s, Rvs.stp R s t⟩
theorem Rvs.stp (R : Rm K CL mu H M) (s : Stp mu H mu' H') : ∀ {ds : List D} {vs : List V}, Rvs K mu H ds vs → Rvs K mu' H' ds vs
  | [], _, h => h
  | _ :: _, _, ⟨v, r, e, h, t⟩ => ⟨v, r, e, Rv.stp R s h, Rvs.stp R s t⟩
end
theorem Rfs.stp (R : Rm K CL mu H M) (s : Stp mu H mu' H') : ∀ {ds : List (Str × D)} {vs : List (Str × V)}, Rfs K mu H ds vs → Rfs K mu' H' ds vs
  | [], _, h => h
  | _ :: _, _, ⟨v, r, e, h, t⟩ => ⟨v, r, e, h.stp R s, Rfs.stp R s t⟩
theorem Rdt.stp (R : Rm K CL mu H M) (s : Stp mu H mu' H') : ∀ {ds : List (D × D)} {vs : List Ent}, Rdt K mu H ds vs → Rdt K mu' H' ds vs
  | [], _, h => h
  | _ :: _, _, ⟨kv, ku, u, v, r, e, h0, h, h2, h3, h4, t⟩ => ⟨kv, ku, u, v, r, e, h0, h.stp R s, h2, h3, h4.stp R s, Rdt.stp R s t⟩
theorem Lk.at {fz : Bool} {a : Addr} {u : HO} (h : Lk fz H a u) (k : H' a = H a) : Lk fz H' a u := by
  cases fz with
  | false => exact k.trans h
  | true => obtain ⟨od, e⟩ := h; exact ⟨od, k.trans e⟩
/-- an object whose own place is kept -/
theorem Ro.stp (R : Rm K CL mu H M) (s : Stp mu H mu' H') {o : O} {a : Addr} (h : Ro K CL mu H o a) (k : H' a = H a) : Ro K CL mu' H' o a := by
  cases o with
  | lst ds => obtain ⟨vs, e, t⟩ := h; exact ⟨vs, k.trans e, t.stp R s⟩
  | dic fz kvs => obtain ⟨vs, e, t⟩ := h; exact ⟨vs, e.at k, t.stp R s⟩
  | ins c fs => obtain ⟨C, dx, fs', c', e, t⟩ := h; exact ⟨C, dx, fs', c', k.trans e, t.stp R s⟩
theorem Rw.stp (R : Rm K CL mu H M) (s : Stp mu H mu' H') {x : RV} {v : V} (h : Rw K CL mu H x v) : Rw K CL mu' H' x v := by
  cases x with
  | d d => exact Rv.stp R s h
  | o o =>
    obtain ⟨a, e, h, n⟩ := h
    obtain ⟨u, q, _⟩ := h.ho
    exact ⟨a, e, h.stp R s ((s.keep _ _ q n).trans q.symm), s.out q n⟩
theorem Rr.w {x : RV} {v : V} (h : Rr K CL mu H H0 x v) : Rw K CL mu H x v := by
  cases x with
  | d d => exact h
  | o o => obtain ⟨a, e, h, n, _⟩ := h; exact ⟨a, e, h, n⟩
theorem Rr.base (s : Stp mu1 H1 mu2 H2) (R : Rm K CL mu2 H2 M) {x : RV} {v : V} (h : Rr K CL mu H H2 x v) : Rr K CL mu H H1 x v := by
  cases x with
  | d d => exact h
  | o o => obtain ⟨a, e, h, n, z⟩ := h; exact ⟨a, e, h, n, s.free R z⟩
theorem Rst.stp (R : Rm K CL mu H M) (s : Stp mu H mu' H') (h : Rst K mu H r σ) : Rst K mu' H' r σ :=
  ⟨h.len, fun i d e => let ⟨v, q, z⟩ := h.at_ i d e; ⟨v, q, z.stp R s⟩⟩
theorem Rst.set (h : Rst K mu H r σ) {i : Nat} {d : D} {v : V} (q : Rv K mu H d v) : Rst K mu H (r.set i (some d)) (σ.set i (some v)) := by
  refine ⟨by rw [List.length_set, List.length_set, h.len], fun j e he => ?_⟩
  by_cases hj : i = j
  · subst hj
    have hl : i < r.length := by
      have := (List.getElem?_eq_some_iff.mp he).1
      simpa using this
    rw [List.getElem?_set_self hl] at he
    simp only [Option.some.injEq] at he
    subst he
    exact ⟨v, by rw [List.getElem?_set_self (by rw [← h.len]; exact hl)], q⟩
  · rw [List.getElem?_set_ne hj] at he
    obtain ⟨w, h1, h2⟩ := h.at_ j e he
    exact ⟨w, by rw [List.getElem?_set_ne hj]; exact h1, h2⟩
theorem Rst.gone (h : Rst K mu H r σ) (i : Nat) {x : Option V} : Rst K mu H (r.set i none) (σ.set i x) := by
  refine ⟨by rw [List.length_set, List.length_set, h.len], fun j e he => ?_⟩
  by_cases hj : i = j
  · subst hj
    have hl : i < r.length := by
      have := (List.getElem?_eq_some_iff.mp he).1
      simpa using this
    rw [List.getElem?_set_self hl] at he
    simp at he
  · rw [List.getElem?_set_ne hj] at he
    obtain ⟨w, h1, h2⟩ := h.at_ j e he
    exact ⟨w, by rw [List.getElem?_set_ne hj]; exact h1, h2⟩
theorem Rst.wipe (h : Rst K mu H r σ) : ∀ vs : List Nat, Rst K mu H (MI.wipe r vs) (L2.wipe σ vs)
  | [] => h
  | v :: vs => (Rst.wipe h vs).gone v

/-! ### a new object is laid; boxed; written -/
theorem Stp.laid (R : Rm K CL mu H M) {p : Addr} {u : HO} (n : H p = none) : Stp mu H mu (upd H p u) :=
  ⟨⟨[], by simp⟩, fun a h => .inl h, fun a o e _ => by rw [upd_ne (ne_of_none e n)]; exact e, fun a od u e => by rw [upd_ne (ne_of_none e n)]; exact e⟩
theorem Rm.stp (R : Rm K CL mu H M) (s : Stp mu H mu H') (k : ∀ a ∈ mu, H' a = H a) : Rm K CL mu H' M :=
  ⟨R.len, R.nd, fun n a o e1 e2 => (R.ob n a o e1 e2).stp R s (k a (List.mem_of_getElem? e1))⟩
theorem Rm.laid (R : Rm K CL mu H M) {p : Addr} {u : HO} (n : H p = none) : Rm K CL mu (upd H p u) M :=
  R.stp (Stp.laid R n) fun a h => upd_ne fun e => R.fresh (e ▸ n) h
/-! the same heap, more tracked -/
mutual
theorem Rv.ext (t : List Addr) : ∀ {d : D} {v : V}, Rv K mu H d v → Rv K (mu ++ t) H d v
  | .non, _, h => h
  | .bl _, _, h => h
  | .int _, _, h => h
  | .str _, _, h => h
  | .tup ds, _, ⟨a, vs, e, h, q⟩ => ⟨a, vs, e, h, Rvs.ext t q⟩
  | .hdl n, _, ⟨a, e, q⟩ => ⟨a, by rw [List.getElem?_append_left (List.getElem?_eq_some_iff.mp e).1, e], q⟩
  | .ro ds, _, ⟨a, vs, e, h, q⟩ => ⟨a, vs, e, h, Rvs.ext t q⟩
theorem Rvs.ext (t : List Addr) : ∀ {ds : List D} {vs : List V}, Rvs K mu H ds vs → Rvs K (mu ++ t) H ds vs
  | [], _, h => h
  | _ :: _, _, ⟨v, r, e, h, q⟩ => ⟨v, r, e, Rv.ext t h, Rvs.ext t q⟩
end
theorem Rfs.ext (t : List Addr) : ∀ {ds : List (Str × D)} {vs : List (Str × V)}, Rfs K mu H ds vs → Rfs K (mu ++ t) H ds vs
  | [], _, h => h
  | _ :: _, _, ⟨v, r, e, h, q⟩ => ⟨v, r, e, h.ext t, Rfs.ext t q⟩
theorem Rdt.ext (t : List Addr) : ∀ {ds : List (D × D)} {vs : List Ent}, Rdt K mu H ds vs → Rdt K (mu ++ t) H ds vs
  | [], _, h => h
  | _ :: _, _, ⟨kv, ku, u, v, r, e, h0, h, h2, h3, h4, q⟩ => ⟨kv, ku, u, v, r, e, h0, h.ext t, h2, h3, h4.ext t, Rdt.ext t q⟩
theorem Ro.ext (t : List Addr) {o : O} {a : Addr} (h : Ro K CL mu H o a) : Ro K CL (mu ++ t) H o a := by
  cases o with
  | lst ds => obtain ⟨vs, e, q⟩ := h; exact ⟨vs, e, q.ext t⟩
  | dic fz kvs => obtain ⟨vs, e, q⟩ := h; exact ⟨vs, e, q.ext t⟩
  | ins c fs => obtain ⟨C, dx, fs', c', e, q⟩ := h; exact ⟨C, dx, fs', c', e, q.ext t⟩
theorem Rst.ext (t : List Addr) (h : Rst K mu H r σ) : Rst K (mu ++ t) H r σ :=
  ⟨h.len, fun i d e => let ⟨v, q, z⟩ := h.at_ i d e; ⟨v, q, z.ext t⟩⟩
/-- an object of our own is tracked from now on -/
theorem Rm.track (R : Rm K CL mu H M) {o : O} {a : Addr} (h : Ro K CL mu H o a) (n : a ∉ mu) : Rm K CL (mu ++ [a]) H (M ++ [o]) := by
  refine ⟨by simp [R.len], List.nodup_append.mpr ⟨R.nd, by simp, fun x hx y hy => ?_⟩, fun m b o' e1 e2 => ?_⟩
  · simp only [List.mem_singleton] at hy
    subst hy
    exact fun z => n (z ▸ hx)
  · by_cases hm : m < mu.length
    · rw [List.getElem?_append_left hm] at e1
      rw [List.getElem?_append_left (by rw [← R.len]; exact hm)] at e2
      exact (R.ob m b o' e1 e2).ext [a]
    · have hl : m < (mu ++ [a]).length := (List.getElem?_eq_some_iff.mp e1).1
      simp only [List.length_append, List.length_cons, List.length_nil, Nat.zero_add] at hl
      have hm' : m = mu.length := by omega
      subst hm'
      rw [List.getElem?_append_right (Nat.le_refl _), Nat.sub_self] at e1
      rw [R.len, List.getElem?_append_right (Nat.le_refl _), Nat.sub_self] at e2
      simp only [List.getElem?_cons_zero, Option.some.injEq] at e1 e2
      subst e1; subst e2
      exact h.ext [a]
theorem Rm.box (R : Rm K CL mu H M) {x : RV} {v : V} (h : Rr K CL mu H H0 x v) (s0 : Stp mu1 H0 mu H) :
    ∃ t, Rm K CL (mu ++ t) H (MI.box x M).2 ∧ Stp mu1 H0 (mu ++ t) H ∧ Rv K (mu ++ t) H (MI.box x M).1 v := by
  cases x with
  | d d => exact ⟨[], by rw [List.append_nil]; exact R, by rw [List.append_nil]; exact s0, by rw [List.append_nil]; exact h⟩
  | o o =>
    obtain ⟨a, e, h, n, z⟩ := h
    refine ⟨[a], R.track h n, ⟨?_, fun b hb => ?_, s0.keep, s0.frz⟩, ?_⟩
    · obtain ⟨t, q⟩ := s0.pre
      exact ⟨t ++ [a], by rw [q, List.append_assoc]⟩
    · rcases List.mem_append.mp hb with hb | hb
      · exact s0.new b hb
      · simp only [List.mem_singleton] at hb
        subst hb
        exact .inr z
    · exact ⟨a, by rw [show M.length = mu.length from R.len.symm, List.getElem?_append_right (Nat.le_refl _), Nat.sub_self]; rfl, e⟩
/-- a tracked object is written -/
theorem Stp.write {n : Nat} {a : Addr} {u : HO} (h : mu[n]? = some a) (nf : ∀ od v, H a ≠ some (.frz od v)) : Stp mu H mu (upd H a u) :=
  ⟨⟨[], by simp⟩, fun a h => .inl h, fun b o e z => by
    have nb : b ≠ a := fun q => z (by rw [q]; exact List.mem_of_getElem? h)
    rw [upd_ne nb]; exact e, fun b od v e => by
    have nb : b ≠ a := fun q => nf od v (by rw [← q]; exact e)
    rw [upd_ne nb]; exact e⟩
theorem Rm.write (R : Rm K CL mu H M) {n : Nat} {a : Addr} {u : HO} {o : O} (h : mu[n]? = some a) (nf : ∀ od v, H a ≠ some (.frz od v)) (q : Ro K CL mu (upd H a u) o a) : Rm K CL mu (upd H a u) (M.set n o) := by
  refine ⟨by simp [R.len], R.nd, fun m b o' e1 e2 => ?_⟩
  by_cases hm : n = m
  · subst hm
    rw [h] at e1; cases e1
    have hl : n < M.length := by rw [← R.len]; exact (List.getElem?_eq_some_iff.mp h).1
    rw [List.getElem?_set_self hl] at e2
    simp only [Option.some.injEq] at e2
    subst e2; exact q
  · rw [List.getElem?_set_ne hm] at e2
    refine (R.ob m b o' e1 e2).stp R (Stp.write h nf) (upd_ne fun e => hm ?_)
    subst e
    obtain ⟨h1, q1⟩ := List.getElem?_eq_some_iff.mp h
    obtain ⟨h2, q2⟩ := List.getElem?_eq_some_iff.mp e1
    exact (List.getElem_inj R.nd).mp (q1.trans q2.symm)
end

/-! ### what is wanted behind a run -/
section
variable (K : PySem.W.Frag) (CL : CLs) (W : WX) (σ : Sg)
def Pst {A : Type} (mu : List Addr) (H : Hp) (res : Res A) (k : A → Mem → List Addr → Hp → Prop) : Prop :=
  match res with
  | .ok x M' => ∀ mu' H', Stp mu H mu' H' → Rm K CL mu' H' M' → k x M' mu' H'
  | .err c M' => ∀ mu' H' C, CL c = some C → Stp mu H mu' H' → Rm K CL mu' H' M' → W (.ref C) none σ H'
  | .bad => False
/-- an expression's reading -/
def rE (cl : Cl) (s : SE) : TE := fun σ H Q => ∃ mu r M, Rm K CL mu H M ∧ Rst K mu H r σ ∧ Pst K CL W σ mu H (s cl r M) fun x _ mu' H' => ∀ v, Rr K CL mu' H' H x v → Q v H'
def rT (cl : Cl) (s : STt) : TT := fun σ H Q => ∃ mu r M, Rm K CL mu H M ∧ Rst K mu H r σ ∧ Pst K CL W σ mu H (s cl r M) fun x _ _ H' => Q x H'
def rDs (cl : Cl) (s : SDs) : TA := fun σ H Q => ∃ mu r M, Rm K CL mu H M ∧ Rst K mu H r σ ∧ Pst K CL W σ mu H (s cl r M) fun x _ mu' H' => ∀ vs, Rvs K mu' H' x vs → Q vs H'
def rO (cl : Cl) (s : SO) : TO := fun σ H Q => ∃ mu r M, Rm K CL mu H M ∧ Rst K mu H r σ ∧ Pst K CL W σ mu H (s cl r M) fun x _ _ H' => Q x H'
end
section
variable {K : PySem.W.Frag} {CL : CLs} {W : WX} {σ : Sg} {mu mu1 : List Addr} {H H1 : Hp} {M M1 : Mem} {r : Env} {cl : Cl}
theorem Pst.mono {A : Type} {res : Res A} {k k' : A → Mem → List Addr → Hp → Prop} (h : Pst K CL W σ mu H res k)
    (q : ∀ x M' mu' H', Stp mu H mu' H' → Rm K CL mu' H' M' → k x M' mu' H' → k' x M' mu' H') : Pst K CL W σ mu H res k' := by
  cases res with
  | ok x M' => exact fun mu' H' s R => q x M' mu' H' s R (h mu' H' s R)
  | err c M' => exact h
  | bad => exact h
/-- from a later state -/
theorem Pst.from {A : Type} {res : Res A} {k : A → Mem → List Addr → Hp → Prop} (h : Pst K CL W σ mu H res k) (s : Stp mu H mu1 H1) (R : Rm K CL mu1 H1 M1) : Pst K CL W σ mu1 H1 res k := by
  cases res with
  | ok x M' => exact fun mu' H' s' R' => h mu' H' (s.trans s' R) R'
  | err c M' => exact fun mu' H' C e s' R' => h mu' H' C e (s.trans s' R) R'
  | bad => exact h
theorem Pst.bind {A B : Type} {res : Res A} {f : A → Mem → Res B} {k : B → Mem → List Addr → Hp → Prop} (h : Pst K CL W σ mu H (res.bind f) k) :
    Pst K CL W σ mu H res fun x M1 mu1 H1 => Pst K CL W σ mu1 H1 (f x M1) k := by
  cases res with
  | ok x M' => exact fun mu' H' s R => Pst.from (show Pst K CL W σ mu H (f x M') k from h) s R
  | err c M' => exact h
  | bad => exact h
end
end MI
end
section
set_option Elab.async false
set_option linter.all false
set_option maxRecDepth 100000
set_option maxHeartbeats 4000000
namespace MI
open PySem PySem.Spec PyProof.Rows L2
section
variable {X : Cx} {e : Expr}
theorem pe_imp {t t' : TE} (h : PE X e t) (q : ∀ σ H Q, t' σ H Q → t σ H Q) : PE X e t' := ⟨fun pins s σ H Q I w => h.run pins s σ H Q I (q σ H Q w)⟩
theorem pt_imp {t t' : TT} (h : PT X e t) (q : ∀ σ H Q, t' σ H Q → t σ H Q) : PT X e t' := ⟨fun pins s σ H Q I w => h.run pins s σ H Q I (q σ H Q w)⟩
theorem pa_imp {es : List Expr} {t t' : TA} (h : PA X es t) (q : ∀ σ H Q, t' σ H Q → t σ H Q) : PA X es t' := ⟨fun pos pins s σ H Q I w => h.run pos pins s σ H Q I (q σ H Q w)⟩
theorem po_imp {o : Option Expr} {t t' : TO} (h : PO X o t) (q : ∀ σ H Q, t' σ H Q → t σ H Q) : PO X o t' := ⟨fun pins s σ H Q I w => h.run pins s σ H Q I (q σ H Q w)⟩
theorem ps_imp {st : Stmt} {t t' : TS} (h : PS X st t) (q : ∀ D σ H, t' D σ H → t D σ H) : PS X st t' := ⟨fun pins s σ H D I w => h.run pins s σ H D I (q D σ H w)⟩
theorem pss_imp {st : List Stmt} {t t' : TS} (h : PSs X st t) (q : ∀ D σ H, t' D σ H → t D σ H) : PSs X st t' := ⟨fun pins s σ H D I w => h.run pins s σ H D I (q D σ H w)⟩
end
section
variable {K : PySem.W.Frag} {CL : CLs} {W : WX} {σ : Sg} {mu mu1 : List Addr} {H H0 H1 : Hp} {M M1 : Mem} {r : Env} {cl : Cl}
theorem rE.imp {s : SE} {Q Q' : VK} (h : rE K CL W cl s σ H Q) (q : ∀ v H', Q v H' → Q' v H') : rE K CL W cl s σ H Q' :=
  let ⟨mu, r, M, a, b, p⟩ := h
  ⟨mu, r, M, a, b, p.mono fun _ _ _ _ _ _ z v hv => q _ _ (z v hv)⟩
theorem rT.imp {s : STt} {Q Q' : Bool → Hp → Prop} (h : rT K CL W cl s σ H Q) (q : ∀ v H', Q v H' → Q' v H') : rT K CL W cl s σ H Q' :=
  let ⟨mu, r, M, a, b, p⟩ := h
  ⟨mu, r, M, a, b, p.mono fun _ _ _ _ _ _ z => q _ _ z⟩
theorem rDs.imp {s : SDs} {Q Q' : List V → Hp → Prop} (h : rDs K CL W cl s σ H Q) (q : ∀ v H', Q v H' → Q' v H') : rDs K CL W cl s σ H Q' :=
  let ⟨mu, r, M, a, b, p⟩ := h
  ⟨mu, r, M, a, b, p.mono fun _ _ _ _ _ _ z v hv => q _ _ (z v hv)⟩
theorem rO.imp {s : SO} {Q Q' : Option Int → Hp → Prop} (h : rO K CL W cl s σ H Q) (q : ∀ v H', Q v H' → Q' v H') : rO K CL W cl s σ H Q' :=
  let ⟨mu, r, M, a, b, p⟩ := h
  ⟨mu, r, M, a, b, p.mono fun _ _ _ _ _ _ z => q _ _ z⟩
/-- a state behind an expression, and what is still to be run -/
structure Nxt (K : PySem.W.Frag) (CL : CLs) (σ : Sg) (mu : List Addr) (H : Hp) (r : Env) (M1 : Mem) (mu1 : List Addr) (H1 : Hp) : Prop where
  rm : Rm K CL mu1 H1 M1
  rs : Rst K mu1 H1 r σ
  st : Stp mu H mu1 H1
theorem rE_then {A : Type} {s : SE} {f : RV → Mem → Res A} {k : A → Mem → List Addr → Hp → Prop} (hm : Rm K CL mu H M) (hs : Rst K mu H r σ)
    (h : Pst K CL W σ mu H ((s cl r M).bind f) k) {Q : VK} (q : ∀ x v M1 mu1 H1, Nxt K CL σ mu H r M1 mu1 H1 → Rr K CL mu1 H1 H x v → Pst K CL W σ mu1 H1 (f x M1) k → Q v H1) : rE K CL W cl s σ H Q :=
  ⟨mu, r, M, hm, hs, h.bind.mono fun x M' mu' H' st R z v hv => q x v M' mu' H' ⟨R, hs.stp hm st, st⟩ hv z⟩
theorem rT_then {A : Type} {s : STt} {f : Bool → Mem → Res A} {k : A → Mem → List Addr → Hp → Prop} (hm : Rm K CL mu H M) (hs : Rst K mu H r σ)
    (h : Pst K CL W σ mu H ((s cl r M).bind f) k) {Q : Bool → Hp → Prop} (q : ∀ x M1 mu1 H1, Nxt K CL σ mu H r M1 mu1 H1 → Pst K CL W σ mu1 H1 (f x M1) k → Q x H1) : rT K CL W cl s σ H Q :=
  ⟨mu, r, M, hm, hs, h.bind.mono fun x M' mu' H' st R z => q x M' mu' H' ⟨R, hs.stp hm st, st⟩ z⟩
theorem rDs_then {A : Type} {s : SDs} {f : List D → Mem → Res A} {k : A → Mem → List Addr → Hp → Prop} (hm : Rm K CL mu H M) (hs : Rst K mu H r σ)
    (h : Pst K CL W σ mu H ((s cl r M).bind f) k) {Q : List V → Hp → Prop} (q : ∀ x v M1 mu1 H1, Nxt K CL σ mu H r M1 mu1 H1 → Rvs K mu1 H1 x v → Pst K CL W σ mu1 H1 (f x M1) k → Q v H1) : rDs K CL W cl s σ H Q :=
  ⟨mu, r, M, hm, hs, h.bind.mono fun x M' mu' H' st R z v hv => q x v M' mu' H' ⟨R, hs.stp hm st, st⟩ hv z⟩
theorem rO_then {A : Type} {s : SO} {f : Option Int → Mem → Res A} {k : A → Mem → List Addr → Hp → Prop} (hm : Rm K CL mu H M) (hs : Rst K mu H r σ)
    (h : Pst K CL W σ mu H ((s cl r M).bind f) k) {Q : Option Int → Hp → Prop} (q : ∀ x M1 mu1 H1, Nxt K CL σ mu H r M1 mu1 H1 → Pst K CL W σ mu1 H1 (f x M1) k → Q x H1) : rO K CL W cl s σ H Q :=
  ⟨mu, r, M, hm, hs, h.bind.mono fun x M' mu' H' st R z => q x M' mu' H' ⟨R, hs.stp hm st, st⟩ z⟩
/-- .. what is left, told from the start -/
theorem Pst.bindB {A B : Type} {res : Res A} {f : A → Mem → Res B} {k : B → Mem → List Addr → Hp → Prop} (h : Pst K CL W σ mu H (res.bind f) k) :
    Pst K CL W σ mu H res fun x M1 _ _ => Pst K CL W σ mu H (f x M1) k := by
  cases res with
  | ok x M' => exact fun mu' H' s R => h
  | err c M' => exact h
  | bad => exact h
theorem rE_thenB {A : Type} {s : SE} {f : RV → Mem → Res A} {k : A → Mem → List Addr → Hp → Prop} {mu0 : List Addr} {H00 : Hp} (hm : Rm K CL mu H M) (hs : Rst K mu H r σ) (s0 : Stp mu0 H00 mu H)
    (h : Pst K CL W σ mu0 H00 ((s cl r M).bind f) k) {Q : VK} (q : ∀ x v M1 mu1 H1, Nxt K CL σ mu H r M1 mu1 H1 → Rr K CL mu1 H1 H x v → Pst K CL W σ mu0 H00 (f x M1) k → Q v H1) : rE K CL W cl s σ H Q :=
  ⟨mu, r, M, hm, hs, (h.bindB.from s0 hm).mono fun x M' mu' H' st R z v hv => q x v M' mu' H' ⟨R, hs.stp hm st, st⟩ hv z⟩
theorem rDs_thenB {A : Type} {s : SDs} {f : List D → Mem → Res A} {k : A → Mem → List Addr → Hp → Prop} {mu0 : List Addr} {H00 : Hp} (hm : Rm K CL mu H M) (hs : Rst K mu H r σ) (s0 : Stp mu0 H00 mu H)
    (h : Pst K CL W σ mu0 H00 ((s cl r M).bind f) k) {Q : List V → Hp → Prop} (q : ∀ x v M1 mu1 H1, Nxt K CL σ mu H r M1 mu1 H1 → Rvs K mu1 H1 x v → Pst K CL W σ mu0 H00 (f x M1) k → Q v H1) : rDs K CL W cl s σ H Q :=
  ⟨mu, r, M, hm, hs, (h.bindB.from s0 hm).mono fun x M' mu' H' st R z v hv => q x v M' mu' H' ⟨R, hs.stp hm st, st⟩ hv z⟩
/-- where the run ends: a value, nothing new -/
theorem Pst.here {A : Type} {a : A} {k : A → Mem → List Addr → Hp → Prop} (h : Pst K CL W σ mu H (.ok a M) k) (R : Rm K CL mu H M) : k a M mu H := h mu H Stp.refl R
end

/-! ### soundness of an expression, a test .. -/
section
variable (X : Cx) (CL : CLs) (cl : Cl)
def SndE (e : Expr) (s : SE) : Prop := ∀ W, Takes X W → PE X e (rE X.K CL W cl s)
def SndT (e : Expr) (s : STt) : Prop := ∀ W, Takes X W → PT X e (rT X.K CL W cl s)
def SndW (e : Expr) (s : STt) : Prop := ∀ W, Takes X W → PW X e (rT X.K CL W cl s)
def SndDs (es : List Expr) (s : SDs) : Prop := ∀ W, Takes X W → PA X es (rDs X.K CL W cl s)
def SndO (e : Option Expr) (s : SO) : Prop := ∀ W, Takes X W → PO X e (rO X.K CL W cl s)
end
section
variable {X : Cx} {CL : CLs} {cl : Cl} {a b c : Expr} {es : List Expr} {sa sb sc : SE} {as : SDs} {pos : Pos}
theorem snd_var {i : Nat} {x : Str} (hN : X.N[i]? = some x) (hv : Vis X.env.scope x) (hd : (x == ("__debug__" : Str)) = false) (hcd : (x == ("__classdict__" : Str)) = false) : SndE X CL cl (.Name x pos) (eVar i) := fun W tk => by
  refine pe_imp (pe_var hN hv hd hcd) fun σ H Q h => ?_
  obtain ⟨mu, r, M, hm, hs, p⟩ := h
  cases e : r[i]? with
  | none => simp [eVar, e, Pst] at p
  | some o =>
    cases o with
    | none => simp [eVar, e, Pst] at p
    | some d =>
      obtain ⟨v, h1, h2⟩ := hs.at_ i d e
      simp only [eVar, e] at p
      exact ⟨v, h1, p.here hm v h2⟩
theorem snd_const {d : D} {v : V} (h : PE X a (tC v)) (q : ∀ mu H, Rv X.K mu H d v) : SndE X CL cl a (eC d) := fun W tk => by
  refine pe_imp h fun σ H Q h => ?_
  obtain ⟨mu, r, M, hm, hs, p⟩ := h
  exact p.here hm v (q mu H)
theorem snd_int {i : Int} {j : Nat} : SndE X CL cl (.Constant (.int i) j pos) (eC (.int i)) := snd_const pe_int fun _ _ => rfl
theorem snd_bl {i : Bool} {j : Nat} : SndE X CL cl (.Constant (.bool i) j pos) (eC (.bl i)) := snd_const pe_bl fun _ _ => rfl
theorem snd_non {j : Nat} : SndE X CL cl (.Constant .none j pos) (eC .non) := snd_const pe_non fun _ _ => rfl
theorem snd_str {x : Str} {j : Nat} : SndE X CL cl (.Constant (.str x) j pos) (eC (.str x)) := snd_const pe_str fun _ _ => rfl

/-- an operation on two values, by what it asks of the heap -/
def Ok2 (K : PySem.W.Frag) (CL : CLs) (rr : R2) (o : Op2) : Prop :=
  ∀ (W : WX) (σ : Sg) mu H M x y v u (Q : VK), Rm K CL mu H M → Rw K CL mu H x v → Rw K CL mu H y u → Pst K CL W σ mu H (o x y M) (fun z _ mu' H' => ∀ w, Rr K CL mu' H' H z w → Q w H') → rr v u H Q
theorem two (W : WX) {rr : R2} {o : Op2} (ha : SndE X CL cl a sa) (hb : SndE X CL cl b sb) (k : Ok2 X.K CL rr o) {σ : Sg} {H : Hp} {Q : VK} (h : rE X.K CL W cl (e2 o sa sb) σ H Q) :
    rE X.K CL W cl sa σ H fun x H1 => rE X.K CL W cl sb σ H1 fun y H2 => rr x y H2 Q := by
  obtain ⟨mu, r, M, hm, hs, p⟩ := h
  refine rE_then hm hs p fun x v M1 mu1 H1 n1 h1 p1 => ?_
  refine rE_then n1.rm n1.rs p1 fun y u M2 mu2 H2 n2 h2 p2 => ?_
  refine k W σ mu2 H2 M2 x y v u Q n2.rm (h1.w.stp n1.rm n2.st) h2.w ?_
  exact p2.mono fun z M3 mu3 H3 s3 R3 q w hw => q w (hw.base (n1.st.trans n2.st n1.rm) n2.rm)
theorem snd_op2 {op : Operator} {rr : R2} {o : Op2} (ho : OpR X (binaryOp op) rr) (k : Ok2 X.K CL rr o) (ha : SndE X CL cl a sa) (hb : SndE X CL cl b sb) : SndE X CL cl (.BinOp a op b pos) (e2 o sa sb) := fun W tk =>
  pe_imp (pe_op ho (ha W tk) (hb W tk)) fun _ _ _ h => two W ha hb k h
theorem snd_cmp2 {op : CmpOp} {rr : R2} {o : Op2} (ho : OpR X (compareOp op) rr) (k : Ok2 X.K CL rr o) (ha : SndE X CL cl a sa) (hb : SndE X CL cl b sb) (hm : behindInMarks op b = false) : SndE X CL cl (.Compare a [op] [b] pos) (e2 o sa sb) := fun W tk =>
  pe_imp (pe_cmpR ho (ha W tk) (hb W tk) hm) fun _ _ _ h => two W ha hb k h
end
end MI
end
section
set_option Elab.async false
set_option linter.all false
set_option maxRecDepth 100000
set_option maxHeartbeats 4000000
/-! MIt: tuples of whole numbers compared -/
namespace MI
open PySem PySem.Spec PyProof.Rows L2
def lexW (R : Int → Int → Bool) (z : Bool) : List Int → List Int → Bool
  | x :: xs, y :: ys => if x = y then lexW R z xs ys else R x y
  | _, _ => z
theorem lexAt_shift (e r : Nat → Bool) (z : Bool) : ∀ k i, Ob.lexAt (fun j => e (j + 1)) (fun j => r (j + 1)) z i k = Ob.lexAt e r z (i + 1) k
  | 0, _ => rfl
  | k + 1, i => by rw [Ob.lexAt_succ, Ob.lexAt_succ, lexAt_shift e r z k (i + 1)]
theorem lexAt_W (R : Int → Int → Bool) (z : Bool) : ∀ (ns ms : List Int), ns.length = ms.length →
    Ob.lexAt (fun j => decide (ns.getD j 0 = ms.getD j 0)) (fun j => R (ns.getD j 0) (ms.getD j 0)) z 0 (min ns.length ms.length) = lexW R z ns ms
  | [], [], _ => rfl
  | [], _ :: _, h => by simp at h
  | _ :: _, [], h => by simp at h
  | x :: xs, y :: ys, h => by
    have h' : xs.length = ys.length := by simpa using h
    have ih := lexAt_W R z xs ys h'
    have em : min (x :: xs).length (y :: ys).length = min xs.length ys.length + 1 := by simp only [List.length_cons]; omega
    rw [em, Ob.lexAt_succ]
    show (if decide (x = y) = true then _ else R x y) = if x = y then lexW R z xs ys else R x y
    by_cases c : x = y
    · rw [if_pos (decide_eq_true c), if_pos c, ← ih]
      exact (lexAt_shift (fun j => decide ((x :: xs).getD j 0 = (y :: ys).getD j 0)) (fun j => R ((x :: xs).getD j 0) ((y :: ys).getD j 0)) z _ 0).symm
    · rw [if_neg (by simp [c]), if_neg c]
theorem lexW_lt : ∀ (a b : List Int), a.length = b.length → lexW (fun i j => decide (i < j)) false a b = lexL a b
  | [], [], _ => rfl
  | [], _ :: _, h => by simp at h
  | _ :: _, [], h => by simp at h
  | x :: xs, y :: ys, h => by
    unfold lexW lexL
    rw [lexW_lt xs ys (by simpa using h)]
theorem lexW_gt : ∀ (a b : List Int), a.length = b.length → lexW (fun i j => decide (j < i)) false a b = lexL b a
  | [], [], _ => rfl
  | [], _ :: _, h => by simp at h
  | _ :: _, [], h => by simp at h
  | x :: xs, y :: ys, h => by
    unfold lexW lexL
    rw [lexW_gt xs ys (by simpa using h)]
    by_cases c : x = y
    · rw [if_pos c, if_pos c.symm]
    · rw [if_neg c, if_neg (Ne.symm c)]
theorem lexW_le : ∀ (a b : List Int), a.length = b.length → lexW (fun i j => decide (i ≤ j)) true a b = !lexL b a
  | [], [], _ => rfl
  | [], _ :: _, h => by simp at h
  | _ :: _, [], h => by simp at h
  | x :: xs, y :: ys, h => by
    unfold lexW lexL
    rw [lexW_le xs ys (by simpa using h)]
    by_cases c : x = y
    · rw [if_pos c, if_pos c.symm]
    · rw [if_neg c, if_neg (Ne.symm c)]
      by_cases d : x ≤ y
      · rw [decide_eq_true d, decide_eq_false (by omega)]; rfl
      · rw [decide_eq_false d, decide_eq_true (by omega)]; rfl
theorem lexW_ge : ∀ (a b : List Int), a.length = b.length → lexW (fun i j => decide (j ≤ i)) true a b = !lexL a b
  | [], [], _ => rfl
  | [], _ :: _, h => by simp at h
  | _ :: _, [], h => by simp at h
  | x :: xs, y :: ys, h => by
    unfold lexW lexL
    rw [lexW_ge xs ys (by simpa using h)]
    by_cases c : x = y
    · rw [if_pos c, if_pos c]
    · rw [if_neg c, if_neg c]
      by_cases d : y ≤ x
      · rw [decide_eq_true d, decide_eq_false (by omega)]; rfl
      · rw [decide_eq_false d, decide_eq_true (by omega)]; rfl
/-- x op y of two tuples of whole numbers, of one width -/
abbrev rCmpT (K : PySem.W.Frag) (f : List Int → List Int → Bool) : R2 := fun x y H Q => ∃ (a b : Addr) (ns ms : List Int), x = .ref a ∧ y = .ref b ∧ SqT K H a (ns.map V.int) ∧ SqT K H b (ms.map V.int) ∧ ns.length = ms.length ∧ Q (.bl (f ns ms)) H
section
variable {X : Cx}
theorem op_cmpT {op : CmpOp} {f : List Int → List Int → Bool} (R : Int → Int → Bool) (z : Nat → Nat → Bool) (z0 : Bool) (hz : ∀ n, z n n = z0) (hf : ∀ a b : List Int, a.length = b.length → lexW R z0 a b = f a b)
    (hri : ∀ (s : Shared) (a b : Int) (t u : Tok), Ob.RcOp op X.A.in1 s (.int a t) (.int b u) (R a b))
    (hop : ∀ u v, compareOp op u v = richCompare op u v)
    (ht : ∀ {s : Shared} {l b : Addr} {items items2 : Array Value} {e r : Nat → Bool} (hl : s.heap.IsTuple l items) (hb : s.heap.IsTuple b items2) (hu : X.A.units < cLine)
      (he : ∀ j (h1 : j < items.size) (h2 : j < items2.size), SeqAt.EqAt X.A.in1 s items[j] items2[j] (e j))
      (hr : ∀ j (h1 : j < items.size) (h2 : j < items2.size), e j = false → Ob.RcOp op X.A.in1 s items[j] items2[j] (r j)),
      Ob.RcOp op X.A s (.ref l) (.ref b) (Ob.lexAt e r (z items.size items2.size) 0 (min items.size items2.size)))
    (hu : X.A.units < cLine) : OpR X (compareOp op) (rCmpT X.K f) := by
  intro pins s σ H x y v u Q I rx ry h
  obtain ⟨a, b, ns, ms, rfl, rfl, ha, hb, hl, q⟩ := h
  cases rx
  cases ry
  obtain ⟨its, r1, p1, _⟩ := I.tuple ha
  obtain ⟨its2, r2, p2, _⟩ := I.tuple hb
  have i1 : IntsAre its ns := Vals.ints r1
  have i2 : IntsAre its2 ms := Vals.ints r2
  have e1 : its.toArray.size = ns.length := by rw [List.size_toArray]; exact i1.length
  have e2 : its2.toArray.size = ms.length := by rw [List.size_toArray]; exact i2.length
  have at1 : ∀ j (h1 : j < its.toArray.size), ∃ t, its.toArray[j] = .int (ns.getD j 0) t := fun j h1 => PyProof.Rows.IntsAre.int_at i1 _ _ (by simp at h1; simp [h1])
  have at2 : ∀ j (h1 : j < its2.toArray.size), ∃ t, its2.toArray[j] = .int (ms.getD j 0) t := fun j h1 => PyProof.Rows.IntsAre.int_at i2 _ _ (by simp at h1; simp [h1])
  have RR := ht (s := s) (e := fun j => decide (ns.getD j 0 = ms.getD j 0)) (r := fun j => R (ns.getD j 0) (ms.getD j 0)) p1 p2 hu (fun j h1 h2 => by
    obtain ⟨t, et⟩ := at1 j h1
    obtain ⟨t', et'⟩ := at2 j h2
    rw [et, et']
    have z : (ns.getD j 0 == ms.getD j 0) = decide (ns.getD j 0 = ms.getD j 0) := by
      by_cases q : ns.getD j 0 = ms.getD j 0
      · rw [decide_eq_true q]; exact beq_iff_eq.mpr q
      · rw [decide_eq_false q]; exact beq_eq_false_iff_ne.mpr q
    rw [← z]
    exact SeqAt.EqAt.int_int _ _ _ _) (fun j h1 h2 _ => by
    obtain ⟨t, et⟩ := at1 j h1
    obtain ⟨t', et'⟩ := at2 j h2
    rw [et, et']
    exact hri s _ _ _ _)
  rw [e1, e2, hl, hz, ← hl] at RR
  have lw := lexAt_W R z0 ns ms hl
  rw [← hl] at lw
  simp only [Nat.min_self] at lw RR
  rw [lw, hf ns ms hl] at RR
  rw [hop]
  exact RR X.prog X.w X.xe (EP X pins σ Q) ⟨.bl _, H, I, rfl, q⟩
theorem op_ltT (hu : X.A.units < cLine) : OpR X (compareOp .Lt) (rCmpT X.K lexL) :=
  op_cmpT (fun i j => decide (i < j)) (fun m n => decide (m < n)) false (fun n => decide_eq_false (Nat.lt_irrefl n)) lexW_lt (fun s a b t u => Ob.RcOp.lt_int a b t u) (fun _ _ => rfl) (fun hl hb hu he hr => Ob.RcOp.tuples_lt hl hb hu he hr) hu
theorem op_gtT (hu : X.A.units < cLine) : OpR X (compareOp .Gt) (rCmpT X.K fun a b => lexL b a) :=
  op_cmpT (fun i j => decide (j < i)) (fun m n => decide (m > n)) false (fun n => decide_eq_false (Nat.lt_irrefl n)) lexW_gt (fun s a b t u => Ob.RcOp.gt_int a b t u) (fun _ _ => rfl) (fun hl hb hu he hr => Ob.RcOp.tuples_gt hl hb hu he hr) hu
theorem op_leT (hu : X.A.units < cLine) : OpR X (compareOp .LtE) (rCmpT X.K fun a b => !lexL b a) :=
  op_cmpT (fun i j => decide (i ≤ j)) (fun m n => decide (m ≤ n)) true (fun n => decide_eq_true (Nat.le_refl n)) lexW_le (fun s a b t u => Ob.RcOp.le_int a b t u) (fun _ _ => rfl) (fun hl hb hu he hr => Ob.RcOp.tuples_le hl hb hu he hr) hu
theorem op_geT (hu : X.A.units < cLine) : OpR X (compareOp .GtE) (rCmpT X.K fun a b => !lexL a b) :=
  op_cmpT (fun i j => decide (j ≤ i)) (fun m n => decide (m ≥ n)) true (fun n => decide_eq_true (Nat.le_refl n)) lexW_ge (fun s a b t u => Ob.RcOp.ge_int a b t u) (fun _ _ => rfl) (fun hl hb hu he hr => Ob.RcOp.tuples_ge hl hb hu he hr) hu
end
theorem asInts_eq : ∀ {ds : List D} {ns : List Int}, asInts ds = some ns → ds = ns.map D.int
  | [], ns, h => by simp [asInts] at h; subst h; rfl
  | .int i :: r, ns, h => by
    simp only [asInts, Option.map_eq_some_iff] at h
    obtain ⟨q, h, rfl⟩ := h
    rw [asInts_eq h]; rfl
  | .non :: _, _, h | .bl _ :: _, _, h | .str _ :: _, _, h | .tup _ :: _, _, h | .hdl _ :: _, _, h | .ro _ :: _, _, h => by simp [asInts] at h
theorem asRow_eq {d : D} {ns : List Int} (h : asRow d = some ns) : d = rowD ns := by
  cases d with
  | tup ds => rw [asInts_eq (show asInts ds = some ns from h)]; rfl
  | _ => cases h
theorem asRows_eq : ∀ {ds : List D} {rs : List (List Int)}, asRows ds = some rs → ds = rs.map rowD
  | [], rs, h => by simp [asRows] at h; subst h; rfl
  | d :: r, rs, h => by
    unfold asRows at h
    split at h
    · rename_i a b e1 e2
      cases h
      rw [asRow_eq e1, asRows_eq e2]; rfl
    · cases h
end MI
end
section
set_option Elab.async false
set_option linter.all false
set_option maxRecDepth 100000
set_option maxHeartbeats 4000000
namespace MI
open PySem PySem.Spec PyProof.Rows L2
section
variable {K : PySem.W.Frag} {CL : CLs} {W : WX} {σ : Sg} {mu mu1 : List Addr} {H H0 H1 : Hp} {M M1 : Mem} {r : Env} {cl : Cl}
/-! ### what a run ends in -/
theorem end_d {d : D} {v : V} {Q : VK} (R : Rm K CL mu H M) (h : Pst K CL W σ mu H (.ok (.d d) M) fun z _ mu' H' => ∀ w, Rr K CL mu' H' H z w → Q w H') (q : Rv K mu H d v) : Q v H := h.here R v q
theorem end_lst {ds : List D} {vs : List V} {Q : VK} (R : Rm K CL mu H M) (h : Pst K CL W σ mu H (.ok (.o (.lst ds)) M) fun z _ mu' H' => ∀ w, Rr K CL mu' H' H z w → Q w H') (q : Rvs K mu H ds vs) :
    ∀ p, H p = none → Q (.ref p) (upd H p (.lst vs)) := fun p n =>
  h mu _ (Stp.laid R n) (R.laid n) (.ref p) ⟨p, rfl, ⟨vs, upd_same, q.stp R (Stp.laid R n)⟩, R.fresh n, n⟩
theorem end_tup {ds : List D} {vs : List V} {Q : VK} (R : Rm K CL mu H M) (h : Pst K CL W σ mu H (.ok (.d (.tup ds)) M) fun z _ mu' H' => ∀ w, Rr K CL mu' H' H z w → Q w H') (q : Rvs K mu H ds vs) :
    ∀ p, H p = none → Q (.ref p) (upd H p (.tup vs)) := fun p n =>
  h mu _ (Stp.laid R n) (R.laid n) (.ref p) ⟨p, vs, rfl, .inl (.inl upd_same), q.stp R (Stp.laid R n)⟩
theorem bad_end {A : Type} {k : A → Mem → List Addr → Hp → Prop} {P : Prop} (h : Pst K CL W σ mu H (.bad : Res A) k) : P := h.elim

/-! ### what is read -/
theorem lstT_ok {x : RV} {v : V} {ds : List D} (R : Rm K CL mu H M) (h : Rw K CL mu H x v) (e : lstT x M = some ds) : ∃ a vs, v = .ref a ∧ H a = some (.lst vs) ∧ Rvs K mu H ds vs := by
  cases x with
  | o o =>
    cases o with
    | lst es =>
      simp only [lstT, Option.some.injEq] at e
      subst e
      obtain ⟨a, rfl, ⟨vs, h1, h2⟩, _⟩ := h
      exact ⟨a, vs, rfl, h1, h2⟩
    | _ => simp [lstT] at e
  | d d =>
    cases d with
    | hdl n =>
      obtain ⟨a, h1, rfl⟩ := h
      cases q : M[n]? with
      | none => simp [lstT, q] at e
      | some o =>
        cases o with
        | lst es =>
          simp only [lstT, q, Option.some.injEq] at e
          subst e
          obtain ⟨vs, h3, h4⟩ := R.ob n a _ h1 q
          exact ⟨a, vs, rfl, h3, h4⟩
        | _ => simp [lstT, q] at e
    | _ => simp [lstT] at e
theorem lstOf_ok {x : RV} {v : V} {ds : List D} (R : Rm K CL mu H M) (h : Rw K CL mu H x v) (e : lstOf x M = some ds) : ∃ a vs, v = .ref a ∧ SqL K H a vs ∧ Rvs K mu H ds vs := by
  by_cases hr : ∃ es, x = .d (.ro es)
  · obtain ⟨es, rfl⟩ := hr
    simp only [lstOf, Option.some.injEq] at e
    subst e
    obtain ⟨a, vs, rfl, h1, h2⟩ := h
    exact ⟨a, vs, rfl, h1.sq, h2⟩
  · have e' : lstT x M = some ds := by
      cases x with
      | o o => cases o <;> simpa [lstT, lstOf] using e
      | d d =>
        cases d with
        | ro es => exact absurd ⟨es, rfl⟩ hr
        | hdl n => simpa [lstT, lstOf] using e
        | _ => simp [lstOf] at e
    obtain ⟨a, vs, h1, h2, h3⟩ := lstT_ok R h e'
    exact ⟨a, vs, h1, .inl (.inl h2), h3⟩
theorem seqOf_ok {x : RV} {v : V} {ds : List D} (R : Rm K CL mu H M) (h : Rw K CL mu H x v) (e : seqOf x M = some ds) : ∃ a vs, v = .ref a ∧ (SqL K H a vs ∨ SqT K H a vs) ∧ Rvs K mu H ds vs := by
  by_cases hr : ∃ es, x = .d (.tup es)
  · obtain ⟨es, rfl⟩ := hr
    simp only [seqOf, Option.some.injEq] at e
    subst e
    obtain ⟨a, vs, rfl, h1, h2⟩ := h
    exact ⟨a, vs, rfl, .inr h1, h2⟩
  · have e' : lstOf x M = some ds := by
      cases x with
      | o o => simpa [seqOf] using e
      | d d =>
        cases d with
        | tup es => exact absurd ⟨es, rfl⟩ hr
        | _ => simpa [seqOf] using e
    obtain ⟨a, vs, h1, h2, h3⟩ := lstOf_ok R h e'
    exact ⟨a, vs, h1, .inl h2, h3⟩
theorem dicOf_ok {x : RV} {v : V} {kvs : List (D × D)} (R : Rm K CL mu H M) (h : Rw K CL mu H x v) (e : dicOf x M = some kvs) : ∃ fz a xs, v = .ref a ∧ Lk fz H a (dictO CL.w a xs) ∧ Rdt K mu H kvs xs := by
  cases x with
  | o o =>
    cases o with
    | dic fz es =>
      simp only [dicOf, Option.some.injEq] at e
      subst e
      obtain ⟨a, rfl, ⟨xs, h1, h2⟩, _⟩ := h
      exact ⟨fz, a, xs, rfl, h1, h2⟩
    | _ => simp [dicOf] at e
  | d d =>
    cases d with
    | hdl n =>
      obtain ⟨a, h1, rfl⟩ := h
      cases q : M[n]? with
      | none => simp [dicOf, q] at e
      | some o =>
        cases o with
        | dic fz es =>
          simp only [dicOf, q, Option.some.injEq] at e
          subst e
          obtain ⟨xs, h3, h4⟩ := R.ob n a _ h1 q
          exact ⟨fz, a, xs, rfl, h3, h4⟩
        | _ => simp [dicOf, q] at e
    | _ => simp [dicOf] at e

/-! ### whole numbers -/
theorem ok2_sub : Ok2 K CL (rI0 fun i j => .int (i - j)) oSub := fun W σ mu H M x y v u Q R hx hy p => by
  unfold oSub at p
  split at p
  · exact ⟨_, _, hx, hy, end_d R p rfl⟩
  · exact bad_end p
/-- a text, so many times -/
def rMulS : R2 := fun x y H Q => ∃ (a : Str) (n : Int), x = .str a ∧ y = .int n ∧ 0 ≤ n ∧ n ≤ 1000 ∧ a.length ≤ 10000 ∧ Q (.str (Txt.mul a n)) H
theorem op_mulStr {X : Cx} : OpR X (binaryOp .Mult) rMulS := by
  intro pins s σ H x y v u Q I rx ry h
  obtain ⟨a, n, rfl, rfl, h0, h1, h2, q⟩ := h
  obtain ⟨t, rfl⟩ := rx
  obtain ⟨t', rfl⟩ := ry
  have hsl := sizeLine_eq
  refine SB.mul ⟨by simp only [Bool.or_eq_false_iff, decide_eq_false_iff_not]; omega, fun h3 _ => ?_, fun h3 _ => ?_⟩ fun t' tk => ⟨.str _, H, I.tok _, ⟨_, rfl⟩, q⟩
  · have : (10000 : Int) ≤ (2 ^ 63 - 1) / n := (Int.le_ediv_iff_mul_le (by omega)).mpr (by omega)
    omega
  · have hm : a.length * n.toNat ≤ 10000 * 1000 := Nat.mul_le_mul h2 (by omega)
    simp only [Builtin.Str.tooLong, decide_eq_false_iff_not]
    omega
theorem flat_rep (c : Array Nat) : ∀ (n : Nat) (b : Array Nat), ((List.replicate n c).foldl (· ++ ·) b).toList = b.toList ++ mulL c.toList n
  | 0, b => by simp [mulL]
  | n + 1, b => by rw [List.replicate_succ, List.foldl_cons, flat_rep c n, Array.toList_append, mulL, List.append_assoc]
theorem mulL_nil : ∀ n, mulL [] n = []
  | 0 => rfl
  | n + 1 => by rw [mulL, mulL_nil n]; rfl
theorem mul_mulL {a : Str} {n : Int} (h : 0 ≤ n) : Txt.mul a n = ⟨(mulL a.cps.toList n.toNat).toArray⟩ := by
  refine Str.ext' (Array.toList_inj.mp ?_)
  unfold Txt.mul
  split
  · have : n = 0 := by omega
    subst this; rfl
  · split
    · rename_i h1 h2
      rw [Bool.or_eq_true, beq_iff_eq, beq_iff_eq] at h2
      rcases h2 with h2 | h2
      · subst h2
        show a.cps.toList = a.cps.toList ++ []
        rw [List.append_nil]
      · have e : a.cps.toList = [] := by
          have : a.cps.size = 0 := h2
          rw [← Array.length_toList] at this
          exact List.length_eq_zero_iff.mp this
        show a.cps.toList = mulL a.cps.toList n.toNat
        rw [e, mulL_nil]
    · show ((List.replicate n.toNat a.cps).foldl (· ++ ·) #[]).toList = mulL a.cps.toList n.toNat
      rw [flat_rep]; rfl
theorem ok2_mul : Ok2 K CL (fun x y H Q => rI CMul (fun i j => .int (i * j)) x y H Q ∨ rMulS x y H Q) oMul := fun W σ mu H M x y v u Q R hx hy p => by
  unfold oMul at p
  split at p
  · split at p
    · rename_i c; exact .inl ⟨_, _, hx, hy, c, end_d R p rfl⟩
    · exact bad_end p
  · split at p
    · rename_i c
      refine .inr ⟨_, _, hx, hy, c.1, c.2.1, c.2.2, ?_⟩
      rw [mul_mulL c.1]
      exact end_d R p rfl
    · exact bad_end p
  · exact bad_end p
theorem ok2_div : Ok2 K CL (rI CDivW fun i j => .int (i / j)) oDiv := fun W σ mu H M x y v u Q R hx hy p => by
  unfold oDiv at p
  split at p
  · split at p
    · rename_i c; exact ⟨_, _, hx, hy, wide_div c.1 (b := 101) (by omega) (by decide) (by decide), end_d R p rfl⟩
    · exact bad_end p
  · exact bad_end p
theorem ok2_mod : Ok2 K CL (rI (fun _ j => 0 < j) fun i j => .int (i % j)) oMod := fun W σ mu H M x y v u Q R hx hy p => by
  unfold oMod at p
  split at p
  · split at p
    · rename_i c; exact ⟨_, _, hx, hy, c, end_d R p rfl⟩
    · exact bad_end p
  · exact bad_end p
theorem ok2_pow : Ok2 K CL (rI CPow fun i j => .int (i ^ j.toNat)) oPow := fun W σ mu H M x y v u Q R hx hy p => by
  unfold oPow at p
  split at p
  · split at p
    · rename_i c; exact ⟨_, _, hx, hy, c, end_d R p rfl⟩
    · exact bad_end p
  · exact bad_end p
/-- a new list of two, whatever they are -/
def rCatL (K : PySem.W.Frag) : R2 := fun x y H Q => ∃ l b xs zs, x = .ref l ∧ y = .ref b ∧ SqL K H l xs ∧ SqL K H b zs ∧ xs.length + zs.length ≤ sizeLine ∧ ∀ p, H p = none → Q (.ref p) (upd H p (.lst (xs ++ zs)))
theorem op_catL {X : Cx} : OpR X (binaryOp .Add) (rCatL X.K) := by
  intro pins s σ H x y v u Q I rx ry h
  obtain ⟨l, b, xs, zs, rfl, rfl, hH, hB, hz, q⟩ := h
  cases rx
  cases ry
  obtain ⟨its, r, ⟨o, n, e1, e2, e3, e4⟩, _⟩ := I.list hH
  obtain ⟨its2, r2, ⟨o', n2, e5, e6, e7, e8⟩, _⟩ := I.list hB
  have hl := r.length
  have hl2 := r2.length
  obtain ⟨oc, od, odt, osl⟩ := o
  obtain ⟨oc2, od2, odt2, osl2⟩ := o'
  dsimp only at e2 e3 e4 e6 e7 e8
  subst e2 e3 e4 e6 e7 e8
  have ea : its.toArray ++ its2.toArray = (its ++ its2).toArray := by simp
  refine concat_meets ⟨_, e1, rfl⟩ ⟨_, e5, rfl⟩ noFill_list_add seq_list_add PySem.F.slot_list_add PySem.F.entry_list_add (PySem.F.args_list_add_2 _ _) (PyProof.Rows.list_addW l b its.toArray its2.toArray n n2 none none osl osl2 (by simp only [List.size_toArray]; omega)) ⟨e1, e5, ?_⟩
  rw [ea]
  exact ⟨.ref _, _, I.lnew (t' := s.toks) (r.append r2) (by rw [List.length_append]; omega), rfl, q _ I.fresh⟩
abbrev rAddAll (K : PySem.W.Frag) : R2 := fun x y H Q => (rI0 fun i j => .int (i + j)) x y H Q ∨ (∃ i j, x = .str i ∧ y = .str j ∧ i.length + j.length ≤ sizeLine ∧ Q (.str (i ++ j)) H) ∨ rCatA K x y H Q ∨ rCatL K x y H Q
theorem op_addAll {X : Cx} : OpR X (binaryOp .Add) (rAddAll X.K) := op_add.or (op_add_str.or (op_catA.or op_catL))
theorem ok2_add : Ok2 K CL (rAddAll K) oAdd := fun W σ mu H M x y v u Q R hx hy p => by
  unfold oAdd at p
  split at p
  · exact .inl ⟨_, _, hx, hy, end_d R p rfl⟩
  · split at p
    · rename_i c; exact .inr (.inl ⟨_, _, hx, hy, c, end_d R p rfl⟩)
    · exact bad_end p
  · split at p
    · rename_i c
      obtain ⟨a, vs, rfl, h1, h2⟩ := hx
      obtain ⟨b, ws, rfl, h3, h4⟩ := hy
      refine .inr (.inr (.inl ⟨a, b, vs, ws, rfl, rfl, h1, h3, by rw [← h2.length, ← h4.length]; exact c, fun e => ?_, fun _ e => ?_, fun _ _ => end_tup R p (h2.append h4)⟩))
      · subst e
        exact end_d R p ⟨b, ws, rfl, h3, by simpa using h2.append h4⟩
      · subst e
        exact end_d R p ⟨a, vs, rfl, h1, by simpa using h2.append h4⟩
    · exact bad_end p
  · split at p
    · rename_i e1 e2
      split at p
      · rename_i c
        obtain ⟨a, vs, rfl, h1, h2⟩ := lstOf_ok R hx e1
        obtain ⟨b, ws, rfl, h3, h4⟩ := lstOf_ok R hy e2
        exact .inr (.inr (.inr ⟨a, b, vs, ws, rfl, rfl, h1, h3, by rw [← h2.length, ← h4.length]; exact c, end_lst R p (h2.append h4)⟩))
      · exact bad_end p
    · exact bad_end p
theorem ok2_lt : Ok2 K CL (fun x y H Q => (rI0 fun i j => .bl (decide (i < j))) x y H Q ∨ rCmpT K (lexL) x y H Q) oLt := fun W σ mu H M x y v u Q R hx hy p => by
  unfold oLt at p
  split at p
  · exact .inl ⟨_, _, hx, hy, end_d R p rfl⟩
  · split at p
    · rename_i e1 e2
      split at p
      · rename_i c
        obtain ⟨a, vs, rfl, h1, h2⟩ := hx
        obtain ⟨b, ws, rfl, h3, h4⟩ := hy
        rw [asInts_eq e1] at h2
        rw [asInts_eq e2] at h4
        have i1 := h2.ints
        have i2 := h4.ints
        subst i1
        subst i2
        exact .inr ⟨a, b, _, _, rfl, rfl, h1, h3, c, end_d R p rfl⟩
      · exact bad_end p
    · exact bad_end p
  · exact bad_end p
theorem ok2_le : Ok2 K CL (fun x y H Q => (rI0 fun i j => .bl (decide (i ≤ j))) x y H Q ∨ rCmpT K (fun a b => !lexL b a) x y H Q) oLe := fun W σ mu H M x y v u Q R hx hy p => by
  unfold oLe at p
  split at p
  · exact .inl ⟨_, _, hx, hy, end_d R p rfl⟩
  · split at p
    · rename_i e1 e2
      split at p
      · rename_i c
        obtain ⟨a, vs, rfl, h1, h2⟩ := hx
        obtain ⟨b, ws, rfl, h3, h4⟩ := hy
        rw [asInts_eq e1] at h2
        rw [asInts_eq e2] at h4
        have i1 := h2.ints
        have i2 := h4.ints
        subst i1
        subst i2
        exact .inr ⟨a, b, _, _, rfl, rfl, h1, h3, c, end_d R p rfl⟩
      · exact bad_end p
    · exact bad_end p
  · exact bad_end p
theorem ok2_gt : Ok2 K CL (fun x y H Q => (rI0 fun i j => .bl (decide (j < i))) x y H Q ∨ rCmpT K (fun a b => lexL b a) x y H Q) oGt := fun W σ mu H M x y v u Q R hx hy p => by
  unfold oGt at p
  split at p
  · exact .inl ⟨_, _, hx, hy, end_d R p rfl⟩
  · split at p
    · rename_i e1 e2
      split at p
      · rename_i c
        obtain ⟨a, vs, rfl, h1, h2⟩ := hx
        obtain ⟨b, ws, rfl, h3, h4⟩ := hy
        rw [asInts_eq e1] at h2
        rw [asInts_eq e2] at h4
        have i1 := h2.ints
        have i2 := h4.ints
        subst i1
        subst i2
        exact .inr ⟨a, b, _, _, rfl, rfl, h1, h3, c, end_d R p rfl⟩
      · exact bad_end p
    · exact bad_end p
  · exact bad_end p
theorem ok2_ge : Ok2 K CL (fun x y H Q => (rI0 fun i j => .bl (decide (j ≤ i))) x y H Q ∨ rCmpT K (fun a b => !lexL a b) x y H Q) oGe := fun W σ mu H M x y v u Q R hx hy p => by
  unfold oGe at p
  split at p
  · exact .inl ⟨_, _, hx, hy, end_d R p rfl⟩
  · split at p
    · rename_i e1 e2
      split at p
      · rename_i c
        obtain ⟨a, vs, rfl, h1, h2⟩ := hx
        obtain ⟨b, ws, rfl, h3, h4⟩ := hy
        rw [asInts_eq e1] at h2
        rw [asInts_eq e2] at h4
        have i1 := h2.ints
        have i2 := h4.ints
        subst i1
        subst i2
        exact .inr ⟨a, b, _, _, rfl, rfl, h1, h3, c, end_d R p rfl⟩
      · exact bad_end p
    · exact bad_end p
  · exact bad_end p

/-! ### is -/
theorem Rw.non_iff {x : RV} {v : V} (h : Rw K CL mu H x v) : decide (x = .d .non) = decide (v = .non) := by
  have key : x = .d .non ↔ v = .non := by
    cases x with
    | o o => obtain ⟨a, rfl, _⟩ := h; exact ⟨nofun, nofun⟩
    | d d =>
      cases d with
      | non => exact ⟨fun _ => h, fun _ => rfl⟩
      | bl b => rw [show v = V.bl b from h]; exact ⟨nofun, nofun⟩
      | int b => rw [show v = V.int b from h]; exact ⟨nofun, nofun⟩
      | str b => rw [show v = V.str b from h]; exact ⟨nofun, nofun⟩
      | tup b => obtain ⟨a, vs, rfl, _⟩ := h; exact ⟨nofun, nofun⟩
      | hdl b => obtain ⟨a, _, rfl⟩ := h; exact ⟨nofun, nofun⟩
      | ro b => obtain ⟨a, vs, rfl, _⟩ := h; exact ⟨nofun, nofun⟩
  by_cases h1 : v = .non
  · rw [decide_eq_true h1, decide_eq_true (key.mpr h1)]
  · rw [decide_eq_false h1, decide_eq_false fun z => h1 (key.mp z)]
abbrev rIsAll : R2 := fun x y H Q => (y = .non ∧ Q (.bl (decide (x = .non))) H) ∨ rIsB x y H Q
abbrev rIsNotAll : R2 := fun x y H Q => (y = .non ∧ Q (.bl (!decide (x = .non))) H) ∨ rNotB x y H Q
theorem op_isAll {X : Cx} : OpR X (compareOp .Is) rIsAll := op_isN.or op_isBl
theorem op_isNotAll {X : Cx} : OpR X (compareOp .IsNot) rIsNotAll := op_notN.or op_notBl
theorem ok2_is : Ok2 K CL rIsAll oIs := fun W σ mu H M x y v u Q R hx hy p => by
  unfold oIs at p
  split at p
  · exact .inl ⟨hy, end_d R p (by rw [hx.non_iff]; rfl)⟩
  · exact .inr ⟨_, _, hx, hy, end_d R p rfl⟩
  · exact bad_end p
theorem ok2_isNot : Ok2 K CL rIsNotAll oIsNot := fun W σ mu H M x y v u Q R hx hy p => by
  unfold oIsNot at p
  split at p
  · exact .inl ⟨hy, end_d R p (by rw [hx.non_iff]; rfl)⟩
  · exact .inr ⟨_, _, hx, hy, end_d R p rfl⟩
  · exact bad_end p

/-! ### == -/
mutual
theorem peq_eqv : ∀ a b : PyData, a.canLay0 = true → b.canLay0 = true → peq a b = PyData.eqv a b
  | .none, b, _, _ => by cases b <;> rfl
  | .bool _, b, _, _ => by cases b <;> rfl
  | .int _, b, _, _ => by cases b <;> rfl
  | .str _, b, _, _ => by cases b <;> rfl
  | .list xs, .list ys, h1, h2 => peqs_eqv xs ys h1 h2
  | .tuple xs, .tuple ys, h1, h2 => peqs_eqv xs ys h1 h2
  | .list _, .none, _, _ | .list _, .bool _, _, _ | .list _, .int _, _, _ | .list _, .str _, _, _ | .list _, .tuple _, _, _ | .list _, .dict _, _, _ => rfl
  | .tuple _, .none, _, _ | .tuple _, .bool _, _, _ | .tuple _, .int _, _, _ | .tuple _, .str _, _, _ | .tuple _, .list _, _, _ | .tuple _, .dict _, _, _ => rfl
  | .dict _, b, _, _ => by cases b <;> rfl
theorem peqs_eqv : ∀ a b : List PyData, PyData.canLayAll0 a = true → PyData.canLayAll0 b = true → peqs a b = PyData.eqvAll a b
  | [], [], _, _ => rfl
  | [], _ :: _, _, _ => rfl
  | _ :: _, [], _, _ => rfl
  | x :: xs, y :: ys, h1, h2 => by
    simp only [PyData.canLayAll0, Bool.and_eq_true] at h1 h2
    simp only [peqs, PyData.eqvAll, peq_eqv x y h1.1 h2.1, peqs_eqv xs ys h1.2 h2.2]
end
theorem mapM_cons' {A B : Type} {f : A → Option B} {x : A} {xs : List A} {q : List B} (h : (x :: xs).mapM f = some q) : ∃ y ys, f x = some y ∧ xs.mapM f = some ys ∧ q = y :: ys := by
  rw [List.mapM_cons] at h
  cases e : f x with
  | none => rw [e] at h; simp at h
  | some y =>
    rw [e] at h
    cases e2 : xs.mapM f with
    | none => rw [e2] at h; simp at h
    | some ys =>
      rw [e2] at h
      simp at h
      exact ⟨y, ys, rfl, rfl, h.symm⟩
theorem dps_of {f : D → Option PyData} {n : Nat} (ih : ∀ d v q, Rv K mu H d v → f d = some q → Dp K H v q ∧ q.canLay0 = true ∧ q.depth ≤ n) :
    ∀ (ds : List D) (vs : List V) (qs : List PyData), Rvs K mu H ds vs → ds.mapM f = some qs → DpAll K H vs qs ∧ PyData.canLayAll0 qs = true ∧ PyData.depthAll qs ≤ n
  | [], vs, qs, h, e => by
    rw [show vs = [] from h]
    simp at e
    subst e
    exact ⟨.nil, rfl, Nat.zero_le _⟩
  | d :: ds, vs, qs, ⟨v, r, e1, h, t⟩, e => by
    obtain ⟨y, ys, h1, h2, rfl⟩ := mapM_cons' e
    subst e1
    obtain ⟨a1, a2, a3⟩ := ih d v y h h1
    obtain ⟨b1, b2, b3⟩ := dps_of ih ds r ys t h2
    refine ⟨.cons a1 b1, ?_, ?_⟩
    · simp only [PyData.canLayAll0, a2, b2, Bool.and_self]
    · simp only [PyData.depthAll]
      exact Nat.max_le.mpr ⟨a3, b3⟩
theorem der_ok (R : Rm K CL mu H M) : ∀ (n : Nat) (d : D) (v : V) (q : PyData), Rv K mu H d v → der n M d = some q → Dp K H v q ∧ q.canLay0 = true ∧ q.depth ≤ n
  | n, .non, v, q, h, e => by
    rw [show v = V.non from h]; cases n <;> (simp [der] at e; subst e; exact ⟨.non, rfl, Nat.zero_le _⟩)
  | n, .bl b, v, q, h, e => by
    rw [show v = V.bl b from h]; cases n <;> (simp [der] at e; subst e; exact ⟨.bl b, rfl, Nat.zero_le _⟩)
  | n, .int b, v, q, h, e => by
    rw [show v = V.int b from h]; cases n <;> (simp [der] at e; subst e; exact ⟨.int b, rfl, Nat.zero_le _⟩)
  | n, .str b, v, q, h, e => by
    have h' : v = V.str b := h
    subst h'
    by_cases c : b.cps.all (· < 0x110000) = true
    · have e' : some (PyData.str b) = some q := by cases n <;> simpa only [der, if_pos c] using e
      cases e'
      exact ⟨.str b, c, Nat.zero_le _⟩
    · cases n <;> simp only [der, if_neg c] at e <;> cases e
  | 0, .tup _, _, _, _, e => by simp [der] at e
  | 0, .hdl _, _, _, _, e => by simp [der] at e
  | 0, .ro _, _, _, _, e => by simp [der] at e
  | n + 1, .tup ds, v, q, hv, e => by
    obtain ⟨a, vs, rfl, h, t⟩ := hv
    simp only [der, Option.map_eq_some_iff] at e
    obtain ⟨qs, e, rfl⟩ := e
    obtain ⟨a1, a2, a3⟩ := dps_of (fun d v q => der_ok R n d v q) ds vs qs t e
    exact ⟨.tup h a1, a2, Nat.succ_le_succ a3⟩
  | n + 1, .ro ds, v, q, hv, e => by
    obtain ⟨a, vs, rfl, h, t⟩ := hv
    simp only [der, Option.map_eq_some_iff] at e
    obtain ⟨qs, e, rfl⟩ := e
    obtain ⟨a1, a2, a3⟩ := dps_of (fun d v q => der_ok R n d v q) ds vs qs t e
    exact ⟨.lst h.sq a1, a2, Nat.succ_le_succ a3⟩
  | n + 1, .hdl m, v, q, hv, e => by
    obtain ⟨a, h, rfl⟩ := hv
    simp only [der] at e
    split at e
    · rename_i ds e2
      simp only [Option.map_eq_some_iff] at e
      obtain ⟨qs, e, rfl⟩ := e
      obtain ⟨vs, h3, h4⟩ := R.ob m a _ h e2
      obtain ⟨a1, a2, a3⟩ := dps_of (fun d v q => der_ok R n d v q) ds vs qs h4 e
      exact ⟨.lst (.inl (.inl h3)) a1, a2, Nat.succ_le_succ a3⟩
    · cases e
theorem derR_ok (R : Rm K CL mu H M) {x : RV} {v : V} {q : PyData} (h : Rw K CL mu H x v) (e : derR x M = some q) : Dp K H v q ∧ q.canLay0 = true ∧ SeqAt.shaped q = true := by
  have key : Dp K H v q ∧ q.canLay0 = true ∧ q.depth ≤ 32 := by
    cases x with
    | d d => exact der_ok R 32 d v q h e
    | o o =>
      cases o with
      | lst ds =>
        simp only [derR, Option.map_eq_some_iff] at e
        obtain ⟨qs, e, rfl⟩ := e
        obtain ⟨a, rfl, ⟨vs, h3, h4⟩, _⟩ := h
        obtain ⟨a1, a2, a3⟩ := dps_of (fun d v q => der_ok R 31 d v q) ds vs qs h4 e
        exact ⟨.lst (.inl (.inl h3)) a1, a2, Nat.succ_le_succ a3⟩
      | _ => simp [derR] at e
  obtain ⟨a, b, c⟩ := key
  refine ⟨a, b, ?_⟩
  unfold SeqAt.shaped
  rw [b, decide_eq_true (Nat.le_trans c (by decide))]
  rfl
theorem ok2_eq : Ok2 K CL (rEqD K) oEq := fun W σ mu H M x y v u Q R hx hy p => by
  unfold oEq at p
  split at p
  · rename_i a b e1 e2
    obtain ⟨h1, h2, h3⟩ := derR_ok R hx e1
    obtain ⟨h4, h5, h6⟩ := derR_ok R hy e2
    exact ⟨a, b, h1, h4, h3, h6, end_d R p (by rw [peq_eqv a b h2 h5]; rfl)⟩
  · exact bad_end p
theorem ok2_ne : Ok2 K CL (rNeD K) oNe := fun W σ mu H M x y v u Q R hx hy p => by
  unfold oNe at p
  split at p
  · rename_i a b e1 e2
    obtain ⟨h1, h2, h3⟩ := derR_ok R hx e1
    obtain ⟨h4, h5, h6⟩ := derR_ok R hy e2
    exact ⟨a, b, h1, h4, h3, h6, end_d R p (by rw [peq_eqv a b h2 h5]; rfl)⟩
  · exact bad_end p
end
end MI
end
section
set_option Elab.async false
set_option linter.all false
set_option maxRecDepth 100000
set_option maxHeartbeats 4000000
/-! MIu: dicts: their keys are tuples, or numbers, texts and None -/
namespace MI
open PySem PySem.Spec PyProof.Rows L2
/-! ### keys -/
mutual
theorem nk_depth : ∀ (n : Nat) (d : D), nkOk n d = true → (toNk d).depth ≤ n
  | _, .non, _ => Nat.zero_le _
  | _, .int _, _ => Nat.zero_le _
  | _, .str _, _ => Nat.zero_le _
  | n + 1, .tup ds, h => Nat.succ_le_succ (nks_depth n ds (by simpa only [nkOk] using h))
  | 0, .tup ds, h => by simp [nkOk] at h
  | n, .bl _, h => by cases n <;> simp [nkOk] at h
  | n, .hdl _, h => by cases n <;> simp [nkOk] at h
  | n, .ro _, h => by cases n <;> simp [nkOk] at h
theorem nks_depth : ∀ (n : Nat) (ds : List D), nksOk n ds = true → NestedKey.depthAll (toNks ds) ≤ n
  | _, [], _ => Nat.zero_le _
  | n, d :: ds, h => by
    simp only [nksOk, Bool.and_eq_true] at h
    have h1 := nk_depth n d h.1
    have h2 := nks_depth n ds h.2
    show max (toNk d).depth (NestedKey.depthAll (toNks ds)) ≤ n
    omega
end
mutual
theorem nk_inj : ∀ (n m : Nat) (d e : D), nkOk n d = true → nkOk m e = true → toNk d = toNk e → d = e
  | n, m, .non, .non, _, _, _ => rfl
  | n, m, .int i, .int j, _, _, h => by cases h; rfl
  | n, m, .str i, .str j, _, _, h => by cases h; rfl
  | n + 1, m + 1, .tup ds, .tup es, h1, h2, h => by
    injection h with h
    rw [nks_inj n m ds es (by simpa only [nkOk] using h1) (by simpa only [nkOk] using h2) h]
  | 0, _, .tup _, _, h1, _, _ => by simp [nkOk] at h1
  | _, 0, _, .tup _, _, h2, _ => by simp [nkOk] at h2
  | n, m, .bl _, _, h1, _, _ => by cases n <;> simp [nkOk] at h1
  | n, m, .hdl _, _, h1, _, _ => by cases n <;> simp [nkOk] at h1
  | n, m, .ro _, _, h1, _, _ => by cases n <;> simp [nkOk] at h1
  | n, m, _, .bl _, _, h2, _ => by cases m <;> simp [nkOk] at h2
  | n, m, _, .hdl _, _, h2, _ => by cases m <;> simp [nkOk] at h2
  | n, m, _, .ro _, _, h2, _ => by cases m <;> simp [nkOk] at h2
  | n, m, .non, .int _, _, _, h | n, m, .non, .str _, _, _, h | n, m, .non, .tup _, _, _, h => by cases h
  | n, m, .int _, .non, _, _, h | n, m, .int _, .str _, _, _, h | n, m, .int _, .tup _, _, _, h => by cases h
  | n, m, .str _, .non, _, _, h | n, m, .str _, .int _, _, _, h | n, m, .str _, .tup _, _, _, h => by cases h
  | n, m, .tup _, .non, _, _, h | n, m, .tup _, .int _, _, _, h | n, m, .tup _, .str _, _, _, h => by cases h
theorem nks_inj : ∀ (n m : Nat) (ds es : List D), nksOk n ds = true → nksOk m es = true → toNks ds = toNks es → ds = es
  | n, m, [], [], _, _, _ => rfl
  | n, m, [], _ :: _, _, _, h => by cases h
  | n, m, _ :: _, [], _, _, h => by cases h
  | n, m, d :: ds, e :: es, h1, h2, h => by
    simp only [nksOk, Bool.and_eq_true] at h1 h2
    injection h with h3 h4
    rw [nk_inj n m d e h1.1 h2.1 h3, nks_inj n m ds es h1.2 h2.2 h4]
end
theorem tk_ok {d : D} (h : isTk d = true) : nkOk 8 d = true := by
  cases d with
  | tup ds => exact h
  | _ => cases h
theorem sk_ok {d : D} (h : isSk d = true) : nkOk 8 d = true := by
  cases d <;> first | rfl | cases h
def isK (d : D) : Prop := isSk d = true ∨ isTk d = true
theorem isK.ok {d : D} (h : isK d) : nkOk 8 d = true := h.elim sk_ok tk_ok
theorem isK.inj {d e : D} (h1 : isK d) (h2 : isK e) (h : toNk d = toNk e) : d = e := nk_inj 8 8 d e h1.ok h2.ok h
theorem st_no {d : D} (h : isSk d = true) : isTk d = false := by
  cases d <;> first | rfl | cases h
theorem okK_isK {kvs : List (D × D)} {k : D} (h : okK kvs k = true) : isK k := by
  unfold okK at h
  rw [Bool.or_eq_true, Bool.and_eq_true, Bool.and_eq_true] at h
  exact h.elim (fun z => .inl z.1) fun z => .inr z.1
/-! ### numbers, texts, None as a kind of key -/
def flatIs : NestedKey → Value → Bool
  | .none, .none => true
  | .num i, v => Value.isInt i v
  | .text x, v => Value.isStrOf x v
  | _, _ => false
theorem flatIs_shape : ∀ {k : NestedKey} {v : Value}, flatIs k v = true → (k = .none ∧ v = .none) ∨ (∃ i t, k = .num i ∧ v = .int i t) ∨ ∃ x t, k = .text x ∧ v = .str x t
  | .none, v, h => by cases v <;> first | exact .inl ⟨rfl, rfl⟩ | cases h
  | .num i, v, h => by obtain ⟨t, e⟩ := Value.isInt_shape (k := i) (v := v) h; exact .inr (.inl ⟨i, t, rfl, e⟩)
  | .text i, v, h => by obtain ⟨t, e⟩ := Value.isStrOf_shape (x := i) (v := v) h; exact .inr (.inr ⟨i, t, rfl, e⟩)
  | .tup _, v, h => by cases v <;> cases h
def flatKind (prog : Program) (w : World) : PySem.KeyKind prog w NestedKey where
  is := flatIs
  hash := NestedKey.hash w
  inj := fun v a b ha hb => by
    rcases flatIs_shape ha with ⟨rfl, rfl⟩ | ⟨i, t, rfl, rfl⟩ | ⟨x, t, rfl, rfl⟩
    · rcases flatIs_shape hb with ⟨e1, e⟩ | ⟨j, u, e1, e⟩ | ⟨y, u, e1, e⟩
      · exact e1.symm
      · cases e
      · cases e
    · rcases flatIs_shape hb with ⟨e1, e⟩ | ⟨j, u, e1, e⟩ | ⟨y, u, e1, e⟩
      · cases e
      · injection e with e2 _; rw [e1, e2]
      · cases e
    · rcases flatIs_shape hb with ⟨e1, e⟩ | ⟨j, u, e1, e⟩ | ⟨y, u, e1, e⟩
      · cases e
      · cases e
      · injection e with e2 _; rw [e1, e2]
  byValue := fun k v h => by
    rcases flatIs_shape h with ⟨rfl, rfl⟩ | ⟨i, t, rfl, rfl⟩ | ⟨x, t, rfl, rfl⟩ <;> rfl
  pyHash := fun {A E s k v Q} hv h => by
    rcases flatIs_shape hv with ⟨rfl, rfl⟩ | ⟨i, t, rfl, rfl⟩ | ⟨x, t, rfl, rfl⟩
    · exact W.pyHash_slot (T := "NoneType") rfl F.slot_NoneType_hash F.entry_NoneType_hash (F.args_NoneType_hash_1 _) (beq_builtin_none _) (.inl rfl) (wpAny_bind (wpAny_pure (wpAny_bind (wpAny_mkInt (wpAny_pure ⟨_, _, rfl, h⟩)))))
    · exact wpAny_pyHash_int h
    · exact wpAny_pyHash_str h
  eqBool := fun {A E s a b u v Q} hu hv h => by
    rw [NestedKey.decide_eq] at h
    rcases flatIs_shape hu with ⟨rfl, rfl⟩ | ⟨i, t, rfl, rfl⟩ | ⟨x, t, rfl, rfl⟩ <;> rcases flatIs_shape hv with ⟨rfl, rfl⟩ | ⟨j, w, rfl, rfl⟩ | ⟨y, w, rfl, rfl⟩
    · exact SeqAt.EqAt.same _ _ _ _ _ h
    · exact SeqAt.EqAt.none_int j w _ _ _ _ h
    · exact SeqAt.EqAt.none_str y w _ _ _ _ h
    · exact SeqAt.EqAt.int_none i t _ _ _ _ h
    · exact (SeqAt.EqAt.int_int i t j w).cast rfl _ _ _ _ h
    · exact SeqAt.EqAt.int_str i t y w _ _ _ _ h
    · exact SeqAt.EqAt.str_none x t _ _ _ _ h
    · exact SeqAt.EqAt.str_int x t j w _ _ _ _ h
    · exact (SeqAt.EqAt.str_str x t y w).cast rfl _ _ _ _ h
  «strs» := fun k x t v h => by
    rcases flatIs_shape h with ⟨rfl, e⟩ | ⟨i, u, rfl, e⟩ | ⟨y, u, rfl, e⟩
    · exact nomatch e
    · exact nomatch e
    · injection e with e1 _
      subst e1
      cases v <;> rfl
section
variable {X : Cx} {pins : List (Addr × Obj)} {σ : Sg} {H : Hp} {s : Shared} {mu : List Addr}
mutual
theorem nested_is (I : Inv X pins σ H s) : ∀ (n : Nat) (d : D) (v : V) (u : Value), nkOk n d = true → Rv X.K mu H d v → RelV v u → NestedIs s.heap (toNk d) u
  | _, .non, _, _, _, h, r => by
    cases (show _ = V.non from h)
    cases (show _ = Value.none from r)
    exact .none
  | _, .int i, _, _, _, h, r => by
    cases (show _ = V.int i from h)
    obtain ⟨t, rfl⟩ := (show ∃ t, _ = Value.int i t from r)
    exact .int i t
  | _, .str x, _, _, _, h, r => by
    cases (show _ = V.str x from h)
    obtain ⟨t, rfl⟩ := (show ∃ t, _ = Value.str x t from r)
    exact .text x t
  | n + 1, .tup ds, _, _, hk, ⟨a, vs, e, h, q⟩, r => by
    subst e
    cases (show _ = Value.ref a from r)
    obtain ⟨its, rv, ⟨o, ho, hc, m, hd⟩, _⟩ := I.tuple h
    exact .tup ho hc hd (by simpa using nested_all I n ds vs its (by simpa only [nkOk] using hk) q rv)
  | 0, .tup ds, _, _, h, _, _ => by simp [nkOk] at h
  | n, .bl _, _, _, h, _, _ => by cases n <;> simp [nkOk] at h
  | n, .hdl _, _, _, h, _, _ => by cases n <;> simp [nkOk] at h
  | n, .ro _, _, _, h, _, _ => by cases n <;> simp [nkOk] at h
theorem nested_all (I : Inv X pins σ H s) : ∀ (n : Nat) (ds : List D) (vs : List V) (us : List Value), nksOk n ds = true → Rvs X.K mu H ds vs → Vals vs us → NestedAll s.heap (toNks ds) us
  | _, [], _, _, _, h, r => by
    cases (show _ = [] from h)
    cases r
    exact .nil
  | n, d :: ds, _, _, hk, ⟨v, vr, e, h, q⟩, r => by
    subst e
    simp only [nksOk, Bool.and_eq_true] at hk
    cases r with
    | cons r1 r2 => exact .cons (nested_is I n d v _ hk.1 h r1) (nested_all I n ds vr _ hk.2 q r2)
end
theorem key_is (I : Inv X pins σ H s) {d : D} {b : Addr} (hk : isTk d = true) (h : Rv X.K mu H d (.ref b)) : (nestedKind X.prog X.w).is s.heap (toNk d) b :=
  ⟨nested_is I 8 d _ _ (tk_ok hk) h rfl, nk_depth 8 d (tk_ok hk)⟩
end
section
variable {K : PySem.W.Frag} {H : Hp} {mu : List Addr}
theorem sk_is {d : D} {v : V} {u : Value} (hk : isSk d = true) (h : Rv K mu H d v) (r : RelV v u) : flatIs (toNk d) u = true := by
  cases d with
  | non => rw [show v = V.non from h] at r; rw [show u = Value.none from r]; rfl
  | int i => rw [show v = V.int i from h] at r; obtain ⟨t, rfl⟩ := (show ∃ t, u = Value.int i t from r); simp [flatIs, toNk, Value.isInt]
  | str i => rw [show v = V.str i from h] at r; obtain ⟨t, rfl⟩ := (show ∃ t, u = Value.str i t from r); simp [flatIs, toNk, Value.isStrOf]
  | _ => cases hk
theorem sk_of {d : D} {u : Value} (hk : isSk d = true) (h : flatIs (toNk d) u = true) : ∃ v, RelV v u ∧ Rv K mu H d v := by
  cases d with
  | non =>
    rcases flatIs_shape h with ⟨_, rfl⟩ | ⟨_, _, e, _⟩ | ⟨_, _, e, _⟩
    · exact ⟨.non, rfl, rfl⟩
    · cases e
    · cases e
  | int i =>
    rcases flatIs_shape h with ⟨e, _⟩ | ⟨j, t, e, rfl⟩ | ⟨_, _, e, _⟩
    · cases e
    · cases e; exact ⟨.int i, ⟨t, rfl⟩, rfl⟩
    · cases e
  | str i =>
    rcases flatIs_shape h with ⟨e, _⟩ | ⟨_, _, e, _⟩ | ⟨j, t, e, rfl⟩
    · cases e
    · cases e
    · cases e; exact ⟨.str i, ⟨t, rfl⟩, rfl⟩
  | _ => cases hk
theorem tk_ref {d : D} {v : V} (hk : isTk d = true) (h : Rv K mu H d v) : ∃ a, v = .ref a := by
  cases d with
  | tup ds => obtain ⟨a, vs, e, _⟩ := h; exact ⟨a, e⟩
  | _ => cases hk
/-! ### what is in a dict -/
def eFind (xs : List Ent) (k : NestedKey) : Option Value := (xs.find? fun x => decide (x.1 = k)).map (·.2.2)
theorem Rdt.length : ∀ {ds : List (D × D)} {xs : List Ent}, Rdt K mu H ds xs → ds.length = xs.length
  | [], _, h => by cases (show _ = [] from h); rfl
  | _ :: _, _, ⟨_, _, _, _, _, e, _, _, _, _, _, t⟩ => by subst e; simp [Rdt.length t]
theorem dget_nil (k : D) : dget [] k = none := rfl
theorem dget_cons (p : D × D) (r : List (D × D)) (k : D) : dget (p :: r) k = if p.1 = k then some p.2 else dget r k := by
  unfold dget
  rw [List.find?_cons]
  by_cases c : p.1 = k <;> simp [c]
theorem eFind_cons (p : Ent) (r : List Ent) (k : NestedKey) : eFind (p :: r) k = if p.1 = k then some p.2.2 else eFind r k := by
  unfold eFind
  rw [List.find?_cons]
  by_cases c : p.1 = k <;> simp [c]
theorem Rdt.get {k : D} (hk : isK k) : ∀ {ds : List (D × D)} {xs : List Ent}, Rdt K mu H ds xs →
    (dget ds k = none ∧ eFind xs (toNk k) = none) ∨ ∃ d u v, dget ds k = some d ∧ eFind xs (toNk k) = some u ∧ RelV v u ∧ Rv K mu H d v
  | [], _, h => by cases (show _ = [] from h); exact .inl ⟨rfl, rfl⟩
  | p :: r, _, ⟨kv, ku, u, v, xs', e, h0, h1, h2, h3, h4, t⟩ => by
    subst e
    rw [dget_cons, eFind_cons]
    by_cases c : p.1 = k
    · rw [if_pos c, if_pos (by rw [c])]
      exact .inr ⟨p.2, u, v, rfl, rfl, h3, h4⟩
    · rw [if_neg c, if_neg (fun z => c (isK.inj h2 hk z))]
      exact Rdt.get hk t
theorem Rdt.mem : ∀ {ds : List (D × D)} {xs : List Ent}, Rdt K mu H ds xs → ∀ x ∈ xs, ∃ p ∈ ds, ∃ kv v, x.1 = toNk p.1 ∧ RelV kv x.2.1 ∧ Rv K mu H p.1 kv ∧ RelV v x.2.2 ∧ Rv K mu H p.2 v
  | [], _, h, x, hx => by cases (show _ = [] from h); cases hx
  | p :: r, _, ⟨kv, ku, u, v, xs', e, h0, h1, h2, h3, h4, t⟩, x, hx => by
    subst e
    rcases List.mem_cons.mp hx with z | z
    · subst z; exact ⟨p, List.mem_cons_self, kv, v, rfl, h0, h1, h3, h4⟩
    · obtain ⟨q, hq, z⟩ := Rdt.mem t x z; exact ⟨q, List.mem_cons_of_mem _ hq, z⟩
theorem Rdt.at : ∀ {ds : List (D × D)} {xs : List Ent} {i : Nat} {x : Ent}, Rdt K mu H ds xs → xs[i]? = some x → ∃ p kv v, ds[i]? = some p ∧ x.1 = toNk p.1 ∧ RelV kv x.2.1 ∧ Rv K mu H p.1 kv ∧ RelV v x.2.2 ∧ Rv K mu H p.2 v
  | [], _, _, _, h, e => by cases (show _ = [] from h); simp at e
  | p :: r, _, 0, x, ⟨kv, ku, u, v, xs', e, h0, h1, h2, h3, h4, t⟩, ex => by
    subst e; simp at ex; subst ex; exact ⟨p, kv, v, rfl, rfl, h0, h1, h3, h4⟩
  | p :: r, _, i + 1, x, ⟨kv, ku, u, v, xs', e, h0, h1, h2, h3, h4, t⟩, ex => by
    subst e; exact (Rdt.at (i := i) t (by simpa using ex))
/-- .. with one more pair, or a pair's value another -/
theorem Rdt.snoc {k w : D} {kv : V} {ku u : Value} {v : V} (hk : isK k) (rk : RelV kv ku) (hb : Rv K mu H k kv) (ru : RelV v u) (hw : Rv K mu H w v) : ∀ {ds : List (D × D)} {xs : List Ent}, Rdt K mu H ds xs → Rdt K mu H (ds ++ [(k, w)]) (xs ++ [(toNk k, ku, u)])
  | [], _, h => by cases (show _ = [] from h); exact ⟨kv, ku, u, v, [], rfl, rk, hb, hk, ru, hw, rfl⟩
  | p :: r, _, ⟨a, b', u', v', xs', e, h0, h1, h2, h3, h4, t⟩ => by subst e; exact ⟨a, b', u', v', _, rfl, h0, h1, h2, h3, h4, Rdt.snoc hk rk hb ru hw t⟩
def ePut (k : NestedKey) (u : Value) (x : Ent) : Ent := if x.1 = k then (x.1, x.2.1, u) else x
theorem Rdt.repl {k w : D} {u : Value} {v : V} (hk : isK k) (ru : RelV v u) (hw : Rv K mu H w v) : ∀ {ds : List (D × D)} {xs : List Ent}, Rdt K mu H ds xs →
    Rdt K mu H (ds.map fun kv => if kv.1 = k then (kv.1, w) else kv) (xs.map (ePut (toNk k) u))
  | [], _, h => by cases (show _ = [] from h); rfl
  | p :: r, _, ⟨a, b', u', v', xs', e, h0, h1, h2, h3, h4, t⟩ => by
    subst e
    have ih := Rdt.repl (k := k) hk ru hw t
    rw [List.map_cons, List.map_cons]
    by_cases c : p.1 = k
    · have e1 : (if p.1 = k then (p.1, w) else p) = (p.1, w) := if_pos c
      have e2 : ePut (toNk k) u (toNk p.1, b', u') = (toNk p.1, b', u) := if_pos (by rw [c])
      rw [e2]
      show Rdt K mu H ((if p.1 = k then (p.1, w) else p) :: _) _
      rw [e1]
      exact ⟨a, b', u, v, _, rfl, h0, h1, h2, ru, hw, ih⟩
    · have e1 : (if p.1 = k then (p.1, w) else p) = p := if_neg c
      have e2 : ePut (toNk k) u (toNk p.1, b', u') = (toNk p.1, b', u') := if_neg (fun z => c (isK.inj h2 hk z))
      rw [e2]
      show Rdt K mu H ((if p.1 = k then (p.1, w) else p) :: _) _
      rw [e1]
      exact ⟨a, b', u', v', _, rfl, h0, h1, h2, h3, h4, ih⟩
theorem dget_any (ds : List (D × D)) (k : D) : (ds.any fun kv => decide (kv.1 = k)) = (dget ds k).isSome := by
  induction ds with
  | nil => rfl
  | cons p r ih =>
    rw [List.any_cons, dget_cons, ih]
    by_cases c : p.1 = k <;> simp [c]
def eStore (xs : List Ent) (k : NestedKey) (ku u : Value) : List Ent := if (eFind xs k).isSome = true then xs.map (ePut k u) else xs ++ [(k, ku, u)]
theorem Rdt.put {k w : D} {kv : V} {ku u : Value} {v : V} (hk : isK k) (rk : RelV kv ku) (hb : Rv K mu H k kv) (ru : RelV v u) (hw : Rv K mu H w v) {ds : List (D × D)} {xs : List Ent} (h : Rdt K mu H ds xs) :
    Rdt K mu H (dput ds k w) (eStore xs (toNk k) ku u) := by
  unfold dput eStore
  rw [dget_any]
  rcases h.get hk with ⟨e1, e2⟩ | ⟨d, u', v', e1, e2, _⟩
  · rw [e1, e2]; exact h.snoc hk rk hb ru hw
  · rw [e1, e2]; exact h.repl hk ru hw
def eDel (xs : List Ent) (k : NestedKey) : List Ent := xs.filter fun x => decide (x.1 ≠ k)
theorem Rdt.del {k : D} (hk : isK k) : ∀ {ds : List (D × D)} {xs : List Ent}, Rdt K mu H ds xs → Rdt K mu H (ddel ds k) (eDel xs (toNk k))
  | [], _, h => by cases (show _ = [] from h); rfl
  | p :: r, _, ⟨a, b', u', v', xs', e, h0, h1, h2, h3, h4, t⟩ => by
    subst e
    have ih := Rdt.del (k := k) hk t
    unfold ddel eDel at ih ⊢
    rw [List.filter_cons, List.filter_cons]
    by_cases c : p.1 = k
    · have c2 : toNk p.1 = toNk k := by rw [c]
      simp only [c, c2, decide_true, Bool.not_true, Bool.false_eq_true, if_false, ne_eq, not_true_eq_false, decide_false]
      exact ih
    · have c2 : ¬ toNk p.1 = toNk k := fun z => c (isK.inj h2 hk z)
      simp only [c, c2, decide_false, Bool.not_false, if_true, ne_eq, not_false_eq_true, decide_true]
      exact ⟨a, b', u', v', _, rfl, h0, h1, h2, h3, h4, ih⟩
theorem eStore_len (xs : List Ent) (k : NestedKey) (ku u : Value) : (eStore xs k ku u).length ≤ xs.length + 1 := by
  unfold eStore; split <;> simp
end
end MI
end
section
set_option Elab.async false
set_option linter.all false
set_option maxRecDepth 100000
set_option maxHeartbeats 4000000
/-! MIv: dicts: the rules -/
namespace MI
open PySem PySem.Spec PyProof.Rows L2
def adV : Value → Addr
  | .ref a => a
  | _ => 0
abbrev xsT (xs : List Ent) : List (NestedKey × Addr × Value) := xs.map fun x => (x.1, adV x.2.1, x.2.2)
abbrev xsS (xs : List Ent) : List (NestedKey × Value) := xs.map fun x => (x.1, x.2.2)
theorem valueAt_eq (xs : List Ent) (k : NestedKey) : valueAt (xsS xs) k = eFind xs k := by
  induction xs with
  | nil => rfl
  | cons x r ih =>
    rw [eFind_cons, ← ih]
    unfold valueAt xsS
    rw [List.map_cons, List.find?_cons]
    by_cases c : x.1 = k <;> simp [c]
theorem atKey_eq (xs : List Ent) (k : NestedKey) : (atKey (xsT xs) k).map (·.2) = eFind xs k := by
  induction xs with
  | nil => rfl
  | cons x r ih =>
    rw [eFind_cons, ← ih]
    unfold atKey xsT
    rw [List.map_cons, List.find?_cons]
    by_cases c : x.1 = k <;> simp [c]
theorem atKey_isSome (xs : List Ent) (k : NestedKey) : (atKey (xsT xs) k).isSome = (eFind xs k).isSome := by
  rw [← atKey_eq]; cases atKey (xsT xs) k <;> rfl
theorem keys_S (xs : List Ent) : (xsS xs).map (·.1) = xs.map (·.1) := by unfold xsS; rw [List.map_map]; rfl
theorem keys_T (xs : List Ent) : (xsT xs).map (·.1) = xs.map (·.1) := by unfold xsT; rw [List.map_map]; rfl
def Refs (xs : List Ent) : Prop := ∀ x ∈ xs, x.2.1 = .ref (adV x.2.1)
abbrev bkT (ys : List (NestedKey × Addr × Value)) : List Ent := ys.map fun y => (y.1, Value.ref y.2.1, y.2.2)
theorem bk_xsT {xs : List Ent} (h : Refs xs) : bkT (xsT xs) = xs := by
  unfold bkT xsT
  rw [List.map_map]
  conv => rhs; rw [← List.map_id xs]
  refine List.map_congr_left fun x hx => ?_
  have := h x hx
  obtain ⟨a, b, c⟩ := x
  simp only [Function.comp, id_eq]
  rw [← this]
theorem bk_store {xs : List Ent} (h : Refs xs) (k : NestedKey) (b : Addr) (u : Value) : bkT (storedH (xsT xs) k b u) = eStore xs k (.ref b) u := by
  unfold storedH eStore
  rw [atKey_isSome]
  split
  · unfold bkT xsT
    rw [List.map_map, List.map_map]
    refine List.map_congr_left fun x hx => ?_
    have := h x hx
    obtain ⟨a, b, c⟩ := x
    simp only [Function.comp, putAt, ePut]
    by_cases e : a = k
    · simp only [e, if_true]; rw [← this]
    · simp only [e, if_false]; rw [← this]
  · unfold bkT
    rw [List.map_append]
    show bkT (xsT xs) ++ _ = _
    rw [bk_xsT h]
    rfl
theorem bk_del {xs : List Ent} (h : Refs xs) (k : NestedKey) : bkT (withoutH (xsT xs) k) = eDel xs k := by
  induction xs with
  | nil => rfl
  | cons x r ih =>
    have ih' := ih fun y hy => h y (List.mem_cons_of_mem _ hy)
    have hx := h x List.mem_cons_self
    unfold withoutH eDel xsT bkT at ih' ⊢
    rw [List.map_cons, List.filter_cons, List.filter_cons]
    by_cases e : x.1 = k
    · simp only [e, ne_eq, not_true_eq_false, decide_false, Bool.false_eq_true, if_false]
      exact ih'
    · simp only [e, ne_eq, not_false_eq_true, decide_true, if_true, List.map_cons]
      rw [ih', ← hx]
theorem S_store (xs : List Ent) (k : NestedKey) (ku u : Value) : stored (xsS xs) k u = xsS (eStore xs k ku u) := by
  have e : ((xsS xs).any fun kv => decide (kv.1 = k)) = (eFind xs k).isSome := by
    induction xs with
    | nil => rfl
    | cons x r ih =>
      rw [eFind_cons]
      unfold xsS at ih ⊢
      rw [List.map_cons, List.any_cons, ih]
      by_cases c : x.1 = k <;> simp [c]
  unfold stored eStore
  rw [e]
  split
  · unfold xsS
    rw [List.map_map, List.map_map]
    refine List.map_congr_left fun x hx => ?_
    simp only [Function.comp, ePut]
    by_cases c : x.1 = k
    · simp only [c, if_true]
    · simp only [c, if_false]
  · unfold xsS; rw [List.map_append]; rfl
theorem S_del (xs : List Ent) (k : NestedKey) : without (xsS xs) k = xsS (eDel xs k) := by
  unfold without eDel xsS
  rw [List.filter_map]; rfl
section
variable {K : PySem.W.Frag} {H : Hp} {mu : List Addr}
theorem refs_of {ds : List (D × D)} {xs : List Ent} (r : Rdt K mu H ds xs) (all : (ds.all fun p => isTk p.1) = true) : Refs xs := fun x hx => by
  obtain ⟨p, hp, kv, v, e1, e2, e3, _⟩ := r.mem x hx
  obtain ⟨a, rfl⟩ := tk_ref (List.all_eq_true.mp all p hp) e3
  rw [show x.2.1 = Value.ref a from e2]; rfl
/-- keys of another make -/
theorem Rdt.keys : ∀ {ds : List (D × D)} {xs ys : List Ent}, Rdt K mu H ds xs → (ds.all fun p => isSk p.1) = true → xsS ys = xsS xs → (∀ y ∈ ys, flatIs y.1 y.2.1 = true) → Rdt K mu H ds ys
  | [], xs, ys, h, _, e, _ => by
    rw [show xs = [] from h] at e
    exact List.map_eq_nil_iff.mp e
  | p :: r, _, ys, ⟨kv, ku, u, v, xs', e0, h0, h1, h2, h3, h4, t⟩, all, e, f => by
    subst e0
    cases ys with
    | nil => cases e
    | cons y ys =>
      rw [List.all_cons, Bool.and_eq_true] at all
      unfold xsS at e
      rw [List.map_cons, List.map_cons] at e
      injection e with e1 e2
      have e3 : y.1 = toNk p.1 := congrArg Prod.fst e1
      have e4 : y.2.2 = u := congrArg Prod.snd e1
      have hf := f y List.mem_cons_self
      rw [e3] at hf
      obtain ⟨w, w1, w2⟩ := sk_of (K := K) (H := H) (mu := mu) all.1 hf
      refine ⟨w, y.2.1, u, v, ys, ?_, w1, w2, h2, h3, h4, Rdt.keys t all.2 e2 fun z hz => f z (List.mem_cons_of_mem _ hz)⟩
      rw [← e3, ← e4]
end
section
variable {X : Cx} {pins : List (Addr × Obj)} {σ : Sg} {H : Hp} {s : Shared} {mu : List Addr} {a : Addr} {xs : List Ent} {ds : List (D × D)}
theorem dictO_ok {P : Program} {w w' : World} {H' : Hp} {h : Heap} (d : DT0 w' h a xs) : ObjOk P w H' h a (dictO w' a xs) := by
  obtain ⟨o, es, ep, ho, _⟩ := d.ob
  refine ⟨d, ⟨o, ho⟩, fun h1 h2 p k => ?_⟩
  have p' : DT0 w' h1 a xs := p
  obtain ⟨⟨o', es', ep', ho', r⟩, q1, q2, q3⟩ := p'
  exact ⟨⟨o', es', ep', k o' ho', r⟩, q1, q2, q3⟩
theorem lk_get {fz : Bool} {w' : World} (I : Inv X pins σ H s) (e : Lk fz H a (dictO w' a xs)) : DT0 w' s.heap a xs := by
  cases fz with
  | false => exact (I.hok a _ e).1
  | true =>
    obtain ⟨od, e⟩ := e
    exact ((I.hok a _ e).2).1
theorem DT0.T {w : World} (I : Inv X pins σ H s) (hw : w = X.w) (d : DT0 w s.heap a xs) (r : Rdt X.K mu H ds xs) (all : (ds.all fun p => isTk p.1) = true) : s.heap.DictOfH (nestedKind X.prog X.w) a (xsT xs) := by
  subst hw
  obtain ⟨⟨o, es, ep, h1, h2, h3, h4⟩, nd, _, _⟩ := d
  have rf := refs_of r all
  refine ⟨o, es, ep, h1, h2, h3, ?_, fun y hy => ?_, by rw [keys_T]; exact nd⟩
  · rw [h4]
    unfold xsT
    rw [List.map_map]
    refine List.map_congr_left fun x hx => ?_
    have := rf x hx
    simp only [Function.comp, entryOfKey]
    rw [← this]; rfl
  · obtain ⟨x, hx, rfl⟩ := List.mem_map.mp hy
    obtain ⟨p, hp, kv, v, e1, e2, e3, _⟩ := r.mem x hx
    have hk := List.all_eq_true.mp all p hp
    obtain ⟨b, rfl⟩ := tk_ref hk e3
    have e2' : x.2.1 = .ref b := e2
    show (nestedKind X.prog X.w).is s.heap x.1 (adV x.2.1)
    rw [e1, e2']
    exact key_is I hk e3
theorem DT0.S {w : World} {h : Heap} {P : Program} (d : DT0 w h a xs) {K : PySem.W.Frag} (r : Rdt K mu H ds xs) (all : (ds.all fun p => isSk p.1) = true) : h.DictOf (flatKind P w) a (xsS xs) := by
  obtain ⟨⟨o, es, ep, h1, h2, h3, h4⟩, nd, n1, n2⟩ := d
  have fl : ∀ x ∈ xs, flatIs x.1 x.2.1 = true := fun x hx => by
    obtain ⟨p, hp, kv, v, e1, e2, e3, _⟩ := r.mem x hx
    rw [e1]
    exact sk_is (List.all_eq_true.mp all p hp) e3 e2
  refine ⟨o, es, ep, h1, h2, h3, fun e he => ?_, ?_, by rw [keys_S]; exact nd⟩
  · have he' : e ∈ xs.map fun x => (⟨x.1.hash w, x.2.1, x.2.2⟩ : DictEntry) := by rw [← h4]; exact Array.mem_toList_iff.mpr he
    obtain ⟨x, hx, rfl⟩ := List.mem_map.mp he'
    exact ⟨x.1, fl x hx, rfl⟩
  · rw [h4]
    clear h4 nd r h1 h2 h3 n1 n2
    induction xs with
    | nil => exact .nil
    | cons x q ih => exact .cons (fl x List.mem_cons_self) rfl (ih fun y hy => fl y (List.mem_cons_of_mem _ hy))
theorem DT0.ofT {w : World} {h : Heap} {P : Program} {ys : List (NestedKey × Addr × Value)} (m : h.DictOfH (nestedKind P w) a ys) (sy : (a == sysModules) = false) (len : ys.length ≤ sizeLine) : DT0 w h a (bkT ys) := by
  obtain ⟨o, es, ep, h1, h2, h3, h4, h5, h6⟩ := m
  refine ⟨⟨o, es, ep, h1, h2, h3, ?_⟩, ?_, sy, by unfold bkT; rw [List.length_map]; exact len⟩
  · rw [h4]; unfold bkT; rw [List.map_map]; rfl
  · unfold bkT; rw [List.map_map]; exact h6
theorem DT0.ofS {w : World} {h : Heap} {P : Program} {ks : List (NestedKey × Value)} (m : h.DictOf (flatKind P w) a ks) (sy : (a == sysModules) = false) (len : ks.length ≤ sizeLine) :
    ∃ ys, DT0 w h a ys ∧ xsS ys = ks ∧ ∀ y ∈ ys, flatIs y.1 y.2.1 = true := by
  obtain ⟨o, es, ep, h1, h2, h3, h4, h5, h6⟩ := m
  have key : ∀ (es : List DictEntry) (ks : List (NestedKey × Value)), (∀ e ∈ es, ∃ k, (flatKind P w).is k e.key = true ∧ e.hash = (flatKind P w).hash k) → Pairs (flatKind P w) es ks →
      ∃ ys : List Ent, (es = ys.map fun x => (⟨x.1.hash w, x.2.1, x.2.2⟩ : DictEntry)) ∧ xsS ys = ks ∧ ∀ y ∈ ys, flatIs y.1 y.2.1 = true := by
    intro es
    induction es with
    | nil => intro ks _ p; cases p; exact ⟨[], rfl, rfl, fun y hy => nomatch hy⟩
    | cons e es ih =>
      intro ks hk p
      cases p with
      | @cons _ kv _ kvs p1 p2 p3 =>
        obtain ⟨ys, q1, q2, q3⟩ := ih _ (fun e he => hk e (List.mem_cons_of_mem _ he)) p3
        obtain ⟨k', z1, z2⟩ := hk e List.mem_cons_self
        have ek := (flatKind P w).inj _ _ _ z1 p1
        subst ek
        refine ⟨(kv.1, e.key, kv.2) :: ys, ?_, ?_, fun y hy => ?_⟩
        · rw [List.map_cons, ← q1]
          congr 1
          obtain ⟨eh, ekey, ev⟩ := e
          simp only at p2 z2 ⊢
          rw [p2, z2]; rfl
        · unfold xsS at q2 ⊢; rw [List.map_cons, q2]
        · rcases List.mem_cons.mp hy with r | r
          · subst r; exact p1
          · exact q3 y r
  obtain ⟨ys, q1, q2, q3⟩ := key es.toList ks (fun e he => h4 e (Array.mem_toList_iff.mp he)) h5
  refine ⟨ys, ⟨⟨o, es, ep, h1, h2, h3, q1⟩, ?_, sy, ?_⟩, q2, q3⟩
  · rw [← keys_S, q2]; exact h6
  · have := congrArg List.length q2
    unfold xsS at this
    rw [List.length_map] at this
    omega
/-- which kind of dict it is, for this key -/
theorem okK_ways {k : D} (h : okK ds k = true) : (isSk k = true ∧ (ds.all fun p => isSk p.1) = true) ∨ (isTk k = true ∧ (ds.all fun p => isTk p.1) = true) := by
  unfold okK at h
  rw [Bool.or_eq_true, Bool.and_eq_true, Bool.and_eq_true] at h
  exact h
theorem room1 {A : Around} (hu : A.units + 64 < cLine) : (nestedKind X.prog X.w).room A.in1 := by
  have h1 : A.in1.units ≤ A.units + 2 := by first | exact Nat.le_refl _ | (simp [Around.in1]) | decide
  show A.in1.units + 8 < cLine
  omega
variable {A : Around} {E : Value → Shared → Prop} {k : D} {kv : V} {ku : Value} {w : World} {fz : Bool}
theorem part_S (hk : isSk k = true) {K : PySem.W.Frag} (h : Rv K mu H k kv) (r : RelV kv ku) : (keyPart ku).isSome = true := by
  cases k with
  | non => rw [show kv = V.non from h] at r; rw [show ku = Value.none from r]; rfl
  | int i => rw [show kv = V.int i from h] at r; obtain ⟨t, rfl⟩ := (show ∃ t, ku = Value.int i t from r); rfl
  | str i => rw [show kv = V.str i from h] at r; obtain ⟨t, rfl⟩ := (show ∃ t, ku = Value.str i t from r); rfl
  | _ => cases hk
theorem dd_in {neg : Bool} {Q : Value → Shared → Prop} (hu : A.units + 64 < cLine) (I : Inv X pins σ H s) (hw : w = X.w) (e : Lk fz H a (dictO w a xs)) (r : Rdt X.K mu H ds xs) (ok : okK ds k = true) (hk : Rv X.K mu H k kv) (rk : RelV kv ku)
    (h : ∀ s', Inv X pins σ H s' → Q (.bool (if neg then !(dget ds k).isSome else (dget ds k).isSome)) s') : wpAny (model X.prog X.w) A (compareOp (if neg then .NotIn else .In) ku (.ref a)) Q E s := by
  have d0 := lk_get I e
  have hs : (eFind xs (toNk k)).isSome = (dget ds k).isSome := by
    rcases r.get (okK_isK ok) with ⟨e1, e2⟩ | ⟨d, u, v, e1, e2, _⟩ <;> rw [e1, e2] <;> rfl
  rcases okK_ways ok with ⟨hs1, all⟩ | ⟨ht1, all⟩
  · subst hw
    have m := (d0.S (P := X.prog) r all).mapOf
    have fk := sk_is hs1 hk rk
    cases neg with
    | false => exact wpAny_in_of (knd := flatKind X.prog X.w) fk d0.sy m (by rw [valueAt_eq, hs]; exact h _ (I.tok _))
    | true => exact wpAny_notIn_of (knd := flatKind X.prog X.w) fk d0.sy m (by rw [valueAt_eq, hs]; exact h _ (I.tok _))
  · obtain ⟨b, rfl⟩ := tk_ref ht1 hk
    cases rk
    have m := d0.T I hw r all
    cases neg with
    | false => exact wpAny_in_heap (room1 hu) (key_is I ht1 hk) d0.sy m (by rw [atKey_isSome, hs]; exact h _ (I.tok _))
    | true => exact wpAny_notIn_heap (room1 hu) (key_is I ht1 hk) d0.sy m (by rw [atKey_isSome, hs]; exact h _ (I.tok _))
theorem dd_item {d : D} {Q : Value → Shared → Prop} (hu : A.units + 64 < cLine) (I : Inv X pins σ H s) (hw : w = X.w) (e : Lk fz H a (dictO w a xs)) (r : Rdt X.K mu H ds xs) (ok : okK ds k = true) (hk : Rv X.K mu H k kv) (rk : RelV kv ku) (hd : dget ds k = some d)
    (h : ∀ u v s', Inv X pins σ H s' → RelV v u → Rv X.K mu H d v → Q u s') : wpAny (model X.prog X.w) A (getItem (.ref a) ku) Q E s := by
  have d0 := lk_get I e
  rcases r.get (okK_isK ok) with ⟨e1, e2⟩ | ⟨d', u, v, e1, e2, e3, e4⟩
  · rw [hd] at e1; cases e1
  rw [hd] at e1; cases e1
  rcases okK_ways ok with ⟨hs1, all⟩ | ⟨ht1, all⟩
  · subst hw
    exact wpAny_getItem_of (knd := flatKind X.prog X.w) (sk_is hs1 hk rk) (d0.S (P := X.prog) r all).mapOf (by rw [valueAt_eq]; exact e2) (h u v _ (I.tok _) e3 e4)
  · obtain ⟨b, rfl⟩ := tk_ref ht1 hk
    cases rk
    have z := atKey_eq xs (toNk k)
    rw [e2] at z
    obtain ⟨p, z1, z2⟩ := Option.map_eq_some_iff.mp z
    exact wpAny_getItem_heap (room1 hu) (key_is I ht1 hk) (d0.T I hw r all) z1 (by rw [z2]; exact h u v _ (I.tok _) e3 e4)
theorem dd_get {x : V} {xu : Value} {xd : D} {Q : Value → Shared → Prop} (hu : A.units + 64 < cLine) (I : Inv X pins σ H s) (hw : w = X.w) (e : Lk fz H a (dictO w a xs)) (r : Rdt X.K mu H ds xs) (ok : okK ds k = true) (hk : Rv X.K mu H k kv) (rk : RelV kv ku) (hx : Rv X.K mu H xd x) (rx : RelV x xu)
    (h : ∀ u v s', Inv X pins σ H s' → RelV v u → Rv X.K mu H ((dget ds k).getD xd) v → Q u s') : wpAny (model X.prog X.w) A (call (.builtin "dict.get") [.ref a, ku, xu]) Q E s := by
  have d0 := lk_get I e
  have hq : ∀ s', Inv X pins σ H s' → Q ((eFind xs (toNk k)).getD xu) s' := fun s' I' => by
    rcases r.get (okK_isK ok) with ⟨e1, e2⟩ | ⟨d', u, v, e1, e2, e3, e4⟩
    · rw [e2]; rw [e1] at h; exact h xu x s' I' rx hx
    · rw [e2]; rw [e1] at h; exact h u v s' I' e3 e4
  rcases okK_ways ok with ⟨hs1, all⟩ | ⟨ht1, all⟩
  · subst hw
    have m := d0.S (P := X.prog) r all
    exact call_meetsIn PySem.F.slot_dict_get m.typeIs PySem.F.entry_dict_get (PySem.F.args_dict_get_3 _ _ _) (meets_dict_get_default (flatKind X.prog X.w) a (sk_is hs1 hk rk) d0.sy xu) ⟨_, m.mapOf, by rw [valueAt_eq]; exact hq _ (I.tok _)⟩
  · obtain ⟨b, rfl⟩ := tk_ref ht1 hk
    cases rk
    have m := d0.T I hw r all
    exact call_meetsIn PySem.F.slot_dict_get m.typeIs PySem.F.entry_dict_get (PySem.F.args_dict_get_3 _ _ _) (meetsH_dict_get_default (nestedKind X.prog X.w) a b d0.sy xu) ⟨room1 hu, toNk k, _, key_is I ht1 hk, m, by rw [atKey_eq]; exact hq _ (I.tok _)⟩
/-- what a store leaves -/
theorem left_S {h' : Heap} {t' : Nat} {ks : List (NestedKey × Value)} {ys : List Ent} {ds' : List (D × D)} (I : Inv X pins σ H s) (e : H a = some (dictO w a xs)) (sy : (a == sysModules) = false) (m : h'.DictOf (flatKind X.prog w) a ks) (hs : Heap.SameBut a s.heap h') (ek : ks = xsS ys) (r : Rdt X.K mu H ds' ys) (all : (ds'.all fun p => isSk p.1) = true) (hl : ys.length ≤ sizeLine) :
    ∃ zs, Rdt X.K mu H ds' zs ∧ Inv X pins σ (upd H a (dictO w a zs)) { s with heap := h', toks := t' } := by
  subst ek
  obtain ⟨zs, d, e1, f⟩ := DT0.ofS m sy (by unfold xsS; rw [List.length_map]; exact hl)
  obtain ⟨o, es, ep, ho, _⟩ := d.ob
  exact ⟨zs, r.keys all e1 f, d_write I (by rw [e]; exact True.intro) hs ⟨o, ho⟩ (dictO_ok d)⟩
theorem left_T {h' : Heap} {t' : Nat} {ks : List (NestedKey × Addr × Value)} {ys : List Ent} {ds' : List (D × D)} (I : Inv X pins σ H s) (e : H a = some (dictO w a xs)) (sy : (a == sysModules) = false) (m : h'.DictOfH (nestedKind X.prog w) a ks) (hs : Heap.SameBut a s.heap h') (ek : bkT ks = ys) (r : Rdt X.K mu H ds' ys) (hl : ys.length ≤ sizeLine) :
    ∃ zs, Rdt X.K mu H ds' zs ∧ Inv X pins σ (upd H a (dictO w a zs)) { s with heap := h', toks := t' } := by
  subst ek
  have d := DT0.ofT m sy (by unfold bkT at hl; rw [List.length_map] at hl; exact hl)
  obtain ⟨o, es, ep, ho, _⟩ := d.ob
  exact ⟨_, r, d_write I (by rw [e]; exact True.intro) hs ⟨o, ho⟩ (dictO_ok d)⟩
theorem dput_all {f : D → Bool} {k d : D} (h : (ds.all fun p => f p.1) = true) (hk : f k = true) : ((dput ds k d).all fun p => f p.1) = true := by
  unfold dput
  split
  · rw [List.all_map, List.all_eq_true]
    intro p hp
    have := List.all_eq_true.mp h p hp
    simp only [Function.comp]
    split <;> exact this
  · rw [List.all_append, h]; simp [hk]
theorem ddel_all {f : D → Bool} {k : D} (h : (ds.all fun p => f p.1) = true) : ((ddel ds k).all fun p => f p.1) = true := by
  unfold ddel
  rw [List.all_eq_true] at h ⊢
  intro p hp
  exact h p (List.mem_filter.mp hp).1
theorem dd_set {d : D} {v : V} {u : Value} {Q : Unit → Shared → Prop} (hu : A.units + 64 < cLine) (I : Inv X pins σ H s) (hw : w = X.w) (e : H a = some (dictO w a xs)) (r : Rdt X.K mu H ds xs) (ok : okK ds k = true) (hk : Rv X.K mu H k kv) (rk : RelV kv ku) (hd : Rv X.K mu H d v) (ru : RelV v u) (hl : ds.length < sizeLine)
    (h : ∀ zs s', Rdt X.K mu H (dput ds k d) zs → Inv X pins σ (upd H a (dictO w a zs)) s' → Q () s') : wpAny (model X.prog X.w) A (setItem (.ref a) ku u) Q E s := by
  have d0 := lk_get (fz := false) I e
  have hl2 : xs.length < sizeLine := by rw [← r.length]; exact hl
  have hz := eStore_len xs (toNk k) ku u
  have rp := r.put (okK_isK ok) rk hk ru hd
  rcases okK_ways ok with ⟨hs1, all⟩ | ⟨ht1, all⟩
  · subst hw
    refine wpAny_setItem_pairs (knd := flatKind X.prog X.w) (sk_is hs1 hk rk) (d0.S (P := X.prog) r all) (fun h' m hs => ?_) (by unfold xsS; rw [List.length_map]; exact d0.len)
    obtain ⟨zs, q1, q2⟩ := left_S (t' := s.toks + 1) I e d0.sy m hs (S_store xs (toNk k) ku u) rp (dput_all all hs1) (by omega)
    exact h zs _ q1 q2
  · obtain ⟨b, rfl⟩ := tk_ref ht1 hk
    cases rk
    subst hw
    refine wpAny_setItem_heap (hsz := by unfold xsT; rw [List.length_map]; exact d0.len) (room1 hu) (key_is I ht1 hk) (d0.T I rfl r all) fun h' m hs => ?_
    obtain ⟨zs, q1, q2⟩ := left_T (t' := s.toks + (nestedKind X.prog X.w).draws (toNk k)) I e d0.sy m hs (bk_store (refs_of r all) _ _ _) rp (by omega)
    exact h zs _ q1 q2
theorem dd_setdefault {d : D} {v : V} {u : Value} {Q : Value → Shared → Prop} (hu : A.units + 64 < cLine) (I : Inv X pins σ H s) (hw : w = X.w) (e : H a = some (dictO w a xs)) (r : Rdt X.K mu H ds xs) (ok : okK ds k = true) (hk : Rv X.K mu H k kv) (rk : RelV kv ku) (hd : Rv X.K mu H d v) (ru : RelV v u) (hl : ds.length < sizeLine)
    (h1 : ∀ d' u' v' s', dget ds k = some d' → Inv X pins σ H s' → RelV v' u' → Rv X.K mu H d' v' → Q u' s')
    (h2 : ∀ zs s', dget ds k = none → Rdt X.K mu H (dput ds k d) zs → Inv X pins σ (upd H a (dictO w a zs)) s' → Q u s') : wpAny (model X.prog X.w) A (call (.builtin "dict.setdefault") [.ref a, ku, u]) Q E s := by
  have d0 := lk_get (fz := false) I e
  have hl2 : xs.length < sizeLine := by rw [← r.length]; exact hl
  have hz := eStore_len xs (toNk k) ku u
  have rp := r.put (okK_isK ok) rk hk ru hd
  have hgo : ∀ x s', eFind xs (toNk k) = some x → Inv X pins σ H s' → Q x s' := fun x s' ex I' => by
    rcases r.get (okK_isK ok) with ⟨e1, e2⟩ | ⟨d', u, v, e1, e2, e3, e4⟩
    · rw [ex] at e2; cases e2
    · rw [ex] at e2; cases e2; exact h1 d' _ v s' e1 I' e3 e4
  have hno : eFind xs (toNk k) = none → dget ds k = none := fun ex => by
    rcases r.get (okK_isK ok) with ⟨e1, e2⟩ | ⟨d', u, v, e1, e2, e3, e4⟩
    · exact e1
    · rw [ex] at e2; cases e2
  rcases okK_ways ok with ⟨hs1, all⟩ | ⟨ht1, all⟩
  · subst hw
    have m0 := d0.S (P := X.prog) r all
    refine call_meetsIn PySem.F.slot_dict_setdefault m0.typeIs PySem.F.entry_dict_setdefault (PySem.F.args_dict_setdefault_3 _ _ _) (kt_meets_setdefault (flatKind X.prog X.w) a (sk_is hs1 hk rk) d0.sy u)
      ⟨_, m0, by unfold xsS; rw [List.length_map]; exact d0.len, fun x hx => hgo x _ (by rw [← valueAt_eq]; exact hx) (I.tok _), fun hn h' m hs => ?_⟩
    obtain ⟨zs, q1, q2⟩ := left_S (t' := s.toks + 1) I e d0.sy m hs (S_store xs (toNk k) ku u) rp (dput_all all hs1) (by omega)
    exact h2 zs _ (hno (by rw [← valueAt_eq]; exact hn)) q1 q2
  · obtain ⟨b, rfl⟩ := tk_ref ht1 hk
    cases rk
    subst hw
    refine call_setdefault_heap (hsz := by unfold xsT; rw [List.length_map]; exact d0.len) (room1 hu) (key_is I ht1 hk) d0.sy (d0.T I rfl r all) (fun p hp => hgo p.2 _ (by rw [← atKey_eq, hp]; rfl) (I.tok _)) fun hn h' m hs => ?_
    obtain ⟨zs, q1, q2⟩ := left_T (t' := s.toks + (nestedKind X.prog X.w).draws (toNk k)) I e d0.sy m hs (bk_store (refs_of r all) _ _ _) rp (by omega)
    exact h2 zs _ (hno (by rw [← atKey_eq, hn]; rfl)) q1 q2
theorem dd_pop {d : D} {v : V} {u : Value} {Q : Value → Shared → Prop} (hu : A.units + 64 < cLine) (I : Inv X pins σ H s) (hw : w = X.w) (e : H a = some (dictO w a xs)) (r : Rdt X.K mu H ds xs) (ok : okK ds k = true) (hk : Rv X.K mu H k kv) (rk : RelV kv ku)
    (h1 : ∀ d' u' v' zs s', dget ds k = some d' → Rdt X.K mu H (ddel ds k) zs → Inv X pins σ (upd H a (dictO w a zs)) s' → RelV v' u' → Rv X.K mu H d' v' → Q u' s')
    (h2 : ∀ s', dget ds k = none → Inv X pins σ H s' → Q u s') : wpAny (model X.prog X.w) A (call (.builtin "dict.pop") [.ref a, ku, u]) Q E s := by
  have d0 := lk_get (fz := false) I e
  have rp := r.del (okK_isK ok)
  have hz : (eDel xs (toNk k)).length ≤ sizeLine := Nat.le_trans (List.length_filter_le _ _) d0.len
  have pk : argsOk "dict.pop" ⟨[.ref a, ku, u], []⟩ := PySem.F.args_dict_pop_3 _ _ _
  rcases okK_ways ok with ⟨hs1, all⟩ | ⟨ht1, all⟩
  · subst hw
    have m0 := d0.S (P := X.prog) r all
    rcases r.get (okK_isK ok) with ⟨e1, e2⟩ | ⟨d', u', v', e1, e2, e3, e4⟩
    · exact call_meetsIn PySem.F.slot_dict_pop m0.typeIs PySem.F.entry_dict_pop pk (meets_dict_pop_default (flatKind X.prog X.w) a (sk_is hs1 hk rk) d0.sy (part_S hs1 hk rk) u) ⟨_, m0, by rw [valueAt_eq]; exact e2, h2 _ e1 (I.tok _)⟩
    · refine call_meetsIn PySem.F.slot_dict_pop m0.typeIs PySem.F.entry_dict_pop pk (meets_dict_pop_there (flatKind X.prog X.w) a (sk_is hs1 hk rk) [u] (.inr ⟨u, rfl⟩) (part_S hs1 hk rk))
        ⟨_, u', m0, by unfold xsS; rw [List.length_map]; exact d0.len, by rw [valueAt_eq]; exact e2, fun h' m hs => ?_⟩
      obtain ⟨zs, q1, q2⟩ := left_S (t' := s.toks + 1) I e d0.sy m hs (S_del xs (toNk k)) rp (ddel_all all) hz
      exact h1 d' u' v' zs _ e1 q1 q2 e3 e4
  · obtain ⟨b, rfl⟩ := tk_ref ht1 hk
    cases rk
    subst hw
    have m0 := d0.T I rfl r all
    have hsz : (xsT xs).length ≤ sizeLine := by unfold xsT; rw [List.length_map]; exact d0.len
    rcases r.get (okK_isK ok) with ⟨e1, e2⟩ | ⟨d', u', v', e1, e2, e3, e4⟩
    · refine call_pop_default_heap (hsz := hsz) (room1 hu) (key_is I ht1 hk) d0.sy m0 ?_ fun tk => h2 _ e1 (I.tok _)
      have z := atKey_eq xs (toNk k)
      rw [e2] at z
      exact Option.map_eq_none_iff.mp z
    · have z := atKey_eq xs (toNk k)
      rw [e2] at z
      obtain ⟨p, z1, z2⟩ := Option.map_eq_some_iff.mp z
      refine call_pop_heap (hsz := hsz) (.inr ⟨u, rfl⟩) pk (room1 hu) (key_is I ht1 hk) d0.sy m0 z1 fun h' m hs => ?_
      obtain ⟨zs, q1, q2⟩ := left_T (t' := s.toks + (nestedKind X.prog X.w).draws (toNk k)) I e d0.sy m hs (bk_del (refs_of r all) _) rp hz
      rw [z2]
      exact h1 d' u' v' zs _ e1 q1 q2 e3 e4
end
end MI
end
section
set_option Elab.async false
set_option linter.all false
set_option maxRecDepth 100000
set_option maxHeartbeats 4000000
/-! MIw: rows sorted: of a list, of a dict's keys, of a set -/
namespace MI
open PySem PySem.Spec PyProof.Rows L2
/-! ### the order -/
theorem lexL_irr : ∀ a : List Int, lexL a a = false
  | [] => rfl
  | x :: xs => by unfold lexL; rw [if_pos rfl]; exact lexL_irr xs
theorem lexL_asym : ∀ a b : List Int, lexL a b = true → lexL b a = false
  | [], [], h => by cases h
  | [], _ :: _, _ => rfl
  | _ :: _, [], h => by cases h
  | x :: xs, y :: ys, h => by
    unfold lexL at h ⊢
    by_cases e : x = y
    · rw [if_pos e] at h; rw [if_pos e.symm]; exact lexL_asym xs ys h
    · rw [if_neg e] at h; rw [if_neg (Ne.symm e)]
      have := of_decide_eq_true h
      exact decide_eq_false (by omega)
theorem lexL_tr : ∀ a b c : List Int, lexL b a = false → lexL c b = false → lexL c a = false
  | a, b, [], h1, h2 => by
    cases b with
    | nil => exact h1
    | cons y ys => cases h2
  | [], b, z :: zs, _, _ => rfl
  | x :: xs, [], z :: zs, h1, _ => by cases h1
  | x :: xs, y :: ys, z :: zs, h1, h2 => by
    unfold lexL at h1 h2 ⊢
    by_cases e1 : y = x
    · subst e1
      rw [if_pos rfl] at h1
      by_cases e2 : z = y
      · subst e2
        rw [if_pos rfl] at h2
        rw [if_pos rfl]; exact lexL_tr xs ys zs h1 h2
      · rw [if_neg e2] at h2
        rw [if_neg e2]; exact h2
    · rw [if_neg e1] at h1
      have h1' := of_decide_eq_false h1
      by_cases e2 : z = y
      · subst e2
        rw [if_neg e1]; exact decide_eq_false h1'
      · rw [if_neg e2] at h2
        have h2' := of_decide_eq_false h2
        rw [if_neg (by omega)]; exact decide_eq_false (by omega)
theorem lexL_eq : ∀ a b : List Int, lexL a b = false → lexL b a = false → a = b
  | [], [], _, _ => rfl
  | [], _ :: _, h, _ => by cases h
  | _ :: _, [], _, h => by cases h
  | x :: xs, y :: ys, h1, h2 => by
    unfold lexL at h1 h2
    by_cases e : x = y
    · subst e
      rw [if_pos rfl] at h1 h2
      rw [lexL_eq xs ys h1 h2]
    · rw [if_neg e] at h1; rw [if_neg (Ne.symm e)] at h2
      have := of_decide_eq_false h1
      have := of_decide_eq_false h2
      omega
theorem swo_rows (k : Value → List Int) : SrtO.Swo fun v u => lexL (k v) (k u) := ⟨fun x y h => lexL_asym _ _ h, fun x y z h1 h2 => lexL_tr _ _ _ h1 h2⟩
theorem insR_perm (i : List Int) : ∀ l : List (List Int), (insR i l).Perm (i :: l)
  | [] => .refl _
  | j :: r => by
    unfold insR
    split
    · exact ((insR_perm i r).cons j).trans (.swap i j r)
    · exact .refl _
theorem sortR_perm : ∀ l : List (List Int), (sortR l).Perm l
  | [] => .refl _
  | i :: r => (insR_perm i _).trans ((sortR_perm r).cons i)
abbrev SrtR (l : List (List Int)) : Prop := l.Pairwise fun a b => lexL b a = false
theorem insR_sorted (i : List Int) : ∀ l : List (List Int), SrtR l → SrtR (insR i l)
  | [], _ => List.pairwise_singleton _ _
  | j :: r, h => by
    unfold insR
    obtain ⟨h1, h2⟩ := List.pairwise_cons.mp h
    split
    · rename_i c
      refine List.pairwise_cons.mpr ⟨fun x hx => ?_, insR_sorted i r h2⟩
      rcases List.mem_cons.mp ((insR_perm i r).mem_iff.mp hx) with e | hx
      · rw [e]; exact lexL_asym _ _ c
      · exact h1 x hx
    · rename_i c
      have c' : lexL j i = false := by cases q : lexL j i <;> simp_all
      refine List.pairwise_cons.mpr ⟨fun x hx => ?_, h⟩
      rcases List.mem_cons.mp hx with e | hx
      · rw [e]; exact c'
      · exact lexL_tr i j x c' (h1 x hx)
theorem sortR_sorted : ∀ l : List (List Int), SrtR (sortR l)
  | [] => .nil
  | i :: r => insR_sorted i _ (sortR_sorted r)
theorem sortedR_one {xs ys : List (List Int)} (p : xs.Perm ys) (h : SrtR xs) (h2 : SrtR ys) : xs = ys :=
  List.Perm.eq_of_pairwise (fun a b _ _ h1 h2 => lexL_eq _ _ h2 h1) h h2 p
/-! ### the machine's comparison -/
section
variable {prog : Program} {w : World} {A : Around} {E : Value → Shared → Prop} {s : Shared} {Q : Bool → Shared → Prop}
theorem lex_rows {b : Bool} {xs ys : List Value} {ns ms : List Int} {f : Bool} (i : Nat) (hx : IntsAre xs ns) (hy : IntsAre ys ms) (hf : ∀ z, (ns = [] ∨ ms = []) → z = lexL ns ms → f = z ∨ True)
    (hfin : f = decide (ns.length < ms.length)) (h : Q (lexL ns ms) s) : PySem.W.KatLex prog w A b f Q (xs.zip ys) i s := by
  induction hx generalizing ys ms i with
  | nil =>
    cases hy with
    | nil => exact PySem.W.kat_nil (by rw [hfin]; exact h)
    | cons q u hy => exact PySem.W.kat_nil (by rw [hfin]; simpa [lexL] using h)
  | @cons p t xs ns hx ih =>
    cases hy with
    | nil => exact PySem.W.kat_nil (by rw [hfin]; simpa [lexL] using h)
    | @cons q u ys ms hy =>
      show PySem.W.KatLex prog w A b f Q ((Value.int p t, Value.int q u) :: xs.zip ys) i s
      refine PySem.W.kat_cons (wpAny_eqBool_int ?_)
      by_cases e : p = q
      · subst e
        rw [beq_self_eq_true]
        unfold lexL at h
        rw [if_pos rfl] at h
        exact PySem.W.kat_yes (ih (i + 1) hy (fun _ _ _ => .inr trivial) (by rw [hfin]; simp) h)
      · rw [show (p == q) = false from beq_eq_false_iff_ne.mpr e]
        unfold lexL at h
        rw [if_neg e] at h
        exact PySem.W.kat_no (TS.oneLt_ints _ h)
theorem rows_cmp {vs : List Value} {k : Value → List Int} (hp : ∀ v ∈ vs, TS.TupInts s.heap v (k v)) : SrtO.Cmp prog w A s (tuples' true) (fun p => p.1 ∈ vs) (SrtO.lt2 fun v u => lexL (k v) (k u)) := by
  intro p q hm hm'
  obtain ⟨a, xs, e, ⟨o, ho, hc, n, hd⟩, i1⟩ := hp _ hm
  obtain ⟨a', ys, e', ⟨o', ho', hc', n', hd'⟩, i2⟩ := hp _ hm'
  show wpAny (model prog w) A (keyLt' (tuples' true) p.1 q.1) (fun r s' => s' = s ∧ r = lexL (k p.1) (k q.1)) (fun _ _ => False) s
  generalize k p.1 = ns at i1 ⊢
  generalize k q.1 = ms at i2 ⊢
  rw [e, e']
  refine PySem.W.kat_lt ho hd ho' hd' ?_
  refine lex_rows 0 i1 i2 (fun _ _ _ => .inr trivial) ?_ ⟨rfl, rfl⟩
  have l1 := i1.length
  have l2 := i2.length
  rw [Array.length_toList] at l1 l2
  rw [l1, l2]
theorem rows_firsts {h : Heap} : ∀ (vs : List Value) (k : Value → List Int), (∀ v ∈ vs, TS.TupInts h v (k v)) → (∀ v ∈ vs, k v ≠ []) → ∃ fs, PySem.W.KatTups h vs fs ∧ fs.length = vs.length ∧ ∀ f, f ∈ fs → ∃ n t, f = Value.int n t
  | [], _, _, _ => ⟨[], PySem.W.KatTups.nil, rfl, fun f hf => by simp at hf⟩
  | v :: vs, k, x, ne => by
    obtain ⟨fs, kk, hl, hi⟩ := rows_firsts vs k (fun u hu => x u (List.mem_cons_of_mem _ hu)) fun u hu => ne u (List.mem_cons_of_mem _ hu)
    obtain ⟨a, xs, rfl, ⟨o, ho, hc, n, hdt⟩, i⟩ := x v List.mem_cons_self
    have hn := ne _ List.mem_cons_self
    generalize k (.ref a) = ns at i hn
    obtain ⟨y, ys, e⟩ : ∃ y ys, xs.toList = y :: ys := by
      cases q : xs.toList with
      | nil =>
        rw [q] at i
        cases i
        exact absurd rfl hn
      | cons y ys => exact ⟨y, ys, rfl⟩
    obtain ⟨m, t, hy⟩ := i.all y (by rw [e]; exact List.mem_cons_self ..)
    refine ⟨y :: fs, PySem.W.KatTups.cons ho hc hdt ?_ kk, by simp [hl], ?_⟩
    · have z := congrArg (fun l : List Value => l[0]?) e
      simpa using z
    · intro f hf
      rcases List.mem_cons.mp hf with rfl | hf
      · exact ⟨m, t, hy⟩
      · exact hi f hf
theorem rows_sortable {a : Addr} {vs : List Value} {k : Value → List Int} (h0 : 0 < vs.length) (ne : ∀ v ∈ vs, k v ≠ []) (hp : ∀ v ∈ vs, TS.TupInts s.heap v (k v)) (ha : ∀ o, s.heap.get? a = some o → o.cls ≠ .type "tuple") :
    SrtO.SortableO prog w A s a vs fun v u => lexL (k v) (k u) := by
  intro h' keep
  have hp' : ∀ v ∈ vs, TS.TupInts h' v (k v) := fun v hm => (hp v hm).keeps fun b o e c => keep b o (fun z => by subst z; exact ha o e c) e
  obtain ⟨fs, h1, h2, h3⟩ := rows_firsts vs k hp' ne
  refine ⟨tuples' true, fun Q E hq => ?_, rows_cmp hp'⟩
  refine PySem.W.kat_kind (T := .type "int") h1 (by omega) (fun f hm => ?_) (by rfl) ?_
  · obtain ⟨x, t, rfl⟩ := h3 f hm
    exact PySem.W.Looks.of_pure rfl
  · have e : (Value.type "int" != Value.type "tuple") = true := by first | decide +kernel | rfl | decide
    rw [e]
    exact hq
end
/-! ### sorted(x), x whatever is walked to rows -/
abbrev AR := Addr × List Int
theorem refs_ord (L : List AR) : ∀ vs : List Value, (∀ v ∈ vs, ∃ q ∈ L, v = Value.ref q.1) → ∃ L1 : List AR, vs = L1.map (fun q => Value.ref q.1) ∧ ∀ q ∈ L1, q ∈ L
  | [], _ => ⟨[], rfl, fun q hq => nomatch hq⟩
  | v :: vs, hv => by
    obtain ⟨q, hq, e⟩ := hv v List.mem_cons_self
    obtain ⟨L1, e1, hs⟩ := refs_ord L vs fun u hu => hv u (List.mem_cons_of_mem _ hu)
    refine ⟨q :: L1, by rw [List.map_cons, e, e1], fun r hr => ?_⟩
    rcases List.mem_cons.mp hr with z | z
    · rw [z]; exact hq
    · exact hs r z
section
variable {X : Cx} {pins : List (Addr × Obj)} {σ : Sg} {H : Hp} {s : Shared} {a : Addr} {Q : VK}
theorem tupInts_at {t : Addr} {ns : List Int} (I : Inv X pins σ H s) (h : SqT X.K H t (ns.map V.int)) : TS.TupInts s.heap (.ref t) ns := by
  obtain ⟨its, r, p, _⟩ := I.tuple h
  obtain ⟨o, h1, h2, n, h3⟩ := p
  exact ⟨t, its.toArray, rfl, ⟨o, h1, h2, n, h3⟩, by simpa using Vals.ints r⟩
theorem sortedR_any {ks : List (List Int)} (hz : ks.length ≤ sizeLine) (hok : rowsOk ks = true)
    (col : ∀ R : List Value → Shared → Prop, (∀ (L : List AR) s1, Inv X pins σ H s1 → (∀ p ∈ L, SqT X.K H p.1 (p.2.map V.int)) → (L.map (·.2)).Perm ks → R (L.map fun p => Value.ref p.1) s1) → wpAny (model X.prog X.w) X.A.in1 (collect (.ref a)) R X.xe s)
    (q : ∀ (L : List AR) (p : Addr), L.map (·.2) = sortR ks → (∀ p ∈ L, SqT X.K H p.1 (p.2.map V.int)) → H p = none → Q (.ref p) (upd H p (.lst (L.map fun p => V.ref p.1)))) :
    wpAny (model X.prog X.w) X.A (call (.builtin "sorted") [.ref a]) (EP X pins σ Q) X.xe s := by
  refine Calls.call_function_entry PyProof.Rows.kind_sorted PyProof.Rows.plain_sorted PyProof.Rows.entry_sorted (PyProof.Rows.args_sorted1 _) (show wpAny _ _ (Builtin.«sorted» _) _ _ _ from ?_)
  unfold Builtin.«sorted»; refine wpAny_bind (m := checkCount "sorted" 1 1 _) (wpAny_pure (wpAny_bind (col _ fun L s1 I1 hL hp => ?_)))
  have hl : (L.map fun p => Value.ref p.1).length ≤ sizeLine := by
    have := hp.length_eq
    rw [List.length_map] at this ⊢
    omega
  refine wpAny_bind (wpAny_newList ?_ hl)
  have ho : (s1.heap.push (seqObj "list" (L.map fun p => Value.ref p.1).toArray 0)).get? s1.heap.objs.size = some (seqObj "list" (L.map fun p => Value.ref p.1).toArray 0) := Heap.get?_push_size _ rfl
  have hT : ∀ p ∈ L, TS.TupInts (s1.heap.push (seqObj "list" (L.map fun p => Value.ref p.1).toArray 0)) (.ref p.1) p.2 := fun p hp => (tupInts_at I1 (hL p hp)).keeps fun b o e _ => Heap.get?_push_of_some _ e
  have hk : ∀ v ∈ (L.map fun p => Value.ref p.1), TS.TupInts (s1.heap.push (seqObj "list" (L.map fun p => Value.ref p.1).toArray 0)) v (TS.intsOf (s1.heap.push (seqObj "list" (L.map fun p => Value.ref p.1).toArray 0)) v) := fun v hv => by
    obtain ⟨p, hp1, rfl⟩ := List.mem_map.mp hv
    rw [(hT p hp1).ints]; exact hT p hp1
  refine wpAny_bind (wpAny_holding (wpAny_call_entry PyProof.Rows.slot_list_sort ⟨_, ho, rfl⟩ PyProof.Rows.entry_list_sort (SrtO.list_sort_ord
    (s := { s1 with heap := s1.heap.push (seqObj "list" (L.map fun p => Value.ref p.1).toArray 0) }) (swo_rows (TS.intsOf (s1.heap.push (seqObj "list" (L.map fun p => Value.ref p.1).toArray 0)))) ho hl (fun h2 => rows_sortable (by omega) (fun v hv => ?_) hk fun o e => ?_) fun out h1 h2 => ⟨_, rfl, ?_⟩) (PyProof.Rows.args_list_sort _)))
  · obtain ⟨p, hp1, rfl⟩ := List.mem_map.mp hv
    rw [(hT p hp1).ints]
    unfold rowsOk at hok
    rw [Bool.or_eq_true, decide_eq_true_eq] at hok
    rcases hok with z | z
    · have := hp.length_eq
      rw [List.length_map] at this h2
      omega
    · have := List.all_eq_true.mp z p.2 (hp.mem_iff.mp (List.mem_map.mpr ⟨p, hp1, rfl⟩))
      intro e
      rw [e] at this
      cases this
  · rw [ho] at e
    cases e
    intro c
    exact absurd (Value.type.inj c) (by decide)
  · have pm := h2.perm
    obtain ⟨L', e', hs'⟩ := refs_ord L out fun v hv => by
      obtain ⟨p, hp1, e⟩ := List.mem_map.mp (pm.mem_iff.mp hv)
      exact ⟨p, hp1, e.symm⟩
    have km : ∀ (M : List AR), (∀ p ∈ M, p ∈ L) → ((M.map fun p => Value.ref p.1).map (TS.intsOf (s1.heap.push (seqObj "list" (L.map fun p => Value.ref p.1).toArray 0)))) = M.map (·.2) := fun M hM => by
      rw [List.map_map]
      exact List.map_congr_left fun p hp1 => (hT p (hM p hp1)).ints
    have e2 : L'.map (·.2) = sortR ks := by
      refine sortedR_one ?_ ?_ (sortR_sorted ks)
      · have z := pm.map (TS.intsOf (s1.heap.push (seqObj "list" (L.map fun p => Value.ref p.1).toArray 0)))
        rw [e', km L' hs', km L fun p hp1 => hp1] at z
        exact (z.trans hp).trans (sortR_perm ks).symm
      · rw [← km L' hs', ← e']
        exact List.pairwise_map.mpr h1
    obtain ⟨c, hc⟩ := PyProof.Rows.sortedHeap_at (vs := L.map fun p => Value.ref p.1) (out := out.toArray) ho
    refine wpAny_pure ⟨_, rfl, .ref s1.heap.objs.size, _, I1.laid (o := .lst (L'.map fun p => V.ref p.1)) (t' := s1.toks) (fun b u e => ?_) (Nat.le_refl _) ⟨?_, out, c, ?_, hc⟩, rfl, q L' _ e2 (fun p hp1 => hL p (hs' p hp1)) (I1.hok.fresh (Nat.le_refl _))⟩
    · have lt := Heap.lt_size e
      rw [PyProof.Rows.sortedHeap_old (Nat.ne_of_lt lt) (by rw [PyProof.Rows.size_push']; exact Nat.lt_succ_of_lt lt)]
      exact Heap.get?_push_of_some _ e
    · have z := congrArg List.length e2
      rw [List.length_map, (sortR_perm ks).length_eq] at z
      rw [List.length_map, z]; exact hz
    · rw [e']; exact vals_of_refs L'
end
end MI
end
section
set_option Elab.async false
set_option linter.all false
set_option maxRecDepth 100000
set_option maxHeartbeats 4000000
namespace MI
open PySem PySem.Spec PyProof.Rows L2
section
variable {K : PySem.W.Frag} {CL : CLs} {W : WX} {σ : Sg} {mu mu1 : List Addr} {H H0 H1 : Hp} {M M1 : Mem} {r : Env} {cl : Cl}
/-! ### in -/
theorem flat_v {d : D} {v : V} (h : Rv K mu H d v) (f : d.flat = true) : flatV v = true := by
  cases d with
  | non => rw [show v = V.non from h]; rfl
  | bl b => rw [show v = V.bl b from h]; rfl
  | int b => rw [show v = V.int b from h]; rfl
  | str b => rw [show v = V.str b from h]; rfl
  | _ => simp [D.flat] at f
theorem feq_v {d e : D} {v u : V} (h : Rv K mu H d v) (h2 : Rv K mu H e u) (f : d.flat = true) (f2 : e.flat = true) : eqV v u = feq d e := by
  cases d with
  | non => rw [show v = V.non from h]; cases e with
    | non => rw [show u = V.non from h2]; rfl
    | bl b => rw [show u = V.bl b from h2]; rfl
    | int b => rw [show u = V.int b from h2]; rfl
    | str b => rw [show u = V.str b from h2]; rfl
    | _ => simp [D.flat] at f2
  | bl a => rw [show v = V.bl a from h]; cases e with
    | non => rw [show u = V.non from h2]; rfl
    | bl b => rw [show u = V.bl b from h2]; rfl
    | int b => rw [show u = V.int b from h2]; rfl
    | str b => rw [show u = V.str b from h2]; rfl
    | _ => simp [D.flat] at f2
  | int a => rw [show v = V.int a from h]; cases e with
    | non => rw [show u = V.non from h2]; rfl
    | bl b => rw [show u = V.bl b from h2]; rfl
    | int b => rw [show u = V.int b from h2]; rfl
    | str b => rw [show u = V.str b from h2]; rfl
    | _ => simp [D.flat] at f2
  | str a => rw [show v = V.str a from h]; cases e with
    | non => rw [show u = V.non from h2]; rfl
    | bl b => rw [show u = V.bl b from h2]; rfl
    | int b => rw [show u = V.int b from h2]; rfl
    | str b => rw [show u = V.str b from h2]; rfl
    | _ => simp [D.flat] at f2
  | _ => simp [D.flat] at f
theorem any_v {e : D} {u : V} (h2 : Rv K mu H e u) (f2 : e.flat = true) : ∀ {ds : List D} {vs : List V}, Rvs K mu H ds vs → ds.all D.flat = true → (vs.all flatV = true ∧ inV u vs = ds.any fun d => feq d e)
  | [], vs, h, _ => by rw [show vs = [] from h]; exact ⟨rfl, rfl⟩
  | d :: ds, _, ⟨v, r, e1, h, t⟩, f => by
    rw [List.all_cons, Bool.and_eq_true] at f
    obtain ⟨a, b⟩ := any_v h2 f2 t f.2
    rw [e1]
    refine ⟨by rw [List.all_cons, flat_v h f.1, a]; rfl, ?_⟩
    unfold inV at b ⊢
    rw [List.any_cons, List.any_cons, feq_v h h2 f.1 f2, b]
def rInD (K : PySem.W.Frag) (w : World) (neg : Bool) : R2 := fun y x H Q => ∃ mu fz a xs ds k, x = .ref a ∧ Lk fz H a (dictO w a xs) ∧ Rdt K mu H ds xs ∧ okK ds k = true ∧ Rv K mu H k y ∧ Q (.bl (if neg then !(dget ds k).isSome else (dget ds k).isSome)) H
theorem op_inD {X : Cx} {w : World} (hu : X.A.units + 64 < cLine) (hw : w = X.w) : OpR X (compareOp .In) (rInD X.K w false) := fun pins s σ H y x v u Q I ry rx ⟨mu, fz, a, xs, ds, k, ex, e, r, ok, hk, q⟩ => by
  subst ex
  cases rx
  exact dd_in (neg := false) hu I hw e r ok hk ry fun s' I' => ⟨.bl _, H, I', rfl, q⟩
theorem op_notInD {X : Cx} {w : World} (hu : X.A.units + 64 < cLine) (hw : w = X.w) : OpR X (compareOp .NotIn) (rInD X.K w true) := fun pins s σ H y x v u Q I ry rx ⟨mu, fz, a, xs, ds, k, ex, e, r, ok, hk, q⟩ => by
  subst ex
  cases rx
  exact dd_in (neg := true) hu I hw e r ok hk ry fun s' I' => ⟨.bl _, H, I', rfl, q⟩
abbrev rInS (neg : Bool) : R2 := fun x y H Q => ∃ (c : Nat) (z : Str), x = .str ⟨#[c]⟩ ∧ y = .str z ∧ Q (.bl (if neg then !decide (c ∈ z.cps.toList) else decide (c ∈ z.cps.toList))) H
def rInP (K : PySem.W.Frag) (neg : Bool) : R2 := fun x y H Q => ∃ d ds, Dp K H x d ∧ Dp K H y (.list ds) ∧ SeqAt.shaped d = true ∧ SeqAt.shaped (.list ds) = true ∧ Q (.bl (if neg then !(ds.any fun z => PyData.eqv z d) else ds.any fun z => PyData.eqv z d)) H
abbrev rInAll (K : PySem.W.Frag) (w : World) (neg : Bool) : R2 := fun x y H Q => rInD K w neg x y H Q ∨ rIn K neg x y H Q ∨ rInS neg x y H Q ∨ rInP K neg x y H Q
theorem op_inP {X : Cx} (hu : X.A.units + 65 < cLine) : OpR X (compareOp .In) (rInP X.K false) := fun pins s σ H x y v u Q I rx ry ⟨d, ds, h1, h2, h3, h4, q⟩ => L2.op_inD hu pins s σ H x y v u Q I rx ry ⟨d, ds, h1, h2, h3, h4, q⟩
theorem op_notInP {X : Cx} (hu : X.A.units + 65 < cLine) : OpR X (compareOp .NotIn) (rInP X.K true) := fun pins s σ H x y v u Q I rx ry ⟨d, ds, h1, h2, h3, h4, q⟩ => L2.op_notInD hu pins s σ H x y v u Q I rx ry ⟨d, ds, h1, h2, h3, h4, q⟩
theorem op_inAll {X : Cx} {w : World} (hu : X.A.units + 65 < cLine) (hw : w = X.w) : OpR X (compareOp .In) (rInAll X.K w false) := (op_inD (by omega) hw).or (op_in_seq.or (op_in_sign.or (op_inP hu)))
theorem op_notInAll {X : Cx} {w : World} (hu : X.A.units + 65 < cLine) (hw : w = X.w) : OpR X (compareOp .NotIn) (rInAll X.K w true) := (op_notInD (by omega) hw).or (op_notIn_seq.or (op_notIn_sign.or (op_notInP hu)))
theorem sign1_eq {d : D} {c : Nat} (h : sign1 d = some c) : d = .str ⟨#[c]⟩ := by
  cases d with
  | str s =>
    unfold sign1 at h
    simp only at h
    split at h
    · rename_i e
      cases h
      obtain ⟨cps⟩ := s
      have : cps = #[c] := by
        have e' : cps.toList = [c] := e
        apply Array.ext'
        rw [e']
      rw [this]
    · cases h
  | _ => cases h
theorem inR_ok {x y : RV} {v u : V} {b neg : Bool} {Q : VK} (R : Rm K CL mu H M) (hx : Rw K CL mu H x v) (hy : Rw K CL mu H y u) (e : inR x y M = some b) (q : Q (.bl (if neg then !b else b)) H) : rInAll K CL.w neg v u H Q := by
  cases x with
  | o o => cases e
  | d k =>
    unfold inR at e
    simp only at e
    split at e
    · rename_i kvs e1
      split at e
      · rename_i hk
        simp only [Option.some.injEq] at e
        obtain ⟨fz, a, xs, rfl, h1, h2⟩ := dicOf_ok R hy e1
        subst e
        exact .inl ⟨mu, fz, a, xs, kvs, k, rfl, h1, h2, hk, hx, q⟩
      · cases e
    · split at e
      · rename_i ds e1
        split at e
        · rename_i hk
          simp only [Option.some.injEq] at e
          rw [Bool.and_eq_true] at hk
          obtain ⟨a, vs, rfl, h1, h2⟩ := seqOf_ok R hy e1
          obtain ⟨h3, h4⟩ := any_v hx hk.1 h2 hk.2
          refine .inr (.inl ⟨a, vs, rfl, h1, flat_v hx hk.1, h3, ?_⟩)
          rw [h4, e]; exact q
        · split at e
          · rename_i p qs e2 e3
            simp only [Option.some.injEq] at e
            obtain ⟨g1, g2, g3⟩ := derR_ok R (x := .d k) hx e2
            obtain ⟨g4, g5, g6⟩ := derR_ok R hy e3
            have key : ∀ l : List PyData, PyData.canLayAll0 l = true → (l.any fun z => peq z p) = l.any fun z => PyData.eqv z p := fun l => by
              induction l with
              | nil => exact fun _ => rfl
              | cons z l ih =>
                intro hl
                simp only [PyData.canLayAll0, Bool.and_eq_true] at hl
                rw [List.any_cons, List.any_cons, peq_eqv z p hl.1 g2, ih hl.2]
            rw [key qs g5] at e
            exact .inr (.inr (.inr ⟨p, qs, g1, g4, g3, g6, by rw [e]; exact q⟩))
          · cases e
      · split at e
        · split at e
          · rename_i c hc
            cases e
            have hx' : Rv K mu H k v := hx
            rw [sign1_eq hc] at hx'
            exact .inr (.inr (.inl ⟨c, _, hx', hy, q⟩))
          · cases e
        · cases e
theorem ok2_in : Ok2 K CL (rInAll K CL.w false) oIn := fun W σ mu H M x y v u Q R hx hy p => by
  unfold oIn at p
  split at p
  · rename_i b e; exact inR_ok R hx hy e (end_d R p rfl)
  · exact bad_end p
theorem ok2_notIn : Ok2 K CL (rInAll K CL.w true) oNotIn := fun W σ mu H M x y v u Q R hx hy p => by
  unfold oNotIn at p
  split at p
  · rename_i b e; exact inR_ok R hx hy e (end_d R p rfl)
  · exact bad_end p

/-! ### items, slices -/
def rIxD (K : PySem.W.Frag) (w : World) : R2 := fun x y H Q => ∃ mu fz a xs ds k d, x = .ref a ∧ Lk fz H a (dictO w a xs) ∧ Rdt K mu H ds xs ∧ okK ds k = true ∧ Rv K mu H k y ∧ dget ds k = some d ∧ ∀ v, Rv K mu H d v → Q v H
theorem ix_dict {X : Cx} {w : World} (hu : X.A.units + 64 < cLine) (hw : w = X.w) : IxR X (rIxD X.K w) := fun value slice pins s σ H x y v u Q I rx ry ⟨mu, fz, a, xs, ds, k, d, ex, e, r, ok, hk, g, q⟩ hs => by
  subst ex
  cases rx
  have ht : s.TypeIs (.ref a) "dict" := by
    obtain ⟨⟨o, es, ep, h1, h2, _⟩, _⟩ := lk_get I e
    exact ⟨o, h1, h2.1⟩
  exact PyProof.Rows.tail_any ht PySem.F.slot_dict_getitem.lookup (dd_item hu I hw e r ok hk ry g fun u v s' I' ru rv => ⟨v, H, I', ru, q v rv⟩) hs
abbrev rIxAll (K : PySem.W.Frag) (w : World) : R2 := fun x y H Q => rIxD K w x y H Q ∨ rIx K x y H Q ∨ rIxS x y H Q
theorem ix_all {X : Cx} {w : World} (hu : X.A.units + 64 < cLine) (hw : w = X.w) : IxR X (rIxAll X.K w) := (ix_dict hu hw).or (ix_seq.or ix_str)
theorem ixN_eq : @MI.ixN = @L2.ixN := rfl
theorem ok2_ix : Ok2 K CL (rIxAll K CL.w) oIx := fun W σ mu H M x y v u Q R hx hy p => by
  unfold oIx at p
  split at p
  · rename_i i
    have hu : u = .int i := hy
    subst hu
    split at p
    · rename_i ds e1
      split at p
      · rename_i j e2
        split at p
        · rename_i d e3
          obtain ⟨a, vs, rfl, h1, h2⟩ := seqOf_ok R hx e1
          obtain ⟨w, e4, h3⟩ := h2.get e3
          have ea : atI vs i = some w := by
            unfold atI
            rw [← ixN_eq, ← h2.length, e2]
            exact e4
          rcases h1 with h1 | h1
          · exact .inr (.inl (.inl ⟨a, vs, i, w, rfl, rfl, h1, ea, end_d R p h3⟩))
          · exact .inr (.inl (.inr (.inl ⟨a, vs, i, w, rfl, rfl, h1, ea, end_d R p h3⟩)))
        · exact bad_end p
      · exact bad_end p
    · split at p
      · rename_i kvs e1
        split at p
        · rename_i hk
          split at p
          · rename_i d e2
            obtain ⟨fz, a, xs, rfl, h1, h2⟩ := dicOf_ok R hx e1
            exact .inl ⟨mu, fz, a, xs, kvs, _, d, rfl, h1, h2, hk, hy, e2, fun w hw => end_d R p hw⟩
          · exact bad_end p
        · exact bad_end p
      · split at p
        · rename_i t _ _
          split at p
          · rename_i hl
            split at p
            · rename_i j e2
              split at p
              · rename_i c e3
                have hv : v = .str t := hx
                subst hv
                refine .inr (.inr ⟨t, i, c, rfl, rfl, hl, ?_, end_d R p rfl⟩)
                unfold atI
                rw [← ixN_eq, Array.length_toList, e2]
                show t.cps.toList[j]? = some c
                rw [Array.getElem?_toList]; exact e3
              · exact bad_end p
            · exact bad_end p
          · exact bad_end p
        · exact bad_end p
  · rename_i k _
    split at p
    · rename_i kvs e1
      split at p
      · rename_i hk
        split at p
        · rename_i d e2
          obtain ⟨fz, a, xs, rfl, h1, h2⟩ := dicOf_ok R hx e1
          exact .inl ⟨mu, fz, a, xs, kvs, _, d, rfl, h1, h2, hk, hy, e2, fun w hw => end_d R p hw⟩
        · exact bad_end p
      · exact bad_end p
    · exact bad_end p
  · exact bad_end p
end
section
variable {X : Cx} {CL : CLs} {cl : Cl} {a b c : Expr} {es : List Expr} {sa sb sc : SE} {as : SDs} {pos : Pos}
theorem snd_ix (hu : X.A.units + 64 < cLine) (hw : CL.w = X.w) (ha : SndE X CL cl a sa) (hb : SndE X CL cl b sb) (hs : PlainIx b) : SndE X CL cl (.Subscript a b pos) (e2 oIx sa sb) := fun W tk =>
  pe_imp (pe_ix (ix_all hu hw) (ha W tk) (hb W tk) hs) fun _ _ _ h => two W ha hb ok2_ix h
theorem plainIx_of (h : ∀ l u q p, b ≠ .Slice l u q p) : PlainIx b := fun o i => by
  cases b with
  | Slice l u q p => exact absurd rfl (h l u q p)
  | _ => rfl
end
end MI
end
section
set_option Elab.async false
set_option linter.all false
set_option maxRecDepth 100000
set_option maxHeartbeats 4000000
namespace MI
open PySem PySem.Spec PyProof.Rows L2
section
variable {K : PySem.W.Frag} {CL : CLs} {W : WX} {σ : Sg} {mu mu1 : List Addr} {H H0 H1 : Hp} {M M1 : Mem} {r : Env} {cl : Cl}
/-! ### truth -/
theorem truR_ok {x : RV} {v : V} {b : Bool} (R : Rm K CL mu H M) (h : Rw K CL mu H x v) (e : truR x M = some b) : TruV K v H b := by
  have ls : ∀ ds, lstOf x M = some ds → b = (!ds.isEmpty) → TruV K v H b := fun ds e1 e2 => by
    obtain ⟨a, vs, rfl, h1, h2⟩ := lstOf_ok R h e1
    have hl := h2.length
    refine .inl ⟨vs, h1, e2.trans ?_⟩
    cases ds <;> cases vs <;> simp_all
  have sm : ∀ z : Option (List D), z.map (fun ds => !ds.isEmpty) = some b → ∃ ds, z = some ds ∧ b = (!ds.isEmpty) := fun z e => by
    cases z with
    | none => simp at e
    | some ds => simp only [Option.map_some, Option.some.injEq] at e; exact ⟨ds, rfl, e.symm⟩
  cases x with
  | o o => obtain ⟨ds, e1, e2⟩ := sm _ e; exact ls ds e1 e2
  | d d =>
    cases d with
    | non => rw [show v = V.non from h]; simp only [truR, Option.some.injEq] at e; exact e.symm
    | bl c => rw [show v = V.bl c from h]; simp only [truR, Option.some.injEq] at e; exact e.symm
    | int c => rw [show v = V.int c from h]; simp only [truR, Option.some.injEq] at e; exact e.symm
    | str c =>
      rw [show v = V.str c from h]
      simp only [truR] at e
      split at e
      · rename_i hl
        simp only [Option.some.injEq] at e
        exact ⟨hl, e.symm⟩
      · cases e
    | tup ds =>
      obtain ⟨a, vs, rfl, h1, h2⟩ := h
      have hl := h2.length
      simp only [truR, Option.some.injEq] at e
      refine .inr (.inl ⟨vs, h1, e.symm.trans ?_⟩)
      cases ds <;> cases vs <;> simp_all
    | hdl n => obtain ⟨ds, e1, e2⟩ := sm _ e; exact ls ds e1 e2
    | ro ds => obtain ⟨ds, e1, e2⟩ := sm (lstOf (.d (.ro ds)) M) (by simpa only [truR] using e); exact ls ds e1 e2
/-- the same wish, from a later state -/
theorem Pst.rb {res : Res RV} {Q : VK} (p : Pst K CL W σ mu1 H1 res fun z _ mu' H' => ∀ w, Rr K CL mu' H' H z w → Q w H') (n : Nxt K CL σ mu H r M1 mu1 H1) : Pst K CL W σ mu1 H1 res fun z _ mu' H' => ∀ w, Rr K CL mu' H' H1 z w → Q w H' :=
  p.mono fun _ _ _ _ _ _ q w hw => q w (hw.base n.st n.rm)
end
section
variable {X : Cx} {CL : CLs} {cl : Cl} {a b c : Expr} {rest : List Expr} {es : List Expr} {sa sb sc : SE} {ta tb tc : STt} {as : SDs} {pos : Pos}
theorem snd_not (ha : SndE X CL cl a sa) : SndE X CL cl (.UnaryOp .Not a pos) (eNot sa) := fun W tk => by
  refine pe_imp (pe_notT (ha W tk)) fun σ H Q h => ?_
  obtain ⟨mu, r, M, hm, hs, p⟩ := h
  refine rE_then hm hs p fun x v M1 mu1 H1 n1 h1 p1 => ?_
  split at p1
  · rename_i k e; exact ⟨k, truR_ok n1.rm h1.w e, end_d n1.rm (p1.rb n1) rfl⟩
  · exact bad_end p1
theorem snd_and (ha : SndE X CL cl a sa) (hb : SndE X CL cl (.BoolOp .And (b :: rest) pos) sb) : SndE X CL cl (.BoolOp .And (a :: b :: rest) pos) (eAnd sa sb) := fun W tk => by
  refine pe_imp (pe_andT (ha W tk) (hb W tk)) fun σ H Q h => ?_
  obtain ⟨mu, r, M, hm, hs, p⟩ := h
  refine rE_then hm hs p fun x v M1 mu1 H1 n1 h1 p1 => ?_
  split at p1
  · rename_i e
    exact ⟨true, truR_ok n1.rm h1.w e, by rw [if_pos rfl]; exact ⟨mu1, r, M1, n1.rm, n1.rs, p1.rb n1⟩⟩
  · rename_i e
    exact ⟨false, truR_ok n1.rm h1.w e, by rw [if_neg Bool.false_ne_true]; exact p1.here n1.rm v h1⟩
  · exact bad_end p1
theorem snd_or (ha : SndE X CL cl a sa) (hb : SndE X CL cl (.BoolOp .Or (b :: rest) pos) sb) : SndE X CL cl (.BoolOp .Or (a :: b :: rest) pos) (eOr sa sb) := fun W tk => by
  refine pe_imp (pe_orT (ha W tk) (hb W tk)) fun σ H Q h => ?_
  obtain ⟨mu, r, M, hm, hs, p⟩ := h
  refine rE_then hm hs p fun x v M1 mu1 H1 n1 h1 p1 => ?_
  split at p1
  · rename_i e
    exact ⟨true, truR_ok n1.rm h1.w e, by rw [if_pos rfl]; exact p1.here n1.rm v h1⟩
  · rename_i e
    exact ⟨false, truR_ok n1.rm h1.w e, by rw [if_neg Bool.false_ne_true]; exact ⟨mu1, r, M1, n1.rm, n1.rs, p1.rb n1⟩⟩
  · exact bad_end p1
theorem snd_one {op : BoolOp} (ha : SndE X CL cl a sa) : SndE X CL cl (.BoolOp op [a] pos) sa := fun W tk => pe_one (ha W tk)
theorem snd_neg (ha : SndE X CL cl a sa) : SndE X CL cl (.UnaryOp .USub a pos) (e1 oNeg sa) := fun W tk => by
  refine pe_imp (pe_un un_neg (ha W tk)) fun σ H Q h => ?_
  obtain ⟨mu, r, M, hm, hs, p⟩ := h
  refine rE_then hm hs p fun x v M1 mu1 H1 n1 h1 p1 => ?_
  unfold oNeg at p1
  split at p1
  · exact ⟨_, h1, end_d n1.rm (p1.rb n1) rfl⟩
  · exact bad_end p1

/-! ### tests -/
theorem tnd_tB {op : CmpOp} {rr : R2} {o : Op2} (ho : OpR X (compareOp op) rr) (k : Ok2 X.K CL rr o) (ha : SndE X CL cl a sa) (hb : SndE X CL cl b sb) (hm : behindInMarks op b = false) : SndT X CL cl (.Compare a [op] [b] pos) (tB (e2 o sa sb)) := fun W tk => by
  refine pt_imp (pt_cmpR ho (ha W tk) (hb W tk) hm) fun σ H Q h => ?_
  obtain ⟨mu, r, M, hm, hs, p⟩ := h
  refine two W ha hb k (rE_then hm hs p fun x v M1 mu1 H1 n1 h1 p1 => ?_)
  split at p1
  · exact ⟨_, h1, p1.here n1.rm⟩
  · exact bad_end p1
theorem tnd_tru (ha : SndE X CL cl a sa) (he : ∀ whole, isTrue a X.env whole = (do let v ← whole; standAt a.pos; holding [v] (truthy v))) : SndT X CL cl a (tTru sa) := fun W tk => by
  refine pt_imp (pt_truth (ha W tk) he) fun σ H Q h => ?_
  obtain ⟨mu, r, M, hm, hs, p⟩ := h
  refine rE_then hm hs p fun x v M1 mu1 H1 n1 h1 p1 => ?_
  split at p1
  · rename_i k e; exact ⟨k, truR_ok n1.rm h1.w e, p1.here n1.rm⟩
  · exact bad_end p1
theorem tnd_not (ha : SndT X CL cl a ta) : SndT X CL cl (.UnaryOp .Not a pos) (tNot ta) := fun W tk => by
  refine pt_imp (pt_not (ha W tk)) fun σ H Q h => ?_
  obtain ⟨mu, r, M, hm, hs, p⟩ := h
  exact rT_then hm hs p fun x M1 mu1 H1 n1 p1 => p1.here n1.rm
theorem wnd_and1 (ha : SndT X CL cl a ta) : SndW X CL cl (.BoolOp .And [a] pos) ta := fun W tk => pw_and1 (ha W tk)
theorem wnd_or1 (ha : SndT X CL cl a ta) : SndW X CL cl (.BoolOp .Or [a] pos) ta := fun W tk => pw_or1 (ha W tk)
theorem pw_imp {t t' : TT} (h : PW X a t) (q : ∀ σ H Q, t' σ H Q → t σ H Q) : PW X a t' := ⟨fun wh pins s σ H Q I w => h.run wh pins s σ H Q I (q σ H Q w)⟩
theorem wnd_and (ha : SndT X CL cl a ta) (hb : SndW X CL cl (.BoolOp .And (b :: rest) pos) tb) : SndW X CL cl (.BoolOp .And (a :: b :: rest) pos) (MI.tAnd ta tb) := fun W tk => by
  refine pw_imp (pw_and (ha W tk) (hb W tk)) fun σ H Q h => ?_
  obtain ⟨mu, r, M, hm, hs, p⟩ := h
  refine rT_then hm hs p fun x M1 mu1 H1 n1 p1 => ?_
  cases x with
  | true => rw [if_pos rfl] at p1 ⊢; exact ⟨mu1, r, M1, n1.rm, n1.rs, p1⟩
  | false => rw [if_neg Bool.false_ne_true] at p1 ⊢; exact p1.here n1.rm
theorem wnd_or (ha : SndT X CL cl a ta) (hb : SndW X CL cl (.BoolOp .Or (b :: rest) pos) tb) : SndW X CL cl (.BoolOp .Or (a :: b :: rest) pos) (MI.tOr ta tb) := fun W tk => by
  refine pw_imp (pw_or (ha W tk) (hb W tk)) fun σ H Q h => ?_
  obtain ⟨mu, r, M, hm, hs, p⟩ := h
  refine rT_then hm hs p fun x M1 mu1 H1 n1 p1 => ?_
  cases x with
  | true => rw [if_pos rfl] at p1 ⊢; exact p1.here n1.rm
  | false => rw [if_neg Bool.false_ne_true] at p1 ⊢; exact ⟨mu1, r, M1, n1.rm, n1.rs, p1⟩
theorem wnd_t (h : SndW X CL cl a ta) : SndT X CL cl a ta := fun W tk => (h W tk).pt
theorem snd_if (ht : SndT X CL cl c tc) (ha : SndE X CL cl a sa) (hb : SndE X CL cl b sb) : SndE X CL cl (.IfExp c a b pos) (eIf tc sa sb) := fun W tk => by
  refine pe_imp (pe_ifExp (ht W tk) (ha W tk) (hb W tk)) fun σ H Q h => ?_
  obtain ⟨mu, r, M, hm, hs, p⟩ := h
  refine rT_then hm hs p fun x M1 mu1 H1 n1 p1 => ?_
  cases x with
  | true => rw [if_pos rfl] at p1 ⊢; exact ⟨mu1, r, M1, n1.rm, n1.rs, p1.rb n1⟩
  | false => rw [if_neg Bool.false_ne_true] at p1 ⊢; exact ⟨mu1, r, M1, n1.rm, n1.rs, p1.rb n1⟩

/-! ### arguments, displays -/
theorem dnd_nil : SndDs X CL cl [] dNil := fun W tk => by
  refine pa_imp pa_nil fun σ H Q h => ?_
  obtain ⟨mu, r, M, hm, hs, p⟩ := h
  exact p.here hm [] rfl
theorem dnd_cons (ha : SndE X CL cl a sa) (hr : SndDs X CL cl es as) (hst : starEach (a :: es) X.env = (false, eval a X.env) :: starEach es X.env) : SndDs X CL cl (a :: es) (dCons sa as) := fun W tk => by
  refine pa_imp (pa_cons (ha W tk) (hr W tk) hst) fun σ H Q h => ?_
  obtain ⟨mu, r, M, hm, hs, p⟩ := h
  refine rE_thenB hm hs Stp.refl p fun x v M1 mu1 H1 n1 h1 p1 => ?_
  obtain ⟨t, R2, s2, hv⟩ := n1.rm.box h1 n1.st
  refine rDs_thenB R2 (n1.rs.ext t) s2 p1 fun ds vs M3 mu3 H3 n3 h3 p3 => ?_
  exact p3 mu3 H3 (s2.trans n3.st R2) n3.rm (v :: vs) ⟨v, vs, rfl, hv.stp R2 n3.st, h3⟩
theorem snd_tup {k : Nat} (h : SndDs X CL cl es as) : SndE X CL cl (.Tuple es k pos) (eTup as) := fun W tk => by
  refine pe_imp (pe_tup (h W tk)) fun σ H Q h => ?_
  obtain ⟨mu, r, M, hm, hs, p⟩ := h
  refine rDs_then hm hs p fun ds vs M1 mu1 H1 n1 h1 p1 => ?_
  split at p1
  · rename_i c
    exact ⟨by rw [← h1.length]; exact c, end_tup n1.rm (p1.rb n1) h1⟩
  · exact bad_end p1
theorem snd_lst (h : SndDs X CL cl es as) : SndE X CL cl (.List es pos) (eLst as) := fun W tk => by
  refine pe_imp (pe_lst (h W tk)) fun σ H Q h => ?_
  obtain ⟨mu, r, M, hm, hs, p⟩ := h
  refine rDs_then hm hs p fun ds vs M1 mu1 H1 n1 h1 p1 => ?_
  split at p1
  · rename_i c
    exact ⟨by rw [← h1.length]; exact c, end_lst n1.rm (p1.rb n1) h1⟩
  · exact bad_end p1
theorem end_dic {K : PySem.W.Frag} {CL : CLs} {W : WX} {σ : Sg} {mu : List Addr} {H : Hp} {M : Mem} {kvs : List (D × D)} {xs : List Ent} {Q : VK} (R : Rm K CL mu H M) (h : Pst K CL W σ mu H (.ok (.o (.dic false kvs)) M) fun z _ mu' H' => ∀ w, Rr K CL mu' H' H z w → Q w H') (q : Rdt K mu H kvs xs) :
    ∀ p, H p = none → Q (.ref p) (upd H p (dictO CL.w p xs)) := fun p n =>
  h mu _ (Stp.laid R n) (R.laid n) (.ref p) ⟨p, rfl, ⟨xs, upd_same, q.stp R (Stp.laid R n)⟩, R.fresh n, n⟩
/-- {} -/
def tDicNew (w : World) : TE := fun _ H Q => ∀ p, H p = none → Q (.ref p) (upd H p (dictO w p []))
theorem pe_dic0 {w : World} : PE X (.Dict [] [] pos) (tDicNew w) := ⟨fun pins s σ H Q I h =>
  wpAny_Dict_empty ⟨.ref s.heap.objs.size, _, I.laid (a := s.heap.objs.size) (o := dictO w s.heap.objs.size []) (t' := s.toks) (fun _ _ q => Heap.get?_push_of_some _ q) (Nat.le_refl _)
    (dictO_ok ⟨⟨_, #[], 0, Heap.get?_push_size _ rfl, ⟨rfl, rfl, rfl⟩, rfl, rfl⟩, List.nodup_nil, beq_eq_false_iff_ne.mpr (Ne.symm (Nat.ne_of_lt I.big)), Nat.zero_le _⟩), rfl, h _ (I.hok.fresh (Nat.le_refl _))⟩⟩
theorem snd_dic0 : SndE X CL cl (.Dict [] [] pos) eDic0 := fun W tk => by
  refine pe_imp (pe_dic0 (w := CL.w)) fun σ H Q h => ?_
  obtain ⟨mu, r, M, hm, hs, p⟩ := h
  exact end_dic hm p rfl

/-! ### slices -/
theorem ond_none : SndO X CL cl none oNone := fun W tk => by
  refine po_imp po_none fun σ H Q h => ?_
  obtain ⟨mu, r, M, hm, hs, p⟩ := h
  exact p.here hm
theorem ond_some (ha : SndE X CL cl a sa) : SndO X CL cl (some a) (oSome sa) := fun W tk => by
  refine po_imp (po_some (ha W tk)) fun σ H Q h => ?_
  obtain ⟨mu, r, M, hm, hs, p⟩ := h
  refine rE_then hm hs p fun x v M1 mu1 H1 n1 h1 p1 => ?_
  split at p1
  · exact ⟨_, h1, p1.here n1.rm⟩
  · exact bad_end p1
theorem sIx_eq : @MI.sIx = @HT.sIx := rfl
theorem cut_v {K : PySem.W.Frag} {mu : List Addr} {H : Hp} {ds : List D} {vs : List V} {lo hi : Option Int} (h : Rvs K mu H ds vs) : Rvs K mu H (cut ds lo hi) (cutV vs lo hi) := by
  unfold cut cutV
  rw [h.length, sIx_eq]
  exact (h.drop _).take _
theorem cut_whole {A : Type} {xs : List A} {lo hi : Option Int} (h : HT.sIx xs.length 0 lo = 0 ∧ HT.sIx xs.length xs.length hi = xs.length) : cut xs lo hi = xs := by
  unfold cut
  rw [sIx_eq, h.1, h.2]
  simp
theorem snd_slice {lo hi : Option Expr} {sl sh : SO} {p2 : Pos} (ha : SndE X CL cl a sa) (hl : SndO X CL cl lo sl) (hh : SndO X CL cl hi sh) : SndE X CL cl (.Subscript a (.Slice lo hi none p2) pos) (eSlice sa sl sh) := fun W tk => by
  refine pe_imp (pe_slice (sl_list.or (sl_tupA.or sl_str)) (ha W tk) (hl W tk) (hh W tk)) fun σ H Q h => ?_
  obtain ⟨mu, r, M, hm, hs, p⟩ := h
  refine rE_then hm hs p fun x v M1 mu1 H1 n1 h1 p1 => ?_
  refine rO_then n1.rm n1.rs p1 fun l M2 mu2 H2 n2 p2 => ?_
  refine rO_then n2.rm n2.rs p2 fun u M3 mu3 H3 n3 p3 => ?_
  have hx : Rw X.K CL mu3 H3 x v := (h1.w.stp n1.rm n2.st).stp n2.rm n3.st
  have p4 : Pst X.K CL W σ mu3 H3 (oSlice x l u M3) fun z _ mu' H' => ∀ w, Rr X.K CL mu' H' H3 z w → Q w H' :=
    p3.mono fun z M3 mu3 H3 s3 R3 q w hw => q w (hw.base ((n1.st.trans n2.st n1.rm).trans n3.st n2.rm) n3.rm)
  unfold oSlice at p4
  split at p4
  · obtain ⟨a, vs, rfl, h4, h5⟩ := hx
    refine .inr (.inl ⟨a, vs, rfl, h4, fun e => end_d n3.rm p4 ⟨a, vs, rfl, h4, ?_⟩, fun _ => end_tup n3.rm p4 (cut_v h5)⟩)
    rw [cut_whole (by rw [h5.length]; exact e)]
    exact h5
  · split at p4
    · rename_i c
      have hv : v = .str _ := hx
      subst hv
      refine .inr (.inr ⟨_, rfl, c, end_d n3.rm p4 ?_⟩)
      unfold cutS cut
      rw [sIx_eq]
      rfl
    · exact bad_end p4
  · split at p4
    · rename_i ds e
      obtain ⟨a, vs, rfl, h4, h5⟩ := lstOf_ok n3.rm hx e
      exact .inl ⟨a, vs, rfl, h4, end_lst n3.rm p4 (cut_v h5)⟩
    · exact bad_end p4

/-! ### calls of built-ins -/
/-- a built-in of one argument by what it asks of the heap -/
def Ok1 (K : PySem.W.Frag) (CL : CLs) (rr : List V → Hp → VK → Prop) (o : Op1) : Prop :=
  ∀ (W : WX) (σ : Sg) mu H M x v (Q : VK), Rm K CL mu H M → Rw K CL mu H x v → Pst K CL W σ mu H (o x M) (fun z _ mu' H' => ∀ w, Rr K CL mu' H' H z w → Q w H') → rr [v] H Q
theorem one_arg (W : WX) {rr : List V → Hp → VK → Prop} {o : Op1} (ha : SndE X CL cl a sa) (k : Ok1 X.K CL rr o) {σ : Sg} {H : Hp} {Q : VK} (h : rE X.K CL W cl (e1 o sa) σ H Q) :
    tCons (rE X.K CL W cl sa) tNil σ H fun vs H1 => rr vs H1 Q := by
  obtain ⟨mu, r, M, hm, hs, p⟩ := h
  exact rE_then hm hs p fun x v M1 mu1 H1 n1 h1 p1 => k W σ mu1 H1 M1 x v Q n1.rm h1.w (p1.rb n1)
theorem two_arg (W : WX) {rr : List V → Hp → VK → Prop} {o : Op2} (ha : SndE X CL cl a sa) (hb : SndE X CL cl b sb) (k : Ok2 X.K CL (fun x y H Q => rr [x, y] H Q) o) {σ : Sg} {H : Hp} {Q : VK} (h : rE X.K CL W cl (e2 o sa sb) σ H Q) :
    tCons (rE X.K CL W cl sa) (tCons (rE X.K CL W cl sb) tNil) σ H fun vs H1 => rr vs H1 Q := two W ha hb k h
variable {x : Str} {p0 : Pos} {id T : String} {rr : List V → Hp → VK → Prop} {o : Op1}
theorem snd_b1 (hc : CallR X (.builtin id) rr) (k : Ok1 X.K CL rr o) (ha : SndE X CL cl a sa) (hg : Gl X x) (hm : X.mg x = none) (hv : bootBuiltins x = some (.builtin id)) (hn : x ≠ "__name__") (hdb : (x == ("__debug__" : Str)) = false)
    (hst : starEach [a] X.env = [(false, eval a X.env)]) : SndE X CL cl (.Call (.Name x p0) [a] [] pos) (e1 o sa) := fun W tk =>
  pe_imp (pe_callB hc hg hm hv (pa_cons (ha W tk) pa_nil hst) hn hdb hst rfl) fun σ H Q h => one_arg W ha k h
theorem snd_t1 (hc : CallR X (.type T) rr) (k : Ok1 X.K CL rr o) (ha : SndE X CL cl a sa) (hg : Gl X x) (hm : X.mg x = none) (hv : bootBuiltins x = some (.type T)) (hn : x ≠ "__name__") (hdb : (x == ("__debug__" : Str)) = false)
    (hst : starEach [a] X.env = [(false, eval a X.env)]) : SndE X CL cl (.Call (.Name x p0) [a] [] pos) (e1 o sa) := fun W tk =>
  pe_imp (pe_callTy hc hg hm hv (pa_cons (ha W tk) pa_nil hst) hn hdb hst rfl) fun σ H Q h => one_arg W ha k h
theorem snd_b2 {o : Op2} (hc : CallR X (.builtin id) rr) (k : Ok2 X.K CL (fun x y H Q => rr [x, y] H Q) o) (ha : SndE X CL cl a sa) (hb : SndE X CL cl b sb) (hg : Gl X x) (hm : X.mg x = none) (hv : bootBuiltins x = some (.builtin id)) (hn : x ≠ "__name__") (hdb : (x == ("__debug__" : Str)) = false)
    (hst : starEach [a, b] X.env = (false, eval a X.env) :: starEach [b] X.env) (hst2 : starEach [b] X.env = [(false, eval b X.env)]) : SndE X CL cl (.Call (.Name x p0) [a, b] [] pos) (e2 o sa sb) := fun W tk =>
  pe_imp (pe_callB hc hg hm hv (pa_cons (ha W tk) (pa_cons (hb W tk) pa_nil hst2) hst) hn hdb hst (by rw [hst2]; rfl)) fun σ H Q h => two_arg W ha hb k h
end
end MI
end
section
set_option Elab.async false
set_option linter.all false
set_option maxRecDepth 100000
set_option maxHeartbeats 4000000
namespace MI
open PySem PySem.Spec PyProof.Rows L2
section
variable {K : PySem.W.Frag} {CL : CLs} {W : WX} {σ : Sg} {mu mu1 : List Addr} {H H0 H1 : Hp} {M M1 : Mem} {r : Env} {cl : Cl}
/-! ### the built-ins' contracts -/
theorem ok1_len : Ok1 K CL (fun xs H Q => ∃ x n, xs = [x] ∧ LenV K x H n ∧ Q (.int n) H) bLen := fun W σ mu H M x v Q R hx p => by
  unfold bLen at p
  split at p
  · split at p
    · rename_i c
      have hv : v = .str _ := hx
      subst hv
      exact ⟨_, _, rfl, ⟨c, rfl⟩, end_d R p rfl⟩
    · exact bad_end p
  · split at p
    · rename_i ds e
      obtain ⟨a, vs, rfl, h1, h2⟩ := seqOf_ok R hx e
      rcases h1 with h1 | h1
      · exact ⟨_, _, rfl, .inl ⟨vs, h1, h2.length⟩, end_d R p rfl⟩
      · exact ⟨_, _, rfl, .inr ⟨vs, h1, h2.length⟩, end_d R p rfl⟩
    · exact bad_end p
theorem rdt_kvs : ∀ {ds : List (D × D)} {xs : List Ent}, Rdt K mu H ds xs → ∃ vs, Vals vs (xs.map (·.2.1)) ∧ Rvs K mu H (ds.map (·.1)) vs
  | [], _, h => by cases (show _ = [] from h); exact ⟨[], .nil, rfl⟩
  | p :: r, _, ⟨kv, ku, u, v, xs', e, h0, h1, h2, h3, h4, t⟩ => by
    subst e
    obtain ⟨vs, q1, q2⟩ := rdt_kvs t
    exact ⟨kv :: vs, .cons h0 q1, kv, vs, rfl, h1, q2⟩
theorem rdt_vals : ∀ {ds : List (D × D)} {xs : List Ent}, Rdt K mu H ds xs → ∃ vs, Vals vs (xs.map (·.2.2)) ∧ Rvs K mu H (ds.map (·.2)) vs
  | [], _, h => by cases (show _ = [] from h); exact ⟨[], .nil, rfl⟩
  | p :: r, _, ⟨kv, ku, u, v, xs', e, h0, h1, h2, h3, h4, t⟩ => by
    subst e
    obtain ⟨vs, q1, q2⟩ := rdt_vals t
    exact ⟨v :: vs, .cons h3 q1, v, vs, rfl, h4, q2⟩
theorem items_keys {xs : List Ent} {es : Array DictEntry} {acc : Array Value} {w : World} (h : es.toList = xs.map fun x => ⟨x.1.hash w, x.2.1, x.2.2⟩) (hacc : ItemsOf (fun i v => ∃ hi : i < es.size, v = es[i].key) acc es.size) : acc.toList = xs.map (·.2.1) := by
  have hz : es.size = xs.length := by rw [← Array.length_toList, h, List.length_map]
  refine List.ext_getElem? fun i => ?_
  by_cases hi : i < xs.length
  · have h1 : i < acc.size := by rw [hacc.1, hz]; exact hi
    obtain ⟨hi2, e⟩ := hacc.2 i acc[i] (Array.getElem?_eq_getElem h1)
    rw [Array.getElem?_toList, Array.getElem?_eq_getElem h1, e, List.getElem?_map, List.getElem?_eq_getElem hi]
    have z : es[i]? = some ⟨xs[i].1.hash w, xs[i].2.1, xs[i].2.2⟩ := by rw [← Array.getElem?_toList, h, List.getElem?_map, List.getElem?_eq_getElem hi]; rfl
    rw [Array.getElem?_eq_getElem hi2] at z
    rw [Option.some.inj z]; rfl
  · have h1 : acc.toList.length ≤ i := by rw [Array.length_toList, hacc.1, hz]; omega
    have h2 : (xs.map (·.2.1)).length ≤ i := by rw [List.length_map]; omega
    rw [List.getElem?_eq_none h1, List.getElem?_eq_none h2]
abbrev rListL (K : PySem.W.Frag) : List V → Hp → VK → Prop := fun xs H Q => ∃ p ys, xs = [.ref p] ∧ (SqL K H p ys ∨ SqT K H p ys) ∧ ∀ l, H l = none → Q (.ref l) (upd H l (.lst ys))
def rListD (K : PySem.W.Frag) (w : World) : List V → Hp → VK → Prop := fun xs H Q => ∃ mu fz a es ds, xs = [.ref a] ∧ Lk fz H a (dictO w a es) ∧ Rdt K mu H ds es ∧ ∀ vs p, Rvs K mu H (ds.map (·.1)) vs → H p = none → Q (.ref p) (upd H p (.lst vs))
theorem call_listD {X : Cx} {w : World} (hc : X.calm = true) : CallR X (.type "list") (rListD X.K w) := fun pins s σ H xs us Q I r ⟨mu, fz, a, es, ds, ex, e, rd, q⟩ => by
  subst ex
  obtain ⟨u, rfl, rx⟩ := vals1 r
  cases rx
  have d0 := lk_get I e
  obtain ⟨⟨o, en, ep, h1, h2, h3, h4⟩, nd, sy, len⟩ := d0
  obtain ⟨vs, z1, z2⟩ := rdt_kvs rd
  have hz : en.size = es.length := by rw [← Array.length_toList, h4, List.length_map]
  refine PySem.W.kdl_call (KdlSrc.rawDict (es := en) (ep := ep) sy) (I.ok.hd hc) ⟨o, h1, h2, h3⟩ (by omega) fun h' tk acc' c' keep hS hacc => ?_
  refine ⟨.ref s.heap.objs.size, _, I.laid (o := .lst vs) (t' := tk) keep (Nat.le_refl _) ⟨?_, acc'.toList, c', ?_, hS⟩, rfl, q vs _ z2 (I.hok.fresh (Nat.le_refl _))⟩
  · rw [z1.length, List.length_map]; exact len
  · rw [items_keys h4 hacc]; exact z1
abbrev rListAll (K : PySem.W.Frag) (w : World) : List V → Hp → VK → Prop := fun xs H Q => rListL K xs H Q ∨ rListD K w xs H Q
theorem call_listAll {X : Cx} {w : World} (hc : X.calm = true) : CallR X (.type "list") (rListAll X.K w) := call_list_of.or (call_listD hc)
theorem ok1_list : Ok1 K CL (rListAll K CL.w) bList := fun W σ mu H M x v Q R hx p => by
  unfold bList at p
  split at p
  · rename_i ds e
    obtain ⟨a, vs, rfl, h1, h2⟩ := seqOf_ok R hx e
    exact .inl ⟨a, vs, rfl, h1, end_lst R p h2⟩
  · split at p
    · rename_i kvs e
      obtain ⟨fz, a, xs, rfl, h1, h2⟩ := dicOf_ok R hx e
      exact .inr ⟨mu, fz, a, xs, kvs, rfl, h1, h2, fun vs l hv n => end_lst R p hv l n⟩
    · exact bad_end p
theorem ok1_tuple : Ok1 K CL (fun xs H Q => ∃ p ys, xs = [.ref p] ∧ ((SqL K H p ys ∧ ∀ l, H l = none → Q (.ref l) (upd H l (.tup ys))) ∨ (SqT K H p ys ∧ Q (.ref p) H))) bTuple := fun W σ mu H M x v Q R hx p => by
  unfold bTuple at p
  split at p
  · rename_i ds e
    obtain ⟨a, vs, rfl, h1, h2⟩ := seqOf_ok R hx e
    rcases h1 with h1 | h1
    · exact ⟨a, vs, rfl, .inl ⟨h1, end_tup R p h2⟩⟩
    · exact ⟨a, vs, rfl, .inr ⟨h1, end_d R p ⟨a, vs, rfl, h1, h2⟩⟩⟩
  · exact bad_end p
theorem allFig_ok {cs : List Nat} (h : allFig cs = true) : NumText.AllDigits cs ∧ cs ≠ [] := by
  unfold allFig at h
  simp only [Bool.and_eq_true, Bool.not_eq_true', List.isEmpty_eq_false_iff] at h
  refine ⟨fun c hc => ?_, h.1⟩
  have := of_decide_eq_true (List.all_eq_true.mp h.2 c hc)
  exact this
theorem figs_val (cs : List Nat) : NumText.digitsVal cs = figs cs := rfl
theorem intL_cons (c : Nat) (r : List Nat) : intL (c :: r) = if c = 45 then (if allFig r = true then some (-(figs r : Int)) else none) else if allFig (c :: r) = true then some (figs (c :: r) : Int) else none := rfl
theorem intL_ok {s : Str} {n : Int} (hl : s.length ≤ 640) (h : intL s.cps.toList = some n) : PySem.intText? s = some n := by
  cases e : s.cps.toList with
  | nil => rw [e] at h; cases h
  | cons c r =>
    rw [e, intL_cons] at h
    by_cases hc : c = 45
    · subst hc
      rw [if_pos rfl] at h
      by_cases hf : allFig r = true
      · rw [if_pos hf] at h
        cases h
        obtain ⟨h1, h2⟩ := allFig_ok hf
        rw [intText_neg e h1 h2 (by omega), figs_val]
      · rw [if_neg hf] at h; cases h
    · rw [if_neg hc] at h
      by_cases hf : allFig (c :: r) = true
      · rw [if_pos hf] at h
        cases h
        obtain ⟨h1, h2⟩ := allFig_ok hf
        rw [intText_digits (by rw [e]; exact h1) (by rw [e]; exact h2) (by omega), figs_val, e]
      · rw [if_neg hf] at h; cases h
abbrev rInt : List V → Hp → VK → Prop := fun xs H Q => ((∃ i, xs = [.int i] ∧ Q (.int i) H) ∨ ∃ k, xs = [.bl k] ∧ Q (.int (if k then 1 else 0)) H) ∨ ∃ a n, xs = [.str a] ∧ PySem.intText? a = some n ∧ a.length ≤ 640 ∧ Q (.int n) H
theorem call_intAll {X : Cx} : CallR X (.type "int") rInt := CallR.or call_int1 call_int_str
theorem ok1_int : Ok1 K CL rInt bInt := fun W σ mu H M x v Q R hx p => by
  unfold bInt at p
  split at p
  · exact .inl (.inl ⟨_, by rw [show v = _ from hx], end_d R p rfl⟩)
  · exact .inl (.inr ⟨_, by rw [show v = _ from hx], end_d R p rfl⟩)
  · split at p
    · rename_i hl
      split at p
      · rename_i n hn
        exact .inr ⟨_, n, by rw [show v = _ from hx], intL_ok hl hn, hl, end_d R p rfl⟩
      · exact bad_end p
    · exact bad_end p
  · exact bad_end p
theorem ok1_abs : Ok1 K CL (fun xs H Q => ∃ i, xs = [.int i] ∧ Q (.int (if i < 0 then -i else i)) H) bAbs := fun W σ mu H M x v Q R hx p => by
  unfold bAbs at p
  split at p
  · exact ⟨_, by rw [show v = _ from hx], end_d R p rfl⟩
  · exact bad_end p
theorem ok2_max : Ok2 K CL (fun x y H Q => ∃ i j, [x, y] = [.int i, .int j] ∧ Q (.int (if j > i then j else i)) H) bMax2 := fun W σ mu H M x y v u Q R hx hy p => by
  unfold bMax2 at p
  split at p
  · exact ⟨_, _, by rw [show v = _ from hx, show u = _ from hy], end_d R p rfl⟩
  · exact bad_end p
theorem ok2_min : Ok2 K CL (fun x y H Q => ∃ i j, [x, y] = [.int i, .int j] ∧ Q (.int (if j < i then j else i)) H) bMin2 := fun W σ mu H M x y v u Q R hx hy p => by
  unfold bMin2 at p
  split at p
  · exact ⟨_, _, by rw [show v = _ from hx, show u = _ from hy], end_d R p rfl⟩
  · exact bad_end p

/-! ### sorted -/
theorem insI_perm (i : Int) : ∀ l : List Int, (insI i l).Perm (i :: l)
  | [] => .refl _
  | j :: r => by
    unfold insI
    split
    · exact .refl _
    · exact ((insI_perm i r).cons j).trans (.swap i j r)
theorem sortI_perm : ∀ l : List Int, (sortI l).Perm l
  | [] => .refl _
  | i :: r => (insI_perm i _).trans ((sortI_perm r).cons i)
theorem insI_sorted (i : Int) : ∀ l : List Int, l.Pairwise (· ≤ ·) → (insI i l).Pairwise (· ≤ ·)
  | [], _ => List.pairwise_singleton _ _
  | j :: r, h => by
    unfold insI
    obtain ⟨h1, h2⟩ := List.pairwise_cons.mp h
    split
    · rename_i c
      refine List.pairwise_cons.mpr ⟨fun x hx => ?_, h⟩
      rcases List.mem_cons.mp hx with e | hx
      · rw [e]; exact c
      · exact Int.le_trans c (h1 x hx)
    · rename_i c
      refine List.pairwise_cons.mpr ⟨fun x hx => ?_, insI_sorted i r h2⟩
      rcases List.mem_cons.mp ((insI_perm i r).mem_iff.mp hx) with e | hx
      · rw [e]; omega
      · exact h1 x hx
theorem sortI_sorted : ∀ l : List Int, (sortI l).Pairwise (· ≤ ·)
  | [] => .nil
  | i :: r => insI_sorted i _ (sortI_sorted r)
theorem sorted_one {xs ys : List Int} (p : xs.Perm ys) (h : xs.Pairwise (· ≤ ·)) (h2 : ys.Pairwise (· ≤ ·)) : xs = ys :=
  List.Perm.eq_of_pairwise (fun a b _ _ h1 h2 => Int.le_antisymm h1 h2) h h2 p
/-- sorted(a), whatever a is, if walking it tells whole numbers -/
theorem sorted_any {X : Cx} {pins : List (Addr × Obj)} {σ : Sg} {H : Hp} {s : Shared} {a : Addr} {Q : VK} {ks : List Int} (hz : ks.length ≤ sizeLine)
    (col : ∀ R : List Value → Shared → Prop, (∀ us ns s1, Inv X pins σ H s1 → IntsAre us ns → ns.Perm ks → R us s1) → wpAny (model X.prog X.w) X.A.in1 (collect (.ref a)) R X.xe s)
    (q : ∀ (ys : List Int) (p : Addr), ys.Perm ks → ys.Pairwise (· ≤ ·) → H p = none → Q (.ref p) (upd H p (.lst (ys.map V.int)))) :
    wpAny (model X.prog X.w) X.A (call (.builtin "sorted") [.ref a]) (EP X pins σ Q) X.xe s := by
  refine Calls.call_function_entry PyProof.Rows.kind_sorted PyProof.Rows.plain_sorted PyProof.Rows.entry_sorted (PyProof.Rows.args_sorted1 _) (show wpAny _ _ (Builtin.«sorted» _) _ _ _ from ?_)
  unfold Builtin.«sorted»; refine wpAny_bind (m := checkCount "sorted" 1 1 _) (wpAny_pure (wpAny_bind (col _ fun us ns s1 I1 hi hp => ?_)))
  have hl : us.length ≤ sizeLine := by rw [hi.length, hp.length_eq]; exact hz
  refine wpAny_bind (wpAny_newList ?_ hl)
  have ho : (s1.heap.push (seqObj "list" us.toArray 0)).get? s1.heap.objs.size = some (seqObj "list" us.toArray 0) := Heap.get?_push_size _ rfl
  refine wpAny_bind (wpAny_holding (wpAny_call_entry PyProof.Rows.slot_list_sort ⟨_, ho, rfl⟩ PyProof.Rows.entry_list_sort (SrtO.list_sort_ord
    (s := { s1 with heap := s1.heap.push (seqObj "list" us.toArray 0) }) SrtO.swo_int ho hl (fun h2 => SrtO.ints_sortable hi h2) fun out h1 h2 => ⟨_, rfl, ?_⟩) (PyProof.Rows.args_list_sort _)))
  obtain ⟨k1, k2, k3⟩ := SrtO.ints_out hi h1 h2
  obtain ⟨c, hc⟩ := PyProof.Rows.sortedHeap_at (vs := us) (out := out.toArray) ho
  have pk := k2.trans hp
  refine wpAny_pure ⟨_, rfl, .ref s1.heap.objs.size, _, I1.laid (o := .lst ((out.map SrtO.iv).map V.int)) (t' := s1.toks) (fun b u e => ?_) (Nat.le_refl _) ⟨by rw [List.length_map, pk.length_eq]; exact hz, out, c, vals_of_ints k1, hc⟩, rfl, q _ _ pk k3 (I1.hok.fresh (Nat.le_refl _))⟩
  have lt := Heap.lt_size e
  rw [PyProof.Rows.sortedHeap_old (Nat.ne_of_lt lt) (by rw [PyProof.Rows.size_push']; exact Nat.lt_succ_of_lt lt)]
  exact Heap.get?_push_of_some _ e
/-! sorted(d) of a dict of whole numbers, of any size -/
def rSortDI (K : PySem.W.Frag) (w : World) : List V → Hp → VK → Prop := fun xs H Q => ∃ mu fz a es ds, ∃ ns : List Int, xs = [.ref a] ∧ Lk fz H a (dictO w a es) ∧ Rdt K mu H ds es ∧ ds.map (·.1) = ns.map D.int ∧
  ∀ (ys : List Int) (p : Addr), ys.Perm ns → ys.Pairwise (· ≤ ·) → H p = none → Q (.ref p) (upd H p (.lst (ys.map V.int)))
theorem kdu_keys {X : Cx} {pins : List (Addr × Obj)} {σ : Sg} {H : Hp} {s : Shared} {fz : Bool} {w : World} {a : Addr} {es : List Ent} (hc : X.calm = true) (I : Inv X pins σ H s) (e : Lk fz H a (dictO w a es)) {R : List Value → Shared → Prop}
    (h : ∀ s1, Inv X pins σ H s1 → R (es.map (·.2.1)) s1) : wpAny (model X.prog X.w) X.A.in1 (collect (.ref a)) R X.xe s := by
  obtain ⟨⟨o, en, ep, h1, h2, h3, h4⟩, nd, sy, len⟩ := lk_get I e
  have hz : en.size = es.length := by rw [← Array.length_toList, h4, List.length_map]
  refine PySem.W.kdu_collect (A := X.A.in1) (KdlSrc.rawDict (es := en) (ep := ep) sy) (I.ok.hd hc) ⟨o, h1, h2, h3⟩ (by omega) fun h' tk acc keep hacc => ?_
  rw [items_keys h4 hacc]
  exact h _ (I.kept keep)
theorem ints_vals : ∀ {ns : List Int} {us : List Value}, Vals (ns.map V.int) us → IntsAre us ns := fun h => Vals.ints h
theorem call_sortDI {X : Cx} {w : World} (hc : X.calm = true) : CallR X (.builtin "sorted") (rSortDI X.K w) := fun pins s σ H xs us Q I r ⟨mu, fz, a, es, ds, ns, ex, e, rd, ek, q⟩ => by
  subst ex
  obtain ⟨u, rfl, rx⟩ := vals1 r
  cases rx
  obtain ⟨vs, z1, z2⟩ := rdt_kvs rd
  rw [ek] at z2
  have z3 := z2.ints
  subst z3
  have hl : ns.length = es.length := by have := z1.length; simpa using this
  refine sorted_any (ks := ns) (by rw [hl]; exact (lk_get I e).len) (fun R hR => kdu_keys hc I e fun s1 I1 => hR _ ns s1 I1 (ints_vals z1) (.refl _)) q
/-! .. of rows -/
def rSortRL (K : PySem.W.Frag) : List V → Hp → VK → Prop := fun xs H Q => ∃ (a : Addr) (L0 : List AR), xs = [.ref a] ∧ SqL K H a (L0.map fun p => V.ref p.1) ∧ (∀ p ∈ L0, SqT K H p.1 (p.2.map V.int)) ∧ rowsOk (L0.map (·.2)) = true ∧
  ∀ (L : List AR) (p : Addr), L.map (·.2) = sortR (L0.map (·.2)) → (∀ p ∈ L, SqT K H p.1 (p.2.map V.int)) → H p = none → Q (.ref p) (upd H p (.lst (L.map fun p => V.ref p.1)))
theorem call_sortRL {X : Cx} : CallR X (.builtin "sorted") (rSortRL X.K) := fun pins s σ H xs us Q I r ⟨a, L0, ex, hl, hT, hok, q⟩ => by
  subst ex
  obtain ⟨u, rfl, rx⟩ := vals1 r
  cases rx
  obtain ⟨its, rv, p, hz⟩ := I.list hl
  have ei := refs_of_vals rv
  have hz' : its.length ≤ sizeLine := by rw [← rv.length]; exact hz
  refine sortedR_any (ks := L0.map (·.2)) (by rw [List.length_map] at hz ⊢; exact hz) hok (fun R hR => ?_) q
  refine PyProof.Rows.collect_list p.isList ?_ hz'
  rw [ei]
  refine hR L0 _ (I.kept (t' := s.toks) fun b o e => ?_) hT (.refl _)
  have hlt : b < s.heap.objs.size := Heap.lt_size e
  rw [Heap.get?_update_ne _ _ _ _ (Nat.ne_of_lt hlt)]
  exact Heap.get?_push_of_some _ e
def rSortRD (K : PySem.W.Frag) (w : World) : List V → Hp → VK → Prop := fun xs H Q => ∃ mu fz a es ds, ∃ rs : List (List Int), xs = [.ref a] ∧ Lk fz H a (dictO w a es) ∧ Rdt K mu H ds es ∧ ds.map (·.1) = rs.map rowD ∧ rowsOk rs = true ∧
  ∀ (L : List AR) (p : Addr), L.map (·.2) = sortR rs → (∀ p ∈ L, SqT K H p.1 (p.2.map V.int)) → H p = none → Q (.ref p) (upd H p (.lst (L.map fun p => V.ref p.1)))
theorem row_v {ns : List Int} {v : V} (h : Rv K mu H (rowD ns) v) : ∃ a, v = .ref a ∧ SqT K H a (ns.map V.int) := by
  obtain ⟨a, vs, rfl, h1, h2⟩ := h
  have e := h2.ints
  subst e
  exact ⟨a, rfl, h1⟩
theorem rows_v : ∀ {rs : List (List Int)} {vs : List V}, Rvs K mu H (rs.map rowD) vs → ∃ L : List AR, vs = L.map (fun p => V.ref p.1) ∧ (∀ p ∈ L, SqT K H p.1 (p.2.map V.int)) ∧ L.map (·.2) = rs
  | [], _, h => ⟨[], h, (fun p hp => nomatch hp), rfl⟩
  | ns :: rs, _, ⟨v, vs, e, h, t⟩ => by
    subst e
    obtain ⟨a, rfl, h1⟩ := row_v h
    obtain ⟨L, e1, e2, e3⟩ := rows_v t
    refine ⟨(a, ns) :: L, by rw [e1]; rfl, fun p hp => ?_, by rw [List.map_cons, e3]⟩
    rcases List.mem_cons.mp hp with z | z
    · subst z; exact h1
    · exact e2 p z
theorem rows_back : ∀ (L : List AR), (∀ p ∈ L, SqT K H p.1 (p.2.map V.int)) → Rvs K mu H ((L.map (·.2)).map rowD) (L.map fun p => V.ref p.1)
  | [], _ => rfl
  | p :: L, h => ⟨_, _, rfl, ⟨p.1, _, rfl, h p List.mem_cons_self, Rvs.of_ints _⟩, rows_back L fun q hq => h q (List.mem_cons_of_mem _ hq)⟩
theorem call_sortRD {X : Cx} {w : World} (hc : X.calm = true) : CallR X (.builtin "sorted") (rSortRD X.K w) := fun pins s σ H xs us Q I r ⟨mu, fz, a, es, ds, rs, ex, e, rd, ek, hok, q⟩ => by
  subst ex
  obtain ⟨u, rfl, rx⟩ := vals1 r
  cases rx
  obtain ⟨vs, z1, z2⟩ := rdt_kvs rd
  rw [ek] at z2
  obtain ⟨L0, e1, e2, e3⟩ := rows_v z2
  subst e1
  have hl : rs.length = es.length := by
    have := z1.length
    have h3 := congrArg List.length e3
    simp only [List.length_map] at this h3
    omega
  refine sortedR_any (ks := rs) (by rw [hl]; exact (lk_get I e).len) hok (fun R hR => kdu_keys hc I e fun s1 I1 => ?_) q
  rw [refs_of_vals z1]
  exact hR L0 s1 I1 e2 (by rw [e3])
abbrev rSortedAll (K : PySem.W.Frag) (w : World) : List V → Hp → VK → Prop := fun xs H Q => rSortDI K w xs H Q ∨ rSortedI K xs H Q ∨ rSortRL K xs H Q ∨ rSortRD K w xs H Q
theorem call_sortedAll {X : Cx} {w : World} (hc : X.calm = true) : CallR X (.builtin "sorted") (rSortedAll X.K w) := (call_sortDI hc).or (cr_sortedI.or (call_sortRL.or (call_sortRD hc)))
theorem ok1_sorted : Ok1 K CL (rSortedAll K CL.w) bSorted := fun W σ mu H M x v Q R hx p => by
  have fin : ∀ rs, Pst K CL W σ mu H (.ok (.o (.lst ((sortR rs).map rowD))) M) (fun z _ mu' H' => ∀ w, Rr K CL mu' H' H z w → Q w H') → ∀ (L : List AR) (q : Addr), L.map (·.2) = sortR rs → (∀ p ∈ L, SqT K H p.1 (p.2.map V.int)) → H q = none → Q (.ref q) (upd H q (.lst (L.map fun p => V.ref p.1))) := fun rs p L q e hT n => by
    have := rows_back (mu := mu) L hT
    rw [e] at this
    exact end_lst R p this q n
  unfold bSorted at p
  split at p
  · rename_i kvs e
    obtain ⟨fz, a, xs, rfl, h1, h2⟩ := dicOf_ok R hx e
    split at p
    · rename_i ns e2
      refine .inl ⟨mu, fz, a, xs, kvs, ns, rfl, h1, h2, asInts_eq e2, fun ys q hp hs n => ?_⟩
      rw [sorted_one (hp.trans (sortI_perm ns).symm) hs (sortI_sorted ns)]
      exact end_lst R p (Rvs.of_ints _) q n
    · split at p
      · rename_i rs e2
        split at p
        · rename_i hok
          exact .inr (.inr (.inr ⟨mu, fz, a, xs, kvs, rs, rfl, h1, h2, asRows_eq e2, hok, fin rs p⟩))
        · exact bad_end p
      · exact bad_end p
  · split at p
    · rename_i ds e
      obtain ⟨a, vs, rfl, h1, h2⟩ := lstOf_ok R hx e
      split at p
      · rename_i ns e2
        rw [asInts_eq e2] at h2
        have e3 := h2.ints
        subst e3
        refine .inr (.inl ⟨a, ns, rfl, h1, fun ys q hp hs n => ?_⟩)
        rw [sorted_one (hp.trans (sortI_perm ns).symm) hs (sortI_sorted ns)]
        exact end_lst R p (Rvs.of_ints _) q n
      · split at p
        · rename_i rs e2
          split at p
          · rename_i hok
            rw [asRows_eq e2] at h2
            obtain ⟨L0, e3, e4, e5⟩ := rows_v h2
            subst e3
            subst e5
            exact .inr (.inr (.inl ⟨a, L0, rfl, h1, e4, hok, fin _ p⟩))
          · exact bad_end p
        · exact bad_end p
    · exact bad_end p

/-! ### isinstance -/
def Ty.nm : Ty → String
  | .tuple => "tuple"
  | .bool => "bool"
  | .int => "int"
  | .list => "list"
  | .str => "str"
  | .dict => "dict"
theorem tyx_seqL {a : Addr} {vs : List V} (h : SqL K H a vs) : TyX K H (.ref a) (.type "list") := by
  rcases h with (h | ⟨o, h⟩) | ⟨o, its, n, e, c, _⟩
  · exact .base (.lst h)
  · exact .base (.frz h)
  · exact .kList e c
theorem tyx_seqT {a : Addr} {vs : List V} (h : SqT K H a vs) : TyX K H (.ref a) (.type "tuple") := by
  rcases h with (h | ⟨o, h⟩) | ⟨o, its, n, e, c, _⟩
  · exact .base (.tup h)
  · exact .fTuple h
  · exact .kTuple e c
/-- what is a dict of ours, too -/
def TyY (K : PySem.W.Frag) (w : World) (H : Hp) (v : V) (n : String) : Prop := TyX K H v (.type n) ∨ (n = "dict" ∧ ∃ fz a xs, v = .ref a ∧ Lk fz H a (dictO w a xs))
theorem kit_ofY {X : Cx} {pins : List (Addr × Obj)} {σ : Sg} {H : Hp} {s : Shared} {w : World} {x : V} {u : Value} {n : String} (I : Inv X pins σ H s) (rx : RelV x u) (ty : TyY X.K w H x n) : ∃ P : Heap → Prop, PySem.W.KitX X.K u (.type n) P ∧ P s.heap ∧ u ≠ .builtin "__main__.__loader__#opaque" := by
  rcases ty with ty | ⟨rfl, fz, a, xs, rfl, e⟩
  · exact kit_of I rx ty
  · cases rx
    obtain ⟨⟨o, en, ep, h1, h2, _⟩, _⟩ := lk_get I e
    exact ⟨_, PySem.W.kitx_dict, ⟨o, h1, h2.1⟩, fun z => nomatch z⟩
def rIsiY (K : PySem.W.Frag) (w : World) : List V → Hp → VK → Prop := fun xs H Q => ∃ (x c : V) (n : String) (u : Value) (b : Bool), xs = [x, c] ∧ ClsV c u ∧ TyY K w H x n ∧ PySem.W.kitOne K (.type n) u = some b ∧ Q (.bl b) H
theorem call_isiY {X : Cx} {w : World} : CallR X (.builtin "isinstance") (rIsiY X.K w) := by
  intro pins s σ H xs us Q I r h
  obtain ⟨x, c, n, u, b, rfl, k, ty, e, q⟩ := h
  obtain ⟨u1, u2, rfl, r1, r2⟩ := vals2 r
  have e2 := k.eq r2
  subst e2
  obtain ⟨P, Z, p, hx⟩ := kit_ofY I r1 ty
  exact PySem.W.kia_one Z I.kIn p e hx fun tk => ⟨.bl b, H, I.tok tk, rfl, q⟩
theorem isTy_ok {t : Ty} {x : RV} {v : V} {b : Bool} (R : Rm K CL mu H M) (h : Rw K CL mu H x v) (e : isTy t x M = some b) : ∃ n, TyY K CL.w H v n ∧ kitB n t.nm = some b := by
  unfold isTy at e
  split at e <;> first | cases e | skip
  · rw [show v = V.non from h]
    refine ⟨_, .inl (.base .non), ?_⟩
    cases t <;> decide +kernel
  · rw [show v = V.bl _ from h]
    refine ⟨_, .inl (.base (.bl _)), ?_⟩
    cases t <;> decide +kernel
  · rw [show v = V.int _ from h]
    refine ⟨_, .inl (.base (.int _)), ?_⟩
    cases t <;> decide +kernel
  · rw [show v = V.str _ from h]
    refine ⟨_, .inl (.base (.str _)), ?_⟩
    cases t <;> decide +kernel
  · obtain ⟨a, vs, rfl, h1, h2⟩ := h
    refine ⟨_, .inl (tyx_seqT h1), ?_⟩
    cases t <;> decide +kernel
  · obtain ⟨a, vs, rfl, h1, h2⟩ := h
    refine ⟨_, .inl (tyx_seqL h1.sq), ?_⟩
    cases t <;> decide +kernel
  · obtain ⟨a, h1, rfl⟩ := h
    split at e
    · rename_i ds q
      cases e
      obtain ⟨vs, h3, h4⟩ := R.ob _ a _ h1 q
      refine ⟨_, .inl (.base (.lst h3)), ?_⟩
      cases t <;> decide +kernel
    · rename_i fz ds q
      cases e
      obtain ⟨vs, h3, h4⟩ := R.ob _ a _ h1 q
      refine ⟨_, .inr ⟨rfl, fz, a, vs, rfl, h3⟩, ?_⟩
      cases t <;> decide +kernel
    · cases e
  · obtain ⟨a, rfl, ⟨vs, h3, h4⟩, _⟩ := h
    refine ⟨_, .inl (.base (.lst h3)), ?_⟩
    cases t <;> decide +kernel
  · obtain ⟨a, rfl, ⟨vs, h3, h4⟩, _⟩ := h
    refine ⟨_, .inr ⟨rfl, _, a, vs, rfl, h3⟩, ?_⟩
    cases t <;> decide +kernel
end
section
variable {X : Cx} {CL : CLs} {cl : Cl} {a b c : Expr} {rest : List Expr} {es : List Expr} {sa sb sc : SE} {ta tb tc : STt} {as : SDs} {pos p0 : Pos}
theorem snd_isi {T : Str} {q : Pos} {t : Ty} (ha : SndE X CL cl a sa) (hg : Gl X "isinstance") (hm : X.mg "isinstance" = none) (hgT : Gl X T) (hmT : X.mg T = none) (hvT : bootBuiltins T = some (.type t.nm)) (hnT : T ≠ "__name__") (hdT : (T == ("__debug__" : Str)) = false)
    (hst : starEach [a, .Name T q] X.env = (false, eval a X.env) :: starEach [.Name T q] X.env) : SndE X CL cl (.Call (.Name "isinstance" p0) [a, .Name T q] [] pos) (e1 (bIsi t) sa) := fun W tk => by
  refine pe_imp (pe_callB (call_isiY (w := CL.w)) hg hm PyProof.Rows.boot_isinstance (pa_cons (ha W tk) (pa_cons (pe_bltn (v := .ty t.nm) hgT hmT hvT rfl hnT hdT) pa_nil rfl) hst) (by decide) (by decide) hst rfl) fun σ H Q h => ?_
  obtain ⟨mu, r, M, hm, hs, p⟩ := h
  refine rE_then hm hs p fun x v M1 mu1 H1 n1 h1 p1 => ?_
  unfold bIsi at p1
  split at p1
  · rename_i k e
    obtain ⟨n, h2, h3⟩ := isTy_ok n1.rm h1.w e
    exact ⟨v, .ty t.nm, _, _, k, rfl, .ty _, h2, kit_ty h3, end_d n1.rm (p1.rb n1) rfl⟩
  · exact bad_end p1

/-! ### calls of our own functions -/
/-- a function's promise: what cl says of it -/
def spOf (K : PySem.W.Frag) (CL : CLs) (cl : Cl) (f : Str) (ar : Nat) : Sp := fun vs H Q E => vs.length = ar ∧ ∃ mu ds M, Rm K CL mu H M ∧ Rvs K mu H ds vs ∧
  Pst K CL (fun c d _ H' => E c d H') [] mu H (cl f ds M) fun x _ mu' H' => ∀ v, Rr K CL mu' H' H x v → Q v H'
theorem Pst.wish {K : PySem.W.Frag} {CL : CLs} {W W' : WX} {σ σ' : Sg} {mu : List Addr} {H : Hp} {A : Type} {res : Res A} {k : A → Mem → List Addr → Hp → Prop} (h : Pst K CL W σ mu H res k) (q : ∀ c d H', W c d σ H' → W' c d σ' H') : Pst K CL W' σ' mu H res k := by
  cases res with
  | ok x M' => exact h
  | err c M' => exact fun mu' H' C e s R => q _ _ _ (h mu' H' C e s R)
  | bad => exact h
structure FnG (X : Cx) (CL : CLs) (cl : Cl) (k : Nat) (x : Str) (ar : Nat) : Prop where
  ok : ∃ (f : Addr) (fd : FuncData) (ps : List Str), FnOk X.prog X.w X.K X.mg X.base (CX X.prog X.w) k f fd ps (spOf X.K CL cl x ar) ∧ X.mg x = some (.ref f) ∧ PySem.W.keepIn X.K (.ref f) = true ∧ Binds X.K fd ps []
theorem snd_call {k : Nat} {x : Str} {ar : Nat} (F : FnG X CL cl k x ar) (hr : Room k X.A) (hg : Gl X x) (hdb : (x == ("__debug__" : Str)) = false) (h : SndDs X CL cl (a :: es) as) (hal : (a :: es).length = ar)
    (hlen : ∀ r M ds M', as cl r M = .ok ds M' → ds.length = ar)
    (he : starEach (a :: es) X.env = (false, eval a X.env) :: starEach es X.env) (hpl : (backTo pos (starEach es X.env)).any (·.1) = false) : SndE X CL cl (.Call (.Name x p0) (a :: es) [] pos) (eCall x as) := fun W tk => by
  obtain ⟨f, fd, ps, ok, mg, kp, bd⟩ := F.ok
  refine pe_imp (pe_callS (E := WE W) ok hr hg mg kp bd (fun σ => passAt tk σ) (h W tk) hdb he hpl) fun σ H Q h => ?_
  obtain ⟨mu, r, M, hm, hs, p⟩ := h
  cases e : as cl r M with
  | ok ds M' =>
    have hl := hlen r M ds M' e
    refine ⟨mu, r, M, hm, hs, ?_⟩
    have p' : Pst X.K CL W σ mu H (cl x ds M') fun z _ mu' H' => ∀ v, Rr X.K CL mu' H' H z v → Q v H' := by
      simpa only [eCall, e, Res.bind] using p
    rw [e]
    exact fun mu' H' s' R' vs hvs => ⟨hvs.length.symm.trans hl, mu', ds, M', R', hvs, ((p'.from s' R').mono fun z M3 mu3 H3 s3 R3 q w hw => q w (hw.base s' R')).wish fun _ _ _ z => z⟩
  | err c M' =>
    refine ⟨mu, r, M, hm, hs, ?_⟩
    simp only [eCall, e, Res.bind] at p
    rw [e]
    exact p
  | bad => simp only [eCall, e, Res.bind] at p; exact p.elim
end
end MI
end
section
set_option Elab.async false
set_option linter.all false
set_option maxRecDepth 100000
set_option maxHeartbeats 4000000
namespace MI
open PySem PySem.Spec PyProof.Rows L2
/-! ### set(xs) of a list of whole numbers -/
/-- a set as it begins -/
abbrev nset (w : World) : Obj := { cls := .type "set", dict := none, data := .set #[] 0 (.fresh 0 0 (!w.params.followText "set-order")) }
section
variable {P : Program} {w : World} {A : Around} {E : Value → Shared → Prop} {s : Shared}
set_option maxHeartbeats 3200000 in
theorem set_of_list {l : Addr} {items : Array Value} (ns : List Int) {Q : Value → Shared → Prop} (hh : A.handled = none) (hl : s.heap.IsList l items) (hit : IntsAre items.toList ns) (hb : ns.length + 1 < scanBound)
    (h : ∀ (h' : Heap) (tk c : Nat), SetR w h' s.heap.objs.size (fun j => decide (j ∈ ns)) c → c ≤ ns.length → (∀ b o, s.heap.get? b = some o → h'.get? b = some o) → Q (.ref s.heap.objs.size) { s with heap := h', toks := tk }) :
    wpAny (model P w) A (call (.type "set") [.ref l]) Q E s := by
  have hisz : items.size = ns.length := by have q := IntsAre.length hit; rwa [Array.length_toList] at q
  obtain ⟨c, tl, hmro⟩ := F.called_set.mro
  have hmade := F.called_set.made; have hsub := F.called_set.sub
  refine wpAny_call (codeAny_of_tree (show wpAny _ _ (callAny (.type "set") _) _ _ _ from wpAny_pure ⟨Code.quiet_builtin _ (by decide +kernel), codeAny_builtin F.entry_type_call ?_⟩))
  rw [Around.under_plain (weight_type_call_type "set" [.ref l] []) rfl]
  have h1 := F.called_set.notType; have h2 := F.called_set.canCreate; have hct := F.typeCall_set_1 (.ref l)
  repeat (any_goals (first | assumption | wp_step))
  refine codeAny_mono (code_set_led1 (.ref l) (E := E) (Q₁ := fun obj t => obj = .ref s.heap.objs.size ∧ t = { s with heap := s.heap.push (nset w) }) ⟨rfl, rfl⟩) fun r t hr => ?_
  match r, hr with
  | .error e, hr => exact hr
  | .ok .next, hr => exact hr.elim
  | .ok .brk, hr => exact hr.elim
  | .ok .cont, hr => exact hr.elim
  | .ok (.ret obj), hr =>
    obtain ⟨rfl, rfl⟩ := hr
    have hS : (s.heap.push (nset w)).get? s.heap.objs.size = some (nset w) := Heap.get?_push_size _ rfl
    have hT : Shared.TypeIs { s with heap := s.heap.push (nset w) } (.ref s.heap.objs.size) "set" := ⟨_, hS, rfl⟩
    have hli := F.called_set.init.lookup; have hbi := F.called_set.init.bind (.ref s.heap.objs.size)
    repeat (any_goals (first | assumption | wp_step))
    refine codeAny_mono (codeAny_call_builtin (R := wants (fun r t => r = .none ∧ ∃ h' tk c, t = { s with heap := h', toks := tk } ∧ SetR w h' s.heap.objs.size (fun j => decide (j ∈ ns)) c ∧ c ≤ ns.length ∧ ∀ b o, s.heap.get? b = some o → h'.get? b = some o) E)
      F.called_set.init.plain F.entry_set_init (check_set_init_1 hT ?_)) fun r2 t2 hr2 => ?_
    · obtain ⟨⟨oc, od, odt, osl⟩, hol, hcl, nl, hdl⟩ := hl
      simp only at hcl hdl
      subst hcl; subst hdl
      have holP : (s.heap.push (nset w)).get? l = some { cls := .type "list", dict := od, data := .seq items nl, slots := osl } := Heap.get?_push_of_some _ hol
      have hsls := F.sub_list_set; have hslf := F.sub_list_frozenset
      have hne : (Value.type "list" == Value.type "dict") = false := by decide
      have hl1 : (s.heap.push (nset w)).IsList l items := ⟨_, holP, rfl, nl, rfl⟩
      unfold Builtin.«set.__init__» noKeywords Builtin.Frozenset.updateFrom
      generalize hPI : pyIter = PI
      wp_walk
      subst hPI
      refine wpAny_pyIter_list hl1 (wpAny_bind (wpAny_runValue ?_))
      have hlS : l < s.heap.objs.size := Heap.lt_size hol
      have hI : (s.heap.push (nset w)).objs.size = s.heap.objs.size + 1 := Heap.size_push ..
      have hneI : l ≠ (s.heap.push (nset w)).objs.size := by rw [hI]; exact Nat.ne_of_lt (Nat.lt_succ_of_lt hlS)
      have hSf : s.heap.objs.size ∉ [(s.heap.push (nset w)).objs.size, l] := by
        rw [hI]; intro z; simp only [List.mem_cons, List.not_mem_nil, or_false] at z
        rcases z with z | z
        · exact Nat.ne_of_lt (Nat.lt_succ_self _) z
        · exact Nat.ne_of_gt hlS z
      have hval : ∀ (i : Nat) (v : Value), items[i]? = some v → ∃ k t, ns[i]? = some k ∧ v = .int k t := fun i v hv => by
        have hin : i < ns.length := by rw [← hisz]; exact (Array.getElem?_eq_some_iff.mp hv).1
        obtain ⟨t, e⟩ := PyProof.Rows.IntsAre.int_at hit i v (by rw [Array.getElem?_toList]; exact hv)
        exact ⟨ns[i], t, List.getElem?_eq_getElem hin, by rw [e, List.getD_eq_getElem?_getD, List.getElem?_eq_getElem hin]; rfl⟩
      have start : ((s.heap.push (nset w)).push { cls := .type "list_iterator", data := .fields #[.ref l, .int 0 0] }).get? s.heap.objs.size = some (nset w) := Heap.get?_push_of_some _ hS
      refine set_update_ints ((Walks.list (show A.in1.in1.in1.handled = none by simp [hh]) _ l hneI items).toS) s.heap.objs.size hSf ns hisz hb hval (items.size - 0) 0 _ (by omega) (Nat.zero_le _)
        ⟨⟨_, Heap.get?_push_size _ rfl, rfl, rfl⟩, (hl1.push _)⟩ ⟨0, Nat.le_refl 0, setR_new_at start⟩ fun s' c' hm hc' hS' => ?_
      obtain ⟨h', g2, d', tk', os'⟩ := s'
      cases (show g2 = s.gens from hm.gens); cases (show d' = s.drawn from hm.drawn); cases (show os' = s.os from hm.os)
      refine wpAny_pure (show wpAny _ _ (ret Value.none) _ _ _ from wpAny_pure ⟨rfl, h', tk', c', rfl, hS', by rw [← hisz]; exact hc', fun b o e => ?_⟩)
      have hb0 := Heap.lt_size e
      refine hm.heap b o (fun z => ?_) (Heap.get?_push_of_some _ (Heap.get?_push_of_some _ e))
      simp only [List.mem_cons, List.not_mem_nil, or_false, hI] at z
      rcases z with z | z
      · exact Nat.ne_of_lt hb0 z
      · exact Nat.ne_of_lt (Nat.lt_succ_of_lt hb0) z
    · match r2, hr2 with
      | .error e, hr2 => exact hr2
      | .ok .next, hr2 => exact hr2.elim
      | .ok .brk, hr2 => exact hr2.elim
      | .ok .cont, hr2 => exact hr2.elim
      | .ok (.ret r), hr2 =>
        obtain ⟨rfl, h', tk, c', rfl, hS', hc', hk'⟩ := hr2
        repeat (any_goals (first | assumption | wp_step))
        exact h _ _ _ hS' hc' hk'
end
section
variable {X : Cx}
/-- set(a) of a list or a tuple of whole numbers -/
def rSetI (K : PySem.W.Frag) (w : World) : List V → Hp → VK → Prop := fun xs H Q => ∃ (a : Addr) (ns : List Int), xs = [.ref a] ∧ (SqL K H a (ns.map V.int) ∨ SqT K H a (ns.map V.int)) ∧ ns.length + 1 < scanBound ∧
  ∀ p c, H p = none → Q (.ref p) (upd H p (SetO w p (fun j => decide (j ∈ ns)) c))
theorem call_setI (hc : X.calm = true) : CallR X (.type "set") (rSetI X.K X.w) := fun pins s σ H xs us Q I r ⟨a, ns, ex, hq, hb, q⟩ => by
  subst ex
  obtain ⟨u, rfl, rx⟩ := vals1 r
  cases rx
  have fin : ∀ (h' : Heap) (tk c : Nat), SetR X.w h' s.heap.objs.size (fun j => decide (j ∈ ns)) c → c ≤ ns.length → (∀ b o, s.heap.get? b = some o → h'.get? b = some o) → EP X pins σ Q (.ref s.heap.objs.size) { s with heap := h', toks := tk } := fun h' tk c R _ k =>
    ⟨.ref _, _, I.laid (o := SetO X.w s.heap.objs.size (fun j => decide (j ∈ ns)) c) k (Nat.le_refl _) (setO_new R), rfl, q _ c (I.hok.fresh (Nat.le_refl _))⟩
  rcases hq with hq | hq
  · obtain ⟨its, rv, pt, hz⟩ := I.list hq
    exact set_of_list ns (I.ok.hd hc) pt.isList (ints_of_vals rv) hb fin
  · obtain ⟨its, rv, pt, hz⟩ := I.tuple hq
    exact call_set_tupI ns (I.ok.hd hc) (show s.heap.IsTuple a its.toArray from pt) (ints_of_vals rv) hb fin
end
end MI
end
section
set_option Elab.async false
set_option linter.all false
set_option maxRecDepth 100000
set_option maxHeartbeats 4000000
namespace MI
open PySem PySem.Spec PyProof.Rows L2
section
variable {X : Cx}
/-- sorted(s) of a set of whole numbers -/
def rSortS (w : World) : List V → Hp → VK → Prop := fun xs H Q => ∃ a S n, xs = [.ref a] ∧ H a = some (SetO w a S n) ∧
  ∀ (ys : List Int) (p : Addr), ys.Pairwise (· < ·) → (∀ k, k ∈ ys ↔ S k = true) → H p = none → Q (.ref p) (upd H p (.lst (ys.map V.int)))
theorem call_sortS (hc : X.calm = true) : CallR X (.builtin "sorted") (rSortS X.w) := fun pins s σ H xs us Q I r ⟨a, S, n, ex, ha, q⟩ => by
  subst ex
  obtain ⟨u, rfl, rx⟩ := vals1 r
  cases rx
  obtain ⟨o, es, ep, t, ho, hex, hd, g, nd, hm, hb, hf, hn, hr, hl⟩ := setO_get I ha
  refine sorted_any (H := H) (ks := es.toList.map L2.keyOf) ?_ (fun R hR => ?_) fun ys p hp hs n => ?_
  · rw [List.length_map, Array.length_toList]
    exact Nat.le_of_lt (Nat.lt_of_lt_of_le hb (by decide))
  · refine collect_set (A := X.A.in1) (I.ok.hd hc) ⟨o, ho, hex.1, hd⟩ hf hb hr hl fun s1 vs k1 _ g1 o1 pm => ?_
    have hI : IntsAre vs (vs.map Builtin.Re.reRawOf) := ints_of vs fun v hv => by
      obtain ⟨e, he, q⟩ := List.mem_map.mp (pm.mem_iff.mp hv)
      obtain ⟨k, tk, h1, _⟩ := g e he
      exact ⟨k, tk, q ▸ h1⟩
    refine hR vs _ s1 (I.call' (ch := []) o1 (Un.kept k1) (I.hok.kept k1) (by rw [g1]; exact I.bare) (fun _ z => nomatch z)) hI ?_
    have z := pm.map Builtin.Re.reRawOf
    rwa [List.map_map] at z
  · refine q ys p (lt_of_le_nodup ys hs (hp.nodup_iff.mpr nd)) (fun k => ?_) n
    rw [hp.mem_iff, ← hm k]
end
section
variable {K : PySem.W.Frag} {CL : CLs} {W : WX} {σ : Sg} {mu mu1 : List Addr} {H H0 H1 : Hp} {M M1 : Mem} {r : Env} {cl : Cl}
theorem dedI_mem (k : Int) : ∀ l : List Int, k ∈ dedI l ↔ k ∈ l
  | [] => .rfl
  | i :: r => by
    unfold dedI
    split
    · rename_i c
      rw [dedI_mem k r, List.mem_cons]
      refine ⟨.inr, fun h => h.elim (fun e => ?_) id⟩
      rw [e]; simpa using c
    · rw [List.mem_cons, List.mem_cons, dedI_mem k r]
theorem dedI_nodup : ∀ l : List Int, (dedI l).Nodup
  | [] => .nil
  | i :: r => by
    unfold dedI
    split
    · exact dedI_nodup r
    · rename_i c
      refine List.nodup_cons.mpr ⟨fun h => c ?_, dedI_nodup r⟩
      simpa using (dedI_mem i r).mp h
theorem strict_one {xs ys : List Int} (h : xs.Pairwise (· < ·)) (h2 : ys.Pairwise (· < ·)) (m : ∀ k, k ∈ xs ↔ k ∈ ys) : xs = ys := by
  have nd : ∀ {l : List Int}, l.Pairwise (· < ·) → l.Nodup := fun h => h.imp fun h => Int.ne_of_lt h
  have p : xs.Perm ys := (List.perm_ext_iff_of_nodup (nd h) (nd h2)).mpr m
  exact sorted_one p (h.imp fun h => Int.le_of_lt h) (h2.imp fun h => Int.le_of_lt h)
theorem sortDed_sorted (l : List Int) : (sortI (dedI l)).Pairwise (· < ·) :=
  lt_of_le_nodup _ (sortI_sorted _) ((sortI_perm _).nodup_iff.mpr (dedI_nodup l))
theorem sortDed_mem (l : List Int) (k : Int) : k ∈ sortI (dedI l) ↔ k ∈ l := by rw [(sortI_perm _).mem_iff, dedI_mem]
end
/-! ### sets of rows -/
theorem dedR_mem (k : List Int) : ∀ l : List (List Int), k ∈ dedR l ↔ k ∈ l
  | [] => .rfl
  | i :: r => by
    unfold dedR
    split
    · rename_i c
      rw [dedR_mem k r, List.mem_cons]
      refine ⟨.inr, fun h => h.elim (fun e => ?_) id⟩
      rw [e]; simpa using c
    · rw [List.mem_cons, List.mem_cons, dedR_mem k r]
theorem dedR_nodup : ∀ l : List (List Int), (dedR l).Nodup
  | [] => .nil
  | i :: r => by
    unfold dedR
    split
    · exact dedR_nodup r
    · rename_i c
      refine List.nodup_cons.mpr ⟨fun h => c ?_, dedR_nodup r⟩
      simpa using (dedR_mem i r).mp h
theorem rowsOk_perm {a b : List (List Int)} (p : a.Perm b) : rowsOk a = rowsOk b := by
  unfold rowsOk
  rw [p.length_eq]
  congr 1
  exact p.all_eq
section
variable {X : Cx}
def rSortST (K : PySem.W.Frag) (P : Program) (w : World) : List V → Hp → VK → Prop := fun xs H Q => ∃ (a : Addr) (L : List AR), xs = [.ref a] ∧ H a = some (SetTO P w a L) ∧ (∀ p ∈ L, SqT K H p.1 (p.2.map V.int)) ∧ ((L.map (·.2)).Nodup → rowsOk (L.map (·.2)) = true) ∧
  ∀ (L' : List AR) (p : Addr), (L.map (·.2)).Nodup → L'.map (·.2) = sortR (L.map (·.2)) → (∀ p ∈ L', SqT K H p.1 (p.2.map V.int)) → H p = none → Q (.ref p) (upd H p (.lst (L'.map fun p => V.ref p.1)))
theorem call_sortST (hc : X.calm = true) : CallR X (.builtin "sorted") (rSortST X.K X.prog X.w) := fun pins s σ H xs us Q I r ⟨a, L, ex, ha, hT, hok, q⟩ => by
  subst ex
  obtain ⟨u, rfl, rx⟩ := vals1 r
  cases rx
  have R0 : SetT0 X.prog X.w s.heap a L := (I.hok a _ ha).1
  obtain ⟨es, ep, t, R⟩ := R0.full fun p hp => I.isT (hT p hp)
  have hz : L.length ≤ sizeLine := by have := R.few; rw [sizeLine_eq]; omega
  refine sortedR_any (H := H) (ks := L.map (·.2)) (by rw [List.length_map]; exact hz) (hok R.nd) (fun R2 hR => ?_) fun L' p e1 e2 n => q L' p R.nd e1 e2 n
  obtain ⟨o, ho, hex, hd⟩ := R.ob
  refine collect_set (A := X.A.in1) (I.ok.hd hc) ⟨o, ho, hex.1, hd⟩ R.fits (by have := R.size; have := R.few; unfold scanBound; omega) R.tab.ris R.led fun s1 vs k1 _ g1 o1 pm => ?_
  have hes : es.toList.map (·.2) = L.map fun q => Value.ref q.1 := by
    rw [R.rows]; unfold rowsOf; rw [List.map_map]; rfl
  rw [hes] at pm
  obtain ⟨L1, e1, hs⟩ := refs_ord L vs fun v hv => by
    obtain ⟨p, hp, e⟩ := List.mem_map.mp (pm.mem_iff.mp hv)
    exact ⟨p, hp, e.symm⟩
  have one : ∀ q ∈ L, ∀ r ∈ L, q.1 = r.1 → q = r := fun q hq r hr e => by
    have a1 := R.tup q hq
    have a2 := R.tup r hr
    rw [e] at a1
    exact Prod.ext e (a1.inj a2)
  have nL : L.Nodup := nodup_of_map R.nd
  have nref : (L.map fun q => Value.ref q.1).Nodup := by
    refine List.pairwise_map.mpr (List.Pairwise.imp_of_mem (fun {q r} hq hr hne e => ?_) nL)
    injection e with e
    exact hne (one q hq r hr e)
  have pL : L1.Perm L := by
    rw [e1] at pm
    have n1 : L1.Nodup := nodup_of_map (pm.nodup_iff.mpr nref)
    refine (List.perm_ext_iff_of_nodup n1 nL).mpr fun q => ⟨hs q, fun hq => ?_⟩
    have hm : Value.ref q.1 ∈ L1.map (fun q => Value.ref q.1) := pm.mem_iff.mpr (List.mem_map.mpr ⟨q, hq, rfl⟩)
    obtain ⟨r, hr, e⟩ := List.mem_map.mp hm
    injection e with e
    rw [← one r (hs r hr) q hq e]
    exact hr
  rw [e1]
  exact hR L1 s1 (I.call' (ch := []) o1 (Un.kept k1) (I.hok.kept k1) (by rw [g1]; exact I.bare) (fun _ z => nomatch z)) (fun p hp => hT p (hs p hp)) (pL.map (·.2))
end
section
variable {X : Cx} {CL : CLs} {cl : Cl} {a b c : Expr} {sa sb sc : SE} {pos p0 p1 p2 : Pos}
theorem snd_sortedSet (hc : X.calm = true) (hu : X.A.units + 64 < cLine) (ha : SndE X CL cl a sa) (hg : Gl X "sorted") (hm : X.mg "sorted" = none) (hg2 : Gl X "set") (hm2 : X.mg "set" = none) (hst : starEach [a] X.env = [(false, eval a X.env)]) :
    SndE X CL cl (.Call (.Name "sorted" p0) [.Call (.Name "set" p1) [a] [] p2] [] pos) (e1 bSortedSet sa) := fun W tk => by
  refine pe_imp (pe_callB ((call_sortS hc).or (call_sortST hc)) hg hm PyProof.Rows.boot_sorted (pa_cons (pe_callTy ((call_setI hc).or (cr_setOfT hc hu)) hg2 hm2 PyProof.Rows.boot_set (pa_cons (ha W tk) pa_nil hst) (by decide) (by decide) hst rfl) pa_nil rfl) (by decide) (by decide) rfl rfl) fun σ H Q h => ?_
  obtain ⟨mu, r, M, hm, hs, p⟩ := h
  refine rE_then hm hs p fun x v M1 mu1 H1 n1 h1 p1 => ?_
  have p2 := p1.rb n1
  unfold bSortedSet at p2
  split at p2
  · rename_i ds e
    split at p2
    · rename_i ns e2
      split at p2
      · rename_i hl
        obtain ⟨q, vs, rfl, h2, h3⟩ := seqOf_ok n1.rm h1.w e
        rw [asInts_eq e2] at h3
        have e3 := h3.ints
        subst e3
        refine .inl ⟨q, ns, rfl, h2, by unfold scanBound; omega, fun p c nf => .inl ⟨p, _, c, rfl, upd_same, fun ys p' hs hk n' => ?_⟩⟩
        rw [strict_one hs (sortDed_sorted ns) fun k => by rw [hk, sortDed_mem]; simp]
        exact end_lst (n1.rm.laid nf) (p2.from (Stp.laid n1.rm nf) (n1.rm.laid nf) |>.mono fun _ _ _ _ _ _ z w hw => z w (hw.base (Stp.laid n1.rm nf) (n1.rm.laid nf))) (Rvs.of_ints _) p' n'
      · exact bad_end p2
    · split at p2
      · rename_i ds' rs e3 e4
        split at p2
        · rename_i hl
          obtain ⟨q, vs, rfl, h2, h3⟩ := lstOf_ok n1.rm h1.w e3
          have ed : ds' = ds := by
            unfold seqOf at e
            split at e
            · simp [lstOf] at e3
            · rw [e3] at e; exact Option.some.inj e
          subst ed
          rw [asRows_eq e4] at h3
          obtain ⟨L0, e5, e6, e7⟩ := rows_v h3
          subst e5
          subst e7
          refine .inr ⟨q, L0, rfl, h2, e6, by simpa using hl.1, fun p L nf sub sup => .inr ⟨p, L, rfl, upd_same, fun r hr => ?_, fun nd => ?_, fun L' p' nd eL hT n' => ?_⟩⟩
          · exact SqT.stp n1.rm (Stp.laid n1.rm nf) (e6 r (sub r hr))
          · rw [rowsOk_perm (b := dedR (L0.map (·.2))) ((List.perm_ext_iff_of_nodup nd (dedR_nodup _)).mpr fun k => ?_)]
            · exact hl.2
            · rw [dedR_mem]
              refine ⟨fun h => ?_, fun h => ?_⟩
              · obtain ⟨p, hp, rfl⟩ := List.mem_map.mp h; exact List.mem_map.mpr ⟨p, sub p hp, rfl⟩
              · obtain ⟨p, hp, rfl⟩ := List.mem_map.mp h; exact sup p hp
          · have pm : (L.map (·.2)).Perm (dedR (L0.map (·.2))) := (List.perm_ext_iff_of_nodup nd (dedR_nodup _)).mpr fun k => by
              rw [dedR_mem]
              refine ⟨fun h => ?_, fun h => ?_⟩
              · obtain ⟨p, hp, rfl⟩ := List.mem_map.mp h; exact List.mem_map.mpr ⟨p, sub p hp, rfl⟩
              · obtain ⟨p, hp, rfl⟩ := List.mem_map.mp h; exact sup p hp
            have es : sortR (L.map (·.2)) = sortR (dedR (L0.map (·.2))) := sortedR_one (((sortR_perm _).trans pm).trans (sortR_perm _).symm) (sortR_sorted _) (sortR_sorted _)
            rw [es] at eL
            have := rows_back (mu := mu1) L' hT
            rw [eL] at this
            exact end_lst (n1.rm.laid nf) (p2.from (Stp.laid n1.rm nf) (n1.rm.laid nf) |>.mono fun _ _ _ _ _ _ z w hw => z w (hw.base (Stp.laid n1.rm nf) (n1.rm.laid nf))) this p' n'
        · exact bad_end p2
      · exact bad_end p2
  · exact bad_end p2
end
end MI
end
section
set_option Elab.async false
set_option linter.all false
set_option maxRecDepth 100000
set_option maxHeartbeats 4000000
namespace MI
open PySem PySem.Spec PyProof.Rows L2
section
variable {X : Cx} {CL : CLs} {cl : Cl} {a b c o : Expr} {rest : List Expr} {es : List Expr} {sa sb sc so : SE} {ta tb tc : STt} {as : SDs} {pos p0 apos cpos : Pos}
/-! ### methods of lists -/
/-- a list's method by what it asks of the heap: the list stands at the handle n -/
def OkM (K : PySem.W.Frag) (CL : CLs) (rr : V → List V → Hp → VK → Prop) (m : Nat → D → Mem → Res RV) : Prop :=
  ∀ (W : WX) (σ : Sg) mu H M n p d v (Q : VK), Rm K CL mu H M → mu[n]? = some p → Rv K mu H d v → Pst K CL W σ mu H (m n d M) (fun z _ mu' H' => ∀ w, Rr K CL mu' H' H z w → Q w H') → rr (.ref p) [v] H Q
theorem snd_m1 {name : Str} {id : String} {rr : V → List V → Hp → VK → Prop} {m : Nat → D → Mem → Res RV} (slot : Slot "list" name id) (hty : typeOf (.builtin id) = pure (.type "method_descriptor")) (hm : MtR X id rr) (k : OkM X.K CL rr m) (ho : SndE X CL cl o so) (ha : SndE X CL cl a sa)
    (hbase : attributeBase o name X.env (eval o X.env) = eval o X.env) (hline : (apos.endLine == cpos.line) = true) (hst : starEach [a] X.env = [(false, eval a X.env)]) : SndE X CL cl (.Call (.Attribute o name apos) [a] [] cpos) (eM1 m so sa) := fun W tk => by
  refine pe_imp (pe_bm PySem.F.plainAttrs_list slot hty hm (ho W tk) (pa_cons (ha W tk) pa_nil hst) hbase (by rw [hst]; rfl) hline hst rfl) fun σ H Q h => ?_
  obtain ⟨mu, r, M, hm, hs, p⟩ := h
  refine rE_then hm hs p fun x v M1 mu1 H1 n1 h1 p1 => ?_
  split at p1
  · rename_i n
    split at p1
    · rename_i e
      obtain ⟨ds, e⟩ := Option.isSome_iff_exists.mp e
      obtain ⟨p', vs, hv, h2, h3⟩ := lstT_ok n1.rm h1.w e
      obtain ⟨q, h4, h5⟩ := h1
      have eq : q = p' := V.ref.inj (h5.symm.trans hv)
      subst eq
      refine ⟨by rw [h5]; exact .inl ⟨rfl, vs, .inl (.inl h2)⟩, ?_⟩
      refine rE_thenB n1.rm n1.rs Stp.refl p1 fun y u M2 mu2 H2 n2 h6 p2 => ?_
      obtain ⟨t, R3, s3, hu⟩ := n2.rm.box h6 n2.st
      rw [h5]
      refine k W σ (mu2 ++ t) H2 _ n q _ u Q R3 ?_ hu ?_
      · rw [List.getElem?_append_left (List.getElem?_eq_some_iff.mp (n2.st.get h4)).1]; exact n2.st.get h4
      · exact (p2.from s3 R3).mono fun _ _ _ _ _ _ z w hw => z w ((hw.base s3 R3).base n1.st n1.rm)
    · exact bad_end p1
  · exact bad_end p1
theorem okM_append {K : PySem.W.Frag} : OkM K CL rAppend mAppend := fun W σ mu H M n p d v Q R hp hv h => by
  unfold mAppend at h
  split at h
  · rename_i ds e
    split at h
    · rename_i c
      obtain ⟨vs, h1, h2⟩ := R.ob n p _ hp e
      have st : Stp mu H mu (upd H p (.lst (vs ++ [v]))) := Stp.write hp (fun _ _ z => by rw [h1] at z; cases z)
      have R' := R.write (u := .lst (vs ++ [v])) (o := .lst (ds ++ [d])) hp (fun _ _ z => by rw [h1] at z; cases z) ⟨_, upd_same, (h2.append (Rvs.one hv)).stp R st⟩
      exact ⟨p, vs, v, rfl, rfl, h1, by rw [← h2.length]; exact c, h mu _ st R' .non rfl⟩
    · exact bad_end h
  · exact bad_end h
theorem okM_popAt {K : PySem.W.Frag} : OkM K CL rPopAt mPopAt := fun W σ mu H M n p d v Q R hp hv h => by
  unfold mPopAt at h
  split at h
  · rename_i ds e
    split at h
    · rename_i i
      split at h
      · rename_i c
        split at h
        · rename_i y ey
          obtain ⟨vs, h1, h2⟩ := R.ob n p _ hp e
          obtain ⟨w, h3, h4⟩ := h2.get ey
          have hv' : v = .int i := hv
          subst hv'
          have st : Stp mu H mu (upd H p (.lst (vs.eraseIdx i.toNat))) := Stp.write hp (fun _ _ z => by rw [h1] at z; cases z)
          have R' := R.write (u := .lst (vs.eraseIdx i.toNat)) (o := .lst (ds.eraseIdx i.toNat)) hp (fun _ _ z => by rw [h1] at z; cases z) ⟨_, upd_same, (h2.eraseIdx _).stp R st⟩
          have hl := h2.length
          refine ⟨p, vs, i, i.toNat, w, rfl, rfl, h1, by omega, by omega, seqIndex_of c.1 (by omega), h3, h mu _ st R' w (h4.stp R st)⟩
        · exact bad_end h
      · exact bad_end h
    · exact bad_end h
  · exact bad_end h

/-! ### what is walked -/
structure Wk (K : PySem.W.Frag) (CL : CLs) (J : It) (xs : List D) (c : Chk) (mu0 : List Addr) (H0 : Hp) : Prop where
  go : ∀ (i : Nat) (d : D) mu H M, xs[i]? = some d → Stp mu0 H0 mu H → Rm K CL mu H M → chkOk c M = true → J.go i H ∧ ∀ x H', J.yld i H x H' → Stp mu H mu H' ∧ Rm K CL mu H' M ∧ Rv K mu H' d x
  stop : ∀ mu H M, Stp mu0 H0 mu H → Rm K CL mu H M → chkOk c M = true → J.stop xs.length H
def rI (K : PySem.W.Frag) (CL : CLs) (W : WX) (cl : Cl) (s : SI) : TI := fun σ H R => ∃ mu r M, Rm K CL mu H M ∧ Rst K mu H r σ ∧ Pst K CL W σ mu H (s cl r M) fun p _ mu' H' => ∀ J, Wk K CL J p.1 p.2 mu' H' → R J H'
def SndI (X : Cx) (CL : CLs) (cl : Cl) (tg : Expr) (e : Expr) (s : SI) : Prop := ∀ W, Takes X W → PI X tg e (rI X.K CL W cl s)
theorem pi_imp {tg e : Expr} {t t' : TI} (h : PI X tg e t) (q : ∀ σ H R, t' σ H R → t σ H R) : PI X tg e t' := ⟨fun pins s σ H R I w => h.run pins s σ H R I (q σ H R w)⟩
/-- a list, a tuple or a text -/
def iBoth (K : PySem.W.Frag) (tl : TE) : TI := fun σ H R => tl σ H fun x H1 => (∃ z, x = .str z ∧ R (Its z) H1) ∨ ∃ a, x = .ref a ∧ (((∃ xs, SqL K H1 a xs) ∧ R (Itl K a) H1) ∨ ((∃ xs, SqT K H1 a xs) ∧ R (Itt K a) H1))
theorem pi_both {tg l : Expr} {tl : TE} (hl : PE X l tl) : PI X tg l (iBoth X.K tl) := by
  refine ⟨fun pins s σ H R I h => thn (hl.run pins s σ H _ I h) fun v s1 ⟨x, H1, I1, r1, q0⟩ => ?_⟩
  rcases q0 with ⟨z, e, q⟩ | ⟨a, e, q1⟩
  · subst e
    obtain ⟨t, rfl⟩ := r1
    cases ha : z.cps.all (· < 128)
    · exact wpAny_pyIter_wide ha (pi_one (tk := s1.toks) I1 _ (turn_str _ z t "str_iterator" (.inr rfl)) ⟨_, Heap.get?_push_size _ rfl, rfl, rfl⟩ q)
    · exact wpAny_pyIter_ascii ha (pi_one (tk := s1.toks) I1 _ (turn_str _ z t "str_ascii_iterator" (.inl rfl)) ⟨_, Heap.get?_push_size _ rfl, rfl, rfl⟩ q)
  subst e
  cases r1
  rcases q1 with ⟨⟨xs, hq⟩, q⟩ | ⟨⟨xs, hq⟩, q⟩
  · obtain ⟨its, rv, p, hz⟩ := I1.list hq
    refine wpAny_pyIter_list p.isList ⟨s1.heap.objs.size, [s1.heap.objs.size], _, _, H1, rfl, I1.kept (t' := s1.toks) fun b o e => Heap.get?_push_of_some _ e, turn_list a _, ⟨_, Heap.get?_push_size _ rfl, rfl, rfl⟩, fun b hb => ?_, q⟩
    rw [show b = s1.heap.objs.size by simpa using hb]
    exact I1.fpOk (Nat.le_refl _) (I1.hok.fresh (Nat.le_refl _))
  · obtain ⟨its, rv, p, hz⟩ := I1.tuple hq
    refine wpAny_pyIter_tuple (show s1.heap.IsTuple a its.toArray from p) ⟨s1.heap.objs.size, [s1.heap.objs.size], _, _, H1, rfl, I1.kept (t' := s1.toks) fun b o e => Heap.get?_push_of_some _ e, turn_tuple a _, ⟨_, Heap.get?_push_size _ rfl, rfl, rfl⟩, fun b hb => ?_, q⟩
    rw [show b = s1.heap.objs.size by simpa using hb]
    exact I1.fpOk (Nat.le_refl _) (I1.hok.fresh (Nat.le_refl _))
/-- a walk whose list stays -/
theorem wk_list {K : PySem.W.Frag} {a : Addr} {xs : List D} {c : Chk} {mu0 : List Addr} {H0 : Hp} (h : ∀ mu H M, Stp mu0 H0 mu H → Rm K CL mu H M → chkOk c M = true → ∃ vs, SqL K H a vs ∧ Rvs K mu H xs vs) : Wk K CL (Itl K a) xs c mu0 H0 where
  go := fun i d mu H M e st R ck => by
    obtain ⟨vs, h1, h2⟩ := h mu H M st R ck
    obtain ⟨v, h3, h4⟩ := h2.get e
    refine ⟨⟨vs, v, h1, h3⟩, fun x H' ⟨e1, e2⟩ => ?_⟩
    subst e1
    have e3 := e2 vs h1
    rw [h3] at e3; cases e3
    exact ⟨Stp.refl, R, h4⟩
  stop := fun mu H M st R ck => by
    obtain ⟨vs, h1, h2⟩ := h mu H M st R ck
    exact ⟨vs, h1, by rw [h2.length]; exact Nat.le_refl _⟩
theorem wk_tup {K : PySem.W.Frag} {a : Addr} {xs : List D} {c : Chk} {mu0 : List Addr} {H0 : Hp} (h : ∀ mu H M, Stp mu0 H0 mu H → Rm K CL mu H M → chkOk c M = true → ∃ vs, SqT K H a vs ∧ Rvs K mu H xs vs) : Wk K CL (Itt K a) xs c mu0 H0 where
  go := fun i d mu H M e st R ck => by
    obtain ⟨vs, h1, h2⟩ := h mu H M st R ck
    obtain ⟨v, h3, h4⟩ := h2.get e
    refine ⟨⟨vs, v, h1, h3⟩, fun x H' ⟨e1, e2⟩ => ?_⟩
    subst e1
    have e3 := e2 vs h1
    rw [h3] at e3; cases e3
    exact ⟨Stp.refl, R, h4⟩
  stop := fun mu H M st R ck => by
    obtain ⟨vs, h1, h2⟩ := h mu H M st R ck
    exact ⟨vs, h1, by rw [h2.length]; exact Nat.le_refl _⟩
theorem wk_str {K : PySem.W.Frag} {z : Str} {c : Chk} {mu0 : List Addr} {H0 : Hp} : Wk K CL (Its z) (strD z) c mu0 H0 where
  go := fun i d mu H M e st R ck => by
    unfold strD at e
    rw [List.getElem?_map] at e
    obtain ⟨n, h1, h2⟩ := Option.map_eq_some_iff.mp e
    subst h2
    rw [Array.getElem?_toList] at h1
    refine ⟨(Array.getElem?_eq_some_iff.mp h1).1, fun x H' ⟨e1, n', h3, h4⟩ => ?_⟩
    subst e1
    rw [h1] at h3; cases h3
    exact ⟨Stp.refl, R, h4⟩
  stop := fun mu H M st R ck => by
    show z.cps.size ≤ (strD z).length
    unfold strD
    rw [List.length_map, Array.length_toList]
    exact Nat.le_refl _
theorem snd_seq {tg : Expr} (ha : SndE X CL cl a sa) : SndI X CL cl tg a (iSeq sa) := fun W tk => by
  refine pi_imp (pi_both (ha W tk)) fun σ H R h => ?_
  obtain ⟨mu, r, M, hm, hs, p⟩ := h
  refine rE_then hm hs p fun x v M1 mu1 H1 n1 h1 p1 => ?_
  split at p1
  · rename_i ds e
    have p2 := p1.here n1.rm
    by_cases ht : ∃ es, x = .d (.tup es)
    · obtain ⟨es, rfl⟩ := ht
      simp only [seqOf, Option.some.injEq] at e
      subst e
      obtain ⟨q, vs, rfl, h2, h3⟩ := h1
      exact .inr ⟨q, rfl, .inr ⟨⟨vs, h2⟩, p2 _ (wk_tup fun mu H M st R _ => ⟨vs, SqT.stp n1.rm st h2, h3.stp n1.rm st⟩)⟩⟩
    · have e' : lstOf x M1 = some ds := by
        cases x with
        | o o => simpa [seqOf] using e
        | d d =>
          cases d with
          | tup es => exact absurd ⟨es, rfl⟩ ht
          | _ => simpa [seqOf] using e
      by_cases hr : ∃ es, x = .d (.ro es)
      · obtain ⟨es, rfl⟩ := hr
        simp only [lstOf, Option.some.injEq] at e'
        subst e'
        obtain ⟨q, vs, rfl, h2, h3⟩ := h1
        exact .inr ⟨q, rfl, .inl ⟨⟨vs, h2.sq⟩, p2 _ (wk_list fun mu H M st R _ => ⟨vs, (h2.stp n1.rm st).sq, h3.stp n1.rm st⟩)⟩⟩
      · cases x with
        | o o =>
          cases o with
          | lst es =>
            simp only [lstOf, Option.some.injEq] at e'
            subst e'
            obtain ⟨q, rfl, ⟨vs, h2, h3⟩, h4, h5⟩ := h1
            exact .inr ⟨q, rfl, .inl ⟨⟨vs, .inl (.inl h2)⟩, p2 _ (wk_list fun mu H M st R _ => ⟨vs, .inl (.inl (st.keep _ _ h2 h4)), h3.stp n1.rm st⟩)⟩⟩
          | _ => simp [lstOf] at e'
        | d d =>
          cases d with
          | ro es => exact absurd ⟨es, rfl⟩ hr
          | hdl n =>
            obtain ⟨q, h2, rfl⟩ := h1
            cases ec : M1[n]? with
            | none => simp [lstOf, ec] at e'
            | some o =>
              cases o with
              | lst es =>
                simp only [lstOf, ec, Option.some.injEq] at e'
                subst e'
                obtain ⟨vs, h3, h4⟩ := n1.rm.ob n q _ h2 ec
                have ck : chkR (.d (.hdl n)) M1 = [(n, .lst es)] := by simp [chkR, ec]
                rw [ck] at p2
                refine .inr ⟨q, rfl, .inl ⟨⟨vs, .inl (.inl h3)⟩, p2 _ (wk_list fun mu H M st R k => ?_)⟩⟩
                simp only [chkOk, List.all_cons, List.all_nil, Bool.and_true, decide_eq_true_eq] at k
                obtain ⟨ws, h5, h6⟩ := R.ob n q _ (st.get h2) k
                exact ⟨ws, .inl (.inl h5), h6⟩
              | _ => simp [lstOf, ec] at e'
          | _ => simp [lstOf] at e'
  · split at p1
    · rename_i t _
      have hv : v = .str t := h1
      exact .inl ⟨t, hv, p1.here n1.rm _ wk_str⟩
    · exact bad_end p1
theorem snd_range1 {tg : Expr} (ha : SndE X CL cl a sa) (hg : Gl X "range") (hm : X.mg "range" = none) (hst : starEach [a] X.env = [(false, eval a X.env)]) : SndI X CL cl tg (.Call (.Name "range" p0) [a] [] pos) (iRange1 sa) := fun W tk => by
  refine pi_imp (pi_range1 hg hm (pa_cons (ha W tk) pa_nil hst) hst) fun σ H R h => ?_
  obtain ⟨mu, r, M, hm, hs, p⟩ := h
  refine rE_then hm hs p fun x v M1 mu1 H1 n1 h1 p1 => ?_
  split at p1
  · rename_i n
    split at p1
    · rename_i c
      have hv : v = .int n := h1
      subst hv
      refine ⟨n, rfl, c.2, c.1, p1.here n1.rm _ ⟨fun i d mu H M e st R _ => ?_, fun mu H M st R _ => ?_⟩⟩
      · have hi : i < n.toNat := by
          have := (List.getElem?_eq_some_iff.mp e).1
          simpa [rngD] using this
        refine ⟨hi, fun x H' ⟨e1, e2⟩ => ?_⟩
        subst e1
        refine ⟨Stp.refl, R, ?_⟩
        have : d = .int (0 + (i : Int)) := by
          unfold rngD at e
          rw [List.getElem?_map, List.getElem?_range hi] at e
          exact (Option.some.inj e).symm
        rw [this, e2]
        rfl
      · show n.toNat ≤ (rngD 0 n.toNat).length
        simp [rngD]
    · exact bad_end p1
  · exact bad_end p1
end
end MI
end
section
set_option Elab.async false
set_option linter.all false
set_option maxRecDepth 100000
set_option maxHeartbeats 4000000
namespace MI
open PySem PySem.Spec PyProof.Rows L2
section
variable (K : PySem.W.Frag) (CL : CLs) (W : WX)
/-- what is wanted behind a statement's run -/
def PsS (mu : List Addr) (H : Hp) (res : SR) (D : Ends) : Prop :=
  match res with
  | .nx r M' => ∀ mu' H' σ', Stp mu H mu' H' → Rm K CL mu' H' M' → Rst K mu' H' r σ' → D.nx σ' H'
  | .ret x M' => ∀ mu' H' v, Stp mu H mu' H' → Rm K CL mu' H' M' → Rr K CL mu' H' H x v → D.rt v H'
  | .err c r M' => ∀ mu' H' σ' C, CL c = some C → Stp mu H mu' H' → Rm K CL mu' H' M' → Rst K mu' H' r σ' → W (.ref C) none σ' H'
  | .bad => False
def rS (cl : Cl) (s : SS) : TS := fun D σ H => ∃ mu r M, Rm K CL mu H M ∧ Rst K mu H r σ ∧ PsS K CL W mu H (s cl r M) D
end
section
variable {K : PySem.W.Frag} {CL : CLs} {W : WX} {σ : Sg} {mu mu1 mu0 : List Addr} {H H0 H1 : Hp} {M M1 : Mem} {r : Env} {cl : Cl} {DD : Ends}
theorem PsS.from {res : SR} (h : PsS K CL W mu H res DD) (s : Stp mu H mu1 H1) (R : Rm K CL mu1 H1 M1) : PsS K CL W mu1 H1 res DD := by
  cases res with
  | nx r M' => exact fun mu' H' σ' s' R' => h mu' H' σ' (s.trans s' R) R'
  | ret x M' => exact fun mu' H' v s' R' hv => h mu' H' v (s.trans s' R) R' (hv.base s R)
  | err c r M' => exact fun mu' H' σ' C e s' R' => h mu' H' σ' C e (s.trans s' R) R'
  | bad => exact h
theorem PsS.here {r : Env} (h : PsS K CL W mu0 H0 (.nx r M) DD) (s : Stp mu0 H0 mu H) (R : Rm K CL mu H M) (q : Rst K mu H r σ) : DD.nx σ H := h mu H σ s R q
/-- an expression, then the rest -/
theorem rE_stm {s : SE} {f : RV → Mem → SR} (hm : Rm K CL mu H M) (hs : Rst K mu H r σ) (s0 : Stp mu0 H0 mu H) (h : PsS K CL W mu0 H0 (ofE (s cl r M) r f) DD) {Q : VK}
    (q : ∀ x v M1 mu1 H1, Nxt K CL σ mu H r M1 mu1 H1 → Rr K CL mu1 H1 H x v → PsS K CL W mu0 H0 (f x M1) DD → Q v H1) : rE K CL W cl s σ H Q := by
  refine ⟨mu, r, M, hm, hs, ?_⟩
  cases e : s cl r M with
  | ok x M' =>
    rw [e] at h
    exact fun mu' H' st R v hv => q x v M' mu' H' ⟨R, hs.stp hm st, st⟩ hv h
  | err c M' =>
    rw [e] at h
    exact fun mu' H' C ec st R => h mu' H' σ C ec (s0.trans st hm) R (hs.stp hm st)
  | bad => rw [e] at h; exact h
theorem rT_stm {s : STt} {f : Bool → Mem → SR} (hm : Rm K CL mu H M) (hs : Rst K mu H r σ) (s0 : Stp mu0 H0 mu H) (h : PsS K CL W mu0 H0 (ofT (s cl r M) r f) DD) {Q : Bool → Hp → Prop}
    (q : ∀ x M1 mu1 H1, Nxt K CL σ mu H r M1 mu1 H1 → PsS K CL W mu0 H0 (f x M1) DD → Q x H1) : rT K CL W cl s σ H Q := by
  refine ⟨mu, r, M, hm, hs, ?_⟩
  cases e : s cl r M with
  | ok x M' =>
    rw [e] at h
    exact fun mu' H' st R => q x M' mu' H' ⟨R, hs.stp hm st, st⟩ h
  | err c M' =>
    rw [e] at h
    exact fun mu' H' C ec st R => h mu' H' σ C ec (s0.trans st hm) R (hs.stp hm st)
  | bad => rw [e] at h; exact h
theorem rI_stm {s : SI} {f : List D × Chk → Mem → SR} (hm : Rm K CL mu H M) (hs : Rst K mu H r σ) (s0 : Stp mu0 H0 mu H) (h : PsS K CL W mu0 H0 (ofI (s cl r M) r f) DD) {R : It → Hp → Prop}
    (q : ∀ x M1 mu1 H1 J, Nxt K CL σ mu H r M1 mu1 H1 → Wk K CL J x.1 x.2 mu1 H1 → PsS K CL W mu0 H0 (f x M1) DD → R J H1) : rI K CL W cl s σ H R := by
  refine ⟨mu, r, M, hm, hs, ?_⟩
  cases e : s cl r M with
  | ok x M' =>
    rw [e] at h
    exact fun mu' H' st R J wk => q x M' mu' H' J ⟨R, hs.stp hm st, st⟩ wk h
  | err c M' =>
    rw [e] at h
    exact fun mu' H' C ec st R => h mu' H' σ C ec (s0.trans st hm) R (hs.stp hm st)
  | bad => rw [e] at h; exact h
end
section
variable (X : Cx) (CL : CLs) (cl : Cl)
abbrev POwn (X : Cx) : Prop := PassesOwn (model X.prog X.w) X.A X.env X.xe
def SndS (st : Stmt) (s : SS) : Prop := ∀ W, Takes X W → POwn X → PS X st (rS X.K CL W cl s)
def SndB (sts : List Stmt) (s : SS) : Prop := ∀ W, Takes X W → POwn X → PSs X sts (rS X.K CL W cl s)
/-- a target -/
def SndG (e : Expr) (t : Tg) : Prop := ∃ g, PG X e g ∧ ∀ (d : D) (r r' : Env) mu H v σ (Q : Sg → Hp → Prop), asg t d r = some r' → Rv X.K mu H d v → Rst X.K mu H r σ → (∀ σ', Rst X.K mu H r' σ' → σ'.length = σ.length → Q σ' H) → g v σ H Q
end
section
variable {X : Cx} {CL : CLs} {cl : Cl} {a b c o k : Expr} {sa sb sc so sk : SE} {ta tb tc : STt} {pos p0 p1 : Pos} {st : Stmt} {rest sts stt : List Stmt} {u v : SS}
theorem bnd_nil : SndB X CL cl [] sNil := fun W tk po => by
  refine pss_imp pss_nil fun D σ H h => ?_
  obtain ⟨mu, r, M, hm, hs, p⟩ := h
  exact p.here Stp.refl hm hs
theorem bnd_cons (h1 : SndS X CL cl st u) (h2 : SndB X CL cl rest v) : SndB X CL cl (st :: rest) (sSeq u v) := fun W tk po => by
  refine pss_imp (pss_cons (h1 W tk po) (h2 W tk po)) fun D σ H h => ?_
  obtain ⟨mu, r, M, hm, hs, p⟩ := h
  refine ⟨mu, r, M, hm, hs, ?_⟩
  unfold sSeq at p
  cases e : u cl r M with
  | nx r1 M1 =>
    rw [e] at p
    exact fun mu' H' σ' s' R' q => ⟨mu', r1, M1, R', q, PsS.from p s' R'⟩
  | ret x M1 => rw [e] at p; exact p
  | err c r1 M1 => rw [e] at p; exact p
  | bad => rw [e] at p; exact p
theorem bnd_one (h1 : SndS X CL cl st u) : SndB X CL cl [st] u := fun W tk po => pss_one (h1 W tk po)
theorem stm_expr (ha : SndE X CL cl a sa) (hs : swapsWith a none pos.line X.env = pure false) : SndS X CL cl (.Expr a pos) (sExpr sa) := fun W tk po => by
  refine ps_imp (ps_expr (ha W tk) hs) fun D σ H h => ?_
  obtain ⟨mu, r, M, hm, hs, p⟩ := h
  exact rE_stm hm hs Stp.refl p fun x v M1 mu1 H1 n1 _ p1 => p1.here n1.st n1.rm n1.rs
theorem stm_ret (ha : SndE X CL cl a sa) : SndS X CL cl (.Return (some a) pos) (sRet sa) := fun W tk po => by
  refine ps_imp (ps_ret (ha W tk)) fun D σ H h => ?_
  obtain ⟨mu, r, M, hm, hs, p⟩ := h
  exact rE_stm hm hs Stp.refl p fun x v M1 mu1 H1 n1 h1 p1 => p1 mu1 H1 v n1.st n1.rm h1
theorem stm_retN : SndS X CL cl (.Return none pos) sRetN := fun W tk po => by
  refine ps_imp ps_retN fun D σ H h => ?_
  obtain ⟨mu, r, M, hm, hs, p⟩ := h
  exact p mu H .non Stp.refl hm rfl
theorem stm_if (ht : SndT X CL cl c tc) (ha : SndB X CL cl sts u) (hb : SndB X CL cl stt v) : SndS X CL cl (.If c sts stt pos) (sIf tc u v) := fun W tk po => by
  refine ps_imp (ps_if (ht W tk) (ha W tk po) (hb W tk po)) fun D σ H h => ?_
  obtain ⟨mu, r, M, hm, hs, p⟩ := h
  refine rT_stm hm hs Stp.refl p fun x M1 mu1 H1 n1 p1 => ?_
  cases x with
  | true => rw [if_pos rfl] at p1 ⊢; exact ⟨mu1, r, M1, n1.rm, n1.rs, p1.from n1.st n1.rm⟩
  | false => rw [if_neg Bool.false_ne_true] at p1 ⊢; exact ⟨mu1, r, M1, n1.rm, n1.rs, p1.from n1.st n1.rm⟩
theorem stm_set {i : Nat} {x : Str} (hN : X.N.Nodup) (hi : X.N[i]? = some x) (hx : Loc X.env.scope x) (hf : X.fn x = true ∨ X.env.scope.names.lookup x = some .local) (ha : SndE X CL cl a sa) (hs : swapsWith a (some (.Name x p1)) pos.line X.env = pure false) :
    SndS X CL cl (.Assign [.Name x p1] a pos) (sSet i sa) := fun W tk po => by
  refine ps_imp (ps_set hN hi hx (ha W tk) hs hf) fun D σ H h => ?_
  obtain ⟨mu, r, M, hm, hs, p⟩ := h
  refine rE_stm hm hs Stp.refl p fun x v M1 mu1 H1 n1 h1 p1 => ?_
  obtain ⟨t, R2, s2, hv⟩ := n1.rm.box h1 n1.st
  exact p1.here s2 R2 ((n1.rs.ext t).set hv)
theorem stm_setIx {rr : TSet} (ho : SndE X CL cl o so) (hk : SndE X CL cl k sk) (ha : SndE X CL cl a sa) (hps : PSet X rr)
    (key : ∀ mu H M M' n kd vd (p : Addr) kv vv (Q : Hp → Prop), Rm X.K CL mu H M → mu[n]? = some p → Rv X.K mu H kd kv → Rv X.K mu H vd vv → setIx (.hdl n) kd vd M = some M' → (∀ H', Stp mu H mu H' → Rm X.K CL mu H' M' → Q H') → rr (.ref p) kv vv H Q)
    (hs : swapsWithSole [.Subscript o k p1] a pos.line X.env = pure false) (hw : swappedStores [.Subscript o k p1] a X.env = pure none) (h1 : (assignEach [.Subscript o k p1] X.env).map (·.2) = [assign (.Subscript o k p1) X.env])
    (hg : ∀ v, assign (.Subscript o k p1) X.env v = (do
      let ov ← holding [v] (eval o X.env)
      let iv ← holding [v, ov] (eval k X.env)
      standAt p1
      holding [v, ov, iv] (setItem ov iv v)
      release [v, ov, iv] [])) : SndS X CL cl (.Assign [.Subscript o k p1] a pos) (sSetIx so sk sa) := fun W tk po => by
  refine ps_imp (ps_asg (ha W tk) (pg_sub (ho W tk) (hk W tk) hps hg) hs hw h1) fun D σ H h => ?_
  obtain ⟨mu, r, M, hm, hs, p⟩ := h
  refine rE_stm hm hs Stp.refl p fun x v M1 mu1 H1 n1 h1 p1 => ?_
  obtain ⟨t, R2, s2, hv⟩ := n1.rm.box h1 n1.st
  refine rE_stm R2 (n1.rs.ext t) s2 p1 fun y u M3 mu3 H3 n3 h3 p3 => ?_
  refine rE_stm n3.rm n3.rs (s2.trans n3.st R2) p3 fun z w M4 mu4 H4 n4 h4 p4 => ?_
  split at p4
  · rename_i yd zd
    split at p4
    · rename_i M5 e
      have hy : Rv X.K mu4 H4 yd u := Rv.stp n3.rm n4.st h3
      cases yd with
      | hdl n =>
        obtain ⟨q, h5, rfl⟩ := hy
        refine key mu4 H4 M4 M5 n zd _ q w v _ n4.rm h5 h4 ((hv.stp R2 n3.st).stp n3.rm n4.st) e fun H' st R => ?_
        exact p4.here (((s2.trans n3.st R2).trans n4.st n3.rm).trans st n4.rm) R (n4.rs.stp n4.rm st)
      | _ => simp [setIx] at e
    · exact p4.elim
  · exact p4.elim
end
end MI
end
section
set_option Elab.async false
set_option linter.all false
set_option maxRecDepth 100000
set_option maxHeartbeats 4000000
namespace MI
open PySem PySem.Spec PyProof.Rows L2
section
variable {X : Cx} {CL : CLs} {cl : Cl} {a b c o k : Expr} {sa sb sc so sk : SE} {ta tb tc : STt} {pos p0 p1 : Pos} {st : Stmt} {rest sts stt : List Stmt} {u v : SS}
/-! ### o[k] = v -/
def rSetD (K : PySem.W.Frag) (w : World) : TSet := fun o i v H Q => ∃ mu a xs ds k d, o = .ref a ∧ H a = some (dictO w a xs) ∧ Rdt K mu H ds xs ∧ okK ds k = true ∧ Rv K mu H k i ∧ Rv K mu H d v ∧ ds.length < sizeLine ∧ ∀ zs, Rdt K mu H (dput ds k d) zs → Q (upd H a (dictO w a zs))
abbrev rSetAll (K : PySem.W.Frag) (w : World) : TSet := fun o i v H Q => rSetL o i v H Q ∨ rSetD K w o i v H Q
theorem set_all {w : World} (hu : X.A.units + 64 < cLine) (hw : w = X.w) : PSet X (rSetAll X.K w) := fun pins s σ H o i v ov iv u Q I ro ri rv h => by
  rcases h with h | ⟨mu, a, xs, ds, k, d, ex, e, r, ok, hk, hd, hl, q⟩
  · exact set_list pins s σ H o i v ov iv u Q I ro ri rv h
  · subst ex
    cases ro
    exact dd_set hu I hw e r ok hk ri hd rv hl fun zs s' rz I' => ⟨_, I', q zs rz⟩
theorem setIx_ok {K : PySem.W.Frag} : ∀ mu H M M' n kd vd (p : Addr) kv vv (Q : Hp → Prop), Rm K CL mu H M → mu[n]? = some p → Rv K mu H kd kv → Rv K mu H vd vv → setIx (.hdl n) kd vd M = some M' → (∀ H', Stp mu H mu H' → Rm K CL mu H' M' → Q H') → rSetAll K CL.w (.ref p) kv vv H Q := by
  intro mu H M M' n kd vd p kv vv Q R hp hk hv e q
  simp only [setIx] at e
  split at e
  · rename_i ds e1
    split at e
    · rename_i i
      split at e
      · rename_i j e2
        cases e
        obtain ⟨vs, h1, h2⟩ := R.ob n p _ hp e1
        have hk' : kv = .int i := hk
        subst hk'
        have nf : ∀ od v, H p ≠ some (.frz od v) := fun _ _ z => by rw [h1] at z; cases z
        have st : Stp mu H mu (upd H p (.lst (vs.set j vv))) := Stp.write hp nf
        have R' := R.write (u := .lst (vs.set j vv)) (o := .lst (ds.set j vd)) hp nf ⟨_, upd_same, (h2.set j hv).stp R st⟩
        exact .inl ⟨p, vs, i, j, rfl, rfl, h1, by rw [← ixN_eq, ← h2.length]; exact e2, q _ st R'⟩
      · cases e
    · cases e
  · rename_i kvs e1
    split at e
    · rename_i c
      cases e
      obtain ⟨xs, h1, h2⟩ := R.ob n p _ hp e1
      have h1' : H p = some (dictO CL.w p xs) := h1
      have nf : ∀ od v, H p ≠ some (.frz od v) := fun _ _ z => by rw [h1'] at z; cases z
      refine .inr ⟨mu, p, xs, kvs, kd, vd, rfl, h1', h2, c.1, hk, hv, c.2, fun zs rz => ?_⟩
      have st : Stp mu H mu (upd H p (dictO CL.w p zs)) := Stp.write hp nf
      exact q _ st (R.write (u := dictO CL.w p zs) (o := .dic false (dput kvs kd vd)) hp nf ⟨zs, upd_same, rz.stp R st⟩)
    · cases e
  · cases e

/-! ### targets -/
def gNames : List Nat → TGs
  | [] => gNil
  | i :: is => gCons (gName i) (gNames is)
theorem gNames_ok {K : PySem.W.Frag} {mu : List Addr} {H : Hp} : ∀ (is : List Nat) (ds : List D) (vs : List V) (r r' : Env) (σ : Sg) (Q : Sg → Hp → Prop), setAll is ds r = some r' → Rvs K mu H ds vs → Rst K mu H r σ → (∀ σ', Rst K mu H r' σ' → Q σ' H) → gNames is vs σ H Q
  | [], [], vs, r, r', σ, Q, e, h, hs, q => by
    simp only [setAll, Option.some.injEq] at e
    subst e
    exact ⟨h, q σ hs⟩
  | [], _ :: _, _, _, _, _, _, e, _, _, _ => by simp [setAll] at e
  | _ :: _, [], _, _, _, _, _, e, _, _, _ => by simp [setAll] at e
  | i :: is, d :: ds, vs, r, r', σ, Q, e, h, hs, q => by
    obtain ⟨v, vr, e1, h1, h2⟩ := h
    exact ⟨v, vr, e1, gNames_ok is ds vr _ r' _ Q (by simpa only [setAll] using e) h2 (hs.set h1) q⟩
def gTg (K : PySem.W.Frag) : Tg → TG
  | .nm i => gName i
  | .tp is => gTup K is.length (gNames is)
theorem gTg_ok {K : PySem.W.Frag} {mu : List Addr} {H : Hp} (t : Tg) {d : D} {v : V} {r r' : Env} {σ : Sg} {Q : Sg → Hp → Prop} (e : asg t d r = some r') (h : Rv K mu H d v) (hs : Rst K mu H r σ) (q : ∀ σ', Rst K mu H r' σ' → Q σ' H) : gTg K t v σ H Q := by
  cases t with
  | nm i =>
    simp only [asg, Option.some.injEq] at e
    subst e
    exact q _ (hs.set h)
  | tp is =>
    cases d with
    | tup ds =>
      obtain ⟨a, vs, rfl, h1, h2⟩ := h
      have e' : setAll is ds r = some r' := e
      refine ⟨a, vs, rfl, h1, ?_, gNames_ok is ds vs r r' σ Q e' h2 hs q⟩
      have len : ∀ (is : List Nat) (ds : List D) (r r' : Env), setAll is ds r = some r' → is.length = ds.length := by
        intro is
        induction is with
        | nil => intro ds r r' e; cases ds with
          | nil => rfl
          | cons => simp [setAll] at e
        | cons i is ih => intro ds r r' e; cases ds with
          | nil => simp [setAll] at e
          | cons d ds => simp only [setAll] at e; simp only [List.length_cons, ih _ _ _ e]
      rw [← h2.length, len is ds r r' e']
    | _ => simp [asg] at e
/-- a target is this -/
def SndTg (X : Cx) (e : Expr) (t : Tg) : Prop := PG X e (gTg X.K t)
theorem stm_unp {is : List Nat} (hg : SndTg X b (.tp is)) (ha : SndE X CL cl a sa) (hs : swapsWithSole [b] a pos.line X.env = pure false) (hw : swappedStores [b] a X.env = pure none) (h1 : (assignEach [b] X.env).map (·.2) = [assign b X.env]) :
    SndS X CL cl (.Assign [b] a pos) (sUnp is sa) := fun W tk po => by
  refine ps_imp (ps_asg (ha W tk) hg hs hw h1) fun D σ H h => ?_
  obtain ⟨mu, r, M, hm, hs, p⟩ := h
  refine rE_stm hm hs Stp.refl p fun x v M1 mu1 H1 n1 h1 p1 => ?_
  split at p1
  · rename_i ds
    split at p1
    · rename_i r1 e
      exact gTg_ok (.tp is) (d := .tup ds) e h1 n1.rs fun σ' hs' => p1.here n1.st n1.rm hs'
    · exact p1.elim
  · exact p1.elim

/-! ### for -/
theorem stm_for {tg it : Expr} {t : Tg} {si : SI} (hc : X.calm = true) (hi : SndI X CL cl tg it si) (hg : SndTg X tg t) (hb : SndB X CL cl sts u) (hs : ∀ x, foldedSetIterable it X.env x = pure x) : SndS X CL cl (.For tg it sts [] pos) (sFor t si u) := fun W tk po => by
  refine ps_imp (ps_for po hc (hi W tk) hg (hb W tk po) hs) fun D σ H h => ?_
  obtain ⟨mu, r, M, hm, hs, p⟩ := h
  refine rI_stm hm hs Stp.refl p fun x M1 mu1 H1 J n1 wk p1 => ?_
  obtain ⟨xs, c⟩ := x
  refine ⟨fun i m σ' H' => m = xs.length - i ∧ i ≤ xs.length ∧ ∃ mu' r' M', Rm X.K CL mu' H' M' ∧ Rst X.K mu' H' r' σ' ∧ Stp mu1 H1 mu' H' ∧ PsS X.K CL W mu H (forL (u cl) t c (xs.drop i) r' M') D, ⟨xs.length, by simp, Nat.zero_le _, mu1, r, M1, n1.rm, n1.rs, Stp.refl, p1⟩, ?_⟩
  rintro i m σ' H' ⟨rfl, hi, mu', r', M', R', S', st, p'⟩
  have st0 := n1.st.trans st n1.rm
  by_cases hlt : i < xs.length
  · rw [List.drop_eq_getElem_cons hlt] at p'
    unfold forL at p'
    split at p'
    · rename_i ck
      split at p'
      · rename_i r1 ea
        obtain ⟨g1, g2⟩ := wk.go i xs[i] mu' H' M' (List.getElem?_eq_getElem hlt) st R' ck
        refine .inr ⟨g1, fun σ2 H2 => ∃ m', m' < xs.length - i ∧ (m' = xs.length - (i + 1) ∧ i + 1 ≤ xs.length ∧ ∃ mu' r' M', Rm X.K CL mu' H2 M' ∧ Rst X.K mu' H2 r' σ2 ∧ Stp mu1 H1 mu' H2 ∧ PsS X.K CL W mu H (forL (u cl) t c (xs.drop (i + 1)) r' M') D), fun _ _ z => z, fun y H2 hy => ?_⟩
        obtain ⟨s2, R2, hv⟩ := g2 y H2 hy
        refine gTg_ok t ea hv (S'.stp R' s2) fun σ2 hs2 => ⟨mu', r1, M', R2, hs2, ?_⟩
        cases eb : u cl r1 M' with
        | nx r2 M2 =>
          rw [eb] at p'
          exact fun mu3 H3 σ3 s3 R3 q3 => ⟨xs.length - (i + 1), by omega, rfl, hlt, mu3, r2, M2, R3, q3, (st.trans s2 R').trans s3 R2, p'⟩
        | ret y M2 =>
          rw [eb] at p'
          exact PsS.from (res := .ret y M2) p' (st0.trans s2 R') R2
        | err c M2 =>
          rw [eb] at p'
          exact PsS.from (res := .err c M2 _) p' (st0.trans s2 R') R2
        | bad => rw [eb] at p'; exact p'
      · exact p'.elim
    · exact p'.elim
  · have e : i = xs.length := by omega
    subst e
    rw [List.drop_length] at p'
    unfold forL at p'
    split at p'
    · rename_i ck
      exact .inl ⟨wk.stop mu' H' M' st R' ck, p'.here st0 R' S'⟩
    · exact p'.elim

/-! ### raise, try -/
theorem stm_raise {x m : Str} {j : Nat} {C : Addr} {p p2 pos2 : Pos} (hc : X.calm = true) (q : PySem.W.excIn X.K C [.type "ValueError", .type "Exception", .type "BaseException", .type "object"] "ValueError.__new__" = true) (gC : X.mg x = some (.ref C)) (kC : PySem.W.keepIn X.K (.ref C) = true)
    (h1 : PySem.W.subIn X.K (.ref C) (.type "BaseException") = some true) (h2 : PySem.W.typeIn X.K (.ref C) = some (.type "type")) (hg : Gl X x) (hdb : (x == ("__debug__" : Str)) = false) (hCL : CL x = some C) :
    SndS X CL cl (.Raise (some (.Call (.Name x p) [.Constant (.str m) j p2] [] pos)) none pos2) (sRaise x) := fun W tk po => by
  refine ps_imp (ps_raise hc tk (pmk_own PySem.F.excBase_ValueError q gC kC (raises_own h1 h2) hg hdb)) fun D σ H h => ?_
  obtain ⟨mu, r, M, hm, hs, p⟩ := h
  exact p mu H σ C hCL Stp.refl hm hs
theorem pss_some {A : Type} {t : A → TS} {P : A → Prop} (h : ∀ y, P y → PSs X sts (t y)) : PSs X sts (fun D σ H => ∃ y, P y ∧ t y D σ H) := ⟨fun pins s σ H D I ⟨y, py, q⟩ => (h y py).run pins s σ H D I q⟩
abbrev Wno : WX := fun _ _ _ _ => False
theorem stm_try {i : Nat} {x n : Str} {cv : Value} {b0 : Stmt} {cat : Str → Bool} {su : Str → SS} {np pos' : Pos} (hs : X.stack = X.env :: X.outer) (hf : X.env.frame = some X.env.locals) (hN : X.N.Nodup) (hi : X.N[i]? = some n) (hln : X.env.kindOf n = some .local) (hc : Names X x cv)
    (hcat : ∀ c C, CL c = some C → PySem.W.exmOne X.K (.ref C) cv = some (cat c))
    (hb : ∀ (pn : List (Addr × Obj)) (xe : Value → Shared → Prop), SndB (X.tr pn xe) CL cl sts u)
    (hsu : ∀ (a : Addr) (oe : Obj) (c : Str) (C : Addr) (d : Option Addr) (pn : List (Addr × Obj)), CL c = some C → Zc (.ref C) d oe → (∃ vs, oe.data = .fields vs) → PSs (X.suite a ((a, oe) :: pn)) (b0 :: stt) (rS X.K CL Wno cl (su c))) :
    SndS X CL cl (.Try sts [.ExceptHandler (some (.Name x np)) (some n) (b0 :: stt) pos'] [] [] pos) (sTry (some i) u cat su) := fun W tk po => by
  refine ps_imp (ps_try_as (ts := fun a cls d => fun D σ H => ∃ y : Str, (∃ C, CL y = some C ∧ cls = .ref C) ∧ rS X.K CL Wno cl (su y) D σ H) (tb := fun W' => rS X.K CL W' cl u) hs hf hN hi hln hc tk (fun W' pn xe tk' po' => hb pn xe W' tk' po') fun a oe cls d pn hz hd => pss_some fun y hy => ?_) fun D σ H h => ?_
  · obtain ⟨C, h1, rfl⟩ := hy
    exact hsu a oe y C d pn h1 hz hd
  · obtain ⟨mu, r, M, hm, hs, p⟩ := h
    refine ⟨mu, r, M, hm, hs, ?_⟩
    unfold sTry at p
    cases e : u cl r M with
    | nx r1 M1 => rw [e] at p; exact p
    | ret y M1 => rw [e] at p; exact p
    | bad => rw [e] at p; exact p
    | err c r1 M1 =>
      rw [e] at p
      intro mu' H' σ' C hC st R' S'
      refine ⟨cat c, hcat c C hC, fun hb2 a na => ⟨c, ⟨C, hC, rfl⟩, mu', gone (some i) r1, M1, R', S'.gone i, ?_⟩, fun hb2 => ?_⟩
      · simp only [hb2, if_true] at p
        cases e2 : su c cl (gone (some i) r1) M1 with
        | nx r2 M2 =>
          rw [e2] at p
          exact fun mu3 H3 σ3 s3 R3 q3 => p mu3 H3 _ (st.trans s3 R') R3 (q3.gone i)
        | ret y M2 => rw [e2] at p; exact PsS.from (res := .ret y M2) p st R'
        | err c2 r2 M2 => rw [e2] at p; exact p.elim
        | bad => rw [e2] at p; exact p
      · simp only [hb2, Bool.false_eq_true, if_false] at p
        exact p mu' H' σ' C hC st R' S'
end
end MI
end
section
set_option Elab.async false
set_option linter.all false
set_option maxRecDepth 100000
set_option maxHeartbeats 4000000
namespace MI
open PySem PySem.Spec PyProof.Rows L2
section
variable {K : PySem.W.Frag} {CL : CLs} {W : WX} {σ : Sg} {mu mu1 mu0 : List Addr} {H H0 H1 : Hp} {M M1 : Mem} {r : Env} {cl : Cl}
/-! ### a list of our own is written -/
theorem SqT.updL {a Da : Addr} {vs as bs : List V} (hD : H Da = some (.lst as)) (h : SqT K H a vs) : SqT K (upd H Da (.lst bs)) a vs := by
  rcases h with (h | ⟨o, h⟩) | h
  · exact .inl (.inl (by rw [upd_ne (ne_of h hD nofun)]; exact h))
  · exact .inl (.inr ⟨o, by rw [upd_ne (ne_of h hD nofun)]; exact h⟩)
  · exact .inr h
theorem SqF.updL {a Da : Addr} {vs as bs : List V} (hD : H Da = some (.lst as)) (h : SqF K H a vs) : SqF K (upd H Da (.lst bs)) a vs := by
  rcases h with ⟨o, h⟩ | h
  · exact .inl ⟨o, by rw [upd_ne (ne_of h hD nofun)]; exact h⟩
  · exact .inr h
mutual
theorem Rv.updL {Da : Addr} {as bs : List V} (hD : H Da = some (.lst as)) : ∀ {d : D} {v : V}, Rv K mu H d v → Rv K mu (upd H Da (.lst bs)) d v
  | .non, _, h => h
  | .bl _, _, h => h
  | .int _, _, h => h
  | .str _, _, h => h
  | .tup ds, _, ⟨a, vs, e, h, q⟩ => ⟨a, vs, e, SqT.updL hD h, Rvs.updL hD q⟩
  | .hdl n, _, h => h
  | .ro ds, _, ⟨a, vs, e, h, q⟩ => ⟨a, vs, e, SqF.updL hD h, Rvs.updL hD q⟩
theorem Rvs.updL {Da : Addr} {as bs : List V} (hD : H Da = some (.lst as)) : ∀ {ds : List MI.D} {vs : List V}, Rvs K mu H ds vs → Rvs K mu (upd H Da (.lst bs)) ds vs
  | [], _, h => h
  | _ :: _, _, ⟨v, r, e, h, q⟩ => ⟨v, r, e, Rv.updL hD h, Rvs.updL hD q⟩
end
theorem Rfs.updL {Da : Addr} {as bs : List V} (hD : H Da = some (.lst as)) : ∀ {ds : List (Str × MI.D)} {vs : List (Str × V)}, Rfs K mu H ds vs → Rfs K mu (upd H Da (.lst bs)) ds vs
  | [], _, h => h
  | _ :: _, _, ⟨v, r, e, h, q⟩ => ⟨v, r, e, h.updL hD, Rfs.updL hD q⟩
theorem Rdt.updL {Da : Addr} {as bs : List V} (hD : H Da = some (.lst as)) : ∀ {ds : List (MI.D × MI.D)} {vs : List Ent}, Rdt K mu H ds vs → Rdt K mu (upd H Da (.lst bs)) ds vs
  | [], _, h => h
  | _ :: _, _, ⟨kv, b, u, v, r, e, h0, h, h2, h3, h4, q⟩ => ⟨kv, b, u, v, r, e, h0, h.updL hD, h2, h3, h4.updL hD, Rdt.updL hD q⟩
theorem Rm.updL {Da : Addr} {as bs : List V} (hD : H Da = some (.lst as)) (R : Rm K CL mu H M) (n : Da ∉ mu) : Rm K CL mu (upd H Da (.lst bs)) M := by
  refine ⟨R.len, R.nd, fun m a o e1 e2 => ?_⟩
  have na : a ≠ Da := fun e => n (e ▸ List.mem_of_getElem? e1)
  have h := R.ob m a o e1 e2
  cases o with
  | lst ds => obtain ⟨vs, e, q⟩ := h; exact ⟨vs, by rw [upd_ne na]; exact e, q.updL hD⟩
  | dic fz kvs => obtain ⟨vs, e, q⟩ := h; exact ⟨vs, e.at (upd_ne na), q.updL hD⟩
  | ins c fs => obtain ⟨C, dx, fs', c', e, q⟩ := h; exact ⟨C, dx, fs', c', by rw [upd_ne na]; exact e, q.updL hD⟩
theorem Stp.updL {Da : Addr} {u : HO} (s : Stp mu1 H1 mu H) (n : H1 Da = none) : Stp mu1 H1 mu (upd H Da u) :=
  ⟨s.pre, s.new, fun a o e na => by rw [upd_ne (ne_of_none e n)]; exact s.keep a o e na, fun a od v e => by rw [upd_ne (ne_of_none e n)]; exact s.frz a od v e⟩
/-! ### the slots that are forgotten -/
theorem wipe_at (σ : Sg) (vs : List Nat) (j : Nat) : (L2.wipe σ vs)[j]? = if j ∈ vs then (σ[j]?).map (fun _ => none) else σ[j]? := by
  induction vs with
  | nil => simp [L2.wipe]
  | cons v vs ih =>
    show ((L2.wipe σ vs).set v none)[j]? = _
    by_cases h : v = j
    · subst h
      simp only [List.mem_cons, true_or, if_true]
      rw [List.getElem?_set]
      simp only [if_true, wipe_length]
      by_cases hl : v < σ.length
      · simp [hl]
      · simp [hl]
    · rw [List.getElem?_set_ne h, ih]
      have : (j ∈ v :: vs) ↔ (j ∈ vs) := by rw [List.mem_cons]; exact ⟨fun z => z.elim (fun e => absurd e.symm h) id, .inr⟩
      simp only [this]
theorem wipe_set {σ : Sg} {vs : List Nat} {i : Nat} {x : Option V} (h : i ∈ vs) : L2.wipe (σ.set i x) vs = L2.wipe σ vs := by
  refine List.ext_getElem? fun j => ?_
  rw [wipe_at, wipe_at]
  by_cases hj : j ∈ vs
  · rw [if_pos hj, if_pos hj, List.getElem?_set]
    by_cases e : i = j
    · subst e
      by_cases hl : i < σ.length
      · simp [hl]
      · simp [hl]
    · rw [if_neg e]
  · rw [if_neg hj, if_neg hj, List.getElem?_set_ne (fun e => hj (by rw [← e]; exact h))]
theorem wipe_wipe (σ : Sg) (vs : List Nat) : L2.wipe (L2.wipe σ vs) vs = L2.wipe σ vs := by
  refine List.ext_getElem? fun j => ?_
  rw [wipe_at, wipe_at]
  by_cases hj : j ∈ vs
  · rw [if_pos hj, if_pos hj]; cases σ[j]? <;> rfl
  · rw [if_neg hj, if_neg hj]
def Tg.ix : Tg → List Nat
  | .nm i => [i]
  | .tp is => is
theorem gNames_wp {vs0 : List Nat} : ∀ (is : List Nat) (ds : List D) (vs : List V) (r r' : Env) (σ : Sg) (Q : Sg → Hp → Prop), (∀ i ∈ is, i ∈ vs0) → setAll is ds r = some r' → Rvs K mu H ds vs → Rst K mu H r σ → (∀ σ', Rst K mu H r' σ' → L2.wipe σ' vs0 = L2.wipe σ vs0 → Q σ' H) → gNames is vs σ H Q
  | [], [], vs, r, r', σ, Q, _, e, h, hs, q => by
    simp only [setAll, Option.some.injEq] at e
    subst e
    exact ⟨h, q σ hs rfl⟩
  | [], _ :: _, _, _, _, _, _, _, e, _, _, _ => by simp [setAll] at e
  | _ :: _, [], _, _, _, _, _, _, e, _, _, _ => by simp [setAll] at e
  | i :: is, d :: ds, vs, r, r', σ, Q, hi, e, h, hs, q => by
    obtain ⟨v, vr, e1, h1, h2⟩ := h
    exact ⟨v, vr, e1, gNames_wp is ds vr _ r' _ Q (fun j hj => hi j (List.mem_cons_of_mem _ hj)) (by simpa only [setAll] using e) h2 (hs.set h1) fun σ' a b => q σ' a (b.trans (wipe_set (hi i List.mem_cons_self)))⟩
theorem gTg_wp {vs0 : List Nat} (t : Tg) {d : D} {v : V} {r r' : Env} {σ : Sg} {Q : Sg → Hp → Prop} (hi : ∀ i ∈ t.ix, i ∈ vs0) (e : asg t d r = some r') (h : Rv K mu H d v) (hs : Rst K mu H r σ) (q : ∀ σ', Rst K mu H r' σ' → L2.wipe σ' vs0 = L2.wipe σ vs0 → Q σ' H) : gTg K t v σ H Q := by
  cases t with
  | nm i =>
    simp only [asg, Option.some.injEq] at e
    subst e
    exact q _ (hs.set h) (wipe_set (hi i List.mem_cons_self))
  | tp is =>
    cases d with
    | tup ds =>
      have hlen : ∀ (is : List Nat) (ds : List D) (r r' : Env), setAll is ds r = some r' → is.length = ds.length := by
        intro is
        induction is with
        | nil => intro ds r r' e; cases ds with
          | nil => rfl
          | cons => simp [setAll] at e
        | cons i is ih => intro ds r r' e; cases ds with
          | nil => simp [setAll] at e
          | cons d ds => simp only [setAll] at e; simp only [List.length_cons, ih _ _ _ e]
      obtain ⟨a, vs, rfl, h1, h2⟩ := h
      have e' : setAll is ds r = some r' := e
      exact ⟨a, vs, rfl, h1, by rw [← h2.length, hlen is ds r r' e'], gNames_wp is ds vs r r' σ Q hi e' h2 hs q⟩
    | _ => simp [asg] at e
end
section
variable {X : Cx} {CL : CLs} {cl : Cl} {W : WX}
theorem lc_read {selt : SE} {stst : STt} {t : Tg} {own : List Nat} {si : SI} (hi : ∀ i ∈ t.ix, i ∈ own) {σ : Sg} {H : Hp} {Q : VK} (h : rE X.K CL W cl (eComp selt stst t own si) σ H Q) :
    tLc (rI X.K CL W cl si) (gTg X.K t) (rT X.K CL Wno cl stst) (rE X.K CL Wno cl selt) own σ H Q := by
  obtain ⟨mu, r, M, hm, hs, p⟩ := h
  unfold tLc
  refine ⟨mu, r, M, hm, hs, ?_⟩
  unfold eComp at p
  refine p.bindB.mono fun x M1 mu1 H1 st1 R1 p1 J wk D nD => ?_
  obtain ⟨xs, c⟩ := x
  have S1 : Rst X.K mu1 H1 r σ := hs.stp hm st1
  have dD : D ∉ mu1 := R1.fresh nD
  refine ⟨fun i m H' => m = xs.length - i ∧ i ≤ xs.length ∧ ∃ mu' M' acc av, Rm X.K CL mu' H' M' ∧ Stp mu1 H1 mu' H' ∧ D ∉ mu' ∧ H' D = some (.lst av) ∧ Rvs X.K mu' H' acc av ∧
    Pst X.K CL W σ mu H (compL (selt cl) (stst cl) t c (MI.wipe r own) (xs.drop i) acc M') fun x _ mu' H' => ∀ v, Rr X.K CL mu' H' H x v → Q v H', ⟨xs.length, by simp, Nat.zero_le _, mu1, M1, [], [], R1.laid nD, Stp.laid R1 nD, dD, upd_same, rfl, p1⟩, ?_⟩
  rintro i m H' ⟨rfl, hle, mu', M', acc, av, R', st, nm, hD, ha, p'⟩
  by_cases hlt : i < xs.length
  · rw [List.drop_eq_getElem_cons hlt] at p'
    unfold compL at p'
    split at p'
    · rename_i ck
      split at p'
      · rename_i r1 ea
        obtain ⟨g1, g2⟩ := wk.go i xs[i] mu' H' M' (List.getElem?_eq_getElem hlt) st R' ck
        refine .inr ⟨g1, fun H2 => ∃ m', m' < xs.length - i ∧ (m' = xs.length - (i + 1) ∧ i + 1 ≤ xs.length ∧ ∃ mu' M' acc av, Rm X.K CL mu' H2 M' ∧ Stp mu1 H1 mu' H2 ∧ D ∉ mu' ∧ H2 D = some (.lst av) ∧ Rvs X.K mu' H2 acc av ∧
          Pst X.K CL W σ mu H (compL (selt cl) (stst cl) t c (MI.wipe r own) (xs.drop (i + 1)) acc M') fun x _ mu' H' => ∀ v, Rr X.K CL mu' H' H x v → Q v H'), fun _ z => z, fun y H2 hy => ?_⟩
        obtain ⟨s2, R2, hv⟩ := g2 y H2 hy
        have hD2 : H2 D = some (.lst av) := s2.keep _ _ hD nm
        have ha2 := ha.stp R' s2
        have S2 : Rst X.K mu' H2 (MI.wipe r own) (L2.wipe σ own) := (((S1.stp R1 st).stp R' s2)).wipe own
        refine gTg_wp t hi ea hv S2 fun σ2 S3 hw => ⟨hw.trans (wipe_wipe σ own), ?_⟩
        refine ⟨mu', r1, M', R2, S3, ?_⟩
        cases et : stst cl r1 M' with
        | err c M2 => rw [et] at p'; exact p'.elim
        | bad => rw [et] at p'; exact p'.elim
        | ok b M2 =>
          rw [et] at p'
          intro mu3 H3 s3 R3
          have hD3 : H3 D = some (.lst av) := s3.keep _ _ hD2 nm
          have nm3 : D ∉ mu3 := s3.out hD2 nm
          have ha3 := ha2.stp R2 s3
          have st3 : Stp mu1 H1 mu3 H3 := (st.trans s2 R').trans s3 R2
          cases b with
          | false =>
            simp only [Res.calm, Res.bind, Bool.false_eq_true, if_false] at p' ⊢
            exact ⟨xs.length - (i + 1), by omega, rfl, hlt, mu3, M2, acc, av, R3, st3, nm3, hD3, ha3, p'⟩
          | true =>
            simp only [Res.calm, Res.bind, if_true] at p' ⊢
            refine ⟨mu3, r1, M2, R3, S3.stp R2 s3, ?_⟩
            cases ee : selt cl r1 M2 with
            | err c M4 => rw [ee] at p'; exact p'.elim
            | bad => rw [ee] at p'; exact p'.elim
            | ok y M4 =>
              rw [ee] at p'
              intro mu4 H4 s4 R4 w hw
              have hD4 : H4 D = some (.lst av) := s4.keep _ _ hD3 nm3
              obtain ⟨tt, R5, s5, hb⟩ := R4.box hw s4
              have nm5 : D ∉ mu4 ++ tt := s5.out hD3 nm3
              have ha5 : Rvs X.K (mu4 ++ tt) H4 acc av := ha3.stp R3 s5
              simp only at p'
              split at p'
              · rename_i hl
                refine ⟨av, hD4, by rw [← ha5.length]; exact hl, xs.length - (i + 1), by omega, rfl, hlt, mu4 ++ tt, _, acc ++ [(MI.box y M4).1], av ++ [w], R5.updL hD4 nm5, (st3.trans s5 R3).updL nD, nm5, upd_same, (ha5.append (Rvs.one hb)).updL hD4, p'⟩
              · exact p'.elim
      · exact p'.elim
    · exact p'.elim
  · have e : i = xs.length := by omega
    subst e
    rw [List.drop_length] at p'
    unfold compL at p'
    split at p'
    · rename_i ck
      refine .inl ⟨wk.stop mu' H' M' st R' ck, ?_⟩
      exact p' mu' H' (st1.trans st R1) R' (.ref D) ⟨D, rfl, ⟨av, hD, ha⟩, nm, st1.free R1 nD⟩
    · exact p'.elim
theorem takes_no {X : Cx} : Takes X Wno := fun u s' ⟨_, _, _, _, _, _, _, _, _, _, _, _, _, _, _, _, w⟩ => w.elim
/-- a comprehension's tests -/
def SndTs (X : Cx) (CL : CLs) (cl : Cl) (ifs : List Expr) (s : STt) : Prop := PTs X ifs (rT X.K CL Wno cl s)
theorem tsnd_nil : SndTs X CL cl [] MI.tYes := ⟨fun pins s σ H Q I ⟨mu, r, M, hm, hs, p⟩ => (pts_nil (X := X)).run pins s σ H Q I (p.here hm)⟩
theorem tsnd_one {c : Expr} {s : STt} (h : SndT X CL cl c s) : SndTs X CL cl [c] s := pts_one (h Wno takes_no)
variable {elt tg iter : Expr} {ifs : List Expr} {scope : Scope} {own : List (Str × Nat)} {pos spos : Pos} {selt : SE} {stst : STt} {t : Tg} {si : SI}
abbrev Blk (X : Cx) (scope : Scope) (s : Shared) (H : Hp) (C : Addr) (cc : List (Str × Addr)) (fp : List Addr) : Cx := X.blk s H scope (compEnvC scope cc C X.env) fp
theorem snd_comp (hc : X.calm = true) (hN : X.N.Nodup) (hi : SndI X CL cl tg iter si) (ok : BlkOk X.N X.env.scope scope own) (hix : ∀ i ∈ t.ix, i ∈ own.map (·.2))
    (hg : ∀ s H C cc fp, SndTg (Blk X scope s H C cc fp) tg t) (ht : ∀ s H C cc fp, SndTs (Blk X scope s H C cc fp) CL cl ifs stst) (he : ∀ s H C cc fp, SndE (Blk X scope s H C cc fp) CL cl elt selt)
    (hs : ∀ x, foldedSetIterable iter X.env x = pure x) : SndE X CL cl (.ListComp elt [⟨tg, iter, ifs, 0⟩] scope pos) (eComp selt stst t (own.map (·.2)) si) := fun W tk =>
  pe_imp (pe_lc (g := gTg X.K t) (tt := rT X.K CL Wno cl stst) (te := rE X.K CL Wno cl selt) hc hN (hi W tk) ok hg ht (fun s H C cc fp => he s H C cc fp Wno takes_no) hs) fun σ H Q h => lc_read hix h
theorem stm_setComp {i : Nat} {y : Str} {py : Pos} (hc : X.calm = true) (hN : X.N.Nodup) (hy : X.N[i]? = some y) (hyl : X.env.scope.names.lookup y = some .local) (hsw : swapsWith (.ListComp elt [⟨tg, iter, ifs, 0⟩] scope pos) (some (.Name y py)) spos.line X.env = pure true)
    (hi : SndI X CL cl tg iter si) (ok : BlkOk X.N X.env.scope scope own) (hix : ∀ i ∈ t.ix, i ∈ own.map (·.2))
    (hg : ∀ s H C cc fp, SndTg (Blk X scope s H C cc fp) tg t) (ht : ∀ s H C cc fp, SndTs (Blk X scope s H C cc fp) CL cl ifs stst) (he : ∀ s H C cc fp, SndE (Blk X scope s H C cc fp) CL cl elt selt)
    (hs : ∀ x, foldedSetIterable iter X.env x = pure x) : SndS X CL cl (.Assign [.Name y py] (.ListComp elt [⟨tg, iter, ifs, 0⟩] scope pos) spos) (sSet i (eComp selt stst t (own.map (·.2)) si)) := fun W tk po => by
  refine ps_imp (ps_setLc (g := gTg X.K t) (tt := rT X.K CL Wno cl stst) (te := rE X.K CL Wno cl selt) hc hN hy hyl hsw (hi W tk) ok hg ht (fun s H C cc fp => he s H C cc fp Wno takes_no) hs) fun D σ H h => ?_
  obtain ⟨mu, r, M, hm, hs, p⟩ := h
  refine lc_read hix (rE_stm hm hs Stp.refl p fun x v M1 mu1 H1 n1 h1 p1 => ?_)
  obtain ⟨tt, R2, s2, hv⟩ := n1.rm.box h1 n1.st
  exact p1.here s2 R2 ((n1.rs.ext tt).set hv)
end
end MI
end
section
set_option Elab.async false
set_option linter.all false
set_option maxRecDepth 100000
set_option maxHeartbeats 4000000
namespace MI
open PySem PySem.Spec PyProof.Rows L2
section
variable {K : PySem.W.Frag} {CL : CLs} {W : WX} {σ : Sg} {mu mu' mu1 mu0 : List Addr} {H H' H0 H1 : Hp} {M M' M1 : Mem} {r : Env} {cl : Cl}
/-! ### back to fewer handles -/
mutual
theorem Rv.bel : ∀ {d : D} {v : V}, Rv K mu H d v → d.bel mu.length = true
  | .non, _, _ | .bl _, _, _ | .int _, _, _ | .str _, _, _ => rfl
  | .tup ds, _, ⟨a, vs, e, h, q⟩ => Rvs.bel q
  | .ro ds, _, ⟨a, vs, e, h, q⟩ => Rvs.bel q
  | .hdl n, _, ⟨a, e, q⟩ => decide_eq_true (List.getElem?_eq_some_iff.mp e).1
theorem Rvs.bel : ∀ {ds : List D} {vs : List V}, Rvs K mu H ds vs → D.bels mu.length ds = true
  | [], _, _ => rfl
  | _ :: _, _, ⟨v, r, e, h, q⟩ => by
    unfold D.bels
    rw [Rv.bel h, Rvs.bel q]; rfl
end
theorem Rfs.bel : ∀ {ds : List (Str × D)} {vs : List (Str × V)}, Rfs K mu H ds vs → (ds.all fun f => f.2.bel mu.length) = true
  | [], _, _ => rfl
  | _ :: _, _, ⟨v, r, e, h, q⟩ => by rw [List.all_cons, h.bel, Rfs.bel q]; rfl
theorem Rdt.bel : ∀ {ds : List (D × D)} {vs : List Ent}, Rdt K mu H ds vs → (ds.all fun kv => kv.1.bel mu.length && kv.2.bel mu.length) = true
  | [], _, _ => rfl
  | _ :: _, _, ⟨kv, b, u, v, r, e, h0, h, h2, h3, h4, q⟩ => by rw [List.all_cons, h.bel, h4.bel, Rdt.bel q]; rfl
theorem Ro.bel {o : O} {a : Addr} (h : Ro K CL mu H o a) : o.bel mu.length = true := by
  cases o with
  | lst ds => obtain ⟨vs, e, q⟩ := h; exact q.bel
  | dic fz kvs => obtain ⟨vs, e, q⟩ := h; exact q.bel
  | ins c fs => obtain ⟨C, dx, fs', c', e, q⟩ := h; exact q.bel
mutual
theorem Rv.back {t : List Addr} : ∀ {d : D} {v : V}, Rv K (mu ++ t) H d v → d.bel mu.length = true → Rv K mu H d v
  | .non, _, h, _ => h
  | .bl _, _, h, _ => h
  | .int _, _, h, _ => h
  | .str _, _, h, _ => h
  | .tup ds, _, ⟨a, vs, e, h, q⟩, b => ⟨a, vs, e, h, Rvs.back q b⟩
  | .ro ds, _, ⟨a, vs, e, h, q⟩, b => ⟨a, vs, e, h, Rvs.back q b⟩
  | .hdl n, _, ⟨a, e, q⟩, b => ⟨a, by rw [← e, List.getElem?_append_left (of_decide_eq_true b)], q⟩
theorem Rvs.back {t : List Addr} : ∀ {ds : List D} {vs : List V}, Rvs K (mu ++ t) H ds vs → D.bels mu.length ds = true → Rvs K mu H ds vs
  | [], _, h, _ => h
  | _ :: _, _, ⟨v, r, e, h, q⟩, b => by
    simp only [D.bels, Bool.and_eq_true] at b
    exact ⟨v, r, e, Rv.back h b.1, Rvs.back q b.2⟩
end
theorem Rfs.back {t : List Addr} : ∀ {ds : List (Str × D)} {vs : List (Str × V)}, Rfs K (mu ++ t) H ds vs → (ds.all fun f => f.2.bel mu.length) = true → Rfs K mu H ds vs
  | [], _, h, _ => h
  | _ :: _, _, ⟨v, r, e, h, q⟩, b => by
    simp only [List.all_cons, Bool.and_eq_true] at b
    exact ⟨v, r, e, h.back b.1, Rfs.back q b.2⟩
theorem Rdt.back {t : List Addr} : ∀ {ds : List (D × D)} {vs : List Ent}, Rdt K (mu ++ t) H ds vs → (ds.all fun kv => kv.1.bel mu.length && kv.2.bel mu.length) = true → Rdt K mu H ds vs
  | [], _, h, _ => h
  | _ :: _, _, ⟨kv, b, u, v, r, e, h0, h, h2, h3, h4, q⟩, bb => by
    simp only [List.all_cons, Bool.and_eq_true] at bb
    exact ⟨kv, b, u, v, r, e, h0, h.back bb.1.1, h2, h3, h4.back bb.1.2, Rdt.back q (by simpa only [Bool.and_eq_true] using bb.2)⟩
theorem Ro.back {t : List Addr} {o : O} {a : Addr} (h : Ro K CL (mu ++ t) H o a) (b : o.bel mu.length = true) : Ro K CL mu H o a := by
  cases o with
  | lst ds => obtain ⟨vs, e, q⟩ := h; exact ⟨vs, e, q.back b⟩
  | dic fz kvs => obtain ⟨vs, e, q⟩ := h; exact ⟨vs, e, q.back b⟩
  | ins c fs => obtain ⟨C, dx, fs', c', e, q⟩ := h; exact ⟨C, dx, fs', c', e, q.back b⟩
theorem Stp.back (s : Stp mu H mu' H') : Stp mu H mu H' := ⟨⟨[], by simp⟩, fun a h => .inl h, s.keep, s.frz⟩
theorem Rm.back (R : Rm K CL mu H M) (s : Stp mu H mu' H') (R' : Rm K CL mu' H' M') (e : M'.take M.length = M) : Rm K CL mu H' M := by
  refine ⟨R.len, R.nd, fun n a o e1 e2 => ?_⟩
  obtain ⟨t, q⟩ := s.pre
  have hn : n < M.length := (List.getElem?_eq_some_iff.mp e2).1
  have e3 : M'[n]? = some o := by
    rw [← e, List.getElem?_take] at e2
    simpa only [if_pos hn] using e2
  have h := R'.ob n a o (s.get e1) e3
  rw [q] at h
  exact h.back (R.ob n a o e1 e2).bel
/-- what is handed back -/
theorem fin_ok {m : Mode} {x : RV} {k : RV → Mem → List Addr → Hp → Prop} (R : Rm K CL mu H M) (h : Pst K CL W σ mu H (fin m M x M') k) (s : Stp mu H mu' H') (R' : Rm K CL mu' H' M') {v : V} (hv : Rr K CL mu' H' H x v) :
    ∃ y M2 mu2, Stp mu H mu2 H' ∧ Rm K CL mu2 H' M2 ∧ Rr K CL mu2 H' H y v ∧ k y M2 mu2 H' := by
  cases m with
  | keep => exact ⟨x, M', mu', s, R', hv, h mu' H' s R'⟩
  | pure =>
    unfold fin at h
    simp only at h
    split at h
    · rename_i e
      have R2 := R.back s R' e
      have s2 := s.back
      obtain ⟨t, q⟩ := s.pre
      have go : ∀ y : RV, Pst K CL W σ mu H (.ok y M) k → Rr K CL mu H' H y v → ∃ y M2 mu2, Stp mu H mu2 H' ∧ Rm K CL mu2 H' M2 ∧ Rr K CL mu2 H' H y v ∧ k y M2 mu2 H' := fun y hy hr => ⟨y, M, mu, s2, R2, hr, hy mu H' s2 R2⟩
      split at h
      · rename_i n
        split at h
        · rename_i hn
          obtain ⟨a, e1, e2⟩ := hv
          refine go _ h ⟨a, ?_, e2⟩
          rw [q, List.getElem?_append_left (by rw [R.len]; exact hn)] at e1
          exact e1
        · rename_i hn
          split at h
          · rename_i o eo
            split at h
            · rename_i hb
              obtain ⟨a, e1, e2⟩ := hv
              have ho := R'.ob n a o e1 eo
              rw [q] at ho
              have na : a ∉ mu := fun ha => by
                obtain ⟨i, hi, ei⟩ := List.mem_iff_getElem.mp ha
                have e3 : mu'[i]? = some a := by rw [q, List.getElem?_append_left hi, List.getElem?_eq_getElem hi, ei]
                obtain ⟨h1, q1⟩ := List.getElem?_eq_some_iff.mp e1
                obtain ⟨h2, q2⟩ := List.getElem?_eq_some_iff.mp e3
                have : n = i := (List.getElem_inj R'.nd).mp (q1.trans q2.symm)
                rw [this, ← R.len] at hn
                exact hn hi
              refine go _ h ⟨a, e2, ho.back (by rw [R.len]; exact hb), na, ?_⟩
              exact (s.new a (List.mem_of_getElem? e1)).resolve_left na
            · exact h.elim
          · exact h.elim
      · rename_i d _
        split at h
        · rename_i hb
          refine go _ h ?_
          have hv' : Rv K mu' H' d v := hv
          rw [q] at hv'
          exact hv'.back (by rw [R.len]; exact hb)
        · exact h.elim
      · rename_i o
        split at h
        · rename_i hb
          obtain ⟨a, e1, h1, h2, h3⟩ := hv
          rw [q] at h1 h2
          exact go _ h ⟨a, e1, h1.back (by rw [R.len]; exact hb), fun z => h2 (List.mem_append_left _ z), h3⟩
        · exact h.elim
    · exact h.elim
/-- a function's body, run: its end is the promise's -/
theorem body_ok {m : Mode} {res : SR} {Q : VK} {E : XK} (R : Rm K CL mu H M) (h : Pst K CL (fun c d _ H' => E c d H') σ mu H (finS m M res) fun x _ mu' H' => ∀ v, Rr K CL mu' H' H x v → Q v H') :
    PsS K CL (fun c d _ H' => E c d H') mu H res { nx := fun _ H' => Q .non H', rt := Q } := by
  cases res with
  | nx r M' =>
    intro mu' H' σ' s R' _
    obtain ⟨y, M2, mu2, a, b, c, d⟩ := fin_ok R h s R' (x := .d .non) (v := .non) rfl
    exact d _ c
  | ret x M' =>
    intro mu' H' v s R' hv
    obtain ⟨y, M2, mu2, a, b, c, d⟩ := fin_ok R h s R' hv
    exact d _ c
  | err c r M' =>
    intro mu' H' σ' C hC s R' _
    cases m with
    | keep => exact h mu' H' C hC s R'
    | pure =>
      unfold finS at h
      simp only at h
      split at h
      · rename_i e
        exact h mu H' C hC s.back (R.back s R' e)
      · exact h.elim
  | bad => exact h
theorem Rst.start {ds : List D} {vs : List V} {ns : Nat} {N : List Str} (h : Rvs K mu H ds vs) (hN : N.length = ns) : Rst K mu H (ds.map some ++ List.replicate (ns - ds.length) none) (L2.start N vs) := by
  have hl := h.length
  refine ⟨by simp [L2.start, hN, hl], fun i d e => ?_⟩
  by_cases hi : i < ds.length
  · rw [List.getElem?_append_left (by simpa using hi), List.getElem?_map] at e
    obtain ⟨d', e1, e2⟩ := Option.map_eq_some_iff.mp e
    have e3 : d' = d := Option.some.inj e2
    subst e3
    obtain ⟨v, h1, h2⟩ := h.get e1
    refine ⟨v, ?_, h2⟩
    unfold L2.start
    rw [List.getElem?_append_left (by simpa [← hl] using hi), List.getElem?_map, h1]
    rfl
  · rw [List.getElem?_append_right (by simpa using hi)] at e
    obtain ⟨_, e1⟩ := List.getElem?_eq_some_iff.mp e
    simp at e1
end
/-! ### a def keeps its promise -/
section
variable {P : Program} {w : World} {K : PySem.W.Frag} {mg : Str → Option Value} {base : Heap} {CL : CLs}
/-- the context in which a def's body stands -/
abbrev CxF (P : Program) (w : World) (K : PySem.W.Frag) (mg : Str → Option Value) (base : Heap) (N : List Str) (qual : Str) (sc : Scope) (f : Addr) (cdv : Value) (A : Around) (outer : List PySem.Env) (s : Shared) (H : Hp) (E : XK) : Cx := cxOf (CX P w) P w K mg base N qual sc f cdv A outer s H E
theorem fn_ok {T : Tab} {n : Nat} {x name qual : Str} {st : Stmt} {F : Fn} {f : Addr} {fd : FuncData} {N ps : List Str} (FF : Fun K name qual st f fd) (S : FnScope N ps (defScope st)) (hT : T.lookup x = some F) (har : F.ar = ps.length) (hns : N.length = F.ns)
    (snd : ∀ (cdv : Value) (A : Around) (outer : List PySem.Env) (s : Shared) (H : Hp) (E : XK), Room n (A.deeper (envOfC qual (defScope st) s.heap.objs.size f cdv)) →
      SndB (CxF P w K mg base N qual (defScope st) f cdv A outer s H E) CL (run T n) (defBody st) F.body) :
    FnOk P w K mg base (CX P w) (n + 1) f fd ps (spOf K CL (run T (n + 1)) x F.ar) := by
  refine FF.okX S (fun vs H Q E h => by rw [← har]; exact h.1) fun cdv A outer s H vs Q E hr hsp => ?_
  obtain ⟨hl, mu, ds, M, R, q, h⟩ := hsp
  refine ⟨rS K CL (fun c d _ H' => E c d H') (run T n) F.body, snd cdv A outer s H E hr _ (takes_of rfl rfl rfl rfl) (passes_of rfl), mu, _, M, R, Rst.start q hns, ?_⟩
  refine body_ok (σ := []) (m := F.mode) R ?_
  have hl2 : ds.length = F.ar := by have := q.length; have hh : vs.length = F.ar := hl; omega
  simp only [run, hT, Fn.run, if_pos hl2] at h
  exact h
end
end MI
end
section
set_option Elab.async false
set_option linter.all false
set_option maxRecDepth 100000
set_option maxHeartbeats 4000000
/-! MId: displays of dicts -/
namespace MI
open PySem PySem.Spec PyProof.Rows L2
section
variable {K : PySem.W.Frag} {CL : CLs} {mu mu1 : List Addr} {H H1 : Hp} {M : Mem}
theorem ne_mut {a Da : Addr} {u u0 : HO} (h : H a = some u) (n : isMut u = false) (hD : H Da = some u0) (hm : isMut u0 = true) : a ≠ Da := fun e => by
  subst e; rw [h] at hD; cases hD; rw [n] at hm; cases hm
theorem SqT.updM {a Da : Addr} {vs : List V} {u0 u : HO} (hD : H Da = some u0) (hm : isMut u0 = true) (h : SqT K H a vs) : SqT K (upd H Da u) a vs := by
  rcases h with (h | ⟨o, h⟩) | h
  · exact .inl (.inl (by rw [upd_ne (ne_mut h rfl hD hm)]; exact h))
  · exact .inl (.inr ⟨o, by rw [upd_ne (ne_mut h rfl hD hm)]; exact h⟩)
  · exact .inr h
theorem SqF.updM {a Da : Addr} {vs : List V} {u0 u : HO} (hD : H Da = some u0) (hm : isMut u0 = true) (h : SqF K H a vs) : SqF K (upd H Da u) a vs := by
  rcases h with ⟨o, h⟩ | h
  · exact .inl ⟨o, by rw [upd_ne (ne_mut h rfl hD hm)]; exact h⟩
  · exact .inr h
mutual
theorem Rv.updM {Da : Addr} {u0 u : HO} (hD : H Da = some u0) (hm : isMut u0 = true) : ∀ {d : D} {v : V}, Rv K mu H d v → Rv K mu (upd H Da u) d v
  | .non, _, h => h
  | .bl _, _, h => h
  | .int _, _, h => h
  | .str _, _, h => h
  | .tup ds, _, ⟨a, vs, e, h, q⟩ => ⟨a, vs, e, SqT.updM hD hm h, Rvs.updM hD hm q⟩
  | .hdl n, _, h => h
  | .ro ds, _, ⟨a, vs, e, h, q⟩ => ⟨a, vs, e, SqF.updM hD hm h, Rvs.updM hD hm q⟩
theorem Rvs.updM {Da : Addr} {u0 u : HO} (hD : H Da = some u0) (hm : isMut u0 = true) : ∀ {ds : List MI.D} {vs : List V}, Rvs K mu H ds vs → Rvs K mu (upd H Da u) ds vs
  | [], _, h => h
  | _ :: _, _, ⟨v, r, e, h, q⟩ => ⟨v, r, e, Rv.updM hD hm h, Rvs.updM hD hm q⟩
end
theorem Rfs.updM {Da : Addr} {u0 u : HO} (hD : H Da = some u0) (hm : isMut u0 = true) : ∀ {ds : List (Str × MI.D)} {vs : List (Str × V)}, Rfs K mu H ds vs → Rfs K mu (upd H Da u) ds vs
  | [], _, h => h
  | _ :: _, _, ⟨v, r, e, h, q⟩ => ⟨v, r, e, h.updM hD hm, Rfs.updM hD hm q⟩
theorem Rdt.updM {Da : Addr} {u0 u : HO} (hD : H Da = some u0) (hm : isMut u0 = true) : ∀ {ds : List (MI.D × MI.D)} {vs : List Ent}, Rdt K mu H ds vs → Rdt K mu (upd H Da u) ds vs
  | [], _, h => h
  | _ :: _, _, ⟨kv, b, w, v, r, e, h0, h, h2, h3, h4, q⟩ => ⟨kv, b, w, v, r, e, h0, h.updM hD hm, h2, h3, h4.updM hD hm, Rdt.updM hD hm q⟩
theorem Rm.updM {Da : Addr} {u0 u : HO} (hD : H Da = some u0) (hm : isMut u0 = true) (R : Rm K CL mu H M) (n : Da ∉ mu) : Rm K CL mu (upd H Da u) M := by
  refine ⟨R.len, R.nd, fun m a o e1 e2 => ?_⟩
  have na : a ≠ Da := fun e => n (e ▸ List.mem_of_getElem? e1)
  have h := R.ob m a o e1 e2
  cases o with
  | lst ds => obtain ⟨vs, e, q⟩ := h; exact ⟨vs, by rw [upd_ne na]; exact e, q.updM hD hm⟩
  | dic fz kvs => obtain ⟨vs, e, q⟩ := h; exact ⟨vs, e.at (upd_ne na), q.updM hD hm⟩
  | ins c fs => obtain ⟨C, dx, fs', c', e, q⟩ := h; exact ⟨C, dx, fs', c', by rw [upd_ne na]; exact e, q.updM hD hm⟩
end
def flatV2 : List (V × V) → List V
  | [] => []
  | p :: r => p.1 :: p.2 :: flatV2 r
section
variable {X : Cx} {CL : CLs} {cl : Cl}
theorem pairUp_ok {K : PySem.W.Frag} {P : Program} {w : World} {mu : List Addr} {H : Hp} : ∀ (ps : List (V × V)) (ws : List (Value × Value)) (ds : List D) (acc kvs : List (D × D)) (acc' : List Ent), VV ps ws → Rvs K mu H ds (flatV2 ps) → Rdt K mu H acc acc' → (acc.all fun p => isSk p.1) = true → pairUp ds acc = some kvs →
    ∃ (rs : List (NestedKey × Value)) (zs : List Ent), Carries (flatKind P w) ws rs ∧ Rdt K mu H kvs zs ∧ merged (xsS acc') rs = xsS zs ∧ (kvs.all fun p => isSk p.1) = true ∧ zs.length ≤ acc'.length + ps.length
  | [], ws, ds, acc, kvs, acc', hv, h, ha, al, e => by
    cases hv
    cases ds with
    | nil => simp only [pairUp] at e; cases e; exact ⟨[], acc', trivial, ha, rfl, al, Nat.le_refl _⟩
    | cons d ds => obtain ⟨v, r, e1, _⟩ := h; simp [flatV2] at e1
  | p :: ps, ws, ds, acc, kvs, acc', hv, h, ha, al, e => by
    cases ds with
    | nil => have : flatV2 (p :: ps) = [] := h; simp [flatV2] at this
    | cons d ds =>
      obtain ⟨v, r, e1, h1, h2⟩ := h
      cases ds with
      | nil => have h3 : r = [] := h2; subst h3; simp [flatV2] at e1
      | cons d2 ds =>
        obtain ⟨v2, r2, e2, h3, h4⟩ := h2
        subst e2
        simp only [flatV2, List.cons.injEq] at e1
        obtain ⟨q1, q2, q3⟩ := e1
        simp only [pairUp] at e
        split at e
        · rename_i hk
          cases hv with
          | @cons _ wv _ ws hw tw =>
            obtain ⟨w1, w2⟩ := wv
            have hw1 : RelV v w1 := by rw [← q1]; exact hw.1
            have hw2 : RelV v2 w2 := by rw [← q2]; exact hw.2
            have rp := ha.put (.inl hk) hw1 h1 hw2 h3
            obtain ⟨rs, zs, z1, z2, z3, z4, z5⟩ := pairUp_ok ps ws ds _ kvs _ tw (q3 ▸ h4) rp (dput_all al hk) e
            refine ⟨(toNk d, w2) :: rs, zs, ⟨sk_is hk h1 hw1, rfl, z1⟩, z2, ?_, z4, ?_⟩
            · rw [← z3]
              show merged (stored (xsS acc') (toNk d) w2) rs = _
              rw [S_store acc' (toNk d) w1 w2]
            · have := eStore_len acc' (toNk d) w1 w2
              simp only [List.length_cons]; omega
        · cases e
/-- {k: v, ..}; the new dict stands empty while the pairs are made -/
def tDispF (K : PySem.W.Frag) (w : World) (trs : List (TE × TE)) : TE := fun σ H Q => ∀ p, H p = none → tPairs trs σ (upd H p (dictO w p [])) fun ps H2 => H2 p = some (dictO w p []) ∧ ∃ mu ds kvs, Rvs K mu H2 ds (flatV2 ps) ∧ pairUp ds [] = some kvs ∧ ps.length ≤ 15 ∧ ∀ zs, Rdt K mu H2 kvs zs → Q (.ref p) (upd H2 p (dictO w p zs))
theorem pe_dispF {X : Cx} {w : World} (hw : w = X.w) {pos : Pos} {keys : List (Option Expr)} {values : List Expr} {trs : List (TE × TE)} (h : PPs X pos keys values trs) (hall : keys.all (·.isSome) = true) (hl : keys.length = values.length) (h0 : keys ≠ [])
    (h15 : keys.length ≤ 15) : PE X (.Dict keys values pos) (tDispF X.K w trs) := by
  subst hw
  refine ⟨fun pins s σ H Q I q => ?_⟩
  have hn := I.hok.fresh (Nat.le_refl s.heap.objs.size)
  have I1 := I.laid (a := s.heap.objs.size) (o := dictO X.w s.heap.objs.size []) (h' := s.heap.push { cls := .type "dict", data := .dict #[] }) (t' := s.toks) (fun _ _ q => Heap.get?_push_of_some _ q) (Nat.le_refl _)
    (dictO_ok ⟨⟨_, #[], 0, Heap.get?_push_size _ rfl, ⟨rfl, rfl, rfl⟩, rfl, rfl⟩, List.nodup_nil, beq_eq_false_iff_ne.mpr (Ne.symm (Nat.ne_of_lt I.big)), Nat.zero_le _⟩)
  refine wpAny_Dict_walk (knd := flatKind X.prog X.w) hall hl h0 h15 (thn (h.run pins _ σ _ _ I1 (q _ hn)) fun ws s2 ⟨ps, H2, I2, rel, e, mu, ds, kvs, hv, ep, h15', q2⟩ => ?_)
  obtain ⟨rs, zs, z1, z2, z3, z4, z5⟩ := pairUp_ok (P := X.prog) (w := X.w) ps ws ds [] kvs [] rel hv rfl rfl ep
  have d0 := lk_get (fz := false) I2 e
  refine ⟨rs, z1, d0.S (P := X.prog) (K := X.K) (H := H) (mu := mu) (ds := []) rfl rfl, fun h' m hs => ?_⟩
  obtain ⟨ys, y1, y2⟩ := left_S (t' := s2.toks + ws.length) I2 e d0.sy m hs z3 z2 z4 (by simp only [List.length_nil] at z5; rw [sizeLine_eq]; omega)
  exact ⟨.ref s.heap.objs.size, _, y2, rfl, q2 ys y1⟩
def trsOf (X : Cx) (CL : CLs) (cl : Cl) (W : WX) : List (SE × SE) → List (TE × TE)
  | [] => []
  | p :: r => (rE X.K CL W cl p.1, rE X.K CL W cl p.2) :: trsOf X CL cl W r
theorem pairs_go {W : WX} {σ : Sg} {mu0 : List Addr} {H00 : Hp} {A : Type} {k : A → Mem → List Addr → Hp → Prop} : ∀ (ps : List (SE × SE)) (f : List D → Mem → Res A) (mu : List Addr) (H : Hp) (r : Env) (M : Mem) (Q : List (V × V) → Hp → Prop), Rm X.K CL mu H M → Rst X.K mu H r σ → Stp mu0 H00 mu H →
    Pst X.K CL W σ mu0 H00 ((dPairs ps cl r M).bind f) k →
    (∀ ds vs M1 mu1 H1, Nxt X.K CL σ mu H r M1 mu1 H1 → Rvs X.K mu1 H1 ds (flatV2 vs) → Pst X.K CL W σ mu0 H00 (f ds M1) k → Q vs H1) → tPairs (trsOf X CL cl W ps) σ H Q
  | [], f, mu, H, r, M, Q, hm, hs, s0, p, q => q [] [] M mu H ⟨hm, hs, Stp.refl⟩ rfl p
  | pr :: ps, f, mu, H, r, M, Q, hm, hs, s0, p, q => by
    have p' : Pst X.K CL W σ mu0 H00 ((pr.1 cl r M).bind fun x M1 => (pr.2 cl r (box x M1).2).bind fun y M2 => (dPairs ps cl r (box y M2).2).bind fun ds M3 => f ((box x M1).1 :: (box y M2).1 :: ds) M3) k := by
      have e : ((dPairs (pr :: ps) cl r M).bind f) = ((pr.1 cl r M).bind fun x M1 => (pr.2 cl r (box x M1).2).bind fun y M2 => (dPairs ps cl r (box y M2).2).bind fun ds M3 => f ((box x M1).1 :: (box y M2).1 :: ds) M3) := by
        simp only [dPairs, dCons]
        cases pr.1 cl r M with
        | ok x M1 =>
          simp only [Res.bind]
          cases pr.2 cl r (box x M1).2 with
          | ok y M2 =>
            simp only []
            cases dPairs ps cl r (box y M2).2 <;> rfl
          | err => rfl
          | bad => rfl
        | err => rfl
        | bad => rfl
      rw [← e]; exact p
    refine rE_thenB hm hs s0 p' fun x v M1 mu1 H1 n1 h1 p1 => ?_
    obtain ⟨t1, R2, s2, hv⟩ := n1.rm.box h1 n1.st
    refine rE_thenB R2 (n1.rs.ext t1) (s0.trans s2 hm) p1 fun y u M3 mu3 H3 n3 h3 p3 => ?_
    obtain ⟨t2, R4, s4, hu⟩ := n3.rm.box h3 n3.st
    have s5 := s2.trans s4 R2
    refine pairs_go ps _ (mu3 ++ t2) H3 r _ _ R4 (n3.rs.ext t2) (s0.trans s5 hm) p3 fun ds vs M6 mu6 H6 n6 h6 p6 => ?_
    refine q _ ((v, u) :: vs) M6 mu6 H6 ⟨n6.rm, n6.rs, s5.trans n6.st R4⟩ (show Rvs X.K mu6 H6 (_ :: _ :: ds) (v :: u :: flatV2 vs) from ⟨v, _, rfl, (hv.stp R2 s4).stp R4 n6.st, u, _, rfl, hu.stp R4 n6.st, h6⟩) p6
/-- a display's text -/
inductive SndPs (X : Cx) (CL : CLs) (cl : Cl) : List (Option Expr) → List Expr → List (SE × SE) → Prop where
  | nil : SndPs X CL cl [] [] []
  | cons {k v : Expr} {sk sv : SE} {ks : List (Option Expr)} {vs : List Expr} {ps : List (SE × SE)} (hk : SndE X CL cl k sk) (hv : SndE X CL cl v sv) (hr : SndPs X CL cl ks vs ps) : SndPs X CL cl (some k :: ks) (v :: vs) ((sk, sv) :: ps)
theorem SndPs.pps {W : WX} (tk : Takes X W) {pos : Pos} {ks : List (Option Expr)} {vs : List Expr} {ps : List (SE × SE)} (h : SndPs X CL cl ks vs ps) : PPs X pos ks vs (trsOf X CL cl W ps) ∧ ks.all (·.isSome) = true ∧ ks.length = vs.length ∧ ks.length = ps.length := by
  induction h with
  | nil => exact ⟨pps_nil, rfl, rfl, rfl⟩
  | cons hk hv hr ih => exact ⟨pps_cons (hk W tk) (hv W tk) ih.1, by rw [List.all_cons, ih.2.1]; rfl, by simp [ih.2.2.1], by simp [ih.2.2.2]⟩
theorem snd_dic (hw : CL.w = X.w) {pos : Pos} {ks : List (Option Expr)} {vs : List Expr} {ps : List (SE × SE)} (h : SndPs X CL cl ks vs ps) (h0 : ks ≠ []) (h15 : ks.length ≤ 15) : SndE X CL cl (.Dict ks vs pos) (eDic (dPairs ps)) := fun W tk => by
  obtain ⟨z1, z2, z3, z4⟩ := h.pps tk (pos := pos)
  refine pe_imp (pe_dispF hw z1 z2 z3 h0 h15) fun σ H Q ⟨mu, r, M, hm, hs, p⟩ => fun a na => ?_
  have sa : Stp mu H mu (upd H a (dictO CL.w a [])) := Stp.laid hm na
  have Ra := hm.laid (u := dictO CL.w a []) na
  refine pairs_go ps _ mu _ r M _ Ra (hs.stp hm sa) sa p fun ds vs M1 mu1 H1 n1 h1 p1 => ?_
  split at p1
  · rename_i kvs e
    split at p1
    · rename_i hl
      have ha : H1 a = some (dictO CL.w a []) := n1.st.keep a _ upd_same (hm.fresh na)
      have na1 : a ∉ mu1 := n1.st.out upd_same (hm.fresh na)
      refine ⟨ha, mu1, ds, kvs, h1, e, ?_, fun zs rz => ?_⟩
      · have e1 : ds.length = 2 * vs.length := by
          rw [h1.length]
          have : ∀ l : List (V × V), (flatV2 l).length = 2 * l.length := fun l => by
            induction l with
            | nil => rfl
            | cons x l ih => simp only [flatV2, List.length_cons, ih]; omega
          exact this vs
        omega
      · have st2 : Stp mu H mu1 (upd H1 a (dictO CL.w a zs)) := (sa.trans n1.st Ra).updL na
        have R3 : Rm X.K CL mu1 (upd H1 a (dictO CL.w a zs)) M1 := n1.rm.updM ha rfl na1
        exact p1 mu1 _ st2 R3 (.ref a) ⟨a, rfl, ⟨zs, upd_same, rz.updM ha rfl⟩, na1, na⟩
    · exact p1.elim
  · exact p1.elim
end
end MI
end
section
set_option Elab.async false
set_option linter.all false
set_option maxRecDepth 100000
set_option maxHeartbeats 4000000
/-! MIe: more built-ins, methods, slices with a step, ranges -/
namespace MI
open PySem PySem.Spec PyProof.Rows L2
section
variable {K : PySem.W.Frag} {CL : CLs} {W : WX} {σ : Sg} {mu mu1 : List Addr} {H H0 H1 : Hp} {M M1 : Mem} {r : Env} {cl : Cl}
theorem maxL_mem : ∀ (l : List Int) (m : Int), maxL m l ∈ m :: l ∧ ∀ y ∈ m :: l, y ≤ maxL m l
  | [], m => ⟨List.mem_cons_self, fun y hy => by simp at hy; simp [maxL, hy]⟩
  | x :: r, m => by
    obtain ⟨h1, h2⟩ := maxL_mem r (if m < x then x else m)
    refine ⟨?_, fun y hy => ?_⟩
    · unfold maxL
      rcases List.mem_cons.mp h1 with e | h1
      · rw [e]; split <;> simp
      · exact List.mem_cons_of_mem _ (List.mem_cons_of_mem _ h1)
    · unfold maxL
      have h3 := h2 _ List.mem_cons_self
      rcases List.mem_cons.mp hy with e | hy
      · subst e; refine Int.le_trans ?_ h3; split <;> omega
      · rcases List.mem_cons.mp hy with e | hy
        · subst e; refine Int.le_trans ?_ h3; split <;> omega
        · exact h2 y (List.mem_cons_of_mem _ hy)
theorem minL_mem : ∀ (l : List Int) (m : Int), minL m l ∈ m :: l ∧ ∀ y ∈ m :: l, minL m l ≤ y
  | [], m => ⟨List.mem_cons_self, fun y hy => by simp at hy; simp [minL, hy]⟩
  | x :: r, m => by
    obtain ⟨h1, h2⟩ := minL_mem r (if x < m then x else m)
    refine ⟨?_, fun y hy => ?_⟩
    · unfold minL
      rcases List.mem_cons.mp h1 with e | h1
      · rw [e]; split <;> simp
      · exact List.mem_cons_of_mem _ (List.mem_cons_of_mem _ h1)
    · unfold minL
      have h3 := h2 _ List.mem_cons_self
      rcases List.mem_cons.mp hy with e | hy
      · subst e; refine Int.le_trans h3 ?_; split <;> omega
      · rcases List.mem_cons.mp hy with e | hy
        · subst e; refine Int.le_trans h3 ?_; split <;> omega
        · exact h2 y (List.mem_cons_of_mem _ hy)
theorem ok1_max1 : Ok1 K CL (rMax K) bMax1 := fun W σ mu H M x v Q R hx p => by
  unfold bMax1 at p
  split at p
  · rename_i ds e
    split at p
    · rename_i n ns e2
      obtain ⟨a, vs, rfl, h1, h2⟩ := lstOf_ok R hx e
      rw [asInts_eq e2] at h2
      have e3 := h2.ints
      subst e3
      refine ⟨a, n :: ns, rfl, h1, by simp, fun m hm hle => ?_⟩
      obtain ⟨z1, z2⟩ := maxL_mem ns n
      have : m = maxL n ns := Int.le_antisymm (z2 m hm) (hle _ z1)
      subst this
      exact end_d R p rfl
    · exact bad_end p
  · exact bad_end p
theorem ok1_min1 : Ok1 K CL (rMin K) bMin1 := fun W σ mu H M x v Q R hx p => by
  unfold bMin1 at p
  split at p
  · rename_i ds e
    split at p
    · rename_i n ns e2
      obtain ⟨a, vs, rfl, h1, h2⟩ := lstOf_ok R hx e
      rw [asInts_eq e2] at h2
      have e3 := h2.ints
      subst e3
      refine ⟨a, n :: ns, rfl, h1, by simp, fun m hm hle => ?_⟩
      obtain ⟨z1, z2⟩ := minL_mem ns n
      have : m = minL n ns := Int.le_antisymm (hle _ z1) (z2 m hm)
      subst this
      exact end_d R p rfl
    · exact bad_end p
  · exact bad_end p
theorem asBls_eq : ∀ {ds : List D} {bs : List Bool}, asBls ds = some bs → ds = bs.map D.bl
  | [], bs, h => by simp only [asBls, Option.some.injEq] at h; subst h; rfl
  | d :: ds, bs, h => by
    cases d with
    | bl b =>
      simp only [asBls, Option.map_eq_some_iff] at h
      obtain ⟨q, e, rfl⟩ := h
      rw [asBls_eq e]; rfl
    | _ => simp [asBls] at h
theorem Rvs.bls : ∀ {ns : List Bool} {vs : List V}, Rvs K mu H (ns.map D.bl) vs → vs = ns.map V.bl
  | [], _, h => h
  | n :: ns, _, ⟨v, r, e, h, t⟩ => by rw [e, show v = V.bl n from h, Rvs.bls t]; rfl
theorem ok1_all : Ok1 K CL (rAll K) bAll := fun W σ mu H M x v Q R hx p => by
  unfold bAll at p
  split at p
  · rename_i ds e
    split at p
    · rename_i bs e2
      obtain ⟨a, vs, rfl, h1, h2⟩ := lstOf_ok R hx e
      rw [asBls_eq e2] at h2
      have e3 := h2.bls
      subst e3
      exact ⟨a, bs, rfl, h1, end_d R p rfl⟩
    · exact bad_end p
  · exact bad_end p
theorem ok1_str : Ok1 K CL (fun xs H Q => ∃ i, xs = [V.int i] ∧ i.natAbs.log2 < 1920 ∧ Q (.str (toString i)) H) bStr := fun W σ mu H M x v Q R hx p => by
  unfold bStr at p
  split at p
  · rename_i i
    split at p
    · rename_i h
      have hv : v = .int i := hx
      subst hv
      exact ⟨i, rfl, h, end_d R p rfl⟩
    · exact bad_end p
  · exact bad_end p
/-! ### slices with a step -/
theorem Rvs.filterMap {ds : List D} {vs : List V} (h : Rvs K mu H ds vs) : ∀ ks : List Nat, Rvs K mu H (ks.filterMap fun k => ds[k]?) (ks.filterMap fun k => vs[k]?)
  | [] => rfl
  | k :: ks => by
    have ih := Rvs.filterMap h ks
    by_cases hk : k < ds.length
    · obtain ⟨v, e1, e2⟩ := h.get (List.getElem?_eq_getElem hk)
      rw [List.filterMap_cons_some (List.getElem?_eq_getElem hk), List.filterMap_cons_some e1]
      exact ⟨v, _, rfl, e2, ih⟩
    · have e1 : ds[k]? = none := List.getElem?_eq_none (by omega)
      have e2 : vs[k]? = none := List.getElem?_eq_none (by rw [← h.length]; omega)
      rw [List.filterMap_cons_none e1, List.filterMap_cons_none e2]
      exact ih
theorem Rvs.reverse : ∀ {ds : List D} {vs : List V}, Rvs K mu H ds vs → Rvs K mu H ds.reverse vs.reverse
  | [], _, h => by rw [show _ = [] from h]; rfl
  | d :: ds, _, ⟨v, r, e, h, q⟩ => by
    rw [e, List.reverse_cons, List.reverse_cons]
    exact (Rvs.reverse q).append (Rvs.one h)
/-- the places of a slice with a step -/
def ixS (n : Nat) (lo hi : Option Int) (k : Nat) : List Nat := (List.range ((MI.sIx n n hi - MI.sIx n 0 lo + (k - 1)) / k)).map fun j => MI.sIx n 0 lo + k * j
theorem pickS_eq (ds : List D) (lo hi : Option Int) (k : Nat) (hk : 0 < k) : pickS (MI.sIx ds.length 0 lo) k (ds.take (MI.sIx ds.length ds.length hi)) = (ixS ds.length lo hi k).filterMap fun j => ds[j]? := by
  have hh : MI.sIx ds.length ds.length hi ≤ ds.length ∨ ds.length < MI.sIx ds.length ds.length hi := by omega
  have hle : ∀ (n : Nat) (o : Option Int), MI.sIx n n o ≤ n := fun n o => by
    cases o with
    | none => exact Nat.le_refl _
    | some v =>
      show (if v < 0 then (v + (n : Int)).toNat else min v.toNat n) ≤ n
      split <;> omega
  have h2 := hle ds.length hi
  unfold pickS ixS
  rw [List.length_take, Nat.min_eq_left h2, List.filterMap_map]
  generalize MI.sIx ds.length ds.length hi = b at *
  generalize MI.sIx ds.length 0 lo = a
  have cg : ∀ (l : List Nat) (f g : Nat → Option D), (∀ j ∈ l, f j = g j) → l.filterMap f = l.filterMap g := fun l f g h => by
    induction l with
    | nil => rfl
    | cons x l ih => rw [List.filterMap_cons, List.filterMap_cons, h x List.mem_cons_self, ih fun j hj => h j (List.mem_cons_of_mem _ hj)]
  refine cg _ _ _ fun j hj => ?_
  have hj := List.mem_range.mp hj
  have : a + k * j < b := by
    have q1 : j * k < (b - a + (k - 1)) := by
      have := (Nat.lt_div_iff_mul_lt hk).mp hj
      omega
    have q2 : k * j = j * k := Nat.mul_comm _ _
    have q3 : (j + 1) * k ≤ b - a + (k - 1) := by
      have := (Nat.le_div_iff_mul_le hk).mp (Nat.succ_le_of_lt hj)
      exact this
    rw [Nat.add_mul, Nat.one_mul] at q3
    omega
  simp only [Function.comp]
  rw [List.getElem?_take, if_pos this]
theorem slice_ixS {items : Array Value} {lo hi : Option Int} {k : Nat} (hk : 0 < k) : slicePick items lo hi (some (k : Int)) = ((ixS items.size lo hi k).filterMap (items[·]?)).toArray := by
  have hc : ∀ (o : Option Int) (d : Nat), d ≤ items.size → (match o with | none => (d : Int) | some i => max 0 (min (if i < 0 then i + (items.size : Int) else i) (items.size : Int)) : Int) = ((MI.sIx items.size d o : Nat) : Int) := fun o d hd => by
    cases o with
    | none => rfl
    | some v =>
      show _ = (((if v < 0 then (v + (items.size : Int)).toNat else min v.toNat items.size : Nat)) : Int)
      simp only
      split <;> omega
  have hpos : ((k : Int) > 0) := by omega
  have e1 : sliceBounds lo hi (some (k : Int)) items.size = (((MI.sIx items.size 0 lo : Nat) : Int), ((MI.sIx items.size items.size hi : Nat) : Int), (k : Int)) := by
    unfold sliceBounds
    simp only [Option.getD_some, hpos, if_true]
    rw [← hc lo 0 (Nat.zero_le _), ← hc hi items.size (Nat.le_refl _)]
    cases lo <;> cases hi <;> rfl
  unfold slicePick
  rw [e1]
  simp only
  congr 1
  unfold sliceRange ixS
  simp only [hpos, if_true]
  generalize MI.sIx items.size items.size hi = b
  generalize MI.sIx items.size 0 lo = a
  have e2 : (if (a : Int) < b then ((b : Int) - a + k - 1) / k else 0).toNat = (b - a + (k - 1)) / k := by
    by_cases h : a < b
    · rw [if_pos (by omega)]
      have : ((b : Int) - a + k - 1) = ((b - a + (k - 1) : Nat) : Int) := by omega
      rw [this, ← Int.natCast_ediv, Int.toNat_natCast]
    · rw [if_neg (by omega)]
      have : b - a + (k - 1) < k := by omega
      rw [Nat.div_eq_of_lt this]; rfl
  rw [e2]
  rfl
end
theorem vals_at : ∀ {xs : List V} {us : List Value}, Vals xs us → ∀ (k : Nat) (h1 : k < xs.length) (h2 : k < us.length), RelV xs[k] us[k]
  | _, _, .cons r _, 0, _, _ => r
  | _, _, .cons _ t, k + 1, h1, h2 => by
    simp only [List.getElem_cons_succ]
    exact vals_at t k _ _
theorem vals_fm {xs : List V} {us : List Value} (h : Vals xs us) : ∀ ks : List Nat, Vals (ks.filterMap fun k => xs[k]?) (ks.filterMap fun k => us[k]?)
  | [] => .nil
  | k :: ks => by
    have ih := vals_fm h ks
    by_cases hk : k < xs.length
    · have hk2 : k < us.length := by rw [← h.length]; exact hk
      have e1 := List.getElem?_eq_getElem hk
      have e2 := List.getElem?_eq_getElem hk2
      rw [List.filterMap_cons_some e1, List.filterMap_cons_some e2]
      exact .cons (vals_at h k hk hk2) ih
    · have e1 : xs[k]? = none := List.getElem?_eq_none (by omega)
      have e2 : us[k]? = none := List.getElem?_eq_none (by rw [← h.length]; omega)
      rw [List.filterMap_cons_none e1, List.filterMap_cons_none e2]
      exact ih
section
variable {X : Cx}
def tStep (K : PySem.W.Frag) (te : TE) (tl th : TO) (k : Nat) : TE := fun σ H Q => te σ H fun x H1 => tl σ H1 fun l H2 => th σ H2 fun u H3 => ∃ a xs, x = .ref a ∧ SqL K H3 a xs ∧ ∀ p, H3 p = none → Q (.ref p) (upd H3 p (.lst ((ixS xs.length l u k).filterMap fun j => xs[j]?)))
theorem pe_step {e : Expr} {lo hi : Option Expr} {te : TE} {tl th : TO} {k : Nat} {ik : Nat} {p2 p3 pos : Pos} (hk : 0 < k) (he : PE X e te) (hl : PO X lo tl) (hh : PO X hi th) : PE X (.Subscript e (.Slice lo hi (some (.Constant (.int k) ik p2)) p3) pos) (tStep X.K te tl th k) := by
  refine ⟨fun pins s σ H Q I h => ?_⟩
  refine Subscript_ (thn (he.run pins s σ H _ I h) fun v s1 ⟨x, H1, I1, r1, q1⟩ => ?_)
  have hst : PO X (some (.Constant (.int k) ik p2)) (tPart (tC (.int k))) := po_some pe_int
  refine wpAny_Slice (thn (hl.run pins s1 σ H1 _ I1 q1) fun vl s2 ⟨l, H2, I2, pl, q2⟩ => thn (hh.run pins s2 σ H2 _ I2 q2) fun vu s3 ⟨u, H3, I3, pu, q3⟩ => ?_)
  refine thn (hst.run pins s3 σ H3 (fun o H4 => o = some (k : Int) ∧ H4 = H3) I3 ⟨k, rfl, rfl, rfl⟩) fun vs s4 ⟨o, H4, I4, ps, eo, e4⟩ => ?_
  subst eo e4
  obtain ⟨a, xs, ex, hx, q⟩ := q3
  subst ex
  cases r1
  have I5 : Inv X pins σ H4 { s4 with heap := s4.heap.push { cls := .type "slice", data := .fields #[vl, vu, vs] } } := I4.kept (t' := s4.toks) fun b ob q => Heap.get?_push_of_some _ q
  obtain ⟨its, r, ht, hz⟩ := I5.list hx
  have hlen := r.length
  show wpAny (model X.prog X.w) X.A (subscriptTail e (.Slice lo hi (some (.Constant (.int k) ik p2)) p3) (.ref a) (.ref s4.heap.objs.size)) (EP X pins σ Q) X.xe { s4 with heap := s4.heap.push { cls := .type "slice", data := .fields #[vl, vu, vs] } }
  refine tail_any (ops := [.ref a, .ref s4.heap.objs.size]) ht.isList.typeIs (PySem.slot_list_getitem.lookup) ?_ (by with_unfolding_all rfl)
  refine wpAny_getItem_list_slice ht.isList (Heap.IsSliceOf.new _ vl vu vs) pl pu ps (by simp; omega) ?_ (by rw [List.size_toArray]; omega)
  rw [slice_ixS hk]
  have e1 : its.toArray.size = xs.length := by rw [List.size_toArray]; exact hlen.symm
  have e2 : (fun j : Nat => its.toArray[j]?) = fun j : Nat => its[j]? := by funext j; simp
  rw [e1, e2]
  refine ⟨.ref _, _, I5.laid (t' := s4.toks) (o := .lst ((ixS xs.length l u k).filterMap fun j => xs[j]?)) (fun b ob q => Heap.get?_push_of_some _ q) (Nat.le_refl _) ?_, rfl, q _ (I5.hok.fresh (Nat.le_refl _))⟩
  refine ⟨?_, _, 0, vals_fm r _, Heap.get?_push_size _ rfl⟩
  refine Nat.le_trans (List.length_filterMap_le _ _) (Nat.le_trans ?_ hz)
  unfold ixS
  rw [List.length_map, List.length_range]
  have hle : MI.sIx xs.length xs.length u ≤ xs.length := by
    cases u with
    | none => exact Nat.le_refl _
    | some v =>
      show (if v < 0 then (v + (xs.length : Int)).toNat else min v.toNat xs.length) ≤ xs.length
      split <;> omega
  generalize MI.sIx xs.length xs.length u = b at *
  generalize MI.sIx xs.length 0 l = a
  refine Nat.le_trans ?_ hle
  have : (b - a + (k - 1)) / k ≤ b - a := by
    rcases Nat.eq_zero_or_pos (b - a) with h0 | h0
    · rw [h0, Nat.div_eq_of_lt (by omega)]; exact Nat.le_refl _
    · refine Nat.le_of_lt_succ ((Nat.div_lt_iff_lt_mul hk).mpr ?_)
      have : (b - a + 1) * k = (b - a) * k + k := by rw [Nat.add_mul, Nat.one_mul]
      have h3 : b - a ≤ (b - a) * k := Nat.le_mul_of_pos_right _ hk
      show b - a + (k - 1) < (b - a + 1) * k
      omega
  omega
end
section
variable {X : Cx} {CL : CLs} {cl : Cl} {a b c o : Expr} {rest : List Expr} {es : List Expr} {sa sb sc so : SE} {ta tb tc : STt} {as : SDs} {pos p0 apos cpos : Pos}
theorem snd_step {lo hi : Option Expr} {sl sh : SO} {k ik : Nat} {p2 p3 : Pos} (hk : 0 < k) (ha : SndE X CL cl a sa) (hl : SndO X CL cl lo sl) (hh : SndO X CL cl hi sh) : SndE X CL cl (.Subscript a (.Slice lo hi (some (.Constant (.int k) ik p2)) p3) pos) (eStep sa sl sh k) := fun W tk => by
  refine pe_imp (pe_step hk (ha W tk) (hl W tk) (hh W tk)) fun σ H Q h => ?_
  obtain ⟨mu, r, M, hm, hs, p⟩ := h
  refine rE_then hm hs p fun x v M1 mu1 H1 n1 h1 p1 => ?_
  refine rO_then n1.rm n1.rs p1 fun l M2 mu2 H2 n2 p2 => ?_
  refine rO_then n2.rm n2.rs p2 fun u M3 mu3 H3 n3 p3 => ?_
  have hx : Rw X.K CL mu3 H3 x v := (h1.w.stp n1.rm n2.st).stp n2.rm n3.st
  have p4 : Pst X.K CL W σ mu3 H3 (match lstOf x M3 with
      | some ds => .ok (.o (.lst (pickS (MI.sIx ds.length 0 l) k (ds.take (MI.sIx ds.length ds.length u))))) M3
      | none => .bad) fun z _ mu' H' => ∀ w, Rr X.K CL mu' H' H3 z w → Q w H' :=
    p3.mono fun z M3 mu3 H3 s3 R3 q w hw => q w (hw.base ((n1.st.trans n2.st n1.rm).trans n3.st n2.rm) n3.rm)
  split at p4
  · rename_i ds e
    obtain ⟨q, vs, rfl, h4, h5⟩ := lstOf_ok n3.rm hx e
    refine ⟨q, vs, rfl, h4, ?_⟩
    rw [pickS_eq ds l u k hk] at p4
    have := end_lst n3.rm p4 (h5.filterMap _)
    rwa [h5.length] at this
  · exact bad_end p4
theorem snd_stepI {lo hi : Option Expr} {sl sh : SO} {k : Int} {ik : Nat} {p2 p3 : Pos} (hk : 0 < k) (ha : SndE X CL cl a sa) (hl : SndO X CL cl lo sl) (hh : SndO X CL cl hi sh) : SndE X CL cl (.Subscript a (.Slice lo hi (some (.Constant (.int k) ik p2)) p3) pos) (eStep sa sl sh k.toNat) := by
  have e : k = ((k.toNat : Nat) : Int) := by omega
  have := snd_step (X := X) (CL := CL) (cl := cl) (pos := pos) (k := k.toNat) (ik := ik) (p2 := p2) (p3 := p3) (by omega) ha hl hh
  rwa [← e] at this
theorem snd_rev {k : Nat} {p1 p2 p3 : Pos} (ha : SndE X CL cl a sa) : SndE X CL cl (.Subscript a (.Slice none none (some (.UnaryOp .USub (.Constant (.int 1) k p1) p2)) p3) pos) (eRev sa) := fun W tk => by
  refine pe_imp (pe_revL (ha W tk)) fun σ H Q h => ?_
  obtain ⟨mu, r, M, hm, hs, p⟩ := h
  refine rE_then hm hs p fun x v M1 mu1 H1 n1 h1 p1 => ?_
  split at p1
  · rename_i ds e
    obtain ⟨q, vs, rfl, h4, h5⟩ := lstOf_ok n1.rm h1.w e
    exact ⟨q, vs, rfl, h4, end_lst n1.rm (p1.rb n1) h5.reverse⟩
  · exact bad_end p1
/-! ### methods -/
/-- a receiver that is asked as it stands -/
def okRecv : Expr → Bool
  | .Call (.Name id _) _ _ _ => id != ("super" : Str)
  | _ => true
theorem abase_ok {o : Expr} {m : Str} {env : PySem.Env} (h : okRecv o = true) : attributeBase o m env (eval o env) = eval o env := by
  cases o with
  | Call f args kws pos =>
    cases f with
    | Name id p =>
      cases args with
      | nil =>
        cases kws with
        | nil => exact abase_call h
        | cons => rfl
      | cons => rfl
    | _ => rfl
  | _ => rfl
def OkM0 (K : PySem.W.Frag) (CL : CLs) (rr : V → List V → Hp → VK → Prop) (m : Nat → Mem → Res RV) : Prop :=
  ∀ (W : WX) (σ : Sg) mu H M n p (Q : VK), Rm K CL mu H M → mu[n]? = some p → Pst K CL W σ mu H (m n M) (fun z _ mu' H' => ∀ w, Rr K CL mu' H' H z w → Q w H') → rr (.ref p) [] H Q
def OkM2 (K : PySem.W.Frag) (CL : CLs) (rr : V → List V → Hp → VK → Prop) (m : Nat → D → D → Mem → Res RV) : Prop :=
  ∀ (W : WX) (σ : Sg) mu H M n p d v e u (Q : VK), Rm K CL mu H M → mu[n]? = some p → Rv K mu H d v → Rv K mu H e u → Pst K CL W σ mu H (m n d e M) (fun z _ mu' H' => ∀ w, Rr K CL mu' H' H z w → Q w H') → rr (.ref p) [v, u] H Q
variable {name : Str} {id : String} {rr : V → List V → Hp → VK → Prop}
theorem snd_m0 {m : Nat → Mem → Res RV} (slot : Slot "list" name id) (hty : typeOf (.builtin id) = pure (.type "method_descriptor")) (hm : MtR X id rr) (k : OkM0 X.K CL rr m) (ho : SndE X CL cl o so)
    (hbase : attributeBase o name X.env (eval o X.env) = eval o X.env) (hline : (apos.endLine == cpos.line) = true) : SndE X CL cl (.Call (.Attribute o name apos) [] [] cpos) (eM0 m so) := fun W tk => by
  refine pe_imp (pe_bm0 PySem.F.plainAttrs_list slot hty hm (ho W tk) hbase hline) fun σ H Q h => ?_
  obtain ⟨mu, r, M, hm, hs, p⟩ := h
  refine rE_then hm hs p fun x v M1 mu1 H1 n1 h1 p1 => ?_
  split at p1
  · rename_i n
    split at p1
    · rename_i e
      obtain ⟨ds, e⟩ := Option.isSome_iff_exists.mp e
      obtain ⟨p', vs, hv, h2, h3⟩ := lstT_ok n1.rm h1.w e
      obtain ⟨q, h4, h5⟩ := h1
      have eq : q = p' := V.ref.inj (h5.symm.trans hv)
      subst eq
      refine ⟨by rw [h5]; exact .inl ⟨rfl, vs, .inl (.inl h2)⟩, ?_⟩
      rw [h5]
      exact k W σ mu1 H1 _ n q Q n1.rm h4 (p1.rb n1)
    · exact bad_end p1
  · exact bad_end p1
theorem snd_n0 {m : Nat → Mem → Res RV} (slot : Slot "list" name id) (hty : typeOf (.builtin id) = pure (.type "method_descriptor")) (hm : MtR X id rr) (k : OkM0 X.K CL rr m) (ho : SndE X CL cl o so)
    (hbase : attributeBase o name X.env (eval o X.env) = eval o X.env) (hline : (apos.endLine == cpos.line) = true) : SndE X CL cl (.Call (.Attribute o name apos) [] [] cpos) (eN0 m so) := fun W tk => by
  refine pe_imp (pe_bm0 PySem.F.plainAttrs_list slot hty hm (ho W tk) hbase hline) fun σ H Q h => ?_
  obtain ⟨mu, r, M, hm, hs, p⟩ := h
  refine rE_thenB hm hs Stp.refl p fun x v M1 mu1 H1 n1 h1 p1 => ?_
  split at p1
  · rename_i ds
    obtain ⟨t, R2, s2, hv⟩ := n1.rm.box h1 n1.st
    obtain ⟨q, h4, h5⟩ := hv
    obtain ⟨p', h6, ⟨vs, h7, h8⟩, _⟩ := h1
    have eq : q = p' := V.ref.inj (h5.symm.trans h6)
    subst eq
    refine ⟨by rw [h5]; exact .inl ⟨rfl, vs, .inl (.inl h7)⟩, ?_⟩
    rw [h5]
    refine k W σ (mu1 ++ t) H1 _ M1.length q Q R2 h4 ?_
    exact (p1.from s2 R2).mono fun _ _ _ _ _ _ z w hw => z w (hw.base s2 R2)
  · exact bad_end p1
theorem snd_n1 {m : Nat → D → Mem → Res RV} (slot : Slot "list" name id) (hty : typeOf (.builtin id) = pure (.type "method_descriptor")) (hm : MtR X id rr) (k : OkM X.K CL rr m) (ho : SndE X CL cl o so) (ha : SndE X CL cl a sa)
    (hbase : attributeBase o name X.env (eval o X.env) = eval o X.env) (hline : (apos.endLine == cpos.line) = true) (hst : starEach [a] X.env = [(false, eval a X.env)]) : SndE X CL cl (.Call (.Attribute o name apos) [a] [] cpos) (eN1 m so sa) := fun W tk => by
  refine pe_imp (pe_bm PySem.F.plainAttrs_list slot hty hm (ho W tk) (pa_cons (ha W tk) pa_nil hst) hbase (by rw [hst]; rfl) hline hst rfl) fun σ H Q h => ?_
  obtain ⟨mu, r, M, hm, hs, p⟩ := h
  refine rE_thenB hm hs Stp.refl p fun x v M1 mu1 H1 n1 h1 p1 => ?_
  split at p1
  · rename_i ds
    obtain ⟨t, R2, s2, hv⟩ := n1.rm.box h1 n1.st
    obtain ⟨q, h4, h5⟩ := hv
    obtain ⟨p', h6, ⟨vs, h7, h8⟩, _⟩ := h1
    have eq : q = p' := V.ref.inj (h5.symm.trans h6)
    subst eq
    refine ⟨by rw [h5]; exact .inl ⟨rfl, vs, .inl (.inl h7)⟩, ?_⟩
    refine rE_thenB R2 (n1.rs.ext t) Stp.refl (p1.from s2 R2) fun y u M2 mu2 H2 n2 h6 p2 => ?_
    obtain ⟨t2, R3, s4, hu⟩ := n2.rm.box h6 n2.st
    rw [h5]
    refine k W σ (mu2 ++ t2) H2 _ M1.length q _ u Q R3 ?_ hu ?_
    · rw [List.getElem?_append_left (List.getElem?_eq_some_iff.mp (n2.st.get h4)).1]; exact n2.st.get h4
    · exact (p2.from s4 R3).mono fun _ _ _ _ _ _ z w hw => z w ((hw.base s4 R3).base s2 R2)
  · exact bad_end p1
theorem snd_m2 {m : Nat → D → D → Mem → Res RV} (slot : Slot "list" name id) (hty : typeOf (.builtin id) = pure (.type "method_descriptor")) (hm : MtR X id rr) (k : OkM2 X.K CL rr m) (ho : SndE X CL cl o so) (ha : SndE X CL cl a sa) (hb : SndE X CL cl b sb)
    (hbase : attributeBase o name X.env (eval o X.env) = eval o X.env) (hline : (apos.endLine == cpos.line) = true) (hst : starEach [a, b] X.env = (false, eval a X.env) :: starEach [b] X.env) (hst2 : starEach [b] X.env = [(false, eval b X.env)]) : SndE X CL cl (.Call (.Attribute o name apos) [a, b] [] cpos) (eM2 m so sa sb) := fun W tk => by
  refine pe_imp (pe_bm PySem.F.plainAttrs_list slot hty hm (ho W tk) (pa_cons (ha W tk) (pa_cons (hb W tk) pa_nil hst2) hst) hbase (by rw [hst, hst2]; rfl) hline hst (by rw [hst2]; rfl)) fun σ H Q h => ?_
  obtain ⟨mu, r, M, hm, hs, p⟩ := h
  refine rE_then hm hs p fun x v M1 mu1 H1 n1 h1 p1 => ?_
  split at p1
  · rename_i n
    split at p1
    · rename_i e
      obtain ⟨ds, e⟩ := Option.isSome_iff_exists.mp e
      obtain ⟨p', vs, hv, h2, h3⟩ := lstT_ok n1.rm h1.w e
      obtain ⟨q, h4, h5⟩ := h1
      have eq : q = p' := V.ref.inj (h5.symm.trans hv)
      subst eq
      refine ⟨by rw [h5]; exact .inl ⟨rfl, vs, .inl (.inl h2)⟩, ?_⟩
      refine rE_thenB n1.rm n1.rs Stp.refl p1 fun y u M2 mu2 H2 n2 h6 p2 => ?_
      obtain ⟨t, R3, s3, hu⟩ := n2.rm.box h6 n2.st
      refine rE_thenB R3 (n2.rs.ext t) s3 p2 fun z w M4 mu4 H4 n4 h7 p4 => ?_
      obtain ⟨t4, R5, s6, hw⟩ := n4.rm.box h7 n4.st
      have s5 := s3.trans s6 R3
      rw [h5]
      have g4 := (s3.trans n4.st R3).get h4
      refine k W σ (mu4 ++ t4) H4 _ n q _ u _ w Q R5 ?_ ((hu.stp R3 n4.st).ext t4) hw ?_
      · rw [List.getElem?_append_left (List.getElem?_eq_some_iff.mp g4).1]; exact g4
      · exact (p4.from s5 R5).mono fun _ _ _ _ _ _ z w hw => z w ((hw.base s5 R5).base n1.st n1.rm)
    · exact bad_end p1
  · exact bad_end p1
theorem okM0_clear {K : PySem.W.Frag} : OkM0 K CL rClear mClear := fun W σ mu H M n p Q R hp h => by
  unfold mClear at h
  split at h
  · rename_i ds e
    obtain ⟨vs, h1, h2⟩ := R.ob n p _ hp e
    have st : Stp mu H mu (upd H p (.lst [])) := Stp.write hp (fun _ _ z => by rw [h1] at z; cases z)
    have R' := R.write (u := .lst []) (o := .lst []) hp (fun _ _ z => by rw [h1] at z; cases z) ⟨_, upd_same, rfl⟩
    exact ⟨p, vs, rfl, rfl, h1, h mu _ st R' .non rfl⟩
  · exact bad_end h
theorem okM0_pop {K : PySem.W.Frag} : OkM0 K CL rPop mPop := fun W σ mu H M n p Q R hp h => by
  unfold mPop at h
  split at h
  · rename_i ds e
    split at h
    · rename_i d ed
      obtain ⟨vs, h1, h2⟩ := R.ob n p _ hp e
      have ed' : ds[ds.length - 1]? = some d := by rw [← List.getLast?_eq_getElem?]; exact ed
      obtain ⟨v, h3, h4⟩ := h2.get ed'
      have st : Stp mu H mu (upd H p (.lst vs.dropLast)) := Stp.write hp (fun _ _ z => by rw [h1] at z; cases z)
      have R' := R.write (u := .lst vs.dropLast) (o := .lst ds.dropLast) hp (fun _ _ z => by rw [h1] at z; cases z) ⟨_, upd_same, h2.dropLast.stp R st⟩
      exact ⟨p, vs, v, rfl, rfl, h1, by rw [← h2.length]; exact h3, h mu _ st R' v (h4.stp R st)⟩
    · exact bad_end h
  · exact bad_end h
theorem okM2_insert {K : PySem.W.Frag} : OkM2 K CL (fun x vs H Q => ∃ (l : Addr) (xs : List V) (i : Int) (y : V), x = .ref l ∧ vs = [.int i, y] ∧ H l = some (.lst xs) ∧ xs.length < sizeLine ∧ 0 ≤ i ∧ i < 2 ^ 63 ∧
    Q .non (upd H l (.lst (xs.take i.toNat ++ [y] ++ xs.drop i.toNat)))) mInsert := fun W σ mu H M n p d v e u Q R hp hd he h => by
  unfold mInsert at h
  split at h
  · rename_i ds e1
    split at h
    · rename_i i
      split at h
      · rename_i c
        obtain ⟨vs, h1, h2⟩ := R.ob n p _ hp e1
        have hv : v = .int i := hd
        subst hv
        have st : Stp mu H mu (upd H p (.lst (vs.take i.toNat ++ [u] ++ vs.drop i.toNat))) := Stp.write hp (fun _ _ z => by rw [h1] at z; cases z)
        have R' := R.write (u := .lst (vs.take i.toNat ++ [u] ++ vs.drop i.toNat)) (o := .lst (ds.take i.toNat ++ [e] ++ ds.drop i.toNat)) hp (fun _ _ z => by rw [h1] at z; cases z) ⟨_, upd_same, (((h2.take _).append (Rvs.one he)).append (h2.drop _)).stp R st⟩
        exact ⟨p, vs, i, u, rfl, rfl, h1, by rw [← h2.length]; exact c.2.2, c.1, by omega, h mu _ st R' .non rfl⟩
      · exact bad_end h
    · exact bad_end h
  · exact bad_end h
/-! ### ranges -/
theorem snd_range2 {tg : Expr} (ha : SndE X CL cl a sa) (hb : SndE X CL cl b sb) (hg : Gl X "range") (hm : X.mg "range" = none) (hst : starEach [a, b] X.env = [(false, eval a X.env), (false, eval b X.env)]) (hst2 : starEach [b] X.env = [(false, eval b X.env)]) : SndI X CL cl tg (.Call (.Name "range" p0) [a, b] [] pos) (iRange2 sa sb) := fun W tk => by
  refine pi_imp (pi_range2 hg hm (pa_cons (ha W tk) (pa_cons (hb W tk) pa_nil hst2) (by rw [hst, hst2])) hst hst2) fun σ H R h => ?_
  obtain ⟨mu, r, M, hm, hs, p⟩ := h
  refine rE_then hm hs p fun x v M1 mu1 H1 n1 h1 p1 => ?_
  refine rE_then n1.rm n1.rs p1 fun y u M2 mu2 H2 n2 h2 p2 => ?_
  split at p2
  · rename_i i j
    split at p2
    · rename_i c
      have hv : v = .int i := h1
      have hu : u = .int j := h2
      subst hv; subst hu
      refine ⟨i, j, rfl, ⟨c.1.1, c.1.2, c.2.1, c.2.2⟩, p2.here n2.rm _ ⟨fun k d mu H M e st R _ => ?_, fun mu H M st R _ => ?_⟩⟩
      · have hi : k < (j - i).toNat := by
          have := (List.getElem?_eq_some_iff.mp e).1
          simpa [rngD] using this
        refine ⟨hi, fun x H' ⟨e1, e2⟩ => ?_⟩
        subst e1
        refine ⟨Stp.refl, R, ?_⟩
        have : d = .int (i + (k : Int)) := by
          unfold rngD at e
          rw [List.getElem?_map, List.getElem?_range hi] at e
          exact (Option.some.inj e).symm
        rw [this, e2]
        rfl
      · show (j - i).toNat ≤ (rngD i (j - i).toNat).length
        simp [rngD]
    · exact bad_end p2
  · exact bad_end p2
theorem rgC_of {i j c : Int} (hi : -(2 ^ 61) ≤ i ∧ i < 2 ^ 61) (hj : -(2 ^ 61) ≤ j ∧ j < 2 ^ 61) (hc : c ≠ 0) (hl : c.natAbs < 1000000) : RgC i j c (rgN i j c) := by
  have hn : 0 ≤ Builtin.Range.rangeSize i j c ∧ Builtin.Range.rangeSize i j c < 2 ^ 63 := by
    unfold Builtin.Range.rangeSize
    split
    · rename_i h
      split
      · have h0 := Int.ediv_nonneg (show 0 ≤ j - i - 1 by omega) (show 0 ≤ c by omega)
        have h1 := Int.ediv_le_self c (show 0 ≤ j - i - 1 by omega)
        omega
      · omega
    · split
      · have h0 := Int.ediv_nonneg (show 0 ≤ i - j - 1 by omega) (show 0 ≤ -c by omega)
        have h1 := Int.ediv_le_self (-c) (show 0 ≤ i - j - 1 by omega)
        omega
      · omega
  refine ⟨hc, by omega, ?_, ?_⟩
  · unfold Builtin.Range.small
    generalize Builtin.Range.rangeSize i j c = n at hn
    simp only [Builtin.Range.rangeFitsLong, Bool.and_eq_true, Bool.or_eq_true, decide_eq_true_eq, beq_iff_eq]
    refine ⟨⟨⟨⟨⟨by omega, by omega⟩, by omega, by omega⟩, by omega, by omega⟩, by omega, by omega⟩, .inr ?_⟩
    split <;> simp only [Bool.and_eq_true, decide_eq_true_eq] <;> omega
  · unfold Builtin.Range.rangeSize rgN
    by_cases h : c > 0
    · simp only [h, if_true, show 0 < c from h]
      by_cases h2 : i < j
      · simp only [h2, if_true]
        have e : j - i + c - 1 = (j - i - 1) + c := by omega
        have e2 := Int.add_ediv_of_dvd_right (a := j - i - 1) (b := c) (c := c) (Int.dvd_refl c)
        rw [e, e2, Int.ediv_self (by omega)]
        have := Int.ediv_nonneg (show 0 ≤ j - i - 1 by omega) (show 0 ≤ c by omega)
        omega
      · simp only [h2, if_false]
        have : (j - i + c - 1) / c ≤ 0 := by
          rcases Int.lt_or_le (j - i + c - 1) 0 with q | q
          · exact Int.le_of_lt (Int.ediv_neg_of_neg_of_pos q h)
          · rw [Int.ediv_eq_zero_of_lt q (by omega)]; exact Int.le_refl _
        omega
    · have h' : ¬ 0 < c := h
      simp only [h, if_false, h']
      by_cases h2 : i > j
      · simp only [h2, if_true]
        have e : i - j - c - 1 = (i - j - 1) + -c := by omega
        have e2 := Int.add_ediv_of_dvd_right (a := i - j - 1) (b := -c) (c := -c) (Int.dvd_refl _)
        rw [e, e2, Int.ediv_self (by omega)]
        have := Int.ediv_nonneg (show 0 ≤ i - j - 1 by omega) (show 0 ≤ -c by omega)
        omega
      · simp only [h2, if_false]
        have : (i - j - c - 1) / (-c) ≤ 0 := by
          rcases Int.lt_or_le (i - j - c - 1) 0 with q | q
          · exact Int.le_of_lt (Int.ediv_neg_of_neg_of_pos q (by omega))
          · rw [Int.ediv_eq_zero_of_lt q (by omega)]; exact Int.le_refl _
        omega
theorem snd_range3 {tg : Expr} (ha : SndE X CL cl a sa) (hb : SndE X CL cl b sb) (hc : SndE X CL cl c sc) (hg : Gl X "range") (hm : X.mg "range" = none) (hst : starEach [a, b, c] X.env = (false, eval a X.env) :: starEach [b, c] X.env) (hst2 : starEach [b, c] X.env = (false, eval b X.env) :: starEach [c] X.env) (hst3 : starEach [c] X.env = [(false, eval c X.env)]) : SndI X CL cl tg (.Call (.Name "range" p0) [a, b, c] [] pos) (iRange3 sa sb sc) := fun W tk => by
  refine pi_imp (pi_range3 hg hm (pa_cons (ha W tk) (pa_cons (hb W tk) (pa_cons (hc W tk) pa_nil hst3) hst2) hst) hst (by rw [hst2, hst3]; rfl)) fun σ H R h => ?_
  obtain ⟨mu, r, M, hm, hs, p⟩ := h
  refine rE_then hm hs p fun x v M1 mu1 H1 n1 h1 p1 => ?_
  refine rE_then n1.rm n1.rs p1 fun y u M2 mu2 H2 n2 h2 p2 => ?_
  refine rE_then n2.rm n2.rs p2 fun z w M3 mu3 H3 n3 h3 p3 => ?_
  split at p3
  · rename_i i j c
    split at p3
    · rename_i cc
      have hv : v = .int i := h1
      have hu : u = .int j := h2
      have hw : w = .int c := h3
      subst hv; subst hu; subst hw
      refine ⟨i, j, c, _, rfl, rgC_of cc.1 cc.2.1 cc.2.2.1 cc.2.2.2, p3.here n3.rm _ ⟨fun k d mu H M e st R _ => ?_, fun mu H M st R _ => ?_⟩⟩
      · have hi : k < rgN i j c := by
          have := (List.getElem?_eq_some_iff.mp e).1
          simpa [rngC] using this
        refine ⟨hi, fun x H' ⟨e1, e2⟩ => ?_⟩
        subst e1
        refine ⟨Stp.refl, R, ?_⟩
        have : d = .int (i + (k : Int) * c) := by
          unfold rngC at e
          rw [List.getElem?_map, List.getElem?_range hi] at e
          exact (Option.some.inj e).symm
        rw [this, e2]
        rfl
      · show rgN i j c ≤ (rngC i c (rgN i j c)).length
        simp [rngC]
    · exact bad_end p3
  · exact bad_end p3
end
end MI
end
section
set_option Elab.async false
set_option linter.all false
set_option maxRecDepth 100000
set_option maxHeartbeats 4000000
/-! MIf: methods of dicts, dict(pairs), zip, loops over dicts -/
namespace MI
open PySem PySem.Spec PyProof.Rows L2
/-! ### methods -/
section
variable {X : Cx} {CL : CLs} {cl : Cl} {a b o : Expr} {sa sb so : SE} {apos cpos pos : Pos}
/-- x is a dict of ours -/
def IsDi (w : World) (H : Hp) (x : V) : Prop := ∃ fz a xs, x = .ref a ∧ Lk fz H a (dictO w a xs)
def MtD (X : Cx) (id : String) (r : V → V → V → Hp → VK → Prop) : Prop :=
  ∀ (pins : List (Addr × Obj)) (s : Shared) (σ : Sg) (H : Hp) (x y z : V) (v u t : Value) (Q : VK), Inv X pins σ H s → RelV x v → RelV y u → RelV z t → r x y z H Q → wpAny (model X.prog X.w) X.A (call (.builtin id) [v, u, t]) (EP X pins σ Q) X.xe s
def tD2 (w : World) (r : V → V → V → Hp → VK → Prop) (to ta tb : TE) : TE := fun σ H Q => to σ H fun x H1 => IsDi w H1 x ∧ ta σ H1 fun y H2 => tb σ H2 fun z H3 => r x y z H3 Q
theorem pe_d2 {w : World} {name : Str} {id : String} {r : V → V → V → Hp → VK → Prop} {to ta tb : TE} (slot : Slot "dict" name id) (hty : typeOf (.builtin id) = pure (.type "method_descriptor")) (hm : MtD X id r) (ho : PE X o to) (ha : PE X a ta) (hb : PE X b tb) (m : M2 X o name apos a b cpos) :
    PE X (.Call (.Attribute o name apos) [a, b] [] cpos) (tD2 w r to ta tb) := by
  refine ⟨fun pins s σ H Q I h => ?_⟩
  refine wpAny_Call_method m.base m.few m.line PySem.F.plainAttrs_dict slot hty (thn (ho.run pins s σ H _ I h) fun u s1 ⟨x, H1, I1, rx, ⟨fz, p, xs, ex, lk⟩, q1⟩ => ?_)
  subst ex
  cases rx
  obtain ⟨⟨ob, en, ep, h1, h2, _⟩, _⟩ := lk_get I1 lk
  refine ⟨⟨ob, h1, h2.1⟩, fun c q => by cases q; exact ⟨ob, h1, h2.2.1⟩, ?_⟩
  rw [m.trees]
  refine Calls.callWith_builtin rfl (Calls.evalArgs_plain (Calls.spliced_cons (thn (ha.run pins s1 σ H1 _ I1 q1) fun iv s2 ⟨y, H2, I2, ry, q2⟩ =>
    Calls.spliced_cons (thn (hb.run pins s2 σ H2 _ I2 q2) fun fv s3 ⟨z, H3, I3, rz, q3⟩ => Calls.spliced_nil ?_))))
  exact hm pins s3 σ H3 (.ref p) y z (.ref p) iv fv Q I3 rfl ry rz q3
def rGetD (K : PySem.W.Frag) (w : World) : V → V → V → Hp → VK → Prop := fun x y z H Q => ∃ mu fz a xs ds k xd, x = .ref a ∧ Lk fz H a (dictO w a xs) ∧ Rdt K mu H ds xs ∧ okK ds k = true ∧ Rv K mu H k y ∧ Rv K mu H xd z ∧ ∀ v, Rv K mu H ((dget ds k).getD xd) v → Q v H
theorem mt_getD {w : World} (hu : X.A.units + 64 < cLine) (hw : w = X.w) : MtD X "dict.get" (rGetD X.K w) := fun pins s σ H x y z v u t Q I rx ry rz ⟨mu, fz, a, xs, ds, k, xd, ex, e, r, ok, hk, hx, q⟩ => by
  subst ex
  cases rx
  exact dd_get hu I hw e r ok hk ry hx rz fun u v s' I' ru rv => ⟨v, H, I', ru, q v rv⟩
def rSetdD (K : PySem.W.Frag) (w : World) : V → V → V → Hp → VK → Prop := fun x y z H Q => ∃ mu a xs ds k xd, x = .ref a ∧ H a = some (dictO w a xs) ∧ Rdt K mu H ds xs ∧ okK ds k = true ∧ Rv K mu H k y ∧ Rv K mu H xd z ∧ ds.length < sizeLine ∧
  (∀ d v, dget ds k = some d → Rv K mu H d v → Q v H) ∧ (∀ zs, dget ds k = none → Rdt K mu H (dput ds k xd) zs → Q z (upd H a (dictO w a zs)))
theorem mt_setdD {w : World} (hu : X.A.units + 64 < cLine) (hw : w = X.w) : MtD X "dict.setdefault" (rSetdD X.K w) := fun pins s σ H x y z v u t Q I rx ry rz ⟨mu, a, xs, ds, k, xd, ex, e, r, ok, hk, hx, hl, q1, q2⟩ => by
  subst ex
  cases rx
  exact dd_setdefault hu I hw e r ok hk ry hx rz hl (fun d' u' v' s' e1 I' ru rv => ⟨v', H, I', ru, q1 d' v' e1 rv⟩) fun zs s' e1 rp I' => ⟨z, _, I', rz, q2 zs e1 rp⟩
def rPopD (K : PySem.W.Frag) (w : World) : V → V → V → Hp → VK → Prop := fun x y z H Q => ∃ mu a xs ds k, x = .ref a ∧ H a = some (dictO w a xs) ∧ Rdt K mu H ds xs ∧ okK ds k = true ∧ Rv K mu H k y ∧
  (∀ d v zs, dget ds k = some d → Rv K mu H d v → Rdt K mu H (ddel ds k) zs → Q v (upd H a (dictO w a zs))) ∧ (dget ds k = none → Q z H)
theorem mt_popD {w : World} (hu : X.A.units + 64 < cLine) (hw : w = X.w) : MtD X "dict.pop" (rPopD X.K w) := fun pins s σ H x y z v u t Q I rx ry rz ⟨mu, a, xs, ds, k, ex, e, r, ok, hk, q1, q2⟩ => by
  subst ex
  cases rx
  exact dd_pop (d := .non) (v := z) hu I hw e r ok hk ry (fun d' u' v' zs s' e1 rp I' ru rv => ⟨v', _, I', ru, q1 d' v' zs e1 rv rp⟩) fun s' e1 I' => ⟨z, H, I', rz, q2 e1⟩
/-- a dict's method by what it asks of the heap: the dict stands at the handle n -/
def OkD (K : PySem.W.Frag) (CL : CLs) (rr : V → V → V → Hp → VK → Prop) (m : Nat → D → D → Mem → Res RV) : Prop :=
  ∀ (W : WX) (σ : Sg) mu H M n p d e v u (Q : VK), Rm K CL mu H M → mu[n]? = some p → Rv K mu H d v → Rv K mu H e u → Pst K CL W σ mu H (m n d e M) (fun z _ mu' H' => ∀ w, Rr K CL mu' H' H z w → Q w H') → rr (.ref p) v u H Q
theorem snd_d2 {w : World} {name : Str} {id : String} {rr : V → V → V → Hp → VK → Prop} {m : Nat → D → D → Mem → Res RV} (hw : w = CL.w) (slot : Slot "dict" name id) (hty : typeOf (.builtin id) = pure (.type "method_descriptor")) (hm : MtD X id rr) (k : OkD X.K CL rr m) (ho : SndE X CL cl o so) (ha : SndE X CL cl a sa) (hb : SndE X CL cl b sb)
    (m2 : M2 X o name apos a b cpos) : SndE X CL cl (.Call (.Attribute o name apos) [a, b] [] cpos) (eD2 m so sa sb) := fun W tk => by
  refine pe_imp (pe_d2 (w := w) slot hty hm (ho W tk) (ha W tk) (hb W tk) m2) fun σ H Q h => ?_
  obtain ⟨mu, r, M, hm, hs, p⟩ := h
  refine rE_then hm hs p fun x v M1 mu1 H1 n1 h1 p1 => ?_
  split at p1
  · rename_i n
    split at p1
    · rename_i e
      obtain ⟨ds, e⟩ := Option.isSome_iff_exists.mp e
      obtain ⟨fz, p', xs, hv, h2, h3⟩ := dicOf_ok n1.rm h1.w e
      obtain ⟨q, h4, h5⟩ := h1
      refine ⟨⟨fz, p', xs, hv, by rw [hw]; exact h2⟩, ?_⟩
      refine rE_thenB n1.rm n1.rs Stp.refl p1 fun y u M2 mu2 H2 n2 h6 p2 => ?_
      obtain ⟨t, R3, s3, hu⟩ := n2.rm.box h6 n2.st
      refine rE_thenB R3 (n2.rs.ext t) s3 p2 fun z v2 M4 mu4 H4 n4 h7 p4 => ?_
      obtain ⟨t2, R5, s5, hz⟩ := n4.rm.box h7 n4.st
      rw [h5]
      refine k W σ (mu4 ++ t2) H4 _ n q _ _ u v2 Q R5 ?_ (hu.stp R3 s5) hz ?_
      · exact s5.get (s3.get h4)
      · exact (p4.from (s3.trans s5 R3) R5).mono fun _ _ _ _ _ _ z w hw => z w ((hw.base (s3.trans s5 R3) R5).base n1.st n1.rm)
    · exact bad_end p1
  · exact bad_end p1
theorem okD_get {K : PySem.W.Frag} : OkD K CL (rGetD K CL.w) mGet := fun W σ mu H M n p d e v u Q R hp hd he h => by
  unfold mGet at h
  split at h
  · rename_i fz kvs e1
    split at h
    · rename_i c
      obtain ⟨xs, h1, h2⟩ := R.ob n p _ hp e1
      exact ⟨mu, fz, p, xs, kvs, d, e, rfl, h1, h2, c, hd, he, fun w hw => end_d R h hw⟩
    · exact bad_end h
  · exact bad_end h
theorem okD_setd {K : PySem.W.Frag} : OkD K CL (rSetdD K CL.w) mSetd := fun W σ mu H M n p d e v u Q R hp hd he h => by
  unfold mSetd at h
  split at h
  · rename_i kvs e1
    split at h
    · rename_i c
      obtain ⟨xs, h1, h2⟩ := R.ob n p _ hp e1
      have h1' : H p = some (dictO CL.w p xs) := h1
      have nf : ∀ od v, H p ≠ some (.frz od v) := fun _ _ z => by rw [h1'] at z; cases z
      refine ⟨mu, p, xs, kvs, d, e, rfl, h1', h2, c.1, hd, he, c.2, fun d' v' ed rv => ?_, fun zs ed rz => ?_⟩
      · rw [ed] at h; exact end_d R h rv
      · rw [ed] at h
        have st : Stp mu H mu (upd H p (dictO CL.w p zs)) := Stp.write hp nf
        exact h mu _ st (R.write (u := dictO CL.w p zs) (o := .dic false (dput kvs d e)) hp nf ⟨zs, upd_same, rz.stp R st⟩) u (Rv.stp R st he)
    · exact bad_end h
  · exact bad_end h
theorem okD_pop {K : PySem.W.Frag} : OkD K CL (rPopD K CL.w) mDpop := fun W σ mu H M n p d e v u Q R hp hd he h => by
  unfold mDpop at h
  split at h
  · rename_i kvs e1
    split at h
    · rename_i c
      obtain ⟨xs, h1, h2⟩ := R.ob n p _ hp e1
      have h1' : H p = some (dictO CL.w p xs) := h1
      have nf : ∀ od v, H p ≠ some (.frz od v) := fun _ _ z => by rw [h1'] at z; cases z
      refine ⟨mu, p, xs, kvs, d, rfl, h1', h2, c, hd, fun d' v' zs ed rv rz => ?_, fun ed => ?_⟩
      · rw [ed] at h
        have st : Stp mu H mu (upd H p (dictO CL.w p zs)) := Stp.write hp nf
        exact h mu _ st (R.write (u := dictO CL.w p zs) (o := .dic false (ddel kvs d)) hp nf ⟨zs, upd_same, rz.stp R st⟩) v' (Rv.stp R st rv)
      · rw [ed] at h; exact end_d R h he
    · exact bad_end h
  · exact bad_end h
end
/-! ### dict(xs), xs pairs with tuples as keys -/
section
variable {X : Cx} {K : PySem.W.Frag} {CL : CLs}
theorem storedAll_bk : ∀ (ps : List (NestedKey × Addr × Value)) (xs : List Ent), Refs xs → bkT (storedAllH (xsT xs) ps) = ps.foldl (fun acc p => eStore acc p.1 (.ref p.2.1) p.2.2) xs ∧ Refs (ps.foldl (fun acc p => eStore acc p.1 (.ref p.2.1) p.2.2) xs)
  | [], xs, h => ⟨bk_xsT h, h⟩
  | p :: ps, xs, h => by
    have h2 : Refs (eStore xs p.1 (.ref p.2.1) p.2.2) := by
      intro x hx
      unfold eStore at hx
      split at hx
      · obtain ⟨y, hy, rfl⟩ := List.mem_map.mp hx
        have := h y hy
        unfold ePut; split <;> exact this
      · rcases List.mem_append.mp hx with q | q
        · exact h x q
        · simp only [List.mem_singleton] at q; subst q; rfl
    obtain ⟨q1, q2⟩ := storedAll_bk ps _ h2
    refine ⟨?_, q2⟩
    rw [List.foldl_cons, ← q1]
    show bkT (storedAllH (storedH (xsT xs) p.1 p.2.1 p.2.2) ps) = _
    have e : storedH (xsT xs) p.1 p.2.1 p.2.2 = xsT (eStore xs p.1 (.ref p.2.1) p.2.2) := by
      have z := bk_store h p.1 p.2.1 p.2.2
      rw [← z]
      unfold xsT bkT
      rw [List.map_map]
      exact (List.map_id _).symm
    rw [e]
/-- pairs, told -/
def PrA (K : PySem.W.Frag) (mu : List Addr) (H : Hp) : List (D × D) → List (Addr × Addr × V) → Prop
  | [], ts => ts = []
  | p :: r, ts => ∃ t b v ts', ts = (t, b, v) :: ts' ∧ SqT K H t [.ref b, v] ∧ isTk p.1 = true ∧ Rv K mu H p.1 (.ref b) ∧ Rv K mu H p.2 v ∧ PrA K mu H r ts'
def rDictT (K : PySem.W.Frag) (w : World) : List V → Hp → VK → Prop := fun xs H Q => ∃ mu a ps ts, xs = [.ref a] ∧ SqL K H a (ts.map fun t => V.ref t.1) ∧ PrA K mu H ps ts ∧ ∀ zs p, Rdt K mu H (ps.foldl (fun acc q => dput acc q.1 q.2) []) zs → H p = none → Q (.ref p) (upd H p (dictO w p zs))
theorem prA_vals {pins : List (Addr × Obj)} {σ : Sg} {H : Hp} {s : Shared} {mu : List Addr} (I : Inv X pins σ H s) : ∀ {ps : List (D × D)} {ts : List (Addr × Addr × V)}, PrA X.K mu H ps ts →
    ∃ vs : List (NestedKey × Addr × Value), vs.length = ts.length ∧ (∀ x ∈ vs, (nestedKind X.prog X.w).is s.heap x.1 x.2.1) ∧
      (∀ (j : Nat) x, vs[j]? = some x → ∃ t, ts[j]? = some t ∧ PairAt s.heap t.1 (.ref x.2.1) x.2.2) ∧
      ∀ acc zs, Rdt X.K mu H acc zs → Rdt X.K mu H (ps.foldl (fun acc q => dput acc q.1 q.2) acc) (vs.foldl (fun acc p => eStore acc p.1 (.ref p.2.1) p.2.2) zs) ∧
        (vs.foldl (fun acc p => eStore acc p.1 (.ref p.2.1) p.2.2) zs).length ≤ zs.length + vs.length
  | [], ts, h => by cases (show ts = [] from h); exact ⟨[], rfl, (fun x hx => nomatch hx), (fun j x e => by simp at e), fun acc zs r => ⟨r, Nat.le_refl _⟩⟩
  | p :: ps, _, ⟨t, b, v, ts', e, h1, h2, h3, h4, h5⟩ => by
    subst e
    obtain ⟨vs, q1, q2, q3, q4⟩ := prA_vals I h5
    obtain ⟨its, rv, pt, _⟩ := I.tuple h1
    obtain ⟨u1, u2, rfl, r1, r2⟩ := vals2 rv
    cases r1
    refine ⟨(toNk p.1, b, u2) :: vs, by simp [q1], fun x hx => ?_, fun j x e => ?_, fun acc zs r => ?_⟩
    · rcases List.mem_cons.mp hx with z | z
      · subst z; exact key_is I h2 h3
      · exact q2 x z
    · cases j with
      | zero =>
        simp at e; subst e
        exact ⟨_, rfl, .inl pt⟩
      | succ j => exact q3 j x (by simpa using e)
    · obtain ⟨z1, z2⟩ := q4 _ _ (r.put (.inr h2) (show RelV (.ref b) (.ref b) from rfl) h3 r2 h4)
      refine ⟨z1, ?_⟩
      have := eStore_len zs (toNk p.1) (.ref b) u2
      simp only [List.foldl_cons, List.length_cons]
      omega
theorem call_dictT {w : World} (hc : X.calm = true) (hu : X.A.units + 64 < cLine) (hw : w = X.w) : CallR X (.type "dict") (rDictT X.K w) := fun pins s σ H xs us Q I r ⟨mu, a, ps, ts, ex, hl, hp, q⟩ => by
  subst ex
  subst hw
  obtain ⟨u, rfl, rx⟩ := vals1 r
  cases rx
  obtain ⟨its, rv, pl, hz⟩ := I.list hl
  obtain ⟨o, n, ho, hcl, hd, hdat⟩ := pl
  obtain ⟨vs, q1, q2, q3, q4⟩ := prA_vals I hp
  have ei : its = ts.map fun t => Value.ref t.1 := by
    have : ∀ {ts : List (Addr × Addr × V)} {us : List Value}, Vals (ts.map fun t => V.ref t.1) us → us = ts.map fun t => Value.ref t.1 := by
      intro ts
      induction ts with
      | nil => intro us r; cases r; rfl
      | cons t ts ih => intro us r; cases r with
        | cons h t => cases h; rw [ih t]; rfl
    exact this rv
  have hlen : vs.length ≤ sizeLine := by rw [q1]; rw [List.length_map] at hz; exact hz
  have hm : (s.heap.objs.size == sysModules) = false := beq_eq_false_iff_ne.mpr (Nat.ne_of_gt I.big)
  have P := PairArg.list (prog := X.prog) (w := X.w) a its.toArray (fun j => ((ts[j]?).map (·.1)).getD 0) (vs.map fun x => (Value.ref x.2.1, x.2.2))
  have room : (nestedKind X.prog X.w).room X.A.in1.in1 := by
    have h1 : X.A.in1.in1.units ≤ X.A.units + 4 := by first | (simp [Around.in1]; done) | (simp [Around.in1]; omega) | exact Nat.le_add_right _ _
    show X.A.in1.in1.units + 8 < cLine
    omega
  have hit : PairItems s.heap its.toArray (fun j => ((ts[j]?).map (·.1)).getD 0) (vs.map fun x => (Value.ref x.2.1, x.2.2)) := by
    refine ⟨by rw [ei]; simp [q1], fun j k v e => ?_⟩
    rw [List.getElem?_map] at e
    obtain ⟨x, e1, e2⟩ := Option.map_eq_some_iff.mp e
    obtain ⟨t, e3, e4⟩ := q3 j x e1
    simp only [Prod.mk.injEq] at e2
    simp only [e3, Option.map_some, Option.getD_some]
    refine ⟨?_, by rw [← e2.1, ← e2.2]; exact e4⟩
    rw [ei]
    simp [e3]
  have hhave : PairsHaveH (nestedKind X.prog X.w) (vs.map fun x => (Value.ref x.2.1, x.2.2)).length (PairRel (vs.map fun x => (Value.ref x.2.1, x.2.2))) vs := by
    refine ⟨by simp, fun i key v e => ?_⟩
    have e' : (vs.map fun x => (Value.ref x.2.1, x.2.2))[i]? = some (key, v) := e
    rw [List.getElem?_map] at e'
    obtain ⟨x, e1, e2⟩ := Option.map_eq_some_iff.mp e'
    simp only [Prod.mk.injEq] at e2
    exact ⟨x.1, x.2.1, by rw [e1, ← e2.2], e2.1.symm⟩
  have hstay : KeysStay (nestedKind X.prog X.w) s.heap s.heap.objs.size [] vs := fun h' hk x hx => by
    have z := q2 x hx
    exact ⟨NestedIs.at (fun b ob vs' m e _ => hk b ob (Nat.ne_of_lt (Heap.lt_size e)) (fun q => nomatch q) e) _ _ z.1, z.2⟩
  refine call_dict_pairsH (knd := nestedKind X.prog X.w) (ps := vs) P (I.ok.hd hc) room ⟨⟨o, n, ho, hcl, hd, hdat⟩, hit⟩ hhave hstay (by rw [List.length_map]; exact hlen) fun h' tk hd' hk => ?_
  · obtain ⟨z1, z2⟩ := q4 [] [] rfl
    obtain ⟨z3, _⟩ := storedAll_bk vs [] (fun x hx => nomatch hx)
    have e0 : storedAllH [] vs = storedAllH (xsT []) vs := rfl
    rw [e0] at hd'
    have d := DT0.ofT hd' hm (by
      have := congrArg List.length z3
      unfold bkT at this
      rw [List.length_map] at this
      rw [this]
      simp only [List.length_nil, Nat.zero_add] at z2
      omega)
    rw [z3] at d
    exact ⟨.ref s.heap.objs.size, _, I.laid (o := dictO X.w s.heap.objs.size _) (t' := tk) (fun b ob e => hk b ob (fun q => nomatch q) e) (Nat.le_refl _) (dictO_ok d), rfl, q _ _ z1 (I.hok.fresh (Nat.le_refl _))⟩
theorem pairsOf_ok {mu : List Addr} {H : Hp} : ∀ (ds : List D) (vs : List V) (acc kvs : List (D × D)), Rvs K mu H ds vs → pairsOf ds acc = some kvs → ∃ ps ts, vs = ts.map (fun t => V.ref t.1) ∧ PrA K mu H ps ts ∧ kvs = ps.foldl (fun acc q => dput acc q.1 q.2) acc
  | [], vs, acc, kvs, h, e => by
    cases (show vs = [] from h)
    simp only [pairsOf] at e; cases e
    exact ⟨[], [], rfl, rfl, rfl⟩
  | d :: ds, vs, acc, kvs, ⟨v, r, e1, h, t⟩, e => by
    subst e1
    unfold pairsOf at e
    split at e
    · rename_i e2; cases e2
    · rename_i k x r' e2
      injection e2 with e3 e4
      subst e3
      subst e4
      split at e
      · rename_i hk
        obtain ⟨ps, ts, q1, q2, q3⟩ := pairsOf_ok _ _ _ _ t e
        obtain ⟨a, ws, rfl, h1, h2⟩ := h
        obtain ⟨w1, r1, e5, h3, h4⟩ := h2
        obtain ⟨w2, r2, e6, h5, h6⟩ := h4
        have h6' : r2 = [] := h6
        subst h6'
        subst e6
        subst e5
        obtain ⟨b, rfl⟩ := tk_ref hk h3
        exact ⟨(k, x) :: ps, (a, b, w2) :: ts, by rw [q1]; rfl, ⟨a, b, w2, ts, rfl, h1, hk, h3, h5, q2⟩, q3⟩
      · cases e
    · cases e
theorem ok1_dict : Ok1 K CL (rDictT K CL.w) bDict := fun W σ mu H M x v Q R hx p => by
  unfold bDict at p
  split at p
  · rename_i ds e
    split at p
    · rename_i kvs e2
      split at p
      · obtain ⟨a, vs, rfl, h1, h2⟩ := lstOf_ok R hx e
        obtain ⟨ps, ts, rfl, q2, rfl⟩ := pairsOf_ok ds vs [] kvs h2 e2
        exact ⟨mu, a, ps, ts, rfl, h1, q2, fun zs l rz n => end_dic R p rz l n⟩
      · exact bad_end p
    · exact bad_end p
  · exact bad_end p
end
end MI
end
section
set_option Elab.async false
set_option linter.all false
set_option maxRecDepth 100000
set_option maxHeartbeats 4000000
/-! MIg: zip; loops and comprehensions over dicts -/
namespace MI
open PySem PySem.Spec PyProof.Rows L2
/-! ### zip -/
section
variable {K : PySem.W.Frag} {CL : CLs} {mu1 : List Addr} {H1 : Hp} {M1 : Mem}
theorem lst_stays {x : RV} {v : V} {ds : List D} (R1 : Rm K CL mu1 H1 M1) (h : Rw K CL mu1 H1 x v) (e : lstOf x M1 = some ds) :
    ∃ a, v = .ref a ∧ ∀ mu H M, Stp mu1 H1 mu H → Rm K CL mu H M → chkOk (chkR x M1) M = true → ∃ vs, SqL K H a vs ∧ Rvs K mu H ds vs := by
  by_cases hr : ∃ es, x = .d (.ro es)
  · obtain ⟨es, rfl⟩ := hr
    simp only [lstOf, Option.some.injEq] at e
    subst e
    obtain ⟨q, vs, rfl, h2, h3⟩ := h
    exact ⟨q, rfl, fun mu H M st R _ => ⟨vs, (h2.stp R1 st).sq, h3.stp R1 st⟩⟩
  · cases x with
    | o o =>
      cases o with
      | lst es =>
        simp only [lstOf, Option.some.injEq] at e
        subst e
        obtain ⟨q, rfl, ⟨vs, h2, h3⟩, h4⟩ := h
        exact ⟨q, rfl, fun mu H M st R _ => ⟨vs, .inl (.inl (st.keep _ _ h2 h4)), h3.stp R1 st⟩⟩
      | _ => simp [lstOf] at e
    | d d =>
      cases d with
      | ro es => exact absurd ⟨es, rfl⟩ hr
      | hdl n =>
        obtain ⟨q, h2, rfl⟩ := h
        cases ec : M1[n]? with
        | none => simp [lstOf, ec] at e
        | some o =>
          cases o with
          | lst es =>
            simp only [lstOf, ec, Option.some.injEq] at e
            subst e
            have ck : chkR (.d (.hdl n)) M1 = [(n, .lst es)] := by simp [chkR, ec]
            rw [ck]
            refine ⟨q, rfl, fun mu H M st R k => ?_⟩
            simp only [chkOk, List.all_cons, List.all_nil, Bool.and_true, decide_eq_true_eq] at k
            obtain ⟨ws, h5, h6⟩ := R.ob n q _ (st.get h2) k
            exact ⟨ws, .inl (.inl h5), h6⟩
          | _ => simp [lstOf, ec] at e
      | _ => simp [lstOf] at e
theorem chkOk_app {c d : Chk} {M : Mem} (h : chkOk (c ++ d) M = true) : chkOk c M = true ∧ chkOk d M = true := by
  unfold chkOk at h ⊢
  rw [List.all_append, Bool.and_eq_true] at h
  exact h
end
section
variable {X : Cx} {CL : CLs} {cl : Cl} {a b : Expr} {sa sb : SE} {p0 pos tpos : Pos} {elts : List Expr} {kk : Nat}
theorem snd_zip (ha : SndE X CL cl a sa) (hb : SndE X CL cl b sb) (hg : Gl X "zip") (hm : X.mg "zip" = none) (hst : starEach [a, b] X.env = (false, eval a X.env) :: starEach [b] X.env) (hst2 : starEach [b] X.env = [(false, eval b X.env)]) :
    SndI X CL cl (.Tuple elts kk tpos) (.Call (.Name "zip" p0) [a, b] [] pos) (MI.iZip sa sb) := fun W tk => by
  refine pi_imp (pi_zip hg hm (pa_cons (ha W tk) (pa_cons (hb W tk) pa_nil hst2) hst) hst (by rw [hst2]; rfl)) fun σ H R h => ?_
  obtain ⟨mu, r, M, hm, hs, p⟩ := h
  refine rE_then hm hs p fun x v M1 mu1 H1 n1 h1 p1 => ?_
  refine rE_then n1.rm n1.rs p1 fun y u M2 mu2 H2 n2 h2 p2 => ?_
  split at p2
  · rename_i xs ys e1 e2
    split at p2
    · rename_i hl
      obtain ⟨q1, rfl, f1⟩ := lst_stays n2.rm (h1.w.stp n1.rm n2.st) e1
      obtain ⟨q2, rfl, f2⟩ := lst_stays n2.rm h2.w e2
      have here : ∀ {c : Chk}, (∀ z ∈ c, M2[z.1]? = some z.2) → chkOk c M2 = true := fun {c} h => by
        unfold chkOk; rw [List.all_eq_true]; intro z hz; exact decide_eq_true (h z hz)
      have cR : ∀ x : RV, chkOk (chkR x M2) M2 = true := fun x => here fun z hz => by
        unfold chkR at hz
        split at hz
        · split at hz
          · rename_i e
            simp only [List.mem_singleton] at hz
            subst hz; exact e
          · cases hz
        · cases hz
      obtain ⟨vs, s1, s2⟩ := f1 _ _ _ Stp.refl n2.rm (cR x)
      obtain ⟨ws, s3, s4⟩ := f2 _ _ _ Stp.refl n2.rm (cR y)
      refine ⟨q1, q2, vs, ws, rfl, s1, s3, p2.here n2.rm _ ⟨fun i d mu H M e st R ck => ?_, fun mu H M st R ck => ?_⟩⟩
      · obtain ⟨c1, c2⟩ := chkOk_app ck
        obtain ⟨vs, g1, g2⟩ := f1 _ _ _ st R c1
        obtain ⟨ws, g3, g4⟩ := f2 _ _ _ st R c2
        rw [List.getElem?_map] at e
        obtain ⟨pr, e3, e4⟩ := Option.map_eq_some_iff.mp e
        obtain ⟨e5, e6⟩ := List.getElem?_zip_eq_some.mp e3
        obtain ⟨v, g5, g6⟩ := g2.get e5
        obtain ⟨w, g7, g8⟩ := g4.get e6
        refine ⟨⟨vs, ws, v, w, g1, g3, g5, g7⟩, fun z H' ⟨T, x', y', ez, nT, eH, z1, z2⟩ => ?_⟩
        subst ez
        subst eH
        have a1 := z1 vs g1
        rw [g5] at a1; cases a1
        have a2 := z2 ws g3
        rw [g7] at a2; cases a2
        have st' := Stp.laid R (u := .tup [v, w]) nT
        refine ⟨st', R.laid nT, ?_⟩
        subst e4
        exact ⟨T, [v, w], rfl, .inl (.inl upd_same), v, _, rfl, g6.stp R st', w, _, rfl, g8.stp R st', rfl⟩
      · obtain ⟨c1, c2⟩ := chkOk_app ck
        obtain ⟨vs, g1, g2⟩ := f1 _ _ _ st R c1
        obtain ⟨ws, g3, g4⟩ := f2 _ _ _ st R c2
        refine ⟨vs, ws, g1, g3, .inl ?_⟩
        rw [← g2.length, List.length_map, List.length_zip, ← hl, Nat.min_self]
        exact Nat.le_refl _
    · exact bad_end p2
  · exact bad_end p2
end
/-! ### a locked dict is walked -/
section
variable {X : Cx} {pins : List (Addr × Obj)} {σ : Sg} {H : Hp} {s : Shared} {d : Addr} {o : Obj} {xs : List Ent} {w : World}
theorem frzD (I : Inv X pins σ H s) (h : H d = some (.frz o (dictO w d xs))) :
    (d == sysModules) = false ∧ s.heap.get? d = some o ∧ o.ExactDict ∧ ∃ (es : Array DictEntry) (ep : Nat), o.data = .dict es ep ∧ es.size = xs.length ∧ ∀ (i : Nat) (e : Ent), xs[i]? = some e → ∃ en : DictEntry, es[i]? = some en ∧ en.key = e.2.1 := by
  obtain ⟨hd, hx⟩ := I.hok d _ h
  obtain ⟨⟨o', es, ep, ho, hc, hdt, he⟩, nd, sy, len⟩ := (show DT0 w s.heap d xs from hx.1)
  rw [hd] at ho
  cases ho
  refine ⟨sy, hd, hc, es, ep, hdt, ?_, fun i e hi => ?_⟩
  · rw [← Array.length_toList, he, List.length_map]
  · refine ⟨⟨e.1.hash w, e.2.1, e.2.2⟩, ?_, rfl⟩
    rw [← Array.getElem?_toList, he, List.getElem?_map, hi]; rfl
/-- the keys of the locked dict at d, in their order -/
def ItD (w : World) (d : Addr) (o : Obj) (xs : List Ent) : It :=
  ⟨fun i H => H d = some (.frz o (dictO w d xs)) ∧ i < xs.length, fun i H x H' => H' = H ∧ ∃ e, xs[i]? = some e ∧ RelV x e.2.1, fun i H => H d = some (.frz o (dictO w d xs)) ∧ xs.length ≤ i⟩
theorem relV_ex (e : Value) {v : V} (h : RelV v e) : ∃ x, RelV x e := ⟨v, h⟩
theorem turn_keysD {P : Program} {w' : World} {K : PySem.W.Frag} {tg : Expr} {es : Array DictEntry} {ep : Nat} (it : Addr) (hod : o.data = .dict es ep) (hv : ∀ e ∈ xs, ∃ x, RelV x e.2.1) : Turn P w' K tg (ItD w d o xs) [it] it (fun i h => h.IsKeyIter it d i xs.length ep) where
  mem := by simp
  obj := fun i h st b hb => by
    have e : b = it := by simpa using hb
    subst e
    obtain ⟨oi, e, c, dd⟩ := st
    exact ⟨oi, e, fun v z => by rw [dd] at z; cases z⟩
  keep := fun i h h' st k => st.at fun oi e => k it (by simp) oi e
  item := by
    intro X hP hw hK hc i pins s σ H E I hf st hg
    subst hP hw hK
    obtain ⟨hd, hi⟩ := hg
    obtain ⟨f0, f1, f2, f3, f4, f5⟩ := hf it (by simp)
    obtain ⟨hs, hgd, hx, es', ep', hdt, hsz, hk⟩ := frzD I hd
    obtain ⟨rfl, rfl⟩ := dict_ep hod hdt
    obtain ⟨en, e1, e2⟩ := hk i xs[i] (List.getElem?_eq_getElem hi)
    obtain ⟨x, rx⟩ := hv xs[i] (List.getElem_mem hi)
    refine next_key_item st hgd hdt hsz e1 fun h' st' sb => ?_
    have I1 : Inv X pins σ H { s with heap := h' } := I.turned (t' := s.toks) (fun b ob hb e => (sb.2 b hb).trans e) f0 f1 f3 f4 f5
    obtain ⟨oi, e, c, dd⟩ := id st'
    exact ⟨en.key, rfl, go_of (s := { s with heap := h' }) e c dd (by decide) ⟨x, H, I1, by rw [e2]; exact rx, ⟨rfl, xs[i], List.getElem?_eq_getElem hi, rx⟩, st', fun b hb => (hf b hb).1⟩⟩
  done := by
    intro X hP hw hK hc i pins s σ H E I hf st hg
    subst hP hw hK
    obtain ⟨hd, hi⟩ := hg
    obtain ⟨f0, f1, f2, f3, f4, f5⟩ := hf it (by simp)
    obtain ⟨hs, hgd, hx, es', ep', hdt, hsz, hk⟩ := frzD I hd
    obtain ⟨rfl, rfl⟩ := dict_ep hod hdt
    exact next_key_end (I.ok.hd hc) st hgd hdt hsz hi fun h' eb => ⟨rfl, I.turned (t' := s.toks) (fun b ob hb e => eb b ob hb e) f0 f1 f3 f4 f5⟩
  self := fun A i s Q E st h => wpAny_pyIter_keyiter st h
def iKeysD (w : World) (td : TE) : TI := fun σ H R => td σ H fun x H1 => ∃ d o xs, x = .ref d ∧ H1 d = some (.frz o (dictO w d xs)) ∧ (∀ e ∈ xs, ∃ x, RelV x e.2.1) ∧ R (ItD w d o xs) H1
theorem pi_keysD {tg e : Expr} {td : TE} (he : PE X e td) : PI X tg e (iKeysD w td) := by
  refine ⟨fun pins s σ H R I h => ?_⟩
  refine thn (he.run pins s σ H _ I h) fun u s1 ⟨x, H1, I1, rx, d, o, xs, ex, hd, hv, q⟩ => ?_
  subst ex
  cases rx
  obtain ⟨hs, hgd, hx, es, ep, hdt, hsz, _⟩ := frzD I1 hd
  refine iter_keys hs hgd hx hdt (pi_one (tk := s1.toks) I1 _ (turn_keysD _ hdt hv) ⟨_, Heap.get?_push_size _ rfl, rfl, ?_⟩ q)
  rw [hsz] <;> rfl
end
/-! ### ways told by choice -/
theorem ps_or {X : Cx} {st : Stmt} {t t' : TS} (h : PS X st t) (h' : PS X st t') : PS X st (fun D σ H => t D σ H ∨ t' D σ H) := ⟨fun pins s σ H D I q => q.elim (h.run pins s σ H D I) (h'.run pins s σ H D I)⟩
theorem pe_or {X : Cx} {e : Expr} {t t' : TE} (h : PE X e t) (h' : PE X e t') : PE X e (fun σ H Q => t σ H Q ∨ t' σ H Q) := ⟨fun pins s σ H Q I q => q.elim (h.run pins s σ H Q I) (h'.run pins s σ H Q I)⟩
/-! ### the lock, on and off -/
section
variable {K : PySem.W.Frag} {CL : CLs} {mu mu' : List Addr} {H H' : Hp} {M M' : Mem} {r : Env} {σ : Sg}
theorem Ro.updM {a Da : Addr} {u0 u : HO} (hD : H Da = some u0) (hm : isMut u0 = true) (na : a ≠ Da) {o : O} (h : Ro K CL mu H o a) : Ro K CL mu (upd H Da u) o a := by
  cases o with
  | lst ds => obtain ⟨vs, e, q⟩ := h; exact ⟨vs, by rw [upd_ne na]; exact e, q.updM hD hm⟩
  | dic fz kvs => obtain ⟨vs, e, q⟩ := h; exact ⟨vs, e.at (upd_ne na), q.updM hD hm⟩
  | ins c fs => obtain ⟨C, dx, fs', c', e, q⟩ := h; exact ⟨C, dx, fs', c', by rw [upd_ne na]; exact e, q.updM hD hm⟩
structure Lock (K : PySem.W.Frag) (CL : CLs) (mu : List Addr) (H : Hp) (M : Mem) (n : Nat) (kvs : List (D × D)) (a : Addr) (xs : List Ent) : Prop where
  at_ : mu[n]? = some a
  mem : M[n]? = some (.dic false kvs)
  ob : H a = some (dictO CL.w a xs)
  rel : Rdt K mu H kvs xs
theorem Rm.lock (R : Rm K CL mu H M) {n : Nat} {a : Addr} {kvs : List (D × D)} (e1 : mu[n]? = some a) (e2 : M[n]? = some (.dic false kvs)) : ∃ xs, Lock K CL mu H M n kvs a xs := by
  obtain ⟨xs, h1, h2⟩ := R.ob n a _ e1 e2
  exact ⟨xs, e1, e2, h1, h2⟩
section
variable {n : Nat} {kvs : List (D × D)} {a : Addr} {xs : List Ent} {od : Obj}
theorem Lock.nf (L : Lock K CL mu H M n kvs a xs) : ∀ o v, H a ≠ some (.frz o v) := fun o v z => by rw [L.ob] at z; cases z
theorem Lock.stp (L : Lock K CL mu H M n kvs a xs) : Stp mu H mu (upd H a (.frz od (dictO CL.w a xs))) := Stp.write L.at_ L.nf
theorem Lock.rm (L : Lock K CL mu H M n kvs a xs) (R : Rm K CL mu H M) : Rm K CL mu (upd H a (.frz od (dictO CL.w a xs))) (M.set n (.dic true kvs)) :=
  R.write L.at_ L.nf ⟨xs, ⟨od, upd_same⟩, L.rel.stp R L.stp⟩
/-- the step from ahead of the lock to behind it -/
theorem Lock.out (L : Lock K CL mu H M n kvs a xs) (s : Stp mu (upd H a (.frz od (dictO CL.w a xs))) mu' H') : H' a = some (.frz od (dictO CL.w a xs)) ∧ Stp mu H mu' (upd H' a (dictO CL.w a xs)) := by
  have ha : H' a = some (.frz od (dictO CL.w a xs)) := s.frz a od _ upd_same
  refine ⟨ha, s.pre, fun b hb => ?_, fun b o e nb => ?_, fun b o v e => ?_⟩
  · rcases s.new b hb with z | z
    · exact .inl z
    · by_cases hba : b = a
      · subst hba; exact .inl (List.mem_of_getElem? L.at_)
      · rw [upd_ne hba] at z; exact .inr z
  · have hba : b ≠ a := fun z => nb (by rw [z]; exact List.mem_of_getElem? L.at_)
    rw [upd_ne hba]
    exact s.keep b o (by rw [upd_ne hba]; exact e) nb
  · have hba : b ≠ a := fun z => L.nf o v (by rw [← z]; exact e)
    rw [upd_ne hba]
    exact s.frz b o v (by rw [upd_ne hba]; exact e)
theorem Lock.rm' (L : Lock K CL mu H M n kvs a xs) (R : Rm K CL mu H M) (s : Stp mu (upd H a (.frz od (dictO CL.w a xs))) mu' H') (R' : Rm K CL mu' H' M') (e : M'[n]? = some (.dic true kvs)) : Rm K CL mu' (upd H' a (dictO CL.w a xs)) (M'.set n (.dic false kvs)) := by
  obtain ⟨ha, _⟩ := L.out s
  have hn : mu'[n]? = some a := s.get L.at_
  refine ⟨by simp [R'.len], R'.nd, fun m b o e1 e2 => ?_⟩
  by_cases hm : n = m
  · subst hm
    rw [hn] at e1; cases e1
    have hl : n < M'.length := (List.getElem?_eq_some_iff.mp e).1
    rw [List.getElem?_set_self hl] at e2
    simp only [Option.some.injEq] at e2
    subst e2
    have h1 : Rdt K mu' H' kvs xs := (L.rel.stp R L.stp).stp (L.rm R) s
    exact ⟨xs, upd_same, h1.updM ha rfl⟩
  · rw [List.getElem?_set_ne hm] at e2
    refine (R'.ob m b o e1 e2).updM ha rfl fun z => hm ?_
    subst z
    obtain ⟨h1, q1⟩ := List.getElem?_eq_some_iff.mp hn
    obtain ⟨h2, q2⟩ := List.getElem?_eq_some_iff.mp e1
    exact (List.getElem_inj R'.nd).mp (q1.trans q2.symm)
theorem Lock.rr (L : Lock K CL mu H M n kvs a xs) (s : Stp mu (upd H a (.frz od (dictO CL.w a xs))) mu' H') {x : RV} {v : V} (h : Rr K CL mu' H' (upd H a (.frz od (dictO CL.w a xs))) x v) : Rr K CL mu' (upd H' a (dictO CL.w a xs)) H x v := by
  obtain ⟨ha, _⟩ := L.out s
  cases x with
  | d d => exact Rv.updM ha rfl h
  | o o =>
    obtain ⟨b, e, h1, h2, h3⟩ := h
    have hn : mu'[n]? = some a := s.get L.at_
    have hba : b ≠ a := fun z => h2 (by rw [z]; exact List.mem_of_getElem? hn)
    exact ⟨b, e, h1.updM ha rfl hba, h2, by rw [upd_ne hba] at h3; exact h3⟩
/-- what is walked in the lock -/
theorem Lock.wk (L : Lock K CL mu H M n kvs a xs) (R : Rm K CL mu H M) : Wk K CL (ItD CL.w a od xs) (kvs.map (·.1)) [(n, .dic true kvs)] mu (upd H a (.frz od (dictO CL.w a xs))) where
  go := fun i d mu2 H2 M2 e st R2 ck => by
    have ha := st.frz a od _ upd_same
    have rel := (L.rel.stp R L.stp).stp (L.rm R) st
    have hi : i < xs.length := by
      rw [← rel.length]
      have := (List.getElem?_eq_some_iff.mp e).1
      simpa using this
    refine ⟨⟨ha, hi⟩, fun x H' ⟨e1, en, e2, rx⟩ => ?_⟩
    subst e1
    obtain ⟨p, kv, v, e3, e4, e5, e6, _⟩ := rel.at e2
    rw [List.getElem?_map, e3] at e
    cases e
    rw [RelV.inj rx e5]
    exact ⟨Stp.refl, R2, e6⟩
  stop := fun mu2 H2 M2 st R2 ck => ⟨st.frz a od _ upd_same, by rw [List.length_map, L.rel.length]; exact Nat.le_refl _⟩
end
end
/-! ### for -/
section
variable {X : Cx} {CL : CLs} {cl : Cl} {W : WX} {a b c : Expr} {sts : List Stmt} {u : SS}
theorem for_go {t : Tg} {xs : List D} {ck : Chk} {D : Ends} {σ : Sg} {mu mu1 : List Addr} {H H1 : Hp} {M1 : Mem} {r : Env} {J : It} (wk : Wk X.K CL J xs ck mu1 H1) (R1 : Rm X.K CL mu1 H1 M1) (S1 : Rst X.K mu1 H1 r σ) (s0 : Stp mu H mu1 H1)
    (Rx : ∃ M0, Rm X.K CL mu H M0) (p1 : PsS X.K CL W mu H (forL (u cl) t ck xs r M1) D) :
    ∃ Wv : Nat → Nat → Sg → Hp → Prop, (∃ m, Wv 0 m σ H1) ∧ ∀ i m σ H, Wv i m σ H →
      (J.stop i H ∧ D.nx σ H) ∨ (J.go i H ∧ ∃ N : Sg → Hp → Prop, (∀ σ' H', N σ' H' → ∃ m', m' < m ∧ Wv (i + 1) m' σ' H') ∧ ∀ x H', J.yld i H x H' → gTg X.K t x σ H' fun σ2 H2 => rS X.K CL W cl u { D with nx := N, ct := N, bk := D.nx } σ2 H2) := by
  obtain ⟨M0, R0⟩ := Rx
  refine ⟨fun i m σ' H' => m = xs.length - i ∧ i ≤ xs.length ∧ ∃ mu' r' M', Rm X.K CL mu' H' M' ∧ Rst X.K mu' H' r' σ' ∧ Stp mu1 H1 mu' H' ∧ PsS X.K CL W mu H (forL (u cl) t ck (xs.drop i) r' M') D, ⟨xs.length, by simp, Nat.zero_le _, mu1, r, M1, R1, S1, Stp.refl, p1⟩, ?_⟩
  rintro i m σ' H' ⟨rfl, hi, mu', r', M', R', S', st, p'⟩
  have st0 := s0.trans st R1
  by_cases hlt : i < xs.length
  · rw [List.drop_eq_getElem_cons hlt] at p'
    unfold forL at p'
    split at p'
    · rename_i hck
      split at p'
      · rename_i r1 ea
        obtain ⟨g1, g2⟩ := wk.go i xs[i] mu' H' M' (List.getElem?_eq_getElem hlt) st R' hck
        refine .inr ⟨g1, fun σ2 H2 => ∃ m', m' < xs.length - i ∧ (m' = xs.length - (i + 1) ∧ i + 1 ≤ xs.length ∧ ∃ mu' r' M', Rm X.K CL mu' H2 M' ∧ Rst X.K mu' H2 r' σ2 ∧ Stp mu1 H1 mu' H2 ∧ PsS X.K CL W mu H (forL (u cl) t ck (xs.drop (i + 1)) r' M') D), fun _ _ z => z, fun y H2 hy => ?_⟩
        obtain ⟨s2, R2, hv⟩ := g2 y H2 hy
        refine gTg_ok t ea hv (S'.stp R' s2) fun σ2 hs2 => ⟨mu', r1, M', R2, hs2, ?_⟩
        cases eb : u cl r1 M' with
        | nx r2 M2 =>
          rw [eb] at p'
          exact fun mu3 H3 σ3 s3 R3 q3 => ⟨xs.length - (i + 1), by omega, rfl, hlt, mu3, r2, M2, R3, q3, (st.trans s2 R').trans s3 R2, p'⟩
        | ret y M2 =>
          rw [eb] at p'
          exact PsS.from (res := .ret y M2) p' (st0.trans s2 R') R2
        | err c M2 =>
          rw [eb] at p'
          exact PsS.from (res := .err c M2 _) p' (st0.trans s2 R') R2
        | bad => rw [eb] at p'; exact p'
      · exact p'.elim
    · exact p'.elim
  · have e : i = xs.length := by omega
    subst e
    rw [List.drop_length] at p'
    unfold forL at p'
    split at p'
    · rename_i hck
      exact .inl ⟨wk.stop mu' H' M' st R' hck, p'.here st0 R' S'⟩
    · exact p'.elim
theorem dicAt_ok {mu : List Addr} {H : Hp} {M : Mem} {r : Env} {σ : Sg} {i n : Nat} {kvs : List (D × D)} (R : Rm X.K CL mu H M) (S : Rst X.K mu H r σ) (e : dicAt r[i]? M = some (n, kvs)) : ∃ a, σ[i]? = some (some (.ref a)) ∧ mu[n]? = some a ∧ M[n]? = some (.dic false kvs) := by
  unfold dicAt at e
  split at e
  · rename_i m er
    split at e
    · rename_i kv em
      cases e
      obtain ⟨v, h1, a, h2, rfl⟩ := S.at_ i _ er
      exact ⟨a, h1, h2, em⟩
    · cases e
  · cases e
theorem stm_forN {tg : Expr} {t : Tg} {i : Nat} {x : Str} {p : Pos} {pos : Pos} (hc : X.calm = true) (hx : PE X (.Name x p) (tVar i)) (hE : SndE X CL cl (.Name x p) (eVar i)) (hg : SndTg X tg t) (hb : SndB X CL cl sts u) : SndS X CL cl (.For tg (.Name x p) sts [] pos) (sForN t i u) := fun W tk po => by
  have A := stm_for hc (snd_seq (tg := tg) hE) hg hb (fun _ => rfl) (pos := pos) W tk po
  have B := ps_lock (ps_for po hc (pi_keysD (w := CL.w) (tg := tg) hx) hg (hb W tk po) (fun _ => rfl) (pos := pos))
  refine ps_imp (ps_or A B) fun D σ H h => ?_
  obtain ⟨mu, r, M, hm, hs, p⟩ := h
  unfold sForN at p
  split at p
  · rename_i n kvs e
    right
    obtain ⟨a, h1, h2, h3⟩ := dicAt_ok hm hs e
    obtain ⟨xs, L⟩ := hm.lock h2 h3
    refine ⟨a, dictO CL.w a xs, L.ob, True.intro, fun od => ?_⟩
    refine ⟨.ref a, h1, a, od, xs, rfl, upd_same, fun en hen => ?_, ?_⟩
    · obtain ⟨_, _, kv, _, _, z, _⟩ := L.rel.mem en hen; exact ⟨kv, z⟩
    · refine for_go (M1 := M.set n (.dic true kvs)) (r := r) (mu := mu) (H := upd H a (.frz od (dictO CL.w a xs))) (L.wk hm) (L.rm hm) (hs.stp hm L.stp) Stp.refl ⟨_, L.rm hm⟩ ?_
      cases eb : forL (u cl) t [(n, .dic true kvs)] (kvs.map (·.1)) r (M.set n (.dic true kvs)) with
      | nx r1 M1 =>
        rw [eb] at p
        simp only at p
        intro mu' H' σ' s' R' S'
        obtain ⟨ha, st⟩ := L.out s'
        refine ⟨ha, ?_⟩
        unfold unlk at p
        split at p
        · rename_i M2 e2
          split at e2
          · rename_i e3
            cases e2
            exact p mu' _ σ' st (L.rm' hm s' R' e3) ⟨S'.len, fun j d hj => let ⟨v, q1, q2⟩ := S'.at_ j d hj; ⟨v, q1, q2.updM ha rfl⟩⟩
          · cases e2
        · exact p.elim
      | ret y M1 =>
        rw [eb] at p
        simp only at p
        intro mu' H' v s' R' hv
        obtain ⟨ha, st⟩ := L.out s'
        refine ⟨ha, ?_⟩
        unfold unlk at p
        split at p
        · rename_i M2 e2
          split at e2
          · rename_i e3
            cases e2
            exact p mu' _ v st (L.rm' hm s' R' e3) (L.rr s' hv)
          · cases e2
        · exact p.elim
      | err c r1 M1 => rw [eb] at p; exact p.elim
      | bad => rw [eb] at p; exact p.elim
  · left
    exact ⟨mu, r, M, hm, hs, p⟩
end
end MI
end
section
set_option Elab.async false
set_option linter.all false
set_option maxRecDepth 100000
set_option maxHeartbeats 4000000
/-! MIh: comprehensions over a name that may hold a dict; while; try without a name; fields, methods, classes -/
namespace MI
open PySem PySem.Spec PyProof.Rows L2
section
variable {X : Cx} {CL : CLs} {cl : Cl} {W : WX}
theorem lc_go {selt : SE} {stst : STt} {t : Tg} {own : List Nat} (hi : ∀ i ∈ t.ix, i ∈ own) {σ : Sg} {H H1 : Hp} {Q : VK} {mu mu1 : List Addr} {M1 : Mem} {r : Env} {J : It} {xs : List D} {c : Chk} (wk : Wk X.K CL J xs c mu1 H1) (R1 : Rm X.K CL mu1 H1 M1) (S1 : Rst X.K mu1 H1 r σ) (st1 : Stp mu H mu1 H1)
    (p1 : Pst X.K CL W σ mu H (compL (selt cl) (stst cl) t c (MI.wipe r own) xs [] M1) fun x _ mu' H' => ∀ v, Rr X.K CL mu' H' H x v → Q v H') (D : Addr) (nD : H1 D = none) :
    ∃ Wv : Nat → Nat → Hp → Prop, (∃ m, Wv 0 m (upd H1 D (.lst []))) ∧ ∀ i m H, Wv i m H →
      (J.stop i H ∧ Q (.ref D) H) ∨ (J.go i H ∧ ∃ Nx : Hp → Prop, (∀ H', Nx H' → ∃ m', m' < m ∧ Wv (i + 1) m' H') ∧ ∀ x H', J.yld i H x H' → gTg X.K t x (L2.wipe σ own) H' fun σ2 H2 => L2.wipe σ2 own = L2.wipe σ own ∧ rT X.K CL Wno cl stst σ2 H2 fun b H3 =>
        if b = true then rE X.K CL Wno cl selt σ2 H3 fun y H4 => ∃ acc, H4 D = some (.lst acc) ∧ acc.length < sizeLine ∧ Nx (upd H4 D (.lst (acc ++ [y]))) else Nx H3) := by
  have dD : D ∉ mu1 := R1.fresh nD
  refine ⟨fun i m H' => m = xs.length - i ∧ i ≤ xs.length ∧ ∃ mu' M' acc av, Rm X.K CL mu' H' M' ∧ Stp mu1 H1 mu' H' ∧ D ∉ mu' ∧ H' D = some (.lst av) ∧ Rvs X.K mu' H' acc av ∧
    Pst X.K CL W σ mu H (compL (selt cl) (stst cl) t c (MI.wipe r own) (xs.drop i) acc M') fun x _ mu' H' => ∀ v, Rr X.K CL mu' H' H x v → Q v H', ⟨xs.length, by simp, Nat.zero_le _, mu1, M1, [], [], R1.laid nD, Stp.laid R1 nD, dD, upd_same, rfl, p1⟩, ?_⟩
  rintro i m H' ⟨rfl, hle, mu', M', acc, av, R', st, nm, hD, ha, p'⟩
  by_cases hlt : i < xs.length
  · rw [List.drop_eq_getElem_cons hlt] at p'
    unfold compL at p'
    split at p'
    · rename_i ck
      split at p'
      · rename_i r1 ea
        obtain ⟨g1, g2⟩ := wk.go i xs[i] mu' H' M' (List.getElem?_eq_getElem hlt) st R' ck
        refine .inr ⟨g1, fun H2 => ∃ m', m' < xs.length - i ∧ (m' = xs.length - (i + 1) ∧ i + 1 ≤ xs.length ∧ ∃ mu' M' acc av, Rm X.K CL mu' H2 M' ∧ Stp mu1 H1 mu' H2 ∧ D ∉ mu' ∧ H2 D = some (.lst av) ∧ Rvs X.K mu' H2 acc av ∧
          Pst X.K CL W σ mu H (compL (selt cl) (stst cl) t c (MI.wipe r own) (xs.drop (i + 1)) acc M') fun x _ mu' H' => ∀ v, Rr X.K CL mu' H' H x v → Q v H'), fun _ z => z, fun y H2 hy => ?_⟩
        obtain ⟨s2, R2, hv⟩ := g2 y H2 hy
        have hD2 : H2 D = some (.lst av) := s2.keep _ _ hD nm
        have ha2 := ha.stp R' s2
        have S2 : Rst X.K mu' H2 (MI.wipe r own) (L2.wipe σ own) := (((S1.stp R1 st).stp R' s2)).wipe own
        refine gTg_wp t hi ea hv S2 fun σ2 S3 hw => ⟨hw.trans (wipe_wipe σ own), ?_⟩
        refine ⟨mu', r1, M', R2, S3, ?_⟩
        cases et : stst cl r1 M' with
        | err c M2 => rw [et] at p'; exact p'.elim
        | bad => rw [et] at p'; exact p'.elim
        | ok b M2 =>
          rw [et] at p'
          intro mu3 H3 s3 R3
          have hD3 : H3 D = some (.lst av) := s3.keep _ _ hD2 nm
          have nm3 : D ∉ mu3 := s3.out hD2 nm
          have ha3 := ha2.stp R2 s3
          have st3 : Stp mu1 H1 mu3 H3 := (st.trans s2 R').trans s3 R2
          cases b with
          | false =>
            simp only [Res.calm, Res.bind, Bool.false_eq_true, if_false] at p' ⊢
            exact ⟨xs.length - (i + 1), by omega, rfl, hlt, mu3, M2, acc, av, R3, st3, nm3, hD3, ha3, p'⟩
          | true =>
            simp only [Res.calm, Res.bind, if_true] at p' ⊢
            refine ⟨mu3, r1, M2, R3, S3.stp R2 s3, ?_⟩
            cases ee : selt cl r1 M2 with
            | err c M4 => rw [ee] at p'; exact p'.elim
            | bad => rw [ee] at p'; exact p'.elim
            | ok y M4 =>
              rw [ee] at p'
              intro mu4 H4 s4 R4 w hw
              have hD4 : H4 D = some (.lst av) := s4.keep _ _ hD3 nm3
              obtain ⟨tt, R5, s5, hb⟩ := R4.box hw s4
              have nm5 : D ∉ mu4 ++ tt := s5.out hD3 nm3
              have ha5 : Rvs X.K (mu4 ++ tt) H4 acc av := ha3.stp R3 s5
              simp only at p'
              split at p'
              · rename_i hl
                refine ⟨av, hD4, by rw [← ha5.length]; exact hl, xs.length - (i + 1), by omega, rfl, hlt, mu4 ++ tt, _, acc ++ [(MI.box y M4).1], av ++ [w], R5.updL hD4 nm5, (st3.trans s5 R3).updL nD, nm5, upd_same, (ha5.append (Rvs.one hb)).updL hD4, p'⟩
              · exact p'.elim
      · exact p'.elim
    · exact p'.elim
  · have e : i = xs.length := by omega
    subst e
    rw [List.drop_length] at p'
    unfold compL at p'
    split at p'
    · rename_i ck
      refine .inl ⟨wk.stop mu' H' M' st R' ck, ?_⟩
      exact p' mu' H' (st1.trans st R1) R' (.ref D) ⟨D, rfl, ⟨av, hD, ha⟩, nm, st1.free R1 nD⟩
    · exact p'.elim
theorem lc_readN {selt : SE} {stst : STt} {t : Tg} {own : List Nat} {i : Nat} (hi : ∀ i ∈ t.ix, i ∈ own) {σ : Sg} {H : Hp} {Q : VK} (h : rE X.K CL W cl (eCompN selt stst t own i) σ H Q) :
    rE X.K CL W cl (eComp selt stst t own (iSeq (eVar i))) σ H Q ∨ tLockE (tLc (iKeysD CL.w (tVar i)) (gTg X.K t) (rT X.K CL Wno cl stst) (rE X.K CL Wno cl selt) own) σ H Q := by
  obtain ⟨mu, r, M, hm, hs, p⟩ := h
  unfold eCompN at p
  split at p
  · rename_i n kvs e
    right
    obtain ⟨a, h1, h2, h3⟩ := dicAt_ok hm hs e
    obtain ⟨xs, L⟩ := hm.lock h2 h3
    refine ⟨a, dictO CL.w a xs, L.ob, True.intro, fun od => ?_⟩
    refine ⟨.ref a, h1, a, od, xs, rfl, upd_same, fun en hen => ?_, fun D nD => ?_⟩
    · obtain ⟨_, _, kv, _, _, z, _⟩ := L.rel.mem en hen; exact ⟨kv, z⟩
    · refine lc_go (Q := fun v H' => H' a = some (.frz od (dictO CL.w a xs)) ∧ Q v (upd H' a (dictO CL.w a xs))) (W := W) (mu := mu) (H := upd H a (.frz od (dictO CL.w a xs))) hi (L.wk hm) (L.rm hm) (hs.stp hm L.stp) Stp.refl ?_ D nD
      cases eb : compL (selt cl) (stst cl) t [(n, .dic true kvs)] (MI.wipe r own) (kvs.map (·.1)) [] (M.set n (.dic true kvs)) with
      | ok x M1 =>
        rw [eb] at p
        simp only at p
        intro mu' H' s' R' v hv
        obtain ⟨ha, st⟩ := L.out s'
        refine ⟨ha, ?_⟩
        unfold unlk at p
        split at p
        · rename_i M2 e2
          split at e2
          · rename_i e3
            cases e2
            exact p mu' _ st (L.rm' hm s' R' e3) v (L.rr s' hv)
          · cases e2
        · exact p.elim
      | err c M1 => rw [eb] at p; exact p.elim
      | bad => rw [eb] at p; exact p.elim
  · left
    exact ⟨mu, r, M, hm, hs, p⟩
variable {elt tg : Expr} {ifs : List Expr} {scope : Scope} {own : List (Str × Nat)} {pos spos p : Pos} {selt : SE} {stst : STt} {t : Tg} {i : Nat} {x : Str}
theorem snd_compN (hc : X.calm = true) (hN : X.N.Nodup) (hx : PE X (.Name x p) (tVar i)) (hE : SndE X CL cl (.Name x p) (eVar i)) (ok : BlkOk X.N X.env.scope scope own) (hix : ∀ i ∈ t.ix, i ∈ own.map (·.2))
    (hg : ∀ s H C cc fp, SndTg (Blk X scope s H C cc fp) tg t) (ht : ∀ s H C cc fp, SndTs (Blk X scope s H C cc fp) CL cl ifs stst) (he : ∀ s H C cc fp, SndE (Blk X scope s H C cc fp) CL cl elt selt) :
    SndE X CL cl (.ListComp elt [⟨tg, .Name x p, ifs, 0⟩] scope pos) (eCompN selt stst t (own.map (·.2)) i) := fun W tk =>
  pe_imp (pe_or (snd_comp hc hN (snd_seq (tg := tg) hE) ok hix hg ht he (fun _ => rfl) W tk)
    (pe_lock (pe_lc (g := gTg X.K t) (tt := rT X.K CL Wno cl stst) (te := rE X.K CL Wno cl selt) hc hN (pi_keysD (w := CL.w) hx) ok hg ht (fun s H C cc fp => he s H C cc fp Wno takes_no) (fun _ => rfl)))) fun σ H Q h => lc_readN hix h
theorem stm_setCompN {spos : Pos} {j : Nat} {y : Str} {py : Pos} (hc : X.calm = true) (hN : X.N.Nodup) (hy : X.N[j]? = some y) (hyl : X.env.scope.names.lookup y = some .local) (hsw : swapsWith (.ListComp elt [⟨tg, .Name x p, ifs, 0⟩] scope pos) (some (.Name y py)) spos.line X.env = pure true)
    (hx : PE X (.Name x p) (tVar i)) (hE : SndE X CL cl (.Name x p) (eVar i)) (ok : BlkOk X.N X.env.scope scope own) (hix : ∀ i ∈ t.ix, i ∈ own.map (·.2))
    (hg : ∀ s H C cc fp, SndTg (Blk X scope s H C cc fp) tg t) (ht : ∀ s H C cc fp, SndTs (Blk X scope s H C cc fp) CL cl ifs stst) (he : ∀ s H C cc fp, SndE (Blk X scope s H C cc fp) CL cl elt selt) :
    SndS X CL cl (.Assign [.Name y py] (.ListComp elt [⟨tg, .Name x p, ifs, 0⟩] scope pos) spos) (sSet j (eCompN selt stst t (own.map (·.2)) i)) := fun W tk po => by
  refine ps_imp (ps_or (ps_setLc (g := gTg X.K t) (tt := rT X.K CL Wno cl stst) (te := rE X.K CL Wno cl selt) hc hN hy hyl hsw (snd_seq (tg := tg) hE W tk) ok hg ht (fun s H C cc fp => he s H C cc fp Wno takes_no) (fun _ => rfl))
    (ps_lock (ps_setLc (g := gTg X.K t) (tt := rT X.K CL Wno cl stst) (te := rE X.K CL Wno cl selt) hc hN hy hyl hsw (pi_keysD (w := CL.w) hx) ok hg ht (fun s H C cc fp => he s H C cc fp Wno takes_no) (fun _ => rfl)))) fun D σ H h => ?_
  obtain ⟨mu, r, M, hm, hs, p⟩ := h
  have z : rE X.K CL W cl (eCompN selt stst t (own.map (·.2)) i) σ H (fun v H1 => D.nx (σ.set j (some v)) H1) := rE_stm hm hs Stp.refl p fun x v M1 mu1 H1 n1 h1 p1 => by
    obtain ⟨tt, R2, s2, hv⟩ := n1.rm.box h1 n1.st
    exact p1.here s2 R2 ((n1.rs.ext tt).set hv)
  rcases lc_readN hix z with z | ⟨d, u, h1, h2, h3⟩
  · exact .inl (lc_read hix z)
  · exact .inr ⟨d, u, h1, h2, h3⟩
end
/-! ### while -/
section
variable {X : Cx} {CL : CLs} {cl : Cl} {c : Expr} {sts : List Stmt} {u : SS} {tc : STt} {pos : Pos}
theorem stm_while (ht : SndT X CL cl c tc) (hb : SndB X CL cl sts u) : SndS X CL cl (.While c sts [] pos) (sWhile tc u) := fun W tk po => by
  refine ps_imp (ps_while po (ht W tk) (hb W tk po)) fun D σ H h => ?_
  obtain ⟨mu, r, M, hm, hs, p⟩ := h
  refine ⟨fun m σ' H' => ∃ mu' r' M', Rm X.K CL mu' H' M' ∧ Rst X.K mu' H' r' σ' ∧ Stp mu H mu' H' ∧ PsS X.K CL W mu H (whileL (tc cl) (u cl) m r' M') D, ⟨100000, mu, r, M, hm, hs, Stp.refl, p⟩, ?_⟩
  rintro m σ' H' ⟨mu', r', M', R', S', st, p'⟩
  cases m with
  | zero => exact p'.elim
  | succ m =>
    refine ⟨mu', r', M', R', S', ?_⟩
    unfold whileL at p'
    cases et : tc cl r' M' with
    | err c M2 =>
      rw [et] at p'
      intro mu3 H3 C hC s3 R3
      exact p' mu3 H3 σ' C hC (st.trans s3 R') R3 (S'.stp R' s3)
    | bad => rw [et] at p'; exact p'.elim
    | ok b M2 =>
      rw [et] at p'
      intro mu3 H3 s3 R3
      have S3 := S'.stp R' s3
      have st3 := st.trans s3 R'
      cases b with
      | false =>
        simp only [Bool.false_eq_true, if_false] at p' ⊢
        exact p'.here st3 R3 S3
      | true =>
        simp only [if_true] at p' ⊢
        refine ⟨fun σ2 H2 => ∃ m', m' < m + 1 ∧ ∃ mu' r' M', Rm X.K CL mu' H2 M' ∧ Rst X.K mu' H2 r' σ2 ∧ Stp mu H mu' H2 ∧ PsS X.K CL W mu H (whileL (tc cl) (u cl) m' r' M') D, fun _ _ z => z, mu3, r', M2, R3, S3, ?_⟩
        cases eb : u cl r' M2 with
        | nx r2 M4 =>
          rw [eb] at p'
          exact fun mu4 H4 σ4 s4 R4 S4 => ⟨m, Nat.lt_succ_self m, mu4, r2, M4, R4, S4, st3.trans s4 R3, p'⟩
        | ret y M4 =>
          rw [eb] at p'
          exact PsS.from (res := .ret y M4) p' st3 R3
        | err c r4 M4 =>
          rw [eb] at p'
          exact PsS.from (res := .err c r4 M4) p' st3 R3
        | bad => rw [eb] at p'; exact p'.elim
theorem stm_pass : SndS X CL cl (.Pass pos) sPass := fun W tk po => by
  refine ps_imp ps_pass fun D σ H h => ?_
  obtain ⟨mu, r, M, hm, hs, p⟩ := h
  exact p.here Stp.refl hm hs
end
/-! ### fields of objects -/
section
variable {X : Cx} {CL : CLs} {cl : Cl} {a b o : Expr} {sa sb so : SE} {pos p1 apos cpos : Pos} {f : Str}
theorem rfs_look {K : PySem.W.Frag} {mu : List Addr} {H : Hp} {f : Str} : ∀ {fs : List (Str × D)} {fv : List (Str × V)}, Rfs K mu H fs fv → (fs.lookup f = none ∧ fv.lookup f = none) ∨ ∃ d v, fs.lookup f = some d ∧ fv.lookup f = some v ∧ Rv K mu H d v
  | [], _, h => by cases (show _ = [] from h); exact .inl ⟨rfl, rfl⟩
  | p :: r, _, ⟨v, fs', e, h, t⟩ => by
    subst e
    rw [List.lookup_cons, List.lookup_cons]
    cases hx : f == p.1 with
    | true => exact .inr ⟨p.2, v, rfl, rfl, h⟩
    | false => exact rfs_look t
theorem rfs_put {K : PySem.W.Frag} {mu : List Addr} {H : Hp} {f : Str} {d : D} {v : V} (hv : Rv K mu H d v) : ∀ {fs : List (Str × D)} {fv : List (Str × V)}, Rfs K mu H fs fv → Rfs K mu H (MI.putF f d fs) (L2.putF f v fv)
  | [], _, h => by cases (show _ = [] from h); exact ⟨v, [], rfl, hv, rfl⟩
  | p :: r, _, ⟨w, fs', e, h, t⟩ => by
    subst e
    unfold MI.putF L2.putF
    by_cases c : p.1 = f
    · rw [if_pos c, if_pos c]
      exact ⟨v, fs', by rw [c], hv, t⟩
    · rw [if_neg c, if_neg c]
      exact ⟨w, _, rfl, h, rfs_put hv t⟩
theorem rfs_len {K : PySem.W.Frag} {mu : List Addr} {H : Hp} : ∀ {fs : List (Str × D)} {fv : List (Str × V)}, Rfs K mu H fs fv → fs.length = fv.length
  | [], _, h => by cases (show _ = [] from h); rfl
  | p :: r, _, ⟨w, fs', e, h, t⟩ => by subst e; simp [rfs_len t]
/-- what is known of the classes: their own objects, none of the fields' names in the class -/
def ClF (X : Cx) (CL : CLs) (f : Str) : Prop := ∀ c C, CL.cls c = some C → Cls X.K C ∧ NoAttr X.K C f
theorem snd_fld (F : ClF X CL f) (ha : SndE X CL cl o so) (hbase : attributeBase o f X.env (eval o X.env) = eval o X.env) : SndE X CL cl (.Attribute o f pos) (eFld so f) := fun W tk => by
  refine pe_imp (pe_fld (ha W tk) hbase) fun σ H Q h => ?_
  obtain ⟨mu, r, M, hm, hs, p⟩ := h
  refine rE_then hm hs p fun x v M1 mu1 H1 n1 h1 p1 => ?_
  split at p1
  · rename_i n
    obtain ⟨q, h2, h3⟩ := h1
    subst h3
    split at p1
    · rename_i c fs e
      split at p1
      · rename_i d ed
        obtain ⟨C, dx, fv, eC, h4, h5⟩ := n1.rm.ob n q _ h2 e
        rcases rfs_look (f := f) h5 with ⟨z, _⟩ | ⟨d', v', z1, z2, z3⟩
        · rw [ed] at z; cases z
        · rw [ed] at z1; cases z1
          exact ⟨q, C, dx, fv, v', rfl, h4, (F c C eC).1, (F c C eC).2, z2, end_d n1.rm (p1.rb n1) z3⟩
      · exact bad_end p1
    · exact bad_end p1
  · exact bad_end p1
end
end MI
end
section
set_option Elab.async false
set_option linter.all false
set_option maxRecDepth 100000
set_option maxHeartbeats 4000000
/-! MIi: list.index, tuple(range(n)) -/
namespace MI
open PySem PySem.Spec PyProof.Rows L2
section
variable {K : PySem.W.Frag} {CL : CLs} {W : WX} {σ : Sg} {mu : List Addr} {H : Hp} {M : Mem}
theorem findIdx_some {p : D → Bool} : ∀ {ds : List D} {j : Nat}, ds.findIdx? p = some j → (∃ d, ds[j]? = some d ∧ p d = true) ∧ ∀ m d, m < j → ds[m]? = some d → p d = false
  | [], j, h => by simp at h
  | a :: ds, j, h => by
    rw [List.findIdx?_cons] at h
    cases hp : p a with
    | true =>
      rw [hp] at h
      simp only [if_true, Option.some.injEq] at h
      subst h
      exact ⟨⟨a, rfl, hp⟩, fun m d hm => absurd hm (Nat.not_lt_zero _)⟩
    | false =>
      rw [hp] at h
      simp only [Bool.false_eq_true, if_false, Option.map_eq_some_iff] at h
      obtain ⟨i, h1, rfl⟩ := h
      obtain ⟨⟨d, e1, e2⟩, h3⟩ := findIdx_some h1
      refine ⟨⟨d, by simpa using e1, e2⟩, fun m x hm hx => ?_⟩
      cases m with
      | zero => simp at hx; rw [← hx]; exact hp
      | succ m => exact h3 m x (by omega) (by simpa using hx)
theorem okM_index : OkM K CL (rIndex K) mIndex := fun W σ mu H M n p d v Q R hp hv h => by
  unfold mIndex at h
  split at h
  · rename_i ds e
    split at h
    · rename_i hf
      rw [Bool.and_eq_true] at hf
      split at h
      · rename_i j hj
        obtain ⟨vs, h1, h2⟩ := R.ob n p _ hp e
        obtain ⟨⟨x, e1, e2⟩, h3⟩ := findIdx_some hj
        obtain ⟨z, e3, e4⟩ := h2.get e1
        obtain ⟨f1, _⟩ := any_v hv hf.1 h2 hf.2
        have fl : ∀ (m : Nat) (y : D), ds[m]? = some y → y.flat = true := fun m y hy => List.all_eq_true.mp hf.2 y (List.mem_of_getElem? hy)
        refine ⟨p, vs, v, j, z, rfl, rfl, .inl (.inl h1), flat_v hv hf.1, f1, e3, ?_, fun m z' hm hz' => ?_, h mu H Stp.refl R (.int j) rfl⟩
        · rw [feq_v e4 hv (fl j x e1) hf.1]; exact e2
        · have hml : m < ds.length := by
            have := (List.getElem?_eq_some_iff.mp hz').1
            rw [h2.length]; exact this
          have ey : ds[m]? = some ds[m] := List.getElem?_eq_getElem hml
          obtain ⟨z2, e5, e6⟩ := h2.get ey
          rw [hz'] at e5
          cases e5
          rw [feq_v e6 hv (fl m _ ey) hf.1]
          exact h3 m _ hm ey
      · exact bad_end h
    · exact bad_end h
  · exact bad_end h
end
section
variable {X : Cx} {CL : CLs} {cl : Cl} {a : Expr} {sa : SE} {p0 p1 p2 pos : Pos}
theorem snd_tupRg (hc : X.calm = true) (ha : SndE X CL cl a sa) (hg : Gl X "tuple") (hm : X.mg "tuple" = none) (hg2 : Gl X "range") (hm2 : X.mg "range" = none) (hst : starEach [a] X.env = [(false, eval a X.env)]) :
    SndE X CL cl (.Call (.Name "tuple" p0) [.Call (.Name "range" p1) [a] [] p2] [] pos) (eTupRg sa) := fun W tk => by
  refine pe_imp (pe_tupRg hc hg hm (prg_1 hg2 hm2 (ha W tk) hst)) fun σ H Q h => ?_
  obtain ⟨mu, r, M, hm, hs, p⟩ := h
  refine rE_then hm hs p fun x v M1 mu1 H1 n1 h1 p1 => ?_
  split at p1
  · rename_i n
    split at p1
    · rename_i hn
      have hv : v = .int n := h1
      subst hv
      refine ⟨n, rfl, RgOk.of_le (Int.le_refl _) hn.2 (by decide) hn.1, ?_⟩
      have e : ∀ k : Nat, Rvs X.K mu1 H1 ((List.range k).map fun (i : Nat) => D.int i) ((List.range k).map fun (i : Nat) => V.int (0 + (i : Nat))) := fun k => by
        have := Rvs.of_ints (K := X.K) (mu := mu1) (H := H1) ((List.range k).map fun (i : Nat) => (i : Int))
        rw [List.map_map, List.map_map] at this
        have e2 : ((List.range k).map fun (i : Nat) => V.int (0 + (i : Nat))) = (List.range k).map (V.int ∘ fun (i : Nat) => (i : Int)) := List.map_congr_left fun i _ => by simp
        rw [e2]; exact this
      have e3 : rgV 0 n = (List.range n.toNat).map fun (i : Nat) => V.int (0 + (i : Nat)) := by unfold rgV; rw [Int.sub_zero]
      rw [e3]
      exact end_tup n1.rm (p1.rb n1) (e n.toNat)
    · exact bad_end p1
  · exact bad_end p1
end
end MI
end
section
set_option Elab.async false
set_option linter.all false
set_option maxRecDepth 100000
set_option maxHeartbeats 4000000
/-! MIj: list.count, texts split and joined -/
namespace MI
open PySem PySem.Spec PyProof.Rows L2
section
variable {X : Cx}
/-- how many flat items are equal to a flat value -/
def rCntF (K : PySem.W.Frag) : V → List V → Hp → VK → Prop := fun x xs H Q => ∃ (a : Addr) (ys : List V) (y : V), x = V.ref a ∧ xs = [y] ∧ SqL K H a ys ∧ flatV y = true ∧ ys.all flatV = true ∧ Q (.int (ys.countP fun z => eqV z y : Nat)) H
theorem eqU_count {y : V} : ∀ {ys : List V} {us : List Value}, Vals ys us → ys.all flatV = true → us.countP (eqU y) = ys.countP fun z => eqV z y
  | _, _, .nil, _ => rfl
  | z :: ys, u :: us, .cons r t, f => by
    rw [List.all_cons, Bool.and_eq_true] at f
    rw [List.countP_cons, List.countP_cons, eqU_count t f.2, eqU_of r f.1]
theorem mt_countF : MtR X "list.count" (rCntF X.K) := by
  intro pins s σ H x xs v us Q I rx rxs h
  obtain ⟨a, ys, y, rfl, rfl, hs, fy, fys, q⟩ := h
  cases rx
  obtain ⟨uy, rfl, ry⟩ := rxs.one
  obtain ⟨its, rv, pt, hlen⟩ := I.list hs
  obtain ⟨⟨cls, dd, data, sl⟩, n, ho, hc, hdn, hd⟩ := pt
  dsimp only at hc hd
  subst hc hd
  have T := SeqAt.list_countAt a its.toArray n dd sl uy (eqU y)
  refine call_meets PySem.F.slot_list_count ⟨_, ho, rfl⟩ PySem.F.entry_list_count (PySem.F.args_list_count_2 _ _) T ⟨ho, fun w hw => mem_eqAt ry fy rv fys w (Array.mem_def.mp hw), ?_⟩
  refine ⟨.int (ys.countP fun z => eqV z y : Nat), H, I.tok _, ⟨s.toks, ?_⟩, q⟩
  rw [show its.toArray.toList = its from rfl, eqU_count rv fys]
end
section
variable {K : PySem.W.Frag} {CL : CLs} {mu : List Addr} {H : Hp}
theorem countP_flat {d : D} {v : V} (hv : Rv K mu H d v) (hd : d.flat = true) : ∀ {ds : List D} {vs : List V}, Rvs K mu H ds vs → ds.all D.flat = true → (vs.countP fun z => eqV z v) = ds.countP fun x => feq x d
  | [], _, h, _ => by cases (show _ = [] from h); rfl
  | x :: ds, _, ⟨w, r, e, h, t⟩, f => by
    subst e
    rw [List.all_cons, Bool.and_eq_true] at f
    rw [List.countP_cons, List.countP_cons, countP_flat hv hd t f.2, feq_v h hv f.1 hd]
theorem okM_count : OkM K CL (rCntF K) mCount := fun W σ mu H M n p d v Q R hp hv h => by
  unfold mCount at h
  split at h
  · rename_i ds e
    split at h
    · rename_i hf
      rw [Bool.and_eq_true] at hf
      obtain ⟨vs, h1, h2⟩ := R.ob n p _ hp e
      obtain ⟨f1, _⟩ := any_v hv hf.1 h2 hf.2
      exact ⟨p, vs, v, rfl, rfl, .inl (.inl h1), flat_v hv hf.1, f1, by rw [countP_flat hv hf.1 h2 hf.2]; exact h mu H Stp.refl R (.int _) rfl⟩
    · exact bad_end h
  · exact bad_end h
end
/-! ### texts -/
theorem splC_spl (s : Nat) : ∀ (l acc : List Nat), splC s acc l = TL.spl [s] 0 acc l
  | [], acc => by rw [TL.spl_nil]; rfl
  | c :: r, acc => by
    by_cases h : c = s
    · rw [TL.spl_hit (by simp [TL.pre, h]), show splC s acc (c :: r) = acc :: splC s [] r from by simp only [splC, if_pos h], splC_spl s r []]
      rfl
    · rw [TL.spl_miss (TL.pre_of_head [] r h), show splC s acc (c :: r) = splC s (acc ++ [c]) r from by simp only [splC, if_neg h], splC_spl s r (acc ++ [c])]
theorem joinC_joinL (S : List Nat) : ∀ l : List (List Nat), joinC S l = TL.joinL S l
  | [] => rfl
  | [p] => rfl
  | p :: q :: r => by simp only [joinC, TL.joinL, joinC_joinL S (q :: r)]
theorem split_splC {a b : Str} {s : Nat} (hb : b.cps.toList = [s]) (hs : s < 256) : Txt.split a b = (splC s [] a.cps.toList).map strL := by
  have hk : ¬ Builtin.Str.strKind a < Builtin.Str.strKind b := TL.kind_ok (by
    rw [← Array.all_toList, hb]; simp [hs])
  have e := TL.split_spl a b (by show b.cps.toList ≠ []; rw [hb]; simp) hk
  refine TL.map_tl_inj ?_
  rw [e, show TL.tl b = [s] from hb, splC_spl, List.map_map]
  have : ((TL.tl ∘ strL) : List Nat → List Nat) = id := by funext l; exact TL.tl_mk l
  rw [this, List.map_id]
theorem join_joinC (a : Str) (ys : List Str) : Txt.join a ys = strL (joinC a.cps.toList (ys.map (·.cps.toList))) := by
  refine TL.ext_tl ?_
  rw [TL.join_eq, TL.tl_join, joinC_joinL]
  all_goals rfl
section
variable {K : PySem.W.Frag} {CL : CLs} {mu : List Addr} {H : Hp}
theorem asStrs_ok : ∀ {ds : List D} {ys : List Str} {vs : List V}, asStrs ds = some ys → Rvs K mu H ds vs → vs = ys.map V.str
  | [], ys, vs, h, r => by cases h; exact r
  | d :: ds, ys, vs, h, ⟨v, q, e, h1, t⟩ => by
    cases d with
    | str s =>
      simp only [asStrs, Option.map_eq_some_iff] at h
      obtain ⟨zs, h2, rfl⟩ := h
      rw [e, asStrs_ok h2 t, show v = V.str s from h1]
      rfl
    | _ => simp [asStrs] at h
theorem rvs_strs : ∀ (ys : List Str), Rvs K mu H (ys.map D.str) (ys.map V.str)
  | [] => rfl
  | y :: ys => ⟨_, _, rfl, rfl, rvs_strs ys⟩
end
section
variable {X : Cx} {CL : CLs} {cl : Cl} {a o : Expr} {sa so : SE} {apos cpos : Pos}
theorem snd_split (ho : SndE X CL cl o so) (ha : SndE X CL cl a sa) (hbase : attributeBase o "split" X.env (eval o X.env) = eval o X.env) (hline : (apos.endLine == cpos.line) = true) (hst : starEach [a] X.env = [(false, eval a X.env)]) :
    SndE X CL cl (.Call (.Attribute o "split" apos) [a] [] cpos) (eT1 tSplit so sa) := fun W tk => by
  refine pe_imp (pe_split (ho W tk) (ha W tk) hst hbase hline) fun σ H Q h => ?_
  obtain ⟨mu, r, M, hm, hs, p⟩ := h
  refine rE_then hm hs p fun x v M1 mu1 H1 n1 h1 p1 => ?_
  split at p1
  · rename_i s
    have hv : v = .str s := h1
    refine ⟨⟨s, hv⟩, ?_⟩
    refine rE_then n1.rm n1.rs p1 fun y u M2 mu2 H2 n2 h2 p2 => ?_
    have p3 : Pst X.K CL W σ mu2 H2 _ (fun z _ mu' H' => ∀ w, Rr X.K CL mu' H' H2 z w → Q w H') := p2.mono fun _ _ _ _ _ _ z w hw => z w (hw.base (n1.st.trans n2.st n1.rm) n2.rm)
    unfold tSplit at p3
    split at p3
    · rename_i b
      split at p3
      · rename_i c hb
        split at p3
        · rename_i hc
          refine ⟨s, b, hv, by rw [show u = V.str b from h2], ?_, by rw [← lim_eq]; exact hc.2, ?_⟩
          · have : b.length = 1 := by rw [TL.len_tl, show TL.tl b = [c] from hb]; rfl
            rw [this]; rfl
          · intro q hq
            have e : (Txt.split s b).map D.str = (splC c [] s.cps.toList).map fun l => D.str (strL l) := by rw [split_splC hb hc.1, List.map_map]; rfl
            rw [← e] at p3
            exact end_lst n2.rm p3 (rvs_strs _) q hq
        · exact bad_end p3
      · exact bad_end p3
    · exact bad_end p3
  · exact bad_end p1
theorem snd_join (ho : SndE X CL cl o so) (ha : SndE X CL cl a sa) (hbase : attributeBase o "join" X.env (eval o X.env) = eval o X.env) (hline : (apos.endLine == cpos.line) = true) (hst : starEach [a] X.env = [(false, eval a X.env)]) :
    SndE X CL cl (.Call (.Attribute o "join" apos) [a] [] cpos) (eT1 tJoin so sa) := fun W tk => by
  refine pe_imp (pe_join (ho W tk) (ha W tk) hst hbase hline) fun σ H Q h => ?_
  obtain ⟨mu, r, M, hm, hs, p⟩ := h
  refine rE_then hm hs p fun x v M1 mu1 H1 n1 h1 p1 => ?_
  split at p1
  · rename_i s
    have hv : v = .str s := h1
    refine ⟨⟨s, hv⟩, ?_⟩
    refine rE_then n1.rm n1.rs p1 fun y u M2 mu2 H2 n2 h2 p2 => ?_
    have p3 : Pst X.K CL W σ mu2 H2 _ (fun z _ mu' H' => ∀ w, Rr X.K CL mu' H' H2 z w → Q w H') := p2.mono fun _ _ _ _ _ _ z w hw => z w (hw.base (n1.st.trans n2.st n1.rm) n2.rm)
    unfold tJoin at p3
    split at p3
    · rename_i ds e
      split at p3
      · rename_i ys ey
        split at p3
        · rename_i hc
          obtain ⟨q, vs, rfl, h3, h4⟩ := seqOf_ok n2.rm h2.w e
          have ev := asStrs_ok ey h4
          subst ev
          refine ⟨s, q, ys, hv, rfl, h3, hc, ?_⟩
          rw [join_joinC]
          exact end_d n2.rm p3 rfl
        · exact bad_end p3
      · exact bad_end p3
    · exact bad_end p3
  · exact bad_end p1
end
end MI
end
section
set_option Elab.async false
set_option linter.all false
set_option maxRecDepth 100000
set_option maxHeartbeats 4000000
/-! MIk: objects: fields stored, methods called, objects made -/
namespace MI
open PySem PySem.Spec PyProof.Rows L2
/-! ### isinstance(x, (A, B)) -/
section
variable {X : Cx} {CL : CLs} {cl : Cl} {a : Expr} {sa : SE} {p0 pos : Pos}
theorem isTy2_ok {K : PySem.W.Frag} {mu : List Addr} {H : Hp} {M : Mem} {d : D} {v : V} (h : Rv K mu H d v) (nh : ∀ n, d ≠ .hdl n) : ∃ n : String, TyX K H v (.type n) ∧ ∀ (t : Ty) (b : Bool), isTy t (.d d) M = some b → kitB n t.nm = some b := by
  cases d with
  | non => rw [show v = V.non from h]; exact ⟨_, .base .non, fun t b e => by cases e; cases t <;> decide +kernel⟩
  | bl x => rw [show v = V.bl _ from h]; exact ⟨_, .base (.bl _), fun t b e => by cases e; cases t <;> decide +kernel⟩
  | int x => rw [show v = V.int _ from h]; exact ⟨_, .base (.int _), fun t b e => by cases e; cases t <;> decide +kernel⟩
  | str x => rw [show v = V.str _ from h]; exact ⟨_, .base (.str _), fun t b e => by cases e; cases t <;> decide +kernel⟩
  | hdl n => exact absurd rfl (nh n)
  | tup ds =>
    obtain ⟨p, vs, rfl, hT, _⟩ := h
    rcases hT with (hT | ⟨o, hT⟩) | ⟨o, its, n, h1, h2, _⟩
    · exact ⟨_, .base (.tup hT), fun t b e => by cases e; cases t <;> decide +kernel⟩
    · exact ⟨_, .fTuple hT, fun t b e => by cases e; cases t <;> decide +kernel⟩
    · exact ⟨_, .kTuple h1 h2, fun t b e => by cases e; cases t <;> decide +kernel⟩
  | ro ds =>
    obtain ⟨p, vs, rfl, hT, _⟩ := h
    rcases hT with ⟨o, hT⟩ | ⟨o, its, n, h1, h2, _⟩
    · exact ⟨_, .base (.frz hT), fun t b e => by cases e; cases t <;> decide +kernel⟩
    · exact ⟨_, .kList h1 h2, fun t b e => by cases e; cases t <;> decide +kernel⟩
theorem snd_isi2 {T U : Str} {q1 q2 q3 : Pos} {j : Nat} {t u : Ty} (ha : SndE X CL cl a sa) (hg : Gl X "isinstance") (hm : X.mg "isinstance" = none) (hgT : Gl X T) (hmT : X.mg T = none) (hvT : bootBuiltins T = some (.type t.nm)) (hnT : T ≠ "__name__") (hdT : (T == ("__debug__" : Str)) = false)
    (hgU : Gl X U) (hmU : X.mg U = none) (hvU : bootBuiltins U = some (.type u.nm)) (hnU : U ≠ "__name__") (hdU : (U == ("__debug__" : Str)) = false)
    (hst : starEach [a, .Tuple [.Name T q1, .Name U q2] j q3] X.env = (false, eval a X.env) :: starEach [.Tuple [.Name T q1, .Name U q2] j q3] X.env) : SndE X CL cl (.Call (.Name "isinstance" p0) [a, .Tuple [.Name T q1, .Name U q2] j q3] [] pos) (e1 (bIsi2 t u) sa) := fun W tk => by
  refine pe_imp (pe_callB call_isiT hg hm PyProof.Rows.boot_isinstance (pa_cons (ha W tk) (pa_cons (pe_tup (pa_cons (pe_bltn (v := .ty t.nm) hgT hmT hvT rfl hnT hdT) (pa_cons (pe_bltn (v := .ty u.nm) hgU hmU hvU rfl hnU hdU) pa_nil rfl) rfl)) pa_nil rfl) hst) (by decide) (by decide) hst rfl) fun σ H Q h => ?_
  obtain ⟨mu, r, M, hm, hs, p⟩ := h
  refine rE_then hm hs p fun x v M1 mu1 H1 n1 h1 p1 => ?_
  unfold bIsi2 at p1
  split at p1
  · exact bad_end p1
  · rename_i d nh
    split at p1
    · rename_i b c e1 e2
      obtain ⟨n, h2, h3⟩ := isTy2_ok (M := M1) (show Rv X.K mu1 H1 d v from h1) (fun n e => nh n e)
      refine ⟨(by show 2 ≤ sizeLine; decide), fun p np => ?_⟩
      have st : Stp mu1 H1 mu1 (upd H1 p (.tup [.ty t.nm, .ty u.nm])) := Stp.laid n1.rm np
      have R2 := n1.rm.laid (u := .tup [.ty t.nm, .ty u.nm]) np
      obtain ⟨n', h2', h3'⟩ := isTy2_ok (M := M1) (Rv.stp n1.rm st (show Rv X.K mu1 H1 d v from h1)) (fun n e => nh n e)
      refine ⟨v, p, [.ty t.nm, .ty u.nm], _, [.type t.nm, .type u.nm], b || c, rfl, upd_same, .cons (.ty _) (.cons (.ty _) .nil), h2', ?_, ?_⟩
      · refine kitAny_cons (kit_ty (h3' t b e1)) (fun hb => ?_) (fun hb => by rw [hb, Bool.true_or])
        rw [hb, Bool.false_or]
        refine kitAny_cons (kit_ty (h3' u c e2)) (fun hc => ?_) (fun hc => hc)
        rw [hc]; rfl
      · exact (p1.from st R2).here R2 _ rfl
    · exact bad_end p1
  · exact bad_end p1
end
/-! ### the rule of a method's call, the class told by the heap -/
section
variable {X : Cx} {k : Nat} {E : L2.St → XK} {m : Str} {pos apos : Pos} {e o : Expr} {es : List Expr} {ta : TE} {t : TA}
theorem meth_eq (hbase : attributeBase o m X.env (eval o X.env) = eval o X.env) (hfew : methodCallForm es.length (backTo pos (starEach es X.env)) [] = true) (hline : (apos.endLine == pos.line) = true) : eval (.Call (.Attribute o m apos) es [] pos) X.env = (do
      let ov ← eval o X.env
      standAt apos.atName
      let (f, first) ← holding [ov] (getMethod ov m (do return (← importBound o X.env).getD true))
      callWith pos f first (backTo pos (starEach es X.env)) (backToKw pos (keywordEach [] X.env))) := by
  show (do
    let ov ← attributeBase o m X.env (eval o X.env)
    standAt apos.atName
    methodCall o m apos pos X.env ov (es.length + 0) (backTo pos (starEach es X.env)) (backToKw pos (keywordEach [] X.env))) = _
  rw [hbase]
  refine congrArg (fun f => eval o X.env >>= f) (funext fun ov => ?_)
  refine congrArg (fun f => standAt apos.atName >>= f) (funext fun _ => ?_)
  have h1 : methodCallForm (es.length + 0) (backTo pos (starEach es X.env)) (backToKw pos (keywordEach [] X.env)) = true := hfew
  unfold methodCall
  rw [h1]
  unfold calleeOf methodCallPos
  rw [hline]
  rfl
/-- what stands where a method is called -/
def MthAt (X : Cx) (m : Str) (k : Nat) (H1 : Hp) (x : V) (a : Addr) (ps : List Str) (fd : FuncData) (sp : Sp) : Prop :=
  ∃ (C dx : Addr) (fs : List (Str × V)) (f : Addr), x = .ref a ∧ H1 a = some (.ins C dx fs) ∧ fs.lookup m = none ∧ Cls X.K C ∧ Meth X.K C m f ∧ FnOk X.prog X.w X.K X.mg X.base (L2.CX X.prog X.w) k f fd ps sp ∧ Binds X.K fd ps []
def tMethA (X : Cx) (m : Str) (k : Nat) (E : L2.St → XK) (ta : TE) (t : TA) : TE := fun σ H Q => ta σ H fun x H1 => ∃ (a : Addr) (ps : List Str) (fd : FuncData) (sp : Sp), MthAt X m k H1 x a ps fd sp ∧ t σ H1 fun vs H2 => sp (.ref a :: vs) H2 Q (E σ)
theorem pe_methA (he : PE X o ta) (hr : Room k X.A) (hx : ∀ σ, PassesAt (L2.CX X.prog X.w) X σ (E σ)) (ha : PA X (e :: es) t) (hbase : attributeBase o m X.env (eval o X.env) = eval o X.env) (hfew : methodCallForm (e :: es).length (backTo pos (starEach (e :: es) X.env)) [] = true) (hline : (apos.endLine == pos.line) = true)
    (hst : starEach (e :: es) X.env = (false, eval e X.env) :: starEach es X.env) (hpl : (backTo pos (starEach es X.env)).any (·.1) = false) : PE X (.Call (.Attribute o m apos) (e :: es) [] pos) (tMethA X m k E ta t) := by
  refine ⟨fun pins s σ H Q I h => PySem.W.methodCall_KW (thn (he.run pins s σ H _ I h) fun u s1 hu => ?_) (meth_eq hbase hfew hline)⟩
  obtain ⟨x, H1, I1, rx, a, ps, fd, sp, ⟨C, dx, fs, f, ex, ea, l, c, hm, F, hb⟩, q⟩ := hu
  subst ex
  cases rx
  refine getmeth_ok I1 ea c hm l ?_
  refine PySem.W.callWith_K (first := [.ref a]) (h₀ := X.base) I.ok.mod.kin hm.kp (thn (ha.run pos pins s1 σ H1 _ I1 q) fun us s2 hu2 => ?_) hst hpl
  obtain ⟨vs, H2, I2, r, q2⟩ := hu2
  exact ⟨I2.kIn, run_fnS (us := .ref a :: us) (vs := .ref a :: vs) F hr hb (hx σ) I2 (.cons rfl r) q2⟩
theorem pe_methA0 (he : PE X o ta) (hr : Room k X.A) (hx : ∀ σ, PassesAt (L2.CX X.prog X.w) X σ (E σ)) (hbase : attributeBase o m X.env (eval o X.env) = eval o X.env) (hline : (apos.endLine == pos.line) = true) : PE X (.Call (.Attribute o m apos) [] [] pos) (tMethA X m k E ta tNil) := by
  refine ⟨fun pins s σ H Q I h => PySem.W.methodCall_KW (thn (he.run pins s σ H _ I h) fun u s1 hu => ?_) (meth_eq hbase rfl hline)⟩
  obtain ⟨x, H1, I1, rx, a, ps, fd, sp, ⟨C, dx, fs, f, ex, ea, l, c, hm, F, hb⟩, q⟩ := hu
  subst ex
  cases rx
  refine getmeth_ok I1 ea c hm l ?_
  exact PySem.W.callWith_K0 (first := [.ref a]) I1.kIn hm.kp (run_fnS (us := [.ref a]) (vs := [.ref a]) F hr hb (hx σ) I1 (.cons rfl .nil) q)
end
theorem calm_out {K : PySem.W.Frag} {CL : CLs} {W : WX} {σ : Sg} {mu : List Addr} {H : Hp} {A B : Type} {res : Res A} {f : A → Mem → Res B} {k : B → Mem → List Addr → Hp → Prop} (h : Pst K CL W σ mu H (res.calm.bind f) k) : Pst K CL W σ mu H (res.bind f) k := by
  cases res with
  | ok a M => exact h
  | err c M => exact h.elim
  | bad => exact h.elim
/-! ### what is known of a class -/
/-- a class's method, and what cl says of it -/
structure MthG (X : Cx) (CL : CLs) (cl : Cl) (k : Nat) (c : Str) (C : Addr) (m : Str) (ar : Nat) : Prop where
  cls : Cls X.K C
  ok : ∃ (f : Addr) (fd : FuncData) (ps : List Str), FnOk X.prog X.w X.K X.mg X.base (CX X.prog X.w) k f fd ps (spOf X.K CL cl (mname c m) ar) ∧ Meth X.K C m f ∧ Binds X.K fd ps []
  bad : ∀ ds M, ds.length ≠ ar → cl (mname c m) ds M = .bad
/-- every class's method of this name, if there is one -/
def MthF (X : Cx) (CL : CLs) (cl : Cl) (k : Nat) (m : Str) : Prop := ∀ c C, CL.cls c = some C → (∃ ar, MthG X CL cl k c C m ar) ∨ ∀ ds M, cl (mname c m) ds M = .bad
section
variable {X : Cx} {CL : CLs} {cl : Cl} {k : Nat} {a b o : Expr} {es : List Expr} {sa sb so : SE} {as : SDs} {pos apos cpos : Pos} {f m : Str}
theorem meth_read {W : WX} {σ : Sg} {H : Hp} {Q : VK} (F : MthF X CL cl k m) (tk : Takes X W) (h : rE X.K CL W cl (eMeth m so as) σ H Q) : tMethA X m k (WE W) (rE X.K CL W cl so) (rDs X.K CL W cl as) σ H Q := by
  obtain ⟨mu, r, M, hm, hs, p⟩ := h
  refine rE_then hm hs p fun x v M1 mu1 H1 n1 h1 p1 => ?_
  split at p1
  · rename_i n
    obtain ⟨q, h2, h3⟩ := h1
    subst h3
    split at p1
    · rename_i c fs e
      split at p1
      · rename_i hn
        obtain ⟨C, dx, fv, eC, h4, h5⟩ := n1.rm.ob n q _ h2 e
        have hl : fv.lookup m = none := by
          rcases rfs_look (f := m) h5 with ⟨_, z⟩ | ⟨d', v', z1, z2, z3⟩
          · exact z
          · rw [z1] at hn; cases hn
        rcases F c C eC with ⟨ar, G⟩ | B
        · obtain ⟨f, fd, ps, ok, hmt, bd⟩ := G.ok
          refine ⟨q, ps, fd, _, ⟨C, dx, fv, f, rfl, h4, hl, G.cls, hmt, ok, bd⟩, ?_⟩
          refine rDs_then n1.rm n1.rs (calm_out p1) fun ds vs M2 mu2 H2 n2 h6 p2 => ?_
          have hlen : (D.hdl n :: ds).length = ar := by
            refine Classical.byContradiction fun hne => ?_
            rw [G.bad _ _ hne] at p2
            exact p2.elim
          refine ⟨?_, mu2, D.hdl n :: ds, M2, n2.rm, ⟨_, _, rfl, ⟨q, n2.st.get h2, rfl⟩, h6⟩, ?_⟩
          · rw [← hlen, List.length_cons, List.length_cons, h6.length]
          · exact (p2.mono fun z M3 mu3 H3 s3 R3 q' w hw => q' w (hw.base (n1.st.trans n2.st n1.rm) n2.rm)).wish fun _ _ _ z => z
        · have z : ∀ r : Res (List D), Pst X.K CL W σ mu1 H1 (r.calm.bind fun ds M => cl (mname c m) (D.hdl n :: ds) M) (fun x _ mu' H' => ∀ v, Rr X.K CL mu' H' H x v → Q v H') → False := fun r p => by
            cases r with
            | ok ds M => simp only [Res.calm, Res.bind, B] at p; exact p
            | err c M => exact p
            | bad => exact p
          exact (z _ p1).elim
      · exact bad_end p1
    · exact bad_end p1
  · exact bad_end p1
theorem passAt_of {W : WX} (tk : Takes X W) (σ : L2.St) : PassesAt (L2.CX X.prog X.w) X σ (WE W σ) := passAt tk σ
theorem snd_meth (F : MthF X CL cl k m) (hr : Room k X.A) (ho : SndE X CL cl o so) (hd : SndDs X CL cl (a :: es) as) (hbase : attributeBase o m X.env (eval o X.env) = eval o X.env) (hfew : methodCallForm (a :: es).length (backTo cpos (starEach (a :: es) X.env)) [] = true) (hline : (apos.endLine == cpos.line) = true)
    (hst : starEach (a :: es) X.env = (false, eval a X.env) :: starEach es X.env) (hpl : (backTo cpos (starEach es X.env)).any (·.1) = false) : SndE X CL cl (.Call (.Attribute o m apos) (a :: es) [] cpos) (eMeth m so as) := fun W tk =>
  pe_imp (pe_methA (ho W tk) hr (fun σ => passAt tk σ) (hd W tk) hbase hfew hline hst hpl) fun σ H Q h => meth_read F tk h
theorem snd_meth0 (F : MthF X CL cl k m) (hr : Room k X.A) (ho : SndE X CL cl o so) (hbase : attributeBase o m X.env (eval o X.env) = eval o X.env) (hline : (apos.endLine == cpos.line) = true) : SndE X CL cl (.Call (.Attribute o m apos) [] [] cpos) (eMeth m so dNil) := fun W tk => by
  refine pe_imp (pe_methA0 (ho W tk) hr (fun σ => passAt tk σ) hbase hline) fun σ H Q h => ?_
  refine (meth_read F tk h).imp fun x H1 h1 => ?_
  obtain ⟨a, ps, fd, sp, h2, mu, r, M, hm, hs, p⟩ := h1
  exact ⟨a, ps, fd, sp, h2, p.here hm [] rfl⟩
/-! ### a field is stored -/
theorem stm_fld {p1 : Pos} (F : ClF X CL f) (ho : SndE X CL cl o so) (ha : SndE X CL cl a sa) (hsw : swapsWith a (some (.Attribute o f p1)) pos.line X.env = pure false) : SndS X CL cl (.Assign [.Attribute o f p1] a pos) (sFld so f sa) := fun W tk po => by
  refine ps_imp (ps_fld (ho W tk) (ha W tk) hsw) fun D σ H h => ?_
  obtain ⟨mu, r, M, hm, hs, p⟩ := h
  refine rE_stm hm hs Stp.refl p fun x v M1 mu1 H1 n1 h1 p1 => ?_
  obtain ⟨t, R2, s2, hv⟩ := n1.rm.box h1 n1.st
  refine rE_stm R2 (n1.rs.ext t) s2 p1 fun y u M3 mu3 H3 n3 h3 p3 => ?_
  split at p3
  · rename_i n
    obtain ⟨q, h2, h4⟩ := h3
    subst h4
    split at p3
    · rename_i c fs e
      split at p3
      · rename_i hl
        obtain ⟨C, dx, fv, eC, h5, h6⟩ := n3.rm.ob n q _ h2 e
        refine ⟨q, C, dx, fv, rfl, h5, (F c C eC).1, (F c C eC).2, by rw [← rfs_len h6]; omega, ?_⟩
        have nf : ∀ od v, H3 q ≠ some (.frz od v) := fun od v z => by rw [h5] at z; cases z
        have st : Stp mu3 H3 mu3 (upd H3 q (.ins C dx (L2.putF f v fv))) := Stp.write h2 nf
        have hv3 := hv.stp R2 n3.st
        have R4 := n3.rm.write (u := .ins C dx (L2.putF f v fv)) (o := .ins c (MI.putF f (MI.box x M1).1 fs)) h2 nf ⟨C, dx, _, eC, upd_same, rfs_put (hv3.stp n3.rm st) (h6.stp n3.rm st)⟩
        exact p3.here ((s2.trans n3.st R2).trans st n3.rm) R4 (n3.rs.stp n3.rm st)
      · exact p3.elim
    · exact p3.elim
  · exact p3.elim
/-! ### an object is made -/
structure MkG (X : Cx) (CL : CLs) (cl : Cl) (k : Nat) (c : Str) (ar : Nat) : Prop where
  ok : ∃ (C f : Addr) (fd : FuncData) (ps : List Str), CL.cls c = some C ∧ X.mg c = some (.ref C) ∧ Mk X.K C f ∧ FnOk X.prog X.w X.K X.mg X.base (CX X.prog X.w) k f fd ps (spOf X.K CL cl (mname c "__init__") ar) ∧ Binds X.K fd ps []
theorem pass_no : Passes (L2.CX X.prog X.w) X fun _ _ _ => False := fun pins σ H s e s' I c => by
  obtain ⟨_, _, _, _, _, _, _, _, _, _, _, _, z⟩ := c
  exact z.elim
theorem make_read {W : WX} {σ : Sg} {H : Hp} {Q : VK} {c : Str} {C : Addr} {ar : Nat} (eC : CL.cls c = some C) (hlen : ∀ r M ds M', as cl r M = .ok ds M' → ds.length + 1 = ar) (h : rE X.K CL W cl (eNew c as) σ H Q) :
    tMake C (spOf X.K CL cl (mname c "__init__") ar) [] (fun _ _ _ => False) (rDs X.K CL W cl as) σ H Q := by
  obtain ⟨mu, r, M, hm, hs, p⟩ := h
  unfold eNew at p
  cases ea : as cl r M with
  | err cc M' => rw [ea] at p; exact ⟨mu, r, M, hm, hs, by rw [ea]; exact p⟩
  | bad => rw [ea] at p; exact p.elim
  | ok ds M1 =>
    have hl := hlen r M ds M1 ea
    rw [ea] at p
    refine ⟨mu, r, M, hm, hs, ?_⟩
    rw [ea]
    simp only [Res.bind] at p
    intro mu1 H1 s1 R1 vs hvs x dx hx hdx hne
    have p1 := p.from s1 R1
    have hx2 : (upd H1 dx (.own x)) x = none := by rw [upd_ne hne.symm]; exact hx
    have R2 : Rm X.K CL mu1 (upd H1 dx (.own x)) M1 := R1.laid hdx
    have R3 : Rm X.K CL mu1 (upd (upd H1 dx (.own x)) x (.ins C dx [])) M1 := R2.laid hx2
    have S2 : Stp mu1 H1 mu1 (upd H1 dx (.own x)) := Stp.laid R1 hdx
    have S3 : Stp mu1 H1 mu1 (upd (upd H1 dx (.own x)) x (.ins C dx [])) := S2.trans (Stp.laid R2 hx2) R2
    have nx : x ∉ mu1 := R1.fresh hx
    have R4 := R3.track (o := .ins c []) (a := x) ⟨C, dx, [], eC, upd_same, rfl⟩ nx
    have S4 : Stp mu1 H1 (mu1 ++ [x]) (upd (upd H1 dx (.own x)) x (.ins C dx [])) := by
      refine ⟨⟨[x], rfl⟩, fun b hb => ?_, S3.keep, S3.frz⟩
      rcases List.mem_append.mp hb with hb | hb
      · exact .inl hb
      · rw [List.mem_singleton.mp hb]; exact .inr hx
    have hat : (mu1 ++ [x])[M1.length]? = some x := by rw [← R1.len, List.getElem?_append_right (Nat.le_refl _), Nat.sub_self]; rfl
    refine ⟨by rw [List.append_nil, List.length_cons, ← hvs.length]; exact hl, mu1 ++ [x], .hdl M1.length :: ds, M1 ++ [.ins c []], R4, ⟨_, _, rfl, ⟨x, hat, rfl⟩, by rw [List.append_nil]; exact (hvs.stp R1 S3).ext [x]⟩, ?_⟩
    cases ec : cl (mname c "__init__") (.hdl M1.length :: ds) (M1 ++ [.ins c []]) with
    | ok z M2 =>
      rw [ec] at p1
      cases z with
      | d z =>
        cases z with
        | non => exact fun mu' H' s' R' v hv => ⟨hv, p1 mu' H' (S4.trans s' R4) R' (.ref x) ⟨x, s'.get hat, rfl⟩⟩
        | _ => exact p1.elim
      | o z => exact p1.elim
    | err cc M2 => rw [ec] at p1; exact p1.elim
    | bad => rw [ec] at p1; exact p1.elim
theorem snd_new {c : Str} {ar : Nat} {p0 : Pos} (F : MkG X CL cl k c ar) (hr : Room (k + 1) X.A) (hg : Gl X c) (hdb : (c == ("__debug__" : Str)) = false) (h : SndDs X CL cl (a :: es) as) (hlen : ∀ r M ds M', as cl r M = .ok ds M' → ds.length + 1 = ar)
    (he : starEach (a :: es) X.env = (false, eval a X.env) :: starEach es X.env) (hpl : (backTo pos (starEach es X.env)).any (·.1) = false) : SndE X CL cl (.Call (.Name c p0) (a :: es) [] pos) (eNew c as) := fun W tk => by
  obtain ⟨C, f, fd, ps, eC, mg, mk, ok, bd⟩ := F.ok
  exact pe_imp (pe_make mk ok hr hg mg bd .nil pass_no (h W tk) hdb he hpl) fun σ H Q h => make_read eC hlen h
theorem snd_new0 {c : Str} {p0 : Pos} (F : MkG X CL cl k c 1) (hr : Room (k + 1) X.A) (hg : Gl X c) (hdb : (c == ("__debug__" : Str)) = false) : SndE X CL cl (.Call (.Name c p0) [] [] pos) (eNew c dNil) := fun W tk => by
  obtain ⟨C, f, fd, ps, eC, mg, mk, ok, bd⟩ := F.ok
  refine pe_imp (pe_make0 mk ok hr hg mg bd .nil pass_no hdb) fun σ H Q h => ?_
  obtain ⟨mu, r, M, hm, hs, p⟩ := make_read eC (fun r M ds M' e => by cases e; rfl) h
  exact p.here hm [] rfl
end
end MI
end
section
set_option Elab.async false
set_option linter.all false
set_option maxRecDepth 100000
set_option maxHeartbeats 4000000
/-! MI15: the text, read into the small semantics -/
namespace MI
open PySem PySem.Spec PyProof.Rows L2
/-- what is known of a def's names -/
structure Ct where
  N : List Str
  sc : Scope
  fns : List (Str × Nat)
  bl : List Str
  kon : List (Str × D)
  calm : Bool
  /-- names that may hold a dict that is walked -/
  dn : List Str
  /-- classes, with how many arguments __init__ takes -/
  cls : List (Str × Nat) := []
  /-- names of fields, of methods -/
  flds : List Str := []
  mts : List Str := []
  deriving Inhabited
def Ct.lk (c : Ct) (x : Str) : Option NameKind := c.sc.names.lookup x
def Ct.vis (c : Ct) (x : Str) : Bool := match c.lk x with
  | some .local => true
  | some .cell => true
  | some .free => true
  | _ => false
def Ct.gl (c : Ct) (x : Str) : Bool := match c.lk x with
  | some .globalImplicit => true
  | _ => false
def Ct.loc (c : Ct) (x : Str) : Bool := match c.lk x with
  | some .local => true
  | _ => false
def Ct.cel (c : Ct) (x : Str) : Bool := match c.lk x with
  | some .cell => true
  | _ => false
def idx (x : Str) : List Str → Option Nat
  | [] => none
  | y :: r => if y = x then some 0 else match idx x r with
    | some i => some (i + 1)
    | none => none
theorem idx_ok {x : Str} : ∀ {l : List Str} {i : Nat}, idx x l = some i → l[i]? = some x
  | [], i, h => by simp [idx] at h
  | y :: r, i, h => by
    unfold idx at h
    split at h
    · rename_i e; cases h; subst e; rfl
    · split at h
      · rename_i j e; cases h; simpa using idx_ok e
      · cases h
/-- a name that stands for itself -/
def nmOk (x : Str) : Bool := !(x == ("__debug__" : Str)) && (!(x == ("__classdict__" : Str)) && !decide (x = "__name__"))
theorem nmOk_d {x : Str} (h : nmOk x = true) : (x == ("__debug__" : Str)) = false := by
  unfold nmOk at h; simp only [Bool.and_eq_true, Bool.not_eq_true'] at h; exact h.1
theorem nmOk_c {x : Str} (h : nmOk x = true) : (x == ("__classdict__" : Str)) = false := by
  unfold nmOk at h; simp only [Bool.and_eq_true, Bool.not_eq_true'] at h; exact h.2.1
theorem nmOk_n {x : Str} (h : nmOk x = true) : x ≠ "__name__" := by
  unfold nmOk at h; simp only [Bool.and_eq_true, Bool.not_eq_true', decide_eq_false_iff_not] at h; exact h.2.2
def Ct.bi (c : Ct) (x : Str) : Bool := c.gl x && (decide (x ∈ c.bl) && nmOk x)
/-- what stands around -/
structure Good (X : Cx) (CL : CLs) (cl : Cl) (k : Nat) (c : Ct) : Prop where
  N : X.N = c.N
  nd : c.N.Nodup
  vis : ∀ x, c.vis x = true → Vis X.env.scope x
  gl : ∀ x, c.gl x = true → Gl X x
  loc : ∀ x, c.loc x = true → X.env.scope.names.lookup x = some .local
  cel : ∀ x, c.cel x = true → X.env.scope.names.lookup x = some .cell ∧ X.fn x = true
  cf : ∀ x, (c.lk x = some .cell ∨ c.lk x = some .free) → X.env.scope.names.lookup x = some .cell ∨ X.env.scope.names.lookup x = some .free
  knd : X.env.scope.kind = .function
  bl : ∀ x, x ∈ c.bl → X.mg x = none
  kon : ∀ x d, c.kon.lookup x = some d → ∃ u v, X.mg x = some u ∧ RelV v u ∧ ∀ mu H, Rv X.K mu H d v
  fns : ∀ x ar, c.fns.lookup x = some ar → FnG X CL cl k x ar
  un5 : X.A.units + 65 < cLine
  w : CL.w = X.w
  calm : c.calm = true → X.calm = true ∧ Room (k + 1) X.A
  new : ∀ x ar, c.cls.lookup x = some ar → MkG X CL cl k x ar
  fld : ∀ f, f ∈ c.flds → ClF X CL f
  mth : ∀ m, m ∈ c.mts → MthF X CL cl k m

theorem Good.un {X : Cx} {CL : CLs} {cl : Cl} {k : Nat} {c : Ct} (G : Good X CL cl k c) : X.A.units + 64 < cLine := by have := G.un5; omega
/-! ### shapes of the text -/
def notStar : Expr → Bool
  | .Starred _ _ => false
  | _ => true
def notComp : Expr → Bool
  | .ListComp _ _ _ _ => false
  | .SetComp _ _ _ _ => false
  | .DictComp _ _ _ _ _ => false
  | _ => true
def notSlice : Expr → Bool
  | .Slice _ _ _ _ => false
  | _ => true
def notSet : Expr → Bool
  | .Set _ _ _ => false
  | _ => true
/-- a test that is asked for its truth -/
def plainT : Expr → Bool
  | .UnaryOp .Not _ _ => false
  | .BoolOp _ _ _ => false
  | .IfExp _ _ _ _ => false
  | .Compare _ _ _ _ => false
  | _ => true
def notCall : Expr → Bool
  | .Call _ _ _ _ => false
  | _ => true
theorem star1 {a : Expr} {es : List Expr} {env : PySem.Env} (h : notStar a = true) : starEach (a :: es) env = (false, eval a env) :: starEach es env := by
  cases a <;> first | rfl | cases h
theorem starAll {env : PySem.Env} {pos : Pos} : ∀ {es : List Expr}, es.all notStar = true → (backTo pos (starEach es env)).any (·.1) = false
  | [], _ => rfl
  | a :: es, h => by
    rw [List.all_cons, Bool.and_eq_true] at h
    rw [star1 h.1]
    have := starAll (env := env) (pos := pos) h.2
    simp only [backTo, List.map_cons, List.any_cons, Bool.false_or] at this ⊢
    exact this
theorem swaps0 {a : Expr} {t : Option Expr} {l : Nat} {env : PySem.Env} (h : notComp a = true) : swapsWith a t l env = pure false := by
  cases a <;> first | rfl | cases h
theorem plainIx_b {b : Expr} (h : notSlice b = true) : PlainIx b := plainIx_of fun l u q p e => by subst e; cases h
theorem mark0 {op : CmpOp} {b : Expr} (h : notSet b = true) : behindInMarks op b = false := by
  cases b <;> first | rfl | cases h
theorem fold0 {b : Expr} {env : PySem.Env} (h : notSet b = true) : ∀ x, foldedSetIterable b env x = pure x := fun x => by
  cases b <;> first | rfl | cases h
theorem plainT_ok {a : Expr} {env : PySem.Env} (h : plainT a = true) : ∀ whole, isTrue a env whole = (do let v ← whole; standAt a.pos; holding [v] (truthy v)) := fun whole => by
  cases a with
  | UnaryOp op x p => cases op <;> first | (simp only [isTrue]; done) | rfl | cases h
  | _ => first | rfl | (simp only [isTrue]; done) | cases h
theorem attr0 {o : Expr} {m : Str} {env : PySem.Env} (h : notCall o = true) : attributeBase o m env (eval o env) = eval o env := by
  cases o <;> first | rfl | cases h

/-! ### operators -/
def opB : Operator → Option Op2
  | .Add => some oAdd
  | .Sub => some oSub
  | .Mult => some oMul
  | .FloorDiv => some oDiv
  | .Mod => some oMod
  | .Pow => some oPow
  | _ => none
def opC : CmpOp → Option Op2
  | .Eq => some oEq
  | .NotEq => some oNe
  | .Lt => some oLt
  | .LtE => some oLe
  | .Gt => some oGt
  | .GtE => some oGe
  | .Is => some oIs
  | .IsNot => some oIsNot
  | .In => some oIn
  | .NotIn => some oNotIn
theorem opB_ok {X : Cx} {CL : CLs} {op : Operator} {o : Op2} (h : opB op = some o) : ∃ rr, OpR X (binaryOp op) rr ∧ Ok2 X.K CL rr o := by
  cases op <;> simp only [opB] at h <;> cases h
  · exact ⟨_, op_addAll, ok2_add⟩
  · exact ⟨_, op_sub, ok2_sub⟩
  · exact ⟨_, op_mul.or op_mulStr, ok2_mul⟩
  · exact ⟨_, op_mod, ok2_mod⟩
  · exact ⟨_, op_pow, ok2_pow⟩
  · exact ⟨_, op_fdivW, ok2_div⟩
theorem opC_ok {X : Cx} {CL : CLs} {op : CmpOp} {o : Op2} (hu5 : X.A.units + 65 < cLine) (hw : CL.w = X.w) (h : opC op = some o) : ∃ rr, OpR X (compareOp op) rr ∧ Ok2 X.K CL rr o := by
  have hu : X.A.units + 64 < cLine := by omega
  have h1 : X.A.units + 1 < cLine := by omega
  cases op <;> simp only [opC] at h <;> cases h
  · exact ⟨_, op_eqD hu, ok2_eq⟩
  · exact ⟨_, op_neD hu, ok2_ne⟩
  · exact ⟨_, op_lt.or (op_ltT (by omega)), ok2_lt⟩
  · exact ⟨_, op_le.or (op_leT (by omega)), ok2_le⟩
  · exact ⟨_, op_gt.or (op_gtT (by omega)), ok2_gt⟩
  · exact ⟨_, op_ge.or (op_geT (by omega)), ok2_ge⟩
  · exact ⟨_, op_isAll, ok2_is⟩
  · exact ⟨_, op_isNotAll, ok2_isNot⟩
  · exact ⟨_, op_inAll hu5 hw, ok2_in⟩
  · exact ⟨_, op_notInAll hu5 hw, ok2_notIn⟩
/-- built-ins of one argument -/
def bi1 (x : Str) : Option Op1 :=
  if x = "len" then some bLen else if x = "list" then some bList else if x = "tuple" then some bTuple else if x = "int" then some bInt
  else if x = "abs" then some bAbs else if x = "sorted" then some bSorted else if x = "max" then some bMax1 else if x = "min" then some bMin1
  else if x = "all" then some bAll else if x = "str" then some bStr else if x = "dict" then some bDict else none
def bi2 (x : Str) : Option Op2 := if x = "min" then some bMin2 else if x = "max" then some bMax2 else none
def tyOf (x : Str) : Option Ty :=
  if x = "tuple" then some .tuple else if x = "bool" then some .bool else if x = "int" then some .int else if x = "list" then some .list
  else if x = "str" then some .str else if x = "dict" then some .dict else none
theorem tyOf_ok {x : Str} {t : Ty} (h : tyOf x = some t) : bootBuiltins x = some (.type t.nm) := by
  unfold tyOf at h
  repeat' split at h
  all_goals first | (cases h; done) | (rename_i e; cases h; subst e; decide +kernel)
def mt1 (m : Str) : Option (Nat → D → Mem → Res RV) := if m = "append" then some mAppend else if m = "pop" then some mPopAt else if m = "index" then some mIndex else if m = "count" then some mCount else none
theorem snd_bi1 {X : Cx} {CL : CLs} {cl : Cl} {a : Expr} {sa : SE} {x : Str} {o : Op1} {p0 pos : Pos} (hc : X.calm = true) (hu : X.A.units + 64 < cLine) (hw : CL.w = X.w) (h : bi1 x = some o) (ha : SndE X CL cl a sa) (hg : Gl X x) (hm : X.mg x = none) (hn : x ≠ "__name__") (hdb : (x == ("__debug__" : Str)) = false)
    (hst : starEach [a] X.env = [(false, eval a X.env)]) : SndE X CL cl (.Call (.Name x p0) [a] [] pos) (e1 o sa) := by
  unfold bi1 at h
  split at h
  · rename_i e; cases h; subst e; exact snd_b1 call_len ok1_len ha hg hm (by decide +kernel) hn hdb hst
  split at h
  · rename_i e; cases h; subst e; exact snd_t1 (call_listAll hc) ok1_list ha hg hm (by decide +kernel) hn hdb hst
  split at h
  · rename_i e; cases h; subst e; exact snd_t1 call_tuple_of ok1_tuple ha hg hm (by decide +kernel) hn hdb hst
  split at h
  · rename_i e; cases h; subst e; exact snd_t1 call_intAll ok1_int ha hg hm (by decide +kernel) hn hdb hst
  split at h
  · rename_i e; cases h; subst e; exact snd_b1 call_abs ok1_abs ha hg hm (by decide +kernel) hn hdb hst
  split at h
  · rename_i e; cases h; subst e; exact snd_b1 (call_sortedAll hc) ok1_sorted ha hg hm (by decide +kernel) hn hdb hst
  split at h
  · rename_i e; cases h; subst e; exact snd_b1 (cr_max hc) ok1_max1 ha hg hm (by decide +kernel) hn hdb hst
  split at h
  · rename_i e; cases h; subst e; exact snd_b1 (cr_min hc) ok1_min1 ha hg hm (by decide +kernel) hn hdb hst
  split at h
  · rename_i e; cases h; subst e; exact snd_b1 (cr_all hc) ok1_all ha hg hm (by decide +kernel) hn hdb hst
  split at h
  · rename_i e; cases h; subst e; exact snd_t1 (rr := fun xs H Q => ∃ i, xs = [V.int i] ∧ i.natAbs.log2 < 1920 ∧ Q (.str (toString i)) H) call_str_int ok1_str ha hg hm (by decide +kernel) hn hdb hst
  split at h
  · rename_i e; cases h; subst e; exact snd_t1 (call_dictT hc hu hw) ok1_dict ha hg hm (by decide +kernel) hn hdb hst
  · cases h
theorem snd_bi2 {X : Cx} {CL : CLs} {cl : Cl} {a b : Expr} {sa sb : SE} {x : Str} {o : Op2} {p0 pos : Pos} (hc : X.calm = true) (h : bi2 x = some o) (ha : SndE X CL cl a sa) (hb : SndE X CL cl b sb) (hg : Gl X x) (hm : X.mg x = none) (hn : x ≠ "__name__") (hdb : (x == ("__debug__" : Str)) = false)
    (hst : starEach [a, b] X.env = (false, eval a X.env) :: starEach [b] X.env) (hst2 : starEach [b] X.env = [(false, eval b X.env)]) : SndE X CL cl (.Call (.Name x p0) [a, b] [] pos) (e2 o sa sb) := by
  unfold bi2 at h
  split at h
  · rename_i e; cases h; subst e; exact snd_b2 (rr := fun xs H Q => ∃ i j, xs = [V.int i, .int j] ∧ Q (.int (if j < i then j else i)) H) (call_min2 hc) ok2_min ha hb hg hm (by decide +kernel) hn hdb hst hst2
  split at h
  · rename_i e; cases h; subst e; exact snd_b2 (rr := fun xs H Q => ∃ i j, xs = [V.int i, .int j] ∧ Q (.int (if j > i then j else i)) H) (call_max2 hc) ok2_max ha hb hg hm (by decide +kernel) hn hdb hst hst2
  · cases h
theorem snd_mt1 {X : Cx} {CL : CLs} {cl : Cl} {a o : Expr} {sa so : SE} {m : Str} {mm : Nat → D → Mem → Res RV} {apos cpos : Pos} (h : mt1 m = some mm) (ho : SndE X CL cl o so) (ha : SndE X CL cl a sa)
    (hbase : attributeBase o m X.env (eval o X.env) = eval o X.env) (hline : (apos.endLine == cpos.line) = true) (hst : starEach [a] X.env = [(false, eval a X.env)]) : SndE X CL cl (.Call (.Attribute o m apos) [a] [] cpos) (eM1 mm so sa) := by
  unfold mt1 at h
  split at h
  · rename_i e; cases h; subst e
    exact snd_m1 PySem.F.slot_list_append PySem.F.type_list_append mt_append okM_append ho ha hbase hline hst
  split at h
  · rename_i e; cases h; subst e
    exact snd_m1 PySem.F.slot_list_pop PySem.F.type_list_pop mt_popAt okM_popAt ho ha hbase hline hst
  split at h
  · rename_i e; cases h; subst e
    exact snd_m1 PySem.F.slot_list_index PySem.F.type_list_index mt_index okM_index ho ha hbase hline hst
  split at h
  · rename_i e; cases h; subst e
    exact snd_m1 PySem.F.slot_list_count PySem.F.type_list_count mt_countF okM_count ho ha hbase hline hst
  · cases h
def mt0 (m : Str) : Option (Nat → Mem → Res RV) := if m = "clear" then some mClear else if m = "pop" then some mPop else none
def mt2 (m : Str) : Option (Nat → D → D → Mem → Res RV) := if m = "insert" then some mInsert else none
section
variable {X : Cx} {CL : CLs} {cl : Cl} {a b o : Expr} {sa sb so : SE} {m : Str} {apos cpos : Pos}
theorem snd_mt0 {mm : Nat → Mem → Res RV} (h : mt0 m = some mm) (ho : SndE X CL cl o so)
    (hbase : attributeBase o m X.env (eval o X.env) = eval o X.env) (hline : (apos.endLine == cpos.line) = true) : SndE X CL cl (.Call (.Attribute o m apos) [] [] cpos) (eM0 mm so) := by
  unfold mt0 at h
  split at h
  · rename_i e; cases h; subst e
    exact snd_m0 PySem.F.slot_list_clear PySem.F.type_list_clear mt_clear okM0_clear ho hbase hline
  split at h
  · rename_i e; cases h; subst e
    exact snd_m0 PySem.F.slot_list_pop PySem.F.type_list_pop mt_pop okM0_pop ho hbase hline
  · cases h
theorem snd_nt0 {mm : Nat → Mem → Res RV} (h : mt0 m = some mm) (ho : SndE X CL cl o so)
    (hbase : attributeBase o m X.env (eval o X.env) = eval o X.env) (hline : (apos.endLine == cpos.line) = true) : SndE X CL cl (.Call (.Attribute o m apos) [] [] cpos) (eN0 mm so) := by
  unfold mt0 at h
  split at h
  · rename_i e; cases h; subst e
    exact snd_n0 PySem.F.slot_list_clear PySem.F.type_list_clear mt_clear okM0_clear ho hbase hline
  split at h
  · rename_i e; cases h; subst e
    exact snd_n0 PySem.F.slot_list_pop PySem.F.type_list_pop mt_pop okM0_pop ho hbase hline
  · cases h
theorem snd_nt1 {mm : Nat → D → Mem → Res RV} (h : mt1 m = some mm) (ho : SndE X CL cl o so) (ha : SndE X CL cl a sa)
    (hbase : attributeBase o m X.env (eval o X.env) = eval o X.env) (hline : (apos.endLine == cpos.line) = true) (hst : starEach [a] X.env = [(false, eval a X.env)]) : SndE X CL cl (.Call (.Attribute o m apos) [a] [] cpos) (eN1 mm so sa) := by
  unfold mt1 at h
  split at h
  · rename_i e; cases h; subst e
    exact snd_n1 PySem.F.slot_list_append PySem.F.type_list_append mt_append okM_append ho ha hbase hline hst
  split at h
  · rename_i e; cases h; subst e
    exact snd_n1 PySem.F.slot_list_pop PySem.F.type_list_pop mt_popAt okM_popAt ho ha hbase hline hst
  split at h
  · rename_i e; cases h; subst e
    exact snd_n1 PySem.F.slot_list_index PySem.F.type_list_index mt_index okM_index ho ha hbase hline hst
  split at h
  · rename_i e; cases h; subst e
    exact snd_n1 PySem.F.slot_list_count PySem.F.type_list_count mt_countF okM_count ho ha hbase hline hst
  · cases h
def mtd2 (m : Str) : Option (Nat → D → D → Mem → Res RV) := if m = "get" then some mGet else if m = "setdefault" then some mSetd else if m = "pop" then some mDpop else none
theorem m2_of (hbase : attributeBase o m X.env (eval o X.env) = eval o X.env) (hline : (apos.endLine == cpos.line) = true) (hst : starEach [a, b] X.env = (false, eval a X.env) :: starEach [b] X.env) (hst2 : starEach [b] X.env = [(false, eval b X.env)]) : M2 X o m apos a b cpos :=
  ⟨hbase, by rw [hst, hst2]; rfl, hline, by rw [hst, hst2]; rfl⟩
theorem snd_mtd2 {mm : Nat → D → D → Mem → Res RV} (hu : X.A.units + 64 < cLine) (hw : CL.w = X.w) (h : mtd2 m = some mm) (ho : SndE X CL cl o so) (ha : SndE X CL cl a sa) (hb : SndE X CL cl b sb)
    (hbase : attributeBase o m X.env (eval o X.env) = eval o X.env) (hline : (apos.endLine == cpos.line) = true) (hst : starEach [a, b] X.env = (false, eval a X.env) :: starEach [b] X.env) (hst2 : starEach [b] X.env = [(false, eval b X.env)]) : SndE X CL cl (.Call (.Attribute o m apos) [a, b] [] cpos) (eD2 mm so sa sb) := by
  unfold mtd2 at h
  split at h
  · rename_i e; cases h; subst e
    exact snd_d2 rfl PySem.F.slot_dict_get PySem.F.type_dict_get (mt_getD hu hw) okD_get ho ha hb (m2_of hbase hline hst hst2)
  split at h
  · rename_i e; cases h; subst e
    exact snd_d2 rfl PySem.F.slot_dict_setdefault PySem.F.type_dict_setdefault (mt_setdD hu hw) okD_setd ho ha hb (m2_of hbase hline hst hst2)
  split at h
  · rename_i e; cases h; subst e
    exact snd_d2 rfl PySem.F.slot_dict_pop PySem.F.type_dict_pop (mt_popD hu hw) okD_pop ho ha hb (m2_of hbase hline hst hst2)
  · cases h
theorem snd_mt2 {mm : Nat → D → D → Mem → Res RV} (h : mt2 m = some mm) (ho : SndE X CL cl o so) (ha : SndE X CL cl a sa) (hb : SndE X CL cl b sb)
    (hbase : attributeBase o m X.env (eval o X.env) = eval o X.env) (hline : (apos.endLine == cpos.line) = true) (hst : starEach [a, b] X.env = (false, eval a X.env) :: starEach [b] X.env) (hst2 : starEach [b] X.env = [(false, eval b X.env)]) : SndE X CL cl (.Call (.Attribute o m apos) [a, b] [] cpos) (eM2 mm so sa sb) := by
  unfold mt2 at h
  split at h
  · rename_i e; cases h; subst e
    exact snd_m2 PySem.F.slot_list_insert PySem.F.type_list_insert mt_insert okM2_insert ho ha hb hbase hline hst hst2
  · cases h
end
end MI
end
section
set_option Elab.async false
set_option linter.all false
set_option maxRecDepth 100000
set_option maxHeartbeats 4000000
/-! MI16: expressions of the text -/
namespace MI
open PySem PySem.Spec PyProof.Rows L2
structure Cmp where
  e : Ct → Expr → Option SE
  t : Ct → Expr → Option STt
def dsOf (f : Expr → Option SE) : List Expr → Option SDs
  | [] => some dNil
  | a :: r => if notStar a = true then match f a, dsOf f r with
      | some sa, some as => some (dCons sa as)
      | _, _ => none
    else none
def psOf (f : Expr → Option SE) : List (Option Expr) → List Expr → Option (List (SE × SE))
  | [], [] => some []
  | some k :: ks, v :: vs => match f k, f v, psOf f ks vs with
    | some sk, some sv, some ps => some ((sk, sv) :: ps)
    | _, _, _ => none
  | _, _ => none
def boE (f : Expr → Option SE) (op : BoolOp) : List Expr → Option SE
  | [] => none
  | [a] => f a
  | a :: b :: r => match f a, boE f op (b :: r) with
    | some sa, some sr => match op with
      | .And => some (eAnd sa sr)
      | .Or => some (eOr sa sr)
    | _, _ => none
def boT (f : Expr → Option STt) (op : BoolOp) : List Expr → Option STt
  | [] => none
  | [a] => f a
  | a :: b :: r => match f a, boT f op (b :: r) with
    | some sa, some sr => match op with
      | .And => some (MI.tAnd sa sr)
      | .Or => some (MI.tOr sa sr)
    | _, _ => none
/-- a name that may be stored -/
def Ct.st (c : Ct) (x : Str) : Bool := c.loc x || c.cel x
def tgNames (c : Ct) : List Expr → Option (List Nat)
  | [] => some []
  | .Name x _ :: r => if c.st x = true then match idx x c.N, tgNames c r with
      | some i, some is => some (i :: is)
      | _, _ => none
    else none
  | _ => none
def tgOf (c : Ct) : Expr → Option Tg
  | .Name x _ => if c.st x = true then match idx x c.N with
      | some i => some (.nm i)
      | none => none
    else none
  | .Tuple es _ _ => match tgNames c es with
    | some is => some (.tp is)
    | none => none
  | _ => none
def ownGo (names : List (Str × NameKind)) : Nat → List Str → List (Str × Nat)
  | _, [] => []
  | i, y :: r => match names.lookup y with
    | some .local => (y, i) :: ownGo names (i + 1) r
    | some .cell => (y, i) :: ownGo names (i + 1) r
    | _ => ownGo names (i + 1) r
def ownOf (N : List Str) (names : List (Str × NameKind)) : List (Str × Nat) := ownGo names 0 N
def isRange (c : Ct) : Expr → Option (List Expr)
  | .Call (.Name x _) as [] _ => if x = "range" ∧ c.bi "range" = true ∧ as.all notStar = true then some as else none
  | _ => none
def rgOf (r : Cmp) (c : Ct) : List Expr → Option SI
  | [a] => match r.e c a with
    | some sa => some (iRange1 sa)
    | none => none
  | [a, b] => match r.e c a, r.e c b with
    | some sa, some sb => some (iRange2 sa sb)
    | _, _ => none
  | [a, b, d] => match r.e c a, r.e c b, r.e c d with
    | some sa, some sb, some sd => some (iRange3 sa sb sd)
    | _, _, _ => none
  | _ => none
/-- zip(a, b), its items taken apart at once -/
def isZip (c : Ct) : Expr → Expr → Option (Expr × Expr)
  | .Tuple _ _ _, .Call (.Name x _) [a, b] [] _ => if x = "zip" ∧ c.bi "zip" = true ∧ notStar a = true ∧ notStar b = true then some (a, b) else none
  | _, _ => none
def itOf (r : Cmp) (c : Ct) (tg e : Expr) : Option SI := match isRange c e with
  | some as => rgOf r c as
  | none => match isZip c tg e with
    | some (a, b) => match r.e c a, r.e c b with
      | some sa, some sb => some (MI.iZip sa sb)
      | _, _ => none
    | none => match r.e c e with
      | some sa => some (iSeq sa)
      | none => none
/-- a name whose dict may be walked -/
def isDn (c : Ct) : Expr → Option (Nat × Str)
  | .Name x _ => if x ∈ c.dn ∧ c.vis x = true ∧ nmOk x = true then match idx x c.N with
      | some i => some (i, x)
      | none => none
    else none
  | _ => none
def Ct.blk (c : Ct) (scope : Scope) : Ct := { c with sc := scope }
def tstOf (r : Cmp) (c : Ct) : List Expr → Option STt
  | [] => some MI.tYes
  | [a] => r.t c a
  | _ => none
def cmpComp (r : Cmp) (c : Ct) (elt tg iter : Expr) (ifs : List Expr) (scope : Scope) : Option SE :=
  if c.calm = true ∧ blkC c.N c.sc scope (ownOf c.N scope.names) = true ∧ notSet iter = true then
    match itOf r c tg iter, tgOf (c.blk scope) tg, tstOf r (c.blk scope) ifs, r.e (c.blk scope) elt with
    | some si, some t, some st, some se => if t.ix.all (fun i => decide (i ∈ (ownOf c.N scope.names).map (·.2))) = true then match isDn c iter with
        | some (i, _) => some (eCompN se st t ((ownOf c.N scope.names).map (·.2)) i)
        | none => some (eComp se st t ((ownOf c.N scope.names).map (·.2)) si)
      else none
    | _, _, _, _ => none
  else none
def cmpName (c : Ct) (x : Str) : Option SE :=
  if nmOk x = true then
    if c.vis x = true then match idx x c.N with
      | some i => some (eVar i)
      | none => none
    else if c.gl x = true then match c.kon.lookup x with
      | some d => some (eC d)
      | none => none
    else none
  else none
/-- sorted(set(a)) -/
def isSortedSet (c : Ct) (x : Str) : Expr → Option Expr
  | .Call (.Name y _) [a] [] _ => if x = "sorted" ∧ y = "set" ∧ c.bi "set" = true ∧ notStar a = true then some a else none
  | _ => none
/-- tuple(range(a)) -/
def isTupRg (c : Ct) (x : Str) : Expr → Option Expr
  | .Call (.Name y _) [a] [] _ => if x = "tuple" ∧ y = "range" ∧ c.bi "range" = true ∧ notStar a = true then some a else none
  | _ => none
def cmpCall1 (r : Cmp) (c : Ct) (x : Str) (a : Expr) : Option SE :=
  match isSortedSet c x a with
  | some b => match r.e c b with
    | some sb => some (e1 bSortedSet sb)
    | none => none
  | none => match isTupRg c x a with
    | some b => match r.e c b with
      | some sb => some (eTupRg sb)
      | none => none
    | none => match bi1 x, r.e c a with
      | some o, some sa => some (e1 o sa)
      | _, _ => none
def nameOf : Expr → Option Str
  | .Name x _ => some x
  | _ => none
/-- (A, B) -/
def twoOf : Expr → Option (Str × Str)
  | .Tuple [.Name x _, .Name y _] _ _ => some (x, y)
  | _ => none
def cmpIsi2 (r : Cmp) (c : Ct) (a b : Expr) : Option SE :=
  match twoOf b with
  | some (T, U) => if c.bi T = true ∧ c.bi U = true then match tyOf T, tyOf U, r.e c a with
      | some t, some u, some sa => some (e1 (bIsi2 t u) sa)
      | _, _, _ => none
    else none
  | none => none
def cmpIsi (r : Cmp) (c : Ct) (a b : Expr) : Option SE :=
  match nameOf b with
  | some T => if c.bi T = true then match tyOf T, r.e c a with
      | some t, some sa => some (e1 (bIsi t) sa)
      | _, _ => none
    else none
  | none => cmpIsi2 r c a b
def cmpBi (r : Cmp) (c : Ct) (x : Str) (args : List Expr) : Option SE :=
  if c.calm = true ∧ c.bi x = true ∧ args.all notStar = true then match args with
    | [a] => cmpCall1 r c x a
    | [a, b] => if x = "isinstance" then cmpIsi r c a b else match bi2 x, r.e c a, r.e c b with
      | some o, some sa, some sb => some (e2 o sa sb)
      | _, _, _ => none
    | _ => none
  else none
def cmpCall (r : Cmp) (c : Ct) (x : Str) (args : List Expr) : Option SE :=
  match c.fns.lookup x with
  | some ar => if c.calm = true ∧ c.gl x = true ∧ nmOk x = true ∧ args.length = ar ∧ args ≠ [] ∧ args.all notStar = true then match dsOf (r.e c) args with
      | some as => some (eCall x as)
      | none => none
    else none
  | none => match c.cls.lookup x with
    | some ar => if c.calm = true ∧ c.gl x = true ∧ nmOk x = true ∧ args.length + 1 = ar ∧ args.all notStar = true then match dsOf (r.e c) args with
        | some as => some (eNew x as)
        | none => none
      else none
    | none => cmpBi r c x args
/-- no call, no display -/
def notNew : Expr → Bool
  | .Call (.Attribute _ m _) _ _ _ => m == ("setdefault" : Str)
  | .Call _ _ _ _ => false
  | .List _ _ => false
  | _ => true
def cmpMeth (r : Cmp) (c : Ct) (o : Expr) (m : Str) (args : List Expr) (ln : Bool) : Option SE :=
  if okRecv o = true ∧ ln = true ∧ args.all notStar = true then match args with
    | [] => match mt0 m, r.e c o with
      | some mm, some so => if notCall o = true then some (eM0 mm so) else some (eN0 mm so)
      | _, _ => none
    | [a] => match mt1 m, r.e c o, r.e c a with
      | some mm, some so, some sa => if notNew o = true then some (eM1 mm so sa) else some (eN1 mm so sa)
      | _, _, _ => none
    | [a, b] => match mt2 m, mtd2 m, r.e c o, r.e c a, r.e c b with
      | some mm, _, some so, some sa, some sb => some (eM2 mm so sa sb)
      | none, some mm, some so, some sa, some sb => some (eD2 mm so sa sb)
      | _, _, _, _, _ => none
    | _ => none
  else none
/-- a method of a text -/
def cmpTxt (r : Cmp) (c : Ct) (o : Expr) (m : Str) (args : List Expr) (ln : Bool) : Option SE :=
  if okRecv o = true ∧ ln = true ∧ args.all notStar = true then match args with
    | [a] => match r.e c o, r.e c a with
      | some so, some sa => if m = "split" then some (eT1 tSplit so sa) else if m = "join" then some (eT1 tJoin so sa) else none
      | _, _ => none
    | _ => none
  else none
/-- a method of an object -/
def cmpObj (r : Cmp) (c : Ct) (o : Expr) (m : Str) (args : List Expr) (ln : Bool) : Option SE :=
  if c.calm = true ∧ m ∈ c.mts ∧ okRecv o = true ∧ ln = true ∧ args.all notStar = true ∧ args.length < 25 then match r.e c o, dsOf (r.e c) args with
    | some so, some as => some (eMeth m so as)
    | _, _ => none
  else none
def cmpAny (r : Cmp) (c : Ct) (o : Expr) (m : Str) (args : List Expr) (ln : Bool) : Option SE :=
  match cmpMeth r c o m args ln with
  | some s => some s
  | none => match cmpTxt r c o m args ln with
    | some s => some s
    | none => cmpObj r c o m args ln
def cmpConst : Const → Option SE
  | .int i => some (eC (.int i))
  | .bool b => some (eC (.bl b))
  | .none => some (eC .non)
  | .str x => some (eC (.str x))
  | _ => none
def cmpO (r : Cmp) (c : Ct) : Option Expr → Option SO
  | none => some oNone
  | some a => match r.e c a with
    | some sa => some (oSome sa)
    | none => none
def stepE (r : Cmp) (c : Ct) : Expr → Option SE
  | .Name x _ => cmpName c x
  | .Constant k _ _ => cmpConst k
  | .BinOp a op b _ => match opB op, r.e c a, r.e c b with
    | some o, some sa, some sb => some (e2 o sa sb)
    | _, _, _ => none
  | .UnaryOp .Not a _ => match r.e c a with
    | some sa => some (eNot sa)
    | none => none
  | .UnaryOp .USub a _ => match r.e c a with
    | some sa => some (e1 oNeg sa)
    | none => none
  | .BoolOp op vs _ => boE (r.e c) op vs
  | .Compare a [op] [b] _ => if notSet b = true then match opC op, r.e c a, r.e c b with
      | some o, some sa, some sb => some (e2 o sa sb)
      | _, _, _ => none
    else none
  | .IfExp t a b _ => match r.t c t, r.e c a, r.e c b with
    | some st, some sa, some sb => some (eIf st sa sb)
    | _, _, _ => none
  | .Tuple es _ _ => match dsOf (r.e c) es with
    | some as => some (eTup as)
    | none => none
  | .List es _ => match dsOf (r.e c) es with
    | some as => some (eLst as)
    | none => none
  | .Dict [] [] _ => some eDic0
  | .Dict ks vs _ => if ks ≠ [] ∧ ks.length ≤ 15 then match psOf (r.e c) ks vs with
      | some ps => some (eDic (dPairs ps))
      | none => none
    else none
  | .Subscript a (.Slice lo hi none _) _ => match r.e c a, cmpO r c lo, cmpO r c hi with
    | some sa, some sl, some sh => some (eSlice sa sl sh)
    | _, _, _ => none
  | .Subscript a (.Slice none none (some (.UnaryOp .USub (.Constant (.int 1) _ _) _)) _) _ => match r.e c a with
    | some sa => some (eRev sa)
    | none => none
  | .Subscript a (.Slice lo hi (some (.Constant (.int k) _ _)) _) _ => if 0 < k then match r.e c a, cmpO r c lo, cmpO r c hi with
    | some sa, some sl, some sh => some (eStep sa sl sh k.toNat)
    | _, _, _ => none
    else none
  | .Subscript a b _ => if notSlice b = true then match r.e c a, r.e c b with
      | some sa, some sb => some (e2 oIx sa sb)
      | _, _ => none
    else none
  | .ListComp elt [⟨tg, iter, ifs, ia⟩] scope _ => if ia = 0 then cmpComp r c elt tg iter ifs scope else none
  | .Call (.Name x _) args [] _ => cmpCall r c x args
  | .Call (.Attribute o m apos) args [] cpos => cmpAny r c o m args (apos.endLine == cpos.line)
  | .Attribute o f _ => if okRecv o = true ∧ f ∈ c.flds then match r.e c o with
      | some so => some (eFld so f)
      | none => none
    else none
  | _ => none
def stepT (r : Cmp) (c : Ct) : Expr → Option STt
  | .UnaryOp .Not a _ => match r.t c a with
    | some ta => some (MI.tNot ta)
    | none => none
  | .BoolOp op vs _ => boT (r.t c) op vs
  | .Compare a [op] [b] _ => if notSet b = true then match opC op, r.e c a, r.e c b with
      | some o, some sa, some sb => some (tB (e2 o sa sb))
      | _, _, _ => none
    else none
  | e => if plainT e = true then match r.e c e with
      | some s => some (tTru s)
      | none => none
    else none
def cmp : Nat → Cmp
  | 0 => ⟨fun _ _ => none, fun _ _ => none⟩
  | n + 1 => ⟨stepE (cmp n), stepT (cmp n)⟩

/-! ### it is sound -/
structure SndC (P : Program) (w : World) (K : PySem.W.Frag) (mg : Str → Option Value) (base : Heap) (CL : CLs) (cl : Cl) (k : Nat) (r : Cmp) : Prop where
  e : ∀ (X : Cx) (c : Ct) e s, X.prog = P → X.w = w → X.K = K → X.mg = mg → X.base = base → Good X CL cl k c → r.e c e = some s → SndE X CL cl e s
  t : ∀ (X : Cx) (c : Ct) e s, X.prog = P → X.w = w → X.K = K → X.mg = mg → X.base = base → Good X CL cl k c → r.t c e = some s → SndT X CL cl e s
section
variable {X : Cx} {CL : CLs} {cl : Cl} {k : Nat} {c : Ct}
theorem Good.mgn (G : Good X CL cl k c) {x : Str} (h : c.bi x = true) : Gl X x ∧ X.mg x = none ∧ nmOk x = true := by
  unfold Ct.bi at h
  simp only [Bool.and_eq_true, decide_eq_true_eq] at h
  exact ⟨G.gl x h.1, G.bl x h.2.1, h.2.2⟩
theorem Good.st (G : Good X CL cl k c) {x : Str} (h : c.st x = true) : Loc X.env.scope x ∧ (X.fn x = true ∨ X.env.scope.names.lookup x = some .local) := by
  unfold Ct.st at h
  rcases Bool.or_eq_true_iff.mp h with h | h
  · have := G.loc x h
    exact ⟨.inl this, .inr this⟩
  · have := G.cel x h
    exact ⟨.inr this.1, .inl this.2⟩
theorem dsOf_ok {f : Expr → Option SE} (hf : ∀ e s, f e = some s → SndE X CL cl e s) : ∀ (es : List Expr) (as : SDs), dsOf f es = some as → SndDs X CL cl es as ∧ es.all notStar = true ∧ ∀ r M ds M', as cl r M = .ok ds M' → ds.length = es.length
  | [], as, h => by
    simp only [dsOf] at h; cases h
    exact ⟨dnd_nil, rfl, fun r M ds M' e => by simp only [dNil] at e; cases e; rfl⟩
  | a :: es, as, h => by
    unfold dsOf at h
    split at h
    · rename_i hs
      split at h
      · rename_i sa as' h1 h2
        cases h
        obtain ⟨q1, q2, q3⟩ := dsOf_ok hf es as' h2
        refine ⟨dnd_cons (hf _ _ h1) q1 (star1 hs), by rw [List.all_cons, hs, q2]; rfl, fun r M ds M' e => ?_⟩
        unfold dCons at e
        cases e1 : sa cl r M with
        | ok x M1 =>
          rw [e1] at e
          simp only [Res.bind] at e
          cases e2 : as' cl r (box x M1).2 with
          | ok ds' M2 =>
            rw [e2] at e
            simp only [Res.bind] at e
            cases e
            rw [List.length_cons, List.length_cons, q3 _ _ _ _ e2]
          | err _ _ => rw [e2] at e; simp only [Res.bind] at e; cases e
          | bad => rw [e2] at e; simp only [Res.bind] at e; cases e
        | err _ _ => rw [e1] at e; simp only [Res.bind] at e; cases e
        | bad => rw [e1] at e; simp only [Res.bind] at e; cases e
      · cases h
    · cases h
theorem psOf_ok {f : Expr → Option SE} (hf : ∀ e s, f e = some s → SndE X CL cl e s) : ∀ (ks : List (Option Expr)) (vs : List Expr) (ps : List (SE × SE)), psOf f ks vs = some ps → SndPs X CL cl ks vs ps
  | [], [], ps, h => by simp only [psOf] at h; cases h; exact .nil
  | some k :: ks, v :: vs, ps, h => by
    unfold psOf at h
    split at h
    · rename_i sk sv ps' h1 h2 h3
      cases h
      exact .cons (hf _ _ h1) (hf _ _ h2) (psOf_ok hf ks vs ps' h3)
    · cases h
  | [], _ :: _, ps, h => by simp [psOf] at h
  | none :: _, _, ps, h => by simp [psOf] at h
  | some _ :: _, [], ps, h => by simp [psOf] at h
theorem boE_ok {f : Expr → Option SE} {op : BoolOp} {pos : Pos} (hf : ∀ e s, f e = some s → SndE X CL cl e s) : ∀ (es : List Expr) (s : SE), boE f op es = some s → SndE X CL cl (.BoolOp op es pos) s
  | [], s, h => by simp [boE] at h
  | [a], s, h => by
    simp only [boE] at h
    exact snd_one (hf _ _ h)
  | a :: b :: r, s, h => by
    unfold boE at h
    split at h
    · rename_i sa sr h1 h2
      have q := boE_ok (pos := pos) hf (b :: r) sr h2
      cases op <;> (simp only at h; cases h)
      · exact snd_and (hf _ _ h1) q
      · exact snd_or (hf _ _ h1) q
    · cases h
theorem boT_ok {f : Expr → Option STt} {op : BoolOp} {pos : Pos} (hf : ∀ e s, f e = some s → SndT X CL cl e s) : ∀ (es : List Expr) (s : STt), boT f op es = some s → SndW X CL cl (.BoolOp op es pos) s
  | [], s, h => by simp [boT] at h
  | [a], s, h => by
    simp only [boT] at h
    cases op
    · exact wnd_and1 (hf _ _ h)
    · exact wnd_or1 (hf _ _ h)
  | a :: b :: r, s, h => by
    unfold boT at h
    split at h
    · rename_i sa sr h1 h2
      have q := boT_ok (pos := pos) hf (b :: r) sr h2
      cases op <;> (simp only at h; cases h)
      · exact wnd_and (hf _ _ h1) q
      · exact wnd_or (hf _ _ h1) q
    · cases h
theorem tgNames_ok (G : Good X CL cl k c) : ∀ (es : List Expr) (is : List Nat), tgNames c es = some is → PGs X es (gNames is) ∧ (assignEach es X.env).length = is.length ∧ (assignEach es X.env).findIdx? (·.1) = none
  | [], is, h => by
    simp only [tgNames] at h; cases h
    exact ⟨pgs_nil, rfl, rfl⟩
  | e :: r, is, h => by
    cases e with
    | Name x p =>
      simp only [tgNames] at h
      split at h
      · rename_i hx
        split at h
        · rename_i i is' h1 h2
          cases h
          obtain ⟨q1, q2, q3⟩ := tgNames_ok G r is' h2
          obtain ⟨l1, l2⟩ := G.st hx
          refine ⟨pgs_cons (pg_name (by rw [G.N]; exact G.nd) (by rw [G.N]; exact idx_ok h1) l1 l2) q1 rfl, ?_, ?_⟩
          · show (assignEach r X.env).length + 1 = _
            rw [q2]; rfl
          · simp only [assignEach, List.findIdx?_cons, q3]
            rfl
        · cases h
      · cases h
    | _ => simp [tgNames] at h
theorem tgOf_ok (G : Good X CL cl k c) (hc : X.calm = true) {e : Expr} {t : Tg} (h : tgOf c e = some t) : SndTg X e t := by
  cases e with
  | Name x p =>
    simp only [tgOf] at h
    split at h
    · rename_i hx
      split at h
      · rename_i i h1
        cases h
        obtain ⟨l1, l2⟩ := G.st hx
        exact pg_name (by rw [G.N]; exact G.nd) (by rw [G.N]; exact idx_ok h1) l1 l2
      · cases h
    · cases h
  | Tuple es p q =>
    simp only [tgOf] at h
    split at h
    · rename_i is h1
      cases h
      obtain ⟨q1, q2, q3⟩ := tgNames_ok G es is h1
      exact pg_tup hc q1 q2 q3
    · cases h
  | _ => simp [tgOf] at h
theorem blk_lookup {env : PySem.Env} {x : Str} {κ : NameKind} (hk : κ ≠ .free) : ∀ {names : List (Str × NameKind)}, names.lookup x = some κ →
    (names.map fun (n, k) => if (k == NameKind.free && env.scope.kind == .function && env.kindOf n == some .cell) then (n, NameKind.cell) else (n, k)).lookup x = some κ
  | [], h => by simp at h
  | (n, κ') :: r, h => by
    have ih := @blk_lookup env x κ hk r
    show List.lookup x ((if (κ' == NameKind.free && env.scope.kind == .function && env.kindOf n == some .cell) = true then (n, NameKind.cell) else (n, κ')) :: _) = _
    cases hx : x == n with
    | true =>
      simp only [List.lookup_cons, hx] at h
      cases h
      have : (κ == NameKind.free) = false := by cases κ <;> first | rfl | exact absurd rfl hk
      simp [List.lookup_cons, hx, this]
    | false =>
      simp only [List.lookup_cons, hx] at h
      split <;> simp only [List.lookup_cons, hx] <;> exact ih h
theorem blk_free {env : PySem.Env} {x : Str} : ∀ {names : List (Str × NameKind)}, names.lookup x = some .free →
    (names.map fun (n, k) => if (k == NameKind.free && env.scope.kind == .function && env.kindOf n == some .cell) then (n, NameKind.cell) else (n, k)).lookup x = some .cell ∨
    (names.map fun (n, k) => if (k == NameKind.free && env.scope.kind == .function && env.kindOf n == some .cell) then (n, NameKind.cell) else (n, k)).lookup x = some .free
  | [], h => by simp at h
  | (n, κ') :: r, h => by
    have ih := @blk_free env x r
    show List.lookup x ((if (κ' == NameKind.free && env.scope.kind == .function && env.kindOf n == some .cell) = true then (n, NameKind.cell) else (n, κ')) :: _) = _ ∨ List.lookup x ((if (κ' == NameKind.free && env.scope.kind == .function && env.kindOf n == some .cell) = true then (n, NameKind.cell) else (n, κ')) :: _) = _
    cases hx : x == n with
    | true =>
      simp only [List.lookup_cons, hx] at h
      cases h
      split <;> simp [List.lookup_cons, hx]
    | false =>
      simp only [List.lookup_cons, hx] at h
      split <;> simp only [List.lookup_cons, hx] <;> exact ih h
theorem Good.blk (G : Good X CL cl k c) {scope : Scope} (hk : scope.kind = .function) (s : Shared) (H : Hp) (C : Addr) (cc : List (Str × Addr)) (fp : List Addr) : Good (Blk X scope s H C cc fp) CL cl k (c.blk scope) := by
  have key : ∀ x κ, κ ≠ NameKind.free → scope.names.lookup x = some κ → (Blk X scope s H C cc fp).env.scope.names.lookup x = some κ := fun x κ h1 h2 => blk_lookup (env := X.env) h1 h2
  have keyf : ∀ x, scope.names.lookup x = some .free → (Blk X scope s H C cc fp).env.scope.names.lookup x = some .cell ∨ (Blk X scope s H C cc fp).env.scope.names.lookup x = some .free := fun x h2 => blk_free (env := X.env) h2
  refine ⟨G.N, G.nd, fun x h => ?_, fun x h => ?_, fun x h => ?_, fun x h => ?_, fun x h => ?_, hk, G.bl, G.kon, fun x ar h => ⟨(G.fns x ar h).ok⟩, G.un5, G.w, G.calm, fun x ar h => ⟨(G.new x ar h).ok⟩, fun f h c C e => G.fld f h c C e, fun m h c C e => (G.mth m h c C e).imp (fun ⟨ar, g⟩ => ⟨ar, ⟨g.cls, g.ok, g.bad⟩⟩) id⟩
  · simp only [Ct.vis, Ct.lk, Ct.blk] at h
    split at h
    · rename_i e; exact .inl (key x _ nofun e)
    · rename_i e; exact .inr (.inl (key x _ nofun e))
    · rename_i e; exact .inr (keyf x e)
    · cases h
  · simp only [Ct.gl, Ct.lk, Ct.blk] at h
    split at h
    · rename_i e; exact key x _ nofun e
    · cases h
  · simp only [Ct.loc, Ct.lk, Ct.blk] at h
    split at h
    · rename_i e; exact key x _ nofun e
    · cases h
  · simp only [Ct.cel, Ct.lk, Ct.blk] at h
    split at h
    · rename_i e; exact ⟨key x _ nofun e, by show (scope.names.lookup x == some .cell) = true; rw [e]; rfl⟩
    · cases h
  · rcases h with h | h
    · exact .inl (key x _ nofun h)
    · exact keyf x h
theorem Good.blkOk (G : Good X CL cl k c) {scope : Scope} {own : List (Str × Nat)} (h : blkC c.N c.sc scope own = true) : BlkOk X.N X.env.scope scope own := by
  have q := blkOk_by h
  rw [G.N]
  exact ⟨q.kind, q.uniq, q.ix, fun y hy e => G.cf _ (q.free y hy e), q.own⟩
theorem cmpName_ok (G : Good X CL cl k c) {x : Str} {s : SE} {pos : Pos} (h : cmpName c x = some s) : SndE X CL cl (.Name x pos) s := by
  unfold cmpName at h
  split at h
  · rename_i hn
    split at h
    · rename_i hv
      split at h
      · rename_i i hi
        cases h
        exact snd_var (by rw [G.N]; exact idx_ok hi) (G.vis x hv) (nmOk_d hn) (nmOk_c hn)
      · cases h
    · split at h
      · rename_i hg
        split at h
        · rename_i d hd
          cases h
          obtain ⟨u, v, h1, h2, h3⟩ := G.kon x d hd
          exact snd_const (pe_glob (G.gl x hg) h1 h2 (nmOk_d hn)) h3
        · cases h
      · cases h
  · cases h
end
section
variable {P : Program} {w : World} {K : PySem.W.Frag} {mg : Str → Option Value} {base : Heap} {CL : CLs} {cl : Cl} {k : Nat} {r : Cmp}
theorem isRange_ok {c : Ct} {e : Expr} {as : List Expr} (h : isRange c e = some as) : ∃ p q, e = .Call (.Name "range" p) as [] q ∧ c.bi "range" = true ∧ as.all notStar = true := by
  unfold isRange at h
  split at h
  · split at h
    · rename_i x p b q hh
      obtain ⟨h1, h2, h3⟩ := hh
      cases h
      subst h1
      exact ⟨_, _, rfl, h2, h3⟩
    · cases h
  · cases h
theorem isZip_ok {c : Ct} {tg e a b : Expr} (h : isZip c tg e = some (a, b)) : ∃ elts kk tpos p q, tg = .Tuple elts kk tpos ∧ e = .Call (.Name "zip" p) [a, b] [] q ∧ c.bi "zip" = true ∧ notStar a = true ∧ notStar b = true := by
  unfold isZip at h
  split at h
  · split at h
    · rename_i es kk tpos x p a' b' q hh
      obtain ⟨h1, h2, h3, h4⟩ := hh
      cases h
      subst h1
      exact ⟨_, _, _, _, _, rfl, rfl, h2, h3, h4⟩
    · cases h
  · cases h
theorem itOf_ok (S : SndC P w K mg base CL cl k r) {X : Cx} {c : Ct} (hP : X.prog = P) (hw : X.w = w) (hK : X.K = K) (hm : X.mg = mg) (hb : X.base = base) (G : Good X CL cl k c) {tg e : Expr} {s : SI} (h : itOf r c tg e = some s) : SndI X CL cl tg e s := by
  unfold itOf at h
  split at h
  · rename_i as ha
    obtain ⟨p, q, rfl, h1, h2⟩ := isRange_ok ha
    obtain ⟨g1, g2, g3⟩ := G.mgn h1
    unfold rgOf at h
    split at h
    · rename_i a
      split at h
      · rename_i sa hs
        cases h
        exact snd_range1 (S.e X c _ _ hP hw hK hm hb G hs) g1 g2 (star1 (by simpa using h2))
      · cases h
    · rename_i a b
      have sab : notStar a = true ∧ notStar b = true := by simpa using h2
      split at h
      · rename_i sa sb hs1 hs2
        cases h
        exact snd_range2 (S.e X c _ _ hP hw hK hm hb G hs1) (S.e X c _ _ hP hw hK hm hb G hs2) g1 g2 ((star1 sab.1).trans (by rw [star1 sab.2]; rfl)) (star1 sab.2)
      · cases h
    · rename_i a b d
      have sab : notStar a = true ∧ notStar b = true ∧ notStar d = true := by simpa using h2
      split at h
      · rename_i sa sb sd hs1 hs2 hs3
        cases h
        exact snd_range3 (S.e X c _ _ hP hw hK hm hb G hs1) (S.e X c _ _ hP hw hK hm hb G hs2) (S.e X c _ _ hP hw hK hm hb G hs3) g1 g2 (star1 sab.1) (star1 sab.2.1) (star1 sab.2.2)
      · cases h
    · cases h
  · split at h
    · rename_i a b hz
      obtain ⟨elts, kk, tpos, p, q, rfl, rfl, h1, h2, h3⟩ := isZip_ok hz
      obtain ⟨g1, g2, g3⟩ := G.mgn h1
      split at h
      · rename_i sa sb hs1 hs2
        cases h
        exact snd_zip (S.e X c _ _ hP hw hK hm hb G hs1) (S.e X c _ _ hP hw hK hm hb G hs2) g1 g2 (star1 h2) (star1 h3)
      · cases h
    · split at h
      · rename_i sa hs
        cases h
        exact snd_seq (S.e X c _ _ hP hw hK hm hb G hs)
      · cases h
theorem isDn_ok {c : Ct} {e : Expr} {i : Nat} {x : Str} (h : isDn c e = some (i, x)) : ∃ p, e = .Name x p ∧ c.vis x = true ∧ nmOk x = true ∧ idx x c.N = some i := by
  unfold isDn at h
  split at h
  · split at h
    · rename_i y p hh
      split at h
      · rename_i j hj
        cases h
        exact ⟨_, rfl, hh.2.1, hh.2.2, hj⟩
      · cases h
    · cases h
  · cases h
theorem dn_var {X : Cx} {c : Ct} (G : Good X CL cl k c) {i : Nat} {x : Str} {p : Pos} (h1 : c.vis x = true) (h2 : nmOk x = true) (h3 : idx x c.N = some i) : PE X (.Name x p) (tVar i) ∧ SndE X CL cl (.Name x p) (eVar i) :=
  ⟨pe_var (by rw [G.N]; exact idx_ok h3) (G.vis x h1) (nmOk_d h2) (nmOk_c h2), snd_var (by rw [G.N]; exact idx_ok h3) (G.vis x h1) (nmOk_d h2) (nmOk_c h2)⟩
theorem tstOf_ok (S : SndC P w K mg base CL cl k r) {X : Cx} {c : Ct} (hP : X.prog = P) (hw : X.w = w) (hK : X.K = K) (hm : X.mg = mg) (hb : X.base = base) (G : Good X CL cl k c) {es : List Expr} {s : STt} (h : tstOf r c es = some s) : SndTs X CL cl es s := by
  unfold tstOf at h
  split at h
  · cases h; exact tsnd_nil
  · exact tsnd_one (S.t X c _ _ hP hw hK hm hb G h)
  · cases h
structure CompOk (r : Cmp) (c : Ct) (elt tg iter : Expr) (ifs : List Expr) (scope : Scope) (s : SE) where
  si : SI
  t : Tg
  st : STt
  se : SE
  calm : c.calm = true
  blk : blkC c.N c.sc scope (ownOf c.N scope.names) = true
  ns : notSet iter = true
  i1 : itOf r c tg iter = some si
  i2 : tgOf (c.blk scope) tg = some t
  i3 : tstOf r (c.blk scope) ifs = some st
  i4 : r.e (c.blk scope) elt = some se
  ix : ∀ i ∈ t.ix, i ∈ (ownOf c.N scope.names).map (·.2)
  eq : (s = eComp se st t ((ownOf c.N scope.names).map (·.2)) si) ∨ ∃ i x, isDn c iter = some (i, x) ∧ s = eCompN se st t ((ownOf c.N scope.names).map (·.2)) i
theorem cmpComp_inv {c : Ct} {elt tg iter : Expr} {ifs : List Expr} {scope : Scope} {s : SE} (h : cmpComp r c elt tg iter ifs scope = some s) : Nonempty (CompOk r c elt tg iter ifs scope s) := by
  unfold cmpComp at h
  split at h
  · rename_i hh
    split at h
    · rename_i si t st se h1 h2 h3 h4
      split at h
      · rename_i h5
        split at h
        · rename_i i x hd
          cases h
          exact ⟨⟨si, t, st, se, hh.1, hh.2.1, hh.2.2, h1, h2, h3, h4, fun i hi => by simpa using List.all_eq_true.mp h5 i hi, .inr ⟨i, x, hd, rfl⟩⟩⟩
        · cases h
          exact ⟨⟨si, t, st, se, hh.1, hh.2.1, hh.2.2, h1, h2, h3, h4, fun i hi => by simpa using List.all_eq_true.mp h5 i hi, .inl rfl⟩⟩
      · cases h
    · cases h
  · cases h
theorem snd_cmpComp (S : SndC P w K mg base CL cl k r) {X : Cx} {c : Ct} (hP : X.prog = P) (hw : X.w = w) (hK : X.K = K) (hm : X.mg = mg) (hb : X.base = base) (G : Good X CL cl k c) {elt tg iter : Expr} {ifs : List Expr} {scope : Scope} {pos : Pos} {s : SE} (h : cmpComp r c elt tg iter ifs scope = some s) :
    SndE X CL cl (.ListComp elt [⟨tg, iter, ifs, 0⟩] scope pos) s := by
  obtain ⟨q⟩ := cmpComp_inv h
  have hc := (G.calm q.calm).1
  have kb := (G.blkOk q.blk).kind
  rcases q.eq with eq | ⟨i, x, hd, eq⟩
  rotate_left
  · obtain ⟨p, rfl, v1, v2, v3⟩ := isDn_ok hd
    rw [eq]
    obtain ⟨w1, w2⟩ := dn_var G v1 v2 v3 (p := p)
    exact snd_compN hc (by rw [G.N]; exact G.nd) w1 w2 (G.blkOk q.blk) q.ix (fun s H C cc fp => tgOf_ok (G.blk kb s H C cc fp) hc q.i2)
      (fun s H C cc fp => tstOf_ok (X := Blk X scope s H C cc fp) S hP hw hK hm hb (G.blk kb s H C cc fp) q.i3) (fun s H C cc fp => S.e _ _ _ _ hP hw hK hm hb (G.blk kb s H C cc fp) q.i4)
  rw [eq]
  exact snd_comp hc (by rw [G.N]; exact G.nd) (itOf_ok S hP hw hK hm hb G q.i1) (G.blkOk q.blk) q.ix (fun s H C cc fp => tgOf_ok (G.blk kb s H C cc fp) hc q.i2)
    (fun s H C cc fp => tstOf_ok (X := Blk X scope s H C cc fp) S hP hw hK hm hb (G.blk kb s H C cc fp) q.i3) (fun s H C cc fp => S.e _ _ _ _ hP hw hK hm hb (G.blk kb s H C cc fp) q.i4) (fold0 q.ns)
theorem stm_cmpComp (S : SndC P w K mg base CL cl k r) {X : Cx} {c : Ct} (hP : X.prog = P) (hw : X.w = w) (hK : X.K = K) (hm : X.mg = mg) (hb : X.base = base) (G : Good X CL cl k c) {elt tg iter : Expr} {ifs : List Expr} {scope : Scope} {pos spos py : Pos} {s : SE} (h : cmpComp r c elt tg iter ifs scope = some s)
    {i : Nat} {y : Str} (hy : X.N[i]? = some y) (hyl : X.env.scope.names.lookup y = some .local) (hsw : swapsWith (.ListComp elt [⟨tg, iter, ifs, 0⟩] scope pos) (some (.Name y py)) spos.line X.env = pure true) :
    SndS X CL cl (.Assign [.Name y py] (.ListComp elt [⟨tg, iter, ifs, 0⟩] scope pos) spos) (sSet i s) := by
  obtain ⟨q⟩ := cmpComp_inv h
  have hc := (G.calm q.calm).1
  have kb := (G.blkOk q.blk).kind
  rcases q.eq with eq | ⟨i, x, hd, eq⟩
  rotate_left
  · obtain ⟨p, rfl, v1, v2, v3⟩ := isDn_ok hd
    rw [eq]
    obtain ⟨w1, w2⟩ := dn_var G v1 v2 v3 (p := p)
    exact stm_setCompN hc (by rw [G.N]; exact G.nd) hy hyl hsw w1 w2 (G.blkOk q.blk) q.ix (fun s H C cc fp => tgOf_ok (G.blk kb s H C cc fp) hc q.i2)
      (fun s H C cc fp => tstOf_ok (X := Blk X scope s H C cc fp) S hP hw hK hm hb (G.blk kb s H C cc fp) q.i3) (fun s H C cc fp => S.e _ _ _ _ hP hw hK hm hb (G.blk kb s H C cc fp) q.i4)
  rw [eq]
  exact stm_setComp hc (by rw [G.N]; exact G.nd) hy hyl hsw (itOf_ok S hP hw hK hm hb G q.i1) (G.blkOk q.blk) q.ix (fun s H C cc fp => tgOf_ok (G.blk kb s H C cc fp) hc q.i2)
    (fun s H C cc fp => tstOf_ok (X := Blk X scope s H C cc fp) S hP hw hK hm hb (G.blk kb s H C cc fp) q.i3) (fun s H C cc fp => S.e _ _ _ _ hP hw hK hm hb (G.blk kb s H C cc fp) q.i4) (fold0 q.ns)
theorem nameOf_ok {e : Expr} {x : Str} (h : nameOf e = some x) : ∃ p, e = .Name x p := by
  unfold nameOf at h
  split at h
  · cases h; exact ⟨_, rfl⟩
  · cases h
theorem twoOf_ok {e : Expr} {x y : Str} (h : twoOf e = some (x, y)) : ∃ q1 q2 q3 j, e = .Tuple [.Name x q1, .Name y q2] j q3 := by
  unfold twoOf at h
  split at h
  · cases h; exact ⟨_, _, _, _, rfl⟩
  · cases h
theorem isSortedSet_ok {c : Ct} {x : Str} {e a : Expr} (h : isSortedSet c x e = some a) : ∃ p q, x = "sorted" ∧ e = .Call (.Name "set" p) [a] [] q ∧ c.bi "set" = true ∧ notStar a = true := by
  unfold isSortedSet at h
  split at h
  · split at h
    · rename_i y p b q hh
      obtain ⟨h1, h2, h3, h4⟩ := hh
      cases h
      subst h2
      exact ⟨_, _, h1, rfl, h3, h4⟩
    · cases h
  · cases h
theorem isTupRg_ok {c : Ct} {x : Str} {e a : Expr} (h : isTupRg c x e = some a) : ∃ p q, x = "tuple" ∧ e = .Call (.Name "range" p) [a] [] q ∧ c.bi "range" = true ∧ notStar a = true := by
  unfold isTupRg at h
  split at h
  · split at h
    · rename_i y p b q hh
      obtain ⟨h1, h2, h3, h4⟩ := hh
      cases h
      subst h2
      exact ⟨_, _, h1, rfl, h3, h4⟩
    · cases h
  · cases h
theorem cmpBi_ok (S : SndC P w K mg base CL cl k r) {X : Cx} {c : Ct} (hP : X.prog = P) (hw : X.w = w) (hK : X.K = K) (hm : X.mg = mg) (hb : X.base = base) (G : Good X CL cl k c) {x : Str} {args : List Expr} {s : SE} {p0 pos : Pos} (h : cmpBi r c x args = some s) :
    SndE X CL cl (.Call (.Name x p0) args [] pos) s := by
  unfold cmpBi at h
  split at h
  · rename_i hh
    obtain ⟨h0, h1, h2⟩ := hh
    have hc := (G.calm h0).1
    obtain ⟨g1, g2, g3⟩ := G.mgn h1
    split at h
    · rename_i a
      have sa : notStar a = true := by simpa using h2
      unfold cmpCall1 at h
      split at h
      · rename_i b hb2
        obtain ⟨p, q, rfl, rfl, h3, h4⟩ := isSortedSet_ok hb2
        split at h
        · rename_i sb hs
          cases h
          obtain ⟨g4, g5, g6⟩ := G.mgn h3
          exact snd_sortedSet hc G.un (S.e X c _ _ hP hw hK hm hb G hs) g1 g2 g4 g5 (star1 h4)
        · cases h
      split at h
      · rename_i b hb2
        obtain ⟨p, q, rfl, rfl, h3, h4⟩ := isTupRg_ok hb2
        split at h
        · rename_i sb hs
          cases h
          obtain ⟨g4, g5, g6⟩ := G.mgn h3
          exact snd_tupRg hc (S.e X c _ _ hP hw hK hm hb G hs) g1 g2 g4 g5 (star1 h4)
        · cases h
      · split at h
        · rename_i o sa' ho hs
          cases h
          exact snd_bi1 hc G.un G.w ho (S.e X c _ _ hP hw hK hm hb G hs) g1 g2 (nmOk_n g3) (nmOk_d g3) (star1 sa)
        · cases h
    · rename_i a b
      have sab : notStar a = true ∧ notStar b = true := by simpa using h2
      split at h
      · rename_i hi
        subst hi
        unfold cmpIsi at h
        split at h
        · rename_i T hT
          obtain ⟨p, rfl⟩ := nameOf_ok hT
          split at h
          · rename_i hbT
            split at h
            · rename_i t sa' ht hs
              cases h
              obtain ⟨g4, g5, g6⟩ := G.mgn hbT
              exact snd_isi (S.e X c _ _ hP hw hK hm hb G hs) g1 g2 g4 g5 (tyOf_ok ht) (nmOk_n g6) (nmOk_d g6) (star1 sab.1)
            · cases h
          · cases h
        · unfold cmpIsi2 at h
          split at h
          · rename_i T U hT
            obtain ⟨q1, q2, q3, j, rfl⟩ := twoOf_ok hT
            split at h
            · rename_i hbT
              split at h
              · rename_i t u sa' ht hu hs
                cases h
                obtain ⟨g4, g5, g6⟩ := G.mgn hbT.1
                obtain ⟨g7, g8, g9⟩ := G.mgn hbT.2
                exact snd_isi2 (S.e X c _ _ hP hw hK hm hb G hs) g1 g2 g4 g5 (tyOf_ok ht) (nmOk_n g6) (nmOk_d g6) g7 g8 (tyOf_ok hu) (nmOk_n g9) (nmOk_d g9) (star1 sab.1)
              · cases h
            · cases h
          · cases h
      · split at h
        · rename_i o sa' sb' ho hs1 hs2
          cases h
          exact snd_bi2 hc ho (S.e X c _ _ hP hw hK hm hb G hs1) (S.e X c _ _ hP hw hK hm hb G hs2) g1 g2 (nmOk_n g3) (nmOk_d g3) (star1 sab.1) (star1 sab.2)
        · cases h
    · cases h
  · cases h
theorem cmpCall_ok (S : SndC P w K mg base CL cl k r) {X : Cx} {c : Ct} (hP : X.prog = P) (hw : X.w = w) (hK : X.K = K) (hm : X.mg = mg) (hb : X.base = base) (G : Good X CL cl k c) {x : Str} {args : List Expr} {s : SE} {p0 pos : Pos} (h : cmpCall r c x args = some s) :
    SndE X CL cl (.Call (.Name x p0) args [] pos) s := by
  unfold cmpCall at h
  split at h
  · rename_i ar hf
    split at h
    · rename_i hh
      obtain ⟨h0, h1, h2, h3, h4, h5⟩ := hh
      split at h
      · rename_i as hs
        cases h
        obtain ⟨q1, q2, q3⟩ := dsOf_ok (fun e s z => S.e X c e s hP hw hK hm hb G z) _ _ hs
        cases args with
        | nil => exact absurd rfl h4
        | cons a es =>
          rw [List.all_cons, Bool.and_eq_true] at h5
          exact snd_call (G.fns x ar hf) ((G.calm h0).2.mono (Nat.le_succ k)) (G.gl x h1) (nmOk_d h2) q1 h3 (fun r M ds M' e => (q3 r M ds M' e).trans h3) (star1 h5.1) (starAll h5.2)
      · cases h
    · cases h
  · split at h
    · rename_i ar hf
      split at h
      · rename_i hh
        obtain ⟨h0, h1, h2, h3, h5⟩ := hh
        split at h
        · rename_i as hs
          cases h
          obtain ⟨q1, q2, q3⟩ := dsOf_ok (fun e s z => S.e X c e s hP hw hK hm hb G z) _ _ hs
          cases args with
          | nil =>
            simp only [dsOf] at hs; cases hs
            subst h3
            exact snd_new0 (G.new x _ hf) (G.calm h0).2 (G.gl x h1) (nmOk_d h2)
          | cons a es =>
            rw [List.all_cons, Bool.and_eq_true] at h5
            exact snd_new (G.new x ar hf) (G.calm h0).2 (G.gl x h1) (nmOk_d h2) q1 (fun r M ds M' e => by rw [q3 r M ds M' e]; exact h3) (star1 h5.1) (starAll h5.2)
        · cases h
      · cases h
    · exact cmpBi_ok S hP hw hK hm hb G h
theorem cmpO_ok (S : SndC P w K mg base CL cl k r) {X : Cx} {c : Ct} (hP : X.prog = P) (hw : X.w = w) (hK : X.K = K) (hm : X.mg = mg) (hb : X.base = base) (G : Good X CL cl k c) {o : Option Expr} {s : SO} (h : cmpO r c o = some s) : SndO X CL cl o s := by
  cases o with
  | none => simp only [cmpO] at h; cases h; exact ond_none
  | some a =>
    simp only [cmpO] at h
    split at h
    · rename_i sa hs
      cases h
      exact ond_some (S.e X c _ _ hP hw hK hm hb G hs)
    · cases h
theorem cmpMeth_ok (S : SndC P w K mg base CL cl k r) {X : Cx} {c : Ct} (hP : X.prog = P) (hw : X.w = w) (hK : X.K = K) (hm : X.mg = mg) (hb : X.base = base) (G : Good X CL cl k c) {o : Expr} {m : Str} {args : List Expr} {ln : Bool} {s : SE} {apos cpos : Pos} (h : cmpMeth r c o m args ln = some s) (hl : ln = (apos.endLine == cpos.line)) :
    SndE X CL cl (.Call (.Attribute o m apos) args [] cpos) s := by
  have ev : ∀ e s, r.e c e = some s → SndE X CL cl e s := fun e s z => S.e X c e s hP hw hK hm hb G z
  unfold cmpMeth at h
  split at h
  · rename_i hh
    obtain ⟨h0, h1, h2⟩ := hh
    rw [hl] at h1
    split at h
    · split at h
      · rename_i mm so e1 e2
        split at h
        · cases h; exact snd_mt0 e1 (ev _ _ e2) (abase_ok h0) h1
        · cases h; exact snd_nt0 e1 (ev _ _ e2) (abase_ok h0) h1
      · cases h
    · split at h
      · rename_i mm so sa e1 e2 e3
        have sa' := star1 (es := []) (env := X.env) (by simpa using h2)
        split at h
        · cases h; exact snd_mt1 e1 (ev _ _ e2) (ev _ _ e3) (abase_ok h0) h1 sa'
        · cases h; exact snd_nt1 e1 (ev _ _ e2) (ev _ _ e3) (abase_ok h0) h1 sa'
      · cases h
    · rename_i a b
      have sab : notStar a = true ∧ notStar b = true := by simpa using h2
      split at h
      · rename_i mm _ so sa sb e1 e2 e3 e4
        cases h
        exact snd_mt2 e1 (ev _ _ e2) (ev _ _ e3) (ev _ _ e4) (abase_ok h0) h1 (star1 sab.1) (star1 sab.2)
      · rename_i mm so sa sb e0 e1 e2 e3 e4
        cases h
        exact snd_mtd2 G.un G.w e1 (ev _ _ e2) (ev _ _ e3) (ev _ _ e4) (abase_ok h0) h1 (star1 sab.1) (star1 sab.2)
      · cases h
    · cases h
  · cases h
theorem cmpTxt_ok (S : SndC P w K mg base CL cl k r) {X : Cx} {c : Ct} (hP : X.prog = P) (hw : X.w = w) (hK : X.K = K) (hm : X.mg = mg) (hb : X.base = base) (G : Good X CL cl k c) {o : Expr} {m : Str} {args : List Expr} {ln : Bool} {s : SE} {apos cpos : Pos} (h : cmpTxt r c o m args ln = some s) (hl : ln = (apos.endLine == cpos.line)) :
    SndE X CL cl (.Call (.Attribute o m apos) args [] cpos) s := by
  have ev : ∀ e s, r.e c e = some s → SndE X CL cl e s := fun e s z => S.e X c e s hP hw hK hm hb G z
  unfold cmpTxt at h
  split at h
  · rename_i hh
    obtain ⟨h0, h1, h2⟩ := hh
    rw [hl] at h1
    split at h
    · rename_i a
      have sa' := star1 (es := []) (env := X.env) (by simpa using h2 : notStar a = true)
      split at h
      · rename_i so sa e1 e2
        split at h
        · rename_i e; cases h; subst e; exact snd_split (ev _ _ e1) (ev _ _ e2) (abase_ok h0) h1 sa'
        split at h
        · rename_i e; cases h; subst e; exact snd_join (ev _ _ e1) (ev _ _ e2) (abase_ok h0) h1 sa'
        · cases h
      · cases h
    · cases h
  · cases h
theorem few_ok {env : PySem.Env} {pos : Pos} : ∀ {es : List Expr}, es.all notStar = true → (backTo pos (starEach es env)).all (!·.1) = true
  | [], _ => rfl
  | a :: es, h => by
    rw [List.all_cons, Bool.and_eq_true] at h
    rw [star1 h.1]
    have := few_ok (env := env) (pos := pos) h.2
    simp only [backTo, List.map_cons, List.all_cons, Bool.not_false, Bool.true_and] at this ⊢
    exact this
theorem cmpObj_ok (S : SndC P w K mg base CL cl k r) {X : Cx} {c : Ct} (hP : X.prog = P) (hw : X.w = w) (hK : X.K = K) (hm : X.mg = mg) (hb : X.base = base) (G : Good X CL cl k c) {o : Expr} {m : Str} {args : List Expr} {ln : Bool} {s : SE} {apos cpos : Pos} (h : cmpObj r c o m args ln = some s) (hl : ln = (apos.endLine == cpos.line)) :
    SndE X CL cl (.Call (.Attribute o m apos) args [] cpos) s := by
  have ev : ∀ e s, r.e c e = some s → SndE X CL cl e s := fun e s z => S.e X c e s hP hw hK hm hb G z
  unfold cmpObj at h
  split at h
  · rename_i hh
    obtain ⟨h00, hmt, h0, h1, h2, h3⟩ := hh
    rw [hl] at h1
    split at h
    · rename_i so as e1 e2
      cases h
      have hr := (G.calm h00).2.mono (Nat.le_succ k)
      cases args with
      | nil =>
        simp only [dsOf] at e2; cases e2
        exact snd_meth0 (G.mth m hmt) hr (ev _ _ e1) (abase_ok h0) h1
      | cons a es =>
        have h2' := h2
        rw [List.all_cons, Bool.and_eq_true] at h2'
        refine snd_meth (G.mth m hmt) hr (ev _ _ e1) (dsOf_ok ev _ _ e2).1 (abase_ok h0) ?_ h1 (star1 h2'.1) (starAll h2'.2)
        unfold methodCallForm
        rw [few_ok h2]
        simp only [List.all_nil, List.isEmpty_nil, if_true, Bool.and_self, Bool.true_and]
        exact decide_eq_true (by omega)
    · cases h
  · cases h
theorem cmpAny_ok (S : SndC P w K mg base CL cl k r) {X : Cx} {c : Ct} (hP : X.prog = P) (hw : X.w = w) (hK : X.K = K) (hm : X.mg = mg) (hb : X.base = base) (G : Good X CL cl k c) {o : Expr} {m : Str} {args : List Expr} {ln : Bool} {s : SE} {apos cpos : Pos} (h : cmpAny r c o m args ln = some s) (hl : ln = (apos.endLine == cpos.line)) :
    SndE X CL cl (.Call (.Attribute o m apos) args [] cpos) s := by
  unfold cmpAny at h
  split at h
  · rename_i e; cases h; exact cmpMeth_ok S hP hw hK hm hb G e hl
  split at h
  · rename_i e; cases h; exact cmpTxt_ok S hP hw hK hm hb G e hl
  · exact cmpObj_ok S hP hw hK hm hb G h hl
theorem stepE_ok (S : SndC P w K mg base CL cl k r) {X : Cx} {c : Ct} (hP : X.prog = P) (hw : X.w = w) (hK : X.K = K) (hm : X.mg = mg) (hb : X.base = base) (G : Good X CL cl k c) {e : Expr} {s : SE} (h : stepE r c e = some s) : SndE X CL cl e s := by
  have ev : ∀ e s, r.e c e = some s → SndE X CL cl e s := fun e s z => S.e X c e s hP hw hK hm hb G z
  have tv : ∀ e s, r.t c e = some s → SndT X CL cl e s := fun e s z => S.t X c e s hP hw hK hm hb G z
  unfold stepE at h
  split at h
  · exact cmpName_ok G h
  · rename_i kk _ _
    cases kk <;> simp only [cmpConst] at h <;> cases h
    · exact snd_non
    · exact snd_bl
    · exact snd_int
    · exact snd_str
  · split at h
    · rename_i o sa sb h1 h2 h3
      cases h
      obtain ⟨rr, q1, q2⟩ := opB_ok (X := X) (CL := CL) h1
      exact snd_op2 q1 q2 (ev _ _ h2) (ev _ _ h3)
    · cases h
  · split at h
    · rename_i sa h1; cases h; exact snd_not (ev _ _ h1)
    · cases h
  · split at h
    · rename_i sa h1; cases h; exact snd_neg (ev _ _ h1)
    · cases h
  · exact boE_ok ev _ _ h
  · split at h
    · rename_i hs
      split at h
      · rename_i o sa sb h1 h2 h3
        cases h
        obtain ⟨rr, q1, q2⟩ := opC_ok (X := X) (CL := CL) G.un5 G.w h1
        exact snd_cmp2 q1 q2 (ev _ _ h2) (ev _ _ h3) (mark0 hs)
      · cases h
    · cases h
  · split at h
    · rename_i st sa sb h1 h2 h3
      cases h
      exact snd_if (tv _ _ h1) (ev _ _ h2) (ev _ _ h3)
    · cases h
  · split at h
    · rename_i as h1; cases h; exact snd_tup (dsOf_ok ev _ _ h1).1
    · cases h
  · split at h
    · rename_i as h1; cases h; exact snd_lst (dsOf_ok ev _ _ h1).1
    · cases h
  · cases h; exact snd_dic0
  · split at h
    · rename_i hk
      split at h
      · rename_i ps h1
        cases h
        exact snd_dic G.w (psOf_ok ev _ _ _ h1) hk.1 hk.2
      · cases h
    · cases h
  · split at h
    · rename_i sa sl sh h1 h2 h3
      cases h
      exact snd_slice (ev _ _ h1) (cmpO_ok S hP hw hK hm hb G h2) (cmpO_ok S hP hw hK hm hb G h3)
    · cases h
  · split at h
    · rename_i sa h1; cases h; exact snd_rev (ev _ _ h1)
    · cases h
  · split at h
    · rename_i hk
      split at h
      · rename_i sa sl sh h1 h2 h3
        cases h
        exact snd_stepI hk (ev _ _ h1) (cmpO_ok S hP hw hK hm hb G h2) (cmpO_ok S hP hw hK hm hb G h3)
      · cases h
    · cases h
  · split at h
    · rename_i hs
      split at h
      · rename_i sa sb h1 h2
        cases h
        exact snd_ix G.un G.w (ev _ _ h1) (ev _ _ h2) (plainIx_b hs)
      · cases h
    · cases h
  · split at h
    · rename_i hi
      subst hi
      exact snd_cmpComp S hP hw hK hm hb G h
    · cases h
  · exact cmpCall_ok S hP hw hK hm hb G h
  · exact cmpAny_ok S hP hw hK hm hb G h rfl
  · split at h
    · rename_i hk
      split at h
      · rename_i so h1; cases h; exact snd_fld (G.fld _ hk.2) (ev _ _ h1) (abase_ok hk.1)
      · cases h
    · cases h
  · cases h
theorem stepT_ok (S : SndC P w K mg base CL cl k r) {X : Cx} {c : Ct} (hP : X.prog = P) (hw : X.w = w) (hK : X.K = K) (hm : X.mg = mg) (hb : X.base = base) (G : Good X CL cl k c) {e : Expr} {s : STt} (h : stepT r c e = some s) : SndT X CL cl e s := by
  have ev : ∀ e s, r.e c e = some s → SndE X CL cl e s := fun e s z => S.e X c e s hP hw hK hm hb G z
  have tv : ∀ e s, r.t c e = some s → SndT X CL cl e s := fun e s z => S.t X c e s hP hw hK hm hb G z
  unfold stepT at h
  split at h
  · split at h
    · rename_i sa h1; cases h; exact tnd_not (tv _ _ h1)
    · cases h
  · exact wnd_t (boT_ok tv _ _ h)
  · split at h
    · rename_i hs
      split at h
      · rename_i o sa sb h1 h2 h3
        cases h
        obtain ⟨rr, q1, q2⟩ := opC_ok (X := X) (CL := CL) G.un5 G.w h1
        exact tnd_tB q1 q2 (ev _ _ h2) (ev _ _ h3) (mark0 hs)
      · cases h
    · cases h
  · split at h
    · rename_i hp
      split at h
      · rename_i sa h1; cases h; exact tnd_tru (ev _ _ h1) (plainT_ok hp)
      · cases h
    · cases h
theorem cmp_ok : ∀ n, SndC P w K mg base CL cl k (cmp n)
  | 0 => ⟨fun X c e s _ _ _ _ _ _ h => by simp [cmp] at h, fun X c e s _ _ _ _ _ _ h => by simp [cmp] at h⟩
  | n + 1 => ⟨fun X c e s hP hw hK hm hb G h => stepE_ok (cmp_ok n) hP hw hK hm hb G h, fun X c e s hP hw hK hm hb G h => stepT_ok (cmp_ok n) hP hw hK hm hb G h⟩
end
end MI
end
section
set_option Elab.async false
set_option linter.all false
set_option maxRecDepth 100000
set_option maxHeartbeats 4000000
/-! MI17: exceptions: what is raised, what a suite asks of it -/
namespace MI
open PySem PySem.Spec PyProof.Rows L2
/-- what is known of the classes -/
structure ExF (X : Cx) (CL : CLs) (exs : List Str) : Prop where
  made : ∀ x ∈ exs, ∃ C, CL x = some C ∧ X.mg x = some (.ref C) ∧ PySem.W.excIn X.K C [.type "ValueError", .type "Exception", .type "BaseException", .type "object"] "ValueError.__new__" = true ∧ PySem.W.keepIn X.K (.ref C) = true ∧
    PySem.W.subIn X.K (.ref C) (.type "BaseException") = some true ∧ PySem.W.typeIn X.K (.ref C) = some (.type "type") ∧ ExcC X.K C
  kit : ∀ x ∈ exs, ∀ y ∈ exs, ∀ C D, CL x = some C → CL y = some D → PySem.W.kitOne X.K (.ref C) (.ref D) = some (subX x y)
  kitV : ∀ x ∈ exs, ∀ C, CL x = some C → PySem.W.kitOne X.K (.ref C) (.type "ValueError") = some true
  exm : ∀ x, ∀ y ∈ exs, ∀ C D, CL x = some C → CL y = some D → PySem.W.exmOne X.K (.ref C) (.ref D) = some (catX exs y x)
  own : ("ValueError" : Str) ∉ exs

/-! ### reading a suite -/
def clsNames (c : Ct) (exs : List Str) : List Expr → Option (List Str)
  | [] => some []
  | .Name d _ :: r => if d ∈ exs ∧ c.gl d = true ∧ nmOk d = true then match clsNames c exs r with
      | some ds => some (d :: ds)
      | none => none
    else none
  | _ => none
def clsOf (c : Ct) (exs : List Str) : Expr → Option (List Str)
  | .Name d _ => if (d ∈ exs ∧ c.gl d = true ∧ nmOk d = true) ∨ (d = "ValueError" ∧ c.bi d = true) then some [d] else none
  | .Tuple es _ _ => if es.length ≤ 100 then clsNames c exs es else none
  | _ => none
def suIsi (c : Ct) (exs : List Str) (n : Str) : Expr → Option (List Str)
  | .Call (.Name f _) [.Name y _, cls] [] _ => if f = "isinstance" ∧ y = n ∧ c.bi f = true ∧ nmOk n = true ∧ c.vis n = true ∧ notStar cls = true then clsOf c exs cls else none
  | _ => none
def suI (c : Ct) (exs : List Str) (n : Str) (e : Expr) : Option SuI :=
  match e with
  | .Name x _ => if nmOk x = true ∧ c.vis x = true then match idx x c.N with
      | some j => some (.var j)
      | none => none
    else none
  | .UnaryOp .Not a _ => match suIsi c exs n a with
    | some cs => some (.isi true cs)
    | none => none
  | e => match suIsi c exs n e with
    | some cs => some (.isi false cs)
    | none => none
def suIs (c : Ct) (exs : List Str) (n : Str) : List Expr → Option (List SuI)
  | [] => some []
  | e :: r => if notStar e = true then match suI c exs n e, suIs c exs n r with
      | some s, some q => some (s :: q)
      | _, _ => none
    else none
def suS (c : Ct) (exs : List Str) (n : Str) (i : Nat) : Stmt → Option SuS
  | .Assign [.Name x _] (.List es _) _ => if c.st x = true ∧ es.length ≤ 100 then match idx x c.N, suIs c exs n es with
      | some j, some its => if j = i then none else some (.lst j false its)
      | _, _ => none
    else none
  | .Assign [.Name x _] (.BinOp (.Name y _) .Add (.List es _) _) _ => if c.st x = true ∧ y = x ∧ nmOk x = true ∧ es.length ≤ 100 then match idx x c.N, suIs c exs n es with
      | some j, some its => if j = i then none else some (.lst j true its)
      | _, _ => none
    else none
  | .Assign [.Name x _] (.Constant (.bool b) _ _) _ => if c.st x = true then match idx x c.N with
      | some j => if j = i then none else some (.con j b)
      | none => none
    else none
  | .Assign [.Name x _] e _ => if c.st x = true ∧ notComp e = true then match idx x c.N, suI c exs n e with
      | some j, some it => if j = i then none else some (.one j it)
      | _, _ => none
    else none
  | _ => none
def suSs (c : Ct) (exs : List Str) (n : Str) (i : Nat) : List Stmt → Option (List SuS)
  | [] => some []
  | s :: r => match suS c exs n i s, suSs c exs n i r with
    | some s, some q => some (s :: q)
    | _, _ => none

section
variable {X : Cx} {CL : CLs} {cl : Cl} {k : Nat} {c : Ct} {exs : List Str}
/-- isinstance(e, (A, B, ..)), e the exception that the suite holds -/
def rIsET (K : PySem.W.Frag) (D a : Addr) : List V → Hp → VK → Prop := fun xs H Q => ∃ (tp : Addr) (cs : List V) (us : List Value) (b : Bool), xs = [.ref a, .ref tp] ∧ H tp = some (.tup cs) ∧ (∀ ws, Vals cs ws → ws = us) ∧ PySem.W.kitAny K (.ref D) us = some b ∧ Q (.bl b) H
theorem call_isET {X : Cx} {a D : Addr} {oe : Obj} {pn : List (Addr × Obj)} (C : ExcC X.K D) (hz : Zc (.ref D) none oe) (hf : ∃ vs, oe.data = .fields vs) : CallR (X.suite a ((a, oe) :: pn)) (.builtin "isinstance") (rIsET X.K D a) := by
  intro pins s σ H xs us Q I r h
  obtain ⟨tp, cs, ws, b, rfl, hT, hcv, e, q⟩ := h
  cases r with
  | cons rx rr =>
    cases rr with
    | cons rt rr =>
      cases rr
      cases rx
      cases rt
      obtain ⟨hget, _⟩ := I.pin (a, oe) (List.mem_append.mpr (.inl List.mem_cons_self))
      obtain ⟨vs, hv⟩ := hf
      have J : PySem.W.InstAt s.heap a oe D none := by
        obtain ⟨oc, od, oda, osl⟩ := oe
        obtain ⟨h1, h2⟩ := hz
        dsimp only at h1 h2 hv
        subst h1 h2 hv
        exact ⟨hget, rfl, rfl, trivial⟩
      obtain ⟨_, its, rv, o, h1, h2, n, h3⟩ := (show ObjOk X.prog X.w H s.heap tp (.tup cs) from I.hok tp _ hT)
      have e3 := hcv _ rv
      subst e3
      obtain ⟨oc, od, dt, sl⟩ := o
      simp only at h2 h3
      subst h2 h3
      exact PySem.W.kia_tup (PySem.W.handS_kitx_exc C.hg C.hk C.hs C.hd C.ha C.hn C.ht C.hm) I.kIn J h1 e (fun z => nomatch z) fun tk => ⟨.bl b, H, I.kept (t' := tk) fun _ _ z => z, rfl, q⟩
/-- an expression in a suite: where the exception's slot holds it -/
def ESu (X : Cx) (i : Nat) (a : Addr) (e : Expr) (b : Bool) : Prop := PE X e fun σ H Q => σ[i]? = some (some (.ref a)) ∧ ∀ H', (∀ p o, H p = some o → H' p = some o) → (∀ p, H' p = none → H p = none) → Q (.bl b) H'
theorem clsNames_ok (G : Good X CL cl k c) (F : ExF X CL exs) : ∀ (es : List Expr) (ds : List Str), clsNames c exs es = some ds → ∃ (Cs : List Addr), PA X es (fun σ H Q => Q (Cs.map V.ref) H) ∧ Cs.length = es.length ∧ ds.length = es.length ∧ es.all notStar = true ∧
    (∀ (j : Nat) d C, ds[j]? = some d → Cs[j]? = some C → d ∈ exs ∧ CL d = some C)
  | [], ds, h => by
    simp only [clsNames] at h; cases h
    exact ⟨[], pa_imp pa_nil fun _ _ _ z => z, rfl, rfl, rfl, fun j d C e => by simp at e⟩
  | e :: r, ds, h => by
    cases e with
    | Name d p =>
      simp only [clsNames] at h
      split at h
      · rename_i hd
        split at h
        · rename_i ds' h1
          cases h
          obtain ⟨Cs, q1, q2, q3, q4, q5⟩ := clsNames_ok G F r ds' h1
          obtain ⟨C, z1, z2, _⟩ := F.made d hd.1
          refine ⟨C :: Cs, pa_imp (pa_cons (pe_glob (v := .ref C) (G.gl d hd.2.1) z2 rfl (nmOk_d hd.2.2)) q1 rfl) fun _ _ _ z => z, by simp [q2], by simp [q3], by simp [q4, notStar], fun j d' C' e1 e2 => ?_⟩
          cases j with
          | zero => simp at e1 e2; subst e1; subst e2; exact ⟨hd.1, z1⟩
          | succ j => exact q5 j d' C' (by simpa using e1) (by simpa using e2)
        · cases h
      · cases h
    | _ => simp [clsNames] at h
theorem kitAny_sub (F : ExF X CL exs) {y : Str} {C : Addr} (hy : y ∈ exs) (hC : CL y = some C) : ∀ (ds : List Str) (Cs : List Addr), ds.length = Cs.length → (∀ (j : Nat) d C, ds[j]? = some d → Cs[j]? = some C → d ∈ exs ∧ CL d = some C) →
    PySem.W.kitAny X.K (.ref C) (Cs.map Value.ref) = some (ds.any (subX y))
  | [], [], _, _ => rfl
  | d :: ds, D :: Cs, hl, h => by
    obtain ⟨h1, h2⟩ := h 0 d D rfl rfl
    have ih := kitAny_sub F hy hC ds Cs (by simpa using hl) fun j d' C' e1 e2 => h (j + 1) d' C' (by simpa using e1) (by simpa using e2)
    have q := F.kit y hy d h1 C D hC h2
    rw [List.map_cons, List.any_cons]
    refine kitAny_cons q (fun e => ?_) (fun e => ?_)
    · rw [e, Bool.false_or]; exact ih
    · rw [e, Bool.true_or]
  | [], _ :: _, hl, _ => by simp at hl
  | _ :: _, [], hl, _ => by simp at hl
theorem vals_refs : ∀ {Cs : List Addr} {ws : List Value}, Vals (Cs.map V.ref) ws → ws = Cs.map Value.ref
  | [], ws, h => by cases h; rfl
  | C :: Cs, ws, h => by
    cases h with
    | cons r t => cases r; rw [vals_refs t]; rfl
theorem clsNames_calm (c : Ct) (exs : List Str) (b : Bool) : ∀ es, clsNames { c with calm := b } exs es = clsNames c exs es
  | [] => rfl
  | e :: r => by
    cases e with
    | Name d p => simp only [clsNames, clsNames_calm c exs b r]; rfl
    | _ => rfl
variable {a : Addr} {oe : Obj} {pn : List (Addr × Obj)} {y n : Str} {C : Addr} {i : Nat}
/-- the suite's context -/
abbrev Su (X : Cx) (a : Addr) (oe : Obj) (pn : List (Addr × Obj)) : Cx := X.suite a ((a, oe) :: pn)
theorem Good.suite (G : Good X CL cl k c) : Good (Su X a oe pn) CL cl k { c with calm := false } :=
  ⟨G.N, G.nd, G.vis, G.gl, G.loc, G.cel, G.cf, G.knd, G.bl, G.kon, fun x ar h => ⟨(G.fns x ar h).ok⟩, G.un5, G.w, fun h => (by cases h), fun x ar h => ⟨(G.new x ar h).ok⟩, fun f h c C e => G.fld f h c C e, fun m h c C e => (G.mth m h c C e).imp (fun ⟨ar, g⟩ => ⟨ar, ⟨g.cls, g.ok, g.bad⟩⟩) id⟩
theorem ExF.suite (F : ExF X CL exs) : ExF (Su X a oe pn) CL exs := ⟨F.made, F.kit, F.kitV, F.exm, F.own⟩
theorem suIsi_ok (G : Good X CL cl k c) (F : ExF X CL exs) (hi : idx n c.N = some i) (hy : y ∈ exs) (hC : CL y = some C) (hz : Zc (.ref C) none oe) (hf : ∃ vs, oe.data = .fields vs) {e : Expr} {cs : List Str} (h : suIsi c exs n e = some cs) : ESu (Su X a oe pn) i a e (cs.any (subX y)) := by
  obtain ⟨C', w1, _, _, _, _, _, EC⟩ := F.made y hy
  rw [hC] at w1; cases w1
  have G' : Good (Su X a oe pn) CL cl k { c with calm := false } := G.suite
  unfold suIsi at h
  split at h
  · rename_i f p y' p' cls pos
    split at h
    · rename_i hh
      obtain ⟨rfl, rfl, h1, h2, h3, h4⟩ := hh
      obtain ⟨g1, g2, g3⟩ := G.mgn h1
      have var : PE (Su X a oe pn) (.Name y' p') (tVar i) := pe_var (by rw [G'.N]; exact idx_ok hi) (G'.vis y' h3) (nmOk_d h2) (nmOk_c h2)
      unfold clsOf at h
      split at h
      · rename_i d pd
        split at h
        · rename_i hd
          cases h
          rcases hd with ⟨hd, hg, hn⟩ | ⟨rfl, hb⟩
          · obtain ⟨D, z1, z2, _⟩ := F.made d hd
            refine pe_imp (pe_callB (call_isE EC hz hf) (G'.gl _ (by unfold Ct.bi at h1; simp only [Bool.and_eq_true] at h1; exact h1.1)) g2 PyProof.Rows.boot_isinstance (pa_cons var (pa_cons (pe_glob (v := .ref D) (G'.gl d hg) z2 rfl (nmOk_d hn)) pa_nil rfl) rfl) (by decide) (by decide) rfl rfl) fun σ H Q h => ?_
            refine ⟨_, h.1, .ref D, .ref D, _, rfl, fun u hu => hu, F.kit y hy d hd C D hC z1, ?_⟩
            rw [show ([d].any (subX y)) = subX y d by simp] at h
            exact h.2 H (fun _ _ z => z) fun _ z => z
          · obtain ⟨g4, g5, g6⟩ := G.mgn hb
            refine pe_imp (pe_callB (call_isE EC hz hf) (G'.gl _ (by unfold Ct.bi at h1; simp only [Bool.and_eq_true] at h1; exact h1.1)) g2 PyProof.Rows.boot_isinstance (pa_cons var (pa_cons (pe_bltn (v := .ty "ValueError") (G'.gl _ (by unfold Ct.bi at hb; simp only [Bool.and_eq_true] at hb; exact hb.1)) g5 (by decide +kernel) rfl (nmOk_n g6) (nmOk_d g6)) pa_nil rfl) rfl) (by decide) (by decide) rfl rfl) fun σ H Q h => ?_
            refine ⟨_, h.1, .ty "ValueError", _, true, rfl, fun u hu => hu, F.kitV y hy C hC, ?_⟩
            have e : ([("ValueError" : Str)].any (subX y)) = true := by simp [subX]
            rw [e] at h
            exact h.2 H (fun _ _ z => z) fun _ z => z
        · cases h
      · rename_i es q1 q2
        split at h
        · rename_i hl
          obtain ⟨Cs, z1, z2, z3, z4, z5⟩ := clsNames_ok G'  (exs := exs) (F.suite) es cs (by rw [clsNames_calm]; exact h)
          refine pe_imp (pe_callB (call_isET EC hz hf) (G'.gl _ (by unfold Ct.bi at h1; simp only [Bool.and_eq_true] at h1; exact h1.1)) g2 PyProof.Rows.boot_isinstance (pa_cons var (pa_cons (pe_tup z1) pa_nil rfl) rfl) (by decide) (by decide) rfl rfl) fun σ H Q h => ?_
          refine ⟨_, h.1, ?_⟩
          refine ⟨by rw [List.length_map, z2]; exact Nat.le_trans hl (by decide), fun p np => ?_⟩
          refine ⟨p, _, _, _, rfl, upd_same, fun ws hw => vals_refs hw, kitAny_sub F hy hC cs Cs (by omega) z5, h.2 _ (fun b o e => ?_) fun b e => ?_⟩
          · rw [upd_ne (ne_of_none e np)]; exact e
          · by_cases hb : b = p
            · subst hb; rw [upd_same] at e; cases e
            · rw [upd_ne hb] at e; exact e
        · cases h
      · cases h
    · cases h
  · cases h
end
end MI
end
section
set_option Elab.async false
set_option linter.all false
set_option maxRecDepth 100000
set_option maxHeartbeats 4000000
/-! MI18: suites, try -/
namespace MI
open PySem PySem.Spec PyProof.Rows L2
section
variable (K : PySem.W.Frag) (CL : CLs) (W : WX)
/-- .. where slot i holds the exception -/
def rES (i : Nat) (a : Addr) (cl : Cl) (s : SE) : TE := fun σ H Q => σ[i]? = some (some (V.ref a)) ∧ rE K CL W cl s σ H Q
def rSu (i : Nat) (a : Addr) (cl : Cl) (s : SS) : TS := fun D σ H => σ[i]? = some (some (V.ref a)) ∧ rS K CL W cl s D σ H
end
section
variable {X : Cx} {CL : CLs} {cl : Cl} {k : Nat} {c : Ct} {exs : List Str} {a : Addr} {oe : Obj} {pn : List (Addr × Obj)} {y n : Str} {C : Addr} {i : Nat}
theorem rES_of {b : Bool} {e : Expr} (h : ESu (Su X a oe pn) i a e b) : PE (Su X a oe pn) e (rES X.K CL Wno i a cl (eC (.bl b))) := by
  refine pe_imp h fun σ H Q ⟨hs, mu, r, M, hm, hr, p⟩ => ⟨hs, fun H' k1 k2 => ?_⟩
  have st : Stp mu H mu H' := ⟨⟨[], by simp⟩, fun a h => .inl h, fun a o e _ => k1 a o e, fun a od u e => k1 a _ e⟩
  have R' : Rm X.K CL mu H' M := hm.stp st fun b hb => by
    obtain ⟨u, e, _⟩ := hm.ho hb
    rw [e, k1 b u e]
  exact p mu H' st R' _ rfl
theorem suI_ok (G : Good X CL cl k c) (F : ExF X CL exs) (hi : idx n c.N = some i) (hy : y ∈ exs) (hC : CL y = some C) (hz : Zc (.ref C) none oe) (hf : ∃ vs, oe.data = .fields vs) {e : Expr} {s : SuI} (h : suI c exs n e = some s) : PE (Su X a oe pn) e (rES X.K CL Wno i a cl (s.sem y)) := by
  have G' : Good (Su X a oe pn) CL cl k { c with calm := false } := G.suite
  unfold suI at h
  split at h
  · split at h
    · rename_i hx
      split at h
      · rename_i j hj
        cases h
        exact pe_imp ((snd_var (X := Su X a oe pn) (CL := CL) (cl := cl) (by rw [G'.N]; exact idx_ok hj) (G'.vis _ hx.2) (nmOk_d hx.1) (nmOk_c hx.1)) Wno takes_no) fun σ H Q h => h.2
      · cases h
    · cases h
  · split at h
    · rename_i cs h1
      cases h
      refine rES_of (b := SuI.val y (.isi true cs)) (pe_imp (pe_notT (suIsi_ok G F hi hy hC hz hf h1)) fun σ H Q h => ⟨h.1, fun H' k1 k2 => ⟨_, (show cs.any (subX y) = cs.any (subX y) from rfl), ?_⟩⟩)
      have := h.2 H' k1 k2
      simpa only [SuI.val, if_true] using this
    · cases h
  · split at h
    · rename_i cs h1
      cases h
      refine rES_of (b := SuI.val y (.isi false cs)) (pe_imp (suIsi_ok G F hi hy hC hz hf h1) fun σ H Q h => ?_)
      simpa only [SuI.val, Bool.false_eq_true, if_false] using h
    · cases h
def rDsES (K : PySem.W.Frag) (CL : CLs) (i : Nat) (a : Addr) (cl : Cl) (s : SDs) : TA := fun σ H Q => σ[i]? = some (some (V.ref a)) ∧ rDs K CL Wno cl s σ H Q
theorem suIs_ok (G : Good X CL cl k c) (F : ExF X CL exs) (hi : idx n c.N = some i) (hy : y ∈ exs) (hC : CL y = some C) (hz : Zc (.ref C) none oe) (hf : ∃ vs, oe.data = .fields vs) : ∀ {es : List Expr} {its : List SuI}, suIs c exs n es = some its →
    PA (Su X a oe pn) es (rDsES X.K CL i a cl (suLst y its)) ∧ its.length = es.length
  | [], its, h => by
    simp only [suIs] at h; cases h
    refine ⟨pa_imp pa_nil fun σ H Q ⟨hs, mu, r, M, hm, hr, p⟩ => ?_, rfl⟩
    exact p.here hm [] rfl
  | e :: r, its, h => by
    unfold suIs at h
    split at h
    · rename_i hst
      split at h
      · rename_i s q h1 h2
        cases h
        obtain ⟨z1, z2⟩ := suIs_ok G F hi hy hC hz hf h2
        refine ⟨pa_imp (pa_cons (suI_ok G F hi hy hC hz hf h1) z1 (star1 hst)) fun σ H Q ⟨hs, mu, r, M, hm, hr, p⟩ => ⟨hs, ?_⟩, by simp [z2]⟩
        refine rE_thenB hm hr Stp.refl p fun x v M1 mu1 H1 n1 h1 p1 => ⟨hs, ?_⟩
        obtain ⟨t, R2, s2, hv⟩ := n1.rm.box h1 n1.st
        refine rDs_thenB R2 (n1.rs.ext t) s2 p1 fun ds vs M3 mu3 H3 n3 h3 p3 => ?_
        exact p3 mu3 H3 (s2.trans n3.st R2) n3.rm (v :: vs) ⟨v, vs, rfl, hv.stp R2 n3.st, h3⟩
      · cases h
    · cases h
theorem suLst_len (y : Str) (cl : Cl) : ∀ (its : List SuI) (r : Env) (M : Mem) (ds : List D) (M' : Mem), suLst y its cl r M = .ok ds M' → ds.length = its.length
  | [], r, M, ds, M', h => by simp only [suLst, dNil] at h; cases h; rfl
  | s :: q, r, M, ds, M', h => by
    simp only [suLst, dCons] at h
    cases e1 : s.sem y cl r M with
    | ok x M1 =>
      rw [e1] at h
      simp only [Res.bind] at h
      cases e2 : suLst y q cl r (box x M1).2 with
      | ok ds' M2 =>
        rw [e2] at h
        simp only [Res.bind] at h
        cases h
        rw [List.length_cons, List.length_cons, suLst_len y cl q _ _ _ _ e2]
      | err _ _ => rw [e2] at h; simp only [Res.bind] at h; cases h
      | bad => rw [e2] at h; simp only [Res.bind] at h; cases h
    | err _ _ => rw [e1] at h; simp only [Res.bind] at h; cases h
    | bad => rw [e1] at h; simp only [Res.bind] at h; cases h
theorem suLst_ok (G : Good X CL cl k c) (F : ExF X CL exs) (hi : idx n c.N = some i) (hy : y ∈ exs) (hC : CL y = some C) (hz : Zc (.ref C) none oe) (hf : ∃ vs, oe.data = .fields vs) {es : List Expr} {its : List SuI} {pos : Pos} (hl : es.length ≤ 100) (h : suIs c exs n es = some its) :
    PE (Su X a oe pn) (.List es pos) (rES X.K CL Wno i a cl (eLst (suLst y its))) := by
  obtain ⟨z1, z2⟩ := suIs_ok (a := a) (pn := pn) (cl := cl) G F hi hy hC hz hf h
  refine pe_imp (pe_lst z1) fun σ H Q ⟨hs, mu, r, M, hm, hr, p⟩ => ⟨hs, ?_⟩
  refine rDs_then hm hr p fun ds vs M1 mu1 H1 n1 h1 p1 => ?_
  split at p1
  · rename_i c
    exact ⟨by rw [← h1.length]; exact c, end_lst n1.rm (p1.rb n1) h1⟩
  · exact bad_end p1
theorem suSet_ok (G : Good X CL cl k c) {j : Nat} {x : Str} {p1 pos : Pos} {e : Expr} {se : SE} {rest : List Stmt} {u : SS} (hx : c.st x = true) (hj : idx x c.N = some j) (hji : ¬ j = i) (hcp : notComp e = true) (he : PE (Su X a oe pn) e (rES X.K CL Wno i a cl se))
    (hr : PSs (Su X a oe pn) rest (rSu X.K CL Wno i a cl u)) : PSs (Su X a oe pn) (.Assign [.Name x p1] e pos :: rest) (rSu X.K CL Wno i a cl (sSeq (sSet j se) u)) := by
  obtain ⟨l1, l2⟩ := G.st hx
  refine pss_imp (pss_cons (ps_set (X := Su X a oe pn) (i := j) (by rw [show (Su X a oe pn).N = c.N from G.N]; exact G.nd) (by rw [show (Su X a oe pn).N = c.N from G.N]; exact idx_ok hj) l1 he (swaps0 hcp) l2) hr) fun D σ H ⟨hs, mu, r, M, hm, hrs, p⟩ => ?_
  refine ⟨hs, mu, r, M, hm, hrs, ?_⟩
  unfold sSeq sSet at p
  cases e1 : se cl r M with
  | ok x M1 =>
    rw [e1] at p
    simp only [ofE] at p
    intro mu' H' s' R' v hv
    obtain ⟨t, R2, s2, hb⟩ := R'.box hv s'
    refine ⟨?_, mu' ++ t, _, _, R2, ((hrs.stp hm s').ext t).set hb, p.from s2 R2⟩
    rw [List.getElem?_set_ne hji]; exact hs
  | err c M1 =>
    rw [e1] at p
    simp only [ofE] at p
    intro mu' H' C hC s' R'
    exact (p mu' H' σ C hC s' R' (hrs.stp hm s')).elim
  | bad => rw [e1] at p; exact p.elim
theorem suSs_ok (G : Good X CL cl k c) (F : ExF X CL exs) (hi : idx n c.N = some i) (hy : y ∈ exs) (hC : CL y = some C) (hz : Zc (.ref C) none oe) (hf : ∃ vs, oe.data = .fields vs) : ∀ {ss : List Stmt} {spec : List SuS}, suSs c exs n i ss = some spec →
    PSs (Su X a oe pn) ss (rSu X.K CL Wno i a cl (suBody y spec))
  | [], spec, h => by
    simp only [suSs] at h; cases h
    refine pss_imp pss_nil fun D σ H ⟨hs, mu, r, M, hm, hr, p⟩ => ?_
    exact p.here Stp.refl hm hr
  | st :: r, spec, h => by
    unfold suSs at h
    split at h
    · rename_i s q h1 h2
      cases h
      have ih := suSs_ok G F hi hy hC hz hf h2
      have G' : Good (Su X a oe pn) CL cl k { c with calm := false } := G.suite
      unfold suS at h1
      split at h1
      · split at h1
        · rename_i hx
          split at h1
          · rename_i j its hj hs
            split at h1
            · cases h1
            · rename_i hji
              cases h1
              exact suSet_ok G hx.1 hj hji rfl (suLst_ok G F hi hy hC hz hf hx.2 hs) ih
          · cases h1
        · cases h1
      · split at h1
        · rename_i hx
          obtain ⟨hx1, rfl, hx3, hx4⟩ := hx
          split at h1
          · rename_i j its hj hs
            split at h1
            · cases h1
            · rename_i hji
              cases h1
              refine suSet_ok G hx1 hj hji rfl ?_ ih
              have var : ∀ vp : Pos, SndE (Su X a oe pn) CL cl (.Name _ vp) (eVar j) := fun vp => snd_var (by rw [G'.N]; exact idx_ok hj) ((G.st hx1).1.elim .inl fun z => .inr (.inl z)) (nmOk_d hx3) (nmOk_c hx3)
              refine pe_imp (pe_op op_addAll (var _ Wno takes_no) (suLst_ok G F hi hy hC hz hf hx4 hs)) fun σ H Q ⟨hs, mu, r, M, hm, hrs, p⟩ => ?_
              refine rE_then hm hrs p fun x v M1 mu1 H1 n1 h1 p1 => ⟨hs, ?_⟩
              refine rE_then n1.rm n1.rs p1 fun y u M2 mu2 H2 n2 h2 p2 => ?_
              refine ok2_add Wno σ mu2 H2 M2 x y v u Q n2.rm (h1.w.stp n1.rm n2.st) h2.w ?_
              exact p2.mono fun z M3 mu3 H3 s3 R3 q w hw => q w (hw.base (n1.st.trans n2.st n1.rm) n2.rm)
          · cases h1
        · cases h1
      · split at h1
        · rename_i hx
          split at h1
          · rename_i j hj
            split at h1
            · cases h1
            · rename_i hji
              cases h1
              exact suSet_ok G hx hj hji rfl (pe_imp ((snd_bl (X := Su X a oe pn) (CL := CL) (cl := cl)) Wno takes_no) fun σ H Q h => h.2) ih
          · cases h1
        · cases h1
      · split at h1
        · rename_i hx
          split at h1
          · rename_i j it hj hit
            split at h1
            · cases h1
            · rename_i hji
              cases h1
              exact suSet_ok G hx.1 hj hji hx.2 (suI_ok G F hi hy hC hz hf hit) ih
          · cases h1
        · cases h1
      · cases h1
    · cases h
/-! ### try -/
theorem stm_tryAs {x : Str} {b0 : Stmt} {sts stt : List Stmt} {u : SS} {spec : List SuS} {np pos' pos : Pos} (G : Good X CL cl k c) (F : ExF X CL exs) (hs : X.stack = X.env :: X.outer) (hf : X.env.frame = some X.env.locals) (hi : idx n c.N = some i) (hln : X.env.kindOf n = some .local)
    (hx : x ∈ exs) (hgx : c.gl x = true) (hnx : nmOk x = true)
    (hb : ∀ (pn : List (Addr × Obj)) (xe : Value → Shared → Prop), SndB (X.tr pn xe) CL cl sts u) (hsp : suSs c exs n i (b0 :: stt) = some spec) :
    SndS X CL cl (.Try sts [.ExceptHandler (some (.Name x np)) (some n) (b0 :: stt) pos'] [] [] pos) (sTry (some i) u (catX exs x) (suSem exs spec)) := fun W tk po => by
  obtain ⟨Cx', w1, w2, w3, w4, w5, w6, EC⟩ := F.made x hx
  have hc : Names X x (.ref Cx') := ⟨G.gl x hgx, nmOk_d hnx, .inl w2⟩
  refine ps_imp (ps_try_as (i := i) (ts := fun a cls d => fun D σ H => ∃ y : Str, (∃ C, CL y = some C ∧ cls = .ref C) ∧ d = none ∧ y ∈ exs ∧ (i < σ.length → σ[i]? = some (some (V.ref a))) ∧ rS X.K CL Wno cl (suBody y spec) D σ H) (tb := fun W' => rS X.K CL W' cl u) hs hf (by rw [G.N]; exact G.nd) (by rw [G.N]; exact idx_ok hi) hln hc tk (fun W' pn xe tk' po' => hb pn xe W' tk' po') fun a oe cls d pn hz hd => pss_some fun y hy => ?_) fun D σ H h => ?_
  · obtain ⟨C, h1, rfl⟩ := hy
    refine ⟨fun pins s σ H D I ⟨hd0, hye, q0, q⟩ => ?_⟩
    subst hd0
    refine (suSs_ok G F hi hye h1 hz hd hsp).run pins s σ H D I ⟨q0 ?_, q⟩
    rw [I.len, show (Su X a oe pn).N = c.N from G.N]
    exact (List.getElem?_eq_some_iff.mp (idx_ok hi)).1
  · obtain ⟨mu, r, M, hm, hs, p⟩ := h
    refine ⟨mu, r, M, hm, hs, ?_⟩
    unfold sTry at p
    cases e : u cl r M with
    | nx r1 M1 => rw [e] at p; exact p
    | ret y M1 => rw [e] at p; exact p
    | bad => rw [e] at p; exact p
    | err c r1 M1 =>
      rw [e] at p
      intro mu' H' σ' C hC st R' S'
      refine ⟨catX exs x c, F.exm c x hx C Cx' hC w1, fun hb2 a na => ?_, fun hb2 => ?_⟩
      · simp only [hb2, if_true] at p
        have hce : c ∈ exs := by
          unfold catX at hb2
          simp only [Bool.and_eq_true, decide_eq_true_eq] at hb2
          exact hb2.1
        refine ⟨c, ⟨C, hC, rfl⟩, rfl, hce, ?_, mu', gone (some i) r1, M1, R', ?_, ?_⟩
        · intro hl
          rw [List.length_set] at hl
          rw [List.getElem?_set_self hl]
        · exact S'.gone i
        · simp only [suSem, if_pos hce] at p
          cases e2 : suBody c spec cl (gone (some i) r1) M1 with
          | nx r2 M2 =>
            rw [e2] at p
            exact fun mu3 H3 σ3 s3 R3 q3 => p mu3 H3 _ (st.trans s3 R') R3 (q3.gone i)
          | ret y M2 => rw [e2] at p; exact PsS.from (res := .ret y M2) p st R'
          | err c2 r2 M2 => rw [e2] at p; exact p.elim
          | bad => rw [e2] at p; exact p
      · simp only [hb2, Bool.false_eq_true, if_false] at p
        exact p mu' H' σ' C hC st R' S'
end
end MI
end
section
set_option Elab.async false
set_option linter.all false
set_option maxRecDepth 100000
set_option maxHeartbeats 4000000
/-! MI19: statements of the text; the table of the defs -/
namespace MI
open PySem PySem.Spec PyProof.Rows L2
def notTup : Expr → Bool
  | .Tuple _ _ _ => false
  | _ => true
/-- a comprehension that is given to a name swaps -/
def swB (c : Ct) (x : Str) (p1 : Pos) : Expr → Bool
  | .ListComp _ _ scope vp => c.loc x && ((p1.line == vp.line) && !(scope.names.any fun (n, k) => n == x && (k == .local || k == .cell)))
  | _ => false
def notOther : Expr → Bool
  | .SetComp _ _ _ _ => false
  | .DictComp _ _ _ _ _ => false
  | _ => true
def bodyOf (f : Stmt → Option SS) : List Stmt → Option SS
  | [] => some sNil
  | [s] => f s
  | s :: t :: r => match f s, bodyOf f (t :: r) with
    | some u, some v => some (sSeq u v)
    | _, _ => none
def cmpAsg (r : Cmp) (c : Ct) (x : Str) (a : Expr) : Option SS :=
  if c.st x = true ∧ notOther a = true then match idx x c.N, r.e c a with
    | some i, some sa => some (sSet i sa)
    | _, _ => none
  else none
def cmpUnp (r : Cmp) (c : Ct) (tg a : Expr) : Option SS :=
  if notComp a = true ∧ notTup a = true then match tgOf c tg, r.e c a with
    | some (.tp is), some sa => some (sUnp is sa)
    | _, _ => none
  else none
def cmpSetIx (r : Cmp) (c : Ct) (o k a : Expr) : Option SS :=
  if notComp a = true ∧ notSlice k = true then match r.e c o, r.e c k, r.e c a with
    | some so, some sk, some sa => some (sSetIx so sk sa)
    | _, _, _ => none
  else none
def raised : Expr → Option Str
  | .Call (.Name x _) [.Constant (.str _) _ _] [] _ => some x
  | _ => none
def stepS (r : Cmp) (exs : List Str) (f : List Stmt → Option SS) (c : Ct) : Stmt → Option SS
  | .Expr a _ => if notComp a = true then match r.e c a with
      | some sa => some (sExpr sa)
      | none => none
    else none
  | .Return none _ => some sRetN
  | .Return (some a) _ => match r.e c a with
    | some sa => some (sRet sa)
    | none => none
  | .If t a b _ => match r.t c t, f a, f b with
    | some st, some sa, some sb => some (sIf st sa sb)
    | _, _, _ => none
  | .For tg it body [] _ => if notSet it = true then match itOf r c tg it, tgOf c tg, f body with
      | some si, some t, some sb => match isDn c it with
        | some (i, _) => some (sForN t i sb)
        | none => some (sFor t si sb)
      | _, _, _ => none
    else none
  | .While t body [] _ => match r.t c t, f body with
    | some st, some sb => some (sWhile st sb)
    | _, _ => none
  | .Pass _ => some sPass
  | .Assign [.Name x _] a _ => cmpAsg r c x a
  | .Assign [.Subscript o k _] a _ => cmpSetIx r c o k a
  | .Assign [.Attribute o f _] a _ => if f ∈ c.flds then match r.e c o, r.e c a with
      | some so, some sa => some (sFld so f sa)
      | _, _ => none
    else none
  | .Assign [.Tuple es j p] a _ => cmpUnp r c (.Tuple es j p) a
  | .Raise (some e) none _ => match raised e with
    | some x => if x ∈ exs ∧ c.gl x = true ∧ nmOk x = true then some (sRaise x) else none
    | none => none
  | .Try sts [.ExceptHandler (some (.Name x _)) (some n) (b0 :: stt) _] [] [] _ =>
    if x ∈ exs ∧ c.gl x = true ∧ nmOk x = true ∧ c.loc n = true then match f sts, idx n c.N with
      | some u, some i => match suSs c exs n i (b0 :: stt) with
        | some spec => some (sTry (some i) u (catX exs x) (suSem exs spec))
        | none => none
      | _, _ => none
    else none
  | _ => none
def cmpS (r : Cmp) (exs : List Str) : Nat → Ct → List Stmt → Option SS
  | 0, _, _ => none
  | n + 1, c, ss => bodyOf (stepS r exs (cmpS r exs n c) c) ss
structure GoodS (X : Cx) (CL : CLs) (cl : Cl) (k : Nat) (c : Ct) (exs : List Str) : Prop where
  g : Good X CL cl k c
  ex : ExF X CL exs
  stk : X.stack = X.env :: X.outer
  frm : X.env.frame = some X.env.locals
  sc : X.env.scope = c.sc
  clm : c.calm = true
section
variable {P : Program} {w : World} {K : PySem.W.Frag} {mg : Str → Option Value} {base : Heap} {CL : CLs} {cl : Cl} {k : Nat} {r : Cmp} {exs : List Str}
theorem GoodS.tr {X : Cx} {c : Ct} (G : GoodS X CL cl k c exs) (pn : List (Addr × Obj)) (xe : Value → Shared → Prop) : GoodS (X.tr pn xe) CL cl k c exs :=
  ⟨⟨G.g.N, G.g.nd, G.g.vis, G.g.gl, G.g.loc, G.g.cel, G.g.cf, G.g.knd, G.g.bl, G.g.kon, fun x ar h => ⟨(G.g.fns x ar h).ok⟩, G.g.un5, G.g.w, G.g.calm, fun x ar h => ⟨(G.g.new x ar h).ok⟩, fun f h c C e => G.g.fld f h c C e, fun m h c C e => (G.g.mth m h c C e).imp (fun ⟨ar, g⟩ => ⟨ar, ⟨g.cls, g.ok, g.bad⟩⟩) id⟩, ⟨G.ex.made, G.ex.kit, G.ex.kitV, G.ex.exm, G.ex.own⟩, G.stk, G.frm, G.sc, G.clm⟩
structure SndP (P : Program) (w : World) (K : PySem.W.Frag) (mg : Str → Option Value) (base : Heap) (CL : CLs) (cl : Cl) (k : Nat) (exs : List Str) (c : Ct) (f : List Stmt → Option SS) : Prop where
  b : ∀ (X : Cx) ss s, X.prog = P → X.w = w → X.K = K → X.mg = mg → X.base = base → GoodS X CL cl k c exs → f ss = some s → SndB X CL cl ss s
theorem bodyOf_ok {X : Cx} {f : Stmt → Option SS} (hf : ∀ st s, f st = some s → SndS X CL cl st s) : ∀ (ss : List Stmt) (s : SS), bodyOf f ss = some s → SndB X CL cl ss s
  | [], s, h => by simp only [bodyOf] at h; cases h; exact bnd_nil
  | [a], s, h => by simp only [bodyOf] at h; exact bnd_one (hf _ _ h)
  | a :: b :: q, s, h => by
    unfold bodyOf at h
    split at h
    · rename_i u v h1 h2
      cases h
      exact bnd_cons (hf _ _ h1) (bodyOf_ok hf (b :: q) v h2)
    · cases h
theorem swap_ok {X : Cx} {c : Ct} (G : GoodS X CL cl k c exs) {x : Str} {p1 : Pos} {a : Expr} {l : Nat} (ho : notOther a = true) : swapsWith a (some (.Name x p1)) l X.env = pure (swB c x p1 a) := by
  have hk := G.g.knd
  have hb : X.env.blockKind = .function := by unfold Env.blockKind; rw [hk]; rfl
  cases a with
  | ListComp elt gs scope vp =>
    unfold swapsWith swB Ct.loc Ct.lk
    have e : X.env.kindOf x = c.sc.names.lookup x := by unfold Env.kindOf; rw [G.sc]
    simp only [hb, e, Expr.pos]
    cases h : c.sc.names.lookup x with
    | none => rfl
    | some κ => cases κ <;> first | rfl | (simp; done)
  | SetComp _ _ _ _ => cases ho
  | DictComp _ _ _ _ _ => cases ho
  | _ => rfl
/-- a comprehension given to a name -/
structure SwC (P : Program) (w : World) (K : PySem.W.Frag) (mg : Str → Option Value) (base : Heap) (CL : CLs) (cl : Cl) (k : Nat) (r : Cmp) : Prop where
  s : ∀ (X : Cx) (c : Ct) elt gs scope vp s, X.prog = P → X.w = w → X.K = K → X.mg = mg → X.base = base → Good X CL cl k c → r.e c (.ListComp elt gs scope vp) = some s →
    ∀ (i : Nat) (y : Str) (py spos : Pos), X.N[i]? = some y → X.env.scope.names.lookup y = some .local → swapsWith (.ListComp elt gs scope vp) (some (.Name y py)) spos.line X.env = pure true → SndS X CL cl (.Assign [.Name y py] (.ListComp elt gs scope vp) spos) (sSet i s)
theorem cmp_sw : ∀ n, SwC P w K mg base CL cl k (cmp n)
  | 0 => ⟨fun X c elt gs scope vp s _ _ _ _ _ _ h => by simp [cmp] at h⟩
  | n + 1 => ⟨fun X c elt gs scope vp s hP hw hK hm hb G h i y py spos h1 h2 h3 => by
    have h' : stepE (cmp n) c (.ListComp elt gs scope vp) = some s := h
    unfold stepE at h'
    cases gs with
    | nil => cases h'
    | cons g gs =>
      obtain ⟨tg, iter, ifs, ia⟩ := g
      cases gs with
      | nil =>
        simp only at h'
        split at h'
        · rename_i hi
          subst hi
          exact stm_cmpComp (cmp_ok n) hP hw hK hm hb G h' h1 h2 h3
        · cases h'
      | cons g2 gs => cases h'⟩
theorem stepS_ok (C : SndC P w K mg base CL cl k r) (CW : SwC P w K mg base CL cl k r) {f : List Stmt → Option SS} {c : Ct} (S : SndP P w K mg base CL cl k exs c f) {X : Cx} (hP : X.prog = P) (hw : X.w = w) (hK : X.K = K) (hm : X.mg = mg) (hb : X.base = base) (G : GoodS X CL cl k c exs) {st : Stmt} {s : SS} (h : stepS r exs f c st = some s) : SndS X CL cl st s := by
  have ev : ∀ e s, r.e c e = some s → SndE X CL cl e s := fun e s z => C.e X c e s hP hw hK hm hb G.g z
  have tv : ∀ e s, r.t c e = some s → SndT X CL cl e s := fun e s z => C.t X c e s hP hw hK hm hb G.g z
  have bv : ∀ e s, f e = some s → SndB X CL cl e s := fun e s z => S.b X e s hP hw hK hm hb G z
  have hc := (G.g.calm G.clm).1
  unfold stepS at h
  split at h
  · split at h
    · rename_i hn
      split at h
      · rename_i sa h1; cases h; exact stm_expr (ev _ _ h1) (swaps0 hn)
      · cases h
    · cases h
  · cases h; exact stm_retN
  · split at h
    · rename_i sa h1; cases h; exact stm_ret (ev _ _ h1)
    · cases h
  · split at h
    · rename_i s1 s2 s3 h1 h2 h3; cases h; exact stm_if (tv _ _ h1) (bv _ _ h2) (bv _ _ h3)
    · cases h
  · split at h
    · rename_i hn
      split at h
      · rename_i s1 s2 s3 h1 h2 h3
        split at h
        · rename_i i x hd
          cases h
          obtain ⟨p, rfl, v1, v2, v3⟩ := isDn_ok hd
          obtain ⟨w1, w2⟩ := dn_var G.g v1 v2 v3 (p := p)
          exact stm_forN hc w1 w2 (tgOf_ok G.g hc h2) (bv _ _ h3)
        · cases h; exact stm_for hc (itOf_ok C hP hw hK hm hb G.g h1) (tgOf_ok G.g hc h2) (bv _ _ h3) (fold0 hn)
      · cases h
    · cases h
  · split at h
    · rename_i st sb h1 h2; cases h; exact stm_while (tv _ _ h1) (bv _ _ h2)
    · cases h
  · cases h; exact stm_pass
  · rename_i x p1 a pos
    unfold cmpAsg at h
    split at h
    · rename_i hh
      split at h
      · rename_i i sa h1 h2
        cases h
        obtain ⟨l1, l2⟩ := G.g.st hh.1
        have hN : X.N[i]? = some x := by rw [G.g.N]; exact idx_ok h1
        have hnd : X.N.Nodup := by rw [G.g.N]; exact G.g.nd
        cases hsw : swB c x p1 a with
        | false => exact stm_set hnd hN l1 l2 (ev _ _ h2) (by rw [swap_ok G hh.2, hsw])
        | true =>
          have hsw' := swap_ok (l := pos.line) G (x := x) (p1 := p1) hh.2
          rw [hsw] at hsw'
          cases a with
          | ListComp elt gs scope vp =>
            have hl : c.loc x = true := by unfold swB at hsw; simp only [Bool.and_eq_true] at hsw; exact hsw.1
            exact CW.s X c elt gs scope vp sa hP hw hK hm hb G.g h2 i x p1 pos hN (G.g.loc x hl) hsw'
          | _ => cases hsw
      · cases h
    · cases h
  · rename_i o kk p1 a pos
    unfold cmpSetIx at h
    split at h
    · rename_i hh
      split at h
      · rename_i so sk sa h1 h2 h3
        cases h
        refine stm_setIx (ev _ _ h1) (ev _ _ h2) (ev _ _ h3) (set_all G.g.un G.g.w) setIx_ok ?_ ?_ rfl ?_
        · unfold swapsWithSole; exact swaps0 hh.1
        · rfl
        · have h2 := hh.2
          cases kk <;> first | (intro v; rfl) | cases h2
      · cases h
    · cases h
  · rename_i o f1 p1 a pos
    split at h
    · rename_i hf
      split at h
      · rename_i so sa h1 h2
        cases h
        refine stm_fld (G.g.fld f1 hf) (ev _ _ h1) (ev _ _ h2) ?_
        cases a <;> rfl
      · cases h
    · cases h
  · rename_i es jj p1 a pos
    unfold cmpUnp at h
    split at h
    · rename_i hh
      split at h
      · rename_i is sa h1 h2
        cases h
        have h3 := hh.2
        have sw : swapsWithSole [Expr.Tuple es jj p1] a pos.line X.env = pure false := by unfold swapsWithSole; exact swaps0 hh.1
        refine stm_unp (tgOf_ok G.g hc h1) (ev _ _ h2) sw ?_ rfl
        cases a <;> first | rfl | cases h3
      · cases h
    · cases h
  · split at h
    · rename_i e pos x hx
      split at h
      · rename_i hh
        cases h
        obtain ⟨C', w1, w2, w3, w4, w5, w6, EC⟩ := G.ex.made x hh.1
        unfold raised at hx
        split at hx
        · cases hx
          exact stm_raise hc w3 w2 w4 w5 w6 (G.g.gl x hh.2.1) (nmOk_d hh.2.2) w1
        · cases hx
      · cases h
    · cases h
  · split at h
    · rename_i hh
      split at h
      · rename_i u i h1 h2
        split at h
        · rename_i spec h3
          cases h
          refine stm_tryAs G.g G.ex G.stk G.frm h2 (G.g.loc _ hh.2.2.2) hh.1 hh.2.1 hh.2.2.1 (fun pn xe => ?_) h3
          exact S.b (X.tr pn xe) _ _ hP hw hK hm hb (G.tr pn xe) h1
        · cases h
      · cases h
    · cases h
  · cases h
theorem cmpS_ok (C : SndC P w K mg base CL cl k r) (CW : SwC P w K mg base CL cl k r) (c : Ct) : ∀ n, SndP P w K mg base CL cl k exs c (cmpS r exs n c)
  | 0 => ⟨fun X ss s _ _ _ _ _ _ h => by simp [cmpS] at h⟩
  | n + 1 => ⟨fun X ss s hP hw hK hm hb G h => bodyOf_ok (fun st s h => stepS_ok C CW (cmpS_ok C CW c n) hP hw hK hm hb G h) ss s h⟩
end
end MI
end
section
set_option Elab.async false
set_option linter.all false
set_option maxRecDepth 100000
set_option maxHeartbeats 4000000
/-! MI20: the program's top, the table, the law's end -/
namespace MI
open PySem PySem.Spec PyProof.Rows L2 He
/-! ### facts of the top -/
mutual
def dB (K : PySem.W.Frag) : D → Value → Bool
  | .non, .none => true
  | .bl b, .bool c => b == c
  | .int i, .int j _ => decide (i = j)
  | .str x, .str y _ => decide (x = y)
  | .tup ds, .ref a => match K.lookup a with
    | some ⟨.type c, _, .seq its _, _⟩ => decide (c = "tuple") && (decide (its.size ≤ sizeLine) && dBs K ds its.toList)
    | _ => false
  | _, _ => false
def dBs (K : PySem.W.Frag) : List D → List Value → Bool
  | [], [] => true
  | d :: ds, u :: us => dB K d u && dBs K ds us
  | _, _ => false
end
mutual
theorem dB_ok {K : PySem.W.Frag} : ∀ {d : D} {u : Value}, dB K d u = true → ∃ v, RelV v u ∧ ∀ mu H, Rv K mu H d v
  | .non, u, h => by
    cases u <;> simp [dB] at h
    exact ⟨.non, rfl, fun _ _ => rfl⟩
  | .bl b, u, h => by
    cases u <;> simp [dB] at h
    subst h
    exact ⟨.bl _, rfl, fun _ _ => rfl⟩
  | .int i, u, h => by
    cases u <;> simp [dB] at h
    subst h
    exact ⟨.int _, ⟨_, rfl⟩, fun _ _ => rfl⟩
  | .str i, u, h => by
    cases u <;> simp [dB] at h
    subst h
    exact ⟨.str _, ⟨_, rfl⟩, fun _ _ => rfl⟩
  | .tup ds, u, h => by
    cases u with
    | ref a =>
      simp only [dB] at h
      cases q : K.lookup a with
      | none => rw [q] at h; cases h
      | some o =>
        obtain ⟨oc, od, dt, osl⟩ := o
        rw [q] at h
        cases oc with
        | type c =>
          cases dt with
          | seq its n =>
            simp only [Bool.and_eq_true, decide_eq_true_eq] at h
            obtain ⟨h1, h2, h3⟩ := h
            obtain ⟨vs, z1, z2⟩ := dBs_ok h3
            exact ⟨.ref a, rfl, fun mu H => ⟨a, vs, rfl, .inr ⟨_, its, n, q, congrArg Value.type h1, rfl, h2, z1⟩, z2 mu H⟩⟩
          | _ => cases h
        | _ => cases dt <;> cases h
    | _ => simp [dB] at h
  | .hdl _, u, h => by simp [dB] at h
  | .ro _, u, h => by simp [dB] at h
theorem dBs_ok {K : PySem.W.Frag} : ∀ {ds : List D} {us : List Value}, dBs K ds us = true → ∃ vs, Vals vs us ∧ ∀ mu H, Rvs K mu H ds vs
  | [], [], _ => ⟨[], .nil, fun _ _ => rfl⟩
  | [], _ :: _, h => by simp [dBs] at h
  | _ :: _, [], h => by simp [dBs] at h
  | d :: ds, u :: us, h => by
    simp only [dBs, Bool.and_eq_true] at h
    obtain ⟨v, z1, z2⟩ := dB_ok h.1
    obtain ⟨vs, z3, z4⟩ := dBs_ok h.2
    exact ⟨v :: vs, .cons z1 z3, fun mu H => ⟨v, vs, rfl, z2 mu H, z4 mu H⟩⟩
end
def konB (K : PySem.W.Frag) (p : Str × D) : Bool := match PySem.W.nsIn K mainGlobals p.1 with
  | some (some u) => dB K p.2 u
  | _ => false
def exB (K : PySem.W.Frag) (exs : List Str) (x : Str) : Bool :=
  eqO (PySem.W.findIn K (.ref (ga K x)) "__getattribute__") (some (some (.builtin "BaseException.__getattribute__"))) && (eqO (PySem.W.findIn K (.ref (ga K x)) "__getattr__") (some none) && (PySem.W.hasDictIn K (ga K x) &&
  (eqO (PySem.W.findIn K (.ref (ga K x)) "__class__") (some (some (.builtin "object.__class__"))) && (eqO (PySem.W.specialIn K (.builtin "object.__class__") "__get__") (some (some (.builtin "getset_descriptor.__get__"))) &&
  (decide (PySem.W.takesIn K (.builtin "object.__class__") = some true) && (decide (PySem.W.mroIn K (ga K x) (.type "object") = some true) && (decide (PySem.W.kitOne K (.ref (ga K x)) (.type "ValueError") = some true) &&
  exs.all fun y => decide (PySem.W.kitOne K (.ref (ga K x)) (.ref (ga K y)) = some (subX x y)) && decide (PySem.W.exmOne K (.ref (ga K x)) (.ref (ga K y)) = some (catX exs y x)))))))))
structure Cfg where
  fns : List (Str × Nat)
  bl : List Str
  kon : List (Str × D)
  exs : List Str
  /-- classes, with how many arguments __init__ takes; their methods; fields -/
  cls : List (Str × Nat) := []
  ms : List (Str × Str) := []
  flds : List Str := []
def Cfg.cn (g : Cfg) : List Str := g.cls.map (·.1)
def Cfg.clsFa (g : Cfg) : List Fa := g.cn.map Fa.glo ++ (g.cn.map Fa.cls ++ (g.cn.map Fa.mkr ++ (g.cn.flatMap (fun c => g.flds.map (Fa.noat c)) ++ g.ms.map fun p => Fa.meth p.1 p.2)))
def Cfg.more (g : Cfg) (K : PySem.W.Frag) : Bool := g.kon.all (konB K) && (g.exs.all (exB K g.exs) && decide (("ValueError" : Str) ∉ g.exs))
def Cfg.fa (g : Cfg) : List Fa := g.fns.map (fun p => Fa.glo p.1) ++ (g.bl.map Fa.free ++ (g.exs.map Fa.glo ++ (g.exs.map Fa.exc ++ g.clsFa)))
/-- a def of the text -/
structure Df where
  d : DefD
  N : List Str
  ps : List Str
  fn : Fn
  dn : List Str := []
def Df.name (t : Df) : Str := match t.d.at_.2 with
  | none => t.d.at_.1
  | some m => mname t.d.at_.1 m
/-- a method of a class -/
def Df.glob (t : Df) : Bool := t.d.at_.2.isNone
/-! ### the hook -/
abbrev AlM : Type := AlD × Bool
def obsM (g : Cfg) (fn : List DefD) (K : PySem.W.Frag) : AlM := (obsD g.fa fn K, g.more K)
def obsMG (n : Nat) (c : Cfg) (fn : List DefD) (g : Addr → Option Obj) : AlM := obsM c fn (frG g (asD g n))
def hookM (n : Nat) (c : Cfg) (fn : List DefD) : PySem.W.Hook where
  α := AlM
  obs := fun s => obsMG n c fn s.heap.get?
  val := fun _ => (valD fn, true)
  says := fun _ h => ∃ K : PySem.W.Frag, K.In h ∧ SaysD c.fa fn K ∧ c.more K = true
  of := fun _ _ e => ⟨_, frG_in, congrArg (fun z : AlM => z.1) e, congrArg (fun z : AlM => z.2) e⟩
  keeps := fun _ _ _ ⟨K, hK, a, b⟩ k => ⟨K, PySem.W.Frag.In.keeps hK k, a, b⟩
theorem obsMG_eq {n : Nat} {c : Cfg} {fn : List DefD} {g : Addr → Option Obj} {s : Shared} (h : ∀ a, g a = s.heap.get? a) : obsMG n c fn g = (hookM n c fn).obs s := by
  have e : g = s.heap.get? := funext h
  rw [e] <;> rfl

/-! ### the table -/
def tabOf (ts : List Df) : Tab := ts.map fun t => (t.name, t.fn)
structure DfOk (g : Cfg) (ts : List Df) (t : Df) : Prop where
  cmp : cmpS (cmp 60) g.exs 60 ⟨t.N, t.d.scope, g.fns, g.bl, g.kon, true, t.dn, g.cls, g.flds, g.ms.map (·.2)⟩ t.d.body = some t.fn.body
  sc : FnScope t.N t.ps t.d.scope
  ar : t.fn.ar = t.ps.length
  ns : t.N.length = t.fn.ns
  dfl : t.d.dfl = []
  kwd : t.d.kwd = []
  look : (tabOf ts).lookup t.name = some t.fn
  bnd : ∀ (kV doc pm : Value) (an : Option Addr) (cdv ct : Value) (us : List Value), us.length = t.ps.length → bindArgs (PySem.W.fnOf t.d.name t.d.qual t.d.params t.d.body t.d.scope .none kV doc pm an cdv ct) ⟨us, []⟩ = pure (t.ps.zip us)
theorem lookup_mem' {A : Type} {x : Str} {d : A} : ∀ {l : List (Str × A)}, l.lookup x = some d → (x, d) ∈ l
  | [], h => by simp at h
  | (y, e) :: r, h => by
    rw [List.lookup_cons] at h
    split at h
    · rename_i q
      simp only [Option.some.injEq] at h
      rw [beq_iff_eq.mp q, h]; exact List.mem_cons_self
    · exact List.mem_cons_of_mem _ (lookup_mem' h)
/-- the table's methods are those that the configuration names -/
def msOk (g : Cfg) (ts : List Df) : Bool :=
  (g.ms.all fun p => ts.all fun t => !decide (t.name = mname p.1 p.2) || decide (t.d.at_ = (p.1, some p.2))) &&
  ((g.cn.all fun c => (g.ms.map (·.2)).all fun m => decide ((c, m) ∈ g.ms) || ts.all fun t => !decide (t.name = mname c m)) &&
  g.cls.all fun p => ts.any fun t => decide (t.d.at_ = (p.1, some ("__init__" : Str))) && (decide (t.ps.length = p.2)))
structure Facts (g : Cfg) (ts : List Df) (K : PySem.W.Frag) (mg : Str → Option Value) : Prop where
  ok : ∀ t ∈ ts, DfOk g ts t
  fns : g.fns = (ts.filter Df.glob).map fun t => (t.name, t.ps.length)
  mso : msOk g ts = true
  says : SaysD g.fa (ts.map Df.d) K
  more : g.more K = true
  glo : ∀ x, Fa.glo x ∈ g.fa → mg x = some (.ref (ga K x))
  free : ∀ x ∈ g.bl, mg x = none
  kon : ∀ p ∈ g.kon, ∃ u, mg p.1 = some u ∧ dB K p.2 u = true
theorem facts_mk {g : Cfg} {ts : List Df} {K : PySem.W.Frag} {mg : Str → Option Value} {h : Heap} (ok : ∀ t ∈ ts, DfOk g ts t) (fns : g.fns = (ts.filter Df.glob).map fun t => (t.name, t.ps.length)) (mso : msOk g ts = true) (X : K.In h) (G : h.Ns mainGlobals mg) (s : SaysD g.fa (ts.map Df.d) K) (m : g.more K = true) : Facts g ts K mg where
  ok := ok
  fns := fns
  mso := mso
  says := s
  more := m
  glo := fun x hx => glo_ok X G (s.facts hx)
  free := fun x hx => free_ok X G (s.facts (show Fa.free x ∈ g.fa from List.mem_append_right _ (List.mem_append_left _ (List.mem_map.mpr ⟨x, hx, rfl⟩))))
  kon := fun p hp => by
    unfold Cfg.more at m
    have h1 := List.all_eq_true.mp (ba m).1 p hp
    unfold konB at h1
    split at h1
    · rename_i u e; exact ⟨u, PySem.W.mg_of X G e, h1⟩
    · cases h1
def Cfg.of (g : Cfg) (K : PySem.W.Frag) (x : Str) : Option Addr := if x ∈ g.exs then some (ga K x) else none
def Cfg.CL (g : Cfg) (K : PySem.W.Frag) (w : World) : CLs := ⟨g.of K, fun c => if c ∈ g.cn then some (ga K c) else none, w⟩
theorem CL_eq {g : Cfg} {K : PySem.W.Frag} {w : World} {x : Str} {C : Addr} (h : g.CL K w x = some C) : x ∈ g.exs ∧ C = ga K x := by
  replace h : g.of K x = some C := h
  unfold Cfg.of at h
  split at h
  · rename_i hx; cases h; exact ⟨hx, rfl⟩
  · cases h
theorem exF_of {w : World} {g : Cfg} {ts : List Df} {K : PySem.W.Frag} {mg : Str → Option Value} (F : Facts g ts K mg) {X : Cx} (hK : X.K = K) (hm : X.mg = mg) : ExF X (g.CL K w) g.exs := by
  subst hK; subst hm
  have m := F.more
  unfold Cfg.more at m
  obtain ⟨_, m⟩ := ba m
  obtain ⟨m1, m2⟩ := ba m
  have key : ∀ x ∈ g.exs, exB X.K g.exs x = true := fun x hx => List.all_eq_true.mp m1 x hx
  have cl : ∀ x ∈ g.exs, g.CL X.K w x = some (ga X.K x) := fun x hx => by show g.of X.K x = _; unfold Cfg.of; rw [if_pos hx]
  have ex : ∀ x ∈ g.exs, (Fa.exc x).ok X.K = true := fun x hx => F.says.facts (List.mem_append_right _ (List.mem_append_right _ (List.mem_append_right _ (List.mem_append_left _ (List.mem_map.mpr ⟨x, hx, rfl⟩)))))
  have gl : ∀ x ∈ g.exs, X.mg x = some (.ref (ga X.K x)) := fun x hx => F.glo x (List.mem_append_right _ (List.mem_append_right _ (List.mem_append_left _ (List.mem_map.mpr ⟨x, hx, rfl⟩))))
  have all : ∀ x ∈ g.exs, ∀ y ∈ g.exs, PySem.W.kitOne X.K (.ref (ga X.K x)) (.ref (ga X.K y)) = some (subX x y) ∧ PySem.W.exmOne X.K (.ref (ga X.K x)) (.ref (ga X.K y)) = some (catX g.exs y x) := fun x hx y hy => by
    have := key x hx
    unfold exB at this
    simp only [Bool.and_eq_true, List.all_eq_true, decide_eq_true_eq] at this
    exact this.2.2.2.2.2.2.2.2 y hy
  refine ⟨fun x hx => ?_, fun x hx y hy C D hC hD => ?_, fun x hx C hC => ?_, fun x y hy C D hC hD => ?_, of_decide_eq_true m2⟩
  · obtain ⟨e1, e2, e3, e4⟩ := exc_ok (ex x hx)
    have := key x hx
    unfold exB at this
    simp only [Bool.and_eq_true, decide_eq_true_eq] at this
    obtain ⟨a1, a2, a3, a4, a5, a6, a7, _⟩ := this
    exact ⟨_, cl x hx, gl x hx, e1, e2, e3, e4, ⟨eqO_ok a1, eqO_ok a2, e3, a3, eqO_ok a4, eqO_ok a5, a6, a7⟩⟩
  · rw [(CL_eq hC).2, (CL_eq hD).2]; exact (all x hx y hy).1
  · have := key x hx
    unfold exB at this
    simp only [Bool.and_eq_true, decide_eq_true_eq] at this
    rw [(CL_eq hC).2]; exact this.2.2.2.2.2.2.2.1
  · rw [(CL_eq hC).2, (CL_eq hD).2]; exact (all x (CL_eq hC).1 y hy).2
section
variable {P : Program} {w : World} {K : PySem.W.Frag} {mg : Str → Option Value} {base : Heap}
theorem fn_okD {CL : CLs} {T : Tab} {n : Nat} {x name qual : Str} {params : Arguments} {body : List Stmt} {scope : Scope} {F : Fn} {f : Addr} {fd : FuncData} {N ps : List Str} {kws : List (Str × V)} (FF : FunD K name qual params body scope [] kws f fd) (S : FnScope N ps scope) (hT : T.lookup x = some F) (har : F.ar = ps.length) (hns : N.length = F.ns)
    (snd : ∀ (cdv : Value) (A : Around) (outer : List PySem.Env) (s : Shared) (H : Hp) (E : XK), Room (2 * n + 1) (A.deeper (envOfC qual scope s.heap.objs.size f cdv)) →
      SndB (CxF P w K mg base N qual scope f cdv A outer s H E) CL (run T n) body F.body) :
    FnOk P w K mg base (CX P w) (2 * n + 2) f fd ps (spOf K CL (run T (n + 1)) x F.ar) := by
  refine FF.ok S (fun vs H Q E h => by rw [← har]; exact h.1) fun cdv A outer s H vs Q E hr hsp => ?_
  obtain ⟨hl, mu, ds, M, R, q, h⟩ := hsp
  refine ⟨rS K CL (fun c d _ H' => E c d H') (run T n) F.body, snd cdv A outer s H E hr _ (takes_of rfl rfl rfl rfl) (passes_of rfl), mu, _, M, R, Rst.start q hns, ?_⟩
  refine body_ok (σ := []) (m := F.mode) R ?_
  have hl2 : ds.length = F.ar := by have := q.length; have hh : vs.length = F.ar := hl; omega
  simp only [run, hT, Fn.run, if_pos hl2] at h
  exact h
theorem defs_ok {g : Cfg} {ts : List Df} (F : Facts g ts K mg) : ∀ (n : Nat) (t : Df), t ∈ ts → ∀ fd, FunD K t.d.name t.d.qual t.d.params t.d.body t.d.scope [] [] (fAd K t.d.at_) fd → FnOk P w K mg base (CX P w) (2 * n) (fAd K t.d.at_) fd t.ps (spOf K (g.CL K w) (run (tabOf ts) n) t.name t.fn.ar)
  | 0, t, ht, fd, FF => by
    have no : ∀ vs H Q E, ¬ spOf K (g.CL K w) (run (tabOf ts) 0) t.name t.fn.ar vs H Q E := fun vs H Q E ⟨_, _, _, _, _, _, h⟩ => h
    exact ⟨fun vs H Q E h => (no _ _ _ _ h).elim, fun A outer s H args us vs Q E _ _ _ _ h => (no _ _ _ _ h).elim⟩
  | n + 1, t, ht, fd, FF => by
    have O := F.ok t ht
    refine fn_okD FF O.sc O.look O.ar O.ns fun cdv A outer s H E hr => ?_
    have ok' : ∀ t' ∈ ts, ∃ fd', FnOk P w K mg base (CX P w) (2 * n) (fAd K t'.d.at_) fd' t'.ps (spOf K (g.CL K w) (run (tabOf ts) n) t'.name t'.ps.length) ∧ PySem.W.keepIn K (.ref (fAd K t'.d.at_)) = true ∧ Binds K fd' t'.ps [] := fun t' ht' => by
      have O' := F.ok t' ht'
      obtain ⟨fd', FF'⟩ := F.says.defs (d := t'.d) (List.mem_map.mpr ⟨t', ht', rfl⟩)
      have FF2 : FunD K t'.d.name t'.d.qual t'.d.params t'.d.body t'.d.scope [] [] (fAd K t'.d.at_) fd' := by
        unfold DefD.dvs DefD.kws at FF'
        rw [O'.dfl, O'.kwd] at FF'
        exact FF'
      refine ⟨fd', ?_, FF2.kp, FF2.bindsN O'.bnd⟩
      rw [← O'.ar]
      exact defs_ok F n t' ht' fd' FF2
    have gfn : ∀ x ar, g.fns.lookup x = some ar → FnG (CxF P w K mg base t.N t.d.qual t.d.scope (fAd K t.d.at_) cdv A outer s H E) (g.CL K w) (run (tabOf ts) n) (2 * n) x ar := fun x ar h => by
      have h0 := h
      rw [F.fns] at h
      have hmem : ∃ t' ∈ ts, t'.name = x ∧ t'.ps.length = ar ∧ t'.d.at_.2 = none := by
        have hm := lookup_mem' h
        obtain ⟨t', z1, z2⟩ := List.mem_map.mp hm
        obtain ⟨z3, z4⟩ := List.mem_filter.mp z1
        cases z2
        exact ⟨t', z3, rfl, rfl, Option.isNone_iff_eq_none.mp z4⟩
      obtain ⟨t', ht', rfl, rfl, hnone⟩ := hmem
      obtain ⟨fd', q1, q2, q3⟩ := ok' t' ht'
      have ea : fAd K t'.d.at_ = ga K t'.name := by
        unfold fAd Df.name
        rw [hnone]
      refine ⟨fAd K t'.d.at_, fd', t'.ps, q1, ?_, q2, q3⟩
      rw [ea]
      exact F.glo _ (List.mem_append_left _ (List.mem_map.mpr ⟨(t'.name, t'.ps.length), lookup_mem' h0, rfl⟩))
    have cfa : ∀ f, f ∈ g.clsFa → Fa.ok K f = true := fun f hf => F.says.facts (List.mem_append_right _ (List.mem_append_right _ (List.mem_append_right _ (List.mem_append_right _ hf))))
    have clm : ∀ c C, (g.CL K w).cls c = some C → c ∈ g.cn ∧ C = ga K c := fun c C e => by
      have e' : (if c ∈ g.cn then some (ga K c) else none) = some C := e
      split at e'
      · rename_i hc; cases e'; exact ⟨hc, rfl⟩
      · cases e'
    have clk : ∀ c ∈ g.cn, Cls K (ga K c) := fun c hc => cls_ok (cfa _ (List.mem_append_right _ (List.mem_append_left _ (List.mem_map.mpr ⟨c, hc, rfl⟩))))
    have mso := F.mso
    unfold msOk at mso
    simp only [Bool.and_eq_true] at mso
    obtain ⟨ms1, ms2, ms3⟩ := mso
    have gmth : ∀ m, m ∈ g.ms.map (·.2) → MthF (CxF P w K mg base t.N t.d.qual t.d.scope (fAd K t.d.at_) cdv A outer s H E) (g.CL K w) (run (tabOf ts) n) (2 * n) m := fun m hm c C e => by
      obtain ⟨hc, rfl⟩ := clm c C e
      have bad0 : (tabOf ts).lookup (mname c m) = none → ∀ ds M, run (tabOf ts) n (mname c m) ds M = .bad := fun hl ds M => by
        cases n with
        | zero => rfl
        | succ n => simp only [run, hl]
      cases hl : (tabOf ts).lookup (mname c m) with
      | none => exact .inr (bad0 hl)
      | some F' =>
        have hmt := lookup_mem' hl
        obtain ⟨t', ht', z2⟩ := List.mem_map.mp hmt
        have zn : t'.name = mname c m := congrArg Prod.fst z2
        have hcm : (c, m) ∈ g.ms := by
          have q := List.all_eq_true.mp (List.all_eq_true.mp ms2 c hc) m hm
          simp only [Bool.or_eq_true, decide_eq_true_eq, List.all_eq_true, Bool.not_eq_true', decide_eq_false_iff_not] at q
          rcases q with q | q
          · exact q
          · exact absurd zn (q t' ht')
        have hat : t'.d.at_ = (c, some m) := by
          have q := List.all_eq_true.mp (List.all_eq_true.mp ms1 (c, m) hcm) t' ht'
          simp only [Bool.or_eq_true, decide_eq_true_eq, Bool.not_eq_true', decide_eq_false_iff_not] at q
          rcases q with q | q
          · exact absurd zn q
          · exact q
        obtain ⟨fd', q1, q2, q3⟩ := ok' t' ht'
        have O' := F.ok t' ht'
        have hmk : Meth K (ga K c) m (fAd K t'.d.at_) := by
          rw [hat]
          exact meth_ok (cfa _ (List.mem_append_right _ (List.mem_append_right _ (List.mem_append_right _ (List.mem_append_right _ (List.mem_map.mpr ⟨(c, m), hcm, rfl⟩))))))
        refine .inl ⟨t'.ps.length, clk c hc, ⟨fAd K t'.d.at_, fd', t'.ps, by rw [← zn]; exact q1, hmk, q3⟩, fun ds M hne => ?_⟩
        cases n with
        | zero => rfl
        | succ n =>
          have hlt : (tabOf ts).lookup (mname c m) = some t'.fn := by rw [← zn]; exact O'.look
          simp only [run, hlt, Fn.run]
          rw [if_neg (by rw [O'.ar]; exact hne)]
    have gnew : ∀ x ar, g.cls.lookup x = some ar → MkG (CxF P w K mg base t.N t.d.qual t.d.scope (fAd K t.d.at_) cdv A outer s H E) (g.CL K w) (run (tabOf ts) n) (2 * n) x ar := fun x ar h => by
      have hm := lookup_mem' h
      have hc : x ∈ g.cn := List.mem_map.mpr ⟨(x, ar), hm, rfl⟩
      have q := List.all_eq_true.mp ms3 (x, ar) hm
      obtain ⟨t', ht', q⟩ := List.any_eq_true.mp q
      simp only [Bool.and_eq_true, decide_eq_true_eq] at q
      obtain ⟨hat, har⟩ := q
      obtain ⟨fd', q1, q2, q3⟩ := ok' t' ht'
      have zn : t'.name = mname x "__init__" := by unfold Df.name; rw [hat]
      rw [har, zn] at q1
      have mk : Mk K (ga K x) (fAd K t'.d.at_) := by
        rw [hat]
        exact mkr_ok (cfa _ (List.mem_append_right _ (List.mem_append_right _ (List.mem_append_left _ (List.mem_map.mpr ⟨x, hc, rfl⟩)))))
      refine ⟨ga K x, _, fd', t'.ps, if_pos hc, ?_, mk, q1, q3⟩
      exact F.glo x (List.mem_append_right _ (List.mem_append_right _ (List.mem_append_right _ (List.mem_append_right _ (List.mem_append_left _ (List.mem_map.mpr ⟨x, hc, rfl⟩))))))
    have gfld : ∀ f, f ∈ g.flds → ClF (CxF P w K mg base t.N t.d.qual t.d.scope (fAd K t.d.at_) cdv A outer s H E) (g.CL K w) f := fun f hf c C e => by
      obtain ⟨hc, rfl⟩ := clm c C e
      exact ⟨clk c hc, noat_ok (cfa _ (List.mem_append_right _ (List.mem_append_right _ (List.mem_append_right _ (List.mem_append_left _ (List.mem_flatMap.mpr ⟨c, hc, List.mem_map.mpr ⟨f, hf, rfl⟩⟩))))))⟩
    have G : Good (CxF P w K mg base t.N t.d.qual t.d.scope (fAd K t.d.at_) cdv A outer s H E) (g.CL K w) (run (tabOf ts) n) (2 * n) ⟨t.N, t.d.scope, g.fns, g.bl, g.kon, true, t.dn, g.cls, g.flds, g.ms.map (·.2)⟩ := by
      refine ⟨rfl, O.sc.nd, fun x h => ?_, fun x h => ?_, fun x h => ?_, fun x h => ?_, fun x h => h, O.sc.kind, F.free, fun x d h => ?_, gfn, ?_, rfl, fun _ => ⟨rfl, hr⟩, gnew, gfld, gmth⟩
      · unfold Ct.vis Ct.lk at h
        split at h
        · rename_i e; exact .inl e
        · rename_i e; exact .inr (.inl e)
        · rename_i e; exact .inr (.inr e)
        · cases h
      · unfold Ct.gl Ct.lk at h
        split at h
        · rename_i e; exact e
        · cases h
      · unfold Ct.loc Ct.lk at h
        split at h
        · rename_i e; exact e
        · cases h
      · unfold Ct.cel Ct.lk at h
        split at h
        · rename_i e; exact ⟨e, rfl⟩
        · cases h
      · have hmem : (x, d) ∈ g.kon := lookup_mem' h
        obtain ⟨u, z1, z2⟩ := F.kon _ hmem
        obtain ⟨v, z3, z4⟩ := dB_ok z2
        exact ⟨u, v, z1, z3, z4⟩
      · have := hr.un
        show (A.deeper (envOfC t.d.qual t.d.scope s.heap.objs.size (fAd K t.d.at_) cdv)).units + 65 < cLine
        omega
    exact (cmpS_ok (cmp_ok 60) (cmp_sw 60) _ 60).b _ _ _ rfl rfl rfl rfl rfl ⟨G, exF_of F rfl rfl, rfl, rfl, rfl, rfl⟩ O.cmp
/-- the law's def, as walk_ofE wants it -/
theorem law_end {g : Cfg} {ts : List Df} {n m : Nat} {x : Str} {t : Df} {h : Heap} (ok : ∀ t ∈ ts, DfOk g ts t) (fns : g.fns = (ts.filter Df.glob).map fun t => (t.name, t.ps.length)) (mso : msOk g ts = true) (hno : t.d.at_.2 = none) (ht : t ∈ ts) (hps : t.ps = [x]) {fa : Addr} (hfa : mg t.name = some (.ref fa))
    (KX : K.In h) (G : h.Ns mainGlobals mg) (c1 : SaysD g.fa (ts.map Df.d) K) (c2 : g.more K = true)
    (hrun : ∀ ns : List Int, ns.length ≤ m → ∃ M, run (tabOf ts) n t.name [.ro (ns.map D.int)] [] = .ok (.d (.bl true)) M) :
    ∃ (fd : FuncData) (sp : Sp), (∀ (s : Shared) (u : Value), BindsTo s fd ⟨[u], []⟩ [(x, u)]) ∧
        (∀ (H : Hp) (a : Addr) (ns : List Int), ns.length ≤ m → Only H → SqL K H a (ns.map V.int) → sp [.ref a] H (fun v _ => v = .bl true) fun _ _ _ => False) ∧
        ∀ base : Heap, K.In base → base.Ns mainGlobals mg → FnOk P w K mg base (CX P w) (2 * n) fa fd [x] sp := by
  have F : Facts g ts K mg := facts_mk ok fns mso KX G c1 c2
  have O := ok t ht
  obtain ⟨fd', FF'⟩ := c1.defs (d := t.d) (List.mem_map.mpr ⟨t, ht, rfl⟩)
  have FF2 : FunD K t.d.name t.d.qual t.d.params t.d.body t.d.scope [] [] (fAd K t.d.at_) fd' := by
    unfold DefD.dvs DefD.kws at FF'
    rw [O.dfl, O.kwd] at FF'
    exact FF'
  have ea : fAd K t.d.at_ = ga K t.name := by
    unfold fAd Df.name
    rw [hno]
  have e0 := F.glo t.name (List.mem_append_left _ (by rw [fns]; exact List.mem_map.mpr ⟨(t.name, t.ps.length), List.mem_map.mpr ⟨t, List.mem_filter.mpr ⟨ht, by unfold Df.glob; rw [hno]; rfl⟩, rfl⟩, rfl⟩))
  rw [hfa] at e0
  cases e0
  refine ⟨fd', spOf K (g.CL K w) (run (tabOf ts) n) t.name t.fn.ar, fun s u => ?_, fun H a ns hl hO hq => ?_, fun base _ _ => ?_⟩
  · have := FF2.bindsA O.bnd s [u] (by rw [hps]; rfl)
    rw [hps] at this
    exact this
  · refine ⟨by rw [O.ar, hps]; rfl, [], [.ro (ns.map D.int)], [], ⟨rfl, List.nodup_nil, fun n a o e => by simp at e⟩, ⟨.ref a, [], rfl, ⟨a, _, rfl, ?_, Rvs.of_ints ns⟩, rfl⟩, ?_⟩
    · rcases hq with (hq | hq) | hq
      · rcases hO a with e | ⟨o, xs, e⟩
        · rw [hq] at e; cases e
        · rw [hq] at e; cases e
      · exact .inl hq
      · exact .inr hq
    · obtain ⟨M, e⟩ := hrun ns hl
      rw [e]
      exact fun mu' H' _ _ v hv => hv
  · rw [← ea]
    have := defs_ok (P := P) (w := w) (base := base) F n t ht fd' FF2
    rw [hps] at this
    exact this
end
/-- the end of a law whose defs may raise -/
theorem walk_M {l : PySem.W.OpenLaw} {n k : Nat} {q : Program} {loose : List Str} {XP : (Str → Option Value) → Heap → Prop} {YP : World → Heap → Prop} {d : DefRec} {x : Str}
    (hn : l.most = some n) (hn2 : n ≤ sizeLine) (hdf : d.params.defaults = []) (hr : Room k callerA)
    (F : ∀ (w : World) (mg : Str → Option Value) (fa : Addr) (h : Heap), YP w h → h.Ns mainGlobals mg → mg d.name = some (.ref fa) →
      ∃ (K : PySem.W.Frag) (fd : FuncData) (sp : Sp), K.In h ∧ (∀ (s : Shared) (u : Value), BindsTo s fd ⟨[u], []⟩ [(x, u)]) ∧
        (∀ (H : Hp) (a : Addr) (ns : List Int), ns.length ≤ n → Only H → SqL K H a (ns.map V.int) → sp [.ref a] H (fun v _ => v = .bl true) fun _ _ _ => False) ∧
        ∀ base : Heap, K.In base → base.Ns mainGlobals mg → FnOk l.prog w K mg base (L2.CX l.prog w) k fa fd [x] sp) :
    PySem.W.WalkO q loose XP YP l.row.toRowW d [] (fun f vs => PySem.call f vs) := by
  refine Att.attach_call hn hdf fun w s₀ s₁ mg mb fa o pm cd doc a vs ns G Y ho hd hcd hmg hobj hints hlen hg => ?_
  obtain ⟨K, fd, sp, KX, hb, hsp, hF⟩ := F w mg fa _ Y G.T.g hmg
  refine law_call KX G.T.g G.T.b G.T.builtins G.T.nolimit hg hobj hints (Nat.le_trans hlen hn2) hr hF hb (fun H hO hS => hsp H a ns hlen hO hS) fun H e s' z => ?_
  obtain ⟨_, _, _, _, _, _, _, _, _, _, _, _, z⟩ := z
  exact z.elim
/-- the law's end, by the facts of the head -/
theorem end_M {l : PySem.W.OpenLaw} {g : Cfg} {ts : List Df} {n : Nat} {x : Str} {t : Df} {d : DefRec} (hps : t.ps = [x]) (hd : d.name = t.name) (ok : ∀ t ∈ ts, DfOk g ts t) (fns : g.fns = (ts.filter Df.glob).map fun t => (t.name, t.ps.length)) (mso : msOk g ts = true) (hno : t.d.at_.2 = none) (ht : t ∈ ts)
    (hrun : ∀ ns : List Int, ns.length ≤ 63 → ∃ M, run (tabOf ts) n t.name [.ro (ns.map D.int)] [] = .ok (.d (.bl true)) M)
    (w : World) (mg : Str → Option Value) (fa : Addr) (h : Heap) (Y : (hookM 5 g (ts.map Df.d)).says w h) (G : h.Ns mainGlobals mg) (hmg : mg d.name = some (.ref fa)) :
      ∃ (K : PySem.W.Frag) (fd : FuncData) (sp : Sp), K.In h ∧ (∀ (s : Shared) (u : Value), BindsTo s fd ⟨[u], []⟩ [(x, u)]) ∧
        (∀ (H : Hp) (a : Addr) (ns : List Int), ns.length ≤ 63 → Only H → SqL K H a (ns.map V.int) → sp [.ref a] H (fun v _ => v = .bl true) fun _ _ _ => False) ∧
        ∀ base : Heap, K.In base → base.Ns mainGlobals mg → FnOk l.prog w K mg base (L2.CX l.prog w) (2 * n) fa fd [x] sp := by
  obtain ⟨K, KX, c1, c2⟩ := Y
  rw [hd] at hmg
  obtain ⟨fd, sp, h1, h2, h3⟩ := law_end (P := l.prog) (w := w) (n := n) (m := 63) (x := x) ok fns mso hno ht hps hmg KX G c1 c2 hrun
  exact ⟨K, fd, sp, KX, h1, h2, h3⟩
end MI
end
section
set_option linter.all false
set_option maxRecDepth 100000
namespace HW
open PySem MI
def exsAll : List Str := ["HeldError", "NoWord", "NoTable", "NoWidth", "NoStretch", "NoColumn", "NoTurn", "NoText"]
def b_truth_by : SS := sSeq (sIf (tB (e2 oEq (eVar 0) (eC (.str "both")))) (sRet (eAnd (eVar 1) (eVar 2))) (sNil)) (sSeq (sIf (tB (e2 oEq (eVar 0) (eC (.str "either")))) (sRet (eOr (eVar 1) (eVar 2)))
    (sNil)) (sSeq (sIf (tB (e2 oEq (eVar 0) (eC (.str "less")))) (sRet (eAnd (eVar 1) (eNot (eVar 2)))) (sNil)) (sSeq (sIf (tB (e2 oEq (eVar 0) (eC (.str "just")))) (sRet (e2 oNe (eVar 1) (eVar 2)))
    (sNil)) (sRaise "NoWord"))))
def F_truth_by : Fn := ⟨3, 3, .pure, b_truth_by⟩
def b_edges_marked : SS := sSeq (sSet 1 (eDic0)) (sSeq (sFor (.nm 2) (iSeq (e2 oIx (eVar 0) (eC (.int 1)))) (sSetIx (eVar 1) (eVar 2) (eC (.bl true)))) (sRet (eVar 1)))
def F_edges_marked : Fn := ⟨1, 3, .pure, b_edges_marked⟩
def b_blend : SS := sSeq (sSet 3 (eCall "edges_marked" (dCons (eVar 0) (dNil)))) (sSeq (sSet 4 (eCall "edges_marked" (dCons (eVar 1) (dNil)))) (sSeq (sSet 5 (e2 oIx (eVar 0) (eC (.int 0)))) (sSeq
    (sSet 6 (e2 oIx (eVar 1) (eC (.int 0)))) (sSeq (sSet 7 (eCall "truth_by" (dCons (eVar 2) (dCons (eVar 5) (dCons (eVar 6) (dNil)))))) (sSeq (sSet 8 (eVar 7)) (sSeq (sSet 9 (eLst (dNil))) (sSeq
    (sFor (.nm 10) (iSeq (e1 bSortedSet (e2 oAdd (e2 oIx (eVar 0) (eC (.int 1))) (e2 oIx (eVar 1) (eC (.int 1)))))) (sSeq (sIf (tB (e2 oIn (eVar 10) (eVar 3))) (sSet 5 (eNot (eVar 5))) (sNil)) (sSeq
    (sIf (tB (e2 oIn (eVar 10) (eVar 4))) (sSet 6 (eNot (eVar 6))) (sNil)) (sIf (tB (e2 oNe (eCall "truth_by" (dCons (eVar 2) (dCons (eVar 5) (dCons (eVar 6) (dNil))))) (eVar 8))) (sSeq (sExpr (eM1
    mAppend (eVar 9) (eVar 10))) (sSet 8 (eNot (eVar 8)))) (sNil))))) (sRet (eTup (dCons (eVar 7) (dCons (e1 bTuple (eVar 9)) (dNil))))))))))))
def F_blend : Fn := ⟨3, 11, .pure, b_blend⟩
def b__law_draw : SS := sSeq (sIf (tB (e2 oEq (e1 bLen (eVar 0)) (eC (.int 0)))) (sRet (eC (.int 0))) (sNil)) (sSeq (sSet 3 (e2 oMod (e2 oIx (eVar 0) (e2 oMod (eVar 1) (e1 bLen (eVar 0)))) (eC (.int
    1000000007)))) (sSeq (sSet 4 (e2 oMod (e2 oMul (e2 oAdd (eVar 3) (eC (.int 5))) (e2 oAdd (eC (.int 40692)) (e2 oMul (eC (.int 977)) (eVar 1)))) (eC (.int 2147483629)))) (sSeq (sSet 4 (e2 oMod (e2
    oMul (e2 oAdd (eVar 4) (eVar 1)) (e2 oAdd (eVar 4) (eC (.int 3)))) (eC (.int 2147483647)))) (sRet (e2 oMod (e2 oDiv (eVar 4) (eC (.int 13))) (eVar 2))))))
def F__law_draw : Fn := ⟨3, 5, .pure, b__law_draw⟩
def b__law_due : SS := sSeq (sIf (tB (e2 oEq (eVar 0) (eC (.str "both")))) (sRet (eAnd (eVar 1) (eVar 2))) (sNil)) (sSeq (sIf (tB (e2 oEq (eVar 0) (eC (.str "either")))) (sRet (eOr (eVar 1) (eVar 2)))
    (sNil)) (sSeq (sIf (tB (e2 oEq (eVar 0) (eC (.str "less")))) (sRet (eAnd (eVar 1) (eNot (eVar 2)))) (sNil)) (sRet (e2 oNe (eVar 1) (eVar 2)))))
def F__law_due : Fn := ⟨3, 3, .pure, b__law_due⟩
def b__law_refused : SS := sSeq (sSet 4 (eLst (dNil))) (sSeq (sTry (some 5) (sExpr (eCall "truth_by" (dCons (eVar 0) (dCons (eVar 1) (dCons (eVar 2) (dNil)))))) (catX exsAll "HeldError") (suSem exsAll
    [.lst 4 false [.isi false ["NoWord"], .isi false ["ValueError"]], .lst 4 true [.isi false ["NoColumn", "NoStretch", "NoTable", "NoText", "NoTurn", "NoWidth"]]])) (sSeq (sSet 6 (eLst (dNil))) (sSeq
    (sTry (some 5) (sExpr (eCall "blend" (dCons (eTup (dCons (eVar 1) (dCons (e2 oIx (eVar 3) (eC (.int 0))) (dNil)))) (dCons (eTup (dCons (eVar 2) (dCons (e2 oIx (eVar 3) (eC (.int 1))) (dNil))))
    (dCons (eVar 0) (dNil)))))) (catX exsAll "HeldError") (suSem exsAll [.lst 6 false [.isi false ["NoWord"], .isi false ["ValueError"]], .lst 6 true [.isi false ["NoColumn", "NoStretch", "NoTable",
    "NoText", "NoTurn", "NoWidth"]]])) (sRet (eAnd (e2 oEq (eVar 4) (eLst (dCons (eC (.bl true)) (dCons (eC (.bl true)) (dCons (eC (.bl false)) (dNil)))))) (e2 oEq (eVar 6) (eVar 4)))))))
def F__law_refused : Fn := ⟨4, 7, .pure, b__law_refused⟩
def b_law_k01 : SS := sSeq (sSet 1 (eLst (dCons (eC (.str "both")) (dCons (eC (.str "either")) (dCons (eC (.str "less")) (dCons (eC (.str "just")) (dNil))))))) (sSeq (sSet 2 (eLst (dCons (eC (.str
    "")) (dCons (eC (.str "Both")) (dCons (eC (.str "both ")) (dCons (eC (.str " either")) (dCons (eC (.str "eithe")) (dCons (eC (.str "eithers")) (dCons (eC (.str "LESS")) (dCons (eC (.str "les"))
    (dNil))))))))))) (sSeq (sSet 2 (e2 oAdd (eVar 2) (eLst (dCons (eC (.str "more")) (dCons (eC (.str "juts")) (dCons (eC (.str "or")) (dCons (eC (.str "and")) (dCons (eC (.str "not")) (dCons (eC
    (.str "just\n")) (dNil)))))))))) (sSeq (sFor (.nm 3) (iRange1 (e2 bMin2 (e1 bLen (eVar 0)) (eC (.int 63)))) (sSeq (sSet 4 (e2 oEq (eCall "_law_draw" (dCons (eVar 0) (dCons (eVar 3) (dCons (eC
    (.int 2)) (dNil))))) (eC (.int 1)))) (sSeq (sSet 5 (e2 oGt (eCall "_law_draw" (dCons (eVar 0) (dCons (eVar 3) (dCons (eC (.int 4)) (dNil))))) (eC (.int 1)))) (sSeq (sSet 6 (e2 oIx (eVar 1) (e2
    oDiv (eCall "_law_draw" (dCons (eVar 0) (dCons (eVar 3) (dCons (eC (.int 16)) (dNil))))) (eC (.int 4))))) (sSeq (sSet 7 (eCall "truth_by" (dCons (eVar 6) (dCons (eVar 4) (dCons (eVar 5)
    (dNil)))))) (sSeq (sIf (tOr (tNot (tTru (e1 (bIsi .bool) (eVar 7)))) (tB (e2 oNe (eVar 7) (eCall "_law_due" (dCons (eVar 6) (dCons (eVar 4) (dCons (eVar 5) (dNil)))))))) (sRet (eC (.bl false)))
    (sNil)) (sSeq (sSet 8 (e2 oIx (eLst (dCons (eTup (dCons (eTup (dCons (eC (.int 3)) (dCons (eC (.int 5)) (dNil)))) (dCons (eTup (dNil)) (dNil)))) (dCons (eTup (dCons (eTup (dNil)) (dCons (eTup
    (dNil)) (dNil)))) (dCons (eTup (dCons (eTup (dCons (eC (.int 3)) (dNil))) (dCons (eTup (dCons (eC (.int 3)) (dNil))) (dNil)))) (dCons (eTup (dCons (eTup (dNil)) (dCons (eTup (dCons (e1 oNeg (eC
    (.int 4))) (dNil))) (dNil)))) (dNil)))))) (eCall "_law_draw" (dCons (eVar 0) (dCons (e2 oAdd (eVar 3) (eC (.int 70))) (dCons (eC (.int 4)) (dNil))))))) (sIf (tNot (tTru (eCall "_law_refused"
    (dCons (e2 oIx (eVar 2) (e2 oDiv (eCall "_law_draw" (dCons (eVar 0) (dCons (eVar 3) (dCons (eC (.int 224)) (dNil))))) (eC (.int 16)))) (dCons (eVar 4) (dCons (eVar 5) (dCons (eVar 8) (dNil))))))))
    (sRet (eC (.bl false))) (sNil))))))))) (sRet (eCall "_law_refused" (dCons (e2 oIx (eVar 2) (eCall "_law_draw" (dCons (eVar 0) (dCons (eC (.int 63)) (dCons (eC (.int 14)) (dNil)))))) (dCons (eC
    (.bl true)) (dCons (eC (.bl false)) (dCons (eTup (dCons (eTup (dNil)) (dCons (eTup (dNil)) (dNil)))) (dNil))))))))))
def F_law_k01 : Fn := ⟨1, 9, .pure, b_law_k01⟩
def b_lies_in : SS := sSeq (sSet 2 (e2 oIx (eVar 0) (eC (.int 0)))) (sSeq (sFor (.nm 3) (iSeq (e2 oIx (eVar 0) (eC (.int 1)))) (sIf (tB (e2 oLe (eVar 3) (eVar 1))) (sSet 2 (eNot (eVar 2))) (sNil)))
    (sRet (eVar 2)))
def F_lies_in : Fn := ⟨2, 4, .pure, b_lies_in⟩
def b__law_far : SS := sSeq (sIf (tB (e2 oEq (e1 bLen (eVar 0)) (eC (.int 0)))) (sRet (eC (.int 0))) (sNil)) (sSeq (sSet 2 (e2 oAdd (eCall "_law_draw" (dCons (eVar 0) (dCons (eVar 1) (dCons (eC (.int
    100000000)) (dNil))))) (eC (.int 1)))) (sRet (e2 oMod (e2 oAdd (e2 oMul (e2 oMod (e2 oIx (eVar 0) (e2 oMod (eVar 1) (e1 bLen (eVar 0)))) (e2 oPow (eC (.int 10)) (eC (.int 50)))) (eVar 2)) (e2 oPow
    (eVar 2) (eC (.int 5)))) (e2 oPow (eC (.int 10)) (eC (.int 50))))))
def F__law_far : Fn := ⟨2, 3, .pure, b__law_far⟩
def b__law_reach_k02 : SS := sSeq (sSet 2 (eCall "_law_draw" (dCons (eVar 0) (dCons (eVar 1) (dCons (eC (.int 5)) (dNil)))))) (sSeq (sSet 3 (eCall "_law_draw" (dCons (eVar 0) (dCons (e2 oAdd (eVar 1)
    (eC (.int 1))) (dCons (eC (.int 100000000)) (dNil)))))) (sSeq (sSet 4 (eLst (dNil))) (sSeq (sIf (tB (e2 oLt (eVar 2) (eC (.int 3)))) (sSeq (sSet 5 (e2 oAdd (eC (.int 2)) (e2 oMul (eC (.int 2)) (e2
    oDiv (eVar 2) (eC (.int 2)))))) (sFor (.nm 6) (iRange1 (eC (.int 13))) (sSeq (sIf (tB (e2 oEq (e2 oMod (eVar 3) (eVar 5)) (eC (.int 1)))) (sExpr (eM1 mAppend (eVar 4) (e2 oSub (eVar 6) (eC (.int
    4))))) (sNil)) (sSet 3 (e2 oDiv (eVar 3) (eVar 5)))))) (sNil)) (sSeq (sIf (tB (e2 oEq (eVar 2) (eC (.int 3)))) (sSeq (sSet 7 (e2 oSub (eCall "_law_far" (dCons (eVar 0) (dCons (e2 oAdd (eVar 1) (eC
    (.int 2))) (dNil)))) (e2 oMul (eC (.int 5)) (e2 oPow (eC (.int 10)) (eC (.int 49)))))) (sFor (.nm 6) (iRange1 (e2 oMod (eVar 3) (eC (.int 7)))) (sSeq (sExpr (eM1 mAppend (eVar 4) (eVar 7))) (sSet
    7 (e2 oAdd (e2 oAdd (eVar 7) (eC (.int 1))) (e2 oMod (eCall "_law_far" (dCons (eVar 0) (dCons (e2 oAdd (e2 oAdd (eVar 1) (eC (.int 3))) (eVar 6)) (dNil)))) (e2 oIx (eLst (dCons (eC (.int 3))
    (dCons (e2 oPow (eC (.int 10)) (eC (.int 48))) (dNil)))) (e2 oMod (e2 oDiv (eVar 3) (eC (.int 7))) (eC (.int 2)))))))))) (sNil)) (sRet (eTup (dCons (e2 oEq (eCall "_law_draw" (dCons (eVar 0)
    (dCons (e2 oAdd (eVar 1) (eC (.int 10))) (dCons (eC (.int 2)) (dNil))))) (eC (.int 1))) (dCons (e1 bTuple (eVar 4)) (dNil)))))))))
def F__law_reach_k02 : Fn := ⟨2, 8, .pure, b__law_reach_k02⟩
def b__law_in : SS := sSeq (sSet 2 (e1 bLen (eComp (eVar 3) (tB (e2 oLe (eVar 3) (eVar 1))) (.nm 3) [3] (iSeq (e2 oIx (eVar 0) (eC (.int 1))))))) (sRet (e2 oNe (e2 oIx (eVar 0) (eC (.int 0))) (e2 oEq
    (e2 oMod (eVar 2) (eC (.int 2))) (eC (.int 1)))))
def F__law_in : Fn := ⟨2, 4, .pure, b__law_in⟩
def b__law_points : SS := sSeq (sSet 1 (eDic (dPairs [(eC (.int 0), eC (.bl true)), (e1 oNeg (e2 oPow (eC (.int 10)) (eC (.int 59))), eC (.bl true)), (e2 oPow (eC (.int 10)) (eC (.int 59)), eC (.bl
    true))]))) (sSeq (sFor (.nm 2) (iSeq (eVar 0)) (sFor (.nm 3) (iSeq (e2 oIx (eVar 2) (eC (.int 1)))) (sFor (.nm 4) (iSeq (eTup (dCons (e1 oNeg (eC (.int 1))) (dCons (eC (.int 0)) (dCons (eC (.int
    1)) (dNil)))))) (sSetIx (eVar 1) (e2 oAdd (eVar 3) (eVar 4)) (eC (.bl true)))))) (sRet (e1 bSorted (eVar 1))))
def F__law_points : Fn := ⟨1, 5, .pure, b__law_points⟩
def b__law_long : SS := sSeq (sSet 1 (eLst (dNil))) (sSeq (sSet 2 (e2 oSub (eCall "_law_far" (dCons (eVar 0) (dCons (eC (.int 20)) (dNil)))) (e2 oMul (eC (.int 5)) (e2 oPow (eC (.int 10)) (eC (.int
    49)))))) (sSeq (sFor (.nm 3) (iRange1 (e2 bMin2 (e1 bLen (eVar 0)) (eC (.int 63)))) (sSeq (sExpr (eM1 mAppend (eVar 1) (eVar 2))) (sSet 2 (e2 oAdd (e2 oAdd (eVar 2) (eC (.int 1))) (e2 oMod (eCall
    "_law_far" (dCons (eVar 0) (dCons (e2 oAdd (eC (.int 30)) (eVar 3)) (dNil)))) (e2 oIx (eLst (dCons (eC (.int 1)) (dCons (eC (.int 3)) (dCons (e2 oPow (eC (.int 10)) (eC (.int 47))) (dNil)))))
    (eCall "_law_draw" (dCons (eVar 0) (dCons (e2 oAdd (eC (.int 100)) (eVar 3)) (dCons (eC (.int 3)) (dNil))))))))))) (sRet (eTup (dCons (e2 oEq (eCall "_law_draw" (dCons (eVar 0) (dCons (eC (.int
    21)) (dCons (eC (.int 2)) (dNil))))) (eC (.int 1))) (dCons (e1 bTuple (eVar 1)) (dNil)))))))
def F__law_long : Fn := ⟨1, 4, .pure, b__law_long⟩
def b_law_k02 : SS := sSeq (sFor (.nm 1) (iSeq (eLst (dCons (eCall "_law_reach" (dCons (eVar 0) (dCons (eC (.int 0)) (dNil)))) (dCons (eCall "_law_long" (dCons (eVar 0) (dNil))) (dNil))))) (sSeq (sSet
    2 (e2 oIx (eVar 1) (eC (.int 0)))) (sSeq (sIf (tB (e2 oNe (eCall "lies_in" (dCons (eVar 1) (dCons (e1 oNeg (e2 oPow (eC (.int 10)) (eC (.int 59)))) (dNil)))) (eVar 2))) (sRet (eC (.bl false)))
    (sNil)) (sSeq (sFor (.nm 3) (iSeq (e2 oIx (eVar 1) (eC (.int 1)))) (sSeq (sIf (tB (e2 oNe (eCall "lies_in" (dCons (eVar 1) (dCons (e2 oSub (eVar 3) (eC (.int 1))) (dNil)))) (eVar 2))) (sRet (eC
    (.bl false))) (sNil)) (sSeq (sSet 2 (eNot (eVar 2))) (sIf (tB (e2 oNe (eCall "lies_in" (dCons (eVar 1) (dCons (eVar 3) (dNil)))) (eVar 2))) (sRet (eC (.bl false))) (sNil))))) (sSeq (sIf (tB (e2
    oNe (eCall "lies_in" (dCons (eVar 1) (dCons (e2 oPow (eC (.int 10)) (eC (.int 59))) (dNil)))) (eVar 2))) (sRet (eC (.bl false))) (sNil)) (sFor (.nm 4) (iSeq (eCall "_law_points" (dCons (eLst
    (dCons (eVar 1) (dNil))) (dNil)))) (sSeq (sSet 5 (eCall "lies_in" (dCons (eVar 1) (dCons (eVar 4) (dNil))))) (sIf (tOr (tNot (tTru (e1 (bIsi .bool) (eVar 5)))) (tB (e2 oNe (eVar 5) (eCall
    "_law_in" (dCons (eVar 1) (dCons (eVar 4) (dNil))))))) (sRet (eC (.bl false))) (sNil))))))))) (sRet (eC (.bl true)))
def F_law_k02 : Fn := ⟨1, 6, .pure, b_law_k02⟩
def b_stretch_of : SS := sSeq (sIf (tAnd (tB (e2 oIs (eVar 0) (eC (.non)))) (tB (e2 oIs (eVar 1) (eC (.non))))) (sRet (eTup (dCons (eC (.bl true)) (dCons (eTup (dNil)) (dNil))))) (sNil)) (sSeq (sIf
    (tB (e2 oIs (eVar 0) (eC (.non)))) (sRet (eTup (dCons (eC (.bl true)) (dCons (eTup (dCons (eVar 1) (dNil))) (dNil))))) (sNil)) (sSeq (sIf (tB (e2 oIs (eVar 1) (eC (.non)))) (sRet (eTup (dCons (eC
    (.bl false)) (dCons (eTup (dCons (eVar 0) (dNil))) (dNil))))) (sNil)) (sSeq (sIf (tB (e2 oLe (eVar 1) (eVar 0))) (sRet (eTup (dCons (eC (.bl false)) (dCons (eTup (dNil)) (dNil))))) (sNil)) (sRet
    (eTup (dCons (eC (.bl false)) (dCons (eTup (dCons (eVar 0) (dCons (eVar 1) (dNil)))) (dNil))))))))
def F_stretch_of : Fn := ⟨2, 2, .pure, b_stretch_of⟩
def b__law_whole_k03 : SS := sRet (eAnd (e1 (bIsi .int) (eVar 0)) (eNot (e1 (bIsi .bool) (eVar 0))))
def F__law_whole_k03 : Fn := ⟨1, 1, .pure, b__law_whole_k03⟩
def b__law_is : SS := sSeq (sIf (tOr (tNot (tTru (e1 (bIsi .tuple) (eVar 0)))) (tB (e2 oNe (e1 bLen (eVar 0)) (eC (.int 2))))) (sRet (eC (.bl false))) (sNil)) (sSeq (sIf (tOr (tNot (tTru (e1 (bIsi
    .bool) (e2 oIx (eVar 0) (eC (.int 0)))))) (tNot (tTru (e1 (bIsi .tuple) (e2 oIx (eVar 0) (eC (.int 1))))))) (sRet (eC (.bl false))) (sNil)) (sSeq (sFor (.nm 1) (iSeq (e2 oIx (eVar 0) (eC (.int
    1)))) (sIf (tNot (tTru (eCall "_law_whole" (dCons (eVar 1) (dNil))))) (sRet (eC (.bl false))) (sNil))) (sRet (e2 oEq (e1 bList (e2 oIx (eVar 0) (eC (.int 1)))) (e1 bSortedSet (e2 oIx (eVar 0) (eC
    (.int 1))))))))
def F__law_is : Fn := ⟨1, 2, .pure, b__law_is⟩
def b__law_due_k03 : SS := sSeq (sSet 2 (eComp (eVar 3) (tB (e2 oIsNot (eVar 3) (eC (.non)))) (.nm 3) [3] (iSeq (eTup (dCons (eVar 0) (dCons (eVar 1) (dNil))))))) (sSeq (sIf (tAnd (tB (e2 oEq (e1 bLen
    (eVar 2)) (eC (.int 2)))) (tB (e2 oLe (eVar 1) (eVar 0)))) (sSet 2 (eLst (dNil))) (sNil)) (sRet (eTup (dCons (e2 oIs (eVar 0) (eC (.non))) (dCons (e1 bTuple (eVar 2)) (dNil))))))
def F__law_due_k03 : Fn := ⟨2, 4, .pure, b__law_due_k03⟩
def b_law_k03 : SS := sSeq (sFor (.nm 1) (iRange1 (e2 bMin2 (e1 bLen (eVar 0)) (eC (.int 63)))) (sSeq (sSet 2 (e2 oSub (eCall "_law_draw" (dCons (eVar 0) (dCons (eVar 1) (dCons (eC (.int 9))
    (dNil))))) (eC (.int 4)))) (sSeq (sSet 3 (e2 oSub (e2 oAdd (eVar 2) (eCall "_law_draw" (dCons (eVar 0) (dCons (e2 oAdd (eVar 1) (eC (.int 63))) (dCons (eC (.int 9)) (dNil)))))) (eC (.int 3))))
    (sSeq (sIf (tB (e2 oEq (eCall "_law_draw" (dCons (eVar 0) (dCons (e2 oAdd (eVar 1) (eC (.int 126))) (dCons (eC (.int 2)) (dNil))))) (eC (.int 0)))) (sSeq (sSet 2 (e2 oSub (eCall "_law_far" (dCons
    (eVar 0) (dCons (eVar 1) (dNil)))) (e2 oMul (eC (.int 5)) (e2 oPow (eC (.int 10)) (eC (.int 49)))))) (sSet 3 (e2 oSub (eCall "_law_far" (dCons (eVar 0) (dCons (e2 oAdd (eVar 1) (eC (.int 63)))
    (dNil)))) (e2 oMul (eC (.int 5)) (e2 oPow (eC (.int 10)) (eC (.int 49))))))) (sNil)) (sSeq (sSet 4 (eCall "_law_draw" (dCons (eVar 0) (dCons (e2 oAdd (eVar 1) (eC (.int 189))) (dCons (eC (.int 8))
    (dNil)))))) (sSeq (sIf (tOr (tB (e2 oEq (eVar 4) (eC (.int 0)))) (tB (e2 oEq (eVar 4) (eC (.int 2))))) (sSet 2 (eC (.non))) (sNil)) (sSeq (sIf (tOr (tB (e2 oEq (eVar 4) (eC (.int 1)))) (tB (e2 oEq
    (eVar 4) (eC (.int 2))))) (sSet 3 (eC (.non))) (sNil)) (sSeq (sSet 5 (eCall "stretch_of" (dCons (eVar 2) (dCons (eVar 3) (dNil))))) (sIf (tOr (tNot (tTru (eCall "_law_is" (dCons (eVar 5)
    (dNil))))) (tB (e2 oNe (eVar 5) (eCall "_law_due" (dCons (eVar 2) (dCons (eVar 3) (dNil))))))) (sRet (eC (.bl false))) (sNil)))))))))) (sRet (eAnd (e2 oEq (eCall "stretch_of" (dCons (eC (.non))
    (dCons (eC (.non)) (dNil)))) (eTup (dCons (eC (.bl true)) (dCons (eTup (dNil)) (dNil))))) (e2 oEq (eCall "stretch_of" (dCons (eC (.int 5)) (dCons (eC (.int 5)) (dNil)))) (eTup (dCons (eC (.bl
    false)) (dCons (eTup (dNil)) (dNil)))))))
def F_law_k03 : Fn := ⟨1, 6, .pure, b_law_k03⟩
def b__law_long_k04 : SS := sSeq (sSet 1 (eLst (dNil))) (sSeq (sSet 2 (e2 oSub (eCall "_law_far" (dCons (eVar 0) (dCons (eC (.int 80)) (dNil)))) (e2 oMul (eC (.int 5)) (e2 oPow (eC (.int 10)) (eC
    (.int 49)))))) (sSeq (sIf (tB (e2 oEq (eCall "_law_draw" (dCons (eVar 0) (dCons (eC (.int 81)) (dCons (eC (.int 2)) (dNil))))) (eC (.int 1)))) (sSet 2 (e1 oNeg (eC (.int 6)))) (sNil)) (sSeq (sFor
    (.nm 3) (iRange1 (e2 bMin2 (e1 bLen (eVar 0)) (eC (.int 63)))) (sSeq (sExpr (eM1 mAppend (eVar 1) (eVar 2))) (sSet 2 (e2 oAdd (e2 oAdd (eVar 2) (eC (.int 1))) (eCall "_law_draw" (dCons (eVar 0)
    (dCons (e2 oAdd (eC (.int 90)) (eVar 3)) (dCons (eC (.int 3)) (dNil))))))))) (sRet (eTup (dCons (e2 oEq (eCall "_law_draw" (dCons (eVar 0) (dCons (eC (.int 82)) (dCons (eC (.int 2)) (dNil))))) (eC
    (.int 1))) (dCons (e1 bTuple (eVar 1)) (dNil))))))))
def F__law_long_k04 : Fn := ⟨1, 4, .pure, b__law_long_k04⟩
def b__law_blended : SS := sSeq (sIf (tOr (tNot (tTru (eCall "_law_is" (dCons (eVar 0) (dNil))))) (tB (e2 oGt (e1 bLen (e2 oIx (eVar 0) (eC (.int 1)))) (e2 oAdd (e1 bLen (e2 oIx (eVar 1) (eC (.int
    1)))) (e1 bLen (e2 oIx (eVar 2) (eC (.int 1)))))))) (sRet (eC (.bl false))) (sNil)) (sSeq (sFor (.nm 4) (iSeq (eCall "_law_points" (dCons (eLst (dCons (eVar 1) (dCons (eVar 2) (dCons (eVar 0)
    (dNil))))) (dNil)))) (sIf (tB (e2 oNe (eCall "_law_in" (dCons (eVar 0) (dCons (eVar 4) (dNil)))) (eCall "_law_due" (dCons (eVar 3) (dCons (eCall "_law_in" (dCons (eVar 1) (dCons (eVar 4) (dNil))))
    (dCons (eCall "_law_in" (dCons (eVar 2) (dCons (eVar 4) (dNil)))) (dNil))))))) (sRet (eC (.bl false))) (sNil))) (sRet (eC (.bl true))))
def F__law_blended : Fn := ⟨4, 5, .pure, b__law_blended⟩
def b_law_k04 : SS := sSeq (sSet 1 (eLst (dCons (eC (.str "both")) (dCons (eC (.str "either")) (dCons (eC (.str "less")) (dCons (eC (.str "just")) (dNil))))))) (sSeq (sSet 2 (eCall "_law_reach" (dCons
    (eVar 0) (dCons (eC (.int 0)) (dNil))))) (sSeq (sSet 3 (eCall "_law_reach" (dCons (eVar 0) (dCons (eC (.int 20)) (dNil))))) (sSeq (sSet 4 (eCall "_law_reach" (dCons (eVar 0) (dCons (eC (.int 40))
    (dNil))))) (sSeq (sIf (tB (e2 oEq (eCall "_law_draw" (dCons (eVar 0) (dCons (eC (.int 83)) (dCons (eC (.int 4)) (dNil))))) (eC (.int 1)))) (sSet 4 (eCall "_law_long" (dCons (eVar 0) (dNil))))
    (sNil)) (sSeq (sFor (.nm 5) (iRange1 (eC (.int 4))) (sSeq (sSet 6 (eCall "blend" (dCons (eVar 2) (dCons (eVar 3) (dCons (e2 oIx (eVar 1) (eVar 5)) (dNil)))))) (sIf (tNot (tTru (eCall
    "_law_blended" (dCons (eVar 6) (dCons (eVar 2) (dCons (eVar 3) (dCons (e2 oIx (eVar 1) (eVar 5)) (dNil)))))))) (sRet (eC (.bl false))) (sNil)))) (sSeq (sSet 6 (eCall "blend" (dCons (eVar 2) (dCons
    (eVar 3) (dCons (e2 oIx (eVar 1) (eCall "_law_draw" (dCons (eVar 0) (dCons (eC (.int 60)) (dCons (eC (.int 4)) (dNil)))))) (dNil)))))) (sSeq (sSet 7 (e2 oIx (eVar 1) (eCall "_law_draw" (dCons
    (eVar 0) (dCons (eC (.int 61)) (dCons (eC (.int 4)) (dNil))))))) (sRet (eCall "_law_blended" (dCons (eCall "blend" (dCons (eVar 4) (dCons (eVar 6) (dCons (eVar 7) (dNil))))) (dCons (eVar 4) (dCons
    (eVar 6) (dCons (eVar 7) (dNil))))))))))))))
def F_law_k04 : Fn := ⟨1, 8, .pure, b_law_k04⟩
def b_is_reach : SS := sSeq (sIf (tOr (tNot (tTru (e1 (bIsi .tuple) (eVar 0)))) (tB (e2 oNe (e1 bLen (eVar 0)) (eC (.int 2))))) (sRet (eC (.bl false))) (sNil)) (sSeq (sIf (tOr (tNot (tTru (e1 (bIsi
    .bool) (e2 oIx (eVar 0) (eC (.int 0)))))) (tNot (tTru (e1 (bIsi .tuple) (e2 oIx (eVar 0) (eC (.int 1))))))) (sRet (eC (.bl false))) (sNil)) (sSeq (sSet 1 (eC (.non))) (sSeq (sFor (.nm 2) (iSeq (e2
    oIx (eVar 0) (eC (.int 1)))) (sSeq (sIf (tOr (tNot (tTru (e1 (bIsi .int) (eVar 2)))) (tTru (e1 (bIsi .bool) (eVar 2)))) (sRet (eC (.bl false))) (sNil)) (sSeq (sIf (tAnd (tB (e2 oIsNot (eVar 1) (eC
    (.non)))) (tB (e2 oLe (eVar 2) (eVar 1)))) (sRet (eC (.bl false))) (sNil)) (sSet 1 (eVar 2))))) (sRet (eC (.bl true))))))
def F_is_reach : Fn := ⟨1, 3, .pure, b_is_reach⟩
def b__law_put : SS := sRet (e1 bTuple (e2 oAdd (e2 oAdd (e1 bList (eSlice (eVar 0) (oNone) (oSome (eVar 1)))) (eLst (dCons (eVar 2) (dNil)))) (e1 bList (eSlice (eVar 0) (oSome (eVar 1)) (oNone)))))
def F__law_put : Fn := ⟨3, 3, .pure, b__law_put⟩
def b__law_bad : SS := sSeq (sSet 2 (eCall "_law_draw" (dCons (eVar 0) (dCons (eC (.int 20)) (dCons (eC (.int 8)) (dNil)))))) (sSeq (sSet 3 (e2 oIx (eVar 1) (eC (.int 1)))) (sSeq (sSet 4 (eCall
    "_law_draw" (dCons (eVar 0) (dCons (eC (.int 21)) (dCons (eC (.int 1000)) (dNil)))))) (sSeq (sIf (tB (e2 oEq (eVar 2) (eC (.int 0)))) (sRet (e2 oIx (eLst (dCons (eC (.non)) (dCons (eC (.int 5))
    (dCons (eC (.bl true)) (dCons (eC (.str "out")) (dCons (eTup (dNil)) (dCons (eTup (dCons (eC (.bl true)) (dNil))) (dCons (eTup (dCons (eC (.bl false)) (dCons (eTup (dNil)) (dCons (eTup (dNil))
    (dNil))))) (dCons (eLst (dCons (eC (.bl false)) (dCons (eTup (dNil)) (dNil)))) (dCons (eDic0) (dCons (eTup (dCons (eC (.bl false)) (dCons (eTup (dCons (eC (.int 1)) (dNil))) (dCons (eTup (dCons
    (eC (.int 3)) (dNil))) (dNil))))) (dNil)))))))))))) (e2 oMod (eVar 4) (eC (.int 10))))) (sNil)) (sSeq (sIf (tB (e2 oEq (eVar 2) (eC (.int 1)))) (sRet (eTup (dCons (e2 oIx (eLst (dCons (eC (.int
    0)) (dCons (eC (.int 1)) (dCons (eC (.non)) (dCons (eC (.str "in")) (dCons (eTup (dCons (eC (.bl true)) (dNil))) (dNil))))))) (e2 oMod (eVar 4) (eC (.int 5)))) (dCons (eVar 3) (dNil))))) (sNil))
    (sSeq (sIf (tB (e2 oEq (eVar 2) (eC (.int 2)))) (sRet (eTup (dCons (e2 oIx (eVar 1) (eC (.int 0))) (dCons (e2 oIx (eLst (dCons (e1 bList (eVar 3)) (dCons (eC (.non)) (dCons (eC (.int 3)) (dCons
    (eC (.str "")) (dCons (eC (.bl true)) (dNil))))))) (e2 oMod (eVar 4) (eC (.int 5)))) (dNil))))) (sNil)) (sSeq (sIf (tAnd (tB (e2 oLt (eVar 2) (eC (.int 5)))) (tB (e2 oGt (e1 bLen (eVar 3)) (eC
    (.int 0))))) (sSeq (sSet 5 (e2 oMod (eVar 4) (e1 bLen (eVar 3)))) (sRet (eTup (dCons (e2 oIx (eVar 1) (eC (.int 0))) (dCons (eCall "_law_put" (dCons (eVar 3) (dCons (eVar 5) (dCons (e2 oIx (eVar
    3) (eVar 5)) (dNil))))) (dNil)))))) (sNil)) (sSeq (sIf (tAnd (tB (e2 oLt (eVar 2) (eC (.int 7)))) (tB (e2 oGt (e1 bLen (eVar 3)) (eC (.int 0))))) (sSeq (sSet 5 (e2 oAdd (eC (.int 1)) (e2 oMod
    (eVar 4) (e1 bLen (eVar 3))))) (sRet (eTup (dCons (e2 oIx (eVar 1) (eC (.int 0))) (dCons (eCall "_law_put" (dCons (eVar 3) (dCons (eVar 5) (dCons (e2 oSub (e2 oSub (e2 oIx (eVar 3) (e2 oSub (eVar
    5) (eC (.int 1)))) (eC (.int 1))) (e2 oMod (eCall "_law_far" (dCons (eVar 0) (dCons (eC (.int 22)) (dNil)))) (eC (.int 5)))) (dNil))))) (dNil)))))) (sNil)) (sSeq (sSet 5 (e2 oMod (eVar 4) (e2 oAdd
    (e1 bLen (eVar 3)) (eC (.int 1))))) (sRet (eTup (dCons (e2 oIx (eVar 1) (eC (.int 0))) (dCons (eCall "_law_put" (dCons (eVar 3) (dCons (eVar 5) (dCons (e2 oIx (eLst (dCons (eC (.non)) (dCons (eC
    (.bl true)) (dCons (eC (.str "3")) (dCons (eTup (dCons (eC (.int 3)) (dNil))) (dCons (eLst (dCons (eC (.int 3)) (dNil))) (dCons (eC (.bl false)) (dNil)))))))) (e2 oMod (e2 oDiv (eVar 4) (eC (.int
    50))) (eC (.int 6)))) (dNil))))) (dNil)))))))))))))
def F__law_bad : Fn := ⟨2, 6, .keep, b__law_bad⟩
def b_law_k05 : SS := sSeq (sSet 1 (eCall "_law_reach" (dCons (eVar 0) (dCons (eC (.int 0)) (dNil))))) (sSeq (sIf (tOr (tB (e2 oIsNot (eCall "is_reach" (dCons (eVar 1) (dNil))) (eC (.bl true)))) (tB
    (e2 oIsNot (eCall "is_reach" (dCons (eCall "_law_bad" (dCons (eVar 0) (dCons (eVar 1) (dNil)))) (dNil))) (eC (.bl false))))) (sRet (eC (.bl false))) (sNil)) (sRet (e2 oIs (eCall "is_reach" (dCons
    (eVar 1) (dNil))) (eC (.bl true)))))
def F_law_k05 : Fn := ⟨1, 2, .pure, b_law_k05⟩
def b_runs_of : SS := sSeq (sSet 1 (e1 bList (e2 oIx (eVar 0) (eC (.int 1))))) (sSeq (sIf (tTru (e2 oIx (eVar 0) (eC (.int 0)))) (sExpr (eM2 mInsert (eVar 1) (eC (.int 0)) (eC (.non)))) (sNil)) (sSeq
    (sIf (tB (e2 oEq (e2 oMod (e1 bLen (eVar 1)) (eC (.int 2))) (eC (.int 1)))) (sExpr (eM1 mAppend (eVar 1) (eC (.non)))) (sNil)) (sRet (eComp (eTup (dCons (e2 oIx (eVar 1) (eVar 2)) (dCons (e2 oIx
    (eVar 1) (e2 oAdd (eVar 2) (eC (.int 1)))) (dNil)))) (tYes) (.nm 2) [2] (iRange3 (eC (.int 0)) (e1 bLen (eVar 1)) (eC (.int 2)))))))
def F_runs_of : Fn := ⟨1, 3, .pure, b_runs_of⟩
def b__law_due_k06 : SS := sSeq (sSet 1 (eLst (dNil))) (sSeq (sSet 2 (e2 oIx (eVar 0) (eC (.int 0)))) (sSeq (sSet 3 (eC (.non))) (sSeq (sFor (.nm 4) (iSeq (e2 oIx (eVar 0) (eC (.int 1)))) (sSeq (sIf
    (tTru (eVar 2)) (sExpr (eM1 mAppend (eVar 1) (eTup (dCons (eVar 3) (dCons (eVar 4) (dNil)))))) (sNil)) (sSeq (sSet 2 (eNot (eVar 2))) (sSet 3 (eVar 4))))) (sSeq (sIf (tTru (eVar 2)) (sExpr (eM1
    mAppend (eVar 1) (eTup (dCons (eVar 3) (dCons (eC (.non)) (dNil)))))) (sNil)) (sRet (eVar 1))))))
def F__law_due_k06 : Fn := ⟨1, 5, .pure, b__law_due_k06⟩
def b__law_pairs_k06 : SS := sSeq (sIf (tOr (tNot (tTru (e1 (bIsi .list) (eVar 0)))) (tB (e2 oNe (e1 bLen (eVar 0)) (e1 bLen (eVar 1))))) (sRet (eC (.bl false))) (sNil)) (sSeq (sFor (.nm 2) (iSeq
    (eVar 0)) (sSeq (sIf (tOr (tNot (tTru (e1 (bIsi .tuple) (eVar 2)))) (tB (e2 oNe (e1 bLen (eVar 2)) (eC (.int 2))))) (sRet (eC (.bl false))) (sNil)) (sFor (.nm 3) (iSeq (eVar 2)) (sIf (tAnd (tB (e2
    oIsNot (eVar 3) (eC (.non)))) (tNot (tTru (eCall "_law_whole" (dCons (eVar 3) (dNil)))))) (sRet (eC (.bl false))) (sNil))))) (sRet (e2 oEq (eVar 0) (eVar 1))))
def F__law_pairs_k06 : Fn := ⟨2, 4, .pure, b__law_pairs_k06⟩
def b__law_within : SS := sSeq (sFor (.tp [2, 3]) (iSeq (eVar 0)) (sIf (tAnd (tOr (tB (e2 oIs (eVar 2) (eC (.non)))) (tB (e2 oLe (eVar 2) (eVar 1)))) (tOr (tB (e2 oIs (eVar 3) (eC (.non)))) (tB (e2
    oLt (eVar 1) (eVar 3))))) (sRet (eC (.bl true))) (sNil))) (sRet (eC (.bl false)))
def F__law_within : Fn := ⟨2, 4, .pure, b__law_within⟩
def b_law_k06 : SS := sSeq (sFor (.nm 1) (iSeq (eLst (dCons (eCall "_law_reach" (dCons (eVar 0) (dCons (eC (.int 0)) (dNil)))) (dCons (eCall "_law_long" (dCons (eVar 0) (dNil))) (dNil))))) (sSeq (sSet
    2 (eCall "runs_of" (dCons (eVar 1) (dNil)))) (sSeq (sIf (tNot (tTru (eCall "_law_pairs" (dCons (eVar 2) (dCons (eCall "_law_due" (dCons (eVar 1) (dNil))) (dNil)))))) (sRet (eC (.bl false)))
    (sNil)) (sFor (.nm 3) (iSeq (eSlice (eCall "_law_points" (dCons (eLst (dCons (eVar 1) (dNil))) (dNil))) (oNone) (oSome (eC (.int 60))))) (sIf (tB (e2 oNe (eCall "_law_within" (dCons (eVar 2)
    (dCons (eVar 3) (dNil)))) (eCall "_law_in" (dCons (eVar 1) (dCons (eVar 3) (dNil)))))) (sRet (eC (.bl false))) (sNil)))))) (sRet (eC (.bl true)))
def F_law_k06 : Fn := ⟨1, 4, .pure, b_law_k06⟩
def b_parting : SS := sSeq (sSet 2 (eCall "blend" (dCons (eVar 0) (dCons (eVar 1) (dCons (eC (.str "just")) (dNil)))))) (sSeq (sIf (tB (e2 oEq (eVar 0) (eVar 1))) (sRet (eC (.non))) (sNil)) (sSeq (sIf
    (tNot (tTru (e2 oIx (eVar 2) (eC (.int 0))))) (sRet (e2 oIx (e2 oIx (eVar 2) (eC (.int 1))) (eC (.int 0)))) (sNil)) (sSeq (sIf (tB (e2 oEq (e2 oIx (eVar 2) (eC (.int 1))) (eTup (dNil)))) (sRet (eC
    (.int 0))) (sNil)) (sRet (e2 oSub (e2 oIx (e2 oIx (eVar 2) (eC (.int 1))) (eC (.int 0))) (eC (.int 1)))))))
def F_parting : Fn := ⟨2, 3, .pure, b_parting⟩
def b__law_near : SS := sSeq (sSet 2 (eCall "_law_draw" (dCons (eVar 0) (dCons (eC (.int 20)) (dCons (eC (.int 6)) (dNil)))))) (sSeq (sSet 3 (e1 bList (e2 oIx (eVar 1) (eC (.int 1))))) (sSeq (sIf (tB
    (e2 oEq (eVar 2) (eC (.int 0)))) (sRet (eTup (dCons (eNot (e2 oIx (eVar 1) (eC (.int 0)))) (dCons (e2 oIx (eVar 1) (eC (.int 1))) (dNil))))) (sNil)) (sSeq (sIf (tAnd (tB (e2 oEq (eVar 2) (eC (.int
    1)))) (tB (e2 oGt (e1 bLen (eVar 3)) (eC (.int 0))))) (sExpr (eM1 mPopAt (eVar 3) (eCall "_law_draw" (dCons (eVar 0) (dCons (eC (.int 21)) (dCons (e1 bLen (eVar 3)) (dNil))))))) (sNil)) (sSeq (sIf
    (tB (e2 oEq (eVar 2) (eC (.int 2)))) (sSet 3 (e1 bSortedSet (e2 oAdd (eVar 3) (eLst (dCons (e2 oSub (eCall "_law_draw" (dCons (eVar 0) (dCons (eC (.int 22)) (dCons (eC (.int 30)) (dNil))))) (eC
    (.int 10))) (dNil)))))) (sNil)) (sSeq (sIf (tB (e2 oGt (eVar 2) (eC (.int 3)))) (sRet (eCall "_law_reach" (dCons (eVar 0) (dCons (eC (.int 30)) (dNil))))) (sNil)) (sRet (eTup (dCons (e2 oIx (eVar
    1) (eC (.int 0))) (dCons (e1 bTuple (eVar 3)) (dNil))))))))))
def F__law_near : Fn := ⟨2, 4, .pure, b__law_near⟩
def b__law_due_k08 : SS := sSeq (sSet 2 (eComp (eVar 3) (tB (e2 oNotIn (eVar 3) (e2 oIx (eVar 1) (eC (.int 1))))) (.nm 3) [3] (iSeq (e2 oIx (eVar 0) (eC (.int 1)))))) (sSeq (sSet 2 (e1 bSorted (e2
    oAdd (eVar 2) (eComp (eVar 3) (tB (e2 oNotIn (eVar 3) (e2 oIx (eVar 0) (eC (.int 1))))) (.nm 3) [3] (iSeq (e2 oIx (eVar 1) (eC (.int 1)))))))) (sSeq (sIf (tB (e2 oEq (e2 oIx (eVar 0) (eC (.int
    0))) (e2 oIx (eVar 1) (eC (.int 0))))) (sRet (e2 oIx (eVar 2) (eC (.int 0)))) (sNil)) (sSeq (sIf (tB (e2 oEq (eVar 2) (eLst (dNil)))) (sRet (eC (.int 0))) (sNil)) (sRet (e2 oSub (e2 oIx (eVar 2)
    (eC (.int 0))) (eC (.int 1)))))))
def F__law_due_k08 : Fn := ⟨2, 4, .pure, b__law_due_k08⟩
def b_law_k08 : SS := sSeq (sSet 1 (eCall "_law_reach" (dCons (eVar 0) (dCons (eC (.int 0)) (dNil))))) (sSeq (sSet 2 (eCall "_law_near" (dCons (eVar 0) (dCons (eVar 1) (dNil))))) (sSeq (sFor (.nm 3)
    (iSeq (eLst (dCons (eTup (dCons (eVar 1) (dCons (eVar 2) (dNil)))) (dCons (eTup (dCons (eVar 2) (dCons (eVar 1) (dNil)))) (dNil))))) (sSeq (sSet 4 (eCall "parting" (dCons (e2 oIx (eVar 3) (eC
    (.int 0))) (dCons (e2 oIx (eVar 3) (eC (.int 1))) (dNil))))) (sIf (tB (e2 oEq (eVar 1) (eVar 2))) (sIf (tB (e2 oIsNot (eVar 4) (eC (.non)))) (sRet (eC (.bl false))) (sNil)) (sIf (tOr (tNot (tTru
    (eCall "_law_whole" (dCons (eVar 4) (dNil))))) (tB (e2 oNe (eVar 4) (eCall "_law_due" (dCons (eVar 1) (dCons (eVar 2) (dNil))))))) (sRet (eC (.bl false))) (sIf (tB (e2 oEq (eCall "_law_in" (dCons
    (eVar 1) (dCons (eVar 4) (dNil)))) (eCall "_law_in" (dCons (eVar 2) (dCons (eVar 4) (dNil)))))) (sRet (eC (.bl false))) (sNil)))))) (sRet (e2 oIs (eCall "parting" (dCons (eVar 1) (dCons (eVar 1)
    (dNil)))) (eC (.non))))))
def F_law_k08 : Fn := ⟨1, 5, .pure, b_law_k08⟩
def b_reach_at : SS := sSeq (sSet 2 (e2 oIx (eVar 0) (eC (.int 0)))) (sSeq (sFor (.tp [3, 4]) (iSeq (e2 oIx (eVar 0) (eC (.int 1)))) (sIf (tB (e2 oLe (eVar 3) (eVar 1))) (sSet 2 (eVar 4)) (sNil)))
    (sRet (eVar 2)))
def F_reach_at : Fn := ⟨2, 5, .pure, b_reach_at⟩
def b_lies_at : SS := sRet (eCall "lies_in" (dCons (eCall "reach_at" (dCons (eVar 0) (dCons (eVar 2) (dNil)))) (dCons (eVar 1) (dNil))))
def F_lies_at : Fn := ⟨3, 3, .pure, b_lies_at⟩
def b_turns_of : SS := sRet (eComp (e2 oIx (eVar 1) (eC (.int 0))) (tYes) (.nm 1) [1] (iSeq (e2 oIx (eVar 0) (eC (.int 1)))))
def F_turns_of : Fn := ⟨1, 2, .pure, b_turns_of⟩
def b_days_of : SS := sSeq (sSet 1 (e1 bList (e2 oIx (e2 oIx (eVar 0) (eC (.int 0))) (eC (.int 1))))) (sSeq (sFor (.tp [2, 3]) (iSeq (e2 oIx (eVar 0) (eC (.int 1)))) (sSet 1 (e2 oAdd (eVar 1) (e1
    bList (e2 oIx (eVar 3) (eC (.int 1))))))) (sRet (e1 bSortedSet (eVar 1))))
def F_days_of : Fn := ⟨1, 4, .pure, b_days_of⟩
def b__law_cell : SS := sSeq (sIf (tB (e2 oLt (eVar 1) (e1 bLen (eVar 0)))) (sRet (e2 oIx (eVar 0) (eVar 1))) (sNil)) (sRet (eC (.int 0)))
def F__law_cell : Fn := ⟨2, 2, .pure, b__law_cell⟩
def b__law_whole : SS := sRet (eAnd (e1 (bIsi .int) (eVar 0)) (eNot (e1 (bIsi .bool) (eVar 0))))
def F__law_whole : Fn := ⟨1, 1, .pure, b__law_whole⟩
def b__law_stir : SS := sSeq (sSet 2 (e2 oMod (e2 oMul (e2 oAdd (e2 oMod (eVar 0) (eC (.int 2147483647))) (eC (.int 1))) (eVar 1)) (eC (.int 2147483647)))) (sRet (e2 oMod (e2 oMul (eVar 2) (eVar 2))
    (eC (.int 2147483629))))
def F__law_stir : Fn := ⟨2, 3, .pure, b__law_stir⟩
def b__law_reach_k09 : SS := sSeq (sSet 4 (eCall "_law_stir" (dCons (eVar 0) (dCons (eVar 1) (dNil))))) (sSeq (sSet 5 (eLst (dNil))) (sSeq (sFor (.nm 6) (iRange1 (eC (.int 6))) (sSeq (sSet 4 (e2 oDiv
    (eVar 4) (eC (.int 3)))) (sIf (tB (e2 oEq (e2 oMod (eVar 4) (eC (.int 3))) (eC (.int 0)))) (sExpr (eM1 mAppend (eVar 5) (e2 oAdd (eVar 3) (e2 oMul (e2 oSub (eVar 6) (eC (.int 2))) (eVar 2)))))
    (sNil)))) (sRet (eTup (dCons (e2 oEq (e2 oMod (eCall "_law_stir" (dCons (eVar 0) (dCons (eVar 1) (dNil)))) (eC (.int 2))) (eC (.int 1))) (dCons (e1 bTuple (eVar 5)) (dNil)))))))
def F__law_reach_k09 : Fn := ⟨4, 7, .pure, b__law_reach_k09⟩
def b__law_plot_k09 : SS := sSeq (sSet 4 (eTup (dCons (eC (.bl false)) (dCons (eTup (dNil)) (dNil))))) (sSeq (sFor (.nm 5) (iSeq (eSlice (eVar 0) (oNone) (oSome (eC (.int 1))))) (sIf (tB (e2 oEq (e2
    oMod (e2 oDiv (eCall "_law_stir" (dCons (eVar 5) (dCons (eC (.int 39373)) (dNil)))) (eC (.int 11))) (eC (.int 3))) (eC (.int 0)))) (sSet 4 (eCall "_law_reach" (dCons (eVar 5) (dCons (eC (.int
    40014)) (dCons (eVar 2) (dCons (eVar 3) (dNil))))))) (sNil))) (sSeq (sSet 6 (eVar 4)) (sSeq (sSet 7 (eLst (dNil))) (sSeq (sSet 8 (e2 oMul (e1 oNeg (eC (.int 3))) (eVar 2))) (sSeq (sFor (.nm 5)
    (iSeq (eVar 0)) (sSeq (sSet 8 (e2 oAdd (eVar 8) (e2 oMul (e2 oAdd (eC (.int 1)) (e2 oMod (e2 oDiv (eCall "_law_stir" (dCons (eVar 5) (dCons (e2 oAdd (eVar 1) (eC (.int 2))) (dNil)))) (eC (.int
    7))) (eC (.int 3)))) (eVar 2)))) (sSeq (sSet 9 (eCall "_law_reach" (dCons (eVar 5) (dCons (eVar 1) (dCons (eVar 2) (dCons (eVar 3) (dNil))))))) (sSeq (sIf (tB (e2 oNe (eVar 9) (eVar 4))) (sExpr
    (eM1 mAppend (eVar 7) (eTup (dCons (eVar 8) (dCons (eVar 9) (dNil)))))) (sNil)) (sSet 4 (eVar 9)))))) (sRet (eTup (dCons (eVar 6) (dCons (e1 bTuple (eVar 7)) (dNil))))))))))
def F__law_plot_k09 : Fn := ⟨4, 10, .pure, b__law_plot_k09⟩
def b__law_scale : SS := sRet (eTup (dCons (e2 oIx (eLst (dCons (eC (.int 1)) (dCons (eC (.int 1)) (dCons (eC (.int 2)) (dCons (e2 oPow (eC (.int 10)) (eC (.int 50))) (dNil)))))) (e2 oMod (eVar 0) (eC
    (.int 4)))) (dCons (e2 oIx (eLst (dCons (eC (.int 0)) (dCons (eC (.int 0)) (dCons (e2 oMod (eVar 0) (e2 oPow (eC (.int 10)) (eC (.int 50)))) (dCons (e2 oSub (eC (.int 0)) (e2 oMod (eVar 0) (e2
    oPow (eC (.int 10)) (eC (.int 50))))) (dNil)))))) (e2 oMod (e2 oDiv (eVar 0) (eC (.int 4))) (eC (.int 4)))) (dNil))))
def F__law_scale : Fn := ⟨1, 1, .pure, b__law_scale⟩
def b__law_in_k09 : SS := sRet (e2 oNe (e2 oIx (eVar 0) (eC (.int 0))) (e2 oEq (e2 oMod (e1 bLen (eComp (eVar 2) (tB (e2 oLe (eVar 2) (eVar 1))) (.nm 2) [2] (iSeq (e2 oIx (eVar 0) (eC (.int 1))))))
    (eC (.int 2))) (eC (.int 1))))
def F__law_in_k09 : Fn := ⟨2, 3, .pure, b__law_in_k09⟩
def b__law_at_k09 : SS := sSeq (sSet 2 (e2 oIx (eVar 0) (eC (.int 0)))) (sSeq (sFor (.tp [3, 4]) (iSeq (e2 oIx (eVar 0) (eC (.int 1)))) (sIf (tB (e2 oLe (eVar 3) (eVar 1))) (sSet 2 (eVar 4)) (sNil)))
    (sRet (eVar 2)))
def F__law_at_k09 : Fn := ⟨2, 5, .pure, b__law_at_k09⟩
def b__law_beside : SS := sSeq (sSet 1 (eLst (dCons (eC (.int 0)) (dNil)))) (sSeq (sFor (.nm 2) (iSeq (eVar 0)) (sSet 1 (e2 oAdd (eVar 1) (eLst (dCons (e2 oSub (eVar 2) (eC (.int 1))) (dCons (eVar 2)
    (dNil))))))) (sRet (e1 bSortedSet (e2 oAdd (eVar 1) (eLst (dCons (e2 oSub (e1 bMin1 (eVar 1)) (e2 oPow (eC (.int 10)) (eC (.int 55)))) (dCons (e2 oAdd (e1 bMax1 (eVar 1)) (e2 oPow (eC (.int 10))
    (eC (.int 55)))) (dNil))))))))
def F__law_beside : Fn := ⟨1, 3, .pure, b__law_beside⟩
def b__law_days : SS := sSeq (sSet 1 (eLst (dNil))) (sSeq (sFor (.nm 2) (iSeq (eVar 0)) (sSeq (sSet 1 (e2 oAdd (eVar 1) (e1 bList (e2 oIx (e2 oIx (eVar 2) (eC (.int 0))) (eC (.int 1)))))) (sFor (.tp
    [3, 4]) (iSeq (e2 oIx (eVar 2) (eC (.int 1)))) (sSet 1 (e2 oAdd (eVar 1) (e1 bList (e2 oIx (eVar 4) (eC (.int 1))))))))) (sRet (eCall "_law_beside" (dCons (e1 bSortedSet (eVar 1)) (dNil)))))
def F__law_days : Fn := ⟨1, 5, .pure, b__law_days⟩
def b__law_turns : SS := sSeq (sSet 1 (eLst (dNil))) (sSeq (sFor (.nm 2) (iSeq (eVar 0)) (sSet 1 (e2 oAdd (eVar 1) (eComp (e2 oIx (eVar 3) (eC (.int 0))) (tYes) (.nm 3) [3] (iSeq (e2 oIx (eVar 2) (eC
    (.int 1)))))))) (sRet (eCall "_law_beside" (dCons (e1 bSortedSet (eVar 1)) (dNil)))))
def F__law_turns : Fn := ⟨1, 4, .pure, b__law_turns⟩
def b__law_is_reach_k09 : SS := sSeq (sIf (tOr (tNot (tTru (e1 (bIsi .tuple) (eVar 0)))) (tOr (tB (e2 oNe (e1 bLen (eVar 0)) (eC (.int 2)))) (tNot (tTru (e1 (bIsi .bool) (e2 oIx (eVar 0) (eC (.int
    0)))))))) (sRet (eC (.bl false))) (sNil)) (sSeq (sIf (tNot (tTru (e1 (bIsi .tuple) (e2 oIx (eVar 0) (eC (.int 1)))))) (sRet (eC (.bl false))) (sNil)) (sSeq (sFor (.nm 1) (iRange1 (e1 bLen (e2 oIx
    (eVar 0) (eC (.int 1))))) (sIf (tOr (tNot (tTru (eCall "_law_whole" (dCons (e2 oIx (e2 oIx (eVar 0) (eC (.int 1))) (eVar 1)) (dNil))))) (tAnd (tB (e2 oGt (eVar 1) (eC (.int 0)))) (tB (e2 oGe (e2
    oIx (e2 oIx (eVar 0) (eC (.int 1))) (e2 oSub (eVar 1) (eC (.int 1)))) (e2 oIx (e2 oIx (eVar 0) (eC (.int 1))) (eVar 1)))))) (sRet (eC (.bl false))) (sNil))) (sRet (eC (.bl true)))))
def F__law_is_reach_k09 : Fn := ⟨1, 2, .pure, b__law_is_reach_k09⟩
def b__law_is_plot_k09 : SS := sSeq (sIf (tOr (tNot (tTru (e1 (bIsi .tuple) (eVar 0)))) (tOr (tB (e2 oNe (e1 bLen (eVar 0)) (eC (.int 2)))) (tNot (tTru (eCall "_law_is_reach" (dCons (e2 oIx (eVar 0)
    (eC (.int 0))) (dNil))))))) (sRet (eC (.bl false))) (sNil)) (sSeq (sIf (tNot (tTru (e1 (bIsi .tuple) (e2 oIx (eVar 0) (eC (.int 1)))))) (sRet (eC (.bl false))) (sNil)) (sSeq (sSet 1 (e2 oIx (eVar
    0) (eC (.int 0)))) (sSeq (sFor (.nm 2) (iRange1 (e1 bLen (e2 oIx (eVar 0) (eC (.int 1))))) (sSeq (sSet 3 (e2 oIx (e2 oIx (eVar 0) (eC (.int 1))) (eVar 2))) (sSeq (sIf (tOr (tNot (tTru (e1 (bIsi
    .tuple) (eVar 3)))) (tOr (tB (e2 oNe (e1 bLen (eVar 3)) (eC (.int 2)))) (tOr (tNot (tTru (eCall "_law_whole" (dCons (e2 oIx (eVar 3) (eC (.int 0))) (dNil))))) (tNot (tTru (eCall "_law_is_reach"
    (dCons (e2 oIx (eVar 3) (eC (.int 1))) (dNil)))))))) (sRet (eC (.bl false))) (sNil)) (sSeq (sIf (tOr (tB (e2 oEq (e2 oIx (eVar 3) (eC (.int 1))) (eVar 1))) (tAnd (tB (e2 oGt (eVar 2) (eC (.int
    0)))) (tB (e2 oGe (e2 oIx (e2 oIx (e2 oIx (eVar 0) (eC (.int 1))) (e2 oSub (eVar 2) (eC (.int 1)))) (eC (.int 0))) (e2 oIx (eVar 3) (eC (.int 0))))))) (sRet (eC (.bl false))) (sNil)) (sSet 1 (e2
    oIx (eVar 3) (eC (.int 1)))))))) (sRet (eC (.bl true))))))
def F__law_is_plot_k09 : Fn := ⟨1, 4, .pure, b__law_is_plot_k09⟩
def b__law_numbers : SS := sSeq (sIf (tOr (tNot (tTru (e1 (bIsi .list) (eVar 0)))) (tB (e2 oNe (eComp (eVar 2) (tNot (tTru (eCall "_law_whole" (dCons (eVar 2) (dNil))))) (.nm 2) [2] (iSeq (eVar 0)))
    (eLst (dNil))))) (sRet (eC (.bl false))) (sNil)) (sRet (e2 oEq (eVar 0) (eVar 1)))
def F__law_numbers : Fn := ⟨2, 3, .pure, b__law_numbers⟩
def b__law_edges : SS := sSeq (sSet 1 (e1 bList (e2 oIx (e2 oIx (eVar 0) (eC (.int 0))) (eC (.int 1))))) (sSeq (sFor (.tp [2, 3]) (iSeq (e2 oIx (eVar 0) (eC (.int 1)))) (sSet 1 (e2 oAdd (eVar 1) (e1
    bList (e2 oIx (eVar 3) (eC (.int 1))))))) (sRet (e1 bSortedSet (eVar 1))))
def F__law_edges : Fn := ⟨1, 4, .pure, b__law_edges⟩
def b_law_k09 : SS := sSeq (sUnp [1, 2] (eCall "_law_scale" (dCons (eCall "_law_cell" (dCons (eVar 0) (dCons (eC (.int 0)) (dNil)))) (dNil)))) (sSeq (sSet 3 (eCall "_law_plot" (dCons (eSlice (eVar 0)
    (oSome (eC (.int 1))) (oSome (eC (.int 21)))) (dCons (eC (.int 48271)) (dCons (eVar 1) (dCons (eVar 2) (dNil))))))) (sSeq (sSet 4 (eCall "_law_days" (dCons (eLst (dCons (eVar 3) (dNil))) (dNil))))
    (sSeq (sFor (.nm 5) (iSeq (eCall "_law_turns" (dCons (eLst (dCons (eVar 3) (dNil))) (dNil)))) (sSeq (sSet 6 (eCall "_law_at" (dCons (eVar 3) (dCons (eVar 5) (dNil))))) (sSeq (sSet 7 (eCall
    "reach_at" (dCons (eVar 3) (dCons (eVar 5) (dNil))))) (sSeq (sIf (tOr (tNot (tTru (eCall "_law_is_reach" (dCons (eVar 7) (dNil))))) (tB (e2 oNe (eVar 7) (eVar 6)))) (sRet (eC (.bl false))) (sNil))
    (sFor (.nm 8) (iSeq (eVar 4)) (sSeq (sSet 9 (eCall "lies_at" (dCons (eVar 3) (dCons (eVar 8) (dCons (eVar 5) (dNil)))))) (sIf (tOr (tNot (tTru (e1 (bIsi .bool) (eVar 9)))) (tB (e2 oNe (eVar 9)
    (eCall "_law_in" (dCons (eVar 6) (dCons (eVar 8) (dNil))))))) (sRet (eC (.bl false))) (sNil)))))))) (sSeq (sSet 7 (eCall "turns_of" (dCons (eVar 3) (dNil)))) (sSeq (sIf (tOr (tNot (tTru (eCall
    "_law_numbers" (dCons (eVar 7) (dCons (eComp (e2 oIx (eVar 10) (eC (.int 0))) (tYes) (.nm 10) [10] (iSeq (e2 oIx (eVar 3) (eC (.int 1))))) (dNil)))))) (tNot (tTru (eCall "_law_numbers" (dCons
    (eCall "days_of" (dCons (eVar 3) (dNil))) (dCons (eCall "_law_edges" (dCons (eVar 3) (dNil))) (dNil))))))) (sRet (eC (.bl false))) (sNil)) (sSeq (sExpr (eM1 mAppend (eVar 7) (eC (.int 0)))) (sSeq
    (sExpr (eN1 mAppend (eCall "days_of" (dCons (eVar 3) (dNil))) (eC (.int 0)))) (sRet (eAnd (e2 oEq (eCall "turns_of" (dCons (eVar 3) (dNil))) (eComp (e2 oIx (eVar 10) (eC (.int 0))) (tYes) (.nm 10)
    [10] (iSeq (e2 oIx (eVar 3) (eC (.int 1)))))) (e2 oEq (eCall "days_of" (dCons (eVar 3) (dNil))) (eCall "_law_edges" (dCons (eVar 3) (dNil)))))))))))))
def F_law_k09 : Fn := ⟨1, 11, .pure, b_law_k09⟩
def b_plot_of : SS := sSeq (sSet 2 (eLst (dNil))) (sSeq (sSet 3 (eVar 0)) (sSeq (sFor (.tp [4, 5]) (iSeq (eVar 1)) (sIf (tB (e2 oNe (eVar 5) (eVar 3))) (sSeq (sExpr (eM1 mAppend (eVar 2) (eTup (dCons
    (eVar 4) (dCons (eVar 5) (dNil)))))) (sSet 3 (eVar 5))) (sNil))) (sRet (eTup (dCons (eVar 0) (dCons (e1 bTuple (eVar 2)) (dNil)))))))
def F_plot_of : Fn := ⟨2, 6, .pure, b_plot_of⟩
def b__law_pairs_k10 : SS := sSeq (sSet 4 (eLst (dNil))) (sSeq (sSet 5 (eVar 1)) (sSeq (sSet 6 (e2 oMul (e1 oNeg (eC (.int 3))) (eVar 2))) (sSeq (sFor (.nm 7) (iSeq (eVar 0)) (sSeq (sSet 6 (e2 oAdd
    (eVar 6) (e2 oMul (e2 oAdd (eC (.int 1)) (e2 oMod (e2 oDiv (eCall "_law_stir" (dCons (eVar 7) (dCons (eC (.int 40014)) (dNil)))) (eC (.int 7))) (eC (.int 3)))) (eVar 2)))) (sSeq (sIf (tB (e2 oGt
    (e2 oMod (e2 oDiv (eCall "_law_stir" (dCons (eVar 7) (dCons (eC (.int 69621)) (dNil)))) (eC (.int 5))) (eC (.int 3))) (eC (.int 0)))) (sSet 5 (eCall "_law_reach" (dCons (eVar 7) (dCons (eC (.int
    48271)) (dCons (eVar 2) (dCons (eVar 3) (dNil))))))) (sNil)) (sExpr (eM1 mAppend (eVar 4) (eTup (dCons (eVar 6) (dCons (eVar 5) (dNil))))))))) (sRet (eVar 4)))))
def F__law_pairs_k10 : Fn := ⟨4, 8, .pure, b__law_pairs_k10⟩
def b__law_due_k10 : SS := sSeq (sSet 2 (eLst (dNil))) (sSeq (sFor (.nm 3) (iRange1 (e1 bLen (eVar 1))) (sSeq (sSet 4 (eVar 0)) (sSeq (sIf (tB (e2 oGt (eVar 3) (eC (.int 0)))) (sSet 4 (e2 oIx (e2 oIx
    (eVar 1) (e2 oSub (eVar 3) (eC (.int 1)))) (eC (.int 1)))) (sNil)) (sIf (tB (e2 oNe (e2 oIx (e2 oIx (eVar 1) (eVar 3)) (eC (.int 1))) (eVar 4))) (sExpr (eM1 mAppend (eVar 2) (e2 oIx (eVar 1) (eVar
    3)))) (sNil))))) (sRet (eTup (dCons (eVar 0) (dCons (e1 bTuple (eVar 2)) (dNil))))))
def F__law_due_k10 : Fn := ⟨2, 5, .pure, b__law_due_k10⟩
def b_law_k10 : SS := sSeq (sSet 1 (eCall "_law_cell" (dCons (eVar 0) (dCons (eC (.int 0)) (dNil))))) (sSeq (sUnp [2, 3] (eCall "_law_scale" (dCons (eVar 1) (dNil)))) (sSeq (sSet 4 (eCall "_law_reach"
    (dCons (eVar 1) (dCons (eC (.int 16807)) (dCons (eVar 2) (dCons (eVar 3) (dNil))))))) (sSeq (sIf (tB (e2 oEq (e2 oMod (e2 oDiv (eVar 1) (eC (.int 16))) (eC (.int 2))) (eC (.int 0)))) (sSet 4 (eTup
    (dCons (eC (.bl false)) (dCons (eTup (dNil)) (dNil))))) (sNil)) (sSeq (sSet 5 (eCall "_law_pairs" (dCons (eSlice (eVar 0) (oSome (eC (.int 1))) (oSome (eC (.int 41)))) (dCons (eVar 4) (dCons (eVar
    2) (dCons (eVar 3) (dNil))))))) (sSeq (sSet 6 (e1 bList (eVar 5))) (sSeq (sSet 7 (eCall "plot_of" (dCons (eVar 4) (dCons (eVar 6) (dNil))))) (sSeq (sIf (tOr (tNot (tTru (eCall "_law_is_plot"
    (dCons (eVar 7) (dNil))))) (tOr (tB (e2 oNe (eVar 7) (eCall "_law_due" (dCons (eVar 4) (dCons (eVar 5) (dNil)))))) (tB (e2 oNe (eVar 6) (eVar 5))))) (sRet (eC (.bl false))) (sNil)) (sSeq (sExpr
    (eM0 mClear (eVar 6))) (sSeq (sFor (.tp [8, 9]) (iSeq (eVar 5)) (sIf (tB (e2 oNe (eCall "reach_at" (dCons (eVar 7) (dCons (eVar 8) (dNil)))) (eVar 9))) (sRet (eC (.bl false))) (sNil))) (sRet (eAnd
    (e2 oEq (eCall "plot_of" (dCons (eVar 4) (dCons (eLst (dNil)) (dNil)))) (eTup (dCons (eVar 4) (dCons (eTup (dNil)) (dNil))))) (e2 oEq (eCall "plot_of" (dCons (eVar 4) (dCons (e1 bList (e2 oIx
    (eVar 7) (eC (.int 1)))) (dNil)))) (eVar 7)))))))))))))
def F_law_k10 : Fn := ⟨1, 10, .pure, b_law_k10⟩
def b_blend_plots : SS := sSeq (sSet 3 (eLst (dNil))) (sSeq (sFor (.nm 4) (iSeq (e1 bSortedSet (e2 oAdd (eCall "turns_of" (dCons (eVar 0) (dNil))) (eCall "turns_of" (dCons (eVar 1) (dNil)))))) (sExpr
    (eM1 mAppend (eVar 3) (eTup (dCons (eVar 4) (dCons (eCall "blend" (dCons (eCall "reach_at" (dCons (eVar 0) (dCons (eVar 4) (dNil)))) (dCons (eCall "reach_at" (dCons (eVar 1) (dCons (eVar 4)
    (dNil)))) (dCons (eVar 2) (dNil))))) (dNil))))))) (sRet (eCall "plot_of" (dCons (eCall "blend" (dCons (e2 oIx (eVar 0) (eC (.int 0))) (dCons (e2 oIx (eVar 1) (eC (.int 0))) (dCons (eVar 2)
    (dNil))))) (dCons (eVar 3) (dNil))))))
def F_blend_plots : Fn := ⟨3, 5, .pure, b_blend_plots⟩
def b__law_word : SS := sSeq (sIf (tB (e2 oEq (eVar 0) (eC (.str "both")))) (sRet (eAnd (eVar 1) (eVar 2))) (sNil)) (sSeq (sIf (tB (e2 oEq (eVar 0) (eC (.str "either")))) (sRet (eOr (eVar 1) (eVar
    2))) (sNil)) (sSeq (sIf (tB (e2 oEq (eVar 0) (eC (.str "less")))) (sRet (eAnd (eVar 1) (eNot (eVar 2)))) (sNil)) (sRet (e2 oNe (eVar 1) (eVar 2)))))
def F__law_word : Fn := ⟨3, 3, .pure, b__law_word⟩
def b__law_right : SS := sSeq (sSet 3 (eCall "blend_plots" (dCons (eVar 0) (dCons (eVar 1) (dCons (eVar 2) (dNil)))))) (sSeq (sIf (tNot (tTru (eCall "_law_is_plot" (dCons (eVar 3) (dNil))))) (sRet (eC
    (.bl false))) (sNil)) (sSeq (sSet 4 (eCall "_law_days" (dCons (eLst (dCons (eVar 0) (dCons (eVar 1) (dNil)))) (dNil)))) (sSeq (sFor (.nm 5) (iSeq (eCall "_law_turns" (dCons (eLst (dCons (eVar 0)
    (dCons (eVar 1) (dNil)))) (dNil)))) (sSeq (sSet 6 (eCall "_law_at" (dCons (eVar 3) (dCons (eVar 5) (dNil))))) (sSeq (sSet 7 (eCall "_law_at" (dCons (eVar 0) (dCons (eVar 5) (dNil))))) (sSeq (sSet
    8 (eCall "_law_at" (dCons (eVar 1) (dCons (eVar 5) (dNil))))) (sFor (.nm 9) (iSeq (eVar 4)) (sIf (tB (e2 oNe (eCall "_law_in" (dCons (eVar 6) (dCons (eVar 9) (dNil)))) (eCall "_law_word" (dCons
    (eVar 2) (dCons (eCall "_law_in" (dCons (eVar 7) (dCons (eVar 9) (dNil)))) (dCons (eCall "_law_in" (dCons (eVar 8) (dCons (eVar 9) (dNil)))) (dNil))))))) (sRet (eC (.bl false))) (sNil))))))) (sRet
    (eC (.bl true))))))
def F__law_right : Fn := ⟨3, 10, .pure, b__law_right⟩
def b__law_refused_k11 : SS := sSeq (sSet 3 (eLst (dNil))) (sSeq (sTry (some 4) (sExpr (eCall "blend_plots" (dCons (eVar 0) (dCons (eVar 1) (dCons (eVar 2) (dNil)))))) (catX exsAll "HeldError") (suSem
    exsAll [.one 5 (.isi false ["NoColumn", "NoStretch", "NoTable", "NoText", "NoTurn", "NoWidth"]), .lst 3 false [.isi false ["NoWord"], .isi false ["ValueError"], .var 5]])) (sRet (e2 oEq (eVar 3)
    (eLst (dCons (eC (.bl true)) (dCons (eC (.bl true)) (dCons (eC (.bl false)) (dNil))))))))
def F__law_refused_k11 : Fn := ⟨3, 6, .pure, b__law_refused_k11⟩
def b__law_turned_over : SS := sRet (eTup (dCons (eTup (dCons (eNot (e2 oIx (e2 oIx (eVar 0) (eC (.int 0))) (eC (.int 0)))) (dCons (e2 oIx (e2 oIx (eVar 0) (eC (.int 0))) (eC (.int 1))) (dNil))))
    (dCons (e1 bTuple (eComp (eTup (dCons (eVar 1) (dCons (eTup (dCons (eNot (e2 oIx (eVar 2) (eC (.int 0)))) (dCons (e2 oIx (eVar 2) (eC (.int 1))) (dNil)))) (dNil)))) (tYes) (.tp [1, 2]) [1, 2]
    (iSeq (e2 oIx (eVar 0) (eC (.int 1)))))) (dNil))))
def F__law_turned_over : Fn := ⟨1, 3, .pure, b__law_turned_over⟩
def b_law_k11 : SS := sSeq (sSet 1 (eCall "_law_cell" (dCons (eVar 0) (dCons (eC (.int 0)) (dNil))))) (sSeq (sUnp [2, 3] (eCall "_law_scale" (dCons (eVar 1) (dNil)))) (sSeq (sSet 4 (eSlice (eVar 0)
    (oSome (eC (.int 1))) (oSome (eC (.int 17))))) (sSeq (sSet 5 (eCall "_law_plot" (dCons (eStep (eVar 4) (oNone) (oNone) 2) (dCons (eC (.int 48271)) (dCons (eVar 2) (dCons (eVar 3) (dNil)))))))
    (sSeq (sSet 6 (eCall "_law_plot" (dCons (eStep (eVar 4) (oSome (eC (.int 1))) (oNone) 2) (dCons (eC (.int 69621)) (dCons (eVar 2) (dCons (eVar 3) (dNil))))))) (sSeq (sIf (tB (e2 oEq (e2 oMod (e2
    oDiv (eVar 1) (eC (.int 16))) (eC (.int 6))) (eC (.int 1)))) (sSet 6 (eVar 5)) (sNil)) (sSeq (sIf (tB (e2 oEq (e2 oMod (e2 oDiv (eVar 1) (eC (.int 16))) (eC (.int 6))) (eC (.int 2)))) (sSet 6
    (eCall "_law_turned_over" (dCons (eVar 5) (dNil)))) (sNil)) (sSeq (sFor (.nm 7) (iSeq (eLst (dCons (eC (.str "both")) (dCons (eC (.str "either")) (dCons (eC (.str "less")) (dCons (eC (.str
    "just")) (dNil))))))) (sIf (tNot (tTru (eCall "_law_right" (dCons (eVar 5) (dCons (eVar 6) (dCons (eVar 7) (dNil))))))) (sRet (eC (.bl false))) (sNil))) (sSeq (sSet 8 (eLst (dCons (eC (.str ""))
    (dCons (eC (.str "Both")) (dCons (eC (.str "and")) (dCons (eC (.str "eithe")) (dCons (eC (.str "just ")) (dCons (eC (.str "not")) (dCons (eC (.str "is")) (dCons (eC (.str "known")) (dCons (eC
    (.str "or")) (dCons (eC (.str "xor")) (dCons (eC (.str "any")) (dNil)))))))))))))) (sRet (eCall "_law_refused" (dCons (eVar 5) (dCons (eVar 6) (dCons (e2 oIx (eVar 8) (e2 oMod (e2 oDiv (eVar 1)
    (eC (.int 96))) (eC (.int 11)))) (dNil))))))))))))))
def F_law_k11 : Fn := ⟨1, 9, .pure, b_law_k11⟩
def b_is_turn : SS := sRet (eAnd (e1 (bIsi .int) (eVar 0)) (eNot (e1 (bIsi .bool) (eVar 0))))
def F_is_turn : Fn := ⟨1, 1, .pure, b_is_turn⟩
def b_is_step : SS := sSeq (sIf (tOr (tNot (tTru (e1 (bIsi .tuple) (eVar 0)))) (tB (e2 oNe (e1 bLen (eVar 0)) (eC (.int 2))))) (sRet (eC (.bl false))) (sNil)) (sRet (eAnd (eCall "is_turn" (dCons (e2
    oIx (eVar 0) (eC (.int 0))) (dNil))) (eCall "is_reach" (dCons (e2 oIx (eVar 0) (eC (.int 1))) (dNil)))))
def F_is_step : Fn := ⟨1, 1, .pure, b_is_step⟩
def b_is_plot : SS := sSeq (sIf (tOr (tNot (tTru (e1 (bIsi .tuple) (eVar 0)))) (tB (e2 oNe (e1 bLen (eVar 0)) (eC (.int 2))))) (sRet (eC (.bl false))) (sNil)) (sSeq (sIf (tOr (tNot (tTru (eCall
    "is_reach" (dCons (e2 oIx (eVar 0) (eC (.int 0))) (dNil))))) (tNot (tTru (e1 (bIsi .tuple) (e2 oIx (eVar 0) (eC (.int 1))))))) (sRet (eC (.bl false))) (sNil)) (sSeq (sSet 1 (e2 oIx (eVar 0) (eC
    (.int 0)))) (sSeq (sSet 2 (eC (.non))) (sSeq (sFor (.nm 3) (iSeq (e2 oIx (eVar 0) (eC (.int 1)))) (sSeq (sIf (tOr (tNot (tTru (eCall "is_step" (dCons (eVar 3) (dNil))))) (tB (e2 oEq (e2 oIx (eVar
    3) (eC (.int 1))) (eVar 1)))) (sRet (eC (.bl false))) (sNil)) (sSeq (sIf (tAnd (tB (e2 oIsNot (eVar 2) (eC (.non)))) (tB (e2 oLe (e2 oIx (eVar 3) (eC (.int 0))) (eVar 2)))) (sRet (eC (.bl false)))
    (sNil)) (sSeq (sSet 1 (e2 oIx (eVar 3) (eC (.int 1)))) (sSet 2 (e2 oIx (eVar 3) (eC (.int 0)))))))) (sRet (eC (.bl true)))))))
def F_is_plot : Fn := ⟨1, 4, .pure, b_is_plot⟩
def b__law_bad_reach : SS := sSeq (sIf (tB (e2 oEq (eVar 1) (eC (.int 0)))) (sRet (eLst (dCons (e2 oIx (eVar 0) (eC (.int 0))) (dCons (e2 oIx (eVar 0) (eC (.int 1))) (dNil))))) (sNil)) (sSeq (sIf (tB
    (e2 oEq (eVar 1) (eC (.int 1)))) (sRet (eTup (dCons (e1 bInt (e2 oIx (eVar 0) (eC (.int 0)))) (dCons (e2 oIx (eVar 0) (eC (.int 1))) (dNil))))) (sNil)) (sSeq (sIf (tB (e2 oEq (eVar 1) (eC (.int
    2)))) (sRet (eTup (dCons (e2 oIx (eVar 0) (eC (.int 0))) (dCons (e1 bList (e2 oIx (eVar 0) (eC (.int 1)))) (dNil))))) (sNil)) (sSeq (sIf (tB (e2 oEq (eVar 1) (eC (.int 3)))) (sRet (eTup (dCons (e2
    oIx (eVar 0) (eC (.int 0))) (dCons (e2 oAdd (e2 oAdd (e2 oIx (eVar 0) (eC (.int 1))) (eSlice (e2 oAdd (e2 oIx (eVar 0) (eC (.int 1))) (eTup (dCons (eC (.int 0)) (dNil)))) (oSome (e1 oNeg (eC (.int
    1)))) (oNone))) (eSlice (e2 oAdd (e2 oIx (eVar 0) (eC (.int 1))) (eTup (dCons (eC (.int 0)) (dNil)))) (oSome (e1 oNeg (eC (.int 1)))) (oNone))) (dNil))))) (sNil)) (sSeq (sIf (tB (e2 oEq (eVar 1)
    (eC (.int 4)))) (sRet (eTup (dCons (e2 oIx (eVar 0) (eC (.int 0))) (dCons (eTup (dCons (eC (.int 5)) (dCons (eC (.int 3)) (dNil)))) (dNil))))) (sNil)) (sSeq (sIf (tB (e2 oEq (eVar 1) (eC (.int
    5)))) (sRet (eTup (dCons (e2 oIx (eVar 0) (eC (.int 0))) (dCons (e2 oIx (eVar 0) (eC (.int 1))) (dCons (eTup (dNil)) (dNil)))))) (sNil)) (sSeq (sIf (tB (e2 oEq (eVar 1) (eC (.int 6)))) (sRet (eTup
    (dCons (e2 oIx (eVar 0) (eC (.int 0))) (dCons (eTup (dCons (eC (.bl true)) (dNil))) (dNil))))) (sNil)) (sRet (eC (.non)))))))))
def F__law_bad_reach : Fn := ⟨2, 2, .keep, b__law_bad_reach⟩
def b__law_bad_step : SS := sSeq (sIf (tB (e2 oEq (eVar 2) (eC (.int 0)))) (sRet (eLst (dCons (e2 oIx (eVar 0) (eC (.int 0))) (dCons (e2 oIx (eVar 0) (eC (.int 1))) (dNil))))) (sNil)) (sSeq (sIf (tB
    (e2 oEq (eVar 2) (eC (.int 1)))) (sRet (eTup (dCons (e2 oIx (eVar 0) (eC (.int 0))) (dNil)))) (sNil)) (sSeq (sIf (tB (e2 oEq (eVar 2) (eC (.int 2)))) (sRet (eTup (dCons (e2 oEq (e2 oMod (e2 oIx
    (eVar 0) (eC (.int 0))) (eC (.int 2))) (eC (.int 0))) (dCons (e2 oIx (eVar 0) (eC (.int 1))) (dNil))))) (sNil)) (sSeq (sIf (tB (e2 oEq (eVar 2) (eC (.int 3)))) (sRet (eTup (dCons (e1 bStr (e2 oMod
    (e2 oIx (eVar 0) (eC (.int 0))) (e2 oPow (eC (.int 10)) (eC (.int 60))))) (dCons (e2 oIx (eVar 0) (eC (.int 1))) (dNil))))) (sNil)) (sSeq (sIf (tB (e2 oEq (eVar 2) (eC (.int 4)))) (sRet (eTup
    (dCons (eC (.non)) (dCons (e2 oIx (eVar 0) (eC (.int 1))) (dNil))))) (sNil)) (sSeq (sIf (tB (e2 oEq (eVar 2) (eC (.int 5)))) (sRet (eTup (dCons (e2 oIx (eVar 0) (eC (.int 0))) (dCons (eVar 1)
    (dNil))))) (sNil)) (sSeq (sIf (tB (e2 oGt (eVar 2) (eC (.int 6)))) (sRet (e2 oIx (eLst (dCons (eC (.non)) (dCons (e2 oIx (eVar 0) (eC (.int 0))) (dCons (eC (.str "in")) (dCons (eDic0) (dNil))))))
    (e2 oSub (eVar 2) (eC (.int 7))))) (sNil)) (sRet (eTup (dCons (e2 oIx (eVar 0) (eC (.int 0))) (dCons (e2 oIx (eVar 0) (eC (.int 1))) (dCons (e2 oIx (eVar 0) (eC (.int 1))) (dNil))))))))))))
def F__law_bad_step : Fn := ⟨3, 3, .pure, b__law_bad_step⟩
def b__law_odd : SS := sSeq (sSet 2 (eLst (dCons (eC (.non)) (dCons (eC (.int 3)) (dCons (eC (.str "plot")) (dCons (eLst (dNil)) (dCons (eTup (dNil)) (dCons (eTup (dCons (e2 oIx (eVar 0) (eC (.int
    0))) (dNil))) (dCons (e1 bList (eVar 0)) (dCons (e2 oAdd (eVar 0) (eTup (dCons (eTup (dNil)) (dNil)))) (dCons (eTup (dCons (e2 oIx (eVar 0) (eC (.int 0))) (dCons (e1 bList (e2 oIx (eVar 0) (eC
    (.int 1)))) (dNil)))) (dNil)))))))))))) (sSeq (sSet 2 (e2 oAdd (eVar 2) (eLst (dCons (eTup (dCons (e2 oIx (eVar 0) (eC (.int 1))) (dCons (e2 oIx (eVar 0) (eC (.int 0))) (dNil)))) (dCons (eTup
    (dCons (eC (.non)) (dCons (e2 oIx (eVar 0) (eC (.int 1))) (dNil)))) (dCons (eDic0) (dCons (eTup (dCons (eTup (dCons (eC (.bl false)) (dCons (eTup (dNil)) (dNil)))) (dCons (eC (.int 0)) (dNil))))
    (dCons (eC (.bl true)) (dNil))))))))) (sRet (e2 oIx (eVar 2) (e2 oMod (eVar 1) (eC (.int 14))))))
def F__law_odd : Fn := ⟨2, 3, .keep, b__law_odd⟩
def b__law_spoilt : SS := sSeq (sSet 2 (e1 bLen (e2 oIx (eVar 0) (eC (.int 1))))) (sSeq (sIf (tOr (tB (e2 oEq (e2 oMod (eVar 1) (eC (.int 4))) (eC (.int 0)))) (tB (e2 oEq (eVar 2) (eC (.int 0)))))
    (sRet (eCall "_law_odd" (dCons (eVar 0) (dCons (e2 oDiv (eVar 1) (eC (.int 4))) (dNil))))) (sNil)) (sSeq (sSet 3 (e2 oMod (e2 oDiv (eVar 1) (eC (.int 4))) (eVar 2))) (sSeq (sSet 4 (e1 bList (e2
    oIx (eVar 0) (eC (.int 1))))) (sSeq (sSet 5 (e2 oIx (eVar 0) (eC (.int 0)))) (sSeq (sIf (tB (e2 oGt (eVar 3) (eC (.int 0)))) (sSet 5 (e2 oIx (e2 oIx (eVar 4) (e2 oSub (eVar 3) (eC (.int 1)))) (eC
    (.int 1)))) (sNil)) (sSeq (sIf (tB (e2 oEq (e2 oMod (eVar 1) (eC (.int 4))) (eC (.int 1)))) (sSetIx (eVar 4) (eVar 3) (eTup (dCons (e2 oIx (e2 oIx (eVar 4) (eVar 3)) (eC (.int 0))) (dCons (eCall
    "_law_bad_reach" (dCons (e2 oIx (e2 oIx (eVar 4) (eVar 3)) (eC (.int 1))) (dCons (e2 oMod (e2 oDiv (eVar 1) (eC (.int 80))) (eC (.int 8))) (dNil)))) (dNil))))) (sIf (tB (e2 oEq (e2 oMod (eVar 1)
    (eC (.int 4))) (eC (.int 2)))) (sSetIx (eVar 4) (eVar 3) (eCall "_law_bad_step" (dCons (e2 oIx (eVar 4) (eVar 3)) (dCons (eVar 5) (dCons (e2 oMod (e2 oDiv (eVar 1) (eC (.int 80))) (eC (.int 11)))
    (dNil)))))) (sIf (tB (e2 oGt (eVar 3) (eC (.int 0)))) (sSetIx (eVar 4) (eVar 3) (eTup (dCons (e2 oSub (e2 oIx (e2 oIx (eVar 4) (e2 oSub (eVar 3) (eC (.int 1)))) (eC (.int 0))) (e2 oMod (e2 oDiv
    (eVar 1) (eC (.int 80))) (eC (.int 2)))) (dCons (e2 oIx (e2 oIx (eVar 4) (eVar 3)) (eC (.int 1))) (dNil))))) (sRet (eTup (dCons (eCall "_law_bad_reach" (dCons (e2 oIx (eVar 0) (eC (.int 0)))
    (dCons (e2 oMod (e2 oDiv (eVar 1) (eC (.int 80))) (eC (.int 8))) (dNil)))) (dCons (e2 oIx (eVar 0) (eC (.int 1))) (dNil)))))))) (sRet (eTup (dCons (e2 oIx (eVar 0) (eC (.int 0))) (dCons (e1 bTuple
    (eVar 4)) (dNil)))))))))))
def F__law_spoilt : Fn := ⟨2, 6, .keep, b__law_spoilt⟩
def b_write_number : SS := sRet (e1 bStr (eVar 0))
def F_write_number : Fn := ⟨1, 1, .pure, b_write_number⟩
def b_read_number : SS := sSeq (sIf (tNot (tTru (e1 (bIsi .str) (eVar 0)))) (sRaise "NoText") (sNil)) (sSeq (sSet 1 (eVar 0)) (sSeq (sIf (tB (e2 oEq (eSlice (eVar 0) (oNone) (oSome (eC (.int 1)))) (eC
    (.str "-")))) (sSet 1 (eSlice (eVar 0) (oSome (eC (.int 1))) (oNone))) (sNil)) (sSeq (sIf (tOr (tB (e2 oLt (e1 bLen (eVar 1)) (eC (.int 1)))) (tB (e2 oGt (e1 bLen (eVar 1)) (eC (.int 60)))))
    (sRaise "NoText") (sNil)) (sSeq (sFor (.nm 2) (iSeq (eVar 1)) (sIf (tB (e2 oNotIn (eVar 2) (eC (.str "0123456789")))) (sRaise "NoText") (sNil))) (sSeq (sIf (tAnd (tB (e2 oEq (e2 oIx (eVar 1) (eC
    (.int 0))) (eC (.str "0")))) (tB (e2 oNe (eVar 0) (eC (.str "0"))))) (sRaise "NoText") (sNil)) (sRet (e1 bInt (eVar 0))))))))
def F_read_number : Fn := ⟨1, 3, .pure, b_read_number⟩
def b__law_text : SS := sSeq (sSet 1 (eC (.str ""))) (sSeq (sSet 2 (e1 bAbs (eVar 0))) (sSeq (sWhile (tOr (tB (e2 oGt (eVar 2) (eC (.int 0)))) (tB (e2 oEq (eVar 1) (eC (.str ""))))) (sSeq (sSet 1 (e2
    oAdd (e2 oIx (eC (.str "0123456789")) (e2 oMod (eVar 2) (eC (.int 10)))) (eVar 1))) (sSet 2 (e2 oDiv (eVar 2) (eC (.int 10)))))) (sSeq (sIf (tB (e2 oLt (eVar 0) (eC (.int 0)))) (sRet (e2 oAdd (eC
    (.str "-")) (eVar 1))) (sNil)) (sRet (eVar 1)))))
def F__law_text : Fn := ⟨1, 3, .pure, b__law_text⟩
def b__law_drawn : SS := sSeq (sSet 2 (e2 oMod (e2 oIx (eVar 0) (eVar 1)) (e2 oPow (eC (.int 10)) (eC (.int 60))))) (sSeq (sSet 3 (eCall "_law_draw" (dCons (eVar 0) (dCons (eVar 1) (dCons (eC (.int
    4)) (dNil)))))) (sSeq (sIf (tB (e2 oEq (eVar 3) (eC (.int 0)))) (sSet 2 (e2 oMod (eVar 2) (eC (.int 100)))) (sNil)) (sSeq (sIf (tB (e2 oEq (eVar 3) (eC (.int 1)))) (sSet 2 (e2 oMod (e2 oAdd (e2
    oMul (eVar 2) (e2 oAdd (eCall "_law_draw" (dCons (eVar 0) (dCons (e2 oAdd (eVar 1) (eC (.int 63))) (dCons (eC (.int 100000000)) (dNil))))) (eC (.int 1)))) (e2 oPow (eC (.int 10)) (eC (.int 59))))
    (e2 oPow (eC (.int 10)) (eC (.int 60))))) (sNil)) (sSeq (sIf (tB (e2 oEq (eVar 3) (eC (.int 2)))) (sSet 2 (e2 oDiv (eVar 2) (e2 oPow (eC (.int 10)) (eC (.int 30))))) (sNil)) (sSeq (sIf (tB (e2 oEq
    (eCall "_law_draw" (dCons (eVar 0) (dCons (e2 oAdd (eVar 1) (eC (.int 126))) (dCons (eC (.int 2)) (dNil))))) (eC (.int 1)))) (sRet (e1 oNeg (eVar 2))) (sNil)) (sRet (eVar 2)))))))
def F__law_drawn : Fn := ⟨2, 4, .pure, b__law_drawn⟩
def b_law_k43 : SS := sSeq (sSet 1 (eLst (dCons (eC (.int 0)) (dCons (e1 oNeg (eC (.int 1))) (dCons (eC (.int 9)) (dCons (eC (.int 10)) (dCons (e1 oNeg (eC (.int 10))) (dCons (e2 oSub (e2 oPow (eC
    (.int 10)) (eC (.int 60))) (eC (.int 1))) (dCons (e2 oSub (eC (.int 1)) (e2 oPow (eC (.int 10)) (eC (.int 60)))) (dNil)))))))))) (sSeq (sFor (.nm 2) (iRange1 (e2 bMin2 (e1 bLen (eVar 0)) (eC (.int
    63)))) (sExpr (eM1 mAppend (eVar 1) (eCall "_law_drawn" (dCons (eVar 0) (dCons (eVar 2) (dNil))))))) (sSeq (sFor (.nm 3) (iSeq (eVar 1)) (sSeq (sSet 4 (eCall "_law_text" (dCons (eVar 3) (dNil))))
    (sSeq (sSet 5 (eCall "write_number" (dCons (eVar 3) (dNil)))) (sSeq (sIf (tOr (tNot (tTru (e1 (bIsi .str) (eVar 5)))) (tB (e2 oNe (eVar 5) (eVar 4)))) (sRet (eC (.bl false))) (sNil)) (sSeq (sSet 6
    (eCall "read_number" (dCons (eVar 4) (dNil)))) (sIf (tOr (tNot (tTru (e1 (bIsi .int) (eVar 6)))) (tOr (tTru (e1 (bIsi .bool) (eVar 6))) (tB (e2 oNe (eVar 6) (eVar 3))))) (sRet (eC (.bl false)))
    (sNil))))))) (sRet (eC (.bl true)))))
def F_law_k43 : Fn := ⟨1, 7, .pure, b_law_k43⟩
end HW
end
section
set_option linter.all false
set_option autoImplicit false
/-! MJ1: tools for running the small semantics by hand -/
namespace MI
open PySem (Str PyData)
/-- an equation that simp shall write down -/
theorem nrfl {α : Sort _} {a b : α} (h : a = b) : a = b := h
/-- what simp is not to look into -/
structure Hid {α : Type} (a : α) : Type where
  mk ::
/-- what simp is to leave as it stands -/
def Kp (P : Prop) (_ : Hid P := .mk) : Prop := P
def Res.wp {A : Type} (r : Res A) (Q : A → Mem → Prop) (_ : Hid Q := .mk) : Prop := match r with
  | .ok a M => Q a M
  | _ => False
def SR.wp (r : SR) (N : Env → Mem → Prop) (R : RV → Mem → Prop) (_ : Hid N := .mk) (_ : Hid R := .mk) : Prop := match r with
  | .nx r M => N r M
  | .ret x M => R x M
  | _ => False
theorem wp_ext {A : Type} {r : Res A} {Q Q' : A → Mem → Prop} (h : ∀ a M, Q a M = Q' a M) : r.wp Q = r.wp Q' := by
  have e : Q = Q' := by funext a M; exact h a M
  rw [e]
theorem Res.wp_mono {A : Type} {r : Res A} {Q Q' : A → Mem → Prop} (h : r.wp Q) (q : ∀ a M, Q a M → Q' a M) : r.wp Q' := by
  cases r with
  | ok a M => exact q a M h
  | _ => exact h
theorem SR.wp_mono {r : SR} {N N' : Env → Mem → Prop} {R R' : RV → Mem → Prop} (h : r.wp N R) (q : ∀ a M, N a M → N' a M) (q' : ∀ a M, R a M → R' a M) : r.wp N' R' := by
  cases r with
  | nx a M => exact q a M h
  | ret a M => exact q' a M h
  | _ => exact h
theorem Res.wp_eq {A : Type} {r : Res A} {a : A} {M : Mem} : r.wp (fun x M' => x = a ∧ M' = M) ↔ r = .ok a M := by
  cases r with
  | ok b M' => simp [Res.wp]
  | err => simp [Res.wp]
  | bad => simp [Res.wp]
theorem Res.wp_ex {A : Type} {r : Res A} {Q : A → Mem → Prop} (h : r.wp Q) : ∃ a M, r = .ok a M ∧ Q a M := by
  cases r with
  | ok b M' => exact ⟨b, M', rfl, h⟩
  | err => exact h.elim
  | bad => exact h.elim
section
variable {A B : Type} {cl : Cl} {r : Env} {M : Mem}
@[simp] theorem wp_ok (a : A) (M : Mem) (Q : A → Mem → Prop) : (Res.ok a M).wp Q = Q a M := nrfl rfl
@[simp] theorem wp_nx (r : Env) (M : Mem) (N : Env → Mem → Prop) (R : RV → Mem → Prop) : (SR.nx r M).wp N R = N r M := nrfl rfl
@[simp] theorem wp_ret (x : RV) (M : Mem) (N : Env → Mem → Prop) (R : RV → Mem → Prop) : (SR.ret x M).wp N R = R x M := nrfl rfl
@[simp] theorem wp_bind (x : Res A) (f : A → Mem → Res B) (Q : B → Mem → Prop) : (x.bind f).wp Q = x.wp fun a M => (f a M).wp Q := by
  cases x <;> rfl
@[simp] theorem wp_ite {c : Prop} [Decidable c] (a b : Res A) (Q : A → Mem → Prop) : (if c then a else b).wp Q = if c then a.wp Q else b.wp Q := by
  split <;> rfl
@[simp] theorem wp_iteS {c : Prop} [Decidable c] (a b : SR) (N : Env → Mem → Prop) (R : RV → Mem → Prop) : (if c then a else b).wp N R = if c then a.wp N R else b.wp N R := by
  split <;> rfl
/-! expressions -/
def getV (o : Option (Option D)) (Q : RV → Prop) (_ : Hid Q := .mk) : Prop := match o with
  | some (some d) => Q (.d d)
  | _ => False
@[simp] theorem getV_some (d : D) (Q : RV → Prop) : getV (some (some d)) Q = Q (.d d) := nrfl rfl
@[simp] theorem wp_eVar (i : Nat) (Q : RV → Mem → Prop) : (eVar i cl r M).wp Q = getV r[i]? fun x => Q x M := by
  unfold eVar getV
  cases r[i]? with
  | none => rfl
  | some o => cases o <;> rfl
@[simp] theorem wp_eC (d : D) (Q : RV → Mem → Prop) : (eC d cl r M).wp Q = Q (.d d) M := nrfl rfl
@[simp] theorem wp_e1 (op : Op1) (a : SE) (Q : RV → Mem → Prop) : (e1 op a cl r M).wp Q = (a cl r M).wp fun x M => (op x M).wp Q := wp_bind _ _ _
@[simp] theorem wp_e2 (op : Op2) (a b : SE) (Q : RV → Mem → Prop) : (e2 op a b cl r M).wp Q = (a cl r M).wp fun x M => (b cl r M).wp fun y M => (op x y M).wp Q := by
  unfold e2; rw [wp_bind]; refine wp_ext fun x M => ?_; rw [wp_bind]
/-- by truth -/
def truV (o : Option Bool) (Q : Bool → Prop) (_ : Hid Q := .mk) : Prop := match o with
  | some b => Q b
  | none => False
@[simp] theorem truV_some (b : Bool) (Q : Bool → Prop) : truV (some b) Q = Q b := nrfl rfl
@[simp] theorem wp_eNot (a : SE) (Q : RV → Mem → Prop) : (eNot a cl r M).wp Q = (a cl r M).wp fun x M => truV (truR x M) fun b => Q (.d (.bl !b)) M := by
  unfold eNot; rw [wp_bind]; refine wp_ext fun x M => ?_
  cases truR x M <;> rfl
@[simp] theorem wp_eAnd (a b : SE) (Q : RV → Mem → Prop) : (eAnd a b cl r M).wp Q = (a cl r M).wp fun x M => truV (truR x M) fun t => if t = true then (b cl r M).wp Q else Q x M := by
  unfold eAnd; rw [wp_bind]; refine wp_ext fun x M => ?_
  cases truR x M with
  | none => rfl
  | some t => cases t <;> simp [truV, Res.wp]
@[simp] theorem wp_eOr (a b : SE) (Q : RV → Mem → Prop) : (eOr a b cl r M).wp Q = (a cl r M).wp fun x M => truV (truR x M) fun t => if t = true then Q x M else (b cl r M).wp Q := by
  unfold eOr; rw [wp_bind]; refine wp_ext fun x M => ?_
  cases truR x M with
  | none => rfl
  | some t => cases t <;> simp [truV, Res.wp]
@[simp] theorem wp_tAnd (a b : STt) (Q : Bool → Mem → Prop) : (tAnd a b cl r M).wp Q = (a cl r M).wp fun x M => if x = true then (b cl r M).wp Q else Q false M := by
  unfold tAnd; rw [wp_bind]; refine wp_ext fun x M => ?_; rw [wp_ite]; rfl
@[simp] theorem wp_tOr (a b : STt) (Q : Bool → Mem → Prop) : (tOr a b cl r M).wp Q = (a cl r M).wp fun x M => if x = true then Q true M else (b cl r M).wp Q := by
  unfold tOr; rw [wp_bind]; refine wp_ext fun x M => ?_; rw [wp_ite]; rfl
@[simp] theorem wp_tNot (a : STt) (Q : Bool → Mem → Prop) : (tNot a cl r M).wp Q = (a cl r M).wp fun x M => Q (!x) M := by
  unfold tNot; rw [wp_bind]; rfl
@[simp] theorem wp_tTru (a : SE) (Q : Bool → Mem → Prop) : (tTru a cl r M).wp Q = (a cl r M).wp fun x M => truV (truR x M) fun b => Q b M := by
  unfold tTru; rw [wp_bind]; refine wp_ext fun x M => ?_
  cases truR x M <;> rfl
def blV (x : RV) (Q : Bool → Prop) (_ : Hid Q := .mk) : Prop := match x with
  | .d (.bl b) => Q b
  | _ => False
@[simp] theorem blV_bl (b : Bool) (Q : Bool → Prop) : blV (.d (.bl b)) Q = Q b := nrfl rfl
@[simp] theorem wp_tB (a : SE) (Q : Bool → Mem → Prop) : (tB a cl r M).wp Q = (a cl r M).wp fun x M => blV x fun b => Q b M := by
  unfold tB; rw [wp_bind]; refine wp_ext fun x M => ?_
  unfold blV
  split
  · rfl
  · first | rfl | (split <;> first | rfl | simp_all)
@[simp] theorem wp_eIf (t : STt) (a b : SE) (Q : RV → Mem → Prop) : (eIf t a b cl r M).wp Q = (t cl r M).wp fun x M => if x = true then (a cl r M).wp Q else (b cl r M).wp Q := by
  unfold eIf; rw [wp_bind]; refine wp_ext fun x M => ?_; rw [wp_ite]
@[simp] theorem wp_dNil (Q : List D → Mem → Prop) : (dNil cl r M).wp Q = Q [] M := nrfl rfl
@[simp] theorem wp_dCons (a : SE) (as : SDs) (Q : List D → Mem → Prop) : (dCons a as cl r M).wp Q = (a cl r M).wp fun x M => (as cl r (box x M).2).wp fun ds M' => Q ((box x M).1 :: ds) M' := by
  unfold dCons; rw [wp_bind]; refine wp_ext fun x M => ?_; rw [wp_bind]; rfl
@[simp] theorem wp_eTup (as : SDs) (Q : RV → Mem → Prop) : (eTup as cl r M).wp Q = (as cl r M).wp fun ds M => ds.length ≤ lim ∧ Q (.d (.tup ds)) M := by
  unfold eTup; rw [wp_bind]; refine wp_ext fun x M => ?_; rw [wp_ite]; simp [Res.wp]
@[simp] theorem wp_eLst (as : SDs) (Q : RV → Mem → Prop) : (eLst as cl r M).wp Q = (as cl r M).wp fun ds M => ds.length ≤ lim ∧ Q (.o (.lst ds)) M := by
  unfold eLst; rw [wp_bind]; refine wp_ext fun x M => ?_; rw [wp_ite]; simp [Res.wp]
@[simp] theorem wp_eDic0 (Q : RV → Mem → Prop) : (eDic0 cl r M).wp Q = Q (.o (.dic false [])) M := nrfl rfl
@[simp] theorem wp_eDic (as : SDs) (Q : RV → Mem → Prop) : (eDic as cl r M).wp Q = (as cl r M).wp fun ds M => ∃ kvs, pairUp ds [] = some kvs ∧ ds.length ≤ 30 ∧ Q (.o (.dic false kvs)) M := by
  unfold eDic; rw [wp_bind]; refine wp_ext fun x M => ?_
  cases pairUp x [] with
  | none => simp [Res.wp]
  | some kvs => simp only [wp_ite]; simp [Res.wp]
@[simp] theorem dPairs_nil : dPairs [] = dNil := nrfl rfl
@[simp] theorem dPairs_cons (p : SE × SE) (l : List (SE × SE)) : dPairs (p :: l) = dCons p.1 (dCons p.2 (dPairs l)) := nrfl rfl
@[simp] theorem wp_eCall (f : Str) (as : SDs) (Q : RV → Mem → Prop) : (eCall f as cl r M).wp Q = (as cl r M).wp fun ds M => (cl f ds M).wp Q := by
  unfold eCall; rw [wp_bind]
@[simp] theorem wp_oNone (Q : Option Int → Mem → Prop) : (oNone cl r M).wp Q = Q none M := nrfl rfl
def intV (x : RV) (Q : Int → Prop) (_ : Hid Q := .mk) : Prop := match x with
  | .d (.int b) => Q b
  | _ => False
@[simp] theorem intV_int (b : Int) (Q : Int → Prop) : intV (.d (.int b)) Q = Q b := nrfl rfl
@[simp] theorem wp_oSome (a : SE) (Q : Option Int → Mem → Prop) : (oSome a cl r M).wp Q = (a cl r M).wp fun x M => intV x fun i => Q (some i) M := by
  unfold oSome; rw [wp_bind]; refine wp_ext fun x M => ?_
  unfold intV
  split
  · rfl
  · first | rfl | (split <;> first | rfl | simp_all)
@[simp] theorem wp_eSlice (a : SE) (lo hi : SO) (Q : RV → Mem → Prop) : (eSlice a lo hi cl r M).wp Q = (a cl r M).wp fun x M => (lo cl r M).wp fun l M => (hi cl r M).wp fun h M => (oSlice x l h M).wp Q := by
  unfold eSlice; rw [wp_bind]; refine wp_ext fun x M => ?_; rw [wp_bind]; refine wp_ext fun y M => ?_; rw [wp_bind]
def hdlV (x : RV) (Q : Nat → Prop) (_ : Hid Q := .mk) : Prop := match x with
  | .d (.hdl n) => Q n
  | _ => False
@[simp] theorem hdlV_hdl (n : Nat) (Q : Nat → Prop) : hdlV (.d (.hdl n)) Q = Q n := nrfl rfl
@[simp] theorem wp_eM1 (m : Nat → D → Mem → Res RV) (o a : SE) (Q : RV → Mem → Prop) : (eM1 m o a cl r M).wp Q = (o cl r M).wp fun x M => hdlV x fun n => (lstT (.d (.hdl n)) M).isSome = true ∧ (a cl r M).wp fun y M => (m n (box y M).1 (box y M).2).wp Q := by
  unfold eM1; rw [wp_bind]; refine wp_ext fun x M => ?_
  unfold hdlV
  split
  · rw [wp_ite, wp_bind]; simp [Res.wp]
  · first | rfl | (split <;> first | rfl | simp_all)
/-- the items of a sequence or a text -/
def seqX (x : RV) (M : Mem) : Option (List D) := match seqOf x M with
  | some ds => some ds
  | none => match x with
    | .d (.str t) => some (strD t)
    | _ => none
theorem seqX_of {x : RV} {M : Mem} {ds : List D} (h : seqOf x M = some ds) : seqX x M = some ds := by unfold seqX; rw [h]
@[simp] theorem seqX_tup (ds : List D) (M : Mem) : seqX (.d (.tup ds)) M = some ds := nrfl rfl
@[simp] theorem seqX_ro (ds : List D) (M : Mem) : seqX (.d (.ro ds)) M = some ds := nrfl rfl
@[simp] theorem seqX_lst (ds : List D) (M : Mem) : seqX (.o (.lst ds)) M = some ds := nrfl rfl
@[simp] theorem seqX_str (t : Str) (M : Mem) : seqX (.d (.str t)) M = some (strD t) := nrfl rfl
@[simp] theorem seqX_hdl (n : Nat) (M : Mem) : seqX (.d (.hdl n)) M = match M[n]? with
    | some (.lst ds) => some ds
    | _ => none := by
  unfold seqX
  show (match (match M[n]? with | some (.lst ds) => some ds | _ => none) with | some ds => some ds | none => (none : Option (List D))) = _
  cases M[n]? with
  | none => rfl
  | some o => cases o <;> rfl
@[simp] theorem wp_iSeq (a : SE) (Q : List D × Chk → Mem → Prop) : (iSeq a cl r M).wp Q = (a cl r M).wp fun x M => ∃ ds, seqX x M = some ds ∧ Q (ds, chkR x M) M := by
  unfold iSeq; rw [wp_bind]; refine wp_ext fun x M => ?_
  unfold seqX
  cases h : seqOf x M with
  | none =>
    simp only
    split
    · simp [Res.wp, chkR]
    · rename_i h2
      simp only [Res.wp]
      refine eq_comm.mp (propext ⟨fun ⟨ds, e, _⟩ => ?_, False.elim⟩)
      cases e
  | some ds => simp [Res.wp]
@[simp] theorem wp_iRange1 (a : SE) (Q : List D × Chk → Mem → Prop) : (iRange1 a cl r M).wp Q = (a cl r M).wp fun x M => intV x fun n => (n < 2 ^ 62 ∧ -(2 ^ 62) ≤ n) ∧ Q (rngD 0 n.toNat, []) M := by
  unfold iRange1; rw [wp_bind]; refine wp_ext fun x M => ?_
  unfold intV
  split
  · rw [wp_ite]; simp [Res.wp]
  · first | rfl | (split <;> first | rfl | simp_all)
/-! statements -/
variable {N : Env → Mem → Prop} {R : RV → Mem → Prop}
theorem wp_ofE (s : Res RV) (f : RV → Mem → SR) : (ofE s r f).wp N R = s.wp fun x M => (f x M).wp N R := by cases s <;> rfl
theorem wp_ofT (s : Res Bool) (f : Bool → Mem → SR) : (ofT s r f).wp N R = s.wp fun x M => (f x M).wp N R := by cases s <;> rfl
theorem wp_ofI (s : Res (List D × Chk)) (f : List D × Chk → Mem → SR) : (ofI s r f).wp N R = s.wp fun x M => (f x M).wp N R := by cases s <;> rfl
@[simp] theorem wp_sNil : (sNil cl r M).wp N R = N r M := nrfl rfl
@[simp] theorem wp_sSeq (a b : SS) : (sSeq a b cl r M).wp N R = (a cl r M).wp (fun r M => (b cl r M).wp N R) R := by
  unfold sSeq; cases a cl r M <;> rfl
@[simp] theorem wp_sSet (i : Nat) (e : SE) : (sSet i e cl r M).wp N R = (e cl r M).wp fun x M => N (r.set i (some (box x M).1)) (box x M).2 := by
  unfold sSet; rw [wp_ofE]; rfl
def tupV (x : RV) (Q : List D → Prop) (_ : Hid Q := .mk) : Prop := match x with
  | .d (.tup n) => Q n
  | _ => False
@[simp] theorem tupV_tup (n : List D) (Q : List D → Prop) : tupV (.d (.tup n)) Q = Q n := nrfl rfl
def envV (x : Option Env) (Q : Env → Prop) (_ : Hid Q := .mk) : Prop := match x with
  | some n => Q n
  | _ => False
@[simp] theorem envV_some (n : Env) (Q : Env → Prop) : envV (some n) Q = Q n := nrfl rfl
@[simp] theorem wp_sUnp (is : List Nat) (e : SE) : (sUnp is e cl r M).wp N R = (e cl r M).wp fun x M => tupV x fun ds => envV (setAll is ds r) fun r => N r M := by
  unfold sUnp; rw [wp_ofE]; refine wp_ext fun x M => ?_
  unfold tupV
  split
  · unfold envV
    split <;> rename_i h <;> simp [h, SR.wp]
  · first | rfl | (split <;> first | rfl | simp_all)
def memV (x : Option Mem) (Q : Mem → Prop) (_ : Hid Q := .mk) : Prop := match x with
  | some n => Q n
  | _ => False
@[simp] theorem memV_some (n : Mem) (Q : Mem → Prop) : memV (some n) Q = Q n := nrfl rfl
def datV (x : RV) (Q : D → Prop) (_ : Hid Q := .mk) : Prop := match x with
  | .d n => Q n
  | _ => False
@[simp] theorem datV_d (n : D) (Q : D → Prop) : datV (.d n) Q = Q n := nrfl rfl
@[simp] theorem wp_sSetIx (o k e : SE) : (sSetIx o k e cl r M).wp N R = (e cl r M).wp fun x M => (o cl r (box x M).2).wp fun y M1 => (k cl r M1).wp fun z M2 => datV y fun y => datV z fun z => memV (setIx y z (box x M).1 M2) fun M => N r M := by
  unfold sSetIx; rw [wp_ofE]; refine wp_ext fun x M => ?_; rw [wp_ofE]; refine wp_ext fun y M1 => ?_; rw [wp_ofE]; refine wp_ext fun z M2 => ?_
  unfold datV
  cases y <;> cases z <;> simp only [] <;> try rfl
  unfold memV
  split <;> rename_i h <;> simp [h, SR.wp]
@[simp] theorem wp_sExpr (e : SE) : (sExpr e cl r M).wp N R = (e cl r M).wp fun _ M => N r M := by
  unfold sExpr; rw [wp_ofE]; rfl
@[simp] theorem wp_sRet (e : SE) : (sRet e cl r M).wp N R = (e cl r M).wp fun x M => R x M := by
  unfold sRet; rw [wp_ofE]; rfl
@[simp] theorem wp_sRetN : (sRetN cl r M).wp N R = R (.d .non) M := nrfl rfl
@[simp] theorem wp_sIf (t : STt) (a b : SS) : (sIf t a b cl r M).wp N R = (t cl r M).wp fun x M => if x = true then (a cl r M).wp N R else (b cl r M).wp N R := by
  unfold sIf; rw [wp_ofT]; refine wp_ext fun x M => ?_; rw [wp_iteS]
@[simp] theorem wp_sFor (tg : Tg) (it : SI) (body : SS) : (sFor tg it body cl r M).wp N R = (it cl r M).wp fun p M => (forL (body cl) tg p.2 p.1 r M).wp N R := by
  unfold sFor; rw [wp_ofI]
/-! functions -/
class HasF (T : Tab) (f : Str) (F : Fn) : Prop where
  look : T.lookup f = some F
theorem run_has {T : Tab} {f : Str} {F : Fn} (i : HasF T f F) (n : Nat) (ds : List D) (M : Mem) : run T (n + 1) f ds M = F.run (run T n) ds M := by
  simp only [run, i.look]
theorem run_succ {T : Tab} {f : Str} {F : Fn} (h : T.lookup f = some F) (n : Nat) (ds : List D) (M : Mem) : run T (n + 1) f ds M = F.run (run T n) ds M := by
  simp only [run, h]
theorem wp_run {F : Fn} {cl : Cl} {ds : List D} {M : Mem} {Q : RV → Mem → Prop} (hl : ds.length = F.ar)
    (h : (F.body cl (ds.map some ++ List.replicate (F.ns - ds.length) none) M).wp (fun _ M' => (fin F.mode M (.d .non) M').wp Q) (fun x M' => (fin F.mode M x M').wp Q)) : (F.run cl ds M).wp Q := by
  unfold Fn.run
  rw [if_pos hl]
  cases e : F.body cl (ds.map some ++ List.replicate (F.ns - ds.length) none) M with
  | nx r M' => rw [e] at h; exact h
  | ret x M' => rw [e] at h; exact h
  | err => rw [e] at h; exact h.elim
  | bad => rw [e] at h; exact h.elim
theorem fin_d {M : Mem} {x : D} {l : Mem} (h : x.bel M.length = true) (hn : ∀ n, x ≠ .hdl n) : fin .pure M (.d x) (M ++ l) = .ok (.d x) M := by
  unfold fin
  simp only [List.take_left, if_true]
  cases x with
  | hdl n => exact absurd rfl (hn n)
  | _ => simp only [h, if_true]
theorem fin_d0 {M : Mem} {x : D} (h : x.bel M.length = true) (hn : ∀ n, x ≠ .hdl n) : fin .pure M (.d x) M = .ok (.d x) M := by
  have := fin_d (l := []) h hn
  rwa [List.append_nil] at this
theorem fin_o {M : Mem} {x : O} {l : Mem} (h : x.bel M.length = true) : fin .pure M (.o x) (M ++ l) = .ok (.o x) M := by
  unfold fin
  simp only [List.take_left, if_true, h]
theorem fin_h {M : Mem} {n : Nat} {l : Mem} {o : O} (hn : M.length ≤ n) (he : (M ++ l)[n]? = some o) (h : o.bel M.length = true) : fin .pure M (.d (.hdl n)) (M ++ l) = .ok (.o o) M := by
  unfold fin
  simp only [List.take_left, if_true, he, h]
  rw [if_neg (by omega)]
end
/-! loops -/
theorem forL_wp {A : Type} (enc : A → D) {body : Env → Mem → SR} {tg : Tg} {c : Chk} {N : Env → Mem → Prop} {R : RV → Mem → Prop} (I : List A → Env → Mem → Prop)
    (h0 : ∀ r M, I [] r M → chkOk c M = true ∧ N r M)
    (hs : ∀ a l r M, I (a :: l) r M → chkOk c M = true ∧ envV (asg tg (enc a) r) fun r1 => (body r1 M).wp (fun r2 M2 => Kp (I l r2 M2)) R) :
    ∀ (l : List A) r M, I l r M → (forL body tg c (l.map enc) r M).wp N R
  | [], r, M, h => by
    obtain ⟨h1, h2⟩ := h0 r M h
    simp only [List.map_nil, forL, h1, if_true, SR.wp]
    exact h2
  | a :: l, r, M, h => by
    obtain ⟨h1, h2⟩ := hs a l r M h
    simp only [List.map_cons, forL, h1, if_true]
    cases e : asg tg (enc a) r with
    | none => rw [e] at h2; exact h2.elim
    | some r1 =>
      rw [e] at h2
      simp only [envV] at h2
      simp only
      cases e2 : body r1 M with
      | nx r2 M2 => rw [e2] at h2; exact forL_wp enc I h0 hs l r2 M2 h2
      | ret x M2 => rw [e2] at h2; exact h2
      | err => rw [e2] at h2; exact h2.elim
      | bad => rw [e2] at h2; exact h2.elim
@[simp] theorem chk_nil (M : Mem) : chkOk [] M = true := nrfl rfl
/-- a loop that is a fold -/
theorem forL_fold {A S : Type} (enc : A → D) (st : S → Env) (mm : S → Mem) (f : S → A → S) {body : Env → Mem → SR} {tg : Tg} {c : Chk} (hc : ∀ s, chkOk c (mm s) = true)
    (hs : ∀ s a, envV (asg tg (enc a) (st s)) fun r1 => body r1 (mm s) = .nx (st (f s a)) (mm (f s a))) : ∀ (l : List A) s, forL body tg c (l.map enc) (st s) (mm s) = .nx (st (l.foldl f s)) (mm (l.foldl f s))
  | [], s => by simp [forL, hc]
  | a :: l, s => by
    have h := hs s a
    simp only [List.map_cons, forL, hc, if_true]
    cases e : asg tg (enc a) (st s) with
    | none => rw [e] at h; exact h.elim
    | some r1 =>
      rw [e] at h
      simp only [envV] at h
      simp only [h]
      exact forL_fold enc st mm f hc hs l _
/-- a comprehension -/
theorem compL_map {A : Type} (enc : A → D) {elt : Env → Mem → Res RV} {tst : Env → Mem → Res Bool} {tg : Tg} {r : Env} {M : Mem} {c : Chk} (hc : chkOk c M = true) (p : A → Bool) (g : A → D)
    (h : ∀ a, envV (asg tg (enc a) r) fun r1 => tst r1 M = .ok (p a) M ∧ (p a = true → elt r1 M = .ok (.d (g a)) M)) : ∀ (l : List A) (acc : List D), acc.length + l.length ≤ lim →
    compL elt tst tg c r (l.map enc) acc M = .ok (.o (.lst (acc ++ (l.filter p).map g))) M
  | [], acc, _ => by simp [compL, hc]
  | a :: l, acc, hl => by
    have h1 := h a
    simp only [List.map_cons, compL, hc, if_true]
    simp only [List.length_cons] at hl
    cases e : asg tg (enc a) r with
    | none => rw [e] at h1; exact h1.elim
    | some r1 =>
      rw [e] at h1
      simp only [envV] at h1
      obtain ⟨h2, h3⟩ := h1
      simp only [h2, Res.calm, Res.bind]
      cases hp : p a with
      | false =>
        simp only [Bool.false_eq_true, if_false, List.filter_cons, hp]
        exact compL_map enc hc p g h l acc (by omega)
      | true =>
        simp only [if_true, h3 hp, Res.calm, Res.bind, List.filter_cons, hp]
        rw [if_pos (by omega)]
        simp only [box]
        rw [compL_map enc hc p g h l _ (by simp; omega)]
        simp
@[simp] theorem wp_eComp {elt : SE} {tst : STt} {tg : Tg} {own : List Nat} {it : SI} {cl : Cl} {r : Env} {M : Mem} {Q : RV → Mem → Prop} :
    (eComp elt tst tg own it cl r M).wp Q = (it cl r M).wp fun p M => (compL (elt cl) (tst cl) tg p.2 (wipe r own) p.1 [] M).wp Q := by
  unfold eComp; rw [wp_bind]
end MI
namespace MI
/-- a loop over range(n) -/
theorem forL_range {body : Env → Mem → SR} {tg : Tg} {N : Env → Mem → Prop} {R : RV → Mem → Prop} {lo : Int} {n : Nat} (I : Nat → Env → Mem → Prop)
    (h0 : ∀ r M, I n r M → N r M)
    (hs : ∀ j r M, j < n → I j r M → envV (asg tg (.int (lo + (j : Int))) r) fun r1 => (body r1 M).wp (fun r2 M2 => Kp (I (j + 1) r2 M2)) R) :
    ∀ r M, I 0 r M → (forL body tg [] (rngD lo n) r M).wp N R := by
  have key : ∀ (m j : Nat) r M, j + m = n → I j r M → (forL body tg [] ((List.range' j m).map fun k : Nat => D.int (lo + (k : Int))) r M).wp N R := by
    intro m
    induction m with
    | zero =>
      intro j r M e h
      have e' : j = n := by omega
      subst e'
      simp only [List.range'_zero, List.map_nil, forL, chk_nil, if_true, SR.wp]
      exact h0 r M h
    | succ m ih =>
      intro j r M e h
      have h2 := hs j r M (by omega) h
      simp only [List.range'_succ, List.map_cons, forL, chk_nil, if_true]
      cases e1 : asg tg (.int (lo + (j : Int))) r with
      | none => rw [e1] at h2; exact h2.elim
      | some r1 =>
        rw [e1] at h2
        simp only [envV] at h2
        simp only
        cases e2 : body r1 M with
        | nx r2 M2 => rw [e2] at h2; exact ih (j + 1) r2 M2 (by omega) h2
        | ret x M2 => rw [e2] at h2; exact h2
        | err => rw [e2] at h2; exact h2.elim
        | bad => rw [e2] at h2; exact h2.elim
  intro r M h
  have := key n 0 r M (by omega) h
  rwa [← List.range_eq_range'] at this
end MI
namespace MI
/-- a comprehension without a test -/
theorem compL_all {A : Type} (enc : A → D) {elt : Env → Mem → Res RV} {cl : Cl} {tg : Tg} {r : Env} {M : Mem} {c : Chk} (hc : chkOk c M = true) (g : A → D)
    (h : ∀ a, envV (asg tg (enc a) r) fun r1 => elt r1 M = .ok (.d (g a)) M) (l : List A) (hl : l.length ≤ lim) :
    compL elt (tYes cl) tg c r (l.map enc) [] M = .ok (.o (.lst (l.map g))) M := by
  rw [compL_map enc hc (fun _ => true) g (fun a => ?_) l [] (by simpa using hl)]
  · simp only [List.nil_append]
    congr 3
    rw [show (l.filter fun _ => true) = l from List.filter_eq_self.mpr fun _ _ => rfl]
  · have := h a
    cases e : asg tg (enc a) r with
    | none => rw [e] at this; exact this.elim
    | some r1 => rw [e] at this; exact ⟨rfl, fun _ => this⟩
end MI
namespace MI
open PySem (Str PyData)
section
variable {A B : Type} {cl : Cl} {r : Env} {M : Mem}
@[simp] theorem wp_eM0 (m : Nat → Mem → Res RV) (o : SE) (Q : RV → Mem → Prop) : (eM0 m o cl r M).wp Q = (o cl r M).wp fun x M => hdlV x fun n => (lstT (.d (.hdl n)) M).isSome = true ∧ (m n M).wp Q := by
  unfold eM0; rw [wp_bind]; refine wp_ext fun x M => ?_
  unfold hdlV
  split
  · rw [wp_ite]; simp [Res.wp]
  · first | rfl | (split <;> first | rfl | simp_all)
theorem wp_if_bad {c : Prop} [Decidable c] (x : Res A) (Q : A → Mem → Prop) : (if c then x else .bad).wp Q = (c ∧ x.wp Q) := by
  split <;> rename_i h <;> simp [h, Res.wp]
@[simp] theorem wp_eM2 (m : Nat → D → D → Mem → Res RV) (o a b : SE) (Q : RV → Mem → Prop) : (eM2 m o a b cl r M).wp Q = (o cl r M).wp fun x M => hdlV x fun n => (lstT (.d (.hdl n)) M).isSome = true ∧ (a cl r M).wp fun y M => (b cl r (box y M).2).wp fun z M2 => (m n (box y M).1 (box z M2).1 (box z M2).2).wp Q := by
  unfold eM2; rw [wp_bind]; refine wp_ext fun x M => ?_
  unfold hdlV
  split
  · rw [wp_if_bad, wp_bind]; congr 1; refine wp_ext fun y M => ?_; rw [wp_bind]
  · first | rfl | (split <;> first | rfl | simp_all)
def newV (x : RV) (Q : List D → Prop) (_ : Hid Q := .mk) : Prop := match x with
  | .o (.lst ds) => Q ds
  | _ => False
@[simp] theorem newV_lst (ds : List D) (Q : List D → Prop) : newV (.o (.lst ds)) Q = Q ds := nrfl rfl
@[simp] theorem wp_eN1 (m : Nat → D → Mem → Res RV) (o a : SE) (Q : RV → Mem → Prop) : (eN1 m o a cl r M).wp Q = (o cl r M).wp fun x M => newV x fun ds => (a cl r (M ++ [.lst ds])).wp fun y M2 => (m M.length (box y M2).1 (box y M2).2).wp Q := by
  unfold eN1; rw [wp_bind]; refine wp_ext fun x M => ?_
  unfold newV
  split
  · rw [wp_bind]
  · first | rfl | (split <;> first | rfl | simp_all)
@[simp] theorem wp_eN0 (m : Nat → Mem → Res RV) (o : SE) (Q : RV → Mem → Prop) : (eN0 m o cl r M).wp Q = (o cl r M).wp fun x M => newV x fun ds => (m M.length (M ++ [.lst ds])).wp Q := by
  unfold eN0; rw [wp_bind]; refine wp_ext fun x M => ?_
  unfold newV
  split
  · rfl
  · first | rfl | (split <;> first | rfl | simp_all)
def lstV (x : RV) (M : Mem) (Q : List D → Prop) (_ : Hid Q := .mk) : Prop := match lstOf x M with
  | some ds => Q ds
  | _ => False
@[simp] theorem lstV_o (ds : List D) (Q : List D → Prop) : lstV (.o (.lst ds)) M Q = Q ds := nrfl rfl
@[simp] theorem lstV_ro (ds : List D) (Q : List D → Prop) : lstV (.d (.ro ds)) M Q = Q ds := nrfl rfl
theorem lstV_of {x : RV} {ds : List D} (h : lstOf x M = some ds) (Q : List D → Prop) : lstV x M Q = Q ds := by unfold lstV; rw [h]
@[simp] theorem wp_eStep (a : SE) (lo hi : SO) (k : Nat) (Q : RV → Mem → Prop) : (eStep a lo hi k cl r M).wp Q = (a cl r M).wp fun x M => (lo cl r M).wp fun l M => (hi cl r M).wp fun h M => lstV x M fun ds => Q (.o (.lst (pickS (sIx ds.length 0 l) k (ds.take (sIx ds.length ds.length h))))) M := by
  unfold eStep; rw [wp_bind]; refine wp_ext fun x M => ?_; rw [wp_bind]; refine wp_ext fun y M => ?_; rw [wp_bind]; refine wp_ext fun z M => ?_
  unfold lstV
  cases lstOf x M <;> rfl
@[simp] theorem wp_eRev (a : SE) (Q : RV → Mem → Prop) : (eRev a cl r M).wp Q = (a cl r M).wp fun x M => lstV x M fun ds => Q (.o (.lst ds.reverse)) M := by
  unfold eRev; rw [wp_bind]; refine wp_ext fun x M => ?_
  unfold lstV
  cases lstOf x M <;> rfl
@[simp] theorem wp_iRange2 (a b : SE) (Q : List D × Chk → Mem → Prop) : (iRange2 a b cl r M).wp Q = (a cl r M).wp fun x M => (b cl r M).wp fun y M => intV x fun i => intV y fun j => ((-(2 ^ 62) ≤ i ∧ i < 2 ^ 62) ∧ -(2 ^ 62) ≤ j ∧ j < 2 ^ 62) ∧ Q (rngD i (j - i).toNat, []) M := by
  unfold iRange2; rw [wp_bind]; refine wp_ext fun x M => ?_; rw [wp_bind]; refine wp_ext fun y M => ?_
  rcases x with (_ | _ | i | _ | _ | _ | _) | _ <;> rcases y with (_ | _ | j | _ | _ | _ | _) | _ <;> first | rfl | skip
  simp only [intV]
  rw [wp_if_bad]; rfl
@[simp] theorem wp_iRange3 (a b c : SE) (Q : List D × Chk → Mem → Prop) : (iRange3 a b c cl r M).wp Q = (a cl r M).wp fun x M => (b cl r M).wp fun y M => (c cl r M).wp fun z M => intV x fun i => intV y fun j => intV z fun c => ((-(2 ^ 61) ≤ i ∧ i < 2 ^ 61) ∧ (-(2 ^ 61) ≤ j ∧ j < 2 ^ 61) ∧ c ≠ 0 ∧ c.natAbs < 1000000) ∧ Q (rngC i c (rgN i j c), []) M := by
  unfold iRange3; rw [wp_bind]; refine wp_ext fun x M => ?_; rw [wp_bind]; refine wp_ext fun y M => ?_; rw [wp_bind]; refine wp_ext fun z M => ?_
  rcases x with (_ | _ | i | _ | _ | _ | _) | _ <;> rcases y with (_ | _ | j | _ | _ | _ | _) | _ <;> rcases z with (_ | _ | j | _ | _ | _ | _) | _ <;> first | rfl | skip
  simp only [intV]
  rw [wp_if_bad]; rfl
end
end MI
namespace MI
/-- .. over data as they stand -/
theorem forL_wpD {body : Env → Mem → SR} {tg : Tg} {c : Chk} {N : Env → Mem → Prop} {R : RV → Mem → Prop} (I : List D → Env → Mem → Prop)
    (h0 : ∀ r M, I [] r M → chkOk c M = true ∧ N r M)
    (hs : ∀ a l r M, I (a :: l) r M → chkOk c M = true ∧ envV (asg tg a r) fun r1 => (body r1 M).wp (fun r2 M2 => Kp (I l r2 M2)) R) (l : List D) (r : Env) (M : Mem) (h : I l r M) : (forL body tg c l r M).wp N R := by
  have := forL_wp (fun d : D => d) I h0 hs l r M h
  rwa [List.map_id' l] at this
end MI
namespace MI
/-- a comprehension, by what its items are -/
theorem compL_mapM {A : Type} (enc : A → D) {elt : Env → Mem → Res RV} {tst : Env → Mem → Res Bool} {tg : Tg} {r : Env} {M : Mem} {c : Chk} (hc : chkOk c M = true) (p : A → Bool) (g : A → D) :
    ∀ (l : List A), (∀ a ∈ l, envV (asg tg (enc a) r) fun r1 => tst r1 M = .ok (p a) M ∧ (p a = true → elt r1 M = .ok (.d (g a)) M)) → ∀ (acc : List D), acc.length + l.length ≤ lim →
    compL elt tst tg c r (l.map enc) acc M = .ok (.o (.lst (acc ++ (l.filter p).map g))) M
  | [], _, acc, _ => by simp [compL, hc]
  | a :: l, h, acc, hl => by
    have h1 := h a List.mem_cons_self
    have h' := fun x hx => h x (List.mem_cons_of_mem _ hx)
    simp only [List.map_cons, compL, hc, if_true]
    simp only [List.length_cons] at hl
    cases e : asg tg (enc a) r with
    | none => rw [e] at h1; exact h1.elim
    | some r1 =>
      rw [e] at h1
      simp only [envV] at h1
      obtain ⟨h2, h3⟩ := h1
      simp only [h2, Res.calm, Res.bind]
      cases hp : p a with
      | false =>
        simp only [Bool.false_eq_true, if_false, List.filter_cons, hp]
        exact compL_mapM enc hc p g l h' acc (by omega)
      | true =>
        simp only [if_true, h3 hp, Res.calm, Res.bind, List.filter_cons, hp]
        rw [if_pos (by omega)]
        simp only [box]
        rw [compL_mapM enc hc p g l h' _ (by simp; omega)]
        simp
theorem compL_allM {A : Type} (enc : A → D) {elt : Env → Mem → Res RV} {cl : Cl} {tg : Tg} {r : Env} {M : Mem} {c : Chk} (hc : chkOk c M = true) (g : A → D) (l : List A)
    (h : ∀ a ∈ l, envV (asg tg (enc a) r) fun r1 => elt r1 M = .ok (.d (g a)) M) (hl : l.length ≤ lim) :
    compL elt (tYes cl) tg c r (l.map enc) [] M = .ok (.o (.lst (l.map g))) M := by
  rw [compL_mapM enc hc (fun _ => true) g l (fun a ha => ?_) [] (by simpa using hl)]
  · simp only [List.nil_append]
    congr 3
    rw [show (l.filter fun _ => true) = l from List.filter_eq_self.mpr fun _ _ => rfl]
  · have := h a ha
    cases e : asg tg (enc a) r with
    | none => rw [e] at this; exact this.elim
    | some r1 => rw [e] at this; exact ⟨rfl, fun _ => this⟩
end MI
end
section
set_option linter.all false
set_option autoImplicit false
/-! MJ2: operations on plain data -/
namespace MI
open PySem (Str PyData)
@[simp] theorem wp_bad {A : Type} (Q : A → Mem → Prop) : (Res.bad : Res A).wp Q = False := nrfl rfl
section
variable {M : Mem} {i j : Int} {b c : Bool}
@[simp] theorem oAdd_int : oAdd (.d (.int i)) (.d (.int j)) M = .ok (.d (.int (i + j))) M := nrfl rfl
@[simp] theorem oSub_int : oSub (.d (.int i)) (.d (.int j)) M = .ok (.d (.int (i - j))) M := nrfl rfl
@[simp] theorem oNeg_int : oNeg (.d (.int i)) M = .ok (.d (.int (-i))) M := nrfl rfl
@[simp] theorem oMul_int : oMul (.d (.int i)) (.d (.int j)) M = if (-(2 ^ 64) < i ∧ i < 2 ^ 64) ∨ (-(2 ^ 64) < j ∧ j < 2 ^ 64) then .ok (.d (.int (i * j))) M else .bad := nrfl rfl
@[simp] theorem oDiv_int : oDiv (.d (.int i)) (.d (.int j)) M = if 0 < j ∧ j < 1267650600228229401496703205376 then .ok (.d (.int (i / j))) M else .bad := nrfl rfl
@[simp] theorem oMod_int : oMod (.d (.int i)) (.d (.int j)) M = if 0 < j then .ok (.d (.int (i % j))) M else .bad := nrfl rfl
@[simp] theorem oPow_int : oPow (.d (.int i)) (.d (.int j)) M = if 0 ≤ j ∧ j ≤ 1000000 ∧ i.natAbs < 2 ^ 64 then .ok (.d (.int (i ^ j.toNat))) M else .bad := nrfl rfl
@[simp] theorem oLt_int : oLt (.d (.int i)) (.d (.int j)) M = .ok (.d (.bl (decide (i < j)))) M := nrfl rfl
@[simp] theorem oLe_int : oLe (.d (.int i)) (.d (.int j)) M = .ok (.d (.bl (decide (i ≤ j)))) M := nrfl rfl
@[simp] theorem oGt_int : oGt (.d (.int i)) (.d (.int j)) M = .ok (.d (.bl (decide (j < i)))) M := nrfl rfl
@[simp] theorem oGe_int : oGe (.d (.int i)) (.d (.int j)) M = .ok (.d (.bl (decide (j ≤ i)))) M := nrfl rfl
@[simp] theorem derR_int : derR (.d (.int i)) M = some (.int i) := nrfl rfl
@[simp] theorem derR_bl : derR (.d (.bl b)) M = some (.bool b) := nrfl rfl
@[simp] theorem derR_non : derR (.d .non) M = some .none := nrfl rfl
theorem oEq_of {x y : RV} {p q : PyData} (h1 : derR x M = some p) (h2 : derR y M = some q) : oEq x y M = .ok (.d (.bl (peq p q))) M := by unfold oEq; rw [h1, h2]; rfl
theorem oNe_of {x y : RV} {p q : PyData} (h1 : derR x M = some p) (h2 : derR y M = some q) : oNe x y M = .ok (.d (.bl (!peq p q))) M := by unfold oNe; rw [h1, h2]; rfl
@[simp] theorem oEq_int : oEq (.d (.int i)) (.d (.int j)) M = .ok (.d (.bl (decide (i = j)))) M := by rw [oEq_of derR_int derR_int]; rfl
@[simp] theorem oNe_int : oNe (.d (.int i)) (.d (.int j)) M = .ok (.d (.bl (!decide (i = j)))) M := by rw [oNe_of derR_int derR_int]; rfl
@[simp] theorem oEq_bl : oEq (.d (.bl b)) (.d (.bl c)) M = .ok (.d (.bl (b == c))) M := by rw [oEq_of derR_bl derR_bl]; rfl
@[simp] theorem oNe_bl : oNe (.d (.bl b)) (.d (.bl c)) M = .ok (.d (.bl (b != c))) M := by rw [oNe_of derR_bl derR_bl]; rfl
@[simp] theorem oIs_non (x : RV) : oIs x (.d .non) M = .ok (.d (.bl (decide (x = .d .non)))) M := by
  cases x with
  | d d => cases d <;> rfl
  | o o => rfl
@[simp] theorem oIsNot_non (x : RV) : oIsNot x (.d .non) M = .ok (.d (.bl (!decide (x = .d .non)))) M := by
  cases x with
  | d d => cases d <;> rfl
  | o o => rfl
@[simp] theorem truR_bl : truR (.d (.bl b)) M = some b := nrfl rfl
@[simp] theorem truR_int : truR (.d (.int i)) M = some (i != 0) := nrfl rfl
@[simp] theorem truR_non : truR (.d .non) M = some false := nrfl rfl
/-- the item of a sequence -/
theorem oIx_seq {x : RV} {ds : List D} {k : Nat} {d : D} (h : seqOf x M = some ds) (h1 : ixN ds.length i = some k) (h2 : ds[k]? = some d) : oIx x (.d (.int i)) M = .ok (.d d) M := by
  unfold oIx
  simp only [h, h1, h2]
theorem ixN_pos {n : Nat} {i : Int} (h0 : 0 ≤ i) (h1 : i < n) : ixN n i = some i.toNat := by
  unfold ixN; rw [if_pos h0, if_pos h1]
theorem ixN_neg {n : Nat} {i : Int} (h0 : i < 0) (h1 : -(n : Int) ≤ i) : ixN n i = some (i + n).toNat := by
  unfold ixN; rw [if_neg (by omega), if_pos h1]
@[simp] theorem seqOf_tup (ds : List D) : seqOf (.d (.tup ds)) M = some ds := nrfl rfl
@[simp] theorem seqOf_ro (ds : List D) : seqOf (.d (.ro ds)) M = some ds := nrfl rfl
@[simp] theorem seqOf_lst (ds : List D) : seqOf (.o (.lst ds)) M = some ds := nrfl rfl
@[simp] theorem chkR_tup (ds : List D) : chkR (.d (.tup ds)) M = [] := nrfl rfl
@[simp] theorem chkR_ro (ds : List D) : chkR (.d (.ro ds)) M = [] := nrfl rfl
@[simp] theorem chkR_o (o : O) : chkR (.o o) M = [] := nrfl rfl
@[simp] theorem oIx_t0 (a : D) (r : List D) : oIx (.d (.tup (a :: r))) (.d (.int 0)) M = .ok (.d a) M := by
  refine oIx_seq rfl (ixN_pos (by omega) (by simp)) rfl
@[simp] theorem oIx_t1 (a b : D) (r : List D) : oIx (.d (.tup (a :: b :: r))) (.d (.int 1)) M = .ok (.d b) M := by
  refine oIx_seq rfl (ixN_pos (by omega) (by simp; omega)) rfl
@[simp] theorem oIx_t2 (a b c : D) (r : List D) : oIx (.d (.tup (a :: b :: c :: r))) (.d (.int 2)) M = .ok (.d c) M := by
  refine oIx_seq rfl (ixN_pos (by omega) (by simp; omega)) rfl
@[simp] theorem bLen_tup (ds : List D) : bLen (.d (.tup ds)) M = .ok (.d (.int ds.length)) M := nrfl rfl
@[simp] theorem bLen_ro (ds : List D) : bLen (.d (.ro ds)) M = .ok (.d (.int ds.length)) M := nrfl rfl
@[simp] theorem bLen_lst (ds : List D) : bLen (.o (.lst ds)) M = .ok (.d (.int ds.length)) M := nrfl rfl
@[simp] theorem box_d (d : D) : box (.d d) M = (d, M) := nrfl rfl
@[simp] theorem box_o (o : O) : box (.o o) M = (.hdl M.length, M ++ [o]) := nrfl rfl
@[simp] theorem asg_nm (k : Nat) (d : D) (r : Env) : asg (.nm k) d r = some (r.set k (some d)) := nrfl rfl
@[simp] theorem asg_tp (is : List Nat) (ds : List D) (r : Env) : asg (.tp is) (.tup ds) r = setAll is ds r := nrfl rfl
@[simp] theorem setAll_nil (r : Env) : setAll [] [] r = some r := nrfl rfl
@[simp] theorem setAll_cons (k : Nat) (is : List Nat) (d : D) (ds : List D) (r : Env) : setAll (k :: is) (d :: ds) r = setAll is ds (r.set k (some d)) := nrfl rfl
@[simp] theorem wipe_nil (r : Env) : wipe r [] = r := nrfl rfl
@[simp] theorem wipe_cons (k : Nat) (is : List Nat) (r : Env) : wipe r (k :: is) = (wipe r is).set k none := nrfl rfl
/-! the memory's end -/
@[simp] theorem get_last (o : O) : (M ++ [o])[M.length]? = some o := by simp
@[simp] theorem set_last (o o' : O) : (M ++ [o]).set M.length o' = M ++ [o'] := by
  rw [List.set_append_right _ _ (Nat.le_refl _), Nat.sub_self]; rfl
end
end MI
namespace MI
open PySem (Str PyData)
/-! texts -/
theorem ofString_inj {a b : String} : Str.ofString a = Str.ofString b ↔ a = b := by
  refine ⟨fun h => ?_, fun h => by rw [h]⟩
  rw [Str.ofString_eq_toList, Str.ofString_eq_toList] at h
  injection h with h
  have h2 : a.toList.map Char.toNat = b.toList.map Char.toNat := by simpa using h
  have h3 : a.toList = b.toList := by
    generalize a.toList = xs at h2
    generalize b.toList = ys at h2
    induction xs generalizing ys with
    | nil => cases ys with
      | nil => rfl
      | cons => simp at h2
    | cons x xs ih => cases ys with
      | nil => simp at h2
      | cons y ys =>
        simp only [List.map_cons, List.cons.injEq] at h2
        rw [Char.toNat_inj.mp h2.1, ih ys h2.2]
  exact String.toList_inj.mp h3
@[simp] theorem ofString_eq_iff (a b : String) : (Str.ofString a = Str.ofString b) = (a = b) := propext ofString_inj
def okS (s : Str) : Bool := s.cps.all (· < 0x110000)
@[simp] theorem okS_lit (a : String) : okS (Str.ofString a) = true := by
  rw [Str.ofString_eq_toList]
  unfold okS
  rw [List.all_toArray, List.all_eq_true]
  intro x hx
  obtain ⟨c, _, rfl⟩ := List.mem_map.mp hx
  have := c.valid
  have h2 : c.toNat = c.val.toNat := rfl
  simp only [UInt32.isValidChar, Nat.isValidChar] at this
  rw [decide_eq_true_eq, h2]
  omega
section
variable {M : Mem} {s t : Str}
theorem derR_str (h : okS s = true) : derR (.d (.str s)) M = some (.str s) := by
  show (if s.cps.all (· < 0x110000) then some (PyData.str s) else none) = _
  exact if_pos h
@[simp] theorem oEq_str : oEq (.d (.str s)) (.d (.str t)) M = if okS s = true ∧ okS t = true then .ok (.d (.bl (decide (s = t)))) M else .bad := by
  split
  · rename_i h
    rw [oEq_of (derR_str h.1) (derR_str h.2)]
    rfl
  · rename_i h
    unfold oEq
    have e : ∀ s : Str, derR (.d (.str s)) M = if okS s = true then some (.str s) else none := fun s => rfl
    rw [e, e]
    by_cases h1 : okS s = true
    · have h2 : ¬ okS t = true := fun z => h ⟨h1, z⟩
      rw [if_neg h2]; cases (if okS s = true then some (PyData.str s) else none) <;> rfl
    · rw [if_neg h1]
end
end MI
namespace MI
open PySem (Str PyData)
/-! dicts -/
theorem dget_cons' (p : D × D) (r : List (D × D)) (k : D) : dget (p :: r) k = if p.1 = k then some p.2 else dget r k := by
  unfold dget
  rw [List.find?_cons]
  by_cases h : p.1 = k
  · simp [h]
  · simp [h]
theorem dget_none {k : D} : ∀ {kvs : List (D × D)}, (kvs.any fun kv => decide (kv.1 = k)) = false → dget kvs k = none
  | [], _ => rfl
  | p :: r, h => by
    rw [List.any_cons, Bool.or_eq_false_iff] at h
    rw [dget_cons', if_neg (by simpa using h.1), dget_none h.2]
theorem dget_append {k : D} (a b : List (D × D)) : dget (a ++ b) k = (dget a k).orElse fun _ => dget b k := by
  induction a with
  | nil => rfl
  | cons p r ih =>
    rw [List.cons_append, dget_cons', dget_cons', ih]
    split <;> rfl
theorem dget_repl {k v k' : D} : ∀ {kvs : List (D × D)}, dget (kvs.map fun kv => if kv.1 = k then (kv.1, v) else kv) k' = if k = k' then (if (kvs.any fun kv => decide (kv.1 = k)) = true then some v else none) else dget kvs k'
  | [] => by simp [dget]
  | p :: r => by
    rw [List.map_cons, dget_cons', dget_repl, List.any_cons, dget_cons']
    by_cases h : p.1 = k
    · simp only [h, if_true, decide_true, Bool.true_or]
      by_cases h2 : k = k'
      · simp [h2]
      · simp [h2]
    · simp only [h, if_false, decide_false, Bool.false_or]
      by_cases h2 : k = k'
      · subst h2; simp [h]
      · simp [h2]
theorem dget_dput (kvs : List (D × D)) (k v k' : D) : dget (dput kvs k v) k' = if k = k' then some v else dget kvs k' := by
  unfold dput
  split
  · rename_i h
    rw [dget_repl, h]; simp
  · rename_i h
    rw [dget_append]
    have h' : (kvs.any fun kv => decide (kv.1 = k)) = false := by revert h; cases (kvs.any fun kv => decide (kv.1 = k)) <;> simp
    by_cases h2 : k = k'
    · subst h2
      rw [dget_none h', if_pos rfl]
      simp [dget_cons']
    · rw [if_neg h2]
      simp [dget_cons', h2, dget]
theorem dput_length (kvs : List (D × D)) (k v : D) : (dput kvs k v).length ≤ kvs.length + 1 := by
  unfold dput; split <;> simp
section
variable {M : Mem} {i j : Int} {b c : Bool}
@[simp] theorem get_off (M l : Mem) (k : Nat) : (M ++ l)[M.length + k]? = l[k]? := by
  rw [List.getElem?_append_right (Nat.le_add_right _ _), Nat.add_sub_cancel_left]
@[simp] theorem get_off0 (M l : Mem) : (M ++ l)[M.length]? = l[0]? := get_off M l 0
@[simp] theorem set_off (M l : Mem) (k : Nat) (o : O) : (M ++ l).set (M.length + k) o = M ++ l.set k o := by
  rw [List.set_append_right _ _ (Nat.le_add_right _ _), Nat.add_sub_cancel_left]
@[simp] theorem set_off0 (M l : Mem) (o : O) : (M ++ l).set M.length o = M ++ l.set 0 o := set_off M l 0 o
@[simp] theorem setIx_hdl (n : Nat) (k v : D) : setIx (.hdl n) k v M = match M[n]? with
    | some (.lst ds) => match k with
      | .int i => match ixN ds.length i with
        | some j => some (M.set n (.lst (ds.set j v)))
        | none => none
      | _ => none
    | some (.dic false kvs) => if okK kvs k = true ∧ kvs.length < lim then some (M.set n (.dic false (dput kvs k v))) else none
    | _ => none := nrfl rfl
@[simp] theorem isSk_int (i : Int) : isSk (.int i) = true := nrfl rfl
@[simp] theorem isSk_str (i : Str) : isSk (.str i) = true := nrfl rfl
@[simp] theorem isSk_non : isSk .non = true := nrfl rfl
def skAll (kvs : List (D × D)) : Bool := kvs.all fun p => isSk p.1
def tkAll (kvs : List (D × D)) : Bool := kvs.all fun p => isTk p.1
@[simp] theorem skAll_nil : skAll [] = true := nrfl rfl
@[simp] theorem tkAll_nil : tkAll [] = true := nrfl rfl
theorem okK_sk {kvs : List (D × D)} {k : D} (hk : isSk k = true) : okK kvs k = skAll kvs := by
  unfold okK skAll
  have : isTk k = false := by cases k <;> first | rfl | cases hk
  rw [hk, this]; simp
@[simp] theorem okK_int {kvs : List (D × D)} (i : Int) : okK kvs (.int i) = skAll kvs := okK_sk rfl
@[simp] theorem okK_str {kvs : List (D × D)} (i : Str) : okK kvs (.str i) = skAll kvs := okK_sk rfl
@[simp] theorem okK_non {kvs : List (D × D)} : okK kvs .non = skAll kvs := okK_sk rfl
theorem okK_tup {kvs : List (D × D)} (ds : List D) : okK kvs (.tup ds) = (isTk (.tup ds) && tkAll kvs) := by
  unfold okK tkAll; simp [isSk]
theorem okK_tk {kvs : List (D × D)} {k : D} (hk : isTk k = true) : okK kvs k = tkAll kvs := by
  cases k with
  | tup ds => rw [okK_tup, hk]; rfl
  | _ => cases hk
theorem okK_dput {kvs : List (D × D)} {k v k' : D} (h : okK kvs k = true) (h' : okK kvs k' = true) (e : isSk k = isSk k') : okK (dput kvs k v) k' = true := by
  have key : ∀ f : D → Bool, f k = true → (kvs.all fun p => f p.1) = true → ((dput kvs k v).all fun p => f p.1) = true := fun f h1 h2 => by
    unfold dput
    split
    · rw [List.all_map, List.all_eq_true]
      intro p hp
      have := List.all_eq_true.mp h2 p hp
      simp only [Function.comp]
      split <;> exact this
    · rw [List.all_append, h2]; simp [h1]
  unfold okK at h h' ⊢
  simp only [Bool.or_eq_true, Bool.and_eq_true] at h h' ⊢
  have ns : ∀ x, isSk x = true → isTk x = false := fun x hx => by cases x <;> first | rfl | cases hx
  rcases h with ⟨h1, h2⟩ | ⟨h1, h2⟩
  · exact .inl ⟨by rw [← e]; exact h1, key _ h1 h2⟩
  · rcases h' with ⟨h3, h4⟩ | ⟨h3, h4⟩
    · rw [← e] at h3; rw [ns k h3] at h1; cases h1
    · exact .inr ⟨h3, key _ h1 h2⟩
theorem sk_dput {kvs : List (D × D)} {k v : D} (hk : isSk k = true) (h : skAll kvs = true) : skAll (dput kvs k v) = true := by
  have := okK_dput (v := v) (k' := k) ((okK_sk hk).trans h) ((okK_sk hk).trans h) rfl
  rwa [okK_sk hk] at this
theorem tk_dput {kvs : List (D × D)} {k v : D} (hk : isTk k = true) (h : tkAll kvs = true) : tkAll (dput kvs k v) = true := by
  have := okK_dput (v := v) (k' := k) ((okK_tk hk).trans h) ((okK_tk hk).trans h) rfl
  rwa [okK_tk hk] at this
theorem oIn_dic {k : D} {x : RV} {kvs : List (D × D)} (h : dicOf x M = some kvs) (hk : okK kvs k = true) : oIn (.d k) x M = .ok (.d (.bl (dget kvs k).isSome)) M := by
  unfold oIn inR
  simp only [h, hk, if_true]; rfl
theorem oNotIn_dic {k : D} {x : RV} {kvs : List (D × D)} (h : dicOf x M = some kvs) (hk : okK kvs k = true) : oNotIn (.d k) x M = .ok (.d (.bl (!(dget kvs k).isSome))) M := by
  unfold oNotIn inR
  simp only [h, hk, if_true]; rfl
@[simp] theorem dicOf_hdl (n : Nat) : dicOf (.d (.hdl n)) M = match M[n]? with
    | some (.dic _ kvs) => some kvs
    | _ => none := nrfl rfl
@[simp] theorem fin_hdl (k : Nat) (l : Mem) : fin .pure M (.d (.hdl (M.length + k))) (M ++ l) = match l[k]? with
    | some o => if o.bel M.length = true then .ok (.o o) M else .bad
    | none => .bad := by
  unfold fin
  simp only [List.take_left, if_true, get_off]
  rw [if_neg (by omega)]
  all_goals (cases l[k]? <;> rfl)
@[simp] theorem fin_hdl0 (l : Mem) : fin .pure M (.d (.hdl M.length)) (M ++ l) = match l[0]? with
    | some o => if o.bel M.length = true then .ok (.o o) M else .bad
    | none => .bad := fin_hdl 0 l
@[simp] theorem fin_o' (o : O) (l : Mem) : fin .pure M (.o o) (M ++ l) = if o.bel M.length = true then .ok (.o o) M else .bad := by
  unfold fin; simp only [List.take_left, if_true]
@[simp] theorem fin_o0' (o : O) : fin .pure M (.o o) M = if o.bel M.length = true then .ok (.o o) M else .bad := by
  unfold fin; simp only [List.take_length, if_true]
@[simp] theorem mAppend_def (n : Nat) (d : D) : mAppend n d M = match M[n]? with
    | some (.lst ds) => if ds.length < lim then .ok (.d .non) (M.set n (.lst (ds ++ [d]))) else .bad
    | _ => .bad := nrfl rfl
@[simp] theorem lstT_hdl (n : Nat) : lstT (.d (.hdl n)) M = match M[n]? with
    | some (.lst ds) => some ds
    | _ => none := nrfl rfl
@[simp] theorem lstT_o (ds : List D) : lstT (.o (.lst ds)) M = some ds := nrfl rfl
@[simp] theorem lstOf_hdl (n : Nat) : lstOf (.d (.hdl n)) M = match M[n]? with
    | some (.lst ds) => some ds
    | _ => none := nrfl rfl
@[simp] theorem lstOf_o (ds : List D) : lstOf (.o (.lst ds)) M = some ds := nrfl rfl
@[simp] theorem lstOf_ro (ds : List D) : lstOf (.d (.ro ds)) M = some ds := nrfl rfl
@[simp] theorem seqOf_hdl (n : Nat) : seqOf (.d (.hdl n)) M = match M[n]? with
    | some (.lst ds) => some ds
    | _ => none := nrfl rfl
@[simp] theorem chkR_hdl (n : Nat) : chkR (.d (.hdl n)) M = match M[n]? with
    | some (.lst ds) => [(n, .lst ds)]
    | _ => [] := nrfl rfl
/-- in a list, by what stands in it -/
def inDeep (neg : Bool) (k : D) (r : RV) (M : Mem) : Res RV := match derR (.d k) M, derR r M with
  | some p, some (.list qs) => .ok (.d (.bl (if neg then !(qs.any fun z => peq z p) else qs.any fun z => peq z p))) M
  | _, _ => .bad
@[simp] theorem oIn_hdl (n : Nat) (k : D) : oIn (.d k) (.d (.hdl n)) M = match M[n]? with
    | some (.dic _ kvs) => if okK kvs k = true then .ok (.d (.bl (dget kvs k).isSome)) M else .bad
    | some (.lst ds) => if (k.flat && ds.all D.flat) = true then .ok (.d (.bl (ds.any fun d => feq d k))) M else inDeep false k (.d (.hdl n)) M
    | _ => .bad := by
  unfold oIn inR inDeep
  simp only [dicOf_hdl, seqOf_hdl]
  cases M[n]? with
  | none => rfl
  | some o =>
    cases o with
    | lst ds =>
      simp only
      by_cases h : (k.flat && ds.all D.flat) = true
      · simp only [h, if_true]; rfl
      · simp only [h, if_false]
        cases derR (.d k) M with
        | none => rfl
        | some p =>
          cases derR (.d (.hdl n)) M with
          | none => rfl
          | some q => cases q <;> rfl
    | dic fz kvs => simp only; by_cases h : okK kvs k = true <;> simp [h, vB]
    | ins => rfl
@[simp] theorem oNotIn_hdl (n : Nat) (k : D) : oNotIn (.d k) (.d (.hdl n)) M = match M[n]? with
    | some (.dic _ kvs) => if okK kvs k = true then .ok (.d (.bl (!(dget kvs k).isSome))) M else .bad
    | some (.lst ds) => if (k.flat && ds.all D.flat) = true then .ok (.d (.bl (!(ds.any fun d => feq d k)))) M else inDeep true k (.d (.hdl n)) M
    | _ => .bad := by
  unfold oNotIn inR inDeep
  simp only [dicOf_hdl, seqOf_hdl]
  cases M[n]? with
  | none => rfl
  | some o =>
    cases o with
    | lst ds =>
      simp only
      by_cases h : (k.flat && ds.all D.flat) = true
      · simp only [h, if_true]; rfl
      · simp only [h, if_false]
        cases derR (.d k) M with
        | none => rfl
        | some p =>
          cases derR (.d (.hdl n)) M with
          | none => rfl
          | some q => cases q <;> rfl
    | dic fz kvs => simp only; by_cases h : okK kvs k = true <;> simp [h, vB]
    | ins => rfl
@[simp] theorem bTuple_hdl (n : Nat) : bTuple (.d (.hdl n)) M = match M[n]? with
    | some (.lst ds) => .ok (.d (.tup ds)) M
    | _ => .bad := by
  unfold bTuple; rw [seqOf_hdl]; cases M[n]? with
  | none => rfl
  | some o => cases o <;> rfl
@[simp] theorem bTuple_o (ds : List D) : bTuple (.o (.lst ds)) M = .ok (.d (.tup ds)) M := nrfl rfl
@[simp] theorem bTuple_tup (ds : List D) : bTuple (.d (.tup ds)) M = .ok (.d (.tup ds)) M := nrfl rfl
@[simp] theorem bList_hdl (n : Nat) : bList (.d (.hdl n)) M = match M[n]? with
    | some (.lst ds) => .ok (.o (.lst ds)) M
    | some (.dic _ kvs) => .ok (.o (.lst (kvs.map (·.1)))) M
    | _ => .bad := by
  unfold bList; rw [seqOf_hdl, dicOf_hdl]; cases M[n]? with
  | none => rfl
  | some o => cases o <;> rfl
@[simp] theorem bList_o (ds : List D) : bList (.o (.lst ds)) M = .ok (.o (.lst ds)) M := nrfl rfl
@[simp] theorem bList_tup (ds : List D) : bList (.d (.tup ds)) M = .ok (.o (.lst ds)) M := nrfl rfl
@[simp] theorem bLen_hdl (n : Nat) : bLen (.d (.hdl n)) M = match M[n]? with
    | some (.lst ds) => .ok (.d (.int ds.length)) M
    | _ => .bad := by
  show (match seqOf (.d (.hdl n)) M with | some ds => vI ds.length M | none => .bad) = _
  rw [seqOf_hdl]; cases M[n]? with
  | none => rfl
  | some o => cases o <;> rfl
@[simp] theorem oAdd_tup (xs ys : List D) : oAdd (.d (.tup xs)) (.d (.tup ys)) M = if xs.length + ys.length ≤ lim then .ok (.d (.tup (xs ++ ys))) M else .bad := nrfl rfl
@[simp] theorem asInts_map (l : List Int) : asInts (l.map D.int) = some l := by
  induction l with
  | nil => rfl
  | cons a l ih => simp [asInts, ih]
theorem bSortedSet_of {x : RV} {l : List Int} (h : seqOf x M = some (l.map D.int)) (hl : l.length < 4000) : bSortedSet x M = .ok (.o (.lst ((sortI (dedI l)).map D.int))) M := by
  unfold bSortedSet
  simp only [h, asInts_map, hl, if_true]
@[simp] theorem bSortedSet_tup (ds : List D) : bSortedSet (.d (.tup ds)) M = match asInts ds with
    | some ns => if ns.length < 4000 then .ok (.o (.lst ((sortI (dedI ns)).map D.int))) M else .bad
    | none => .bad := by
  unfold bSortedSet
  simp only [seqOf_tup]
  cases asInts ds with
  | some ns => rfl
  | none => rfl
/-- sorted(set(..)) of a list that is none of numbers -/
def bSetRw (ds : List D) (M : Mem) : Res RV := match asRows ds with
  | some rs => if rs.length < 64 ∧ rowsOk (dedR rs) = true then .ok (.o (.lst ((sortR (dedR rs)).map rowD))) M else .bad
  | none => .bad
/-- sorted(..) of things that are none of numbers -/
def bSortRw (ds : List D) (M : Mem) : Res RV := match asRows ds with
  | some rs => if rowsOk rs = true then .ok (.o (.lst ((sortR rs).map rowD))) M else .bad
  | none => .bad
@[simp] theorem bSortedSet_o (ds : List D) : bSortedSet (.o (.lst ds)) M = match asInts ds with
    | some ns => if ns.length < 4000 then .ok (.o (.lst ((sortI (dedI ns)).map D.int))) M else .bad
    | none => bSetRw ds M := by
  unfold bSortedSet bSetRw
  simp only [seqOf_lst, lstOf_o]
  cases asInts ds with
  | some ns => rfl
  | none => cases asRows ds <;> rfl
@[simp] theorem asInts_app (l l' : List Int) : asInts (l.map D.int ++ l'.map D.int) = some (l ++ l') := by
  rw [← List.map_append]; exact asInts_map _
@[simp] theorem pairUp_nil (acc : List (D × D)) : pairUp [] acc = some acc := nrfl rfl
@[simp] theorem pairUp_cons (k v : D) (r : List D) (acc : List (D × D)) : pairUp (k :: v :: r) acc = if isSk k = true then pairUp r (dput acc k v) else none := nrfl rfl
/-- a dict whose keys are whole numbers -/
def IK (kvs : List (D × D)) : Prop := ∃ ks : List Int, kvs.map (·.1) = ks.map D.int
theorem IK.nil : IK [] := ⟨[], rfl⟩
theorem IK.sk {kvs : List (D × D)} (h : IK kvs) : skAll kvs = true := by
  obtain ⟨ks, h⟩ := h
  have : (kvs.map (·.1)).all isSk = true := by rw [h, List.all_map, List.all_eq_true]; intro x _; rfl
  rw [List.all_map] at this
  exact this
theorem IK.put {kvs : List (D × D)} (h : IK kvs) (e : Int) (v : D) : IK (dput kvs (.int e) v) := by
  obtain ⟨ks, h⟩ := h
  unfold dput
  split
  · refine ⟨ks, ?_⟩
    rw [← h, List.map_map]
    refine List.map_congr_left fun kv _ => ?_
    simp only [Function.comp]
    split <;> rfl
  · exact ⟨ks ++ [e], by simp [h]⟩
@[simp] theorem bSorted_hdl (n : Nat) : bSorted (.d (.hdl n)) M = match M[n]? with
    | some (.dic _ kvs) => match asInts (kvs.map (·.1)) with
      | some ns => .ok (.o (.lst ((sortI ns).map D.int))) M
      | none => bSortRw (kvs.map (·.1)) M
    | some (.lst ds) => match asInts ds with
      | some ns => .ok (.o (.lst ((sortI ns).map D.int))) M
      | none => bSortRw ds M
    | _ => .bad := by
  unfold bSorted
  simp only [dicOf_hdl, lstOf_hdl]
  cases M[n]? with
  | none => rfl
  | some o => cases o <;> rfl
@[simp] theorem chkOk_cons (n : Nat) (ds : O) (c : Chk) : chkOk ((n, ds) :: c) M = (decide (M[n]? = some ds) && chkOk c M) := nrfl rfl
@[simp] theorem chkOk_nil : chkOk [] M = true := nrfl rfl
/-- what stood ahead stands -/
theorem get_ahead {l : Mem} {n : Nat} {o : O} (h : M[n]? = some o) : (M ++ l)[n]? = some o := by
  rw [List.getElem?_append_left (List.getElem?_eq_some_iff.mp h).1]; exact h
theorem oIx_any {x : RV} {ds : List D} {i : Int} (h : seqOf x M = some ds) (h0 : 0 ≤ i) (h1 : i < ds.length) : ∃ d, d ∈ ds ∧ oIx x (.d (.int i)) M = .ok (.d d) M := by
  have hl : i.toNat < ds.length := by omega
  exact ⟨ds[i.toNat], List.getElem_mem hl, oIx_seq h (ixN_pos h0 h1) (List.getElem?_eq_getElem hl)⟩
@[simp] theorem bMin2_int : bMin2 (.d (.int i)) (.d (.int j)) M = .ok (.d (.int (min i j))) M := by
  show vI (if j < i then j else i) M = _
  have : (if j < i then j else i) = min i j := by split <;> omega
  rw [this]; rfl
@[simp] theorem bMax2_int : bMax2 (.d (.int i)) (.d (.int j)) M = .ok (.d (.int (max i j))) M := by
  show vI (if j > i then j else i) M = _
  have : (if j > i then j else i) = max i j := by split <;> omega
  rw [this]; rfl
@[simp] theorem bIsi_bl (t : Ty) : bIsi t (.d (.bl b)) M = .ok (.d (.bl (decide (t = .bool) || decide (t = .int)))) M := nrfl rfl
@[simp] theorem bIsi_int (t : Ty) : bIsi t (.d (.int i)) M = .ok (.d (.bl (decide (t = .int)))) M := nrfl rfl
@[simp] theorem bIsi_non (t : Ty) : bIsi t (.d .non) M = .ok (.d (.bl false)) M := nrfl rfl
@[simp] theorem bIsi_str (t : Ty) (s : Str) : bIsi t (.d (.str s)) M = .ok (.d (.bl (decide (t = .str)))) M := nrfl rfl
@[simp] theorem bIsi_tup (t : Ty) (ds : List D) : bIsi t (.d (.tup ds)) M = .ok (.d (.bl (decide (t = .tuple)))) M := nrfl rfl
@[simp] theorem bIsi_ro (t : Ty) (ds : List D) : bIsi t (.d (.ro ds)) M = .ok (.d (.bl (decide (t = .list)))) M := nrfl rfl
@[simp] theorem bIsi_o (t : Ty) (ds : List D) : bIsi t (.o (.lst ds)) M = .ok (.d (.bl (decide (t = .list)))) M := nrfl rfl
@[simp] theorem lim_1 : 1 ≤ lim := by decide
@[simp] theorem lim_2 : 2 ≤ lim := by decide
@[simp] theorem lim_3 : 3 ≤ lim := by decide
@[simp] theorem lim_4 : 4 ≤ lim := by decide
@[simp] theorem lim_5 : 5 ≤ lim := by decide
@[simp] theorem lim_6 : 6 ≤ lim := by decide
@[simp] theorem lim_7 : 7 ≤ lim := by decide
@[simp] theorem lim_8 : 8 ≤ lim := by decide
@[simp] theorem lim_9 : 9 ≤ lim := by decide
@[simp] theorem lim_10 : 10 ≤ lim := by decide
@[simp] theorem lim_11 : 11 ≤ lim := by decide
@[simp] theorem lim_12 : 12 ≤ lim := by decide
@[simp] theorem lim_13 : 13 ≤ lim := by decide
@[simp] theorem lim_14 : 14 ≤ lim := by decide
@[simp] theorem lim_15 : 15 ≤ lim := by decide
@[simp] theorem lim_16 : 16 ≤ lim := by decide
@[simp] theorem lim_17 : 17 ≤ lim := by decide
@[simp] theorem lim_18 : 18 ≤ lim := by decide
@[simp] theorem lim_19 : 19 ≤ lim := by decide
@[simp] theorem lim_20 : 20 ≤ lim := by decide
@[simp] theorem oAdd_ho (n : Nat) (ys : List D) : oAdd (.d (.hdl n)) (.o (.lst ys)) M = match M[n]? with
    | some (.lst xs) => if xs.length + ys.length ≤ lim then .ok (.o (.lst (xs ++ ys))) M else .bad
    | _ => .bad := by
  show (match lstOf (.d (.hdl n)) M, lstOf (.o (.lst ys)) M with | some xs, some ys => if xs.length + ys.length ≤ lim then Res.ok (RV.o (.lst (xs ++ ys))) M else Res.bad | _, _ => Res.bad) = _
  rw [lstOf_hdl, lstOf_o]; cases M[n]? with
  | none => rfl
  | some o => cases o <;> rfl
@[simp] theorem oAdd_or (xs ys : List D) : oAdd (.o (.lst xs)) (.d (.ro ys)) M = if xs.length + ys.length ≤ lim then .ok (.o (.lst (xs ++ ys))) M else .bad := nrfl rfl
@[simp] theorem oAdd_hr (n : Nat) (ys : List D) : oAdd (.d (.hdl n)) (.d (.ro ys)) M = match M[n]? with
    | some (.lst xs) => if xs.length + ys.length ≤ lim then .ok (.o (.lst (xs ++ ys))) M else .bad
    | _ => .bad := by
  show (match lstOf (.d (.hdl n)) M, lstOf (.d (.ro ys)) M with | some xs, some ys => if xs.length + ys.length ≤ lim then Res.ok (RV.o (.lst (xs ++ ys))) M else Res.bad | _, _ => Res.bad) = _
  rw [lstOf_hdl, lstOf_ro]; cases M[n]? with
  | none => rfl
  | some o => cases o <;> rfl
@[simp] theorem oAdd_oo (xs ys : List D) : oAdd (.o (.lst xs)) (.o (.lst ys)) M = if xs.length + ys.length ≤ lim then .ok (.o (.lst (xs ++ ys))) M else .bad := nrfl rfl
@[simp] theorem oAdd_oh (n : Nat) (xs : List D) : oAdd (.o (.lst xs)) (.d (.hdl n)) M = match M[n]? with
    | some (.lst ys) => if xs.length + ys.length ≤ lim then .ok (.o (.lst (xs ++ ys))) M else .bad
    | _ => .bad := by
  show (match lstOf (.o (.lst xs)) M, lstOf (.d (.hdl n)) M with | some xs, some ys => if xs.length + ys.length ≤ lim then Res.ok (RV.o (.lst (xs ++ ys))) M else Res.bad | _, _ => Res.bad) = _
  rw [lstOf_hdl, lstOf_o]; cases M[n]? with
  | none => rfl
  | some o => cases o <;> rfl
@[simp] theorem oAdd_hh (n m : Nat) : oAdd (.d (.hdl n)) (.d (.hdl m)) M = match M[n]?, M[m]? with
    | some (.lst xs), some (.lst ys) => if xs.length + ys.length ≤ lim then .ok (.o (.lst (xs ++ ys))) M else .bad
    | _, _ => .bad := by
  show (match lstOf (.d (.hdl n)) M, lstOf (.d (.hdl m)) M with | some xs, some ys => if xs.length + ys.length ≤ lim then Res.ok (RV.o (.lst (xs ++ ys))) M else Res.bad | _, _ => Res.bad) = _
  rw [lstOf_hdl, lstOf_hdl]
  rcases M[n]? with _ | (_ | _ | _) <;> rcases M[m]? with _ | (_ | _ | _) <;> rfl
end
end MI

namespace MI
section
variable {M : Mem} {b c : Bool}
@[simp] theorem oIs_bl : oIs (.d (.bl b)) (.d (.bl c)) M = .ok (.d (.bl (decide (b = c)))) M := nrfl rfl
@[simp] theorem oIsNot_bl : oIsNot (.d (.bl b)) (.d (.bl c)) M = .ok (.d (.bl (!decide (b = c)))) M := nrfl rfl
end
end MI
end
section
set_option linter.all false
set_option autoImplicit false
/-! MK1: reaches, plainly -/
namespace HW
open MI (sortI insI dedI)
abbrev Reach := Bool × List Int
def lf (k : Int) (t : Bool) (e : Int) : Bool := if e ≤ k then !t else t
def liesIn (r : Reach) (k : Int) : Bool := r.2.foldl (lf k) r.1
def Rising (l : List Int) : Prop := l.Pairwise (· < ·)
theorem liesIn_nil (f : Bool) (k : Int) : liesIn (f, []) k = f := rfl
theorem liesIn_cons (f : Bool) (e : Int) (l : List Int) (k : Int) : liesIn (f, e :: l) k = if e ≤ k then liesIn (!f, l) k else liesIn (f, l) k := by
  simp only [liesIn, List.foldl_cons, lf]
  split <;> rfl
theorem liesIn_gt {k : Int} : ∀ {l : List Int} {f : Bool}, (∀ e ∈ l, k < e) → liesIn (f, l) k = f
  | [], f, _ => rfl
  | e :: l, f, h => by
    rw [liesIn_cons, if_neg (by have := h e List.mem_cons_self; omega)]
    exact liesIn_gt fun x hx => h x (List.mem_cons_of_mem _ hx)
theorem liesIn_not (f : Bool) (l : List Int) (k : Int) : liesIn (!f, l) k = !liesIn (f, l) k := by
  induction l generalizing f with
  | nil => rfl
  | cons e l ih => rw [liesIn_cons, liesIn_cons]; split <;> rw [ih]
/-- by counting -/
theorem liesIn_count (f : Bool) (l : List Int) (k : Int) : liesIn (f, l) k = (f != decide ((l.filter (fun e => decide (e ≤ k))).length % 2 = 1)) := by
  induction l generalizing f with
  | nil => simp [liesIn]
  | cons e l ih =>
    rw [liesIn_cons, List.filter_cons]
    by_cases h : e ≤ k
    · simp only [h, if_true, decide_true, List.length_cons]
      rw [ih]
      rcases Nat.mod_two_eq_zero_or_one (l.filter (fun e => decide (e ≤ k))).length with h2 | h2
      · have : ((l.filter (fun e => decide (e ≤ k))).length + 1) % 2 = 1 := by omega
        simp [h2, this]
      · have : ((l.filter (fun e => decide (e ≤ k))).length + 1) % 2 = 0 := by omega
        simp [h2, this]
    · simp only [h, if_false, decide_false, Bool.false_eq_true]
      rw [ih]
theorem Rising.cons {e : Int} {l : List Int} : Rising (e :: l) ↔ (∀ x ∈ l, e < x) ∧ Rising l := List.pairwise_cons
theorem rising_one {xs ys : List Int} (h : Rising xs) (h2 : Rising ys) (m : ∀ k, k ∈ xs ↔ k ∈ ys) : xs = ys := by
  have nd : ∀ {l : List Int}, Rising l → l.Nodup := fun h => List.Pairwise.imp (fun h => Int.ne_of_lt h) h
  have p : xs.Perm ys := (List.perm_ext_iff_of_nodup (nd h) (nd h2)).mpr m
  exact List.Perm.eq_of_pairwise (le := fun a b : Int => a ≤ b) (fun a b _ _ h1 h2 => Int.le_antisymm h1 h2) (List.Pairwise.imp (fun h => Int.le_of_lt h) h) (List.Pairwise.imp (fun h => Int.le_of_lt h) h2) p
/-- one reach for each set -/
theorem edges_ext : ∀ (A B : List Int) (f : Bool), Rising A → Rising B → (∀ k, liesIn (f, A) k = liesIn (f, B) k) → A = B
  | [], [], _, _, _, _ => rfl
  | [], b :: B, f, _, hB, h => by
    have h1 := h b
    rw [liesIn_nil, liesIn_cons, if_pos (Int.le_refl _), liesIn_gt (Rising.cons.mp hB).1] at h1
    cases f <;> cases h1
  | a :: A, [], f, hA, _, h => by
    have h1 := h a
    rw [liesIn_nil, liesIn_cons, if_pos (Int.le_refl _), liesIn_gt (Rising.cons.mp hA).1] at h1
    cases f <;> cases h1
  | a :: A, b :: B, f, hA, hB, h => by
    obtain ⟨hA1, hA2⟩ := Rising.cons.mp hA
    obtain ⟨hB1, hB2⟩ := Rising.cons.mp hB
    have hab : a = b := by
      rcases Int.lt_trichotomy a b with q | q | q
      · have h1 := h a
        rw [liesIn_cons, if_pos (Int.le_refl _), liesIn_gt hA1, liesIn_gt (k := a) (l := b :: B)] at h1
        · cases f <;> cases h1
        · intro e he
          rcases List.mem_cons.mp he with r | r
          · omega
          · have := hB1 e r; omega
      · exact q
      · have h1 := h b
        rw [liesIn_gt (k := b) (l := a :: A), liesIn_cons, if_pos (Int.le_refl _), liesIn_gt hB1] at h1
        · cases f <;> cases h1
        · intro e he
          rcases List.mem_cons.mp he with r | r
          · omega
          · have := hA1 e r; omega
    subst hab
    rw [edges_ext A B (!f) hA2 hB2 fun k => ?_]
    by_cases hk : a ≤ k
    · have h1 := h k
      rwa [liesIn_cons, liesIn_cons, if_pos hk, if_pos hk] at h1
    · rw [liesIn_gt (fun e he => by have := hA1 e he; omega), liesIn_gt (fun e he => by have := hB1 e he; omega)]
theorem low_point (l : List Int) : ∃ k : Int, ∀ e ∈ l, k < e := by
  induction l with
  | nil => exact ⟨0, fun e h => nomatch h⟩
  | cons a l ih =>
    obtain ⟨k, h⟩ := ih
    refine ⟨min k (a - 1), fun e he => ?_⟩
    rcases List.mem_cons.mp he with r | r
    · omega
    · have := h e r; omega
theorem reach_ext {a b : Reach} (ha : Rising a.2) (hb : Rising b.2) (h : ∀ k, liesIn a k = liesIn b k) : a = b := by
  obtain ⟨f, A⟩ := a
  obtain ⟨g, B⟩ := b
  have hf : f = g := by
    obtain ⟨k1, h1⟩ := low_point (A ++ B)
    have := h k1
    rwa [liesIn_gt (fun e he => h1 e (List.mem_append_left _ he)), liesIn_gt (fun e he => h1 e (List.mem_append_right _ he))] at this
  subst hf
  rw [edges_ext A B f ha hb h]
/-! ### sorted(set(..)) -/
theorem insI_mem (i k : Int) : ∀ l : List Int, k ∈ insI i l ↔ k = i ∨ k ∈ l
  | [] => by simp [insI]
  | j :: r => by
    unfold insI
    split
    · simp
    · simp only [List.mem_cons, insI_mem i k r]
      constructor <;> (intro h; rcases h with h | h | h <;> simp [h])
theorem sortI_mem (k : Int) : ∀ l : List Int, k ∈ sortI l ↔ k ∈ l
  | [] => .rfl
  | i :: r => by unfold sortI; rw [insI_mem, sortI_mem k r, List.mem_cons]
theorem dedI_mem (k : Int) : ∀ l : List Int, k ∈ dedI l ↔ k ∈ l
  | [] => .rfl
  | i :: r => by
    unfold dedI
    split
    · rename_i c
      rw [dedI_mem k r, List.mem_cons]
      refine ⟨.inr, fun h => h.elim (fun e => ?_) id⟩
      rw [e]; simpa using c
    · rw [List.mem_cons, List.mem_cons, dedI_mem k r]
theorem insI_le (i : Int) : ∀ l : List Int, l.Pairwise (· ≤ ·) → (insI i l).Pairwise (· ≤ ·)
  | [], _ => List.pairwise_singleton _ _
  | j :: r, h => by
    unfold insI
    obtain ⟨h1, h2⟩ := List.pairwise_cons.mp h
    split
    · rename_i c
      refine List.pairwise_cons.mpr ⟨fun x hx => ?_, h⟩
      rcases List.mem_cons.mp hx with e | hx
      · rw [e]; exact c
      · exact Int.le_trans c (h1 x hx)
    · rename_i c
      refine List.pairwise_cons.mpr ⟨fun x hx => ?_, insI_le i r h2⟩
      rcases (insI_mem i x r).mp hx with e | hx
      · rw [e]; omega
      · exact h1 x hx
theorem sortI_le : ∀ l : List Int, (sortI l).Pairwise (· ≤ ·)
  | [] => .nil
  | i :: r => insI_le i _ (sortI_le r)
theorem insI_rising (i : Int) : ∀ l : List Int, i ∉ l → Rising l → Rising (insI i l)
  | [], _, _ => List.pairwise_singleton _ _
  | j :: r, hn, h => by
    unfold insI
    obtain ⟨h1, h2⟩ := Rising.cons.mp h
    split
    · rename_i c
      have : i ≠ j := fun e => hn (e ▸ List.mem_cons_self)
      refine Rising.cons.mpr ⟨fun x hx => ?_, h⟩
      rcases List.mem_cons.mp hx with e | hx
      · omega
      · have := h1 x hx; omega
    · rename_i c
      refine Rising.cons.mpr ⟨fun x hx => ?_, insI_rising i r (fun z => hn (List.mem_cons_of_mem _ z)) h2⟩
      rcases (insI_mem i x r).mp hx with e | hx
      · omega
      · exact h1 x hx
theorem dedI_nodup : ∀ l : List Int, (dedI l).Nodup
  | [] => .nil
  | i :: r => by
    unfold dedI
    split
    · exact dedI_nodup r
    · rename_i c
      refine List.nodup_cons.mpr ⟨fun h => c ?_, dedI_nodup r⟩
      simpa using (dedI_mem i r).mp h
theorem sortI_rising : ∀ l : List Int, l.Nodup → Rising (sortI l)
  | [], _ => .nil
  | i :: r, h => by
    obtain ⟨h1, h2⟩ := List.nodup_cons.mp h
    exact insI_rising i _ (fun z => h1 ((sortI_mem i r).mp z)) (sortI_rising r h2)
def ss (l : List Int) : List Int := sortI (dedI l)
theorem ss_rising (l : List Int) : Rising (ss l) := sortI_rising _ (dedI_nodup l)
theorem ss_mem (l : List Int) (k : Int) : k ∈ ss l ↔ k ∈ l := by unfold ss; rw [sortI_mem, dedI_mem]
theorem ss_of_rising {l : List Int} (h : Rising l) : ss l = l := rising_one (ss_rising l) h (ss_mem l)
/-! ### blends -/
inductive W4 where
  | both | either | less | just
  deriving DecidableEq
def W4.tb : W4 → Bool → Bool → Bool
  | .both, a, b => a && b
  | .either, a, b => a || b
  | .less, a, b => a && !b
  | .just, a, b => a != b
def blendGo (w : W4) (A B : List Int) : List Int → Bool → Bool → Bool → List Int
  | [], _, _, _ => []
  | e :: r, h, t, u =>
    if w.tb (if e ∈ A then !h else h) (if e ∈ B then !t else t) != u
    then e :: blendGo w A B r (if e ∈ A then !h else h) (if e ∈ B then !t else t) (!u)
    else blendGo w A B r (if e ∈ A then !h else h) (if e ∈ B then !t else t) u
def blend (w : W4) (a b : Reach) : Reach := (w.tb a.1 b.1, blendGo w a.2 b.2 (ss (a.2 ++ b.2)) a.1 b.1 (w.tb a.1 b.1))
theorem blendGo_sub (w : W4) (A B : List Int) : ∀ (es : List Int) h t u, (blendGo w A B es h t u).Sublist es
  | [], _, _, _ => .slnil
  | e :: r, h, t, u => by
    unfold blendGo
    generalize (if e ∈ A then !h else h) = h'
    generalize (if e ∈ B then !t else t) = t'
    split
    · exact (blendGo_sub w A B r _ _ _).cons_cons e
    · exact (blendGo_sub w A B r _ _ _).cons e
theorem blend_rising (w : W4) (a b : Reach) : Rising (blend w a b).2 := List.Pairwise.sublist (blendGo_sub _ _ _ _ _ _ _) (ss_rising _)
theorem blendGo_lies (w : W4) (A B : List Int) (k : Int) : ∀ (es : List Int), Rising es → ∀ h t, liesIn (w.tb h t, blendGo w A B es h t (w.tb h t)) k = w.tb (liesIn (h, es.filter (fun e => decide (e ∈ A))) k) (liesIn (t, es.filter (fun e => decide (e ∈ B))) k)
  | [], _, h, t => rfl
  | e :: r, hr, h, t => by
    obtain ⟨h1, h2⟩ := Rising.cons.mp hr
    by_cases hk : e ≤ k
    · have ih := blendGo_lies w A B k r h2 (if e ∈ A then !h else h) (if e ∈ B then !t else t)
      have lhs : liesIn (w.tb h t, blendGo w A B (e :: r) h t (w.tb h t)) k = liesIn (w.tb (if e ∈ A then !h else h) (if e ∈ B then !t else t), blendGo w A B r (if e ∈ A then !h else h) (if e ∈ B then !t else t) (w.tb (if e ∈ A then !h else h) (if e ∈ B then !t else t))) k := by
        rw [blendGo]
        generalize (if e ∈ A then !h else h) = h'
        generalize (if e ∈ B then !t else t) = t'
        by_cases c : w.tb h' t' = w.tb h t
        · simp [c]
        · have c' : w.tb h' t' = !w.tb h t := by revert c; cases w.tb h' t' <;> cases w.tb h t <;> simp
          simp only [c', bne_self_eq_false]
          have : ((!w.tb h t) != w.tb h t) = true := by cases w.tb h t <;> rfl
          rw [if_pos this, liesIn_cons, if_pos hk]
      rw [lhs, ih]
      congr 1
      · rw [List.filter_cons]
        by_cases c : e ∈ A
        · simp only [c, if_true, decide_true]; rw [liesIn_cons, if_pos hk]
        · simp only [c, if_false, decide_false, Bool.false_eq_true]
      · rw [List.filter_cons]
        by_cases c : e ∈ B
        · simp only [c, if_true, decide_true]; rw [liesIn_cons, if_pos hk]
        · simp only [c, if_false, decide_false, Bool.false_eq_true]
    · have gt : ∀ x ∈ e :: r, k < x := fun x hx => by
        rcases List.mem_cons.mp hx with q | q
        · omega
        · have := h1 x q; omega
      rw [liesIn_gt fun x hx => gt x ((blendGo_sub _ _ _ _ _ _ _).subset hx), liesIn_gt fun x hx => gt x (List.mem_filter.mp hx).1, liesIn_gt fun x hx => gt x (List.mem_filter.mp hx).1]
theorem filter_ss {A L : List Int} (h : Rising A) (hL : Rising L) (sub : ∀ x ∈ A, x ∈ L) : L.filter (fun e => decide (e ∈ A)) = A :=
  rising_one (List.Pairwise.filter _ hL) h fun k => by simp only [List.mem_filter, decide_eq_true_eq]; exact ⟨fun z => z.2, fun z => ⟨sub k z, z⟩⟩
theorem blend_lies (w : W4) {a b : Reach} (ha : Rising a.2) (hb : Rising b.2) (k : Int) : liesIn (blend w a b) k = w.tb (liesIn a k) (liesIn b k) := by
  unfold blend
  rw [blendGo_lies w a.2 b.2 k _ (ss_rising _), filter_ss ha (ss_rising _) fun x hx => (ss_mem _ _).mpr (List.mem_append_left _ hx), filter_ss hb (ss_rising _) fun x hx => (ss_mem _ _).mpr (List.mem_append_right _ hx)]
theorem ss_len (l : List Int) : (ss l).length ≤ l.length := by
  unfold ss
  have e1 : ∀ i (l : List Int), (insI i l).length = l.length + 1 := fun i l => by
    induction l with
    | nil => rfl
    | cons j r ih => unfold insI; split <;> simp [ih]
  have e2 : ∀ l : List Int, (sortI l).length = l.length := fun l => by
    induction l with
    | nil => rfl
    | cons j r ih => unfold sortI; rw [e1, ih]; rfl
  have e3 : ∀ l : List Int, (dedI l).length ≤ l.length := fun l => by
    induction l with
    | nil => exact Nat.le_refl _
    | cons j r ih => unfold dedI; split <;> simp <;> omega
  rw [e2]; exact e3 _
theorem blend_length (w : W4) (a b : Reach) (ha : Rising a.2) (hb : Rising b.2) : (blend w a b).2.length ≤ a.2.length + b.2.length := by
  have h1 := (blendGo_sub w a.2 b.2 (ss (a.2 ++ b.2)) a.1 b.1 (w.tb a.1 b.1)).length_le
  have h2 := ss_len (a.2 ++ b.2)
  rw [List.length_append] at h2
  exact Nat.le_trans h1 h2
/-! ### moved -/
def movedBy (a : Reach) (by_ : Int) : Reach := (a.1, a.2.map (· + by_))
theorem moved_rising {a : Reach} (h : Rising a.2) (d : Int) : Rising (movedBy a d).2 := by
  unfold movedBy Rising
  exact List.pairwise_map.mpr (List.Pairwise.imp (fun h => by omega) h)
theorem moved_lies (a : Reach) (d k : Int) : liesIn (movedBy a d) k = liesIn a (k - d) := by
  obtain ⟨f, l⟩ := a
  unfold movedBy
  induction l generalizing f with
  | nil => rfl
  | cons e l ih =>
    simp only [List.map_cons] at ih ⊢
    rw [liesIn_cons, liesIn_cons, ih, ih]
    by_cases c : e + d ≤ k
    · rw [if_pos c, if_pos (by omega)]
    · rw [if_neg c, if_neg (by omega)]
theorem Rising.snoc {l : List Int} {e : Int} (h : Rising l) (h2 : ∀ x ∈ l, x < e) : Rising (l ++ [e]) := by
  unfold Rising
  rw [List.pairwise_append]
  exact ⟨h, List.pairwise_singleton _ _, fun a ha b hb => by rw [List.mem_singleton.mp hb]; exact h2 a ha⟩
end HW
end
section
set_option linter.all false
set_option autoImplicit false
/-! MJ3: words and reaches: what the program's defs compute -/
namespace HW
open MI PySem
def encR (r : Reach) : D := .tup [.bl r.1, .tup (r.2.map D.int)]
def W4.s : W4 → Str
  | .both => "both"
  | .either => "either"
  | .less => "less"
  | .just => "just"
@[simp] theorem bels_ints (n : Nat) (l : List Int) : D.bels n (l.map D.int) = true := by
  induction l with
  | nil => rfl
  | cons a l ih => simp [D.bels, D.bel, ih]
@[simp] theorem oIx_encR0 (r : Reach) (M : Mem) : oIx (.d (encR r)) (.d (.int 0)) M = .ok (.d (.bl r.1)) M := oIx_t0 _ _
@[simp] theorem oIx_encR1 (r : Reach) (M : Mem) : oIx (.d (encR r)) (.d (.int 1)) M = .ok (.d (.tup (r.2.map D.int))) M := oIx_t1 _ _ _
@[simp] theorem bel_encR (n : Nat) (r : Reach) : D.bel n (encR r) = true := by simp [encR, D.bel, D.bels]
@[simp] theorem fin_tup (M l : Mem) (ds : List D) : fin .pure M (.d (.tup ds)) (M ++ l) = if D.bels M.length ds = true then .ok (.d (.tup ds)) M else .bad := by
  unfold fin; simp only [List.take_left, List.take_length, if_true]; rfl
@[simp] theorem fin_tup0 (M : Mem) (ds : List D) : fin .pure M (.d (.tup ds)) M = if D.bels M.length ds = true then .ok (.d (.tup ds)) M else .bad := by
  unfold fin; simp only [List.take_left, List.take_length, if_true]; rfl
@[simp] theorem fin_int (M l : Mem) (b : Int) : fin .pure M (.d (.int b)) (M ++ l) = .ok (.d (.int b)) M := by simp [fin, D.bel]
@[simp] theorem fin_int0 (M : Mem) (b : Int) : fin .pure M (.d (.int b)) M = .ok (.d (.int b)) M := by simp [fin, D.bel]
@[simp] theorem fin_bl (M l : Mem) (b : Bool) : fin .pure M (.d (.bl b)) (M ++ l) = .ok (.d (.bl b)) M := by simp [fin, D.bel]
@[simp] theorem fin_bl0 (M : Mem) (b : Bool) : fin .pure M (.d (.bl b)) M = .ok (.d (.bl b)) M := by simp [fin, D.bel]
@[simp] theorem fin_bl_nil (M : Mem) (b : Bool) : fin .pure [] (.d (.bl b)) M = .ok (.d (.bl b)) [] := by simp [fin, D.bel]
@[simp] theorem fin_non (M l : Mem) : fin .pure M (.d .non) (M ++ l) = .ok (.d .non) M := by simp [fin, D.bel]
@[simp] theorem fin_non0 (M : Mem) : fin .pure M (.d .non) M = .ok (.d .non) M := by simp [fin, D.bel]
@[simp] theorem bels_nil (n : Nat) : D.bels n [] = true := nrfl rfl
@[simp] theorem bels_cons (n : Nat) (d : D) (r : List D) : D.bels n (d :: r) = (D.bel n d && D.bels n r) := nrfl rfl
@[simp] theorem bel_int (n : Nat) (i : Int) : D.bel n (.int i) = true := nrfl rfl
@[simp] theorem bel_bl (n : Nat) (i : Bool) : D.bel n (.bl i) = true := nrfl rfl
@[simp] theorem bel_non (n : Nat) : D.bel n .non = true := nrfl rfl
@[simp] theorem bel_str (n : Nat) (s : Str) : D.bel n (.str s) = true := nrfl rfl
@[simp] theorem bel_tup (n : Nat) (ds : List D) : D.bel n (.tup ds) = D.bels n ds := nrfl rfl
@[simp] theorem obel_lst (n : Nat) (ds : List D) : O.bel n (.lst ds) = D.bels n ds := nrfl rfl
@[simp] theorem fin_R (M l : Mem) (r : Reach) : fin .pure M (.d (encR r)) (M ++ l) = .ok (.d (encR r)) M := by
  show fin .pure M (.d (.tup _)) (M ++ l) = _
  rw [fin_tup]; simp [encR]
@[simp] theorem fin_R0 (M : Mem) (r : Reach) : fin .pure M (.d (encR r)) M = .ok (.d (encR r)) M := by
  have := fin_R M [] r
  rwa [List.append_nil] at this
section
variable {T : Tab}
theorem lies_in_run [i : HasF T "lies_in" F_lies_in] (n : Nat) (r : Reach) (k : Int) (M : Mem) : run T (n + 1) "lies_in" [encR r, .int k] M = .ok (.d (.bl (liesIn r k))) M := by
  rw [run_has i, ← Res.wp_eq]
  refine wp_run rfl ?_
  simp [F_lies_in, b_lies_in, encR]
  refine forL_wp D.int (fun l env M' => ∃ t j, env = [some (encR r), some (.int k), some (.bl t), j] ∧ M' = M ∧ l.foldl (lf k) t = liesIn r k) ?_ ?_ _ _ _ ⟨_, _, rfl, rfl, rfl⟩
  · rintro _ _ ⟨t, j, rfl, rfl, h⟩
    have h' : t = liesIn r k := h
    simp [h']
  · rintro a l _ _ ⟨t, j, rfl, rfl, h⟩
    have h' : l.foldl (lf k) (lf k t a) = liesIn r k := h
    simp
    split
    · rename_i c; exact ⟨_, _, rfl, rfl, by rw [← h']; simp [lf, c]⟩
    · rename_i c; exact ⟨_, _, rfl, rfl, by rw [← h']; simp [lf, c]⟩
theorem truth_by_run [i : HasF T "truth_by" F_truth_by] (n : Nat) (w : W4) (a b : Bool) (M : Mem) : run T (n + 1) "truth_by" [.str w.s, .bl a, .bl b] M = .ok (.d (.bl (w.tb a b))) M := by
  rw [run_has i, ← Res.wp_eq]
  refine wp_run rfl ?_
  cases w <;> cases a <;> simp [F_truth_by, b_truth_by, W4.s, W4.tb]
/-- a dict of True by some numbers -/
def marks (l : List Int) : List (D × D) := l.foldl (fun kvs e => dput kvs (.int e) (.bl true)) []
end
end HW
namespace HW
open MI PySem
section
variable {T : Tab}
@[simp] theorem obel_dic (n : Nat) (fz : Bool) (kvs : List (D × D)) : O.bel n (.dic fz kvs) = kvs.all fun kv => kv.1.bel n && kv.2.bel n := nrfl rfl
theorem dput_bel {n : Nat} {kvs : List (D × D)} {k v : D} (h : (kvs.all fun kv => kv.1.bel n && kv.2.bel n) = true) (hk : k.bel n = true) (hv : v.bel n = true) : ((dput kvs k v).all fun kv => kv.1.bel n && kv.2.bel n) = true := by
  unfold dput
  split
  · rw [List.all_map, List.all_eq_true]
    intro kv hkv
    have := List.all_eq_true.mp h kv hkv
    simp only [Function.comp]
    split
    · simp only [Bool.and_eq_true] at this ⊢; exact ⟨this.1, hv⟩
    · exact this
  · rw [List.all_append, h]; simp [hk, hv]
theorem marks_bel (n : Nat) (l : List Int) : ∀ kvs : List (D × D), (kvs.all fun kv => kv.1.bel n && kv.2.bel n) = true → ((l.foldl (fun kvs e => dput kvs (.int e) (.bl true)) kvs).all fun kv => kv.1.bel n && kv.2.bel n) = true := by
  induction l with
  | nil => exact fun kvs h => h
  | cons a l ih =>
    intro kvs h
    exact ih _ (dput_bel h rfl rfl)
theorem marks_get (l : List Int) (k : Int) : ∀ kvs : List (D × D), (dget (l.foldl (fun kvs e => dput kvs (.int e) (.bl true)) kvs) (.int k)).isSome = (decide (k ∈ l) || (dget kvs (.int k)).isSome) := by
  induction l with
  | nil => intro kvs; simp
  | cons a l ih =>
    intro kvs
    rw [List.foldl_cons, ih, dget_dput]
    by_cases h : k ∈ l
    · simp [h]
    · by_cases h2 : a = k
      · subst h2; simp
      · have h3 : ¬ (D.int a = D.int k) := fun e => h2 (by injection e)
        have h4 : ¬ k = a := fun e => h2 e.symm
        simp [h3, h, h4]
theorem marks_ik (l : List Int) : IK (marks l) := by
  have : ∀ kvs, IK kvs → IK (l.foldl (fun kvs e => dput kvs (.int e) (.bl true)) kvs) := by
    induction l with
    | nil => exact fun kvs h => h
    | cons a l ih => exact fun kvs h => ih _ (h.put _ _)
  exact this _ IK.nil
@[simp] theorem marks_sk (l : List Int) : skAll (marks l) = true := (marks_ik l).sk
theorem edges_marked_run [i : HasF T "edges_marked" F_edges_marked] (n : Nat) (r : Reach) (M : Mem) (hl : r.2.length < lim) : run T (n + 1) "edges_marked" [encR r] M = .ok (.o (.dic false (marks r.2))) M := by
  rw [run_has i, ← Res.wp_eq]
  refine wp_run rfl ?_
  simp [F_edges_marked, b_edges_marked, encR]
  refine forL_wp D.int (fun l env M' => ∃ kvs j, env = [some (encR r), some (.hdl M.length), j] ∧ M' = M ++ [.dic false kvs] ∧ IK kvs ∧ kvs.length + l.length ≤ r.2.length ∧ l.foldl (fun kvs e => dput kvs (.int e) (.bl true)) kvs = marks r.2) ?_ ?_ _ _ _ ⟨_, _, rfl, rfl, IK.nil, by simp, rfl⟩
  · rintro _ _ ⟨kvs, j, rfl, rfl, hik, h1, h⟩
    have h' : kvs = marks r.2 := h
    subst h'
    have hb : ((marks r.2).all fun kv => kv.1.bel M.length && kv.2.bel M.length) = true := marks_bel M.length r.2 [] rfl
    simp [hb]
  · rintro a l _ _ ⟨kvs, j, rfl, rfl, hik, h1, h⟩
    simp only [List.length_cons] at h1
    have := dput_length kvs (.int a) (.bl true)
    have hk : kvs.length < lim := by omega
    have hs := hik.sk
    simp [hk, hs]
    exact ⟨_, _, rfl, rfl, hik.put _ _, by omega, h⟩
end
end HW
end
section
set_option linter.all false
set_option autoImplicit false
namespace HW
open MI PySem
section
variable {T : Tab}
theorem lim_big : 1000000 ≤ lim := by decide
theorem marks_get' (l : List Int) (k : Int) : (dget (marks l) (.int k)).isSome = decide (k ∈ l) := by
  unfold marks; rw [marks_get]; simp [dget]
theorem blend_run [HasF T "edges_marked" F_edges_marked] [HasF T "truth_by" F_truth_by] [i : HasF T "blend" F_blend] (n : Nat) (w : W4) (a b : Reach) (hl : a.2.length + b.2.length < 4000) (M : Mem) :
    run T (n + 2) "blend" [encR a, encR b, .str w.s] M = .ok (.d (encR (blend w a b))) M := by
  have hlim := lim_big
  rw [run_has i, ← Res.wp_eq]
  refine wp_run rfl ?_
  simp [F_blend, b_blend]
  rw [edges_marked_run n a M (by omega)]
  simp
  rw [edges_marked_run n b _ (by omega)]
  simp [encR]
  rw [truth_by_run]
  simp
  refine ⟨by omega, hl, ?_⟩
  refine forL_wp D.int (fun l env M' => ∃ h t u acc j, env = [some (encR a), some (encR b), some (.str w.s), some (.hdl M.length), some (.hdl (M.length + 1)), some (.bl h), some (.bl t), some (.bl (w.tb a.1 b.1)), some (.bl u), some (.hdl (M.length + 2)), j] ∧
    M' = M ++ [.dic false (marks a.2), .dic false (marks b.2), .lst (acc.map D.int)] ∧ acc.length + l.length ≤ 4000 ∧ acc ++ blendGo w a.2 b.2 l h t u = (blend w a b).2) ?_ ?_ _ _ _ ⟨_, _, _, [], _, rfl, rfl, ?_, ?_⟩
  · rintro _ _ ⟨h, t, u, acc, j, rfl, rfl, h1, h2⟩
    simp only [blendGo, List.append_nil] at h2
    subst h2
    simp [encR]
    try rfl
  · rintro e l _ _ ⟨h, t, u, acc, j, rfl, rfl, h1, h2⟩
    simp only [List.length_cons] at h1
    have hacc : acc.length < lim := by omega
    simp [marks_get']
    by_cases c1 : e ∈ a.2 <;> by_cases c2 : e ∈ b.2
    all_goals
      simp [c1, c2]
      rw [truth_by_run]
      simp
      rw [blendGo] at h2
      simp only [c1, c2, if_true, if_false] at h2
      split
      · rename_i c3
        rw [if_neg (by simpa using c3)] at h2
        exact ⟨_, _, _, acc, _, rfl, rfl, by omega, h2⟩
      · rename_i c3
        rw [if_pos (by simpa using c3)] at h2
        simp [hacc]
        exact ⟨_, _, _, acc ++ [e], _, rfl, by simp, by simp; omega, by rw [← h2]; simp⟩
  · have h1 := ss_len (a.2 ++ b.2)
    rw [List.length_append] at h1
    show 0 + (ss (a.2 ++ b.2)).length ≤ 4000
    omega
  · rfl
end
end HW
end
section
set_option linter.all false
set_option autoImplicit false
/-! MJ5: what the laws' own defs compute: numbers, reaches -/
namespace HW
open MI PySem
abbrev scr (ns : List Int) : D := .ro (ns.map D.int)
section
variable {T : Tab}
def lawDraw (ns : List Int) (k many : Int) : Int :=
  if ns = [] then 0 else
    ((ns.getD (k % ns.length).toNat 0 % 1000000007 + 5) * (40692 + 977 * k) % 2147483629 + k) * ((ns.getD (k % ns.length).toNat 0 % 1000000007 + 5) * (40692 + 977 * k) % 2147483629 + 3) % 2147483647 / 13 % many
theorem lawDraw_nn (ns : List Int) (k : Int) {many : Int} (h : 0 < many) : 0 ≤ lawDraw ns k many := by
  unfold lawDraw
  split
  · exact Int.le_refl _
  · exact Int.emod_nonneg _ (by omega)
theorem lawDraw_lt (ns : List Int) (k : Int) {many : Int} (h : 0 < many) : lawDraw ns k many < many := by
  unfold lawDraw
  split
  · exact h
  · exact Int.emod_lt_of_pos _ h
theorem oIx_ro_mod {M : Mem} {ns : List Int} (h : ns ≠ []) (k : Int) : oIx (.d (.ro (ns.map D.int))) (.d (.int (k % ns.length))) M = .ok (.d (.int (ns.getD (k % ns.length).toNat 0))) M := by
  have hl : 0 < (ns.length : Int) := by cases ns with
    | nil => exact absurd rfl h
    | cons => simp
  have h0 := Int.emod_nonneg k (show (ns.length : Int) ≠ 0 by omega)
  have h1 := Int.emod_lt_of_pos k hl
  refine oIx_seq rfl (ixN_pos h0 (by simpa using h1)) ?_
  rw [List.getElem?_map]
  have h2 : (k % ns.length).toNat < ns.length := by omega
  rw [List.getElem?_eq_getElem h2]
  simp [List.getD_eq_getElem?_getD, List.getElem?_eq_getElem h2]
theorem law_draw_run [i : HasF T "_law_draw" F__law_draw] (n : Nat) (ns : List Int) (k many : Int) (hm : 0 < many) (M : Mem) : run T (n + 1) "_law_draw" [scr ns, .int k, .int many] M = .ok (.d (.int (lawDraw ns k many))) M := by
  rw [run_has i, ← Res.wp_eq]
  refine wp_run rfl ?_
  simp [F__law_draw, b__law_draw]
  split
  · rename_i h
    simp [h, lawDraw]
  · rename_i h
    have hl : 0 < ns.length := List.length_pos_iff.mpr h
    refine ⟨hl, ?_⟩
    rw [oIx_ro_mod h]
    simp
    have h1 := Int.emod_nonneg (ns.getD (k % ns.length).toNat 0) (show (1000000007 : Int) ≠ 0 by omega)
    have h2 := Int.emod_lt_of_pos (ns.getD (k % ns.length).toNat 0) (show (0 : Int) < 1000000007 by omega)
    have h3 := Int.emod_nonneg ((ns.getD (k % ns.length).toNat 0 % 1000000007 + 5) * (40692 + 977 * k)) (show (2147483629 : Int) ≠ 0 by omega)
    have h4 := Int.emod_lt_of_pos ((ns.getD (k % ns.length).toNat 0 % 1000000007 + 5) * (40692 + 977 * k)) (show (0 : Int) < 2147483629 by omega)
    simp only [List.getD_eq_getElem?_getD] at h1 h2 h3 h4
    refine ⟨.inl ⟨by omega, by omega⟩, .inr ⟨by omega, by omega⟩, hm, ?_⟩
    rw [lawDraw, if_neg h]
    simp only [List.getD_eq_getElem?_getD]
theorem law_far_ex [HasF T "_law_draw" F__law_draw] [i : HasF T "_law_far" F__law_far] (ns : List Int) (k : Int) : ∃ v : Int, 0 ≤ v ∧ v < 10 ^ 50 ∧ ∀ n M, run T (n + 2) "_law_far" [scr ns, .int k] M = .ok (.d (.int v)) M := by
  by_cases h : ns = []
  · subst h
    refine ⟨0, by decide, by decide, fun n M => ?_⟩
    rw [run_has i, ← Res.wp_eq]
    refine wp_run rfl ?_
    simp [F__law_far, b__law_far]
  · refine ⟨(ns.getD (k % ns.length).toNat 0 % 10 ^ 50 * (lawDraw ns k 100000000 + 1) + (lawDraw ns k 100000000 + 1) ^ 5) % 10 ^ 50, Int.emod_nonneg _ (by decide), Int.emod_lt_of_pos _ (by decide), fun n M => ?_⟩
    rw [run_has i, ← Res.wp_eq]
    refine wp_run rfl ?_
    have hl : 0 < ns.length := List.length_pos_iff.mpr h
    have h1 := lawDraw_nn ns k (show (0 : Int) < 100000000 by decide)
    have h2 := lawDraw_lt ns k (show (0 : Int) < 100000000 by decide)
    simp [F__law_far, b__law_far, h]
    rw [law_draw_run _ _ _ _ (by decide)]
    simp [hl]
    rw [oIx_ro_mod h]
    simp
    refine ⟨.inr ⟨by omega, by omega⟩, by omega⟩
/-- edges within sight -/
def Bd (l : List Int) : Prop := ∀ e ∈ l, -10 ^ 52 < e ∧ e < 10 ^ 52
theorem Bd.snoc {l : List Int} {e : Int} (h : Bd l) (h2 : -10 ^ 52 < e ∧ e < 10 ^ 52) : Bd (l ++ [e]) := fun x hx => by
  rcases List.mem_append.mp hx with q | q
  · exact h x q
  · rw [List.mem_singleton.mp q]; exact h2
theorem Bd.nil : Bd [] := fun _ h => nomatch h
theorem law_reach_ex [HasF T "_law_draw" F__law_draw] [HasF T "_law_far" F__law_far] [i : HasF T "_law_reach" F__law_reach_k02] (ns : List Int) (k : Int) (n : Nat) (M : Mem) :
    ∃ r : Reach, Rising r.2 ∧ r.2.length ≤ 13 ∧ Bd r.2 ∧ run T (n + 3) "_law_reach" [scr ns, .int k] M = .ok (.d (encR r)) M := by
  have : (run T (n + 3) "_law_reach" [scr ns, .int k] M).wp fun x M' => Kp (M' = M ∧ ∃ r : Reach, Rising r.2 ∧ r.2.length ≤ 13 ∧ Bd r.2 ∧ x = .d (encR r)) := by
    rw [run_has i]
    refine wp_run rfl ?_
    simp [F__law_reach_k02, b__law_reach_k02]
    rw [law_draw_run _ _ _ _ (by decide)]
    simp
    rw [law_draw_run _ _ _ _ (by decide)]
    simp
    have hr0 := lawDraw_nn ns (k + 1) (show (0 : Int) < 100000000 by decide)
    have hr1 := lawDraw_lt ns (k + 1) (show (0 : Int) < 100000000 by decide)
    have hw0 := lawDraw_nn ns k (show (0 : Int) < 5 by decide)
    have hw1 := lawDraw_lt ns k (show (0 : Int) < 5 by decide)
    generalize lawDraw ns (k + 1) 100000000 = rest at *
    generalize lawDraw ns k 5 = way at *
    split
    · rename_i hw
      refine forL_range (fun j env M' => ∃ (acc : List Int) (rest : Int) (jj : Option D), env = [some (scr ns), some (.int k), some (.int way), some (.int rest), some (.hdl M.length), some (.int (2 + 2 * (way / 2))), jj, none] ∧ M' = M ++ [.lst (acc.map D.int)] ∧
        Rising acc ∧ (∀ e ∈ acc, e < (j : Int) - 4) ∧ acc.length ≤ j ∧ Bd acc) ?_ ?_ _ _ ⟨[], _, _, rfl, rfl, .nil, by simp, by simp, Bd.nil⟩
      · rintro _ _ ⟨acc, rest, jj, rfl, rfl, h1, h2, h3, h4⟩
        have hw3 : ¬ way = 3 := by omega
        simp [hw3]
        rw [law_draw_run _ _ _ _ (by decide)]
        simp
        exact ⟨rfl, (_, acc), h1, h3, h4, rfl⟩
      · rintro j _ _ hj ⟨acc, rest, jj, rfl, rfl, h1, h2, h3, h4⟩
        have hacc : acc.length < lim := by have := lim_big; omega
        simp [hacc]
        refine ⟨by omega, ?_⟩
        split
        · refine ⟨by omega, acc ++ [(j : Int) - 4], _, _, rfl, by simp, h1.snoc h2, ?_, by simp; omega, h4.snoc ⟨by omega, by omega⟩⟩
          intro e he
          rcases List.mem_append.mp he with q | q
          · have := h2 e q; omega
          · rw [List.mem_singleton.mp q]; omega
        · exact ⟨by omega, acc, _, _, rfl, rfl, h1, fun e he => by have := h2 e he; omega, by omega, h4⟩
    · split
      · rename_i hw hw3
        obtain ⟨v, hv0, hv1, hv⟩ := law_far_ex (T := T) ns (k + 2)
        rw [hv]
        simp
        have hm0 := Int.emod_nonneg rest (show (7 : Int) ≠ 0 by decide)
        have hm1 := Int.emod_lt_of_pos rest (show (0 : Int) < 7 by decide)
        refine ⟨⟨by omega, by omega⟩, ?_⟩
        refine forL_range (fun j env M' => ∃ (acc : List Int) (e : Int) (jj : Option D), env = [some (scr ns), some (.int k), some (.int way), some (.int rest), some (.hdl M.length), none, jj, some (.int e)] ∧ M' = M ++ [.lst (acc.map D.int)] ∧
          Rising acc ∧ (∀ x ∈ acc, x < e) ∧ acc.length ≤ j ∧ Bd acc ∧ -(5 * 10 ^ 49) ≤ e ∧ e ≤ 10 ^ 50 + (j : Int) * (10 ^ 48 + 1)) ?_ ?_ _ _ ⟨[], _, _, rfl, rfl, .nil, by simp, by simp, Bd.nil, by omega, by omega⟩
        · rintro _ _ ⟨acc, e, jj, rfl, rfl, h1, h2, h3, h4, h5, h6⟩
          simp
          rw [law_draw_run _ _ _ _ (by decide)]
          simp
          exact ⟨rfl, (_, acc), h1, by show acc.length ≤ 13; omega, h4, rfl⟩
        · rintro j _ _ hj ⟨acc, e, jj, rfl, rfl, h1, h2, h3, h4, h5, h6⟩
          have hacc : acc.length < lim := by have := lim_big; omega
          simp [hacc]
          obtain ⟨v2, hv20, hv21, hv2⟩ := law_far_ex (T := T) ns (k + 3 + (j : Int))
          rw [hv2]
          simp
          obtain ⟨d, hd, he⟩ := oIx_any (M := M ++ [.lst (acc.map D.int ++ [D.int e])]) (x := .o (.lst [.int 3, .int (10 ^ 48)])) (i := rest / 7 % 2) rfl (Int.emod_nonneg _ (by decide)) (by have := Int.emod_lt_of_pos (rest / 7) (show (0 : Int) < 2 by decide); simpa using this)
          simp at he
          rw [he]
          have hm : ∃ m : Int, 0 < m ∧ m ≤ 10 ^ 48 ∧ d = .int m := by
            simp only [List.mem_cons, List.not_mem_nil, or_false] at hd
            rcases hd with rfl | rfl
            · exact ⟨3, by decide, by decide, rfl⟩
            · exact ⟨10 ^ 48, by decide, by decide, rfl⟩
          obtain ⟨m, hm0, hm3, rfl⟩ := hm
          simp [hm0]
          have := Int.emod_nonneg v2 (show m ≠ 0 by omega)
          have hm4 := Int.emod_lt_of_pos v2 hm0
          refine ⟨acc ++ [e], _, _, rfl, by simp, h1.snoc h2, ?_, by simp; omega, h4.snoc ⟨by omega, by omega⟩, by omega, by omega⟩
          intro x hx
          rcases List.mem_append.mp hx with q | q
          · have := h2 x q; omega
          · rw [List.mem_singleton.mp q]; omega
      · rw [law_draw_run _ _ _ _ (by decide)]
        simp
        exact ⟨rfl, (_, []), .nil, by simp, Bd.nil, rfl⟩
  obtain ⟨x, M', e, rfl, r, h1, h2, h3, rfl⟩ := Res.wp_ex this
  exact ⟨r, h1, h2, h3, e⟩
end
end HW
end
section
set_option linter.all false
set_option autoImplicit false
/-! MJ6: the laws' own defs: where a number lies, points -/
namespace HW
open MI PySem
section
variable {T : Tab}
theorem law_in_run [i : HasF T "_law_in" F__law_in] (n : Nat) (r : Reach) (k : Int) (M : Mem) (hl : r.2.length ≤ lim) : run T (n + 1) "_law_in" [encR r, .int k] M = .ok (.d (.bl (liesIn r k))) M := by
  rw [run_has i, ← Res.wp_eq]
  refine wp_run rfl ?_
  simp [F__law_in, b__law_in, encR]
  rw [compL_map D.int rfl (fun e => decide (e ≤ k)) D.int (fun a => by simp [← Res.wp_eq]) r.2 [] (by simpa using hl)]
  simp
  rw [show r = (r.1, r.2) from rfl, liesIn_count]
  have e : ((r.2.filter fun e => decide (e ≤ k)).length : Int) % 2 = 1 ↔ (r.2.filter fun e => decide (e ≤ k)).length % 2 = 1 := by omega
  by_cases c : (r.2.filter fun e => decide (e ≤ k)).length % 2 = 1
  · simp [c, e.mpr c]
  · have c' : ¬ ((r.2.filter fun e => decide (e ≤ k)).length : Int) % 2 = 1 := fun z => c (e.mp z)
    rw [decide_eq_false c', decide_eq_false c]
theorem oIx_lit {M : Mem} {x : RV} {P : D → Prop} {ds : List D} {i : Int} (h : seqOf x M = some ds) (h0 : 0 ≤ i) (h1 : i < ds.length) (hP : ∀ d ∈ ds, P d) : ∃ d, P d ∧ oIx x (.d (.int i)) M = .ok (.d d) M := by
  obtain ⟨d, hd, e⟩ := oIx_any h h0 h1
  exact ⟨d, hP d hd, e⟩
theorem oIx_litO {P : D → Prop} {ds : List D} {i : Int} (h0 : 0 ≤ i) (h1 : i < ds.length) (hP : ∀ d ∈ ds, P d) : ∃ d, P d ∧ ∀ M, oIx (.o (.lst ds)) (.d (.int i)) M = .ok (.d d) M := by
  have hl : i.toNat < ds.length := by omega
  exact ⟨ds[i.toNat], hP _ (List.getElem_mem hl), fun M => oIx_seq rfl (ixN_pos h0 h1) (List.getElem?_eq_getElem hl)⟩
theorem dput3 (a b c x y z : D) : (dput (dput (dput [] a x) b y) c z).length ≤ 3 := by
  have a1 := dput_length (dput (dput [] a x) b y) c z
  have a2 := dput_length (dput [] a x) b y
  have a3 := dput_length [] a x
  simp only [List.length_nil] at a3
  omega
/-- some points -/
theorem law_points_ex [i : HasF T "_law_points" F__law_points] (n : Nat) (rs : List Reach) (h : Nat) (M : Mem) (hM : M[h]? = some (.lst (rs.map encR))) (h1 : rs.length ≤ 10) (h2 : ∀ r ∈ rs, r.2.length ≤ 300) :
    ∃ ps : List Int, run T (n + 1) "_law_points" [.hdl h] M = .ok (.o (.lst (ps.map D.int))) M := by
  have : (run T (n + 1) "_law_points" [.hdl h] M).wp fun x M' => Kp (M' = M ∧ ∃ ps : List Int, x = .o (.lst (ps.map D.int))) := by
    have hlim := lim_big
    rw [run_has i]
    refine wp_run rfl ?_
    simp [F__law_points, b__law_points]
    have hM2 : ∀ l : Mem, (M ++ l)[h]? = some (.lst (rs.map encR)) := fun l => get_ahead hM
    simp [hM2]
    refine forL_wp encR (fun l env M' => ∃ (kvs : List (D × D)) (j1 j2 j3 : Option D), env = [some (.hdl h), some (.hdl M.length), j1, j2, j3] ∧ M' = M ++ [.dic false kvs] ∧ IK kvs ∧ kvs.length + 900 * l.length ≤ 10000 ∧ ∀ r ∈ l, r.2.length ≤ 300) ?_ ?_ _ _ _ ⟨_, _, _, _, rfl, rfl, ((IK.nil.put 0 (.bl true)).put _ (.bl true)).put _ (.bl true), ?_, h2⟩
    · rintro _ _ ⟨kvs, j1, j2, j3, rfl, rfl, ⟨ks, hk⟩, hl, _⟩
      simp [hM2, hk]
      exact ⟨rfl, sortI ks, rfl⟩
    · rintro r l _ _ ⟨kvs, j1, j2, j3, rfl, rfl, hk, hl, hr⟩
      simp only [List.length_cons] at hl
      have hr1 := hr r List.mem_cons_self
      have hr2 : ∀ x ∈ l, x.2.length ≤ 300 := fun x hx => hr x (List.mem_cons_of_mem _ hx)
      simp [hM2, encR]
      refine forL_wp D.int (fun l2 env M' => ∃ (kvs : List (D × D)) (j2 j3 : Option D), env = [some (.hdl h), some (.hdl M.length), some (encR r), j2, j3] ∧ M' = M ++ [.dic false kvs] ∧ IK kvs ∧ kvs.length + 3 * l2.length + 900 * l.length ≤ 10000) ?_ ?_ _ _ _ ⟨_, _, _, rfl, rfl, hk, by omega⟩
      · rintro _ _ ⟨kvs, j2, j3, rfl, rfl, hk, hl⟩
        simp
        exact ⟨kvs, _, _, _, rfl, rfl, hk, by simpa using hl, hr2⟩
      · rintro e l2 _ _ ⟨kvs, j2, j3, rfl, rfl, hk, hl⟩
        simp only [List.length_cons] at hl
        simp
        refine forL_wp D.int (fun l3 env M' => ∃ (kvs : List (D × D)) (j3 : Option D), env = [some (.hdl h), some (.hdl M.length), some (encR r), some (.int e), j3] ∧ M' = M ++ [.dic false kvs] ∧ IK kvs ∧ kvs.length + l3.length + 3 * l2.length + 900 * l.length ≤ 10000) ?_ ?_ [-1, 0, 1] _ _ ⟨_, _, rfl, rfl, hk, by simp only [List.length_cons, List.length_nil]; omega⟩
        · rintro _ _ ⟨kvs, j3, rfl, rfl, hk, hl⟩
          simp
          exact ⟨kvs, _, _, rfl, rfl, hk, by simpa using hl⟩
        · rintro b l3 _ _ ⟨kvs, j3, rfl, rfl, hk, hl⟩
          simp only [List.length_cons] at hl
          have := dput_length kvs (.int (e + b)) (.bl true)
          have hkl : kvs.length < lim := by omega
          simp [hkl, hk.sk]
          exact ⟨_, _, rfl, rfl, hk.put _ _, by omega⟩
    · exact Nat.le_trans (Nat.add_le_add_right (dput3 _ _ _ _ _ _) _) (by omega)
  obtain ⟨x, M', e, rfl, ps, rfl⟩ := Res.wp_ex this
  exact ⟨ps, e⟩
end
end HW
end
section
set_option linter.all false
set_option autoImplicit false
/-! MJ8: == of plain data -/
namespace MI
open PySem (Str PyData)
mutual
/-- plain data, not deeper than n -/
def pl : Nat → D → Bool
  | _, .non => true
  | _, .bl _ => true
  | _, .int _ => true
  | _, .str s => okS s
  | 0, .tup _ => false
  | n + 1, .tup ds => pls n ds
  | _, .hdl _ => false
  | _, .ro _ => false
def pls : Nat → List D → Bool
  | _, [] => true
  | n, d :: ds => pl n d && pls n ds
end
mutual
def py : D → PyData
  | .non => .none
  | .bl b => .bool b
  | .int i => .int i
  | .str s => .str s
  | .tup ds => .tuple (pys ds)
  | .hdl _ => .none
  | .ro ds => .list (pys ds)
def pys : List D → List PyData
  | [] => []
  | d :: ds => py d :: pys ds
end
mutual
theorem der_pl (M : Mem) : ∀ (n : Nat) (d : D), pl n d = true → der n M d = some (py d)
  | n, .non, _ => by cases n <;> simp [der, py]
  | n, .bl _, _ => by cases n <;> simp [der, py]
  | n, .int _, _ => by cases n <;> simp [der, py]
  | n, .str s, h => by
    have h' : okS s = true := by cases n <;> simpa only [pl] using h
    unfold okS at h'
    cases n <;> simp only [der, if_pos h', py]
  | 0, .tup _, h => by simp [pl] at h
  | n + 1, .tup ds, h => by
    have h' : pls n ds = true := by simpa only [pl] using h
    simp only [der, ders_pl M n ds h', py, Option.map_some]
  | n, .hdl _, h => by cases n <;> simp [pl] at h
  | n, .ro _, h => by cases n <;> simp [pl] at h
theorem ders_pl (M : Mem) : ∀ (n : Nat) (ds : List D), pls n ds = true → ds.mapM (fun d => der n M d) = some (pys ds)
  | _, [], _ => rfl
  | n, d :: ds, h => by
    have h' : pl n d = true ∧ pls n ds = true := by simpa only [pls, Bool.and_eq_true] using h
    rw [List.mapM_cons, der_pl M n d h'.1, ders_pl M n ds h'.2]
    rfl
end
mutual
theorem pl_mono : ∀ (n : Nat) (d : D), pl n d = true → ∀ m, n ≤ m → pl m d = true
  | n, .non, _, m, _ => by cases m <;> simp [pl]
  | n, .bl _, _, m, _ => by cases m <;> simp [pl]
  | n, .int _, _, m, _ => by cases m <;> simp [pl]
  | n, .str s, h, m, _ => by
    have h' : okS s = true := by cases n <;> simpa only [pl] using h
    cases m <;> simpa only [pl] using h'
  | 0, .tup _, h, _, _ => by simp [pl] at h
  | n + 1, .tup ds, h, 0, hm => by omega
  | n + 1, .tup ds, h, m + 1, hm => by
    have h' : pls n ds = true := by simpa only [pl] using h
    simpa only [pl] using pls_mono n ds h' m (by omega)
  | n, .hdl _, h, _, _ => by cases n <;> simp [pl] at h
  | n, .ro _, h, _, _ => by cases n <;> simp [pl] at h
theorem pls_mono : ∀ (n : Nat) (ds : List D), pls n ds = true → ∀ m, n ≤ m → pls m ds = true
  | _, [], _, _, _ => by simp [pls]
  | n, d :: ds, h, m, hm => by
    have h' : pl n d = true ∧ pls n ds = true := by simpa only [pls, Bool.and_eq_true] using h
    simp only [pls, pl_mono n d h'.1 m hm, pls_mono n ds h'.2 m hm, Bool.and_self]
end
/-- == -/
def deq (a b : D) : Bool := peq (py a) (py b)
def deqs (a b : List D) : Bool := peqs (pys a) (pys b)
section
variable {M : Mem}
theorem oEq_d32 {a b : D} (ha : pl 32 a = true) (hb : pl 32 b = true) : oEq (.d a) (.d b) M = .ok (.d (.bl (deq a b))) M := oEq_of (der_pl M 32 a ha) (der_pl M 32 b hb)
theorem oNe_d32 {a b : D} (ha : pl 32 a = true) (hb : pl 32 b = true) : oNe (.d a) (.d b) M = .ok (.d (.bl (!deq a b))) M := oNe_of (der_pl M 32 a ha) (der_pl M 32 b hb)
theorem oEq_d {a b : D} (ha : pl 16 a = true) (hb : pl 16 b = true) : oEq (.d a) (.d b) M = .ok (.d (.bl (deq a b))) M := oEq_d32 (pl_mono 16 a ha 32 (by decide)) (pl_mono 16 b hb 32 (by decide))
theorem oNe_d {a b : D} (ha : pl 16 a = true) (hb : pl 16 b = true) : oNe (.d a) (.d b) M = .ok (.d (.bl (!deq a b))) M := oNe_d32 (pl_mono 16 a ha 32 (by decide)) (pl_mono 16 b hb 32 (by decide))
theorem derR_l31 {x : RV} {ds : List D} (h : lstT x M = some ds) (hp : pls 31 ds = true) : derR x M = some (.list (pys ds)) := by
  cases x with
  | o o =>
    cases o with
    | lst es =>
      simp only [lstT, Option.some.injEq] at h
      subst h
      simp only [derR, ders_pl M 31 es hp, Option.map_some]
    | _ => simp [lstT] at h
  | d d =>
    cases d with
    | hdl n =>
      simp only [lstT] at h
      split at h
      · rename_i es e
        cases h
        simp only [derR, der, e, ders_pl M 31 _ hp, Option.map_some]
      · cases h
    | _ => simp [lstT] at h
theorem derR_l {x : RV} {ds : List D} (h : lstT x M = some ds) (hp : pls 15 ds = true) : derR x M = some (.list (pys ds)) := derR_l31 h (pls_mono 15 ds hp 31 (by decide))
theorem oEq_l31 {x y : RV} {as bs : List D} (h1 : lstT x M = some as) (h2 : lstT y M = some bs) (ha : pls 31 as = true) (hb : pls 31 bs = true) : oEq x y M = .ok (.d (.bl (deqs as bs))) M := oEq_of (derR_l31 h1 ha) (derR_l31 h2 hb)
theorem oNe_l31 {x y : RV} {as bs : List D} (h1 : lstT x M = some as) (h2 : lstT y M = some bs) (ha : pls 31 as = true) (hb : pls 31 bs = true) : oNe x y M = .ok (.d (.bl (!deqs as bs))) M := oNe_of (derR_l31 h1 ha) (derR_l31 h2 hb)
theorem oEq_l {x y : RV} {as bs : List D} (h1 : lstT x M = some as) (h2 : lstT y M = some bs) (ha : pls 15 as = true) (hb : pls 15 bs = true) : oEq x y M = .ok (.d (.bl (deqs as bs))) M := oEq_of (derR_l h1 ha) (derR_l h2 hb)
theorem oNe_l {x y : RV} {as bs : List D} (h1 : lstT x M = some as) (h2 : lstT y M = some bs) (ha : pls 15 as = true) (hb : pls 15 bs = true) : oNe x y M = .ok (.d (.bl (!deqs as bs))) M := oNe_of (derR_l h1 ha) (derR_l h2 hb)
end
@[simp] theorem deq_tup (a b : List D) : deq (.tup a) (.tup b) = deqs a b := nrfl rfl
@[simp] theorem deq_int (a b : Int) : deq (.int a) (.int b) = decide (a = b) := nrfl rfl
@[simp] theorem deq_bl (a b : Bool) : deq (.bl a) (.bl b) = (a == b) := nrfl rfl
@[simp] theorem deq_str (a b : Str) : deq (.str a) (.str b) = decide (a = b) := nrfl rfl
@[simp] theorem deq_non : deq .non .non = true := nrfl rfl
@[simp] theorem deq_non_tup (a : List D) : deq .non (.tup a) = false := nrfl rfl
@[simp] theorem deq_tup_non (a : List D) : deq (.tup a) .non = false := nrfl rfl
@[simp] theorem deq_int_non (a : Int) : deq (.int a) .non = false := nrfl rfl
@[simp] theorem deq_non_int (a : Int) : deq .non (.int a) = false := nrfl rfl
@[simp] theorem deqs_nil : deqs [] [] = true := nrfl rfl
@[simp] theorem deqs_cons (a b : D) (as bs : List D) : deqs (a :: as) (b :: bs) = (deq a b && deqs as bs) := nrfl rfl
@[simp] theorem deqs_nc (b : D) (bs : List D) : deqs [] (b :: bs) = false := nrfl rfl
@[simp] theorem deqs_cn (b : D) (bs : List D) : deqs (b :: bs) [] = false := nrfl rfl
/-- lists of data of one kind -/
theorem deqs_map {A : Type} [DecidableEq A] {enc : A → D} (h : ∀ a b, deq (enc a) (enc b) = decide (a = b)) : ∀ as bs : List A, deqs (as.map enc) (bs.map enc) = decide (as = bs)
  | [], [] => by simp
  | [], _ :: _ => by simp
  | _ :: _, [] => by simp
  | a :: as, b :: bs => by
    simp only [List.map_cons, deqs_cons, h, deqs_map h as bs, List.cons.injEq]
    by_cases h1 : a = b <;> by_cases h2 : as = bs <;> simp [h1, h2]
theorem pls_map {A : Type} {enc : A → D} {n : Nat} : ∀ {as : List A}, (∀ a ∈ as, pl n (enc a) = true) → pls n (as.map enc) = true
  | [], _ => rfl
  | a :: as, h => by
    simp only [List.map_cons, pls, h a List.mem_cons_self, Bool.true_and]
    exact pls_map fun x hx => h x (List.mem_cons_of_mem _ hx)
@[simp] theorem deqs_ints (as bs : List Int) : deqs (as.map D.int) (bs.map D.int) = decide (as = bs) := deqs_map deq_int as bs
@[simp] theorem pl_non (n : Nat) : pl n .non = true := by cases n <;> simp [pl]
@[simp] theorem pl_bl (n : Nat) (b : Bool) : pl n (.bl b) = true := by cases n <;> simp [pl]
@[simp] theorem pl_int (n : Nat) (b : Int) : pl n (.int b) = true := by cases n <;> simp [pl]
@[simp] theorem pl_str (n : Nat) (b : Str) : pl n (.str b) = okS b := by cases n <;> simp [pl]
@[simp] theorem pl_tup (n : Nat) (ds : List D) : pl (n + 1) (.tup ds) = pls n ds := by simp [pl]
@[simp] theorem pls_nil (n : Nat) : pls n [] = true := by simp [pls]
@[simp] theorem pls_cons (n : Nat) (d : D) (ds : List D) : pls n (d :: ds) = (pl n d && pls n ds) := by simp [pls]
@[simp] theorem pls_ints (n : Nat) (l : List Int) : pls n (l.map D.int) = true := pls_map fun _ _ => pl_int _ _
end MI
namespace HW
open MI PySem
@[simp] theorem deq_R (a b : Reach) : deq (encR a) (encR b) = decide (a = b) := by
  obtain ⟨f, A⟩ := a
  obtain ⟨g, B⟩ := b
  simp only [encR, deq_tup, deqs_cons, deq_bl, deqs_ints, deqs_nil, Bool.and_true, Prod.mk.injEq]
  by_cases h1 : f = g <;> by_cases h2 : A = B <;> simp [h1, h2]
theorem pl_R (n : Nat) (r : Reach) : pl (n + 2) (encR r) = true := by simp [encR]
@[simp] theorem oEq_R (a b : Reach) (M : Mem) : oEq (.d (encR a)) (.d (encR b)) M = .ok (.d (.bl (decide (a = b)))) M := by rw [oEq_d (pl_R 14 a) (pl_R 14 b), deq_R]
@[simp] theorem oNe_R (a b : Reach) (M : Mem) : oNe (.d (encR a)) (.d (encR b)) M = .ok (.d (.bl (!decide (a = b)))) M := by rw [oNe_d (pl_R 14 a) (pl_R 14 b), deq_R]
@[simp] theorem oEq_ints (a b : List Int) (M : Mem) : oEq (.o (.lst (a.map D.int))) (.o (.lst (b.map D.int))) M = .ok (.d (.bl (decide (a = b)))) M := by
  rw [oEq_l rfl rfl (pls_ints _ _) (pls_ints _ _), deqs_ints]
@[simp] theorem bIsi_R (t : Ty) (r : Reach) (M : Mem) : bIsi t (.d (encR r)) M = .ok (.d (.bl (decide (t = .tuple)))) M := bIsi_tup t _
@[simp] theorem bLen_R (r : Reach) (M : Mem) : bLen (.d (encR r)) M = .ok (.d (.int 2)) M := bLen_tup _
section
variable {T : Tab}
theorem law_whole_run [i : HasF T "_law_whole" F__law_whole_k03] (n : Nat) (k : Int) (M : Mem) : run T (n + 1) "_law_whole" [.int k] M = .ok (.d (.bl true)) M := by
  rw [run_has i, ← Res.wp_eq]
  refine wp_run rfl ?_
  simp [F__law_whole_k03, b__law_whole_k03]
theorem law_is_run [HasF T "_law_whole" F__law_whole_k03] [i : HasF T "_law_is" F__law_is] (n : Nat) (r : Reach) (h : Rising r.2) (hl : r.2.length < 4000) (M : Mem) : run T (n + 2) "_law_is" [encR r] M = .ok (.d (.bl true)) M := by
  rw [run_has i, ← Res.wp_eq]
  refine wp_run rfl ?_
  simp [F__law_is, b__law_is]
  refine forL_wp D.int (fun l env M' => ∃ j, env = [some (encR r), j] ∧ M' = M) ?_ ?_ _ _ _ ⟨_, rfl, rfl⟩
  · rintro _ _ ⟨j, rfl, rfl⟩
    have hs : sortI (dedI r.2) = r.2 := ss_of_rising h
    simp [hl, hs]
  · rintro a l _ _ ⟨j, rfl, rfl⟩
    simp
    rw [law_whole_run]
    simp
    exact ⟨_, rfl, rfl⟩
theorem law_due_run [i : HasF T "_law_due" F__law_due] (n : Nat) (w : W4) (a b : Bool) (M : Mem) : run T (n + 1) "_law_due" [.str w.s, .bl a, .bl b] M = .ok (.d (.bl (w.tb a b))) M := by
  rw [run_has i, ← Res.wp_eq]
  refine wp_run rfl ?_
  cases w <;> cases a <;> simp [F__law_due, b__law_due, W4.s, W4.tb]
end
end HW
end
section
set_option linter.all false
set_option autoImplicit false
/-! MJ10: stretches; law k03 -/
namespace HW
open MI PySem
def encO : Option Int → D
  | none => .non
  | some i => .int i
def stretchOf : Option Int → Option Int → Reach
  | none, none => (true, [])
  | none, some h => (true, [h])
  | some l, none => (false, [l])
  | some l, some h => if h ≤ l then (false, []) else (false, [l, h])
theorem stretch_rising (a b : Option Int) : Rising (stretchOf a b).2 := by
  unfold stretchOf Rising
  cases a <;> cases b <;> simp
  split
  · simp
  · simp; omega
theorem stretch_len (a b : Option Int) : (stretchOf a b).2.length ≤ 2 := by
  unfold stretchOf
  cases a <;> cases b <;> simp
  split <;> simp
section
variable {T : Tab}
theorem stretch_of_run [i : HasF T "stretch_of" F_stretch_of] (n : Nat) (a b : Option Int) (M : Mem) : run T (n + 1) "stretch_of" [encO a, encO b] M = .ok (.d (encR (stretchOf a b))) M := by
  rw [run_has i, ← Res.wp_eq]
  refine wp_run rfl ?_
  cases a <;> cases b <;> simp [F_stretch_of, b_stretch_of, encO, stretchOf, encR]
  split <;> simp
theorem law_due_k03_run [i : HasF T "_law_due" F__law_due_k03] (n : Nat) (a b : Option Int) (M : Mem) : run T (n + 1) "_law_due" [encO a, encO b] M = .ok (.d (encR (stretchOf a b))) M := by
  have hl : (2 : Nat) ≤ lim := by decide
  rw [run_has i, ← Res.wp_eq]
  refine wp_run rfl ?_
  simp [F__law_due_k03, b__law_due_k03, hl]
  rw [show ([encO a, encO b] : List D) = [a, b].map encO from rfl, compL_map encO rfl Option.isSome encO (fun x => by cases x <;> simp [← Res.wp_eq, encO]) [a, b] [] (by simpa using hl)]
  cases a <;> cases b <;> simp [encO, stretchOf, encR]
  split <;> simp
theorem law_k03_run [HasF T "stretch_of" F_stretch_of] [HasF T "_law_draw" F__law_draw] [HasF T "_law_far" F__law_far] [HasF T "_law_whole" F__law_whole_k03] [HasF T "_law_is" F__law_is] [HasF T "_law_due" F__law_due_k03] [i : HasF T "law" F_law_k03] (ns : List Int) (hns : ns.length ≤ 63) (n : Nat) :
    ∃ M, run T (n + 4) "law" [scr ns] [] = .ok (.d (.bl true)) M := by
  have : (run T (n + 4) "law" [scr ns] []).wp fun x M' => Kp (x = .d (.bl true)) := by
    rw [run_has i]
    refine wp_run rfl ?_
    simp [F_law_k03, b_law_k03]
    refine ⟨by omega, ?_⟩
    refine forL_range (fun j env M' => ∃ (j1 j2 j3 j4 j5 : Option D), env = [some (scr ns), j1, j2, j3, j4, j5]) ?_ ?_ _ _ ⟨_, _, _, _, _, rfl⟩
    · rintro _ M ⟨j1, j2, j3, j4, j5, rfl⟩
      have e1 := stretch_of_run (T := T) (n + 2) none none M
      have e2 := stretch_of_run (T := T) (n + 2) (some 5) (some 5) M
      simp only [encO] at e1 e2
      have d1 : ∀ M, oEq (.d (encR (stretchOf none none))) (.d (.tup [.bl true, .tup []])) M = .ok (.d (.bl true)) M := fun M => by
        have := oEq_R (stretchOf none none) (true, []) M
        simpa [encR, stretchOf] using this
      have d2 : ∀ M, oEq (.d (encR (stretchOf (some 5) (some 5)))) (.d (.tup [.bl false, .tup []])) M = .ok (.d (.bl true)) M := fun M => by
        have := oEq_R (stretchOf (some 5) (some 5)) (false, []) M
        simpa [encR, stretchOf] using this
      simp [e1, d1, e2, d2]
      rfl
    · rintro j _ M hj ⟨j1, j2, j3, j4, j5, rfl⟩
      have s1 : ∀ (a b : Int) M, run T (n + 3) "stretch_of" [.int a, .int b] M = .ok (.d (encR (stretchOf (some a) (some b)))) M := fun a b M => stretch_of_run (T := T) (n + 2) (some a) (some b) M
      have s2 : ∀ (a : Int) M, run T (n + 3) "stretch_of" [.int a, .non] M = .ok (.d (encR (stretchOf (some a) none))) M := fun a M => stretch_of_run (T := T) (n + 2) (some a) none M
      have s3 : ∀ (b : Int) M, run T (n + 3) "stretch_of" [.non, .int b] M = .ok (.d (encR (stretchOf none (some b)))) M := fun b M => stretch_of_run (T := T) (n + 2) none (some b) M
      have s4 : ∀ M, run T (n + 3) "stretch_of" [.non, .non] M = .ok (.d (encR (stretchOf none none))) M := fun M => stretch_of_run (T := T) (n + 2) none none M
      have t1 : ∀ (a b : Int) M, run T (n + 3) "_law_due" [.int a, .int b] M = .ok (.d (encR (stretchOf (some a) (some b)))) M := fun a b M => law_due_k03_run (T := T) (n + 2) (some a) (some b) M
      have t2 : ∀ (a : Int) M, run T (n + 3) "_law_due" [.int a, .non] M = .ok (.d (encR (stretchOf (some a) none))) M := fun a M => law_due_k03_run (T := T) (n + 2) (some a) none M
      have t3 : ∀ (b : Int) M, run T (n + 3) "_law_due" [.non, .int b] M = .ok (.d (encR (stretchOf none (some b)))) M := fun b M => law_due_k03_run (T := T) (n + 2) none (some b) M
      have t4 : ∀ M, run T (n + 3) "_law_due" [.non, .non] M = .ok (.d (encR (stretchOf none none))) M := fun M => law_due_k03_run (T := T) (n + 2) none none M
      have li : ∀ (a b : Option Int) M, run T (n + 3) "_law_is" [encR (stretchOf a b)] M = .ok (.d (.bl true)) M := fun a b M => law_is_run (n + 1) _ (stretch_rising a b) (by have := stretch_len a b; omega) M
      have dr : ∀ (k many : Int) M, 0 < many → run T (n + 3) "_law_draw" [scr ns, .int k, .int many] M = .ok (.d (.int (lawDraw ns k many))) M := fun k many M hm => law_draw_run (n + 2) ns k many hm M
      obtain ⟨v1, _, _, f1⟩ := law_far_ex (T := T) ns (j : Int)
      obtain ⟨v2, _, _, f2⟩ := law_far_ex (T := T) ns ((j : Int) + 63)
      have f1' := fun M => f1 (n + 1) M
      have f2' := fun M => f2 (n + 1) M
      simp [dr, f1', f2', s1, s2, s3, s4, t1, t2, t3, t4, li]
      repeat' split
      all_goals exact ⟨_, _, _, _, _, rfl⟩
  obtain ⟨x, M', e, rfl⟩ := Res.wp_ex this
  exact ⟨M', e⟩
end
end HW
end
section
set_option linter.all false
set_option autoImplicit false
/-! MK2: where two reaches part -/
namespace HW
open MI (sortI insI dedI)
/-- the edges that only one has -/
def symd (A B : List Int) : List Int := sortI (A.filter (fun e => !decide (e ∈ B)) ++ B.filter (fun e => !decide (e ∈ A)))
theorem Rising.nodup {l : List Int} (h : Rising l) : l.Nodup := List.Pairwise.imp (fun h => Int.ne_of_lt h) h
theorem symd_rising {A B : List Int} (ha : Rising A) (hb : Rising B) : Rising (symd A B) := by
  refine sortI_rising _ (List.nodup_append.mpr ⟨ha.nodup.sublist List.filter_sublist, hb.nodup.sublist List.filter_sublist, fun x hx y hy e => ?_⟩)
  subst e
  simp only [List.mem_filter, Bool.not_eq_true', decide_eq_false_iff_not] at hx hy
  exact hx.2 hy.1
theorem filter_len_add {A : Type} (p : A → Bool) (l : List A) : (l.filter p).length + (l.filter fun x => !p x).length = l.length := by
  induction l with
  | nil => rfl
  | cons x l ih =>
    rw [List.filter_cons, List.filter_cons]
    by_cases h : p x = true
    · simp only [h, if_true, Bool.not_true, Bool.false_eq_true, if_false, List.length_cons]; omega
    · have h' : p x = false := by simpa using h
      simp only [h', Bool.not_false, if_true, Bool.false_eq_true, if_false, List.length_cons]; omega
theorem filter_sort (p : Int → Bool) (l : List Int) : ((sortI l).filter p).length = (l.filter p).length := by
  have hi : ∀ i (l : List Int), ((insI i l).filter p).length = ((i :: l).filter p).length := fun i l => by
    induction l with
    | nil => rfl
    | cons j r ih =>
      unfold insI
      split
      · rfl
      · rw [List.filter_cons, List.filter_cons, List.filter_cons]
        rw [List.filter_cons] at ih
        split <;> split at ih <;> simp_all
  induction l with
  | nil => rfl
  | cons i r ih => unfold sortI; rw [hi, List.filter_cons, List.filter_cons]; split <;> simp [ih]
theorem just_eq {a b : Reach} (ha : Rising a.2) (hb : Rising b.2) : blend .just a b = ((a.1 != b.1), symd a.2 b.2) := by
  refine reach_ext (blend_rising _ _ _) (symd_rising ha hb) fun k => ?_
  rw [blend_lies _ ha hb]
  obtain ⟨f, A⟩ := a
  obtain ⟨g, B⟩ := b
  simp only at ha hb ⊢
  show (liesIn (f, A) k != liesIn (g, B) k) = _
  rw [liesIn_count, liesIn_count, liesIn_count]
  have e1 : ((symd A B).filter fun e => decide (e ≤ k)).length = ((A.filter fun e => !decide (e ∈ B)).filter fun e => decide (e ≤ k)).length + ((B.filter fun e => !decide (e ∈ A)).filter fun e => decide (e ≤ k)).length := by
    unfold symd
    rw [filter_sort, List.filter_append, List.length_append]
  have sw : ∀ (L : List Int) (p q : Int → Bool), (L.filter p).filter q = (L.filter q).filter p := fun L p q => by
    rw [List.filter_filter, List.filter_filter]
    congr 1; funext x; exact Bool.and_comm _ _
  have e2 := filter_len_add (fun e => decide (e ∈ B)) (A.filter fun e => decide (e ≤ k))
  have e3 := filter_len_add (fun e => decide (e ∈ A)) (B.filter fun e => decide (e ≤ k))
  rw [sw A, sw B] at e1
  have e4 : ((A.filter fun e => decide (e ≤ k)).filter fun e => decide (e ∈ B)) = ((B.filter fun e => decide (e ≤ k)).filter fun e => decide (e ∈ A)) := by
    refine rising_one (List.Pairwise.filter _ (List.Pairwise.filter _ ha)) (List.Pairwise.filter _ (List.Pairwise.filter _ hb)) fun x => ?_
    simp only [List.mem_filter, decide_eq_true_eq]
    constructor
    · rintro ⟨⟨h1, h2⟩, h3⟩; exact ⟨⟨h3, h2⟩, h1⟩
    · rintro ⟨⟨h1, h2⟩, h3⟩; exact ⟨⟨h3, h2⟩, h1⟩
  rw [e4] at e2
  generalize ((symd A B).filter fun e => decide (e ≤ k)).length = s at *
  generalize (A.filter fun e => decide (e ≤ k)).length = x at *
  generalize (B.filter fun e => decide (e ≤ k)).length = y at *
  generalize (((B.filter fun e => decide (e ≤ k)).filter fun e => decide (e ∈ A)).length) = z at *
  generalize ((A.filter fun e => decide (e ≤ k)).filter fun e => !decide (e ∈ B)).length = u at *
  generalize ((B.filter fun e => decide (e ≤ k)).filter fun e => !decide (e ∈ A)).length = v at *
  rcases Nat.mod_two_eq_zero_or_one x with h1 | h1 <;> rcases Nat.mod_two_eq_zero_or_one y with h2 | h2
  · have : s % 2 = 0 := by omega
    simp [h1, h2, this]
  · have : s % 2 = 1 := by omega
    simp [h1, h2, this]
  · have : s % 2 = 1 := by omega
    simp [h1, h2, this]
  · have : s % 2 = 0 := by omega
    simp [h1, h2, this]
theorem symd_nil {A B : List Int} (ha : Rising A) (hb : Rising B) (h : symd A B = []) : A = B := by
  have key : ∀ x, x ∈ symd A B ↔ (x ∈ A ∧ x ∉ B) ∨ (x ∈ B ∧ x ∉ A) := fun x => by
    unfold symd
    rw [sortI_mem]; simp [List.mem_append, List.mem_filter]
  refine rising_one ha hb fun k => ?_
  have := key k
  rw [h] at this
  simp only [List.not_mem_nil, false_iff, not_or, not_and, Classical.not_not] at this
  exact ⟨this.1, this.2⟩
def partingF (a b : Reach) : Option Int :=
  if a = b then none
  else match symd a.2 b.2 with
    | [] => some 0
    | e :: _ => if a.1 = b.1 then some e else some (e - 1)
/-- the point told lies in just one -/
theorem parting_lies {a b : Reach} (ha : Rising a.2) (hb : Rising b.2) {k : Int} (h : partingF a b = some k) : (liesIn a k == liesIn b k) = false := by
  have hj : liesIn (blend .just a b) k = true := by
    rw [just_eq ha hb]
    unfold partingF at h
    split at h
    · cases h
    · rename_i hne
      split at h
      · rename_i e
        cases h
        rw [e, liesIn_nil]
        have hab : a.2 = b.2 := symd_nil ha hb e
        have : ¬ a.1 = b.1 := fun z => hne (Prod.ext z hab)
        simpa using this
      · rename_i e r es
        have hr := symd_rising ha hb
        rw [es] at hr ⊢
        obtain ⟨h1, h2⟩ := Rising.cons.mp hr
        split at h
        · rename_i hf
          cases h
          rw [liesIn_cons, if_pos (Int.le_refl _), liesIn_gt h1]
          simp [hf]
        · rename_i hf
          cases h
          rw [liesIn_gt fun x hx => ?_]
          · simpa using hf
          · rcases List.mem_cons.mp hx with q | q
            · omega
            · have := h1 x q; omega
  rw [blend_lies _ ha hb] at hj
  revert hj
  show (liesIn a k != liesIn b k) = true → _
  cases liesIn a k <;> cases liesIn b k <;> simp
theorem symd_comm {A B : List Int} (ha : Rising A) (hb : Rising B) : symd A B = symd B A := by
  refine rising_one (symd_rising ha hb) (symd_rising hb ha) fun k => ?_
  unfold symd
  rw [sortI_mem, sortI_mem, List.mem_append, List.mem_append, Or.comm]
theorem parting_comm {a b : Reach} (ha : Rising a.2) (hb : Rising b.2) : partingF a b = partingF b a := by
  unfold partingF
  rw [symd_comm ha hb]
  by_cases h : a = b
  · rw [if_pos h, if_pos h.symm]
  · rw [if_neg h, if_neg fun z => h z.symm]
    split
    · rfl
    · by_cases h2 : a.1 = b.1
      · rw [if_pos h2, if_pos h2.symm]
      · rw [if_neg h2, if_neg fun z => h2 z.symm]
end HW
end
section
set_option linter.all false
set_option autoImplicit false
/-! MJ12: parting; law k08 -/
namespace MI
section
variable {M : Mem}
theorem oNotIn_ints (k : Int) (l : List Int) : oNotIn (.d (.int k)) (.d (.tup (l.map D.int))) M = .ok (.d (.bl (!decide (k ∈ l)))) M := by
  have h1 : (l.map D.int).all D.flat = true := by
    rw [List.all_eq_true]; intro d hd; obtain ⟨x, _, rfl⟩ := List.mem_map.mp hd; rfl
  have h2 : ((l.map D.int).any fun d => feq d (.int k)) = decide (k ∈ l) := by
    induction l with
    | nil => rfl
    | cons a l ih =>
      rw [List.map_cons, List.all_cons, Bool.and_eq_true] at h1
      rw [List.map_cons, List.any_cons, ih h1.2]
      by_cases c : k = a
      · subst c; simp [feq]
      · have : ¬ a = k := fun z => c z.symm
        simp [feq, c, this]
  have h3 : inR (.d (.int k)) (.d (.tup (l.map D.int))) M = some (decide (k ∈ l)) := by
    unfold inR
    simp only [show dicOf (.d (.tup (l.map D.int))) M = none from rfl, seqOf_tup]
    rw [h1, h2]; rfl
  unfold oNotIn
  rw [h3]; rfl
@[simp] theorem bSorted_o (ds : List D) : bSorted (.o (.lst ds)) M = match asInts ds with
    | some ns => .ok (.o (.lst ((sortI ns).map D.int))) M
    | none => bSortRw ds M := by
  unfold bSorted
  simp only [show dicOf (.o (.lst ds)) M = none from rfl, lstOf_o]
  cases asInts ds <;> rfl
@[simp] theorem mPopAt_def (n : Nat) (i : Int) : mPopAt n (.int i) M = match M[n]? with
    | some (.lst ds) => if 0 ≤ i ∧ i < ds.length ∧ i < 2 ^ 62 then match ds[i.toNat]? with
        | some d => .ok (.d d) (M.set n (.lst (ds.eraseIdx i.toNat)))
        | none => .bad
      else .bad
    | _ => .bad := nrfl rfl
end
end MI
namespace HW
open MI PySem
section
variable {T : Tab}
theorem parting_run [HasF T "edges_marked" F_edges_marked] [HasF T "truth_by" F_truth_by] [HasF T "blend" F_blend] [i : HasF T "parting" F_parting] (n : Nat) (a b : Reach) (ha : Rising a.2) (hb : Rising b.2) (hl : a.2.length + b.2.length < 4000) (M : Mem) :
    run T (n + 3) "parting" [encR a, encR b] M = .ok (.d (encO (partingF a b))) M := by
  rw [run_has i, ← Res.wp_eq]
  refine wp_run rfl ?_
  have h0 := blend_run (T := T) n .just a b hl M
  rw [just_eq ha hb] at h0
  simp only [W4.s] at h0
  simp [F_parting, b_parting, h0]
  have h1 : ∀ (l : List Int) M, oEq (.d (.tup (l.map D.int))) (.d (.tup [])) M = .ok (.d (.bl (decide (l = [])))) M := fun l M => by
    rw [oEq_d (by simp) (by simp), deq_tup]
    have := deqs_ints l []
    simp only [List.map_nil] at this
    rw [this]
  by_cases hab : a = b
  · subst hab
    have hp : partingF a a = none := by unfold partingF; rw [if_pos rfl]
    simp [hp, encO]
  · have hne : symd a.2 b.2 = [] → ¬ a.1 = b.1 := fun e z => hab (Prod.ext z (symd_nil ha hb e))
    cases es : symd a.2 b.2 with
    | nil =>
      have hf := hne es
      have hp : partingF a b = some 0 := by unfold partingF; rw [if_neg hab, es]
      have h2 := h1 []
      simp only [List.map_nil, decide_true] at h2
      simp [hab, hf, h2, hp, encO]
    | cons e r =>
      have h2 := h1 (e :: r)
      simp only [List.map_cons] at h2
      by_cases hf : a.1 = b.1
      · have hp : partingF a b = some e := by unfold partingF; rw [if_neg hab, es]; simp [hf]
        simp [hab, hf, hp, encO]
      · have hp : partingF a b = some (e - 1) := by unfold partingF; rw [if_neg hab, es]; simp [hf]
        simp [hab, hf, h2, hp, encO]
theorem law_due_k08_run [i : HasF T "_law_due" F__law_due_k08] (n : Nat) (a b : Reach) (ha : Rising a.2) (hb : Rising b.2) (hl : a.2.length + b.2.length ≤ 1000) (hab : ¬ a = b) (M : Mem) :
    run T (n + 1) "_law_due" [encR a, encR b] M = .ok (.d (encO (partingF a b))) M := by
  have hlim := lim_big
  rw [run_has i, ← Res.wp_eq]
  refine wp_run rfl ?_
  simp [F__law_due_k08, b__law_due_k08]
  rw [compL_map D.int rfl (fun e => !decide (e ∈ b.2)) D.int (fun x => by simp [← Res.wp_eq, oNotIn_ints]) a.2 [] (by simp; omega)]
  simp
  rw [compL_map D.int rfl (fun e => !decide (e ∈ a.2)) D.int (fun x => by simp [← Res.wp_eq, oNotIn_ints]) b.2 [] (by simp; omega)]
  have hs : sortI (a.2.filter (fun e => !decide (e ∈ b.2)) ++ b.2.filter (fun e => !decide (e ∈ a.2))) = symd a.2 b.2 := rfl
  have f1 : (a.2.filter (fun e => !decide (e ∈ b.2))).length ≤ a.2.length := List.length_filter_le _ _
  have f2 : (b.2.filter (fun e => !decide (e ∈ a.2))).length ≤ b.2.length := List.length_filter_le _ _
  have f3 : (a.2.filter (fun e => !decide (e ∈ b.2))).length + (b.2.filter (fun e => !decide (e ∈ a.2))).length ≤ lim := by omega
  simp [hs, f3]
  have hne : symd a.2 b.2 = [] → ¬ a.1 = b.1 := fun e z => hab (Prod.ext z (symd_nil ha hb e))
  have h1 : ∀ (l : List Int) M n, M[n]? = some (O.lst (l.map D.int)) → oEq (.d (.hdl n)) (.o (.lst [])) M = .ok (.d (.bl (decide (l = [])))) M := fun l M n h => by
    rw [oEq_l (as := l.map D.int) (bs := []) (by simp [h]) rfl (by simp) (by simp)]
    have := deqs_ints l []
    simp only [List.map_nil] at this
    rw [this]
  have h3 : ∀ (e : Int) (r : List Int) M n, M[n]? = some (O.lst ((e :: r).map D.int)) → oIx (.d (.hdl n)) (.d (.int 0)) M = .ok (.d (.int e)) M := fun e r M n h => by
    refine oIx_seq (ds := (e :: r).map D.int) (by simp [h]) (ixN_pos (by omega) (by simp)) rfl
  cases es : symd a.2 b.2 with
  | nil =>
    have hf := hne es
    have hp : partingF a b = some 0 := by unfold partingF; rw [if_neg hab, es]
    have h2 := fun M n => h1 [] M n
    simp only [List.map_nil, decide_true] at h2
    simp [hf, es]
    rw [h2 _ _ (by simp)]
    simp [hp, encO]
  | cons e r =>
    have h2 := fun M n => h1 (e :: r) M n
    by_cases hf : a.1 = b.1
    · have hp : partingF a b = some e := by unfold partingF; rw [if_neg hab, es]; simp [hf]
      simp [hf, es]
      rw [h3 e r _ _ (by simp)]
      simp [hp, encO]
    · have hp : partingF a b = some (e - 1) := by unfold partingF; rw [if_neg hab, es]; simp [hf]
      simp [hf, es]
      rw [h2 _ _ (by simp)]
      simp
      rw [h3 e r _ _ (by simp)]
      simp [hp, encO]
theorem eraseIdx_rising {l : List Int} (h : Rising l) (k : Nat) : Rising (l.eraseIdx k) := List.Pairwise.sublist (List.eraseIdx_sublist _ _) h
theorem map_erase {A B : Type} (f : A → B) : ∀ (l : List A) (k : Nat), (l.map f).eraseIdx k = (l.eraseIdx k).map f
  | [], _ => rfl
  | a :: l, 0 => rfl
  | a :: l, k + 1 => by simp [map_erase f l k]
theorem law_near_ex [HasF T "_law_draw" F__law_draw] [HasF T "_law_far" F__law_far] [HasF T "_law_reach" F__law_reach_k02] [i : HasF T "_law_near" F__law_near] (ns : List Int) (r : Reach) (hr : Rising r.2) (hl : r.2.length ≤ 13) (n : Nat) (M : Mem) :
    ∃ o : Reach, Rising o.2 ∧ o.2.length ≤ 14 ∧ run T (n + 4) "_law_near" [scr ns, encR r] M = .ok (.d (encR o)) M := by
  have : (run T (n + 4) "_law_near" [scr ns, encR r] M).wp fun x M' => Kp (M' = M ∧ ∃ o : Reach, Rising o.2 ∧ o.2.length ≤ 14 ∧ x = .d (encR o)) := by
    have hlim := lim_big
    rw [run_has i]
    refine wp_run rfl ?_
    have dr : ∀ (k many : Int) M, 0 < many → run T (n + 3) "_law_draw" [scr ns, .int k, .int many] M = .ok (.d (.int (lawDraw ns k many))) M := fun k many M hm => law_draw_run (n + 2) ns k many hm M
    have hw0 := lawDraw_nn ns 20 (show (0 : Int) < 6 by decide)
    simp [F__law_near, b__law_near, dr]
    generalize lawDraw ns 20 6 = way at *
    split
    · rename_i h0
      exact ⟨rfl, (!r.1, r.2), hr, by show r.2.length ≤ 14; omega, rfl⟩
    · rename_i h0
      by_cases h1 : way = 1
      · subst h1
        by_cases hn : 0 < (r.2.length : Int)
        · have q0 := lawDraw_nn ns 21 hn
          have q1 := lawDraw_lt ns 21 hn
          have q2 : (lawDraw ns 21 r.2.length).toNat < r.2.length := by omega
          have q3 : 0 < r.2.length := by omega
          simp [q3, dr, q0, q1]
          have q4 : (r.2.map D.int)[(lawDraw ns 21 r.2.length).toNat]? = some (.int r.2[(lawDraw ns 21 r.2.length).toNat]) := by
            rw [List.getElem?_map, List.getElem?_eq_getElem q2]; rfl
          have e5 : (r.2.map D.int).eraseIdx (lawDraw ns 21 r.2.length).toNat = (r.2.eraseIdx (lawDraw ns 21 r.2.length).toNat).map D.int := map_erase _ _ _
          rw [e5]
          refine ⟨by omega, by simp, rfl, (r.1, _), eraseIdx_rising hr _, ?_, rfl⟩
          have := List.length_eraseIdx_le r.2 (lawDraw ns 21 r.2.length).toNat
          show (r.2.eraseIdx _).length ≤ 14
          omega
        · have q3 : ¬ 0 < r.2.length := by omega
          simp [q3]
          exact ⟨rfl, (r.1, r.2), hr, by show r.2.length ≤ 14; omega, rfl⟩
      · by_cases h2 : way = 2
        · subst h2
          have q5 : r.2.length + 1 ≤ lim := by omega
          have q6 : r.2.length + 1 < 4000 := by omega
          have e1 : r.2.map D.int ++ [D.int (lawDraw ns 22 30 - 10)] = (r.2 ++ [lawDraw ns 22 30 - 10]).map D.int := by simp
          simp [dr, q5, e1, -List.map_append, q6]
          refine ⟨rfl, (r.1, ss (r.2 ++ [lawDraw ns 22 30 - 10])), ss_rising _, ?_, rfl⟩
          have := ss_len (r.2 ++ [lawDraw ns 22 30 - 10])
          rw [List.length_append] at this
          show (ss (r.2 ++ [lawDraw ns 22 30 - 10])).length ≤ 14
          simp only [List.length_cons, List.length_nil] at this
          omega
        · by_cases h3 : 3 < way
          · obtain ⟨r2, a1, a2, _, e2⟩ := law_reach_ex (T := T) ns 30 n (M ++ [.lst (r.2.map D.int)])
            simp [h1, h2, h3, e2]
            exact ⟨rfl, r2, a1, by omega, rfl⟩
          · simp [h1, h2, h3]
            exact ⟨rfl, (r.1, r.2), hr, by show r.2.length ≤ 14; omega, rfl⟩
  obtain ⟨x, M', e, rfl, o, h1, h2, rfl⟩ := Res.wp_ex this
  exact ⟨o, h1, h2, e⟩
@[simp] theorem encO_some (k : Int) : encO (some k) = .int k := nrfl rfl
@[simp] theorem encO_none : encO none = .non := nrfl rfl
theorem law_k08_run [HasF T "edges_marked" F_edges_marked] [HasF T "truth_by" F_truth_by] [HasF T "blend" F_blend] [HasF T "parting" F_parting] [HasF T "_law_draw" F__law_draw] [HasF T "_law_far" F__law_far] [HasF T "_law_reach" F__law_reach_k02] [HasF T "_law_in" F__law_in] [HasF T "_law_whole" F__law_whole_k03]
    [HasF T "_law_near" F__law_near] [HasF T "_law_due" F__law_due_k08] [i : HasF T "law" F_law_k08] (ns : List Int) (hns : ns.length ≤ 63) (n : Nat) :
    ∃ M, run T (n + 5) "law" [scr ns] [] = .ok (.d (.bl true)) M := by
  have : (run T (n + 5) "law" [scr ns] []).wp fun x M' => Kp (x = .d (.bl true)) := by
    have hlim := lim_big
    rw [run_has i]
    refine wp_run rfl ?_
    simp [F_law_k08, b_law_k08]
    obtain ⟨a, a1, a2, _, e1⟩ := law_reach_ex (T := T) ns 0 (n + 1) []
    obtain ⟨b, c1, c2, e2⟩ := law_near_ex (T := T) ns a a1 a2 n []
    simp [e1, e2]
    have ln : ∀ (r : Reach) (k : Int) M, r.2.length ≤ 100 → run T (n + 4) "_law_in" [encR r, .int k] M = .ok (.d (.bl (liesIn r k))) M := fun r k M h => law_in_run (n + 3) r k M (by omega)
    have la : a.2.length ≤ 100 := by omega
    have lb : b.2.length ≤ 100 := by omega
    have self : partingF a a = none := by unfold partingF; rw [if_pos rfl]
    have pa : ∀ M, run T (n + 4) "parting" [encR a, encR a] M = .ok (.d .non) M := fun M => by
      rw [parting_run (n + 1) a a a1 a1 (by omega), self]; rfl
    refine forL_wp (fun p : Reach × Reach => D.tup [encR p.1, encR p.2]) (fun l env M' => ∃ (j3 j4 : Option D), env = [some (scr ns), some (encR a), some (encR b), j3, j4] ∧ ∀ p ∈ l, p = (a, b) ∨ p = (b, a)) ?_ ?_ [(a, b), (b, a)] _ _ ⟨_, _, rfl, by simp⟩
    · rintro _ M ⟨j3, j4, rfl, _⟩
      simp [pa]
      rfl
    · rintro p l _ M ⟨j3, j4, rfl, hp⟩
      have hp1 : partingF p.1 p.2 = partingF a b ∧ Rising p.1.2 ∧ Rising p.2.2 ∧ p.1.2.length + p.2.2.length < 4000 := by
        rcases hp p List.mem_cons_self with rfl | rfl
        · exact ⟨rfl, a1, c1, by show a.2.length + b.2.length < 4000; omega⟩
        · exact ⟨(parting_comm a1 c1).symm, c1, a1, by show b.2.length + a.2.length < 4000; omega⟩
      obtain ⟨p1, p2, p3, p4⟩ := hp1
      have hl : ∀ q ∈ l, q = (a, b) ∨ q = (b, a) := fun q hq => hp q (List.mem_cons_of_mem _ hq)
      simp
      rw [parting_run (n + 1) p.1 p.2 p2 p3 p4, p1]
      by_cases hab : a = b
      · subst hab
        simp [self]
        exact ⟨_, _, rfl, hl⟩
      · cases hk : partingF a b with
        | none =>
          unfold partingF at hk
          rw [if_neg hab] at hk
          split at hk
          · cases hk
          · split at hk <;> cases hk
        | some k =>
          have hlies := parting_lies a1 c1 hk
          simp [hab]
          rw [law_whole_run]
          simp
          rw [law_due_k08_run (n + 3) a b a1 c1 (by omega) hab, hk]
          simp [ln, la, lb, hlies]
          exact ⟨_, _, rfl, hl⟩
  obtain ⟨x, M', e, rfl⟩ := Res.wp_ex this
  exact ⟨M', e⟩
end
end HW
end
section
set_option linter.all false
set_option autoImplicit false
/-! MJ13: is_reach; law k05 -/
namespace HW
open MI PySem
/-- a thing whose kind may be asked -/
def kOk (M : Mem) : D → Prop
  | .hdl n => (∃ ds, M[n]? = some (.lst ds)) ∨ ∃ kvs, M[n]? = some (.dic false kvs)
  | _ => True
def tyB : Ty → D → Bool
  | .tuple, .tup _ => true
  | .bool, .bl _ => true
  | .int, .bl _ => true
  | .int, .int _ => true
  | _, _ => false
theorem bIsi_k {M : Mem} {d : D} (t : Ty) (ht : t = .tuple ∨ t = .bool ∨ t = .int) (h : kOk M d) : bIsi t (.d d) M = .ok (.d (.bl (tyB t d))) M := by
  have key : isTy t (.d d) M = some (tyB t d) := by
    cases d with
    | hdl n =>
      rcases h with ⟨ds, h⟩ | ⟨ds, h⟩ <;> rcases ht with rfl | rfl | rfl <;> simp [isTy, h, tyB]
    | _ => rcases ht with rfl | rfl | rfl <;> rfl
  unfold bIsi
  rw [key]; rfl
def rdD : Option Int → List D → Bool
  | _, [] => true
  | none, .int i :: r => rdD (some i) r
  | some j, .int i :: r => !decide (i ≤ j) && rdD (some i) r
  | _, _ :: _ => false
def isReachD : D → Bool
  | .tup [.bl _, .tup es] => rdD none es
  | _ => false
/-- .. and its parts' -/
def kOk2 (M : Mem) (d : D) : Prop := kOk M d ∧ (∀ a b, d = .tup [a, b] → kOk M a ∧ kOk M b) ∧ ∀ a es, d = .tup [a, .tup es] → ∀ e ∈ es, kOk M e
theorem rdD_map {l : List Int} : ∀ {o : Option Int}, (∀ j, o = some j → ∀ x ∈ l, j < x) → Rising l → rdD o (l.map D.int) = true := by
  induction l with
  | nil => intro o _ _; rfl
  | cons a l ih =>
    intro o h hr
    obtain ⟨h1, h2⟩ := Rising.cons.mp hr
    have h3 : rdD (some a) (l.map D.int) = true := ih (fun j e x hx => by cases e; exact h1 x hx) h2
    cases o with
    | none => exact h3
    | some j =>
      have := h j rfl a List.mem_cons_self
      have h4 : ¬ a ≤ j := by omega
      simp [rdD, h3, h4]
theorem isReach_R {r : Reach} (h : Rising r.2) : isReachD (encR r) = true := rdD_map (fun j e => by cases e) h
theorem rdD_bad {l : List D} {d : D} (h : ∀ i, d ≠ .int i) (hm : d ∈ l) : ∀ o, rdD o l = false := by
  induction l with
  | nil => cases hm
  | cons a l ih =>
    intro o
    rcases List.mem_cons.mp hm with e | hm
    · subst e
      cases d with
      | int i => exact absurd rfl (h i)
      | _ => cases o <;> rfl
    · have ih' := ih hm
      cases a with
      | int i => cases o <;> simp [rdD, ih']
      | _ => cases o <;> rfl
theorem rdD_fall : ∀ (l : List Int) (a b : Int) (r : List D) (o : Option Int), b ≤ a → rdD o (l.map D.int ++ D.int a :: D.int b :: r) = false
  | [], a, b, r, o, h => by cases o <;> simp [rdD, h]
  | x :: l, a, b, r, o, h => by
    have := rdD_fall l a b r (some x) h
    cases o <;> simp [rdD, this]
section
variable {T : Tab}
theorem is_reach_run [i : HasF T "is_reach" F_is_reach] (n : Nat) (d : D) (M : Mem) (h : kOk2 M d) : run T (n + 1) "is_reach" [d] M = .ok (.d (.bl (isReachD d))) M := by
  obtain ⟨h0, h1, h2⟩ := h
  rw [run_has i, ← Res.wp_eq]
  refine wp_run rfl ?_
  simp [F_is_reach, b_is_reach]
  rw [bIsi_k _ (.inl rfl) h0]
  cases d with
  | tup ds =>
    rcases ds with _ | ⟨a, _ | ⟨b, _ | ⟨c, r⟩⟩⟩
    · simp [tyB, isReachD]
    · simp [tyB, isReachD]
    · obtain ⟨ha, hb⟩ := h1 a b rfl
      simp [tyB]
      rw [bIsi_k _ (.inr (.inl rfl)) ha]
      cases a with
      | bl f =>
        simp [tyB]
        rw [bIsi_k _ (.inl rfl) hb]
        cases b with
        | tup es =>
          have he := h2 _ es rfl
          simp [tyB]
          refine forL_wpD (fun l env M' => ∃ (o : Option Int) (j : Option D), env = [some (.tup [.bl f, .tup es]), some (encO o), j] ∧ M' = M ∧ (∀ e ∈ l, kOk M e) ∧ rdD o l = rdD none es) ?_ ?_ _ _ _ ⟨none, _, rfl, rfl, he, rfl⟩
          · rintro _ _ ⟨o, j, rfl, rfl, _, h⟩
            have h' : true = rdD none es := by rw [← h]; cases o <;> rfl
            simp [isReachD, ← h']
          · rintro e l _ _ ⟨o, j, rfl, rfl, hk, h⟩
            have hk2 := fun x hx => hk x (List.mem_cons_of_mem _ hx)
            simp
            rw [bIsi_k _ (.inr (.inr rfl)) (hk e List.mem_cons_self)]
            cases e with
            | int v =>
              simp [tyB]
              cases o with
              | none =>
                simp [encO]
                exact ⟨some v, _, rfl, rfl, hk2, h⟩
              | some w =>
                by_cases c : v ≤ w
                · have h' : false = rdD none es := by rw [← h]; simp [rdD, c]
                  simp [encO, c, isReachD, ← h']
                · simp [encO, c]
                  refine ⟨some v, _, rfl, rfl, hk2, by rw [← h]; simp [rdD, c]⟩
            | bl v =>
              have h' : false = rdD none es := by rw [← h]; cases o <;> rfl
              simp [tyB, isReachD, ← h']
            | _ =>
              have h' : false = rdD none es := by rw [← h]; cases o <;> rfl
              simp [tyB, isReachD, ← h']
        | _ => simp [tyB, isReachD]
      | _ => simp [tyB, isReachD]
    · simp [tyB, isReachD]
      have : ¬ ((r.length : Int) + 1 + 1 + 1 = 2) := by omega
      simp [this]
  | _ => simp [tyB, isReachD]
end
end HW
end
section
set_option linter.all false
set_option autoImplicit false
/-! MJ14: law k05 -/
namespace MI
section
variable {M : Mem}
theorem sIx_none (n d : Nat) : sIx n d none = d := nrfl rfl
theorem sIx_some {n d : Nat} {v : Int} (h : 0 ≤ v) : sIx n d (some v) = min v.toNat n := by show (if v < 0 then (v + (n : Int)).toNat else min v.toNat n) = _; rw [if_neg (by omega)]
@[simp] theorem oSlice_tup (ds : List D) (lo hi : Option Int) : oSlice (.d (.tup ds)) lo hi M = .ok (.d (.tup (cut ds lo hi))) M := nrfl rfl
theorem cut_to {A : Type} (xs : List A) {i : Int} (h : 0 ≤ i) : cut xs none (some i) = xs.take i.toNat := by
  unfold cut
  rw [sIx_none, sIx_some h]
  simp only [List.drop_zero, Nat.sub_zero]
  rw [List.take_eq_take_iff]; omega
theorem cut_from {A : Type} (xs : List A) {i : Int} (h : 0 ≤ i) : cut xs (some i) none = xs.drop i.toNat := by
  unfold cut
  rw [sIx_none, sIx_some h]
  by_cases c : i.toNat ≤ xs.length
  · rw [Nat.min_eq_left c]
    refine List.take_of_length_le (by simp)
  · have c2 : xs.length ≤ i.toNat := by omega
    rw [Nat.min_eq_right c2, List.drop_of_length_le (Nat.le_refl _), List.drop_of_length_le c2]; simp
end
end MI
namespace HW
open MI PySem
section
variable {T : Tab}
theorem law_put_run [i : HasF T "_law_put" F__law_put] (n : Nat) (es : List D) (at_ : Int) (d : D) (h0 : 0 ≤ at_) (hl : es.length ≤ 100) (M : Mem) (hb : D.bels M.length es = true) (hd : d.bel M.length = true) :
    run T (n + 1) "_law_put" [.tup es, .int at_, d] M = .ok (.d (.tup (es.take at_.toNat ++ d :: es.drop at_.toNat))) M := by
  have hlim := lim_big
  have bt : ∀ (l : List D) (k : Nat), D.bels M.length l = true → D.bels M.length (l.take k) = true ∧ D.bels M.length (l.drop k) = true := by
    intro l
    induction l with
    | nil => intro k _; simp
    | cons a l ih =>
      intro k h
      simp only [bels_cons, Bool.and_eq_true] at h
      cases k with
      | zero => simp [h.1, h.2]
      | succ k => simp [h.1, (ih k h.2).1, (ih k h.2).2]
  have bapp : ∀ a b : List D, D.bels M.length a = true → D.bels M.length b = true → D.bels M.length (a ++ b) = true := by
    intro a b
    induction a with
    | nil => intro _ h; exact h
    | cons x a ih =>
      intro h1 h2
      simp only [bels_cons, Bool.and_eq_true] at h1
      simp [h1.1, ih h1.2 h2]
  rw [run_has i, ← Res.wp_eq]
  refine wp_run rfl ?_
  simp [F__law_put, b__law_put, cut_to _ h0, cut_from _ h0]
  have l1 : (1 : Nat) ≤ lim := by omega
  have hm := Nat.min_le_right at_.toNat es.length
  have l2 : min at_.toNat es.length + 1 ≤ lim := by omega
  have l3 : min at_.toNat es.length + (es.length - at_.toNat + 1) ≤ lim := by omega
  simp [l1, l2]
  refine ⟨by omega, ?_⟩
  have := bapp _ _ (bt es at_.toNat hb).1 (show D.bels M.length (d :: es.drop at_.toNat) = true by simp [hd, (bt es at_.toNat hb).2])
  simp [this]
/-- an odd thing, by what it is -/
theorem bad_x {M : Mem} {x : RV} (h : isReachD (box x M).1 = false) (k : kOk2 (box x M).2 (box x M).1) : (fun x M => isReachD (box x M).1 = false ∧ kOk2 (box x M).2 (box x M).1) x M := ⟨h, k⟩
def badOk (x : RV) (M : Mem) : Prop := isReachD (box x M).1 = false ∧ kOk2 (box x M).2 (box x M).1
theorem kOk_flat {M : Mem} {d : D} (h : ∀ n, d ≠ .hdl n) : kOk M d := by
  cases d with
  | hdl n => exact absurd rfl (h n)
  | _ => trivial
theorem bad_tup {M : Mem} {ds : List D} (h : isReachD (.tup ds) = false) (k : ∀ d ∈ ds, kOk M d) (k2 : ∀ a es, ds = [a, .tup es] → ∀ e ∈ es, kOk M e) : badOk (.d (.tup ds)) M :=
  ⟨h, trivial, fun a b e => by cases e; exact ⟨k _ (by simp), k _ (by simp)⟩, fun a es e => k2 a es (by injection e)⟩
theorem bad_flat {M : Mem} {d : D} (h : ∀ ds, d ≠ .tup ds) (k : kOk M d) : badOk (.d d) M := by
  refine ⟨?_, k, fun a b e => absurd e (h _), fun a es e => absurd e (h _)⟩
  cases d with
  | tup ds => exact absurd rfl (h ds)
  | _ => rfl
theorem kOk_int {M : Mem} {l : List Int} : ∀ e ∈ l.map D.int, kOk M e := fun e he => by
  obtain ⟨x, _, rfl⟩ := List.mem_map.mp he; trivial
theorem rd_take {l : List Int} {k : Nat} {d : D} (r : List D) (h : ∀ i, d ≠ .int i) : rdD none (l.take k |>.map D.int |>.append (d :: r)) = false :=
  rdD_bad h (List.mem_append_right _ List.mem_cons_self) none
theorem law_bad_ex [HasF T "_law_draw" F__law_draw] [HasF T "_law_far" F__law_far] [HasF T "_law_put" F__law_put] [i : HasF T "_law_bad" F__law_bad] (ns : List Int) (r : Reach) (hr : Rising r.2) (hl : r.2.length ≤ 13) (n : Nat) (M : Mem) :
    (run T (n + 3) "_law_bad" [scr ns, encR r] M).wp fun x M' => Kp (badOk x M') := by
  have hlim := lim_big
  rw [run_has i]
  refine wp_run rfl ?_
  have dr : ∀ (k many : Int) M, 0 < many → run T (n + 2) "_law_draw" [scr ns, .int k, .int many] M = .ok (.d (.int (lawDraw ns k many))) M := fun k many M hm => law_draw_run (n + 1) ns k many hm M
  obtain ⟨v, hv0, _, hv⟩ := law_far_ex (T := T) ns 22
  have hv' := fun M => hv n M
  have hs0 := lawDraw_nn ns 21 (show (0 : Int) < 1000 by decide)
  have hw0 := lawDraw_nn ns 20 (show (0 : Int) < 8 by decide)
  have pt : ∀ (at_ : Int) (d : D) (M : Mem), 0 ≤ at_ → d.bel M.length = true → run T (n + 2) "_law_put" [.tup (r.2.map D.int), .int at_, d] M = .ok (.d (.tup ((r.2.map D.int).take at_.toNat ++ d :: (r.2.map D.int).drop at_.toNat))) M := fun at_ d M h hd => law_put_run (n + 1) _ at_ d h (by simp; omega) M (by simp) hd
  simp [F__law_bad, b__law_bad, dr]
  generalize lawDraw ns 21 1000 = some_ at *
  generalize lawDraw ns 20 8 = way at *
  have l10 : (10 : Nat) ≤ lim := by omega
  have l5 : (5 : Nat) ≤ lim := by omega
  have l6 : (6 : Nat) ≤ lim := by omega
  have l2 : (2 : Nat) ≤ lim := by omega
  have fk : ∀ (x : RV) (M' : Mem), (fin Mode.keep M x M').wp (fun x M' => Kp (badOk x M')) = badOk x M' := fun x M' => rfl
  have lit : ∀ (ds : List D) (k : Int), 0 < (ds.length : Int) → ∀ (M' : Mem) (P : D → Prop), (∀ d ∈ ds, P d) → ∃ d, P d ∧ oIx (.o (.lst ds)) (.d (.int (k % ds.length))) M' = .ok (.d d) M' := fun ds k hk M' P hP => by
    obtain ⟨d, hd, e⟩ := oIx_litO (P := P) (ds := ds) (i := k % ds.length) (Int.emod_nonneg _ (by omega)) (Int.emod_lt_of_pos _ hk) hP
    exact ⟨d, hd, e M'⟩
  split
  · obtain ⟨d, hd, e⟩ := lit [D.non, D.int 5, D.bl true, D.str "out", D.tup [], D.tup [D.bl true], D.tup [D.bl false, D.tup [], D.tup []], D.hdl M.length, D.hdl (M.length + 1), D.tup [D.bl false, D.tup [D.int 1], D.tup [D.int 3]]] some_ (by simp) (M ++ [O.lst [D.bl false, D.tup []], O.dic false []])
      (fun d => badOk (.d d) (M ++ [O.lst [D.bl false, D.tup []], O.dic false []])) (by
        have tt : ∀ ds : List D, (∀ d ∈ ds, kOk (M ++ [O.lst [D.bl false, D.tup []], O.dic false []]) d) → isReachD (.tup ds) = false → (∀ a es, ds = [a, .tup es] → ∀ e ∈ es, kOk (M ++ [O.lst [D.bl false, D.tup []], O.dic false []]) e) → badOk (.d (.tup ds)) (M ++ [O.lst [D.bl false, D.tup []], O.dic false []]) := fun ds h1 h2 h3 => bad_tup h2 h1 h3
        simp only [List.forall_mem_cons]
        refine ⟨bad_flat nofun trivial, bad_flat nofun trivial, bad_flat nofun trivial, bad_flat nofun trivial, tt _ nofun rfl nofun, tt _ (by simp [kOk]) rfl nofun, tt _ (by simp [kOk]) rfl nofun, bad_flat nofun (.inl ⟨_, get_off0 M _⟩), bad_flat nofun (.inr ⟨_, get_off M _ 1⟩), tt _ (by simp [kOk]) rfl nofun, fun _ h => nomatch h⟩)
    simp at e
    rw [e]
    exact hd
  · split
    · obtain ⟨d, hd, e⟩ := lit [D.int 0, D.int 1, D.non, D.str "in", D.tup [D.bl true]] some_ (by simp) M (fun d => (∀ f, d ≠ .bl f) ∧ kOk M d) (by
        simp only [List.forall_mem_cons]
        refine ⟨⟨nofun, trivial⟩, ⟨nofun, trivial⟩, ⟨nofun, trivial⟩, ⟨nofun, trivial⟩, ⟨nofun, trivial⟩, fun _ h => nomatch h⟩)
      simp at e
      rw [e]
      simp [fk]
      have hd2 := hd.2
      refine bad_tup ?_ (by simp [hd2]; exact trivial) ?_
      · cases d with
        | bl f => exact absurd rfl (hd.1 f)
        | _ => rfl
      · rintro a es e
        simp only [List.cons.injEq, and_true] at e
        obtain ⟨_, e⟩ := e
        injection e with e
        subst e
        exact kOk_int
    · split
      · obtain ⟨d, hd, e⟩ := lit [D.hdl M.length, D.non, D.int 3, D.str "", D.bl true] some_ (by simp) (M ++ [O.lst (r.2.map D.int)]) (fun d => (∀ f, d ≠ .tup f) ∧ kOk (M ++ [O.lst (r.2.map D.int)]) d) (by
          simp only [List.forall_mem_cons]
          refine ⟨⟨nofun, .inl ⟨_, get_off0 M _⟩⟩, ⟨nofun, trivial⟩, ⟨nofun, trivial⟩, ⟨nofun, trivial⟩, ⟨nofun, trivial⟩, fun _ h => nomatch h⟩)
        simp at e
        rw [e]
        simp [fk]
        have hd2 := hd.2
        refine bad_tup ?_ (by simp [hd2]; exact trivial) ?_
        · cases d with
          | tup f => exact absurd rfl (hd.1 f)
          | _ => rfl
        · rintro a es e
          simp only [List.cons.injEq, and_true] at e
          exact absurd e.2 (hd.1 _)
      · have q0 : ∀ (l : List D), (∀ d ∈ l, kOk M d) → rdD none l = false → badOk (.d (.tup [.bl r.1, .tup l])) M := fun l h1 h2 => by
          refine bad_tup h2 (by simp [kOk]) ?_
          rintro a es e
          simp only [List.cons.injEq, and_true] at e
          obtain ⟨_, e⟩ := e
          injection e with e
          subst e
          exact h1
        have kt : ∀ (k : Nat) (d : D) (M' : Mem), kOk M' d → ∀ x ∈ (r.2.map D.int).take k ++ d :: (r.2.map D.int).drop k, kOk M' x := fun k d M' hd x hx => by
          rcases List.mem_append.mp hx with q | q
          · exact kOk_int x (List.mem_of_mem_take q)
          · rcases List.mem_cons.mp q with rfl | q
            · exact hd
            · exact kOk_int x (List.mem_of_mem_drop q)
        have kt2 : ∀ (k : Nat) (d : D) (M' : Mem), kOk M' d → rdD none ((r.2.map D.int).take k ++ d :: (r.2.map D.int).drop k) = false → badOk (.d (.tup [.bl r.1, .tup ((r.2.map D.int).take k ++ d :: (r.2.map D.int).drop k)])) M' := fun k d M' hd h2 => by
          refine bad_tup h2 (by simp [kOk]) ?_
          rintro a es e
          simp only [List.cons.injEq, and_true] at e
          obtain ⟨_, e⟩ := e
          injection e with e
          subst e
          exact kt k d M' hd
        obtain ⟨d, hd, e⟩ := lit [D.non, D.bl true, D.str "3", D.tup [D.int 3], D.hdl M.length, D.bl false] (some_ / 50) (by simp) (M ++ [O.lst [D.int 3]]) (fun d => (∀ i, d ≠ .int i) ∧ kOk (M ++ [O.lst [D.int 3]]) d ∧ d.bel (M.length + 1) = true) (by
          simp only [List.forall_mem_cons]
          refine ⟨⟨nofun, trivial, rfl⟩, ⟨nofun, trivial, rfl⟩, ⟨nofun, trivial, rfl⟩, ⟨nofun, trivial, rfl⟩, ⟨nofun, .inl ⟨_, get_off0 M _⟩, by simp [D.bel]⟩, ⟨nofun, trivial, rfl⟩, fun _ h => nomatch h⟩)
        simp at e
        have hm0 : 0 ≤ some_ % ((r.2.length : Int) + 1) := Int.emod_nonneg _ (by omega)
        have pt' := pt (some_ % ((r.2.length : Int) + 1)) d (M ++ [O.lst [D.int 3]]) hm0 (by simpa using hd.2.2)
        have last := kt2 (some_ % ((r.2.length : Int) + 1)).toNat d (M ++ [O.lst [D.int 3]]) hd.2.1 (rdD_bad hd.1 (List.mem_append_right _ List.mem_cons_self) none)
        by_cases h0' : 0 < r.2.length
        · have hp : 0 < (r.2.length : Int) := by omega
          have a0 := Int.emod_nonneg some_ (show (r.2.length : Int) ≠ 0 by omega)
          have a1 := Int.emod_lt_of_pos some_ hp
          have q2 : (some_ % (r.2.length : Int)).toNat < r.2.length := by omega
          have el : r.2 = r.2.take (some_ % (r.2.length : Int)).toNat ++ r.2[(some_ % (r.2.length : Int)).toNat] :: r.2.drop ((some_ % (r.2.length : Int)).toNat + 1) := by
            rw [← List.drop_eq_getElem_cons q2, List.take_append_drop]
          generalize hat : some_ % (r.2.length : Int) = at_ at *
          have gx : oIx (.d (.tup (r.2.map D.int))) (.d (.int at_)) M = .ok (.d (.int r.2[at_.toNat])) M := oIx_seq rfl (ixN_pos a0 (by simpa using a1)) (by rw [List.getElem?_map, List.getElem?_eq_getElem q2]; rfl)
          by_cases h5 : way < 5
          · have last := kt2 at_.toNat (.int r.2[at_.toNat]) M trivial (by
              have := rdD_fall (r.2.take at_.toNat) r.2[at_.toNat] r.2[at_.toNat] ((r.2.drop (at_.toNat + 1)).map D.int) none (Int.le_refl _)
              rw [← List.map_take, ← List.map_drop, List.drop_eq_getElem_cons q2]
              exact this)
            simp [h0', h5, hat, gx]
            rw [pt _ _ _ a0 rfl]
            simp [fk]
            simpa using last
          · by_cases h7 : way < 7
            · have v0 := Int.emod_nonneg v (show (5 : Int) ≠ 0 by decide)
              have e1 : (1 + at_).toNat = at_.toNat + 1 := by omega
              have last := kt2 (1 + at_).toNat (.int (r.2[at_.toNat] - 1 - v % 5)) M trivial (by
                have := rdD_fall (r.2.take at_.toNat) r.2[at_.toNat] (r.2[at_.toNat] - 1 - v % 5) ((r.2.drop (at_.toNat + 1)).map D.int) none (by omega)
                have e3 : (r.2.map D.int).take (at_.toNat + 1) = (r.2.take at_.toNat).map D.int ++ [D.int r.2[at_.toNat]] := by
                  rw [← List.map_take, List.take_succ_eq_append_getElem q2, List.map_append]; rfl
                rw [← List.map_drop, e1, e3, List.append_assoc]
                exact this)
              have e2 : 1 + at_ - 1 = at_ := by omega
              simp [h0', h5, h7, hat, e2, gx, hv']
              rw [pt _ _ _ (by omega) rfl]
              simp [fk]
              simpa using last
            · simp [h0', h5, h7, e]
              rw [pt']
              simp [fk]
              simpa using last
        · simp [h0', e]
          rw [pt']
          simp [fk]
          simpa using last
theorem law_k05_run [HasF T "is_reach" F_is_reach] [HasF T "_law_draw" F__law_draw] [HasF T "_law_far" F__law_far] [HasF T "_law_reach" F__law_reach_k02] [HasF T "_law_put" F__law_put] [HasF T "_law_bad" F__law_bad] [i : HasF T "law" F_law_k05] (ns : List Int) (hns : ns.length ≤ 63) (n : Nat) :
    ∃ M, run T (n + 4) "law" [scr ns] [] = .ok (.d (.bl true)) M := by
  have : (run T (n + 4) "law" [scr ns] []).wp fun x M' => Kp (x = .d (.bl true)) := by
    rw [run_has i]
    refine wp_run rfl ?_
    simp [F_law_k05, b_law_k05]
    obtain ⟨r, a1, a2, _, e1⟩ := law_reach_ex (T := T) ns 0 n []
    have kr : ∀ M, kOk2 M (encR r) := fun M => by
      refine ⟨trivial, fun a b e => ?_, fun a es e => ?_⟩
      · simp only [encR, D.tup.injEq, List.cons.injEq, and_true] at e
        obtain ⟨rfl, rfl⟩ := e
        exact ⟨trivial, trivial⟩
      · simp only [encR, D.tup.injEq, List.cons.injEq, and_true] at e
        obtain ⟨_, rfl⟩ := e
        exact kOk_int
    have ir : ∀ M, run T (n + 3) "is_reach" [encR r] M = .ok (.d (.bl true)) M := fun M => by rw [is_reach_run (n + 2) _ _ (kr M), isReach_R a1]
    simp [e1, ir]
    refine Res.wp_mono (law_bad_ex ns r a1 a2 n []) fun x M' h => ?_
    obtain ⟨h1, h2⟩ := h
    simp
    rw [is_reach_run (n + 2) _ _ h2, h1]
    simp [ir]
    rfl
  obtain ⟨x, M', e, rfl⟩ := Res.wp_ex this
  exact ⟨M', e⟩
end
end HW
end
section
set_option linter.all false
set_option autoImplicit false
/-! MJ9: law k04 -/
namespace HW
open MI PySem
def wordsL : List D := [.str "both", .str "either", .str "less", .str "just"]
theorem words_ix {M : Mem} {h : Nat} (hM : M[h]? = some (.lst wordsL)) {k : Int} (h0 : 0 ≤ k) (h1 : k < 4) : ∃ w : W4, oIx (.d (.hdl h)) (.d (.int k)) M = .ok (.d (.str w.s)) M := by
  obtain ⟨d, ⟨w, rfl⟩, e⟩ := oIx_lit (M := M) (x := .d (.hdl h)) (ds := wordsL) (i := k) (P := fun d => ∃ w : W4, d = .str w.s) (by simp [hM]) h0 h1 (by
    simp only [wordsL, List.forall_mem_cons]
    exact ⟨⟨.both, rfl⟩, ⟨.either, rfl⟩, ⟨.less, rfl⟩, ⟨.just, rfl⟩, fun _ h => nomatch h⟩)
  exact ⟨w, e⟩
section
variable {T : Tab}
theorem law_blended_run [HasF T "_law_whole" F__law_whole_k03] [HasF T "_law_is" F__law_is] [HasF T "_law_points" F__law_points] [HasF T "_law_in" F__law_in] [HasF T "_law_due" F__law_due] [i : HasF T "_law_blended" F__law_blended]
    (n : Nat) (w : W4) (a b : Reach) (ha : Rising a.2) (hb : Rising b.2) (hla : a.2.length ≤ 130) (hlb : b.2.length ≤ 130) (M : Mem) : run T (n + 3) "_law_blended" [encR (blend w a b), encR a, encR b, .str w.s] M = .ok (.d (.bl true)) M := by
  have hc := blend_rising w a b
  have hcl := blend_length w a b ha hb
  have hlim := lim_big
  rw [run_has i, ← Res.wp_eq]
  refine wp_run rfl ?_
  simp [F__law_blended, b__law_blended]
  rw [law_is_run n (blend w a b) hc (by omega)]
  have hcl' : ((blend w a b).2.length : Int) ≤ a.2.length + b.2.length := by omega
  have hcl2 : ¬ ((a.2.length : Int) + b.2.length < (blend w a b).2.length) := by omega
  simp [hcl2]
  obtain ⟨ps, hps⟩ := law_points_ex (T := T) (n + 1) [a, b, blend w a b] M.length (M ++ [.lst [encR a, encR b, encR (blend w a b)]]) (by simp) (by simp) (fun x hx => by
    simp only [List.mem_cons, List.not_mem_nil, or_false] at hx
    rcases hx with rfl | rfl | rfl <;> omega)
  rw [hps]
  simp
  refine forL_wp D.int (fun l env M' => ∃ j, env = [some (encR (blend w a b)), some (encR a), some (encR b), some (.str w.s), j] ∧ M' = M ++ [.lst [encR a, encR b, encR (blend w a b)]]) ?_ ?_ _ _ _ ⟨_, rfl, rfl⟩
  · rintro _ _ ⟨j, rfl, rfl⟩
    simp
  · rintro p l _ _ ⟨j, rfl, rfl⟩
    simp
    rw [law_in_run (n + 1) _ _ _ (by omega)]
    simp
    rw [law_in_run (n + 1) _ _ _ (by omega)]
    simp
    rw [law_in_run (n + 1) _ _ _ (by omega)]
    simp
    rw [law_due_run]
    simp [blend_lies w ha hb]
    exact ⟨_, rfl, rfl⟩
theorem law_long_k04_ex [HasF T "_law_draw" F__law_draw] [HasF T "_law_far" F__law_far] [i : HasF T "_law_long" F__law_long_k04] (ns : List Int) (hns : ns.length ≤ 63) (n : Nat) (M : Mem) :
    ∃ r : Reach, Rising r.2 ∧ r.2.length ≤ 63 ∧ run T (n + 3) "_law_long" [scr ns] M = .ok (.d (encR r)) M := by
  have : (run T (n + 3) "_law_long" [scr ns] M).wp fun x M' => Kp (M' = M ∧ ∃ r : Reach, Rising r.2 ∧ r.2.length ≤ 63 ∧ x = .d (encR r)) := by
    have hlim := lim_big
    rw [run_has i]
    refine wp_run rfl ?_
    simp [F__law_long_k04, b__law_long_k04]
    obtain ⟨v, hv0, hv1, hv⟩ := law_far_ex (T := T) ns 80
    rw [hv]
    simp
    rw [law_draw_run _ _ _ _ (by decide)]
    simp
    have key : ∀ (e0 : Int), (forL (sSeq (sExpr (eM1 mAppend (eVar 1) (eVar 2))) (sSet 2 (e2 oAdd (e2 oAdd (eVar 2) (eC (.int 1))) (eCall "_law_draw" (dCons (eVar 0) (dCons (e2 oAdd (eC (.int 90)) (eVar 3)) (dCons (eC (.int 3)) dNil)))))) (run T (n + 2))) (.nm 3) [] (rngD 0 (min (ns.length : Int) 63).toNat)
        [some (scr ns), some (.hdl M.length), some (.int e0), none] (M ++ [.lst []])).wp (fun r M1 => ∃ (acc : List Int) (e : Int) (j : Option D), r = [some (scr ns), some (.hdl M.length), some (.int e), j] ∧ M1 = M ++ [.lst (acc.map D.int)] ∧ Rising acc ∧ acc.length ≤ 63) (fun _ _ => False) := by
      intro e0
      refine forL_range (fun j env M' => ∃ (acc : List Int) (e : Int) (jj : Option D), env = [some (scr ns), some (.hdl M.length), some (.int e), jj] ∧ M' = M ++ [.lst (acc.map D.int)] ∧
        Rising acc ∧ (∀ x ∈ acc, x < e) ∧ acc.length ≤ j) ?_ ?_ _ _ ⟨[], _, _, rfl, rfl, .nil, by simp, by simp⟩
      · rintro _ _ ⟨acc, e, jj, rfl, rfl, h1, h2, h3⟩
        exact ⟨acc, e, jj, rfl, rfl, h1, by omega⟩
      · rintro j _ _ hj ⟨acc, e, jj, rfl, rfl, h1, h2, h3⟩
        have hacc : acc.length < lim := by omega
        simp [hacc]
        rw [law_draw_run _ _ _ _ (by decide)]
        have := lawDraw_nn ns (90 + (j : Int)) (show (0 : Int) < 3 by decide)
        simp
        refine ⟨acc ++ [e], _, _, rfl, by simp, h1.snoc h2, ?_, by simp; omega⟩
        intro x hx
        rcases List.mem_append.mp hx with q | q
        · have := h2 x q; omega
        · rw [List.mem_singleton.mp q]; omega
    have fin' : ∀ (e0 : Int), (min (ns.length : Int) 63 < 4611686018427387904 ∧ -4611686018427387904 ≤ min (ns.length : Int) 63) := fun _ => by omega
    split
    all_goals
      refine ⟨fin' 0, SR.wp_mono (key _) ?_ fun _ _ h => h.elim⟩
      rintro _ _ ⟨acc, e, j, rfl, rfl, h1, h2⟩
      simp
      rw [law_draw_run _ _ _ _ (by decide)]
      simp
      exact ⟨rfl, (_, acc), h1, h2, rfl⟩
  obtain ⟨x, M', e, rfl, r, h1, h2, rfl⟩ := Res.wp_ex this
  exact ⟨r, h1, h2, e⟩
theorem law_k04_run [HasF T "edges_marked" F_edges_marked] [HasF T "truth_by" F_truth_by] [HasF T "blend" F_blend] [HasF T "_law_draw" F__law_draw] [HasF T "_law_far" F__law_far] [HasF T "_law_reach" F__law_reach_k02] [HasF T "_law_whole" F__law_whole_k03] [HasF T "_law_is" F__law_is]
    [HasF T "_law_points" F__law_points] [HasF T "_law_in" F__law_in] [HasF T "_law_due" F__law_due] [HasF T "_law_blended" F__law_blended] [HasF T "_law_long" F__law_long_k04] [i : HasF T "law" F_law_k04] (ns : List Int) (hns : ns.length ≤ 63) (n : Nat) :
    ∃ M, run T (n + 4) "law" [scr ns] [] = .ok (.d (.bl true)) M := by
  have : (run T (n + 4) "law" [scr ns] []).wp fun x M' => Kp (x = .d (.bl true)) := by
    rw [run_has i]
    refine wp_run rfl ?_
    simp [F_law_k04, b_law_k04]
    obtain ⟨r1, a1, a2, _, e1⟩ := law_reach_ex (T := T) ns 0 n [.lst wordsL]
    obtain ⟨r2, c1, c2, _, e2⟩ := law_reach_ex (T := T) ns 20 n [.lst wordsL]
    obtain ⟨r3, d1, d2, _, e3⟩ := law_reach_ex (T := T) ns 40 n [.lst wordsL]
    obtain ⟨r4, f1, f2, e4⟩ := law_long_k04_ex (T := T) ns hns n [.lst wordsL]
    rw [show ([D.str "both", D.str "either", D.str "less", D.str "just"] : List D) = wordsL from rfl]
    rw [e1]
    simp
    rw [e2]
    simp
    rw [e3]
    simp
    rw [law_draw_run _ _ _ _ (by decide)]
    simp
    have key : ∀ r3 : Reach, Rising r3.2 → r3.2.length ≤ 63 → ∀ (j5 j6 j7 : Option D), (forL (sSeq (sSet 6 (eCall "blend" (dCons (eVar 2) (dCons (eVar 3) (dCons (MI.e2 oIx (eVar 1) (eVar 5)) dNil))))) (sIf (tNot (tTru (eCall "_law_blended" (dCons (eVar 6) (dCons (eVar 2) (dCons (eVar 3) (dCons (MI.e2 oIx (eVar 1) (eVar 5)) dNil))))))) (sRet (eC (.bl false))) sNil) (run T (n + 3))) (.nm 5) [] (rngD 0 4)
        [some (scr ns), some (.hdl 0), some (encR r1), some (encR r2), some (encR r3), j5, j6, j7] [.lst wordsL]).wp (fun r M1 => ∃ (j5 j6 j7 : Option D), r = [some (scr ns), some (.hdl 0), some (encR r1), some (encR r2), some (encR r3), j5, j6, j7] ∧ M1 = [.lst wordsL]) (fun _ _ => False) := by
      intro r3 d1 d2 j5 j6 j7
      refine forL_range (fun j env M' => ∃ (j5 j6 j7 : Option D), env = [some (scr ns), some (.hdl 0), some (encR r1), some (encR r2), some (encR r3), j5, j6, j7] ∧ M' = [.lst wordsL]) ?_ ?_ _ _ ⟨_, _, _, rfl, rfl⟩
      · rintro _ _ ⟨j5, j6, j7, rfl, rfl⟩
        exact ⟨_, _, _, rfl, rfl⟩
      · rintro j _ _ hj ⟨j5, j6, j7, rfl, rfl⟩
        obtain ⟨w, hw⟩ := words_ix (M := [.lst wordsL]) (h := 0) rfl (k := (j : Int)) (by omega) (by omega)
        simp [hw]
        rw [blend_run (n + 1) w r1 r2 (by omega)]
        simp [hw]
        rw [law_blended_run n w r1 r2 a1 c1 (by omega) (by omega)]
        simp
        exact ⟨_, _, _, rfl, rfl⟩
    have last : ∀ r3 : Reach, Rising r3.2 → r3.2.length ≤ 63 → ∀ (j5 j6 j7 : Option D), (sSeq (sSet 6 (eCall "blend" (dCons (eVar 2) (dCons (eVar 3) (dCons (MI.e2 oIx (eVar 1) (eCall "_law_draw" (dCons (eVar 0) (dCons (eC (.int 60)) (dCons (eC (.int 4)) dNil))))) dNil))))) (sSeq (sSet 7 (MI.e2 oIx (eVar 1) (eCall "_law_draw" (dCons (eVar 0) (dCons (eC (.int 61)) (dCons (eC (.int 4)) dNil))))))
        (sRet (eCall "_law_blended" (dCons (eCall "blend" (dCons (eVar 4) (dCons (eVar 6) (dCons (eVar 7) dNil)))) (dCons (eVar 4) (dCons (eVar 6) (dCons (eVar 7) dNil))))))) (run T (n + 3)) [some (scr ns), some (.hdl 0), some (encR r1), some (encR r2), some (encR r3), j5, j6, j7] [.lst wordsL]).wp
        (fun x M' => (fin .pure [] (.d .non) M').wp fun x M' => Kp (x = .d (.bl true))) (fun x M' => (fin .pure [] x M').wp fun x M' => Kp (x = .d (.bl true))) := by
      intro r3 d1 d2 j5 j6 j7
      obtain ⟨w, hw⟩ := words_ix (M := [.lst wordsL]) (h := 0) rfl (k := lawDraw ns 60 4) (lawDraw_nn _ _ (by decide)) (lawDraw_lt _ _ (by decide))
      obtain ⟨w2, hw2⟩ := words_ix (M := [.lst wordsL]) (h := 0) rfl (k := lawDraw ns 61 4) (lawDraw_nn _ _ (by decide)) (lawDraw_lt _ _ (by decide))
      simp
      rw [law_draw_run _ _ _ _ (by decide)]
      simp [hw]
      rw [blend_run (n + 1) w r1 r2 (by omega)]
      simp
      rw [law_draw_run _ _ _ _ (by decide)]
      simp [hw2]
      have hb := blend_length w r1 r2 a1 c1
      rw [blend_run (n + 1) w2 r3 (blend w r1 r2) (by omega)]
      simp
      rw [law_blended_run n w2 r3 (blend w r1 r2) d1 (blend_rising w r1 r2) (by omega) (by omega)]
      simp
      rfl
    split
    · rw [e4]
      simp
      refine SR.wp_mono (key r4 f1 f2 _ _ _) ?_ fun _ _ h => h.elim
      rintro _ _ ⟨j5, j6, j7, rfl, rfl⟩
      exact last r4 f1 f2 _ _ _
    · refine SR.wp_mono (key r3 d1 (by omega) _ _ _) ?_ fun _ _ h => h.elim
      rintro _ _ ⟨j5, j6, j7, rfl, rfl⟩
      exact last r3 d1 (by omega) _ _ _
  obtain ⟨x, M', e, rfl⟩ := Res.wp_ex this
  exact ⟨M', e⟩
end
end HW
end
section
set_option linter.all false
set_option autoImplicit false
/-! MJx: runs that may raise -/
namespace MI
open PySem (Str PyData)
def Res.wpx {A : Type} (r : Res A) (E : Str → Mem → Prop) (Q : A → Mem → Prop) (_ : Hid E := .mk) (_ : Hid Q := .mk) : Prop := match r with
  | .ok a M => Q a M
  | .err c M => E c M
  | .bad => False
def SR.wpx (r : SR) (F : Str → Env → Mem → Prop) (N : Env → Mem → Prop) (R : RV → Mem → Prop) (_ : Hid F := .mk) (_ : Hid N := .mk) (_ : Hid R := .mk) : Prop := match r with
  | .nx r M => N r M
  | .ret x M => R x M
  | .err c r M => F c r M
  | .bad => False
theorem wpx_ext {A : Type} {r : Res A} {E : Str → Mem → Prop} {Q Q' : A → Mem → Prop} (h : ∀ a M, Q a M = Q' a M) : r.wpx E Q = r.wpx E Q' := by
  have e : Q = Q' := by funext a M; exact h a M
  rw [e]
theorem Res.wpx_mono {A : Type} {r : Res A} {E E' : Str → Mem → Prop} {Q Q' : A → Mem → Prop} (h : r.wpx E Q) (q : ∀ a M, Q a M → Q' a M) (e : ∀ c M, E c M → E' c M) : r.wpx E' Q' := by
  cases r with
  | ok a M => exact q a M h
  | err c M => exact e c M h
  | bad => exact h
theorem SR.wpx_mono {r : SR} {F F' : Str → Env → Mem → Prop} {N N' : Env → Mem → Prop} {R R' : RV → Mem → Prop} (h : r.wpx F N R) (q : ∀ a M, N a M → N' a M) (q' : ∀ a M, R a M → R' a M) (e : ∀ c r M, F c r M → F' c r M) : r.wpx F' N' R' := by
  cases r with
  | nx a M => exact q a M h
  | ret a M => exact q' a M h
  | err c r M => exact e c r M h
  | bad => exact h
theorem Res.wpx_of {A : Type} {r : Res A} {E : Str → Mem → Prop} {Q : A → Mem → Prop} (h : r.wp Q) : r.wpx E Q := by
  cases r with
  | ok a M => exact h
  | err c M => exact h.elim
  | bad => exact h
theorem SR.wpx_of {r : SR} {F : Str → Env → Mem → Prop} {N : Env → Mem → Prop} {R : RV → Mem → Prop} (h : r.wp N R) : r.wpx F N R := by
  cases r with
  | nx a M => exact h
  | ret a M => exact h
  | err c r M => exact h.elim
  | bad => exact h
theorem Res.wpx_err {A : Type} {r : Res A} {c : Str} {M : Mem} : r.wpx (fun c' M' => c' = c ∧ M' = M) (fun _ _ => False) ↔ r = .err c M := by
  cases r with
  | ok b M' => simp [Res.wpx]
  | err => simp [Res.wpx]
  | bad => simp [Res.wpx]
theorem Res.wpx_ex {A : Type} {r : Res A} {E : Str → Mem → Prop} {Q : A → Mem → Prop} (h : r.wpx E Q) : (∃ a M, r = .ok a M ∧ Q a M) ∨ ∃ c M, r = .err c M ∧ E c M := by
  cases r with
  | ok b M' => exact .inl ⟨b, M', rfl, h⟩
  | err c M' => exact .inr ⟨c, M', rfl, h⟩
  | bad => exact h.elim
@[simp] theorem wpx_bad {A : Type} (E : Str → Mem → Prop) (Q : A → Mem → Prop) : (Res.bad : Res A).wpx E Q = False := nrfl rfl
@[simp] theorem wpx_rerr {A : Type} (c : Str) (M : Mem) (E : Str → Mem → Prop) (Q : A → Mem → Prop) : (Res.err c M : Res A).wpx E Q = E c M := nrfl rfl
section
variable {A B : Type} {cl : Cl} {r : Env} {M : Mem} {E : Str → Mem → Prop} {F : Str → Env → Mem → Prop}
@[simp] theorem wpx_ok (a : A) (M : Mem) (Q : A → Mem → Prop) : (Res.ok a M).wpx E Q = Q a M := nrfl rfl
@[simp] theorem wpx_nx (r : Env) (M : Mem) (N : Env → Mem → Prop) (R : RV → Mem → Prop) : (SR.nx r M).wpx F N R = N r M := nrfl rfl
@[simp] theorem wpx_ret (x : RV) (M : Mem) (N : Env → Mem → Prop) (R : RV → Mem → Prop) : (SR.ret x M).wpx F N R = R x M := nrfl rfl
@[simp] theorem wpx_bind (x : Res A) (f : A → Mem → Res B) (Q : B → Mem → Prop) : (x.bind f).wpx E Q = x.wpx E fun a M => (f a M).wpx E Q := by
  cases x <;> rfl
@[simp] theorem wpx_ite {c : Prop} [Decidable c] (a b : Res A) (Q : A → Mem → Prop) : (if c then a else b).wpx E Q = if c then a.wpx E Q else b.wpx E Q := by
  split <;> rfl
@[simp] theorem wpx_iteS {c : Prop} [Decidable c] (a b : SR) (N : Env → Mem → Prop) (R : RV → Mem → Prop) : (if c then a else b).wpx F N R = if c then a.wpx F N R else b.wpx F N R := by
  split <;> rfl
/-! expressions -/
@[simp] theorem wpx_eVar (i : Nat) (Q : RV → Mem → Prop) : (eVar i cl r M).wpx E Q = getV r[i]? fun x => Q x M := by
  unfold eVar getV
  cases r[i]? with
  | none => rfl
  | some o => cases o <;> rfl
@[simp] theorem wpx_eC (d : D) (Q : RV → Mem → Prop) : (eC d cl r M).wpx E Q = Q (.d d) M := nrfl rfl
@[simp] theorem wpx_e1 (op : Op1) (a : SE) (Q : RV → Mem → Prop) : (e1 op a cl r M).wpx E Q = (a cl r M).wpx E fun x M => (op x M).wpx E Q := wpx_bind _ _ _
@[simp] theorem wpx_e2 (op : Op2) (a b : SE) (Q : RV → Mem → Prop) : (e2 op a b cl r M).wpx E Q = (a cl r M).wpx E fun x M => (b cl r M).wpx E fun y M => (op x y M).wpx E Q := by
  unfold e2; rw [wpx_bind]; refine wpx_ext fun x M => ?_; rw [wpx_bind]
@[simp] theorem wpx_eNot (a : SE) (Q : RV → Mem → Prop) : (eNot a cl r M).wpx E Q = (a cl r M).wpx E fun x M => truV (truR x M) fun b => Q (.d (.bl !b)) M := by
  unfold eNot; rw [wpx_bind]; refine wpx_ext fun x M => ?_
  cases truR x M <;> rfl
@[simp] theorem wpx_eAnd (a b : SE) (Q : RV → Mem → Prop) : (eAnd a b cl r M).wpx E Q = (a cl r M).wpx E fun x M => truV (truR x M) fun t => if t = true then (b cl r M).wpx E Q else Q x M := by
  unfold eAnd; rw [wpx_bind]; refine wpx_ext fun x M => ?_
  cases truR x M with
  | none => rfl
  | some t => cases t <;> simp [truV, Res.wpx]
@[simp] theorem wpx_eOr (a b : SE) (Q : RV → Mem → Prop) : (eOr a b cl r M).wpx E Q = (a cl r M).wpx E fun x M => truV (truR x M) fun t => if t = true then Q x M else (b cl r M).wpx E Q := by
  unfold eOr; rw [wpx_bind]; refine wpx_ext fun x M => ?_
  cases truR x M with
  | none => rfl
  | some t => cases t <;> simp [truV, Res.wpx]
@[simp] theorem wpx_tAnd (a b : STt) (Q : Bool → Mem → Prop) : (tAnd a b cl r M).wpx E Q = (a cl r M).wpx E fun x M => if x = true then (b cl r M).wpx E Q else Q false M := by
  unfold tAnd; rw [wpx_bind]; refine wpx_ext fun x M => ?_; rw [wpx_ite]; rfl
@[simp] theorem wpx_tOr (a b : STt) (Q : Bool → Mem → Prop) : (tOr a b cl r M).wpx E Q = (a cl r M).wpx E fun x M => if x = true then Q true M else (b cl r M).wpx E Q := by
  unfold tOr; rw [wpx_bind]; refine wpx_ext fun x M => ?_; rw [wpx_ite]; rfl
@[simp] theorem wpx_tNot (a : STt) (Q : Bool → Mem → Prop) : (tNot a cl r M).wpx E Q = (a cl r M).wpx E fun x M => Q (!x) M := by
  unfold tNot; rw [wpx_bind]; rfl
@[simp] theorem wpx_tTru (a : SE) (Q : Bool → Mem → Prop) : (tTru a cl r M).wpx E Q = (a cl r M).wpx E fun x M => truV (truR x M) fun b => Q b M := by
  unfold tTru; rw [wpx_bind]; refine wpx_ext fun x M => ?_
  cases truR x M <;> rfl
@[simp] theorem wpx_tB (a : SE) (Q : Bool → Mem → Prop) : (tB a cl r M).wpx E Q = (a cl r M).wpx E fun x M => blV x fun b => Q b M := by
  unfold tB; rw [wpx_bind]; refine wpx_ext fun x M => ?_
  unfold blV
  split
  · rfl
  · first | rfl | (split <;> first | rfl | simp_all)
@[simp] theorem wpx_eIf (t : STt) (a b : SE) (Q : RV → Mem → Prop) : (eIf t a b cl r M).wpx E Q = (t cl r M).wpx E fun x M => if x = true then (a cl r M).wpx E Q else (b cl r M).wpx E Q := by
  unfold eIf; rw [wpx_bind]; refine wpx_ext fun x M => ?_; rw [wpx_ite]
@[simp] theorem wpx_dNil (Q : List D → Mem → Prop) : (dNil cl r M).wpx E Q = Q [] M := nrfl rfl
@[simp] theorem wpx_dCons (a : SE) (as : SDs) (Q : List D → Mem → Prop) : (dCons a as cl r M).wpx E Q = (a cl r M).wpx E fun x M => (as cl r (box x M).2).wpx E fun ds M' => Q ((box x M).1 :: ds) M' := by
  unfold dCons; rw [wpx_bind]; refine wpx_ext fun x M => ?_; rw [wpx_bind]; rfl
@[simp] theorem wpx_eTup (as : SDs) (Q : RV → Mem → Prop) : (eTup as cl r M).wpx E Q = (as cl r M).wpx E fun ds M => ds.length ≤ lim ∧ Q (.d (.tup ds)) M := by
  unfold eTup; rw [wpx_bind]; refine wpx_ext fun x M => ?_; rw [wpx_ite]; simp [Res.wpx]
@[simp] theorem wpx_eLst (as : SDs) (Q : RV → Mem → Prop) : (eLst as cl r M).wpx E Q = (as cl r M).wpx E fun ds M => ds.length ≤ lim ∧ Q (.o (.lst ds)) M := by
  unfold eLst; rw [wpx_bind]; refine wpx_ext fun x M => ?_; rw [wpx_ite]; simp [Res.wpx]
@[simp] theorem wpx_eDic0 (Q : RV → Mem → Prop) : (eDic0 cl r M).wpx E Q = Q (.o (.dic false [])) M := nrfl rfl
@[simp] theorem wpx_eDic (as : SDs) (Q : RV → Mem → Prop) : (eDic as cl r M).wpx E Q = (as cl r M).wpx E fun ds M => ∃ kvs, pairUp ds [] = some kvs ∧ ds.length ≤ 30 ∧ Q (.o (.dic false kvs)) M := by
  unfold eDic; rw [wpx_bind]; refine wpx_ext fun x M => ?_
  cases pairUp x [] with
  | none => simp [Res.wpx]
  | some kvs => simp only [wpx_ite]; simp [Res.wpx]
@[simp] theorem wpx_eCall (f : Str) (as : SDs) (Q : RV → Mem → Prop) : (eCall f as cl r M).wpx E Q = (as cl r M).wpx E fun ds M => (cl f ds M).wpx E Q := by
  unfold eCall; rw [wpx_bind]
@[simp] theorem wpx_oNone (Q : Option Int → Mem → Prop) : (oNone cl r M).wpx E Q = Q none M := nrfl rfl
@[simp] theorem wpx_oSome (a : SE) (Q : Option Int → Mem → Prop) : (oSome a cl r M).wpx E Q = (a cl r M).wpx E fun x M => intV x fun i => Q (some i) M := by
  unfold oSome; rw [wpx_bind]; refine wpx_ext fun x M => ?_
  unfold intV
  split
  · rfl
  · first | rfl | (split <;> first | rfl | simp_all)
@[simp] theorem wpx_eSlice (a : SE) (lo hi : SO) (Q : RV → Mem → Prop) : (eSlice a lo hi cl r M).wpx E Q = (a cl r M).wpx E fun x M => (lo cl r M).wpx E fun l M => (hi cl r M).wpx E fun h M => (oSlice x l h M).wpx E Q := by
  unfold eSlice; rw [wpx_bind]; refine wpx_ext fun x M => ?_; rw [wpx_bind]; refine wpx_ext fun y M => ?_; rw [wpx_bind]
@[simp] theorem wpx_eM1 (m : Nat → D → Mem → Res RV) (o a : SE) (Q : RV → Mem → Prop) : (eM1 m o a cl r M).wpx E Q = (o cl r M).wpx E fun x M => hdlV x fun n => (lstT (.d (.hdl n)) M).isSome = true ∧ (a cl r M).wpx E fun y M => (m n (box y M).1 (box y M).2).wpx E Q := by
  unfold eM1; rw [wpx_bind]; refine wpx_ext fun x M => ?_
  unfold hdlV
  split
  · rw [wpx_ite, wpx_bind]; simp [Res.wpx]
  · first | rfl | (split <;> first | rfl | simp_all)
@[simp] theorem wpx_iSeq (a : SE) (Q : List D × Chk → Mem → Prop) : (iSeq a cl r M).wpx E Q = (a cl r M).wpx E fun x M => ∃ ds, seqX x M = some ds ∧ Q (ds, chkR x M) M := by
  unfold iSeq; rw [wpx_bind]; refine wpx_ext fun x M => ?_
  unfold seqX
  cases h : seqOf x M with
  | none =>
    simp only
    split
    · simp [Res.wpx, chkR]
    · rename_i h2
      simp only [Res.wpx]
      refine eq_comm.mp (propext ⟨fun ⟨ds, e, _⟩ => ?_, False.elim⟩)
      cases e
  | some ds => simp [Res.wpx]
@[simp] theorem wpx_iRange1 (a : SE) (Q : List D × Chk → Mem → Prop) : (iRange1 a cl r M).wpx E Q = (a cl r M).wpx E fun x M => intV x fun n => (n < 2 ^ 62 ∧ -(2 ^ 62) ≤ n) ∧ Q (rngD 0 n.toNat, []) M := by
  unfold iRange1; rw [wpx_bind]; refine wpx_ext fun x M => ?_
  unfold intV
  split
  · rw [wpx_ite]; simp [Res.wpx]
  · first | rfl | (split <;> first | rfl | simp_all)
/-! statements -/
variable {N : Env → Mem → Prop} {R : RV → Mem → Prop}
theorem wpx_ofE (s : Res RV) (f : RV → Mem → SR) : (ofE s r f).wpx F N R = s.wpx (fun c M => F c r M) fun x M => (f x M).wpx F N R := by cases s <;> rfl
theorem wpx_ofT (s : Res Bool) (f : Bool → Mem → SR) : (ofT s r f).wpx F N R = s.wpx (fun c M => F c r M) fun x M => (f x M).wpx F N R := by cases s <;> rfl
theorem wpx_ofI (s : Res (List D × Chk)) (f : List D × Chk → Mem → SR) : (ofI s r f).wpx F N R = s.wpx (fun c M => F c r M) fun x M => (f x M).wpx F N R := by cases s <;> rfl
@[simp] theorem wpx_sNil : (sNil cl r M).wpx F N R = N r M := nrfl rfl
@[simp] theorem wpx_sSeq (a b : SS) : (sSeq a b cl r M).wpx F N R = (a cl r M).wpx F (fun r M => (b cl r M).wpx F N R) R := by
  unfold sSeq; cases a cl r M <;> rfl
@[simp] theorem wpx_sSet (i : Nat) (e : SE) : (sSet i e cl r M).wpx F N R = (e cl r M).wpx (fun c M => F c r M) fun x M => N (r.set i (some (box x M).1)) (box x M).2 := by
  unfold sSet; rw [wpx_ofE]; rfl
@[simp] theorem wpx_sUnp (is : List Nat) (e : SE) : (sUnp is e cl r M).wpx F N R = (e cl r M).wpx (fun c M => F c r M) fun x M => tupV x fun ds => envV (setAll is ds r) fun r => N r M := by
  unfold sUnp; rw [wpx_ofE]; refine wpx_ext fun x M => ?_
  unfold tupV
  split
  · unfold envV
    split <;> rename_i h <;> simp [h, SR.wpx]
  · first | rfl | (split <;> first | rfl | simp_all)
@[simp] theorem wpx_sSetIx (o k e : SE) : (sSetIx o k e cl r M).wpx F N R = (e cl r M).wpx (fun c M => F c r M) fun x M => (o cl r (box x M).2).wpx (fun c M => F c r M) fun y M1 => (k cl r M1).wpx (fun c M => F c r M) fun z M2 => datV y fun y => datV z fun z => memV (setIx y z (box x M).1 M2) fun M => N r M := by
  unfold sSetIx; rw [wpx_ofE]; refine wpx_ext fun x M => ?_; rw [wpx_ofE]; refine wpx_ext fun y M1 => ?_; rw [wpx_ofE]; refine wpx_ext fun z M2 => ?_
  unfold datV
  cases y <;> cases z <;> simp only [] <;> try rfl
  unfold memV
  split <;> rename_i h <;> simp [h, SR.wpx]
@[simp] theorem wpx_sExpr (e : SE) : (sExpr e cl r M).wpx F N R = (e cl r M).wpx (fun c M => F c r M) fun _ M => N r M := by
  unfold sExpr; rw [wpx_ofE]; rfl
@[simp] theorem wpx_sRet (e : SE) : (sRet e cl r M).wpx F N R = (e cl r M).wpx (fun c M => F c r M) fun x M => R x M := by
  unfold sRet; rw [wpx_ofE]; rfl
@[simp] theorem wpx_sRetN : (sRetN cl r M).wpx F N R = R (.d .non) M := nrfl rfl
@[simp] theorem wpx_sIf (t : STt) (a b : SS) : (sIf t a b cl r M).wpx F N R = (t cl r M).wpx (fun c M => F c r M) fun x M => if x = true then (a cl r M).wpx F N R else (b cl r M).wpx F N R := by
  unfold sIf; rw [wpx_ofT]; refine wpx_ext fun x M => ?_; rw [wpx_iteS]
@[simp] theorem wpx_sFor (tg : Tg) (it : SI) (body : SS) : (sFor tg it body cl r M).wpx F N R = (it cl r M).wpx (fun c M => F c r M) fun p M => (forL (body cl) tg p.2 p.1 r M).wpx F N R := by
  unfold sFor; rw [wpx_ofI]

end
section
variable {A B : Type} {cl : Cl} {r : Env} {M : Mem} {E : Str → Mem → Prop} {F : Str → Env → Mem → Prop}
@[simp] theorem wpx_eM0 (m : Nat → Mem → Res RV) (o : SE) (Q : RV → Mem → Prop) : (eM0 m o cl r M).wpx E Q = (o cl r M).wpx E fun x M => hdlV x fun n => (lstT (.d (.hdl n)) M).isSome = true ∧ (m n M).wpx E Q := by
  unfold eM0; rw [wpx_bind]; refine wpx_ext fun x M => ?_
  unfold hdlV
  split
  · rw [wpx_ite]; simp [Res.wpx]
  · first | rfl | (split <;> first | rfl | simp_all)
theorem wpx_if_bad {c : Prop} [Decidable c] (x : Res A) (Q : A → Mem → Prop) : (if c then x else .bad).wpx E Q = (c ∧ x.wpx E Q) := by
  split <;> rename_i h <;> simp [h, Res.wpx]
@[simp] theorem wpx_eM2 (m : Nat → D → D → Mem → Res RV) (o a b : SE) (Q : RV → Mem → Prop) : (eM2 m o a b cl r M).wpx E Q = (o cl r M).wpx E fun x M => hdlV x fun n => (lstT (.d (.hdl n)) M).isSome = true ∧ (a cl r M).wpx E fun y M => (b cl r (box y M).2).wpx E fun z M2 => (m n (box y M).1 (box z M2).1 (box z M2).2).wpx E Q := by
  unfold eM2; rw [wpx_bind]; refine wpx_ext fun x M => ?_
  unfold hdlV
  split
  · rw [wpx_if_bad, wpx_bind]; congr 1; refine wpx_ext fun y M => ?_; rw [wpx_bind]
  · first | rfl | (split <;> first | rfl | simp_all)
@[simp] theorem wpx_eN1 (m : Nat → D → Mem → Res RV) (o a : SE) (Q : RV → Mem → Prop) : (eN1 m o a cl r M).wpx E Q = (o cl r M).wpx E fun x M => newV x fun ds => (a cl r (M ++ [.lst ds])).wpx E fun y M2 => (m M.length (box y M2).1 (box y M2).2).wpx E Q := by
  unfold eN1; rw [wpx_bind]; refine wpx_ext fun x M => ?_
  unfold newV
  split
  · rw [wpx_bind]
  · first | rfl | (split <;> first | rfl | simp_all)
@[simp] theorem wpx_eN0 (m : Nat → Mem → Res RV) (o : SE) (Q : RV → Mem → Prop) : (eN0 m o cl r M).wpx E Q = (o cl r M).wpx E fun x M => newV x fun ds => (m M.length (M ++ [.lst ds])).wpx E Q := by
  unfold eN0; rw [wpx_bind]; refine wpx_ext fun x M => ?_
  unfold newV
  split
  · rfl
  · first | rfl | (split <;> first | rfl | simp_all)
@[simp] theorem wpx_eStep (a : SE) (lo hi : SO) (k : Nat) (Q : RV → Mem → Prop) : (eStep a lo hi k cl r M).wpx E Q = (a cl r M).wpx E fun x M => (lo cl r M).wpx E fun l M => (hi cl r M).wpx E fun h M => lstV x M fun ds => Q (.o (.lst (pickS (sIx ds.length 0 l) k (ds.take (sIx ds.length ds.length h))))) M := by
  unfold eStep; rw [wpx_bind]; refine wpx_ext fun x M => ?_; rw [wpx_bind]; refine wpx_ext fun y M => ?_; rw [wpx_bind]; refine wpx_ext fun z M => ?_
  unfold lstV
  cases lstOf x M <;> rfl
@[simp] theorem wpx_eRev (a : SE) (Q : RV → Mem → Prop) : (eRev a cl r M).wpx E Q = (a cl r M).wpx E fun x M => lstV x M fun ds => Q (.o (.lst ds.reverse)) M := by
  unfold eRev; rw [wpx_bind]; refine wpx_ext fun x M => ?_
  unfold lstV
  cases lstOf x M <;> rfl
@[simp] theorem wpx_iRange2 (a b : SE) (Q : List D × Chk → Mem → Prop) : (iRange2 a b cl r M).wpx E Q = (a cl r M).wpx E fun x M => (b cl r M).wpx E fun y M => intV x fun i => intV y fun j => ((-(2 ^ 62) ≤ i ∧ i < 2 ^ 62) ∧ -(2 ^ 62) ≤ j ∧ j < 2 ^ 62) ∧ Q (rngD i (j - i).toNat, []) M := by
  unfold iRange2; rw [wpx_bind]; refine wpx_ext fun x M => ?_; rw [wpx_bind]; refine wpx_ext fun y M => ?_
  rcases x with (_ | _ | i | _ | _ | _ | _) | _ <;> rcases y with (_ | _ | j | _ | _ | _ | _) | _ <;> first | rfl | skip
  simp only [intV]
  rw [wpx_if_bad]; rfl
@[simp] theorem wpx_iRange3 (a b c : SE) (Q : List D × Chk → Mem → Prop) : (iRange3 a b c cl r M).wpx E Q = (a cl r M).wpx E fun x M => (b cl r M).wpx E fun y M => (c cl r M).wpx E fun z M => intV x fun i => intV y fun j => intV z fun c => ((-(2 ^ 61) ≤ i ∧ i < 2 ^ 61) ∧ (-(2 ^ 61) ≤ j ∧ j < 2 ^ 61) ∧ c ≠ 0 ∧ c.natAbs < 1000000) ∧ Q (rngC i c (rgN i j c), []) M := by
  unfold iRange3; rw [wpx_bind]; refine wpx_ext fun x M => ?_; rw [wpx_bind]; refine wpx_ext fun y M => ?_; rw [wpx_bind]; refine wpx_ext fun z M => ?_
  rcases x with (_ | _ | i | _ | _ | _ | _) | _ <;> rcases y with (_ | _ | j | _ | _ | _ | _) | _ <;> rcases z with (_ | _ | j | _ | _ | _ | _) | _ <;> first | rfl | skip
  simp only [intV]
  rw [wpx_if_bad]; rfl
end
end MI

namespace MI
open PySem (Str PyData)
section
variable {A B : Type} {cl : Cl} {r : Env} {M : Mem} {E : Str → Mem → Prop} {F : Str → Env → Mem → Prop} {N : Env → Mem → Prop} {R : RV → Mem → Prop}
@[simp] theorem wpx_sRaise (c : Str) : (sRaise c cl r M).wpx F N R = F c r M := nrfl rfl
@[simp] theorem wpx_eComp {elt : SE} {tst : STt} {tg : Tg} {own : List Nat} {it : SI} {Q : RV → Mem → Prop} :
    (eComp elt tst tg own it cl r M).wpx E Q = (it cl r M).wpx E fun p M => (compL (elt cl) (tst cl) tg p.2 (wipe r own) p.1 [] M).wpx E Q := by
  unfold eComp; rw [wpx_bind]
theorem wpx_run {F : Fn} {cl : Cl} {ds : List D} {M : Mem} {E : Str → Mem → Prop} {Q : RV → Mem → Prop} (hl : ds.length = F.ar)
    (h : (F.body cl (ds.map some ++ List.replicate (F.ns - ds.length) none) M).wpx (fun c r M' => (finS F.mode M (.err c r M')).wpx E Q) (fun _ M' => (fin F.mode M (.d .non) M').wpx E Q) (fun x M' => (fin F.mode M x M').wpx E Q)) : (F.run cl ds M).wpx E Q := by
  unfold Fn.run
  rw [if_pos hl]
  cases e : F.body cl (ds.map some ++ List.replicate (F.ns - ds.length) none) M with
  | nx r M' => rw [e] at h; exact h
  | ret x M' => rw [e] at h; exact h
  | err => rw [e] at h; exact h
  | bad => rw [e] at h; exact h.elim
@[simp] theorem finS_err (M l : Mem) (c : Str) (r : Env) : finS .pure M (.err c r (M ++ l)) = .err c M := by
  unfold finS; simp only [List.take_left, if_true]
@[simp] theorem finS_err0 (M : Mem) (c : Str) (r : Env) : finS .pure M (.err c r M) = .err c M := by
  unfold finS; simp only [List.take_length, if_true]
@[simp] theorem finS_errN (M : Mem) (c : Str) (r : Env) : finS .pure [] (.err c r M) = .err c [] := by
  unfold finS; simp
@[simp] theorem finS_errK (M M' : Mem) (c : Str) (r : Env) : finS .keep M (.err c r M') = .err c M' := nrfl rfl
/-- try: .. except .. as ..: -/
@[simp] theorem wp_sTry (i : Option Nat) (body : SS) (cat : Str → Bool) (suite : Str → SS) : (sTry i body cat suite cl r M).wp N R =
    (body cl r M).wpx (fun c r1 M1 => cat c = true ∧ (suite c cl (gone i r1) M1).wp (fun r2 M2 => N (gone i r2) M2) R) N R := by
  unfold sTry
  cases e : body cl r M with
  | err c r1 M1 =>
    simp only [SR.wpx]
    by_cases h : cat c = true
    · simp only [h, if_true, true_and]
      cases e2 : suite c cl (gone i r1) M1 <;> rfl
    · simp [h, SR.wp]
  | _ => rfl
/-- a loop that may raise -/
theorem forL_wpx {A : Type} (enc : A → D) {body : Env → Mem → SR} {tg : Tg} {c : Chk} (I : List A → Env → Mem → Prop)
    (h0 : ∀ r M, I [] r M → chkOk c M = true ∧ N r M)
    (hs : ∀ a l r M, I (a :: l) r M → chkOk c M = true ∧ envV (asg tg (enc a) r) fun r1 => (body r1 M).wpx F (fun r2 M2 => Kp (I l r2 M2)) R) :
    ∀ (l : List A) r M, I l r M → (forL body tg c (l.map enc) r M).wpx F N R
  | [], r, M, h => by
    obtain ⟨h1, h2⟩ := h0 r M h
    simp only [List.map_nil, forL, h1, if_true, SR.wpx]
    exact h2
  | a :: l, r, M, h => by
    obtain ⟨h1, h2⟩ := hs a l r M h
    simp only [List.map_cons, forL, h1, if_true]
    cases e : asg tg (enc a) r with
    | none => rw [e] at h2; exact h2.elim
    | some r1 =>
      rw [e] at h2
      simp only [envV] at h2
      simp only
      cases e2 : body r1 M with
      | nx r2 M2 => rw [e2] at h2; exact forL_wpx enc I h0 hs l r2 M2 h2
      | ret x M2 => rw [e2] at h2; exact h2
      | err => rw [e2] at h2; exact h2
      | bad => rw [e2] at h2; exact h2.elim
end
/-! suites -/
@[simp] theorem catX_def (exs : List Str) (x c : Str) : catX exs x c = (decide (c ∈ exs) && subX c x) := nrfl rfl
@[simp] theorem subX_def (c d : Str) : subX c d = (decide (c = d) || (decide (d = "HeldError") || decide (d = "ValueError"))) := nrfl rfl
theorem suSem_in {exs : List Str} {spec : List SuS} {c : Str} (h : c ∈ exs) : suSem exs spec c = suBody c spec := by unfold suSem; rw [if_pos h]
@[simp] theorem suBody_nil (c : Str) : suBody c [] = sNil := nrfl rfl
@[simp] theorem suBody_cons (c : Str) (s : SuS) (r : List SuS) : suBody c (s :: r) = sSeq (s.sem c) (suBody c r) := nrfl rfl
@[simp] theorem suS_lst (c : Str) (j : Nat) (its : List SuI) : (SuS.lst j false its).sem c = sSet j (eLst (suLst c its)) := nrfl rfl
@[simp] theorem suS_add (c : Str) (j : Nat) (its : List SuI) : (SuS.lst j true its).sem c = sSet j (e2 oAdd (eVar j) (eLst (suLst c its))) := nrfl rfl
@[simp] theorem suS_con (c : Str) (j : Nat) (b : Bool) : (SuS.con j b).sem c = sSet j (eC (.bl b)) := nrfl rfl
@[simp] theorem suS_one (c : Str) (j : Nat) (it : SuI) : (SuS.one j it).sem c = sSet j (it.sem c) := nrfl rfl
@[simp] theorem suLst_nil (c : Str) : suLst c [] = dNil := nrfl rfl
@[simp] theorem suLst_cons (c : Str) (s : SuI) (r : List SuI) : suLst c (s :: r) = dCons (s.sem c) (suLst c r) := nrfl rfl
@[simp] theorem suI_var (c : Str) (j : Nat) : (SuI.var j).sem c = eVar j := nrfl rfl
@[simp] theorem suI_isi (c : Str) (cs : List Str) : (SuI.isi false cs).sem c = eC (.bl (cs.any (subX c))) := nrfl rfl
@[simp] theorem suI_isn (c : Str) (cs : List Str) : (SuI.isi true cs).sem c = eC (.bl (!cs.any (subX c))) := nrfl rfl
@[simp] theorem gone_some (i : Nat) (r : Env) : gone (some i) r = r.set i none := nrfl rfl
@[simp] theorem gone_none (r : Env) : gone none r = r := nrfl rfl
end MI
end
section
set_option linter.all false
set_option autoImplicit false
/-! MJ15: refusals; law k01 -/
namespace HW
open MI PySem
/-- a text that is no word that blends -/
def OddW (s : Str) : Prop := okS s = true ∧ s ≠ "both" ∧ s ≠ "either" ∧ s ≠ "less" ∧ s ≠ "just"
section
variable {T : Tab}
theorem truth_by_odd [i : HasF T "truth_by" F_truth_by] (n : Nat) (s : Str) (hs : OddW s) (a b : Bool) (M : Mem) : run T (n + 1) "truth_by" [.str s, .bl a, .bl b] M = .err "NoWord" M := by
  obtain ⟨h0, h1, h2, h3, h4⟩ := hs
  rw [run_has i, ← Res.wpx_err]
  refine wpx_run rfl ?_
  simp [F_truth_by, b_truth_by, h0, h1, h2, h3, h4]
theorem blend_odd [HasF T "edges_marked" F_edges_marked] [HasF T "truth_by" F_truth_by] [i : HasF T "blend" F_blend] (n : Nat) (s : Str) (hs : OddW s) (a b : Reach) (hl : a.2.length + b.2.length < 4000) (M : Mem) :
    run T (n + 2) "blend" [encR a, encR b, .str s] M = .err "NoWord" M := by
  have hlim := lim_big
  rw [run_has i, ← Res.wpx_err]
  refine wpx_run rfl ?_
  simp [F_blend, b_blend]
  rw [edges_marked_run n a M (by omega)]
  simp
  rw [edges_marked_run n b _ (by omega)]
  simp
  rw [truth_by_odd n s hs]
  simp
theorem law_refused_run [HasF T "edges_marked" F_edges_marked] [HasF T "truth_by" F_truth_by] [HasF T "blend" F_blend] [i : HasF T "_law_refused" F__law_refused] (n : Nat) (s : Str) (hs : OddW s) (a b : Bool) (x y : List Int) (hl : x.length + y.length < 4000) (M : Mem) :
    run T (n + 3) "_law_refused" [.str s, .bl a, .bl b, .tup [.tup (x.map D.int), .tup (y.map D.int)]] M = .ok (.d (.bl true)) M := by
  have hlim := lim_big
  rw [run_has i, ← Res.wp_eq]
  refine wp_run rfl ?_
  simp [F__law_refused, b__law_refused]
  rw [truth_by_odd (n + 1) s hs]
  have hin : ("NoWord" : Str) ∈ exsAll := by decide
  simp [hin, suSem_in hin]
  have hb := fun M => blend_odd (T := T) n s hs (a, x) (b, y) hl M
  simp [encR] at hb
  rw [hb]
  simp [hin, suSem_in hin]
  rw [oEq_l (as := [D.bl true, D.bl true, D.bl false]) (bs := [D.bl true, D.bl true, D.bl false]) (by simp) rfl (by simp) (by simp)]
  simp
  rw [oEq_l (as := [D.bl true, D.bl true, D.bl false]) (bs := [D.bl true, D.bl true, D.bl false]) (by simp) (by simp) (by simp) (by simp)]
  simp
def oddL : List D := [.str "", .str "Both", .str "both ", .str " either", .str "eithe", .str "eithers", .str "LESS", .str "les", .str "more", .str "juts", .str "or", .str "and", .str "not", .str "just\n"]
theorem odd_ix {M : Mem} {h : Nat} (hM : M[h]? = some (.lst oddL)) {k : Int} (h0 : 0 ≤ k) (h1 : k < 14) : ∃ s : Str, OddW s ∧ oIx (.d (.hdl h)) (.d (.int k)) M = .ok (.d (.str s)) M := by
  obtain ⟨d, ⟨w, hw, rfl⟩, e⟩ := oIx_lit (M := M) (x := .d (.hdl h)) (ds := oddL) (i := k) (P := fun d => ∃ s : Str, OddW s ∧ d = .str s) (by simp [hM]) h0 h1 (by
    simp only [oddL, List.forall_mem_cons]
    refine ⟨⟨_, ?_, rfl⟩, ⟨_, ?_, rfl⟩, ⟨_, ?_, rfl⟩, ⟨_, ?_, rfl⟩, ⟨_, ?_, rfl⟩, ⟨_, ?_, rfl⟩, ⟨_, ?_, rfl⟩, ⟨_, ?_, rfl⟩, ⟨_, ?_, rfl⟩, ⟨_, ?_, rfl⟩, ⟨_, ?_, rfl⟩, ⟨_, ?_, rfl⟩, ⟨_, ?_, rfl⟩, ⟨_, ?_, rfl⟩, fun _ h => nomatch h⟩
    all_goals (simp [OddW]))
  exact ⟨w, hw, e⟩
theorem law_k01_run [HasF T "edges_marked" F_edges_marked] [HasF T "truth_by" F_truth_by] [HasF T "blend" F_blend] [HasF T "_law_draw" F__law_draw] [HasF T "_law_due" F__law_due] [HasF T "_law_refused" F__law_refused] [i : HasF T "law" F_law_k01] (ns : List Int) (hns : ns.length ≤ 63) (n : Nat) :
    ∃ M, run T (n + 4) "law" [scr ns] [] = .ok (.d (.bl true)) M := by
  have : (run T (n + 4) "law" [scr ns] []).wp fun x M' => Kp (x = .d (.bl true)) := by
    have hlim := lim_big
    rw [run_has i]
    refine wp_run rfl ?_
    have dr : ∀ (k many : Int) M, 0 < many → run T (n + 3) "_law_draw" [scr ns, .int k, .int many] M = .ok (.d (.int (lawDraw ns k many))) M := fun k many M hm => law_draw_run (n + 2) ns k many hm M
    have l14 : (14 : Nat) ≤ lim := by omega
    have l8 : (8 : Nat) ≤ lim := by omega
    have l6 : (6 : Nat) ≤ lim := by omega
    have l4 : (4 : Nat) ≤ lim := by omega
    have l2 : (2 : Nat) ≤ lim := by omega
    simp [F_law_k01, b_law_k01, l14, l8, l6, l4]
    refine ⟨by omega, ?_⟩
    have ref : ∀ (s : Str) (a b : Bool) (x y : List Int) M, OddW s → x.length + y.length < 4000 → run T (n + 3) "_law_refused" [.str s, .bl a, .bl b, .tup [.tup (x.map D.int), .tup (y.map D.int)]] M = .ok (.d (.bl true)) M := fun s a b x y M hs hl => law_refused_run n s hs a b x y hl M
    generalize hM0 : ([O.lst wordsL, O.lst [.str "", .str "Both", .str "both ", .str " either", .str "eithe", .str "eithers", .str "LESS", .str "les"], O.lst oddL] : Mem) = M0
    have hM1 : ([O.lst [D.str "both", D.str "either", D.str "less", D.str "just"], O.lst [.str "", .str "Both", .str "both ", .str " either", .str "eithe", .str "eithers", .str "LESS", .str "les"], O.lst [.str "", .str "Both", .str "both ", .str " either", .str "eithe", .str "eithers", .str "LESS", .str "les", .str "more", .str "juts", .str "or", .str "and", .str "not", .str "just\n"]] : Mem) = M0 := hM0
    rw [hM1]
    have g0 : M0[0]? = some (.lst wordsL) := by rw [← hM0]; rfl
    have g2 : M0[2]? = some (.lst oddL) := by rw [← hM0]; rfl
    refine forL_range (fun j env M' => M' = M0 ∧ ∃ (j3 j4 j5 j6 j7 j8 : Option D), env = [some (scr ns), some (.hdl 0), some (.hdl 2), j3, j4, j5, j6, j7, j8]) ?_ ?_ _ _ ⟨rfl, _, _, _, _, _, _, rfl⟩
    · rintro _ M' ⟨rfl, j3, j4, j5, j6, j7, j8, rfl⟩
      simp [dr]
      obtain ⟨s, hs, e⟩ := odd_ix g2 (k := lawDraw ns 63 14) (lawDraw_nn _ _ (by decide)) (lawDraw_lt _ _ (by decide))
      simp [e]
      have := ref s true false [] [] M' hs (by simp)
      simp at this
      simp [this]
      rfl
    · rintro j _ _ hj ⟨rfl, j3, j4, j5, j6, j7, j8, rfl⟩
      have w0 := lawDraw_nn ns (j : Int) (show (0 : Int) < 16 by decide)
      have w1 := lawDraw_lt ns (j : Int) (show (0 : Int) < 16 by decide)
      have v0 := lawDraw_nn ns (j : Int) (show (0 : Int) < 224 by decide)
      have v1 := lawDraw_lt ns (j : Int) (show (0 : Int) < 224 by decide)
      obtain ⟨w, ew⟩ := words_ix g0 (k := lawDraw ns (j : Int) 16 / 4) (by omega) (by omega)
      obtain ⟨s, hs, es⟩ := odd_ix g2 (k := lawDraw ns (j : Int) 224 / 16) (by omega) (by omega)
      have tb : ∀ a b M, run T (n + 3) "truth_by" [.str w.s, .bl a, .bl b] M = .ok (.d (.bl (w.tb a b))) M := fun a b M => truth_by_run (n + 2) w a b M
      have du : ∀ a b M, run T (n + 3) "_law_due" [.str w.s, .bl a, .bl b] M = .ok (.d (.bl (w.tb a b))) M := fun a b M => law_due_run (n + 2) w a b M
      obtain ⟨d, ⟨x, y, hxy, rfl⟩, ed⟩ := oIx_litO (ds := [D.tup [.tup [.int 3, .int 5], .tup []], D.tup [.tup [], .tup []], D.tup [.tup [.int 3], .tup [.int 3]], D.tup [.tup [], .tup [.int (-4)]]]) (i := lawDraw ns ((j : Int) + 70) 4) (P := fun d => ∃ x y : List Int, x.length + y.length < 4000 ∧ d = .tup [.tup (x.map D.int), .tup (y.map D.int)]) (lawDraw_nn _ _ (by decide)) (lawDraw_lt _ _ (by decide))
        (by simp only [List.forall_mem_cons]; exact ⟨⟨[3, 5], [], by decide, rfl⟩, ⟨[], [], by decide, rfl⟩, ⟨[3], [3], by decide, rfl⟩, ⟨[], [-4], by decide, rfl⟩, fun _ h => nomatch h⟩)
      simp [dr, ew, tb, du, l2, l4, show (1 : Nat) ≤ lim by omega, ed, es, ref s _ _ x y _ hs hxy]
      exact ⟨rfl, _, _, _, _, _, _, rfl⟩
  obtain ⟨x, M', e, rfl⟩ := Res.wp_ex this
  exact ⟨M', e⟩
end
end HW
end
section
set_option linter.all false
set_option autoImplicit false
namespace HW
open MI PySem
section
variable {T : Tab}
theorem law_long_ex [HasF T "_law_draw" F__law_draw] [HasF T "_law_far" F__law_far] [i : HasF T "_law_long" F__law_long] (ns : List Int) (hns : ns.length ≤ 63) (n : Nat) (M : Mem) :
    ∃ r : Reach, Rising r.2 ∧ r.2.length ≤ 63 ∧ Bd r.2 ∧ run T (n + 3) "_law_long" [scr ns] M = .ok (.d (encR r)) M := by
  have : (run T (n + 3) "_law_long" [scr ns] M).wp fun x M' => Kp (M' = M ∧ ∃ r : Reach, Rising r.2 ∧ r.2.length ≤ 63 ∧ Bd r.2 ∧ x = .d (encR r)) := by
    have hlim := lim_big
    rw [run_has i]
    refine wp_run rfl ?_
    simp [F__law_long, b__law_long]
    obtain ⟨v, hv0, hv1, hv⟩ := law_far_ex (T := T) ns 20
    rw [hv]
    simp
    refine ⟨by omega, ?_⟩
    refine forL_range (fun j env M' => ∃ (acc : List Int) (e : Int) (jj : Option D), env = [some (scr ns), some (.hdl M.length), some (.int e), jj] ∧ M' = M ++ [.lst (acc.map D.int)] ∧
      Rising acc ∧ (∀ x ∈ acc, x < e) ∧ acc.length ≤ j ∧ Bd acc ∧ -(5 * 10 ^ 49) ≤ e ∧ e ≤ 10 ^ 50 + (j : Int) * (10 ^ 47 + 1)) ?_ ?_ _ _ ⟨[], _, _, rfl, rfl, .nil, by simp, by simp, Bd.nil, by omega, by omega⟩
    · rintro _ _ ⟨acc, e, jj, rfl, rfl, h1, h2, h3, h4, h5, h6⟩
      simp
      rw [law_draw_run _ _ _ _ (by decide)]
      simp
      exact ⟨rfl, (_, acc), h1, by show acc.length ≤ 63; omega, h4, rfl⟩
    · rintro j _ _ hj ⟨acc, e, jj, rfl, rfl, h1, h2, h3, h4, h5, h6⟩
      have hacc : acc.length < lim := by omega
      simp [hacc]
      obtain ⟨v2, hv20, hv21, hv2⟩ := law_far_ex (T := T) ns (30 + (j : Int))
      rw [hv2]
      simp
      rw [law_draw_run _ _ _ _ (by decide)]
      simp
      obtain ⟨d, ⟨m, hm0, hm3, rfl⟩, he⟩ := oIx_lit (M := M ++ [.lst (acc.map D.int ++ [D.int e])]) (x := .o (.lst [.int 1, .int 3, .int (10 ^ 47)])) (i := lawDraw ns (100 + (j : Int)) 3) (P := fun d => ∃ m : Int, 0 < m ∧ m ≤ 10 ^ 47 ∧ d = .int m) rfl (lawDraw_nn _ _ (by decide)) (lawDraw_lt _ _ (by decide))
        (by simp only [List.forall_mem_cons]; exact ⟨⟨1, by decide, by decide, rfl⟩, ⟨3, by decide, by decide, rfl⟩, ⟨10 ^ 47, by decide, by decide, rfl⟩, fun _ h => nomatch h⟩)
      simp at he
      rw [he]
      simp [hm0]
      have hm5 := Int.emod_nonneg v2 (show m ≠ 0 by omega)
      have hm4 := Int.emod_lt_of_pos v2 hm0
      refine ⟨acc ++ [e], _, _, rfl, by simp, h1.snoc h2, ?_, by simp; omega, h4.snoc ⟨by omega, by omega⟩, by omega, by omega⟩
      intro x hx
      rcases List.mem_append.mp hx with q | q
      · have := h2 x q; omega
      · rw [List.mem_singleton.mp q]; omega
  obtain ⟨x, M', e, rfl, r, h1, h2, h3, rfl⟩ := Res.wp_ex this
  exact ⟨r, h1, h2, h3, e⟩
theorem law_k02_run [HasF T "lies_in" F_lies_in] [HasF T "_law_draw" F__law_draw] [HasF T "_law_far" F__law_far] [HasF T "_law_reach" F__law_reach_k02] [HasF T "_law_in" F__law_in] [HasF T "_law_points" F__law_points] [HasF T "_law_long" F__law_long]
    [i : HasF T "law" F_law_k02] (ns : List Int) (hns : ns.length ≤ 63) (n : Nat) : ∃ M, run T (n + 4) "law" [scr ns] [] = .ok (.d (.bl true)) M := by
  have : (run T (n + 4) "law" [scr ns] []).wp fun x M' => Kp (x = .d (.bl true)) := by
    rw [run_has i]
    refine wp_run rfl ?_
    simp [F_law_k02, b_law_k02]
    obtain ⟨r1, a1, a2, a3, e1⟩ := law_reach_ex (T := T) ns 0 n []
    rw [e1]
    simp
    obtain ⟨r2, c1, c2, c3, e2⟩ := law_long_ex (T := T) ns hns n []
    rw [e2]
    simp
    refine forL_wp encR (fun l env M' => ∃ (j1 j2 j3 j4 j5 : Option D), env = [some (scr ns), j1, j2, j3, j4, j5] ∧ ∀ r ∈ l, Rising r.2 ∧ r.2.length ≤ 63 ∧ Bd r.2) ?_ ?_ [r1, r2] _ _ ⟨_, _, _, _, _, rfl, ?_⟩
    · rintro _ M ⟨j1, j2, j3, j4, j5, rfl, _⟩
      simp
      rfl
    · rintro r l _ M ⟨j1, j2, j3, j4, j5, rfl, hr⟩
      obtain ⟨d1, d2, d3⟩ := hr r List.mem_cons_self
      have hr2 : ∀ x ∈ l, Rising x.2 ∧ x.2.length ≤ 63 ∧ Bd x.2 := fun x hx => hr x (List.mem_cons_of_mem _ hx)
      have hi : ∀ (k : Int) M, run T (n + 3) "lies_in" [encR r, .int k] M = .ok (.d (.bl (liesIn r k))) M := fun k M => lies_in_run (n + 2) r k M
      have hlow : liesIn r (-10 ^ 59) = r.1 := liesIn_gt (f := r.1) fun e he => by have := d3 e he; omega
      have hlies : ∀ (k : Int) M, run T (n + 3) "_law_in" [encR r, .int k] M = .ok (.d (.bl (liesIn r k))) M := fun k M => law_in_run (n + 2) r k M (by have := lim_big; omega)
      simp at hlow
      simp [hi, hlow]
      refine forL_wp D.int (fun l2 env M' => ∃ (t : Bool) (j3 j4 j5 : Option D) (done : List Int), env = [some (scr ns), some (encR r), some (.bl t), j3, j4, j5] ∧ r.2 = done ++ l2 ∧ ∀ k, (∀ x ∈ done, x ≤ k) → liesIn r k = liesIn (t, l2) k) ?_ ?_ _ _ _ ⟨_, _, _, _, [], rfl, rfl, fun k _ => rfl⟩
      · rintro _ M ⟨t, j3, j4, j5, done, rfl, hd, ht⟩
        have hhigh := ht (10 ^ 59) fun x hx => by have := d3 x (by rw [hd, List.append_nil]; exact hx); omega
        rw [liesIn_nil] at hhigh
        simp at hhigh
        simp [hi, hhigh]
        obtain ⟨ps, hps⟩ := law_points_ex (T := T) (n + 2) [r] M.length (M ++ [.lst [encR r]]) (by simp) (by simp) (fun x hx => by rw [List.mem_singleton.mp hx]; omega)
        rw [hps]
        simp
        refine forL_wp D.int (fun l3 env M' => ∃ (j2 j3 j4 j5 : Option D), env = [some (scr ns), some (encR r), j2, j3, j4, j5]) ?_ ?_ _ _ _ ⟨_, _, _, _, rfl⟩
        · rintro _ M ⟨j2, j3, j4, j5, rfl⟩
          exact ⟨rfl, _, _, _, _, _, rfl, hr2⟩
        · rintro p l3 _ M ⟨j2, j3, j4, j5, rfl⟩
          simp [hi, hlies]
          exact ⟨_, _, _, _, rfl⟩
      · rintro e l2 _ M ⟨t, j3, j4, j5, done, rfl, hd, ht⟩
        have hr3 := d1
        rw [hd] at hr3
        unfold Rising at hr3
        rw [List.pairwise_append, List.pairwise_cons] at hr3
        have h1 : liesIn r (e - 1) = t := by
          rw [ht (e - 1) fun x hx => by have := hr3.2.2 x hx e List.mem_cons_self; omega]
          refine liesIn_gt fun x hx => ?_
          rcases List.mem_cons.mp hx with q | q
          · omega
          · have := hr3.2.1.1 x q; omega
        have h2 : ∀ k, (∀ x ∈ done ++ [e], x ≤ k) → liesIn r k = liesIn (!t, l2) k := fun k hk => by
          rw [ht k fun x hx => hk x (List.mem_append_left _ hx), liesIn_cons, if_pos (hk e (List.mem_append_right _ (List.mem_singleton.mpr rfl)))]
        have h3 : liesIn r e = !t := by
          rw [h2 e fun x hx => ?_, liesIn_gt hr3.2.1.1]
          rcases List.mem_append.mp hx with q | q
          · have := hr3.2.2 x q e List.mem_cons_self; omega
          · rw [List.mem_singleton.mp q]; exact Int.le_refl _
        simp [hi, h1, h3]
        exact ⟨_, _, _, _, done ++ [e], rfl, by rw [hd]; simp, h2⟩
    · intro r hr
      simp only [List.mem_cons, List.not_mem_nil, or_false] at hr
      rcases hr with rfl | rfl
      · exact ⟨a1, by omega, a3⟩
      · exact ⟨c1, c2, c3⟩
  obtain ⟨x, M', e, rfl⟩ := Res.wp_ex this
  exact ⟨M', e⟩
end
end HW
end
section
set_option linter.all false
set_option autoImplicit false
/-! MK3: the runs of a reach -/
namespace HW
abbrev Run := Option Int × Option Int
def runsGo : Bool → Option Int → List Int → List Run
  | t, low, [] => if t = true then [(low, none)] else []
  | t, low, e :: r => if t = true then (low, some e) :: runsGo (!t) (some e) r else runsGo (!t) (some e) r
def runsOf (r : Reach) : List Run := runsGo r.1 none r.2
def prs : List (Option Int) → List Run
  | a :: b :: r => (a, b) :: prs r
  | _ => []
def ends : Bool → Option Int → List Int → List (Option Int)
  | true, low, l => low :: (l.map some ++ if l.length % 2 = 0 then [none] else [])
  | false, _, l => l.map some ++ if l.length % 2 = 1 then [none] else []
theorem prs_ends : ∀ (l : List Int) (t : Bool) (low : Option Int), prs (ends t low l) = runsGo t low l
  | [], t, low => by cases t <;> rfl
  | e :: r, true, low => by
    have ih := prs_ends r false (some e)
    have hp : ((e :: r).length % 2 = 0) ↔ (r.length % 2 = 1) := by simp only [List.length_cons]; omega
    simp only [ends, runsGo, if_true, Bool.not_true, ← ih, List.map_cons, List.cons_append, prs, hp]
  | e :: r, false, low => by
    have ih := prs_ends r true (some e)
    have hp : ((e :: r).length % 2 = 1) ↔ (r.length % 2 = 0) := by simp only [List.length_cons]; omega
    simp only [ends, runsGo, Bool.false_eq_true, if_false, Bool.not_false, ← ih, List.map_cons, List.cons_append, hp]
theorem ends_even (t : Bool) (low : Option Int) (l : List Int) : (ends t low l).length % 2 = 0 := by
  cases t <;> simp only [ends, List.length_cons, List.length_append, List.length_map]
  · split <;> simp <;> omega
  · split <;> simp <;> omega
theorem prs_range : ∀ (es : List (Option Int)), es.length % 2 = 0 → (List.range (es.length / 2)).map (fun k => ((es.getD (2 * k) none), (es.getD (2 * k + 1) none))) = prs es
  | [], _ => rfl
  | [a], h => by simp at h
  | a :: b :: r, h => by
    have ih := prs_range r (by simp only [List.length_cons] at h; omega)
    have e : (a :: b :: r).length / 2 = r.length / 2 + 1 := by simp only [List.length_cons]; omega
    rw [e, List.range_succ_eq_map, List.map_cons, List.map_map]
    simp only [prs]
    refine List.cons_eq_cons.mpr ⟨rfl, ?_⟩
    rw [← ih]
    refine List.map_congr_left fun k _ => ?_
    simp only [Function.comp, Nat.succ_eq_add_one]
    have e1 : 2 * (k + 1) = 2 * k + 1 + 1 := by omega
    rw [e1]
    rfl
def inRun (p : Int) (r : Run) : Bool := (match r.1 with | none => true | some l => decide (l ≤ p)) && (match r.2 with | none => true | some h => decide (p < h))
theorem runs_high (p : Int) : ∀ (l : List Int) (t : Bool) (e : Int), p < e → Rising (e :: l) → (runsGo t (some e) l).any (inRun p) = false
  | [], t, e, h, _ => by
    cases t
    · rfl
    · have : ¬ e ≤ p := by omega
      simp [runsGo, inRun, this]
  | x :: r, t, e, h, hr => by
    obtain ⟨h1, h2⟩ := Rising.cons.mp hr
    have hx := h1 x List.mem_cons_self
    have ih := runs_high p r (!t) x (by omega) h2
    have : ¬ e ≤ p := by omega
    cases t <;> simp only [Bool.not_true, Bool.not_false] at ih <;> simp [runsGo, inRun, this, ih]
theorem runs_lies (p : Int) : ∀ (l : List Int) (t : Bool) (low : Option Int), Rising l → (∀ e, low = some e → e ≤ p) → (runsGo t low l).any (inRun p) = liesIn (t, l) p
  | [], t, low, _, hl => by
    rw [liesIn_nil]
    cases t
    · rfl
    · cases low with
      | none => rfl
      | some e => have := hl e rfl; simp [runsGo, inRun, this]
  | x :: r, t, low, hr, hl => by
    obtain ⟨h1, h2⟩ := Rising.cons.mp hr
    rw [liesIn_cons]
    by_cases hx : x ≤ p
    · have ih := runs_lies p r (!t) (some x) h2 (fun e q => by cases q; exact hx)
      rw [if_pos hx, ← ih]
      have : ¬ p < x := by omega
      cases t
      · rfl
      · simp [runsGo, inRun, this]
    · rw [if_neg hx, liesIn_gt fun e he => by have := h1 e he; omega]
      have hh := runs_high p r (!t) x (by omega) hr
      cases t
      · exact hh
      · have : p < x := by omega
        cases low with
        | none => simp [runsGo, inRun, this]
        | some e => have := hl e rfl; simp [runsGo, inRun, *]
theorem runsOf_lies {r : Reach} (h : Rising r.2) (p : Int) : (runsOf r).any (inRun p) = liesIn r p := runs_lies p r.2 r.1 none h (fun e q => by cases q)
theorem runsGo_len : ∀ (l : List Int) (t : Bool) (low : Option Int), (runsGo t low l).length ≤ l.length + 1
  | [], t, low => by cases t <;> simp [runsGo]
  | x :: r, t, low => by
    have := runsGo_len r (!t) (some x)
    cases t <;> simp only [Bool.not_true, Bool.not_false] at this <;> simp [runsGo] <;> omega
end HW
end
section
set_option linter.all false
set_option autoImplicit false
/-! MJ16: runs; law k06 -/
namespace MI
section
variable {M : Mem}
@[simp] theorem oSlice_o (ds : List D) (lo hi : Option Int) : oSlice (.o (.lst ds)) lo hi M = .ok (.o (.lst (cut ds lo hi))) M := nrfl rfl
@[simp] theorem mInsert_def (n : Nat) (i : Int) (d : D) : mInsert n (.int i) d M = match M[n]? with
    | some (.lst ds) => if 0 ≤ i ∧ i < 2 ^ 62 ∧ ds.length < lim then .ok (.d .non) (M.set n (.lst (ds.take i.toNat ++ [d] ++ ds.drop i.toNat))) else .bad
    | _ => .bad := nrfl rfl
@[simp] theorem oSlice_ro (ds : List D) (lo hi : Option Int) : oSlice (.d (.ro ds)) lo hi M = .ok (.o (.lst (cut ds lo hi))) M := nrfl rfl
@[simp] theorem oSlice_hdl (n : Nat) (lo hi : Option Int) : oSlice (.d (.hdl n)) lo hi M = match M[n]? with
    | some (.lst ds) => .ok (.o (.lst (cut ds lo hi))) M
    | _ => .bad := by
  show (match lstOf (.d (.hdl n)) M with | some ds => Res.ok (RV.o (.lst (cut ds lo hi))) M | none => .bad) = _
  rw [lstOf_hdl]; cases M[n]? with
  | none => rfl
  | some o => cases o <;> rfl
theorem isTy_hdl (t : Ty) (n : Nat) : isTy t (.d (.hdl n)) M = match M[n]? with
    | some (.lst _) => some (decide (t = .list))
    | some (.dic _ _) => some (decide (t = .dict))
    | _ => none := by cases t <;> rfl
@[simp] theorem bIsi_hdl (t : Ty) (n : Nat) : bIsi t (.d (.hdl n)) M = match M[n]? with
    | some (.lst _) => .ok (.d (.bl (decide (t = .list)))) M
    | some (.dic _ _) => .ok (.d (.bl (decide (t = .dict)))) M
    | _ => .bad := by
  unfold bIsi
  rw [isTy_hdl]
  cases M[n]? with
  | none => rfl
  | some o => cases o <;> rfl
end
end MI
namespace HW
open MI PySem
def encRun (r : Run) : D := .tup [encO r.1, encO r.2]
section
variable {T : Tab}
theorem rgN_two (n : Nat) (h : n % 2 = 0) : rgN 0 (n : Int) 2 = n / 2 := by
  unfold rgN
  rw [if_pos (by decide)]
  omega
theorem encO_get (es : List (Option Int)) (k : Nat) (h : k < es.length) : (es.map encO)[k]? = some (encO (es.getD k none)) := by
  rw [List.getElem?_map, List.getElem?_eq_getElem h]
  simp [List.getD_eq_getElem?_getD, List.getElem?_eq_getElem h]
theorem runs_of_run [i : HasF T "runs_of" F_runs_of] (n : Nat) (r : Reach) (hl : r.2.length ≤ 1000) (M : Mem) : run T (n + 1) "runs_of" [encR r] M = .ok (.o (.lst ((runsOf r).map encRun))) M := by
  have hlim := lim_big
  rw [run_has i, ← Res.wp_eq]
  refine wp_run rfl ?_
  obtain ⟨f, l⟩ := r
  simp only at hl
  have last : ∀ es : List (Option Int), es.length % 2 = 0 → es.length ≤ 1002 → prs es = runsOf (f, l) → ∀ env : MI.Env, env = [some (encR (f, l)), some (.hdl M.length), none] →
      (sRet (eComp (eTup (dCons (MI.e2 oIx (eVar 1) (eVar 2)) (dCons (MI.e2 oIx (eVar 1) (MI.e2 oAdd (eVar 2) (eC (.int 1)))) dNil))) tYes (.nm 2) [2] (iRange3 (eC (.int 0)) (e1 bLen (eVar 1)) (eC (.int 2)))) (run T n) env (M ++ [.lst (es.map encO)])).wp
        (fun _ M' => (fin .pure M (.d .non) M').wp fun x M'' => x = .o (.lst ((runsOf (f, l)).map encRun)) ∧ M'' = M) (fun x M' => (fin .pure M x M').wp fun x M'' => x = .o (.lst ((runsOf (f, l)).map encRun)) ∧ M'' = M) := by
    intro es h2 hl2 hp env henv
    subst henv
    simp
    refine ⟨by omega, ?_⟩
    rw [rgN_two _ h2]
    rw [show rngC 0 2 (es.length / 2) = (List.range (es.length / 2)).map fun k : Nat => D.int (0 + (k : Int) * 2) from rfl]
    rw [compL_allM (fun k : Nat => D.int (0 + (k : Int) * 2)) rfl (fun k : Nat => encRun (es.getD (2 * k) none, es.getD (2 * k + 1) none))]
    · have e : ((List.range (es.length / 2)).map fun k : Nat => encRun (es.getD (2 * k) none, es.getD (2 * k + 1) none)) = (prs es).map encRun := by
        rw [← prs_range es h2, List.map_map]; rfl
      rw [e, hp]
      have hb : D.bels M.length ((runsOf (f, l)).map encRun) = true := by
        generalize runsOf (f, l) = rs
        induction rs with
        | nil => rfl
        | cons a rs ih =>
          obtain ⟨a, b⟩ := a
          cases a <;> cases b <;> simp [encRun, encO, ih]
      simp [hb]
    · intro k hk
      have hk := List.mem_range.mp hk
      simp [← Res.wp_eq]
      have g1 := encO_get es (2 * k) (by omega)
      have g2 := encO_get es (2 * k + 1) (by omega)
      rw [oIx_seq (ds := es.map encO) (k := 2 * k) (by simp) (by rw [ixN_pos (by omega) (by simp; omega)]; congr 1; omega) g1]
      simp
      rw [oIx_seq (ds := es.map encO) (k := 2 * k + 1) (by simp) (by rw [ixN_pos (by omega) (by simp; omega)]; congr 1; omega) g2]
      simp [encRun]
    · simp; omega
  simp [F_runs_of, b_runs_of, encR]
  have hll : l.length < lim := by omega
  have hl2 : l.length + 1 < lim := by omega
  have ev := ends_even
  cases f
  · simp
    have q0 := prs_ends l false none
    have q1 := ends_even false none l
    simp only [ends] at q0 q1
    split
    · rename_i h
      have h' : l.length % 2 = 1 := by omega
      simp only [h', if_true] at q0 q1
      simp [hll]
      have q := last (l.map some ++ [none]) q1 (by simp; omega) q0 _ rfl
      simpa [encR, encO, Function.comp_def] using q
    · rename_i h
      have h' : ¬ l.length % 2 = 1 := by omega
      simp only [h', if_false, List.append_nil] at q0 q1
      have q := last (l.map some) q1 (by simp; omega) q0 _ rfl
      simpa [encR, encO, Function.comp_def] using q
  · simp [hll]
    have q0 := prs_ends l true none
    have q1 := ends_even true none l
    simp only [ends] at q0 q1
    split
    · rename_i h
      have h' : l.length % 2 = 0 := by omega
      simp only [h', if_true] at q0 q1
      simp [hl2]
      have q := last (none :: (l.map some ++ [none])) q1 (by simp; omega) q0 _ rfl
      simpa [encR, encO, Function.comp_def] using q
    · rename_i h
      have h' : ¬ l.length % 2 = 0 := by omega
      simp only [h', if_false, List.append_nil] at q0 q1
      have q := last (none :: l.map some) q1 (by simp; omega) q0 _ rfl
      simpa [encR, encO, Function.comp_def] using q
@[simp] theorem bels_runs (n : Nat) (rs : List Run) : D.bels n (rs.map encRun) = true := by
  induction rs with
  | nil => rfl
  | cons a rs ih =>
    obtain ⟨a, b⟩ := a
    cases a <;> cases b <;> simp [encRun, encO, ih]
theorem bels_append (n : Nat) (a b : List D) : D.bels n (a ++ b) = (D.bels n a && D.bels n b) := by
  induction a with
  | nil => simp
  | cons x a ih => simp [ih, Bool.and_assoc]
theorem law_due_k06_run [i : HasF T "_law_due" F__law_due_k06] (n : Nat) (r : Reach) (hl : r.2.length ≤ 1000) (M : Mem) : run T (n + 1) "_law_due" [encR r] M = .ok (.o (.lst ((runsOf r).map encRun))) M := by
  have hlim := lim_big
  rw [run_has i, ← Res.wp_eq]
  refine wp_run rfl ?_
  simp [F__law_due_k06, b__law_due_k06]
  refine forL_wp D.int (fun l env M' => ∃ (acc : List Run) (t : Bool) (low : Option Int) (j : Option D), env = [some (encR r), some (.hdl M.length), some (.bl t), some (encO low), j] ∧ M' = M ++ [.lst (acc.map encRun)] ∧ acc.length + l.length ≤ r.2.length ∧ acc ++ runsGo t low l = runsOf r) ?_ ?_ _ _ _ ⟨[], _, none, _, rfl, rfl, by simp, rfl⟩
  · rintro _ _ ⟨acc, t, low, j, rfl, rfl, h1, h2⟩
    have hll : acc.length < lim := by simp at h1; omega
    cases t
    · simp only [runsGo, Bool.false_eq_true, if_false, List.append_nil] at h2
      subst h2
      simp
    · simp only [runsGo, if_true] at h2
      simp [hll, ← h2, encRun, encO]
      cases low <;> simp [encO, bels_append]
  · rintro e l _ _ ⟨acc, t, low, j, rfl, rfl, h1, h2⟩
    have hll : acc.length < lim := by simp at h1; omega
    simp only [List.length_cons] at h1
    cases t
    · simp only [runsGo, Bool.false_eq_true, if_false] at h2
      simp
      exact ⟨acc, _, some e, _, rfl, rfl, by omega, h2⟩
    · simp only [runsGo, if_true] at h2
      simp [hll]
      exact ⟨acc ++ [(low, some e)], _, some e, _, rfl, by simp [encRun, encO], by simp; omega, by rw [← h2]; simp⟩
@[simp] theorem deq_O (a b : Option Int) : deq (encO a) (encO b) = decide (a = b) := by
  cases a <;> cases b <;> simp [encO]
@[simp] theorem pl_O (n : Nat) (a : Option Int) : pl n (encO a) = true := by cases a <;> simp [encO]
theorem deq_Run (a b : Run) : deq (encRun a) (encRun b) = decide (a = b) := by
  obtain ⟨a1, a2⟩ := a
  obtain ⟨b1, b2⟩ := b
  simp only [encRun, deq_tup, deqs_cons, deq_O, deqs_nil, Bool.and_true, Prod.mk.injEq, Bool.decide_and]
theorem pl_Run (n : Nat) (a : Run) : pl (n + 1) (encRun a) = true := by simp [encRun]
theorem law_pairs_run [HasF T "_law_whole" F__law_whole_k03] [i : HasF T "_law_pairs" F__law_pairs_k06] (n : Nat) (rs : List Run) (h h' : Nat) (M : Mem) (hM : M[h]? = some (.lst (rs.map encRun))) (hM' : M[h']? = some (.lst (rs.map encRun))) :
    run T (n + 2) "_law_pairs" [.hdl h, .hdl h'] M = .ok (.d (.bl true)) M := by
  rw [run_has i, ← Res.wp_eq]
  refine wp_run rfl ?_
  simp [F__law_pairs_k06, b__law_pairs_k06, hM, hM']
  refine forL_wp encRun (fun l env M' => ∃ (j2 j3 : Option D), env = [some (.hdl h), some (.hdl h'), j2, j3] ∧ M' = M) ?_ ?_ _ _ _ ⟨_, _, rfl, rfl⟩
  · rintro _ M' ⟨j2, j3, rfl, rfl⟩
    simp [hM, hM']
    rw [oEq_l (as := rs.map encRun) (bs := rs.map encRun) (by simp [hM]) (by simp [hM']) (pls_map fun _ _ => pl_Run _ _) (pls_map fun _ _ => pl_Run _ _), deqs_map deq_Run]
    simp
  · rintro a l _ M' ⟨j2, j3, rfl, rfl⟩
    obtain ⟨lo, hi⟩ := a
    simp [hM, encRun]
    refine forL_wp encO (fun l env M'' => ∃ (j3 : Option D), env = [some (.hdl h), some (.hdl h'), some (.tup [encO lo, encO hi]), j3] ∧ M'' = M') ?_ ?_ [lo, hi] _ _ ⟨_, rfl, rfl⟩
    · rintro _ _ ⟨j3, rfl, rfl⟩
      simp
      exact ⟨_, _, rfl, rfl⟩
    · rintro e l2 _ _ ⟨j3, rfl, rfl⟩
      cases e with
      | none =>
        simp [encO]
        exact ⟨_, rfl, rfl⟩
      | some v =>
        simp [encO]
        rw [law_whole_run]
        simp
        exact ⟨_, rfl, rfl⟩
theorem law_within_run [i : HasF T "_law_within" F__law_within] (n : Nat) (rs : List Run) (h : Nat) (p : Int) (M : Mem) (hM : M[h]? = some (.lst (rs.map encRun))) :
    run T (n + 1) "_law_within" [.hdl h, .int p] M = .ok (.d (.bl (rs.any (inRun p)))) M := by
  rw [run_has i, ← Res.wp_eq]
  refine wp_run rfl ?_
  simp [F__law_within, b__law_within, hM]
  refine forL_wp encRun (fun l env M' => ∃ (j2 j3 : Option D), env = [some (.hdl h), some (.int p), j2, j3] ∧ M' = M ∧ l.any (inRun p) = rs.any (inRun p)) ?_ ?_ _ _ _ ⟨_, _, rfl, rfl, rfl⟩
  · rintro _ M' ⟨j2, j3, rfl, rfl, hr⟩
    simp only [List.any_nil] at hr
    simp [hM, ← hr]
  · rintro a l _ M' ⟨j2, j3, rfl, rfl, hr⟩
    obtain ⟨lo, hi⟩ := a
    rw [List.any_cons] at hr
    have key : inRun p (lo, hi) = true ∨ inRun p (lo, hi) = false := by cases inRun p (lo, hi) <;> simp
    rcases key with q | q
    · rw [q, Bool.true_or] at hr
      rw [← hr]
      unfold inRun at q
      cases lo <;> cases hi <;> simp at q <;> simp [hM, encO, encRun, q]
    · rw [q, Bool.false_or] at hr
      unfold inRun at q
      cases lo with
      | none =>
        cases hi with
        | none => simp at q
        | some hi =>
          have q' : ¬ p < hi := by simpa using q
          simp [hM, encO, encRun, q']
          refine ⟨_, _, rfl, ?_⟩
          simpa using hr
      | some lo =>
        cases hi with
        | none =>
          have q' : ¬ lo ≤ p := by simpa using q
          simp [hM, encO, encRun, q']
          refine ⟨_, _, rfl, ?_⟩
          simpa using hr
        | some hi =>
          by_cases c : lo ≤ p
          · have q' : ¬ p < hi := by simpa [c] using q
            simp [hM, encO, encRun, c, q']
            refine ⟨_, _, rfl, ?_⟩
            simpa using hr
          · simp [hM, encO, encRun, c]
            refine ⟨_, _, rfl, ?_⟩
            simpa using hr
theorem law_k06_run [HasF T "runs_of" F_runs_of] [HasF T "_law_draw" F__law_draw] [HasF T "_law_far" F__law_far] [HasF T "_law_reach" F__law_reach_k02] [HasF T "_law_in" F__law_in] [HasF T "_law_points" F__law_points] [HasF T "_law_whole" F__law_whole_k03] [HasF T "_law_long" F__law_long]
    [HasF T "_law_due" F__law_due_k06] [HasF T "_law_pairs" F__law_pairs_k06] [HasF T "_law_within" F__law_within] [i : HasF T "law" F_law_k06] (ns : List Int) (hns : ns.length ≤ 63) (n : Nat) : ∃ M, run T (n + 4) "law" [scr ns] [] = .ok (.d (.bl true)) M := by
  have : (run T (n + 4) "law" [scr ns] []).wp fun x M' => Kp (x = .d (.bl true)) := by
    rw [run_has i]
    refine wp_run rfl ?_
    simp [F_law_k06, b_law_k06]
    obtain ⟨r1, a1, a2, a3, e1⟩ := law_reach_ex (T := T) ns 0 n []
    rw [e1]
    simp
    obtain ⟨r2, c1, c2, c3, e2⟩ := law_long_ex (T := T) ns hns n []
    rw [e2]
    simp
    refine forL_wp encR (fun l env M' => ∃ (j1 j2 j3 : Option D), env = [some (scr ns), j1, j2, j3] ∧ ∀ r ∈ l, Rising r.2 ∧ r.2.length ≤ 63) ?_ ?_ [r1, r2] _ _ ⟨_, _, _, rfl, ?_⟩
    · rintro _ M ⟨j1, j2, j3, rfl, _⟩
      simp
      rfl
    · rintro r l _ M ⟨j1, j2, j3, rfl, hr⟩
      obtain ⟨d1, d2⟩ := hr r List.mem_cons_self
      have hr2 : ∀ x ∈ l, Rising x.2 ∧ x.2.length ≤ 63 := fun x hx => hr x (List.mem_cons_of_mem _ hx)
      have d3 : r.2.length ≤ 1000 := by omega
      simp
      rw [runs_of_run (n + 2) r d3]
      simp
      rw [law_due_k06_run (n + 2) r d3]
      simp
      rw [law_pairs_run (n + 1) (runsOf r) _ _ _ (by simp) (by simp)]
      simp
      obtain ⟨ps, hps⟩ := law_points_ex (T := T) (n + 2) [r] (M.length + 2) (M ++ [.lst ((runsOf r).map encRun), .lst ((runsOf r).map encRun), .lst [encR r]]) (by simp) (by simp) (fun x hx => by rw [List.mem_singleton.mp hx]; omega)
      rw [hps]
      simp
      rw [show cut (ps.map D.int) none (some 60) = (ps.take 60).map D.int by rw [cut_to _ (by decide), List.map_take]; rfl]
      refine forL_wp D.int (fun l3 env M' => M'[M.length]? = some (.lst ((runsOf r).map encRun)) ∧ ∃ (j3 : Option D), env = [some (scr ns), some (encR r), some (.hdl M.length), j3]) ?_ ?_ _ _ _ ⟨by simp, _, rfl⟩
      · rintro _ M' ⟨hM', j3, rfl⟩
        simp
        exact ⟨_, _, _, rfl, hr2⟩
      · rintro p l3 _ M' ⟨hM', j3, rfl⟩
        simp
        rw [law_within_run (n + 2) (runsOf r) _ _ _ hM', runsOf_lies d1]
        simp
        rw [law_in_run (n + 2) _ _ _ (by have := lim_big; omega)]
        simp
        exact ⟨hM', _, rfl⟩
    · intro r hr
      simp only [List.mem_cons, List.not_mem_nil, or_false] at hr
      rcases hr with rfl | rfl
      · exact ⟨a1, by omega⟩
      · exact ⟨c1, c2⟩
  obtain ⟨x, M', e, rfl⟩ := Res.wp_ex this
  exact ⟨M', e⟩
end
end HW
end
section
set_option linter.all false
set_option autoImplicit false
/-! MK4: plots, plainly -/
namespace HW
open MI (sortI insI dedI)
abbrev Step := Int × Reach
abbrev Plot := Reach × List Step
def stp (t : Int) (here : Reach) (s : Step) : Reach := if s.1 ≤ t then s.2 else here
def atL (g : Reach) (ss : List Step) (t : Int) : Reach := ss.foldl (stp t) g
def atP (p : Plot) (t : Int) : Reach := atL p.1 p.2 t
def turnsOf (p : Plot) : List Int := p.2.map (·.1)
def Alt : Reach → List Step → Prop
  | _, [] => True
  | g, s :: r => s.2 ≠ g ∧ Alt s.2 r
structure POk (p : Plot) : Prop where
  g : Rising p.1.2
  ts : Rising (turnsOf p)
  rs : ∀ s ∈ p.2, Rising s.2.2
  alt : Alt p.1 p.2
theorem atL_nil (g : Reach) (t : Int) : atL g [] t = g := rfl
theorem atL_cons (g : Reach) (s : Step) (r : List Step) (t : Int) : atL g (s :: r) t = if s.1 ≤ t then atL s.2 r t else atL g r t := by
  simp only [atL, List.foldl_cons, stp]; split <;> rfl
theorem atL_gt {t : Int} : ∀ {ss : List Step} {g : Reach}, (∀ s ∈ ss, t < s.1) → atL g ss t = g
  | [], g, _ => rfl
  | s :: r, g, h => by
    rw [atL_cons, if_neg (by have := h s List.mem_cons_self; omega)]
    exact atL_gt fun x hx => h x (List.mem_cons_of_mem _ hx)
theorem turns_mem {ss : List Step} {P : Int → Prop} (h : ∀ t ∈ ss.map (·.1), P t) : ∀ s ∈ ss, P s.1 := fun s hs => h s.1 (List.mem_map_of_mem hs)
theorem turns_gt {s : Step} {r : List Step} (h : Rising ((s :: r).map (·.1))) : ∀ x ∈ r, s.1 < x.1 := turns_mem (P := fun t => s.1 < t) (Rising.cons.mp h).1
theorem atL_mem (g : Reach) (t : Int) : ∀ (ss : List Step), atL g ss t = g ∨ ∃ s ∈ ss, s.1 ≤ t ∧ atL g ss t = s.2
  | [] => .inl rfl
  | s :: r => by
    rw [atL_cons]
    split
    · rename_i h
      rcases atL_mem s.2 t r with q | ⟨x, hx, h1, q⟩
      · exact .inr ⟨s, List.mem_cons_self, h, q⟩
      · exact .inr ⟨x, List.mem_cons_of_mem _ hx, h1, q⟩
    · rcases atL_mem g t r with q | ⟨x, hx, h1, q⟩
      · exact .inl q
      · exact .inr ⟨x, List.mem_cons_of_mem _ hx, h1, q⟩
theorem atL_all {P : Reach → Prop} {g : Reach} {ss : List Step} (hg : P g) (h : ∀ s ∈ ss, P s.2) (t : Int) : P (atL g ss t) := by
  rcases atL_mem g t ss with q | ⟨s, hs, _, q⟩
  · rw [q]; exact hg
  · rw [q]; exact h s hs
theorem atP_rising {p : Plot} (h : POk p) (t : Int) : Rising (atP p t).2 := atL_all (P := fun r => Rising r.2) h.g h.rs t
/-- between the turns nothing changes -/
theorem atL_const {x t : Int} (hx : x ≤ t) : ∀ {ss : List Step} {g : Reach}, (∀ s ∈ ss, ¬ (x < s.1 ∧ s.1 ≤ t)) → atL g ss t = atL g ss x
  | [], g, _ => rfl
  | s :: r, g, h => by
    have h1 := h s List.mem_cons_self
    have h2 : ∀ y ∈ r, ¬ (x < y.1 ∧ y.1 ≤ t) := fun y hy => h y (List.mem_cons_of_mem _ hy)
    rw [atL_cons, atL_cons]
    by_cases c : s.1 ≤ x
    · rw [if_pos c, if_pos (by omega)]; exact atL_const hx h2
    · rw [if_neg c, if_neg (by omega)]; exact atL_const hx h2
theorem steps_ext : ∀ (A B : List Step) (g : Reach), Rising (A.map (·.1)) → Rising (B.map (·.1)) → Alt g A → Alt g B → (∀ t, atL g A t = atL g B t) → A = B
  | [], [], _, _, _, _, _, _ => rfl
  | [], b :: B, g, _, hB, _, aB, h => by
    have h1 := h b.1
    rw [atL_nil, atL_cons, if_pos (Int.le_refl _), atL_gt (turns_gt hB)] at h1
    exact absurd h1.symm aB.1
  | a :: A, [], g, hA, _, aA, _, h => by
    have h1 := h a.1
    rw [atL_nil, atL_cons, if_pos (Int.le_refl _), atL_gt (turns_gt hA)] at h1
    exact absurd h1 aA.1
  | a :: A, b :: B, g, hA, hB, aA, aB, h => by
    have gA := turns_gt hA
    have gB := turns_gt hB
    have key : ∀ (a b : Step) (A B : List Step), (∀ x ∈ A, a.1 < x.1) → (∀ x ∈ B, b.1 < x.1) → a.2 ≠ g → (∀ t, atL g (a :: A) t = atL g (b :: B) t) → b.1 ≤ a.1 := by
      intro a b A B gA gB na h
      rcases Int.lt_or_le a.1 b.1 with q | q
      · have h1 := h a.1
        rw [atL_cons, if_pos (Int.le_refl _), atL_gt gA, atL_gt (ss := b :: B) (fun x hx => ?_)] at h1
        · exact absurd h1 na
        · rcases List.mem_cons.mp hx with e | hx
          · rw [e]; exact q
          · have := gB x hx; omega
      · exact q
    have e1 := key a b A B gA gB aA.1 h
    have e2 := key b a B A gB gA aB.1 fun t => (h t).symm
    have et : a.1 = b.1 := by omega
    have er : a.2 = b.2 := by
      have h1 := h a.1
      rw [atL_cons, if_pos (Int.le_refl _), atL_gt gA, atL_cons, if_pos e1, atL_gt (fun x hx => by have := gB x hx; omega)] at h1
      exact h1
    have eab : a = b := Prod.ext et er
    subst eab
    rw [steps_ext A B a.2 (Rising.cons.mp hA).2 (Rising.cons.mp hB).2 aA.2 aB.2 fun t => ?_]
    by_cases c : a.1 ≤ t
    · have h1 := h t
      rwa [atL_cons, atL_cons, if_pos c, if_pos c] at h1
    · rw [atL_gt (fun x hx => by have := gA x hx; omega), atL_gt (fun x hx => by have := gB x hx; omega)]
theorem low_turn (l : List Step) : ∃ k : Int, ∀ s ∈ l, k < s.1 := by
  obtain ⟨k, h⟩ := low_point (l.map (·.1))
  exact ⟨k, turns_mem (P := fun t => k < t) h⟩
theorem plot_ext_at {p q : Plot} (hp : POk p) (hq : POk q) (h : ∀ t, atP p t = atP q t) : p = q := by
  obtain ⟨g, A⟩ := p
  obtain ⟨g', B⟩ := q
  have e : g = g' := by
    obtain ⟨k, hk⟩ := low_turn (A ++ B)
    have := h k
    rwa [atP, atP, atL_gt fun s hs => hk s (List.mem_append_left _ hs), atL_gt fun s hs => hk s (List.mem_append_right _ hs)] at this
  subst e
  rw [steps_ext A B g hp.ts hq.ts hp.alt hq.alt h]
/-- does a spot lie in a plot -/
def spot (p : Plot) (d t : Int) : Bool := liesIn (atP p t) d
theorem plot_ext {p q : Plot} (hp : POk p) (hq : POk q) (h : ∀ d t, spot p d t = spot q d t) : p = q :=
  plot_ext_at hp hq fun t => reach_ext (atP_rising hp t) (atP_rising hq t) fun d => h d t
/-! ### plots made -/
def mkS : Reach → List Step → List Step
  | _, [] => []
  | l, s :: r => if s.2 = l then mkS l r else s :: mkS s.2 r
def plotOf (g : Reach) (ps : List Step) : Plot := (g, mkS g ps)
theorem mkS_sub : ∀ (g : Reach) (ps : List Step), (mkS g ps).Sublist ps
  | _, [] => .slnil
  | l, s :: r => by
    unfold mkS
    split
    · exact (mkS_sub l r).cons s
    · exact (mkS_sub s.2 r).cons_cons s
theorem mkS_alt : ∀ (g : Reach) (ps : List Step), Alt g (mkS g ps)
  | _, [] => trivial
  | l, s :: r => by
    unfold mkS
    split
    · exact mkS_alt l r
    · rename_i h; exact ⟨h, mkS_alt s.2 r⟩
theorem mkS_at (t : Int) : ∀ (g : Reach) (ps : List Step), Rising (ps.map (·.1)) → atL g (mkS g ps) t = atL g ps t
  | _, [], _ => rfl
  | l, s :: r, h => by
    have h2 := (Rising.cons.mp h).2
    have gt := turns_gt h
    unfold mkS
    split
    · rename_i e
      rw [mkS_at t l r h2, atL_cons]
      split
      · rw [e]
      · rfl
    · rw [atL_cons, atL_cons]
      split
      · exact mkS_at t s.2 r h2
      · rename_i c
        rw [atL_gt (fun x hx => by have := gt x ((mkS_sub _ _).subset hx); omega), atL_gt (fun x hx => by have := gt x hx; omega)]
theorem plotOf_ok {g : Reach} {ps : List Step} (hg : Rising g.2) (ht : Rising (ps.map (·.1))) (hr : ∀ s ∈ ps, Rising s.2.2) : POk (plotOf g ps) :=
  ⟨hg, List.Pairwise.sublist ((mkS_sub g ps).map _) ht, fun s hs => hr s ((mkS_sub g ps).subset hs), mkS_alt g ps⟩
theorem plotOf_at {g : Reach} {ps : List Step} (ht : Rising (ps.map (·.1))) (t : Int) : atP (plotOf g ps) t = atL g ps t := mkS_at t g ps ht
theorem mkS_self : ∀ {g : Reach} {ps : List Step}, Alt g ps → mkS g ps = ps
  | _, [], _ => rfl
  | l, s :: r, h => by unfold mkS; rw [if_neg h.1, mkS_self h.2]
theorem plotOf_self {p : Plot} (h : POk p) : plotOf p.1 p.2 = p := by unfold plotOf; rw [mkS_self h.alt]
/-- a function of turns, told at its turns -/
theorem sample {F : Int → Reach} {t : Int} : ∀ {T : List Int} {g : Reach}, Rising T → ((∀ x ∈ T, t < x) → F t = g) → (∀ x ∈ T, x ≤ t → (∀ y ∈ T, ¬ (x < y ∧ y ≤ t)) → F t = F x) → atL g (T.map fun x => (x, F x)) t = F t
  | [], g, _, h0, _ => (h0 fun x hx => nomatch hx).symm
  | x :: r, g, hr, h0, hc => by
    obtain ⟨h1, h2⟩ := Rising.cons.mp hr
    rw [List.map_cons, atL_cons]
    by_cases c : x ≤ t
    · rw [if_pos c]
      refine sample h2 (fun h => hc x List.mem_cons_self c fun y hy => ?_) fun y hy hyt h => hc y (List.mem_cons_of_mem _ hy) hyt fun z hz => ?_
      · rcases List.mem_cons.mp hy with e | hy
        · omega
        · have := h y hy; omega
      · rcases List.mem_cons.mp hz with e | hz
        · have := h1 y hy; omega
        · exact h z hz
    · rw [if_neg c, atL_gt]
      · exact (h0 fun y hy => by
          rcases List.mem_cons.mp hy with e | hy
          · omega
          · have := h1 y hy; omega).symm
      · intro s hs
        obtain ⟨y, hy, rfl⟩ := List.mem_map.mp hs
        have := h1 y hy
        show t < y
        omega
theorem map_fst_map (T : List Int) (F : Int → Reach) : (T.map fun x => (x, F x)).map (·.1) = T := by
  rw [List.map_map]; exact List.map_id _
theorem sampled_ok {F : Int → Reach} {T : List Int} {g : Reach} (hT : Rising T) (hg : Rising g.2) (hF : ∀ t, Rising (F t).2) : POk (plotOf g (T.map fun x => (x, F x))) :=
  plotOf_ok hg (by rw [map_fst_map]; exact hT) fun s hs => by obtain ⟨y, _, rfl⟩ := List.mem_map.mp hs; exact hF y
/-! ### the blend of two plots -/
def blendP (w : W4) (a b : Plot) : Plot := plotOf (blend w a.1 b.1) ((ss (turnsOf a ++ turnsOf b)).map fun t => (t, blend w (atP a t) (atP b t)))
theorem blendP_ok (w : W4) (a b : Plot) : POk (blendP w a b) := sampled_ok (ss_rising _) (blend_rising _ _ _) fun _ => blend_rising _ _ _
theorem atP_low {p : Plot} {t : Int} (h : ∀ x ∈ turnsOf p, t < x) : atP p t = p.1 := atL_gt (turns_mem (P := fun x => t < x) h)
theorem atP_const {p : Plot} {x t : Int} (hx : x ≤ t) (h : ∀ y ∈ turnsOf p, ¬ (x < y ∧ y ≤ t)) : atP p t = atP p x := atL_const hx (turns_mem (P := fun y => ¬ (x < y ∧ y ≤ t)) h)
theorem blendP_at (w : W4) (a b : Plot) (t : Int) : atP (blendP w a b) t = blend w (atP a t) (atP b t) := by
  unfold blendP
  rw [plotOf_at (by rw [map_fst_map]; exact ss_rising _)]
  have ha : ∀ x, x ∈ turnsOf a → x ∈ ss (turnsOf a ++ turnsOf b) := fun x hx => (ss_mem _ _).mpr (List.mem_append_left _ hx)
  have hb : ∀ x, x ∈ turnsOf b → x ∈ ss (turnsOf a ++ turnsOf b) := fun x hx => (ss_mem _ _).mpr (List.mem_append_right _ hx)
  refine sample (ss_rising _) (fun h => ?_) fun x _ hxt h => ?_
  · rw [atP_low fun x hx => h x (ha x hx), atP_low fun x hx => h x (hb x hx)]
  · rw [atP_const hxt fun y hy => h y (ha y hy), atP_const hxt fun y hy => h y (hb y hy)]
theorem blendP_spot (w : W4) {a b : Plot} (ha : POk a) (hb : POk b) (d t : Int) : spot (blendP w a b) d t = w.tb (spot a d t) (spot b d t) := by
  unfold spot
  rw [blendP_at, blend_lies w (atP_rising ha t) (atP_rising hb t)]
/-! ### sizes: all edges are of some list -/
def Sub (L : List Int) (r : Reach) : Prop := ∀ e ∈ r.2, e ∈ L
theorem len_of_sub : ∀ {L l : List Int}, l.Nodup → (∀ e ∈ l, e ∈ L) → l.length ≤ L.length
  | L, [], _, _ => Nat.zero_le _
  | L, x :: l, hn, h => by
    obtain ⟨h1, h2⟩ := List.nodup_cons.mp hn
    have hx := h x List.mem_cons_self
    have := len_of_sub (L := L.erase x) h2 fun e he => (List.mem_erase_of_ne (fun q => h1 (by rw [← q]; exact he))).mpr (h e (List.mem_cons_of_mem _ he))
    rw [List.length_erase_of_mem hx] at this
    have hp := List.length_pos_of_mem hx
    simp only [List.length_cons]; omega
theorem sub_len {L : List Int} {r : Reach} (h : Rising r.2) (hs : Sub L r) : r.2.length ≤ L.length := len_of_sub h.nodup hs
theorem blend_sub {L : List Int} (w : W4) {a b : Reach} (ha : Sub L a) (hb : Sub L b) : Sub L (blend w a b) := fun e he => by
  have := (ss_mem _ _).mp ((blendGo_sub _ _ _ _ _ _ _).subset he)
  rcases List.mem_append.mp this with q | q
  · exact ha e q
  · exact hb e q
structure PSub (L : List Int) (p : Plot) : Prop where
  g : Sub L p.1
  rs : ∀ s ∈ p.2, Sub L s.2
theorem PSub.at {L : List Int} {p : Plot} (h : PSub L p) (t : Int) : Sub L (atP p t) := atL_all (P := Sub L) h.g h.rs t
theorem plotOf_sub {L : List Int} {g : Reach} {ps : List Step} (hg : Sub L g) (h : ∀ s ∈ ps, Sub L s.2) : PSub L (plotOf g ps) := ⟨hg, fun s hs => h s ((mkS_sub g ps).subset hs)⟩
theorem blendP_sub {L : List Int} (w : W4) {a b : Plot} (ha : PSub L a) (hb : PSub L b) : PSub L (blendP w a b) :=
  plotOf_sub (blend_sub w ha.g hb.g) fun s hs => by obtain ⟨y, _, rfl⟩ := List.mem_map.mp hs; exact blend_sub w (ha.at y) (hb.at y)
theorem plotOf_len (g : Reach) (ps : List Step) : (plotOf g ps).2.length ≤ ps.length := (mkS_sub g ps).length_le
theorem blendP_len (w : W4) (a b : Plot) : (blendP w a b).2.length ≤ a.2.length + b.2.length := by
  refine Nat.le_trans (plotOf_len _ _) ?_
  rw [List.length_map]
  have := ss_len (turnsOf a ++ turnsOf b)
  simp only [turnsOf, List.length_append, List.length_map] at this ⊢
  exact this
/-- turns are of some list -/
theorem blendP_turns (w : W4) (a b : Plot) : ∀ t ∈ turnsOf (blendP w a b), t ∈ turnsOf a ∨ t ∈ turnsOf b := fun t ht => by
  have := ((mkS_sub _ _).map (·.1)).subset ht
  rw [map_fst_map, ss_mem] at this
  exact List.mem_append.mp this
end HW
end
section
set_option linter.all false
set_option autoImplicit false
/-! MJ17: plots: what the program's defs compute -/
namespace HW
open MI PySem
def encS (s : Step) : D := .tup [.int s.1, encR s.2]
def encP (p : Plot) : D := .tup [encR p.1, .tup (p.2.map encS)]
@[simp] theorem asg_S (is : List Nat) (s : Step) (r : MI.Env) : asg (.tp is) (encS s) r = setAll is [.int s.1, encR s.2] r := nrfl rfl
@[simp] theorem oIx_S0 (s : Step) (M : Mem) : oIx (.d (encS s)) (.d (.int 0)) M = .ok (.d (.int s.1)) M := oIx_t0 _ _
@[simp] theorem oIx_S1 (s : Step) (M : Mem) : oIx (.d (encS s)) (.d (.int 1)) M = .ok (.d (encR s.2)) M := oIx_t1 _ _ _
@[simp] theorem oIx_P0 (p : Plot) (M : Mem) : oIx (.d (encP p)) (.d (.int 0)) M = .ok (.d (encR p.1)) M := oIx_t0 _ _
@[simp] theorem oIx_P1 (p : Plot) (M : Mem) : oIx (.d (encP p)) (.d (.int 1)) M = .ok (.d (.tup (p.2.map encS))) M := oIx_t1 _ _ _
@[simp] theorem bel_S (n : Nat) (s : Step) : D.bel n (encS s) = true := by simp [encS]
theorem bels_mapT {A : Type} {enc : A → D} (n : Nat) (l : List A) (h : ∀ a, D.bel n (enc a) = true) : D.bels n (l.map enc) = true := by
  induction l with
  | nil => rfl
  | cons a l ih => simp [h, ih]
@[simp] theorem bels_S (n : Nat) (l : List Step) : D.bels n (l.map encS) = true := bels_mapT n l fun _ => bel_S _ _
@[simp] theorem bels_R (n : Nat) (l : List Reach) : D.bels n (l.map encR) = true := bels_mapT n l fun _ => bel_encR _ _
@[simp] theorem bel_P (n : Nat) (p : Plot) : D.bel n (encP p) = true := by simp [encP]
@[simp] theorem bels_P (n : Nat) (l : List Plot) : D.bels n (l.map encP) = true := bels_mapT n l fun _ => bel_P _ _
@[simp] theorem fin_P (M l : Mem) (p : Plot) : fin .pure M (.d (encP p)) (M ++ l) = .ok (.d (encP p)) M := by
  show fin .pure M (.d (.tup _)) (M ++ l) = _
  rw [fin_tup]; simp [encP]
@[simp] theorem fin_P0 (M : Mem) (p : Plot) : fin .pure M (.d (encP p)) M = .ok (.d (encP p)) M := by
  have := fin_P M [] p
  rwa [List.append_nil] at this
@[simp] theorem deq_S (a b : Step) : deq (encS a) (encS b) = decide (a = b) := by
  obtain ⟨a1, a2⟩ := a
  obtain ⟨b1, b2⟩ := b
  simp only [encS, deq_tup, deqs_cons, deq_int, deq_R, deqs_nil, Bool.and_true, Prod.mk.injEq, Bool.decide_and]
theorem pl_S (n : Nat) (s : Step) : pl (n + 3) (encS s) = true := by simp [encS, pl_R]
@[simp] theorem deqs_S (a b : List Step) : deqs (a.map encS) (b.map encS) = decide (a = b) := deqs_map deq_S a b
@[simp] theorem deq_P (a b : Plot) : deq (encP a) (encP b) = decide (a = b) := by
  obtain ⟨a1, a2⟩ := a
  obtain ⟨b1, b2⟩ := b
  simp only [encP, deq_tup, deqs_cons, deq_R, deqs_S, deqs_nil, Bool.and_true, Prod.mk.injEq, Bool.decide_and]
theorem pl_P (n : Nat) (p : Plot) : pl (n + 5) (encP p) = true := by
  have : pls (n + 3) (p.2.map encS) = true := pls_map fun _ _ => pl_S _ _
  simp [encP, pl_R, this]
@[simp] theorem oEq_P (a b : Plot) (M : Mem) : oEq (.d (encP a)) (.d (encP b)) M = .ok (.d (.bl (decide (a = b)))) M := by rw [oEq_d (pl_P 11 a) (pl_P 11 b), deq_P]
@[simp] theorem oNe_P (a b : Plot) (M : Mem) : oNe (.d (encP a)) (.d (encP b)) M = .ok (.d (.bl (!decide (a = b)))) M := by rw [oNe_d (pl_P 11 a) (pl_P 11 b), deq_P]
@[simp] theorem bIsi_P (t : Ty) (r : Plot) (M : Mem) : bIsi t (.d (encP r)) M = .ok (.d (.bl (decide (t = .tuple)))) M := bIsi_tup t _
@[simp] theorem bIsi_S (t : Ty) (r : Step) (M : Mem) : bIsi t (.d (encS r)) M = .ok (.d (.bl (decide (t = .tuple)))) M := bIsi_tup t _
@[simp] theorem bLen_P (r : Plot) (M : Mem) : bLen (.d (encP r)) M = .ok (.d (.int 2)) M := bLen_tup _
@[simp] theorem bLen_S (r : Step) (M : Mem) : bLen (.d (encS r)) M = .ok (.d (.int 2)) M := bLen_tup _
section
variable {T : Tab}
theorem reach_at_run [i : HasF T "reach_at" F_reach_at] (n : Nat) (p : Plot) (t : Int) (M : Mem) : run T (n + 1) "reach_at" [encP p, .int t] M = .ok (.d (encR (atP p t))) M := by
  rw [run_has i, ← Res.wp_eq]
  refine wp_run rfl ?_
  simp [F_reach_at, b_reach_at]
  refine forL_wp encS (fun l env M' => ∃ (here : Reach) (j3 j4 : Option D), env = [some (encP p), some (.int t), some (encR here), j3, j4] ∧ M' = M ∧ atL here l t = atP p t) ?_ ?_ _ _ _ ⟨_, _, _, rfl, rfl, rfl⟩
  · rintro _ M' ⟨here, j3, j4, rfl, rfl, h⟩
    rw [atL_nil] at h
    simp [h]
  · rintro s l _ M' ⟨here, j3, j4, rfl, rfl, h⟩
    rw [atL_cons] at h
    simp
    split
    · rename_i c
      rw [if_pos c] at h
      exact ⟨_, _, _, rfl, rfl, h⟩
    · rename_i c
      rw [if_neg c] at h
      exact ⟨_, _, _, rfl, rfl, h⟩
theorem law_at_run [i : HasF T "_law_at" F__law_at_k09] (n : Nat) (p : Plot) (t : Int) (M : Mem) : run T (n + 1) "_law_at" [encP p, .int t] M = .ok (.d (encR (atP p t))) M := by
  rw [run_has i, ← Res.wp_eq]
  refine wp_run rfl ?_
  simp [F__law_at_k09, b__law_at_k09]
  refine forL_wp encS (fun l env M' => ∃ (here : Reach) (j3 j4 : Option D), env = [some (encP p), some (.int t), some (encR here), j3, j4] ∧ M' = M ∧ atL here l t = atP p t) ?_ ?_ _ _ _ ⟨_, _, _, rfl, rfl, rfl⟩
  · rintro _ M' ⟨here, j3, j4, rfl, rfl, h⟩
    rw [atL_nil] at h
    simp [h]
  · rintro s l _ M' ⟨here, j3, j4, rfl, rfl, h⟩
    rw [atL_cons] at h
    simp
    split
    · rename_i c
      rw [if_pos c] at h
      exact ⟨_, _, _, rfl, rfl, h⟩
    · rename_i c
      rw [if_neg c] at h
      exact ⟨_, _, _, rfl, rfl, h⟩
theorem lies_at_run [HasF T "lies_in" F_lies_in] [HasF T "reach_at" F_reach_at] [i : HasF T "lies_at" F_lies_at] (n : Nat) (p : Plot) (d t : Int) (M : Mem) : run T (n + 2) "lies_at" [encP p, .int d, .int t] M = .ok (.d (.bl (spot p d t))) M := by
  rw [run_has i, ← Res.wp_eq]
  refine wp_run rfl ?_
  simp [F_lies_at, b_lies_at]
  rw [reach_at_run]
  simp
  rw [lies_in_run]
  simp [spot]
theorem turns_of_run [i : HasF T "turns_of" F_turns_of] (n : Nat) (p : Plot) (hl : p.2.length ≤ lim) (M : Mem) : run T (n + 1) "turns_of" [encP p] M = .ok (.o (.lst ((turnsOf p).map D.int))) M := by
  rw [run_has i, ← Res.wp_eq]
  refine wp_run rfl ?_
  simp [F_turns_of, b_turns_of]
  rw [compL_all encS rfl (fun s => D.int s.1) (fun s => by simp [← Res.wp_eq]) p.2 hl]
  have e : (p.2.map fun s => D.int s.1) = (turnsOf p).map D.int := by simp [turnsOf]
  rw [e]
  simp
/-- all edges of some steps -/
def edgesL (ss : List Step) : List Int := ss.flatMap fun s => s.2.2
def daysOf (p : Plot) : List Int := ss (p.1.2 ++ edgesL p.2)
def edgeCount (p : Plot) : Nat := (p.1.2 ++ edgesL p.2).length
theorem days_of_run [i : HasF T "days_of" F_days_of] (n : Nat) (p : Plot) (hl : edgeCount p < 4000) (M : Mem) : run T (n + 1) "days_of" [encP p] M = .ok (.o (.lst ((daysOf p).map D.int))) M := by
  have hlim := lim_big
  rw [run_has i, ← Res.wp_eq]
  refine wp_run rfl ?_
  simp [F_days_of, b_days_of]
  refine forL_wp encS (fun l env M' => ∃ (acc : List Int) (h : Nat) (l2 : Mem) (j2 j3 : Option D), env = [some (encP p), some (.hdl (M.length + h)), j2, j3] ∧ M' = M ++ l2 ∧ l2[h]? = some (.lst (acc.map D.int)) ∧ acc ++ edgesL l = p.1.2 ++ edgesL p.2) ?_ ?_ _ _ _ ⟨p.1.2, 0, _, _, _, rfl, rfl, rfl, rfl⟩
  · rintro _ _ ⟨acc, h, l2, j2, j3, rfl, rfl, h1, h2⟩
    simp only [edgesL, List.flatMap_nil, List.append_nil] at h2
    unfold edgeCount at hl
    have h3 : acc = p.1.2 ++ edgesL p.2 := h2
    rw [← h3] at hl
    simp
    rw [bSortedSet_of (l := acc) (by simp [h1]) hl]
    simp [daysOf, ← h3]
    rfl
  · rintro s l _ _ ⟨acc, h, l2, j2, j3, rfl, rfl, h1, h2⟩
    have hle : acc.length + s.2.2.length ≤ edgeCount p := by
      unfold edgeCount
      rw [← h2]; simp [edgesL]
    have hle2 : acc.length + s.2.2.length ≤ lim := by omega
    simp [h1, hle2]
    refine ⟨acc ++ s.2.2, l2.length, l2 ++ [.lst ((acc ++ s.2.2).map D.int)], _, _, by simp; exact ⟨rfl, rfl⟩, by simp, by simp, ?_⟩
    rw [← h2]; simp [edgesL]
end
end HW
end
section
set_option linter.all false
set_option autoImplicit false
/-! MJ18: the laws' own defs: plots drawn -/
namespace HW
open MI PySem
def stir (cell by_ : Int) : Int := ((cell % 2147483647 + 1) * by_ % 2147483647) * ((cell % 2147483647 + 1) * by_ % 2147483647) % 2147483629
theorem stir_nn (c b : Int) : 0 ≤ stir c b := Int.emod_nonneg _ (by decide)
theorem stir_lt (c b : Int) : stir c b < 2147483629 := Int.emod_lt_of_pos _ (by decide)
/-- divided by three so many times -/
def third (s : Int) : Nat → Int
  | 0 => s
  | k + 1 => third s k / 3
def line (spread low : Int) : List Int := (List.range 6).map fun k : Nat => low + ((k : Int) - 2) * spread
def lawReach (cell by_ spread low : Int) : Reach := (decide (stir cell by_ % 2 = 1), ((List.range 6).filter fun k => decide (third (stir cell by_) (k + 1) % 3 = 0)).map fun k : Nat => low + ((k : Int) - 2) * spread)
theorem lawReach_sub (cell by_ spread low : Int) : Sub (line spread low) (lawReach cell by_ spread low) := fun e he => by
  obtain ⟨k, hk, rfl⟩ := List.mem_map.mp he
  exact List.mem_map.mpr ⟨k, (List.mem_filter.mp hk).1, rfl⟩
theorem line_rising {spread : Int} (h : 0 < spread) (low : Int) (p : Nat → Bool) : Rising (((List.range 6).filter p).map fun k : Nat => low + ((k : Int) - 2) * spread) := by
  unfold Rising
  rw [List.pairwise_map]
  refine List.Pairwise.imp (R := fun a b => a < b) (fun {a b} hab => ?_) (List.Pairwise.filter _ List.pairwise_lt_range)
  have := Int.mul_lt_mul_of_pos_right (show (a : Int) - 2 < (b : Int) - 2 by omega) h
  omega
theorem lawReach_rising {spread : Int} (h : 0 < spread) (cell by_ low : Int) : Rising (lawReach cell by_ spread low).2 := line_rising h low _
def lastR (g : Reach) (acc : List Step) : Reach := match acc.getLast? with
  | some s => s.2
  | none => g
theorem lastR_snoc (g : Reach) (acc : List Step) (s : Step) : lastR g (acc ++ [s]) = s.2 := by simp [lastR]
theorem alt_snoc : ∀ (g : Reach) (acc : List Step) (s : Step), Alt g acc → s.2 ≠ lastR g acc → Alt g (acc ++ [s])
  | g, [], s, _, h => ⟨h, trivial⟩
  | g, x :: acc, s, ha, h => by
    refine ⟨ha.1, alt_snoc x.2 acc s ha.2 ?_⟩
    unfold lastR at h ⊢
    cases acc with
    | nil => simpa using h
    | cons y r =>
      rw [List.getLast?_cons_cons] at h
      cases e : (y :: r).getLast? with
      | none => simp at e
      | some z => simpa [e] using h
@[simp] theorem pickSlice {ns : List Int} (lo hi : Option Int) : cut (ns.map D.int) lo hi = (cut ns lo hi).map D.int := by
  unfold cut; simp [List.map_drop, List.map_take]
section
variable {T : Tab}
theorem law_cell_run [i : HasF T "_law_cell" F__law_cell] (n : Nat) (ns : List Int) (k : Nat) (M : Mem) : run T (n + 1) "_law_cell" [scr ns, .int (k : Int)] M = .ok (.d (.int (ns.getD k 0))) M := by
  rw [run_has i, ← Res.wp_eq]
  refine wp_run rfl ?_
  simp [F__law_cell, b__law_cell]
  split
  · rename_i h
    rw [oIx_seq (ds := ns.map D.int) (k := k) (d := .int ns[k]) rfl (by rw [ixN_pos (by omega) (by simp; omega)]; simp) (by rw [List.getElem?_map, List.getElem?_eq_getElem h]; rfl)]
    simp [List.getElem?_eq_getElem h]
  · rename_i h
    simp [List.getElem?_eq_none (show ns.length ≤ k by omega)]
theorem law_stir_run [i : HasF T "_law_stir" F__law_stir] (n : Nat) (c b : Int) (M : Mem) : run T (n + 1) "_law_stir" [.int c, .int b] M = .ok (.d (.int (stir c b))) M := by
  rw [run_has i, ← Res.wp_eq]
  refine wp_run rfl ?_
  have h0 := Int.emod_nonneg c (show (2147483647 : Int) ≠ 0 by decide)
  have h1 := Int.emod_lt_of_pos c (show (0 : Int) < 2147483647 by decide)
  have h2 := Int.emod_nonneg ((c % 2147483647 + 1) * b) (show (2147483647 : Int) ≠ 0 by decide)
  have h3 := Int.emod_lt_of_pos ((c % 2147483647 + 1) * b) (show (0 : Int) < 2147483647 by decide)
  simp [F__law_stir, b__law_stir, stir]
  refine ⟨.inl ⟨by omega, by omega⟩, by omega, by omega⟩
theorem law_reach_run9 [HasF T "_law_stir" F__law_stir] [i : HasF T "_law_reach" F__law_reach_k09] (n : Nat) (c b spread low : Int) (M : Mem) : run T (n + 2) "_law_reach" [.int c, .int b, .int spread, .int low] M = .ok (.d (encR (lawReach c b spread low))) M := by
  have hlim := lim_big
  rw [run_has i, ← Res.wp_eq]
  refine wp_run rfl ?_
  simp [F__law_reach_k09, b__law_reach_k09]
  rw [law_stir_run]
  simp
  refine forL_range (fun j env M' => ∃ (jj : Option D), env = [some (.int c), some (.int b), some (.int spread), some (.int low), some (.int (third (stir c b) j)), some (.hdl M.length), jj] ∧
    M' = M ++ [.lst ((((List.range j).filter fun k => decide (third (stir c b) (k + 1) % 3 = 0)).map fun k : Nat => low + ((k : Int) - 2) * spread).map D.int)]) ?_ ?_ _ _ ⟨_, rfl, rfl⟩
  · rintro _ M' ⟨jj, rfl, rfl⟩
    simp
    rw [law_stir_run]
    simp [lawReach, encR]
    exact bels_mapT _ _ fun _ => rfl
  · rintro j _ M' hj ⟨jj, rfl, rfl⟩
    have hacc : (((List.range j).filter fun k => decide (third (stir c b) (k + 1) % 3 = 0))).length < lim := by
      have := List.length_filter_le (fun k => decide (third (stir c b) (k + 1) % 3 = 0)) (List.range j)
      simp only [List.length_range] at this; omega
    simp
    split
    · rename_i h
      simp [hacc]
      refine ⟨.inl ⟨by omega, by omega⟩, _, rfl, ?_⟩
      have h' : third (stir c b) (j + 1) % 3 = 0 := h
      rw [List.range_succ, List.filter_append, List.filter_cons_of_pos (by simpa using h')]
      simp
    · rename_i h
      refine ⟨_, rfl, ?_⟩
      have h' : ¬ third (stir c b) (j + 1) % 3 = 0 := h
      rw [List.range_succ, List.filter_append, List.filter_cons_of_neg (by simpa using h')]
      simp
theorem law_scale_ex [i : HasF T "_law_scale" F__law_scale] (c : Int) : ∃ spread low : Int, 0 < spread ∧ spread ≤ 10 ^ 50 ∧ -10 ^ 50 ≤ low ∧ low ≤ 10 ^ 50 ∧ ∀ n M, run T (n + 1) "_law_scale" [.int c] M = .ok (.d (.tup [.int spread, .int low])) M := by
  have m0 := Int.emod_nonneg c (show (10 ^ 50 : Int) ≠ 0 by decide)
  have m1 := Int.emod_lt_of_pos c (show (0 : Int) < 10 ^ 50 by decide)
  obtain ⟨d, ⟨spread, h1, h2, rfl⟩, e1⟩ := oIx_litO (ds := [.int 1, .int 1, .int 2, .int (10 ^ 50)]) (i := c % 4) (P := fun d => ∃ m : Int, 0 < m ∧ m ≤ 10 ^ 50 ∧ d = .int m) (Int.emod_nonneg _ (by decide)) (Int.emod_lt_of_pos _ (by decide))
    (by simp only [List.forall_mem_cons]; exact ⟨⟨1, by decide, by decide, rfl⟩, ⟨1, by decide, by decide, rfl⟩, ⟨2, by decide, by decide, rfl⟩, ⟨10 ^ 50, by decide, by decide, rfl⟩, fun _ h => nomatch h⟩)
  obtain ⟨d, ⟨low, h3, h4, rfl⟩, e2⟩ := oIx_litO (ds := [.int 0, .int 0, .int (c % 10 ^ 50), .int (-(c % 10 ^ 50))]) (i := c / 4 % 4) (P := fun d => ∃ m : Int, -10 ^ 50 ≤ m ∧ m ≤ 10 ^ 50 ∧ d = .int m) (Int.emod_nonneg _ (by decide)) (Int.emod_lt_of_pos _ (by decide))
    (by simp only [List.forall_mem_cons]; exact ⟨⟨0, by decide, by decide, rfl⟩, ⟨0, by decide, by decide, rfl⟩, ⟨_, by omega, by omega, rfl⟩, ⟨_, by omega, by omega, rfl⟩, fun _ h => nomatch h⟩)
  refine ⟨spread, low, h1, h2, h3, h4, fun n M => ?_⟩
  rw [run_has i, ← Res.wp_eq]
  refine wp_run rfl ?_
  have l4 : (4 : Nat) ≤ lim := by decide
  have l2 : (2 : Nat) ≤ lim := by decide
  simp at e1 e2
  simp [F__law_scale, b__law_scale, l4, l2, e1, e2]
theorem law_plot_ex [HasF T "_law_stir" F__law_stir] [HasF T "_law_reach" F__law_reach_k09] [i : HasF T "_law_plot" F__law_plot_k09] (n : Nat) (cells : List Int) (h : Nat) (b spread low : Int) (hs : 0 < spread) (hl : cells.length ≤ 100) (M : Mem) (hM : M[h]? = some (.lst (cells.map D.int))) :
    ∃ p : Plot, POk p ∧ PSub (line spread low) p ∧ p.2.length ≤ cells.length ∧ run T (n + 3) "_law_plot" [.hdl h, .int b, .int spread, .int low] M = .ok (.d (encP p)) M := by
  have : (run T (n + 3) "_law_plot" [.hdl h, .int b, .int spread, .int low] M).wp fun x M' => Kp (M' = M ∧ ∃ p : Plot, POk p ∧ PSub (line spread low) p ∧ p.2.length ≤ cells.length ∧ x = .d (encP p)) := by
    have hlim := lim_big
    have hM2 : ∀ l : Mem, (M ++ l)[h]? = some (.lst (cells.map D.int)) := fun l => get_ahead hM
    rw [run_has i]
    refine wp_run rfl ?_
    simp [F__law_plot_k09, b__law_plot_k09, hM2, hM]
    rw [cut_to _ (by decide)]
    have key : ∀ last : Reach, Rising last.2 → Sub (line spread low) last → ∀ (j5 : Option D), (sSeq (sSet 6 (eVar 4)) (sSeq (sSet 7 (eLst dNil)) (sSeq (sSet 8 (MI.e2 oMul (e1 oNeg (eC (.int 3))) (eVar 2))) (sSeq (sFor (.nm 5) (iSeq (eVar 0)) (sSeq (sSet 8 (MI.e2 oAdd (eVar 8) (MI.e2 oMul (MI.e2 oAdd (eC (.int 1)) (MI.e2 oMod (MI.e2 oDiv (eCall "_law_stir" (dCons (eVar 5) (dCons (MI.e2 oAdd (eVar 1) (eC (.int 2))) dNil))) (eC (.int 7))) (eC (.int 3)))) (eVar 2)))) (sSeq (sSet 9 (eCall "_law_reach" (dCons (eVar 5) (dCons (eVar 1) (dCons (eVar 2) (dCons (eVar 3) dNil)))))) (sSeq (sIf (tB (MI.e2 oNe (eVar 9) (eVar 4))) (sExpr (eM1 mAppend (eVar 7) (eTup (dCons (eVar 8) (dCons (eVar 9) dNil))))) sNil) (sSet 4 (eVar 9)))))) (sRet (eTup (dCons (eVar 6) (dCons (e1 bTuple (eVar 7)) dNil))))))) (run T (n + 2))
        [some (.hdl h), some (.int b), some (.int spread), some (.int low), some (encR last), j5, none, none, none, none] M).wp (fun x M' => (fin .pure M (.d .non) M').wp fun x M' => Kp (M' = M ∧ ∃ p : Plot, POk p ∧ PSub (line spread low) p ∧ p.2.length ≤ cells.length ∧ x = .d (encP p))) (fun x M' => (fin .pure M x M').wp fun x M' => Kp (M' = M ∧ ∃ p : Plot, POk p ∧ PSub (line spread low) p ∧ p.2.length ≤ cells.length ∧ x = .d (encP p))) := by
      intro g hg hgs j5
      simp [hM, hM2]
      refine forL_wp D.int (fun l env M' => ∃ (acc : List Step) (turn : Int) (j5 j9 : Option D), env = [some (.hdl h), some (.int b), some (.int spread), some (.int low), some (encR (lastR g acc)), j5, some (encR g), some (.hdl M.length), some (.int turn), j9] ∧ M' = M ++ [.lst (acc.map encS)] ∧
        Rising (acc.map (·.1)) ∧ (∀ s ∈ acc, s.1 ≤ turn) ∧ (∀ s ∈ acc, Rising s.2.2) ∧ (∀ s ∈ acc, Sub (line spread low) s.2) ∧ Alt g acc ∧ acc.length + l.length ≤ cells.length) ?_ ?_ _ _ _ ⟨[], _, _, _, rfl, rfl, .nil, by simp, by simp, by simp, trivial, by simp⟩
      · rintro _ _ ⟨acc, turn, j5, j9, rfl, rfl, h1, h2, h3, h4, h5, h6⟩
        simp [hM2]
        exact ⟨rfl, (g, acc), ⟨hg, h1, h3, h5⟩, ⟨hgs, h4⟩, by simpa using h6, rfl⟩
      · rintro c l _ _ ⟨acc, turn, j5, j9, rfl, rfl, h1, h2, h3, h4, h5, h6⟩
        simp only [List.length_cons] at h6
        simp [hM2]
        rw [law_stir_run]
        have s0 := stir_nn c (b + 2)
        have s1 := Int.emod_nonneg (stir c (b + 2) / 7) (show (3 : Int) ≠ 0 by decide)
        have s2 := Int.emod_lt_of_pos (stir c (b + 2) / 7) (show (0 : Int) < 3 by decide)
        simp
        refine ⟨.inl ⟨by omega, by omega⟩, ?_⟩
        rw [law_reach_run9]
        simp
        have hpos : 0 < (1 + stir c (b + 2) / 7 % 3) * spread := Int.mul_pos (by omega) hs
        have hacc : acc.length < lim := by omega
        have l2 : (2 : Nat) ≤ lim := by omega
        split
        · rename_i hr
          refine ⟨acc, _, _, _, by rw [← hr]; rfl, rfl, h1, fun s hs' => by have := h2 s hs'; omega, h3, h4, h5, by omega⟩
        · rename_i hr
          simp [hacc, l2]
          refine ⟨acc ++ [(turn + (1 + stir c (b + 2) / 7 % 3) * spread, lawReach c b spread low)], _, _, _, by rw [lastR_snoc]; rfl, by simp [encS], ?_, ?_, ?_, ?_, alt_snoc _ _ _ h5 hr, by simp; omega⟩
          · rw [List.map_append]
            refine Rising.snoc h1 fun x hx => ?_
            obtain ⟨s, hs', rfl⟩ := List.mem_map.mp hx
            have := h2 s hs'
            show s.1 < turn + (1 + stir c (b + 2) / 7 % 3) * spread
            omega
          · intro s hs'
            rcases List.mem_append.mp hs' with q | q
            · have := h2 s q; omega
            · rw [List.mem_singleton.mp q]; exact Int.le_refl _
          · intro s hs'
            rcases List.mem_append.mp hs' with q | q
            · exact h3 s q
            · rw [List.mem_singleton.mp q]; exact lawReach_rising hs _ _ _
          · intro s hs'
            rcases List.mem_append.mp hs' with q | q
            · exact h4 s q
            · rw [List.mem_singleton.mp q]; exact lawReach_sub _ _ _ _
    refine forL_wp D.int (fun l env M' => ∃ (last : Reach) (j5 : Option D), env = [some (.hdl h), some (.int b), some (.int spread), some (.int low), some (encR last), j5, none, none, none, none] ∧ M' = M ∧ Rising last.2 ∧ Sub (line spread low) last) ?_ ?_ _ _ _ ⟨(false, []), _, rfl, rfl, .nil, fun e he => nomatch he⟩
    · rintro _ M' ⟨last, j5, rfl, rfl, h1, h2⟩
      have := key last h1 h2 j5
      simpa [hM, hM2] using this
    · rintro c l _ M' ⟨last, j5, rfl, rfl, h1, h2⟩
      simp
      rw [law_stir_run]
      simp
      split
      · rw [law_reach_run9]
        simp
        exact ⟨_, _, rfl, rfl, lawReach_rising hs _ _ _, lawReach_sub _ _ _ _⟩
      · exact ⟨_, _, rfl, rfl, h1, h2⟩
  obtain ⟨x, M', e, rfl, p, h1, h2, h3, rfl⟩ := Res.wp_ex this
  exact ⟨p, h1, h2, h3, e⟩
end
end HW
end
section
set_option linter.all false
set_option autoImplicit false
/-! MJ19: the laws' own defs: points beside, plots looked over -/
namespace MI
section
variable {M : Mem}
@[simp] theorem bMax1_hdl (n : Nat) : bMax1 (.d (.hdl n)) M = match M[n]? with
    | some (.lst ds) => match asInts ds with
      | some (n :: ns) => .ok (.d (.int (maxL n ns))) M
      | _ => .bad
    | _ => .bad := by
  unfold bMax1; rw [lstOf_hdl]; cases M[n]? with
  | none => rfl
  | some o => cases o <;> rfl
@[simp] theorem bMin1_hdl (n : Nat) : bMin1 (.d (.hdl n)) M = match M[n]? with
    | some (.lst ds) => match asInts ds with
      | some (n :: ns) => .ok (.d (.int (minL n ns))) M
      | _ => .bad
    | _ => .bad := by
  unfold bMin1; rw [lstOf_hdl]; cases M[n]? with
  | none => rfl
  | some o => cases o <;> rfl
end
end MI
namespace HW
open MI PySem
section
variable {T : Tab}
theorem law_in_run9 [i : HasF T "_law_in" F__law_in_k09] (n : Nat) (r : Reach) (k : Int) (M : Mem) (hl : r.2.length ≤ lim) : run T (n + 1) "_law_in" [encR r, .int k] M = .ok (.d (.bl (liesIn r k))) M := by
  rw [run_has i, ← Res.wp_eq]
  refine wp_run rfl ?_
  simp [F__law_in_k09, b__law_in_k09]
  rw [compL_map D.int rfl (fun e => decide (e ≤ k)) D.int (fun a => by simp [← Res.wp_eq]) r.2 [] (by simpa using hl)]
  simp
  rw [show r = (r.1, r.2) from rfl, liesIn_count]
  have e : ((r.2.filter fun e => decide (e ≤ k)).length : Int) % 2 = 1 ↔ (r.2.filter fun e => decide (e ≤ k)).length % 2 = 1 := by omega
  by_cases c : (r.2.filter fun e => decide (e ≤ k)).length % 2 = 1
  · simp [c, e.mpr c]
  · have c' : ¬ ((r.2.filter fun e => decide (e ≤ k)).length : Int) % 2 = 1 := fun z => c (e.mp z)
    rw [decide_eq_false c', decide_eq_false c]
theorem law_beside_exL [i : HasF T "_law_beside" F__law_beside] (n : Nat) (ns : List Int) (h : Nat) (hl : ns.length ≤ 1900) (M : Mem) (hM : M[h]? = some (.lst (ns.map D.int))) :
    ∃ ps : List Int, ps.length ≤ 4000 ∧ run T (n + 1) "_law_beside" [.hdl h] M = .ok (.o (.lst (ps.map D.int))) M := by
  have : (run T (n + 1) "_law_beside" [.hdl h] M).wp fun x M' => Kp (M' = M ∧ ∃ ps : List Int, ps.length ≤ 4000 ∧ x = .o (.lst (ps.map D.int))) := by
    have hlim := lim_big
    have hM2 : ∀ l : Mem, (M ++ l)[h]? = some (.lst (ns.map D.int)) := fun l => get_ahead hM
    rw [run_has i]
    refine wp_run rfl ?_
    simp [F__law_beside, b__law_beside, hM2, show (1 : Nat) ≤ lim by omega]
    refine forL_wp D.int (fun l env M' => ∃ (acc : List Int) (k : Nat) (l2 : Mem) (j : Option D), env = [some (.hdl h), some (.hdl (M.length + k)), j] ∧ M' = M ++ l2 ∧ l2[k]? = some (.lst (acc.map D.int)) ∧ acc ≠ [] ∧ acc.length + 2 * l.length ≤ 3900) ?_ ?_ _ _ _ ⟨[0], 0, _, _, rfl, rfl, rfl, by simp, by simp; omega⟩
    · rintro _ _ ⟨acc, k, l2, j, rfl, rfl, h1, h2, h3⟩
      simp at h3
      obtain ⟨a, r, rfl⟩ := List.exists_cons_of_ne_nil h2
      simp at h3
      have l2' : r.length + 1 + 1 + 1 ≤ lim := by omega
      have l3 : r.length + 1 + 1 + 1 < 4000 := by omega
      have hm : asInts (D.int a :: r.map D.int) = some (a :: r) := asInts_map (a :: r)
      simp [hM2, h1, hm, show (2 : Nat) ≤ lim by omega, l2']
      have hm2 := asInts_map (a :: (r ++ [minL a r - 10 ^ 55, maxL a r + 10 ^ 55]))
      simp at hm2
      simp [hm2, show r.length + 1 + 1 + 1 < 4000 by omega]
      exact ⟨rfl, ss (a :: (r ++ [minL a r - 10 ^ 55, maxL a r + 10 ^ 55])), Nat.le_trans (ss_len _) (by simp; omega), rfl⟩
    · rintro e l _ _ ⟨acc, k, l2, j, rfl, rfl, h1, h2, h3⟩
      simp only [List.length_cons] at h3
      have l2' : acc.length + 2 ≤ lim := by omega
      simp [hM2, h1, show (2 : Nat) ≤ lim by omega, l2']
      refine ⟨acc ++ [e - 1, e], l2.length, l2 ++ [.lst ((acc ++ [e - 1, e]).map D.int)], _, by simp; rfl, by simp, by simp, by simp, by simp; omega⟩
  obtain ⟨x, M', e, rfl, ps, hps, rfl⟩ := Res.wp_ex this
  exact ⟨ps, hps, e⟩
theorem law_beside_ex [i : HasF T "_law_beside" F__law_beside] (n : Nat) (ns : List Int) (h : Nat) (hl : ns.length ≤ 1900) (M : Mem) (hM : M[h]? = some (.lst (ns.map D.int))) :
    ∃ ps : List Int, run T (n + 1) "_law_beside" [.hdl h] M = .ok (.o (.lst (ps.map D.int))) M :=
  let ⟨ps, _, e⟩ := law_beside_exL (T := T) n ns h hl M hM
  ⟨ps, e⟩
theorem law_turns_exL [HasF T "_law_beside" F__law_beside] [i : HasF T "_law_turns" F__law_turns] (n : Nat) (pl : List Plot) (h : Nat) (hl : pl.length ≤ 2) (hp : ∀ p ∈ pl, p.2.length ≤ 300) (M : Mem) (hM : M[h]? = some (.lst (pl.map encP))) :
    ∃ ps : List Int, ps.length ≤ 4000 ∧ run T (n + 2) "_law_turns" [.hdl h] M = .ok (.o (.lst (ps.map D.int))) M := by
  have : (run T (n + 2) "_law_turns" [.hdl h] M).wp fun x M' => Kp (M' = M ∧ ∃ ps : List Int, ps.length ≤ 4000 ∧ x = .o (.lst (ps.map D.int))) := by
    have hlim := lim_big
    have hM2 : ∀ l : Mem, (M ++ l)[h]? = some (.lst (pl.map encP)) := fun l => get_ahead hM
    rw [run_has i]
    refine wp_run rfl ?_
    simp [F__law_turns, b__law_turns, hM2]
    refine forL_wp encP (fun l env M' => ∃ (acc : List Int) (k : Nat) (l2 : Mem) (j j3 : Option D), env = [some (.hdl h), some (.hdl (M.length + k)), j, j3] ∧ M' = M ++ l2 ∧ l2[k]? = some (.lst (acc.map D.int)) ∧ acc.length + 300 * l.length ≤ 1800 ∧ ∀ p ∈ l, p.2.length ≤ 300) ?_ ?_ _ _ _ ⟨[], 0, _, _, _, rfl, rfl, rfl, by simp; omega, hp⟩
    · rintro _ _ ⟨acc, k, l2, j, j3, rfl, rfl, h1, h2, _⟩
      simp at h2
      simp [hM2]
      rw [bSortedSet_of (l := acc) (by simp [h1]) (by omega)]
      simp
      obtain ⟨ps, hpl, hps⟩ := law_beside_exL (T := T) n (ss acc) (M ++ l2).length (by have := ss_len acc; omega) ((M ++ l2) ++ [.lst ((ss acc).map D.int)]) (by simp)
      simp [ss] at hps
      rw [hps]
      simp
      exact ⟨rfl, ps, hpl, rfl⟩
    · rintro p l _ _ ⟨acc, k, l2, j, j3, rfl, rfl, h1, h2, h3⟩
      simp only [List.length_cons] at h2
      have hpl := h3 p List.mem_cons_self
      have h3' : ∀ x ∈ l, x.2.length ≤ 300 := fun x hx => h3 x (List.mem_cons_of_mem _ hx)
      simp [hM2, h1]
      rw [compL_all encS rfl (fun s => D.int s.1) (fun s => by simp [← Res.wp_eq]) p.2 (by omega)]
      have l2' : acc.length + p.2.length ≤ lim := by omega
      simp [h1, l2']
      refine ⟨acc ++ p.2.map (·.1), l2.length, l2 ++ [.lst ((acc ++ p.2.map (·.1)).map D.int)], _, _, by simp; exact ⟨rfl, rfl⟩, by simp, by simp, by simp; omega, h3'⟩
  obtain ⟨x, M', e, rfl, ps, hps, rfl⟩ := Res.wp_ex this
  exact ⟨ps, hps, e⟩
theorem law_turns_ex [HasF T "_law_beside" F__law_beside] [i : HasF T "_law_turns" F__law_turns] (n : Nat) (pl : List Plot) (h : Nat) (hl : pl.length ≤ 2) (hp : ∀ p ∈ pl, p.2.length ≤ 300) (M : Mem) (hM : M[h]? = some (.lst (pl.map encP))) :
    ∃ ps : List Int, run T (n + 2) "_law_turns" [.hdl h] M = .ok (.o (.lst (ps.map D.int))) M :=
  let ⟨ps, _, e⟩ := law_turns_exL (T := T) n pl h hl hp M hM
  ⟨ps, e⟩
theorem law_days_exL [HasF T "_law_beside" F__law_beside] [i : HasF T "_law_days" F__law_days] (n : Nat) (pl : List Plot) (h : Nat) (hl : pl.length ≤ 2) (hp : ∀ p ∈ pl, edgeCount p ≤ 900) (M : Mem) (hM : M[h]? = some (.lst (pl.map encP))) :
    ∃ ps : List Int, ps.length ≤ 4000 ∧ run T (n + 2) "_law_days" [.hdl h] M = .ok (.o (.lst (ps.map D.int))) M := by
  have : (run T (n + 2) "_law_days" [.hdl h] M).wp fun x M' => Kp (M' = M ∧ ∃ ps : List Int, ps.length ≤ 4000 ∧ x = .o (.lst (ps.map D.int))) := by
    have hlim := lim_big
    have hM2 : ∀ l : Mem, (M ++ l)[h]? = some (.lst (pl.map encP)) := fun l => get_ahead hM
    rw [run_has i]
    refine wp_run rfl ?_
    simp [F__law_days, b__law_days, hM2]
    refine forL_wp encP (fun l env M' => ∃ (acc : List Int) (k : Nat) (l2 : Mem) (j j3 j4 : Option D), env = [some (.hdl h), some (.hdl (M.length + k)), j, j3, j4] ∧ M' = M ++ l2 ∧ l2[k]? = some (.lst (acc.map D.int)) ∧ acc.length + 900 * l.length ≤ 1800 ∧ ∀ p ∈ l, edgeCount p ≤ 900) ?_ ?_ _ _ _ ⟨[], 0, _, _, _, _, rfl, rfl, rfl, by simp; omega, hp⟩
    · rintro _ _ ⟨acc, k, l2, j, j3, j4, rfl, rfl, h1, h2, _⟩
      simp at h2
      simp [hM2]
      rw [bSortedSet_of (l := acc) (by simp [h1]) (by omega)]
      simp
      obtain ⟨ps, hpl, hps⟩ := law_beside_exL (T := T) n (ss acc) (M ++ l2).length (by have := ss_len acc; omega) ((M ++ l2) ++ [.lst ((ss acc).map D.int)]) (by simp)
      simp [ss] at hps
      rw [hps]
      simp
      exact ⟨rfl, ps, hpl, rfl⟩
    · rintro p l _ _ ⟨acc, k, l2, j, j3, j4, rfl, rfl, h1, h2, h3⟩
      simp only [List.length_cons] at h2
      have hpl := h3 p List.mem_cons_self
      have h3' : ∀ x ∈ l, edgeCount x ≤ 900 := fun x hx => h3 x (List.mem_cons_of_mem _ hx)
      have hg : p.1.2.length ≤ edgeCount p := by unfold edgeCount; simp
      have l2' : acc.length + p.1.2.length ≤ lim := by omega
      simp [hM2, h1, l2']
      refine forL_wp encS (fun ls env M' => ∃ (acc2 : List Int) (k : Nat) (l2 : Mem) (j3 j4 : Option D), env = [some (.hdl h), some (.hdl (M.length + k)), some (encP p), j3, j4] ∧ M' = M ++ l2 ∧ l2[k]? = some (.lst (acc2.map D.int)) ∧ acc2.length + (edgesL ls).length ≤ acc.length + edgeCount p) ?_ ?_ _ _ _ ⟨acc ++ p.1.2, l2.length, l2 ++ [.lst ((acc ++ p.1.2).map D.int)], _, _, by simp; exact ⟨rfl, rfl⟩, by simp, by simp, by simp [edgeCount]; omega⟩
      · rintro _ _ ⟨acc2, k, l2, j3, j4, rfl, rfl, h4, h5⟩
        simp [edgesL] at h5
        simp [hM2]
        exact ⟨acc2, k, l2, _, _, _, rfl, rfl, h4, by omega, h3'⟩
      · rintro s ls _ _ ⟨acc2, k, l2, j3, j4, rfl, rfl, h4, h5⟩
        simp [edgesL] at h5
        have l3 : acc2.length + s.2.2.length ≤ lim := by omega
        simp [h4, l3]
        refine ⟨acc2 ++ s.2.2, l2.length, l2 ++ [.lst ((acc2 ++ s.2.2).map D.int)], _, _, by simp; exact ⟨rfl, rfl⟩, by simp, by simp, by simp [edgesL]; omega⟩
  obtain ⟨x, M', e, rfl, ps, hps, rfl⟩ := Res.wp_ex this
  exact ⟨ps, hps, e⟩
theorem law_days_ex [HasF T "_law_beside" F__law_beside] [i : HasF T "_law_days" F__law_days] (n : Nat) (pl : List Plot) (h : Nat) (hl : pl.length ≤ 2) (hp : ∀ p ∈ pl, edgeCount p ≤ 900) (M : Mem) (hM : M[h]? = some (.lst (pl.map encP))) :
    ∃ ps : List Int, run T (n + 2) "_law_days" [.hdl h] M = .ok (.o (.lst (ps.map D.int))) M :=
  let ⟨ps, _, e⟩ := law_days_exL (T := T) n pl h hl hp M hM
  ⟨ps, e⟩
end
end HW
end
section
set_option linter.all false
set_option autoImplicit false
/-! MJ20: things looked over: reaches, plots -/
namespace HW
open MI PySem
def wholeD : D → Bool
  | .int _ => true
  | _ => false
section
variable {T : Tab}
theorem law_whole_runD [i : HasF T "_law_whole" F__law_whole] (n : Nat) (d : D) (M : Mem) (h : kOk M d) : run T (n + 1) "_law_whole" [d] M = .ok (.d (.bl (wholeD d))) M := by
  rw [run_has i, ← Res.wp_eq]
  refine wp_run rfl ?_
  simp [F__law_whole, b__law_whole]
  rw [bIsi_k _ (.inr (.inr rfl)) h]
  cases d with
  | int v => simp [tyB, wholeD]
  | bl v => simp [tyB, wholeD]
  | _ => simp [tyB, wholeD]
theorem rdD_int {o : Option Int} {v : Int} {r : List D} (h : ∀ j, o = some j → ¬ v ≤ j) : rdD o (.int v :: r) = rdD (some v) r := by
  cases o with
  | none => rfl
  | some j => simp [rdD, h j rfl]
theorem law_is_reach_run [HasF T "_law_whole" F__law_whole] [i : HasF T "_law_is_reach" F__law_is_reach_k09] (n : Nat) (d : D) (M : Mem) (h : kOk2 M d) (hl : ∀ a es, d = .tup [a, .tup es] → es.length ≤ 1000000) : run T (n + 2) "_law_is_reach" [d] M = .ok (.d (.bl (isReachD d))) M := by
  obtain ⟨h0, h1, h2⟩ := h
  rw [run_has i, ← Res.wp_eq]
  refine wp_run rfl ?_
  simp [F__law_is_reach_k09, b__law_is_reach_k09]
  rw [bIsi_k _ (.inl rfl) h0]
  cases d with
  | tup ds =>
    rcases ds with _ | ⟨a, _ | ⟨b, _ | ⟨c, r⟩⟩⟩
    · simp [tyB, isReachD]
    · simp [tyB, isReachD]
    · obtain ⟨ha, hb⟩ := h1 a b rfl
      simp [tyB]
      rw [bIsi_k _ (.inr (.inl rfl)) ha]
      cases a with
      | bl f =>
        simp [tyB]
        rw [bIsi_k _ (.inl rfl) hb]
        cases b with
        | tup es =>
          have he := h2 _ es rfl
          have hes := hl _ es rfl
          simp [tyB]
          refine ⟨by omega, ?_⟩
          refine forL_range (fun j env M' => M' = M ∧ ∃ (o : Option Int) (jj : Option D), env = [some (.tup [.bl f, .tup es]), jj] ∧ (j = 0 → o = none) ∧ (0 < j → ∃ v, es[j - 1]? = some (.int v) ∧ o = some v) ∧ rdD o (es.drop j) = rdD none es) ?_ ?_ _ _ ⟨rfl, none, _, rfl, fun _ => rfl, fun h => absurd h (Nat.lt_irrefl 0), rfl⟩
          · rintro _ M' ⟨hM', o, jj, rfl, h3, h4, h5⟩
            rw [List.drop_length] at h5
            have h' : true = rdD none es := by rw [← h5]; cases o <;> rfl
            simp [isReachD, ← h', hM']
          · rintro j _ M' hj ⟨hM', o, jj, rfl, h3, h4, h5⟩
            rw [hM']
            rw [List.drop_eq_getElem_cons hj] at h5
            have ex : oIx (.d (.tup es)) (.d (.int (j : Int))) M = .ok (.d es[j]) M := oIx_seq rfl (by rw [ixN_pos (by omega) (by omega)]; simp) (List.getElem?_eq_getElem hj)
            simp [ex]
            rw [law_whole_runD _ _ _ (he _ (List.getElem_mem hj))]
            cases ed : es[j] with
            | int v =>
              rw [ed] at h5 ex
              simp [wholeD]
              rcases Nat.eq_zero_or_pos j with hj0 | hj0
              · subst hj0
                rw [h3 rfl] at h5
                simp
                exact ⟨rfl, some v, _, rfl, by simp, fun _ => ⟨v, by simpa [List.getElem?_eq_getElem hj] using ed, rfl⟩, h5⟩
              · obtain ⟨w, hw1, hw2⟩ := h4 hj0
                subst hw2
                have ex2 : oIx (.d (.tup es)) (.d (.int ((j : Int) - 1))) M = .ok (.d (.int w)) M := oIx_seq rfl (by rw [ixN_pos (by omega) (by omega)]) (by rw [show ((j : Int) - 1).toNat = j - 1 by omega]; exact hw1)
                have hj0' : ¬ j = 0 := by omega
                by_cases c : v ≤ w
                · have h' : false = rdD none es := by rw [← h5]; simp [rdD, c]
                  simp [hj0, ex, ex2, c, isReachD, ← h']
                · simp [hj0, ex, ex2, c]
                  exact ⟨rfl, some v, _, rfl, by simp, fun _ => ⟨v, by simpa [List.getElem?_eq_getElem hj] using ed, rfl⟩, by rw [← h5, rdD_int fun j e => by cases e; exact c]⟩
            | _ =>
              rw [ed] at h5
              have h' : false = rdD none es := by rw [← h5]; cases o <;> rfl
              simp [wholeD, isReachD, ← h']
        | _ => simp [tyB, isReachD]
      | _ => simp [tyB, isReachD]
    · simp [tyB, isReachD]
      have : ¬ ((r.length : Int) + 1 + 1 + 1 = 2) := by omega
      simp [this]
  | _ => simp [tyB, isReachD]
theorem kOk2_R (r : Reach) (M : Mem) : kOk2 M (encR r) := by
  refine ⟨trivial, fun a b e => ?_, fun a es e => ?_⟩
  · simp only [encR, D.tup.injEq, List.cons.injEq, and_true] at e
    obtain ⟨rfl, rfl⟩ := e
    exact ⟨trivial, trivial⟩
  · simp only [encR, D.tup.injEq, List.cons.injEq, and_true] at e
    obtain ⟨_, rfl⟩ := e
    exact kOk_int
theorem law_is_reachR [HasF T "_law_whole" F__law_whole] [HasF T "_law_is_reach" F__law_is_reach_k09] (n : Nat) (r : Reach) (M : Mem) (h : Rising r.2) (hl : r.2.length ≤ 1000000) : run T (n + 2) "_law_is_reach" [encR r] M = .ok (.d (.bl true)) M := by
  rw [law_is_reach_run n _ _ (kOk2_R r M) (fun a es e => by
    simp only [encR, D.tup.injEq, List.cons.injEq, and_true] at e
    obtain ⟨_, rfl⟩ := e
    simpa using hl), isReach_R h]
theorem law_is_plotP [HasF T "_law_whole" F__law_whole] [HasF T "_law_is_reach" F__law_is_reach_k09] [i : HasF T "_law_is_plot" F__law_is_plot_k09] (n : Nat) (p : Plot) (M : Mem) (h : POk p) (hl : p.2.length ≤ 1000000) (hg : p.1.2.length ≤ 1000000) (hr : ∀ s ∈ p.2, s.2.2.length ≤ 1000000) :
    run T (n + 3) "_law_is_plot" [encP p] M = .ok (.d (.bl true)) M := by
  rw [run_has i, ← Res.wp_eq]
  refine wp_run rfl ?_
  simp [F__law_is_plot_k09, b__law_is_plot_k09]
  rw [law_is_reachR n p.1 M h.g hg]
  simp
  refine ⟨by omega, ?_⟩
  refine forL_range (fun j env M' => M' = M ∧ ∃ (last : Reach) (j2 j3 : Option D), env = [some (encP p), some (encR last), j2, j3] ∧ Alt last (p.2.drop j)) ?_ ?_ _ _ ⟨rfl, _, _, _, rfl, h.alt⟩
  · rintro _ M' ⟨hM', last, j2, j3, rfl, _⟩
    simp [hM']
  · rintro j _ M' hj ⟨hM', last, j2, j3, rfl, ha⟩
    rw [hM']
    have ex : oIx (.d (.tup (p.2.map encS))) (.d (.int (j : Int))) M = .ok (.d (encS p.2[j])) M := oIx_seq rfl (k := j) (by rw [ixN_pos (by omega) (by rw [List.length_map]; omega)]; simp) (by rw [List.getElem?_map, List.getElem?_eq_getElem hj]; rfl)
    simp [ex]
    rw [law_whole_runD _ (.int p.2[j].1) _ trivial]
    simp [wholeD]
    have hm := List.getElem_mem hj
    rw [law_is_reachR n _ M (h.rs _ hm) (hr _ hm)]
    rw [List.drop_eq_getElem_cons hj] at ha
    have hne : ¬ p.2[j].2 = last := ha.1
    simp [hne]
    rcases Nat.eq_zero_or_pos j with hj0 | hj0
    · subst hj0
      simp
      exact ⟨rfl, _, _, _, rfl, ha.2⟩
    · have hj1 : j - 1 < p.2.length := by omega
      have ex2 : oIx (.d (.tup (p.2.map encS))) (.d (.int ((j : Int) - 1))) M = .ok (.d (encS p.2[j - 1])) M := oIx_seq rfl (by rw [ixN_pos (by omega) (by simp; omega)]) (by rw [List.getElem?_map, show ((j : Int) - 1).toNat = j - 1 by omega, List.getElem?_eq_getElem hj1]; rfl)
      have hlt : p.2[j - 1].1 < p.2[j].1 := by
        have := List.pairwise_iff_getElem.mp h.ts (j - 1) j (by simp [turnsOf]; omega) (by simp [turnsOf]; omega) (by omega)
        simpa [turnsOf] using this
      have hlt' : ¬ p.2[j].1 ≤ p.2[j - 1].1 := by omega
      simp [hj0, ex2, hlt']
      exact ⟨rfl, _, _, _, rfl, ha.2⟩
end
end HW
end
section
set_option linter.all false
set_option autoImplicit false
/-! MJ21: law k09 -/
namespace HW
open MI PySem
section
variable {T : Tab}
theorem edgesL_len {L : List Int} {k : Nat} (hL : L.length ≤ k) : ∀ {ss : List Step}, (∀ s ∈ ss, Rising s.2.2) → (∀ s ∈ ss, Sub L s.2) → (edgesL ss).length ≤ k * ss.length
  | [], _, _ => Nat.zero_le _
  | s :: r, h1, h2 => by
    have ih := edgesL_len hL (fun x hx => h1 x (List.mem_cons_of_mem _ hx)) (fun x hx => h2 x (List.mem_cons_of_mem _ hx))
    have := sub_len (h1 s List.mem_cons_self) (h2 s List.mem_cons_self)
    simp only [edgesL, List.flatMap_cons, List.length_append, List.length_cons] at ih ⊢
    have e : k * (r.length + 1) = k * r.length + k := Nat.mul_succ _ _
    omega
theorem edgeCount_le {L : List Int} {k : Nat} {p : Plot} (hL : L.length ≤ k) (h : POk p) (hs : PSub L p) : edgeCount p ≤ k * (p.2.length + 1) := by
  have h1 := sub_len h.g hs.g
  have h2 := edgesL_len hL h.rs hs.rs
  unfold edgeCount
  rw [List.length_append]
  have e : k * (p.2.length + 1) = k * p.2.length + k := Nat.mul_succ _ _
  omega
theorem line_len (a b : Int) : (line a b).length = 6 := by simp [line]
theorem law_numbers_run [HasF T "_law_whole" F__law_whole] [i : HasF T "_law_numbers" F__law_numbers] (n : Nat) (l : List Int) (h h' : Nat) (hl : l.length ≤ 100000) (M : Mem) (hM : M[h]? = some (.lst (l.map D.int))) (hM' : M[h']? = some (.lst (l.map D.int))) :
    run T (n + 2) "_law_numbers" [.hdl h, .hdl h'] M = .ok (.d (.bl true)) M := by
  have hlim := lim_big
  rw [run_has i, ← Res.wp_eq]
  refine wp_run rfl ?_
  simp [F__law_numbers, b__law_numbers, hM, hM']
  rw [compL_map D.int (by simp [chkOk, hM]) (fun _ => false) D.int (fun a => by simp [← Res.wp_eq]; rw [law_whole_runD _ (.int a) _ trivial]; simp [wholeD]) l [] (by simp; omega)]
  simp
  have ef : (l.filter fun _ => false) = [] := by simp
  simp [ef]
  rw [oNe_l (as := []) (bs := []) rfl rfl rfl rfl]
  simp
  rw [oEq_l (as := l.map D.int) (bs := l.map D.int) (by simp [hM]) (by simp [hM']) (by simp) (by simp), deqs_ints]
  simp
theorem law_edges_run [i : HasF T "_law_edges" F__law_edges] (n : Nat) (p : Plot) (hl : edgeCount p < 4000) (M : Mem) : run T (n + 1) "_law_edges" [encP p] M = .ok (.o (.lst ((daysOf p).map D.int))) M := by
  have hlim := lim_big
  rw [run_has i, ← Res.wp_eq]
  refine wp_run rfl ?_
  simp [F__law_edges, b__law_edges]
  refine forL_wp encS (fun l env M' => ∃ (acc : List Int) (h : Nat) (l2 : Mem) (j2 j3 : Option D), env = [some (encP p), some (.hdl (M.length + h)), j2, j3] ∧ M' = M ++ l2 ∧ l2[h]? = some (.lst (acc.map D.int)) ∧ acc ++ edgesL l = p.1.2 ++ edgesL p.2) ?_ ?_ _ _ _ ⟨p.1.2, 0, _, _, _, rfl, rfl, rfl, rfl⟩
  · rintro _ _ ⟨acc, h, l2, j2, j3, rfl, rfl, h1, h2⟩
    simp only [edgesL, List.flatMap_nil, List.append_nil] at h2
    unfold edgeCount at hl
    have h3 : acc = p.1.2 ++ edgesL p.2 := h2
    rw [← h3] at hl
    simp
    rw [bSortedSet_of (l := acc) (by simp [h1]) hl]
    simp [daysOf, ← h3]
    rfl
  · rintro s l _ _ ⟨acc, h, l2, j2, j3, rfl, rfl, h1, h2⟩
    have hle : acc.length + s.2.2.length ≤ edgeCount p := by
      unfold edgeCount
      rw [← h2]; simp [edgesL]
    have hle2 : acc.length + s.2.2.length ≤ lim := by omega
    simp [h1, hle2]
    refine ⟨acc ++ s.2.2, l2.length, l2 ++ [.lst ((acc ++ s.2.2).map D.int)], _, _, by simp; exact ⟨rfl, rfl⟩, by simp, by simp, ?_⟩
    rw [← h2]; simp [edgesL]
theorem comp_turns {cl : Cl} {k : Nat} {r : MI.Env} (hk : k < r.length) (p : Plot) (hl : p.2.length ≤ lim) (M : Mem) : compL (MI.e2 oIx (eVar k) (eC (.int 0)) cl) (tYes cl) (.nm k) [] r (p.2.map encS) [] M = .ok (.o (.lst ((turnsOf p).map D.int))) M := by
  rw [compL_all encS rfl (fun s => D.int s.1) (fun s => by simp [← Res.wp_eq, hk]) p.2 hl]
  simp [turnsOf]
theorem law_k09_run [HasF T "lies_in" F_lies_in] [HasF T "reach_at" F_reach_at] [HasF T "lies_at" F_lies_at] [HasF T "turns_of" F_turns_of] [HasF T "days_of" F_days_of] [HasF T "_law_cell" F__law_cell] [HasF T "_law_whole" F__law_whole] [HasF T "_law_stir" F__law_stir] [HasF T "_law_reach" F__law_reach_k09]
    [HasF T "_law_plot" F__law_plot_k09] [HasF T "_law_scale" F__law_scale] [HasF T "_law_in" F__law_in_k09] [HasF T "_law_at" F__law_at_k09] [HasF T "_law_beside" F__law_beside] [HasF T "_law_days" F__law_days] [HasF T "_law_turns" F__law_turns] [HasF T "_law_is_reach" F__law_is_reach_k09]
    [HasF T "_law_numbers" F__law_numbers] [HasF T "_law_edges" F__law_edges] [i : HasF T "law" F_law_k09] (ns : List Int) (hns : ns.length ≤ 63) (n : Nat) : ∃ M, run T (n + 5) "law" [scr ns] [] = .ok (.d (.bl true)) M := by
  have : (run T (n + 5) "law" [scr ns] []).wp fun x M' => Kp (x = .d (.bl true)) := by
    have hlim := lim_big
    rw [run_has i]
    refine wp_run rfl ?_
    simp [F_law_k09, b_law_k09]
    have c0 := law_cell_run (T := T) (n + 3) ns 0 []
    simp at c0
    rw [c0]
    obtain ⟨spread, low, s1, s2, s3, s4, es⟩ := law_scale_ex (T := T) (ns[0]?.getD 0)
    simp
    rw [es (n + 3)]
    simp
    obtain ⟨p, p1, p2, p3, ep⟩ := law_plot_ex (T := T) (n + 1) (cut ns (some 1) (some 21)) 0 48271 spread low s1 (by unfold cut; simp; omega) [.lst ((cut ns (some 1) (some 21)).map D.int)] rfl
    have p3' : p.2.length ≤ 20 := by
      have : (cut ns (some 1) (some 21)).length ≤ 20 := by
        unfold cut; simp [sIx]; omega
      omega
    rw [ep]
    simp
    have pe := edgeCount_le (k := 6) (by rw [line_len]; exact Nat.le_refl _) p1 p2
    have pe' : edgeCount p ≤ 126 := by omega
    obtain ⟨ds, eds⟩ := law_days_ex (T := T) (n + 2) [p] 1 (by simp) (by simp; omega) [.lst ((cut ns (some 1) (some 21)).map D.int), .lst [encP p]] rfl
    rw [eds]
    simp
    obtain ⟨ts, ets⟩ := law_turns_ex (T := T) (n + 2) [p] 3 (by simp) (by simp; omega) [.lst ((cut ns (some 1) (some 21)).map D.int), .lst [encP p], .lst (ds.map D.int), .lst [encP p]] rfl
    rw [ets]
    simp
    have hat : ∀ t M, run T (n + 4) "_law_at" [encP p, .int t] M = .ok (.d (encR (atP p t))) M := fun t M => law_at_run (n + 3) p t M
    have hra : ∀ t M, run T (n + 4) "reach_at" [encP p, .int t] M = .ok (.d (encR (atP p t))) M := fun t M => reach_at_run (n + 3) p t M
    have hrs : ∀ t, Rising (atP p t).2 := fun t => atP_rising p1 t
    have hrl : ∀ t, (atP p t).2.length ≤ 6 := fun t => by have := sub_len (hrs t) (p2.at t); rwa [line_len] at this
    have hir : ∀ t M, run T (n + 4) "_law_is_reach" [encR (atP p t)] M = .ok (.d (.bl true)) M := fun t M => law_is_reachR (n + 2) _ M (hrs t) (by have := hrl t; omega)
    have hla : ∀ d t M, run T (n + 4) "lies_at" [encP p, .int d, .int t] M = .ok (.d (.bl (spot p d t))) M := fun d t M => lies_at_run (n + 2) p d t M
    have hin : ∀ d t M, run T (n + 4) "_law_in" [encR (atP p t), .int d] M = .ok (.d (.bl (spot p d t))) M := fun d t M => law_in_run9 (n + 3) _ _ M (by have := hrl t; omega)
    refine forL_wp D.int (fun l env M' => M'[2]? = some (.lst (ds.map D.int)) ∧ ∃ (j5 j6 j7 j8 j9 j10 : Option D), env = [some (scr ns), some (.int spread), some (.int low), some (encP p), some (.hdl 2), j5, j6, j7, j8, j9, j10]) ?_ ?_ _ _ _ ⟨rfl, _, _, _, _, _, _, rfl⟩
    · rintro _ M' ⟨hM, j5, j6, j7, j8, j9, j10, rfl⟩
      simp
      have htu : ∀ M, run T (n + 4) "turns_of" [encP p] M = .ok (.o (.lst ((turnsOf p).map D.int))) M := fun M => turns_of_run (n + 3) p (by omega) M
      have hda : ∀ M, run T (n + 4) "days_of" [encP p] M = .ok (.o (.lst ((daysOf p).map D.int))) M := fun M => days_of_run (n + 3) p (by omega) M
      have hed : ∀ M, run T (n + 4) "_law_edges" [encP p] M = .ok (.o (.lst ((daysOf p).map D.int))) M := fun M => law_edges_run (n + 3) p (by omega) M
      have ht : (turnsOf p).length ≤ 100000 := by simp [turnsOf]; omega
      have hd : (daysOf p).length ≤ 100000 := by have := ss_len (p.1.2 ++ edgesL p.2); unfold daysOf; unfold edgeCount at pe'; omega
      simp [htu]
      rw [comp_turns (by simp) p (by omega)]
      simp
      rw [law_numbers_run (n + 2) (turnsOf p) _ _ ht _ (by simp) (by simp)]
      simp [hda]
      rw [hed]
      simp
      rw [law_numbers_run (n + 2) (daysOf p) _ _ hd _ (by simp) (by simp)]
      have ht' : (turnsOf p).length < lim := by omega
      have hd' : (daysOf p).length < lim := by omega
      simp [ht', hda, hd', htu]
      rw [comp_turns (by simp) p (by omega)]
      simp [hda, hed]
      rfl
    · rintro t l _ M' ⟨hM, j5, j6, j7, j8, j9, j10, rfl⟩
      simp [hat, hra, hir, hM]
      refine forL_wp D.int (fun l env M' => M'[2]? = some (.lst (ds.map D.int)) ∧ ∃ (j8 j9 j10 : Option D), env = [some (scr ns), some (.int spread), some (.int low), some (encP p), some (.hdl 2), some (.int t), some (encR (atP p t)), some (encR (atP p t)), j8, j9, j10]) ?_ ?_ _ _ _ ⟨hM, _, _, _, rfl⟩
      · rintro _ M' ⟨hM, j8, j9, j10, rfl⟩
        simp [hM]
        exact ⟨hM, _, _, _, _, _, _, rfl⟩
      · rintro d l2 _ M' ⟨hM, j8, j9, j10, rfl⟩
        simp [hla, hin, hM]
        exact ⟨hM, _, _, _, rfl⟩
  obtain ⟨x, M', e, rfl⟩ := Res.wp_ex this
  exact ⟨M', e⟩
end
end HW
end
section
set_option linter.all false
set_option autoImplicit false
/-! MJ22: plots made; law k10 -/
namespace HW
open MI PySem
theorem lastR_cons (g : Reach) (x : Step) (l : List Step) : lastR g (x :: l) = lastR x.2 l := by
  unfold lastR
  cases l with
  | nil => rfl
  | cons y r =>
    rw [List.getLast?_cons_cons]
    cases e : (y :: r).getLast? with
    | none => simp at e
    | some z => rfl
theorem mkS_snoc : ∀ (g : Reach) (l : List Step) (s : Step), mkS g (l ++ [s]) = mkS g l ++ (if s.2 = lastR g l then [] else [s])
  | g, [], s => by by_cases h : s.2 = g <;> simp [mkS, lastR, h]
  | g, x :: l, s => by
    rw [List.cons_append, lastR_cons]
    unfold mkS
    by_cases h : x.2 = g
    · rw [if_pos h, if_pos h, mkS_snoc g l s, h]
    · rw [if_neg h, if_neg h, mkS_snoc x.2 l s, List.cons_append]
theorem at_pair {g : Reach} : ∀ {ps : List Step}, Rising (ps.map (·.1)) → ∀ s ∈ ps, atL g ps s.1 = s.2
  | [], _, s, hs => nomatch hs
  | x :: r, h, s, hs => by
    have h2 := (Rising.cons.mp h).2
    have gt := turns_gt h
    rw [atL_cons]
    rcases List.mem_cons.mp hs with e | hs
    · subst e
      rw [if_pos (Int.le_refl _), atL_gt gt]
    · have := gt s hs
      rw [if_pos (by omega)]
      exact at_pair h2 s hs
section
variable {T : Tab}
theorem plot_of_run [i : HasF T "plot_of" F_plot_of] (n : Nat) (g : Reach) (ps : List Step) (h : Nat) (hl : ps.length ≤ 1000000) (M : Mem) (hM : M[h]? = some (.lst (ps.map encS))) : run T (n + 1) "plot_of" [encR g, .hdl h] M = .ok (.d (encP (plotOf g ps))) M := by
  have hlim : 10000000 ≤ lim := by decide
  have hM2 : ∀ l : Mem, (M ++ l)[h]? = some (.lst (ps.map encS)) := fun l => get_ahead hM
  rw [run_has i, ← Res.wp_eq]
  refine wp_run rfl ?_
  simp [F_plot_of, b_plot_of, hM2]
  refine forL_wp encS (fun l env M' => ∃ (done : List Step) (j4 j5 : Option D), env = [some (encR g), some (.hdl h), some (.hdl M.length), some (encR (lastR g done)), j4, j5] ∧ M' = M ++ [.lst ((mkS g done).map encS)] ∧ done ++ l = ps) ?_ ?_ _ _ _ ⟨[], _, _, rfl, rfl, rfl⟩
  · rintro _ _ ⟨done, j4, j5, rfl, rfl, h1⟩
    rw [List.append_nil] at h1
    subst h1
    simp [hM2, encP, plotOf]
  · rintro s l _ _ ⟨done, j4, j5, rfl, rfl, h1⟩
    have hd : done.length ≤ ps.length := by rw [← h1]; simp
    have hm := (mkS_sub g done).length_le
    have hacc : (mkS g done).length < lim := by omega
    simp [hM2]
    split
    · rename_i hr
      refine ⟨done ++ [s], _, _, by rw [lastR_snoc, ← hr], by rw [mkS_snoc, if_pos hr, List.append_nil], by rw [← h1]; simp⟩
    · rename_i hr
      simp [hacc, show (2 : Nat) ≤ lim by omega]
      refine ⟨done ++ [s], _, _, by rw [lastR_snoc]; rfl, by rw [mkS_snoc, if_neg hr]; simp [encS], by rw [← h1]; simp⟩
theorem law_due_k10_run [i : HasF T "_law_due" F__law_due_k10] (n : Nat) (g : Reach) (ps : List Step) (h : Nat) (hl : ps.length ≤ 1000000) (M : Mem) (hM : M[h]? = some (.lst (ps.map encS))) : run T (n + 1) "_law_due" [encR g, .hdl h] M = .ok (.d (encP (plotOf g ps))) M := by
  have hlim : 10000000 ≤ lim := by decide
  have hM2 : ∀ l : Mem, (M ++ l)[h]? = some (.lst (ps.map encS)) := fun l => get_ahead hM
  rw [run_has i, ← Res.wp_eq]
  refine wp_run rfl ?_
  simp [F__law_due_k10, b__law_due_k10, hM2]
  refine ⟨by omega, ?_⟩
  refine forL_range (fun j env M' => ∃ (j3 j4 : Option D), env = [some (encR g), some (.hdl h), some (.hdl M.length), j3, j4] ∧ M' = M ++ [.lst ((mkS g (ps.take j)).map encS)]) ?_ ?_ _ _ ⟨_, _, rfl, rfl⟩
  · rintro _ _ ⟨j3, j4, rfl, rfl⟩
    simp [encP, plotOf]
  · rintro j _ _ hj ⟨j3, j4, rfl, rfl⟩
    have hm := (mkS_sub g (ps.take j)).length_le
    rw [List.length_take] at hm
    have hacc : (mkS g (ps.take j)).length < lim := by omega
    have gx : ∀ M', M'[h]? = some (O.lst (ps.map encS)) → oIx (.d (.hdl h)) (.d (.int (j : Int))) M' = .ok (.d (encS ps[j])) M' := fun M' hM' => oIx_seq (ds := ps.map encS) (k := j) (by simp [hM']) (by rw [ixN_pos (by omega) (by rw [List.length_map]; omega)]; simp) (by rw [List.getElem?_map, List.getElem?_eq_getElem hj]; rfl)
    have step : (∃ (j3 j4 : Option D), [some (encR g), some (.hdl h), some (.hdl M.length), some (D.int (j : Int)), some (encR (lastR g (ps.take j)))] = [some (encR g), some (.hdl h), some (.hdl M.length), j3, j4] ∧
        M ++ [O.lst ((mkS g (ps.take j) ++ (if ps[j].2 = lastR g (ps.take j) then [] else [ps[j]])).map encS)] = M ++ [.lst ((mkS g (ps.take (j + 1))).map encS)]) := ⟨_, _, rfl, by rw [List.take_succ_eq_append_getElem hj, mkS_snoc]⟩
    have tail : (sIf (tB (MI.e2 oNe (MI.e2 oIx (MI.e2 oIx (eVar 1) (eVar 3)) (eC (.int 1))) (eVar 4))) (sExpr (eM1 mAppend (eVar 2) (MI.e2 oIx (eVar 1) (eVar 3)))) sNil (run T n)
        [some (encR g), some (.hdl h), some (.hdl M.length), some (.int (j : Int)), some (encR (lastR g (ps.take j)))] (M ++ [.lst ((mkS g (ps.take j)).map encS)])).wp (fun r2 M2 => Kp (∃ (j3 j4 : Option D), r2 = [some (encR g), some (.hdl h), some (.hdl M.length), j3, j4] ∧ M2 = M ++ [.lst ((mkS g (ps.take (j + 1))).map encS)]))
        (fun x M' => (fin .pure M x M').wp fun x M' => x = .d (encP (plotOf g ps)) ∧ M' = M) := by
      simp [gx _ (hM2 _)]
      split
      · rename_i hr
        simp only [if_pos hr, List.append_nil] at step
        exact step
      · rename_i hr
        simp only [if_neg hr, List.map_append, List.map_cons, List.map_nil] at step
        simp [gx _ (hM2 _), hacc]
        exact step
    rcases Nat.eq_zero_or_pos j with hj0 | hj0
    · subst hj0
      simp at tail ⊢
      exact tail
    · have hj1 : j - 1 < ps.length := by omega
      have gx2 : oIx (.d (.hdl h)) (.d (.int ((j : Int) - 1))) (M ++ [.lst ((mkS g (ps.take j)).map encS)]) = .ok (.d (encS ps[j - 1])) (M ++ [.lst ((mkS g (ps.take j)).map encS)]) := oIx_seq (ds := ps.map encS) (k := j - 1) (by simp [hM2]) (by rw [ixN_pos (by omega) (by rw [List.length_map]; omega)]; congr 1; omega) (by rw [List.getElem?_map, List.getElem?_eq_getElem hj1]; rfl)
      have hla : lastR g (ps.take j) = ps[j - 1].2 := by
        have : ps.take j = ps.take (j - 1) ++ [ps[j - 1]] := by
          rw [← List.take_succ_eq_append_getElem hj1]; congr 1; omega
        rw [this, lastR_snoc]
      rw [hla] at tail
      simp [hj0, gx2]
      simpa using tail
theorem law_pairs_k10_ex [HasF T "_law_stir" F__law_stir] [HasF T "_law_reach" F__law_reach_k09] [i : HasF T "_law_pairs" F__law_pairs_k10] (n : Nat) (cells : List Int) (h : Nat) (g : Reach) (spread low : Int) (hs : 0 < spread) (hl : cells.length ≤ 100) (hg : Rising g.2) (hgs : Sub (line spread low) g) (M : Mem) (hM : M[h]? = some (.lst (cells.map D.int))) :
    ∃ ps : List Step, Rising (ps.map (·.1)) ∧ (∀ s ∈ ps, Rising s.2.2) ∧ (∀ s ∈ ps, Sub (line spread low) s.2) ∧ ps.length ≤ cells.length ∧ run T (n + 3) "_law_pairs" [.hdl h, encR g, .int spread, .int low] M = .ok (.o (.lst (ps.map encS))) M := by
  have : (run T (n + 3) "_law_pairs" [.hdl h, encR g, .int spread, .int low] M).wp fun x M' => Kp (M' = M ∧ ∃ ps : List Step, Rising (ps.map (·.1)) ∧ (∀ s ∈ ps, Rising s.2.2) ∧ (∀ s ∈ ps, Sub (line spread low) s.2) ∧ ps.length ≤ cells.length ∧ x = .o (.lst (ps.map encS))) := by
    have hlim := lim_big
    have hM2 : ∀ l : Mem, (M ++ l)[h]? = some (.lst (cells.map D.int)) := fun l => get_ahead hM
    rw [run_has i]
    refine wp_run rfl ?_
    simp [F__law_pairs_k10, b__law_pairs_k10, hM2]
    refine forL_wp D.int (fun l env M' => ∃ (acc : List Step) (turn : Int) (last : Reach) (j7 : Option D), env = [some (.hdl h), some (encR g), some (.int spread), some (.int low), some (.hdl M.length), some (encR last), some (.int turn), j7] ∧ M' = M ++ [.lst (acc.map encS)] ∧
      Rising (acc.map (·.1)) ∧ (∀ s ∈ acc, s.1 ≤ turn) ∧ (∀ s ∈ acc, Rising s.2.2) ∧ (∀ s ∈ acc, Sub (line spread low) s.2) ∧ acc.length + l.length ≤ cells.length ∧ Rising last.2 ∧ Sub (line spread low) last) ?_ ?_ _ _ _ ⟨[], _, g, _, rfl, rfl, .nil, by simp, by simp, by simp, by simp, hg, hgs⟩
    · rintro _ _ ⟨acc, turn, last, j7, rfl, rfl, h1, h2, h3, h4, h5, h6, h7⟩
      simp [hM2]
      exact ⟨rfl, acc, h1, h3, h4, by simpa using h5, rfl⟩
    · rintro c l _ _ ⟨acc, turn, last, j7, rfl, rfl, h1, h2, h3, h4, h5, h6, h7⟩
      simp only [List.length_cons] at h5
      simp [hM2]
      rw [law_stir_run]
      have s0 := stir_nn c 40014
      have s1 := Int.emod_nonneg (stir c 40014 / 7) (show (3 : Int) ≠ 0 by decide)
      have s2 := Int.emod_lt_of_pos (stir c 40014 / 7) (show (0 : Int) < 3 by decide)
      simp
      refine ⟨.inl ⟨by omega, by omega⟩, ?_⟩
      rw [law_stir_run]
      simp
      have hpos : 0 < (1 + stir c 40014 / 7 % 3) * spread := Int.mul_pos (by omega) hs
      have hacc : acc.length < lim := by omega
      have l2 : (2 : Nat) ≤ lim := by omega
      have fin' : ∀ r : Reach, Rising r.2 → Sub (line spread low) r → Kp (∃ (acc' : List Step) (turn' : Int) (last : Reach) (j7 : Option D), [some (.hdl h), some (encR g), some (.int spread), some (.int low), some (.hdl M.length), some (encR r), some (.int (turn + (1 + stir c 40014 / 7 % 3) * spread)), some (D.int c)] = [some (.hdl h), some (encR g), some (.int spread), some (.int low), some (.hdl M.length), some (encR last), some (.int turn'), j7] ∧
          M ++ [O.lst (acc.map encS ++ [D.tup [.int (turn + (1 + stir c 40014 / 7 % 3) * spread), encR r]])] = M ++ [.lst (acc'.map encS)] ∧ Rising (acc'.map (·.1)) ∧ (∀ s ∈ acc', s.1 ≤ turn') ∧ (∀ s ∈ acc', Rising s.2.2) ∧ (∀ s ∈ acc', Sub (line spread low) s.2) ∧ acc'.length + l.length ≤ cells.length ∧ Rising last.2 ∧ Sub (line spread low) last) := by
        intro r hr1 hr2
        refine ⟨acc ++ [(turn + (1 + stir c 40014 / 7 % 3) * spread, r)], _, _, _, rfl, by simp [encS], ?_, ?_, ?_, ?_, by simp; omega, hr1, hr2⟩
        · rw [List.map_append]
          refine Rising.snoc h1 fun x hx => ?_
          obtain ⟨s, hs', rfl⟩ := List.mem_map.mp hx
          have := h2 s hs'
          show s.1 < turn + (1 + stir c 40014 / 7 % 3) * spread
          omega
        · intro s hs'
          rcases List.mem_append.mp hs' with q | q
          · have := h2 s q; omega
          · rw [List.mem_singleton.mp q]; exact Int.le_refl _
        · intro s hs'
          rcases List.mem_append.mp hs' with q | q
          · exact h3 s q
          · rw [List.mem_singleton.mp q]; exact hr1
        · intro s hs'
          rcases List.mem_append.mp hs' with q | q
          · exact h4 s q
          · rw [List.mem_singleton.mp q]; exact hr2
      split
      · rw [law_reach_run9]
        simp [hacc, l2]
        exact fin' _ (lawReach_rising hs _ _ _) (lawReach_sub _ _ _ _)
      · simp [hacc, l2]
        exact fin' _ h6 h7
  obtain ⟨x, M', e, rfl, p, h1, h2, h3, h4, rfl⟩ := Res.wp_ex this
  exact ⟨p, h1, h2, h3, h4, e⟩
end
end HW
end
section
set_option linter.all false
set_option autoImplicit false
/-! MJ23: law k10 -/
namespace MI
@[simp] theorem mClear_def (n : Nat) (M : Mem) : mClear n M = match M[n]? with
    | some (.lst _) => .ok (.d .non) (M.set n (.lst []))
    | _ => .bad := nrfl rfl
end MI
namespace HW
open MI PySem
section
variable {T : Tab}
theorem law_k10_run [HasF T "reach_at" F_reach_at] [HasF T "plot_of" F_plot_of] [HasF T "_law_cell" F__law_cell] [HasF T "_law_whole" F__law_whole] [HasF T "_law_stir" F__law_stir] [HasF T "_law_reach" F__law_reach_k09] [HasF T "_law_scale" F__law_scale] [HasF T "_law_is_reach" F__law_is_reach_k09]
    [HasF T "_law_is_plot" F__law_is_plot_k09] [HasF T "_law_pairs" F__law_pairs_k10] [HasF T "_law_due" F__law_due_k10] [i : HasF T "law" F_law_k10] (ns : List Int) (hns : ns.length ≤ 63) (n : Nat) : ∃ M, run T (n + 5) "law" [scr ns] [] = .ok (.d (.bl true)) M := by
  have : (run T (n + 5) "law" [scr ns] []).wp fun x M' => Kp (x = .d (.bl true)) := by
    have hlim := lim_big
    rw [run_has i]
    refine wp_run rfl ?_
    simp [F_law_k10, b_law_k10]
    have c0 := law_cell_run (T := T) (n + 3) ns 0 []
    simp at c0
    rw [c0]
    generalize ns[0]?.getD 0 = first
    obtain ⟨spread, low, s1, s2, s3, s4, es⟩ := law_scale_ex (T := T) first
    simp
    rw [es (n + 3)]
    simp
    rw [law_reach_run9]
    simp
    have key : ∀ g : Reach, Rising g.2 → Sub (line spread low) g → (sSeq (sSet 5 (eCall "_law_pairs" (dCons (eSlice (eVar 0) (oSome (eC (.int 1))) (oSome (eC (.int 41)))) (dCons (eVar 4) (dCons (eVar 2) (dCons (eVar 3) dNil)))))) (sSeq (sSet 6 (e1 bList (eVar 5))) (sSeq (sSet 7 (eCall "plot_of" (dCons (eVar 4) (dCons (eVar 6) dNil)))) (sSeq (sIf (tOr (tNot (tTru (eCall "_law_is_plot" (dCons (eVar 7) dNil)))) (tOr (tB (MI.e2 oNe (eVar 7) (eCall "_law_due" (dCons (eVar 4) (dCons (eVar 5) dNil))))) (tB (MI.e2 oNe (eVar 6) (eVar 5))))) (sRet (eC (.bl false))) sNil) (sSeq (sExpr (eM0 mClear (eVar 6))) (sSeq (sFor (.tp [8, 9]) (iSeq (eVar 5)) (sIf (tB (MI.e2 oNe (eCall "reach_at" (dCons (eVar 7) (dCons (eVar 8) dNil))) (eVar 9))) (sRet (eC (.bl false))) sNil)) (sRet (eAnd (MI.e2 oEq (eCall "plot_of" (dCons (eVar 4) (dCons (eLst dNil) dNil))) (eTup (dCons (eVar 4) (dCons (eTup dNil) dNil)))) (MI.e2 oEq (eCall "plot_of" (dCons (eVar 4) (dCons (e1 bList (MI.e2 oIx (eVar 7) (eC (.int 1)))) dNil))) (eVar 7)))))))))
        (run T (n + 4)) [some (scr ns), some (.int first), some (.int spread), some (.int low), some (encR g), none, none, none, none, none] []).wp (fun x M' => (fin .pure [] (.d .non) M').wp fun x M' => Kp (x = .d (.bl true))) (fun x M' => (fin .pure [] x M').wp fun x M' => Kp (x = .d (.bl true))) := by
      intro g hg hgs
      simp
      obtain ⟨ps, p1, p2, p3, p4, ep⟩ := law_pairs_k10_ex (T := T) (n + 1) (cut ns (some 1) (some 41)) 0 g spread low s1 (by unfold cut; simp; omega) hg hgs [.lst ((cut ns (some 1) (some 41)).map D.int)] rfl
      have p4' : ps.length ≤ 63 := by
        have : (cut ns (some 1) (some 41)).length ≤ 63 := by unfold cut; simp; omega
        omega
      rw [ep]
      simp
      have hpo := fun h M hM => plot_of_run (T := T) (n + 3) g ps h (by omega) M hM
      have ok := plotOf_ok hg p1 p2
      rw [hpo 2 _ rfl]
      simp
      have hle := fun r hr hs => sub_len (r := r) (L := line spread low) hr hs
      have hsub := plotOf_sub hgs p3
      rw [law_is_plotP (n + 1) _ _ ok (by have := plotOf_len g ps; omega) (by have := sub_len ok.g hsub.g; rw [line_len] at this; omega) (fun s hs => by have := sub_len (ok.rs s hs) (hsub.rs s hs); rw [line_len] at this; omega)]
      simp
      rw [law_due_k10_run (n + 3) g ps 1 (by omega) _ rfl]
      simp
      rw [oNe_l (as := ps.map encS) (bs := ps.map encS) rfl rfl (pls_map fun _ _ => pl_S _ _) (pls_map fun _ _ => pl_S _ _), deqs_S]
      simp
      refine forL_wp encS (fun l env M' => M'[1]? = some (.lst (ps.map encS)) ∧ (∀ s ∈ l, s ∈ ps) ∧ ∃ (j8 j9 : Option D), env = [some (scr ns), some (.int first), some (.int spread), some (.int low), some (encR g), some (.hdl 1), some (.hdl 2), some (encP (plotOf g ps)), j8, j9]) ?_ ?_ _ _ _ ⟨rfl, fun _ h => h, _, _, rfl⟩
      · rintro _ M' ⟨hM, _, j8, j9, rfl⟩
        simp [hM]
        rw [plot_of_run (n + 3) g [] _ (by simp) _ (by simp)]
        simp [show (0 : Nat) ≤ lim by omega, show (2 : Nat) ≤ lim by omega]
        have e0 : ∀ M, oEq (.d (encP (plotOf g []))) (.d (.tup [encR g, .tup []])) M = .ok (.d (.bl true)) M := fun M => by
          have := oEq_P (plotOf g []) (g, []) M
          simpa [plotOf, mkS, encP] using this
        rw [e0]
        simp
        rw [plot_of_run (n + 3) g (plotOf g ps).2 _ (by have := plotOf_len g ps; omega) _ (by simp)]
        have : plotOf g (plotOf g ps).2 = plotOf g ps := plotOf_self ok
        simp [this]
        rfl
      · rintro s l _ M' ⟨hM, hs, j8, j9, rfl⟩
        simp [hM]
        rw [reach_at_run]
        have hat : atP (plotOf g ps) s.1 = s.2 := by rw [plotOf_at p1, at_pair p1 s (hs s List.mem_cons_self)]
        simp [hat]
        exact ⟨hM, fun x hx => hs x (List.mem_cons_of_mem _ hx), _, _, rfl⟩
    split
    · have := key (false, []) .nil (fun e he => nomatch he)
      simpa [encR] using this
    · have := key (lawReach first 16807 spread low) (lawReach_rising s1 _ _ _) (lawReach_sub _ _ _ _)
      simpa using this
  obtain ⟨x, M', e, rfl⟩ := Res.wp_ex this
  exact ⟨M', e⟩
end
end HW
end
section
set_option linter.all false
set_option autoImplicit false
/-! MJ24: plots blended; law k11 -/
namespace MI
section
variable {M : Mem}
@[simp] theorem lstV_hdl (n : Nat) (Q : List D → Prop) : lstV (.d (.hdl n)) M Q = match M[n]? with
    | some (.lst ds) => Q ds
    | _ => False := by
  unfold lstV; rw [lstOf_hdl]; cases M[n]? with
  | none => rfl
  | some o => cases o <;> rfl
theorem pickS_ints (lo k : Nat) (hk : 0 < k) (l : List Int) : ∃ l' : List Int, pickS lo k (l.map D.int) = l'.map D.int ∧ l'.length ≤ l.length := by
  refine ⟨(List.range ((l.length - lo + (k - 1)) / k)).filterMap fun j => l[lo + k * j]?, ?_, ?_⟩
  · unfold pickS
    rw [List.length_map, List.map_filterMap]
    congr 1
    funext j
    rw [List.getElem?_map]
  · refine Nat.le_trans (List.length_filterMap_le _ _) ?_
    rw [List.length_range]
    rcases Nat.eq_zero_or_pos (l.length - lo) with h0 | h0
    · rw [h0, Nat.div_eq_of_lt (by omega)]; exact Nat.zero_le _
    · refine Nat.le_trans (Nat.le_of_lt_succ ((Nat.div_lt_iff_lt_mul hk).mpr ?_)) (Nat.sub_le l.length lo)
      have : (l.length - lo + 1) * k = (l.length - lo) * k + k := by rw [Nat.add_mul, Nat.one_mul]
      have h3 : l.length - lo ≤ (l.length - lo) * k := Nat.le_mul_of_pos_right _ hk
      show l.length - lo + (k - 1) < (l.length - lo + 1) * k
      omega
end
end MI
namespace HW
open MI PySem
theorem cut_all {A : Type} (l : List A) : cut l none none = l := by
  unfold cut; simp [sIx]
section
variable {T : Tab}
theorem at_len {L : List Int} {p : Plot} (h : POk p) (hs : PSub L p) (t : Int) : (atP p t).2.length ≤ L.length := sub_len (atP_rising h t) (hs.at t)
theorem blend_plots_run [HasF T "edges_marked" F_edges_marked] [HasF T "truth_by" F_truth_by] [HasF T "blend" F_blend] [HasF T "reach_at" F_reach_at] [HasF T "plot_of" F_plot_of] [HasF T "turns_of" F_turns_of] [i : HasF T "blend_plots" F_blend_plots] (n : Nat) (w : W4) {L : List Int} {a b : Plot} (ha : POk a) (hb : POk b) (sa : PSub L a) (sb : PSub L b)
    (hL : L.length ≤ 1900) (hl : a.2.length + b.2.length ≤ 3900) (M : Mem) : run T (n + 3) "blend_plots" [encP a, encP b, .str w.s] M = .ok (.d (encP (blendP w a b))) M := by
  have hlim := lim_big
  rw [run_has i, ← Res.wp_eq]
  refine wp_run rfl ?_
  have tu : ∀ p : Plot, p.2.length ≤ 3900 → ∀ M, run T (n + 2) "turns_of" [encP p] M = .ok (.o (.lst ((turnsOf p).map D.int))) M := fun p hp M => turns_of_run (n + 1) p (by omega) M
  have ra : ∀ (p : Plot) (t : Int) M, run T (n + 2) "reach_at" [encP p, .int t] M = .ok (.d (encR (atP p t))) M := fun p t M => reach_at_run (n + 1) p t M
  have hla : (turnsOf a).length = a.2.length := by simp [turnsOf]
  have hlb : (turnsOf b).length = b.2.length := by simp [turnsOf]
  have hss := ss_len (turnsOf a ++ turnsOf b)
  rw [List.length_append] at hss
  simp [F_blend_plots, b_blend_plots, tu a (by omega), tu b (by omega)]
  have h1 : (turnsOf a).length + (turnsOf b).length ≤ lim := by omega
  have h2 : (turnsOf a).length + (turnsOf b).length < 4000 := by omega
  simp [h1, h2]
  refine forL_wp D.int (fun l env M' => ∃ (done : List Int) (l2 : Mem) (j4 : Option D), env = [some (encP a), some (encP b), some (.str w.s), some (.hdl M.length), j4] ∧ M' = M ++ (.lst ((done.map fun t => (t, blend w (atP a t) (atP b t))).map encS) :: l2) ∧ done ++ l = ss (turnsOf a ++ turnsOf b)) ?_ ?_ _ _ _ ⟨[], _, _, rfl, rfl, rfl⟩
  · rintro _ _ ⟨done, l2, j4, rfl, rfl, hd⟩
    rw [List.append_nil] at hd
    simp
    have g1 := sub_len ha.g sa.g
    have g2 := sub_len hb.g sb.g
    rw [blend_run n w a.1 b.1 (by omega)]
    simp
    have := plot_of_run (T := T) (n + 1) (blend w a.1 b.1) (done.map fun t => (t, blend w (atP a t) (atP b t))) M.length (by rw [List.length_map, hd]; omega) (M ++ (.lst ((done.map fun t => (t, blend w (atP a t) (atP b t))).map encS) :: l2)) (by simp)
    simp at this
    rw [this]
    simp [blendP, hd]
  · rintro t l _ _ ⟨done, l2, j4, rfl, rfl, hd⟩
    have e1 := at_len ha sa t
    have e2 := at_len hb sb t
    have hdl : done.length < lim := by
      have : done.length ≤ (ss (turnsOf a ++ turnsOf b)).length := by rw [← hd]; simp
      omega
    simp [ra]
    rw [blend_run n w (atP a t) (atP b t) (by omega)]
    simp [hdl, show (2 : Nat) ≤ lim by omega]
    refine ⟨done ++ [t], l2, _, rfl, by simp [encS], by rw [← hd]; simp⟩
theorem blend_plots_odd [HasF T "edges_marked" F_edges_marked] [HasF T "truth_by" F_truth_by] [HasF T "blend" F_blend] [HasF T "reach_at" F_reach_at] [HasF T "plot_of" F_plot_of] [HasF T "turns_of" F_turns_of] [i : HasF T "blend_plots" F_blend_plots] (n : Nat) (s : Str) (hs : OddW s) {L : List Int} {a b : Plot} (ha : POk a) (hb : POk b) (sa : PSub L a) (sb : PSub L b)
    (hL : L.length ≤ 1900) (hl : a.2.length + b.2.length ≤ 3900) (M : Mem) : run T (n + 3) "blend_plots" [encP a, encP b, .str s] M = .err "NoWord" M := by
  have hlim := lim_big
  rw [run_has i, ← Res.wpx_err]
  refine wpx_run rfl ?_
  have tu : ∀ p : Plot, p.2.length ≤ 3900 → ∀ M, run T (n + 2) "turns_of" [encP p] M = .ok (.o (.lst ((turnsOf p).map D.int))) M := fun p hp M => turns_of_run (n + 1) p (by omega) M
  have ra : ∀ (p : Plot) (t : Int) M, run T (n + 2) "reach_at" [encP p, .int t] M = .ok (.d (encR (atP p t))) M := fun p t M => reach_at_run (n + 1) p t M
  have hla : (turnsOf a).length = a.2.length := by simp [turnsOf]
  have hlb : (turnsOf b).length = b.2.length := by simp [turnsOf]
  simp [F_blend_plots, b_blend_plots, tu a (by omega), tu b (by omega)]
  have h1 : (turnsOf a).length + (turnsOf b).length ≤ lim := by omega
  have h2 : (turnsOf a).length + (turnsOf b).length < 4000 := by omega
  simp [h1, h2]
  refine forL_wpx D.int (fun l env M' => ∃ (ds : List D) (l2 : Mem) (j4 : Option D), env = [some (encP a), some (encP b), some (.str s), some (.hdl M.length), j4] ∧ M' = M ++ (.lst ds :: l2)) ?_ ?_ _ _ _ ⟨[], _, _, rfl, rfl⟩
  · rintro _ _ ⟨ds, l2, j4, rfl, rfl⟩
    simp
    have g1 := sub_len ha.g sa.g
    have g2 := sub_len hb.g sb.g
    rw [blend_odd n s hs a.1 b.1 (by omega)]
    simp
  · rintro t l _ _ ⟨ds, l2, j4, rfl, rfl⟩
    have e1 := at_len ha sa t
    have e2 := at_len hb sb t
    simp [ra]
    rw [blend_odd n s hs (atP a t) (atP b t) (by omega)]
    simp
theorem law_word_run [i : HasF T "_law_word" F__law_word] (n : Nat) (w : W4) (a b : Bool) (M : Mem) : run T (n + 1) "_law_word" [.str w.s, .bl a, .bl b] M = .ok (.d (.bl (w.tb a b))) M := by
  rw [run_has i, ← Res.wp_eq]
  refine wp_run rfl ?_
  cases w <;> cases a <;> simp [F__law_word, b__law_word, W4.s, W4.tb]
theorem law_right_run [HasF T "edges_marked" F_edges_marked] [HasF T "truth_by" F_truth_by] [HasF T "blend" F_blend] [HasF T "reach_at" F_reach_at] [HasF T "plot_of" F_plot_of] [HasF T "turns_of" F_turns_of] [HasF T "blend_plots" F_blend_plots] [HasF T "_law_whole" F__law_whole] [HasF T "_law_is_reach" F__law_is_reach_k09] [HasF T "_law_is_plot" F__law_is_plot_k09]
    [HasF T "_law_in" F__law_in_k09] [HasF T "_law_at" F__law_at_k09] [HasF T "_law_beside" F__law_beside] [HasF T "_law_days" F__law_days] [HasF T "_law_turns" F__law_turns] [HasF T "_law_word" F__law_word] [i : HasF T "_law_right" F__law_right] (n : Nat) (w : W4) {L : List Int} {a b : Plot} (ha : POk a) (hb : POk b) (sa : PSub L a) (sb : PSub L b)
    (hL : L.length ≤ 20) (la : a.2.length ≤ 40) (lb : b.2.length ≤ 40) (M : Mem) : run T (n + 4) "_law_right" [encP a, encP b, .str w.s] M = .ok (.d (.bl true)) M := by
  have hlim := lim_big
  rw [run_has i, ← Res.wp_eq]
  refine wp_run rfl ?_
  simp [F__law_right, b__law_right]
  rw [blend_plots_run n w ha hb sa sb (by omega) (by omega)]
  have ok := blendP_ok w a b
  have su := blendP_sub w sa sb
  have ln := blendP_len w a b
  simp
  have hr : ∀ s ∈ (blendP w a b).2, s.2.2.length ≤ 1000000 := fun s hs => by have := sub_len (ok.rs s hs) (su.rs s hs); omega
  rw [law_is_plotP n _ _ ok (by omega) (by have := sub_len ok.g su.g; omega) hr]
  simp [show (2 : Nat) ≤ lim by omega]
  have ea := edgeCount_le (k := 20) hL ha sa
  have eb := edgeCount_le (k := 20) hL hb sb
  obtain ⟨ds, eds⟩ := law_days_ex (T := T) (n + 1) [a, b] M.length (by simp) (by simp; omega) (M ++ [.lst [encP a, encP b]]) (by simp)
  rw [eds]
  simp [show (2 : Nat) ≤ lim by omega]
  obtain ⟨ts, ets⟩ := law_turns_ex (T := T) (n + 1) [a, b] (M.length + 2) (by simp) (by simp; omega) (M ++ [.lst [encP a, encP b], .lst (ds.map D.int), .lst [encP a, encP b]]) (by simp)
  rw [ets]
  simp
  have hat : ∀ (p : Plot) t M, run T (n + 3) "_law_at" [encP p, .int t] M = .ok (.d (encR (atP p t))) M := fun p t M => law_at_run (n + 2) p t M
  have hin : ∀ (p : Plot), POk p → PSub L p → ∀ d t M, run T (n + 3) "_law_in" [encR (atP p t), .int d] M = .ok (.d (.bl (spot p d t))) M := fun p h1 h2 d t M => law_in_run9 (n + 2) _ _ M (by have := at_len h1 h2 t; omega)
  have hwd : ∀ a b M, run T (n + 3) "_law_word" [.str w.s, .bl a, .bl b] M = .ok (.d (.bl (w.tb a b))) M := fun a b M => law_word_run (n + 2) w a b M
  refine forL_wp D.int (fun l env M' => M' = M ++ [.lst [encP a, encP b], .lst (ds.map D.int), .lst [encP a, encP b]] ∧ ∃ (j5 j6 j7 j8 j9 : Option D), env = [some (encP a), some (encP b), some (.str w.s), some (encP (blendP w a b)), some (.hdl (M.length + 1)), j5, j6, j7, j8, j9]) ?_ ?_ _ _ _ ⟨rfl, _, _, _, _, _, rfl⟩
  · rintro _ _ ⟨rfl, j5, j6, j7, j8, j9, rfl⟩
    simp
  · rintro t l _ _ ⟨rfl, j5, j6, j7, j8, j9, rfl⟩
    simp [hat]
    refine forL_wp D.int (fun l env M' => M' = M ++ [.lst [encP a, encP b], .lst (ds.map D.int), .lst [encP a, encP b]] ∧ ∃ (j9 : Option D), env = [some (encP a), some (encP b), some (.str w.s), some (encP (blendP w a b)), some (.hdl (M.length + 1)), some (.int t), some (encR (atP (blendP w a b) t)), some (encR (atP a t)), some (encR (atP b t)), j9]) ?_ ?_ _ _ _ ⟨rfl, _, rfl⟩
    · rintro _ _ ⟨rfl, j9, rfl⟩
      simp
      exact ⟨rfl, _, _, _, _, _, rfl⟩
    · rintro d l2 _ _ ⟨rfl, j9, rfl⟩
      simp [hin _ ha sa, hin _ hb sb, hin _ ok su, hwd, blendP_spot w ha hb]
      exact ⟨rfl, _, rfl⟩
theorem law_refused_k11_run [HasF T "edges_marked" F_edges_marked] [HasF T "truth_by" F_truth_by] [HasF T "blend" F_blend] [HasF T "reach_at" F_reach_at] [HasF T "plot_of" F_plot_of] [HasF T "turns_of" F_turns_of] [HasF T "blend_plots" F_blend_plots] [i : HasF T "_law_refused" F__law_refused_k11] (n : Nat) (s : Str) (hs : OddW s) {L : List Int} {a b : Plot} (ha : POk a) (hb : POk b) (sa : PSub L a) (sb : PSub L b)
    (hL : L.length ≤ 1900) (hl : a.2.length + b.2.length ≤ 3900) (M : Mem) : run T (n + 4) "_law_refused" [encP a, encP b, .str s] M = .ok (.d (.bl true)) M := by
  have hlim := lim_big
  rw [run_has i, ← Res.wp_eq]
  refine wp_run rfl ?_
  simp [F__law_refused_k11, b__law_refused_k11]
  rw [blend_plots_odd n s hs ha hb sa sb hL hl]
  have hin : ("NoWord" : Str) ∈ exsAll := by decide
  simp [hin, suSem_in hin, show (3 : Nat) ≤ lim by omega]
  rw [oEq_l (as := [D.bl true, D.bl true, D.bl false]) (bs := [D.bl true, D.bl true, D.bl false]) (by simp) rfl (by simp) (by simp)]
  simp
/-- with its days turned over -/
def overR (r : Reach) : Reach := (!r.1, r.2)
def overP (p : Plot) : Plot := (overR p.1, p.2.map fun s => (s.1, overR s.2))
theorem overR_inj {a b : Reach} (h : overR a = overR b) : a = b := by
  obtain ⟨f, A⟩ := a
  obtain ⟨g, B⟩ := b
  simp only [overR, Prod.mk.injEq] at h
  obtain ⟨h1, h2⟩ := h
  rw [h2, show f = g by revert h1; cases f <;> cases g <;> simp]
theorem over_alt : ∀ (g : Reach) (ss : List Step), Alt g ss → Alt (overR g) (ss.map fun s => (s.1, overR s.2))
  | _, [], _ => trivial
  | g, s :: r, h => ⟨fun e => h.1 (overR_inj e), over_alt s.2 r h.2⟩
theorem overP_ok {p : Plot} (h : POk p) : POk (overP p) := ⟨h.g, by have := h.ts; simpa [turnsOf, overP, Function.comp_def] using this, fun s hs => by
  obtain ⟨x, hx, rfl⟩ := List.mem_map.mp hs
  exact h.rs x hx, over_alt _ _ h.alt⟩
theorem overP_sub {L : List Int} {p : Plot} (h : PSub L p) : PSub L (overP p) := ⟨h.g, fun s hs => by
  obtain ⟨x, hx, rfl⟩ := List.mem_map.mp hs
  exact h.rs x hx⟩
theorem law_turned_over_run [i : HasF T "_law_turned_over" F__law_turned_over] (n : Nat) (p : Plot) (hl : p.2.length ≤ 1000) (M : Mem) : run T (n + 1) "_law_turned_over" [encP p] M = .ok (.d (encP (overP p))) M := by
  have hlim := lim_big
  rw [run_has i, ← Res.wp_eq]
  refine wp_run rfl ?_
  simp [F__law_turned_over, b__law_turned_over, show (2 : Nat) ≤ lim by omega]
  rw [compL_all encS rfl (fun s => encS (s.1, overR s.2)) (fun s => by simp [← Res.wp_eq, encS, overR, encR, show (2 : Nat) ≤ lim by omega]) p.2 (by omega)]
  have e : (p.2.map fun s => encS (s.1, overR s.2)) = (p.2.map fun s => (s.1, overR s.2)).map encS := by simp
  rw [e]
  simp [-List.map_map, encP, overP, show (2 : Nat) ≤ lim by omega]
  simp [encR, overR]
end
end HW
end
section
set_option linter.all false
set_option autoImplicit false
/-! MJ25: law k11 -/
namespace HW
open MI PySem
section
variable {T : Tab}
theorem law_k11_run [HasF T "edges_marked" F_edges_marked] [HasF T "truth_by" F_truth_by] [HasF T "blend" F_blend] [HasF T "reach_at" F_reach_at] [HasF T "plot_of" F_plot_of] [HasF T "turns_of" F_turns_of] [HasF T "blend_plots" F_blend_plots] [HasF T "_law_cell" F__law_cell] [HasF T "_law_whole" F__law_whole] [HasF T "_law_stir" F__law_stir] [HasF T "_law_reach" F__law_reach_k09] [HasF T "_law_plot" F__law_plot_k09] [HasF T "_law_scale" F__law_scale] [HasF T "_law_is_reach" F__law_is_reach_k09] [HasF T "_law_is_plot" F__law_is_plot_k09]
    [HasF T "_law_in" F__law_in_k09] [HasF T "_law_at" F__law_at_k09] [HasF T "_law_beside" F__law_beside] [HasF T "_law_days" F__law_days] [HasF T "_law_turns" F__law_turns] [HasF T "_law_word" F__law_word] [HasF T "_law_right" F__law_right] [HasF T "_law_refused" F__law_refused_k11] [HasF T "_law_turned_over" F__law_turned_over] [i : HasF T "law" F_law_k11] (ns : List Int) (hns : ns.length ≤ 63) (n : Nat) :
    ∃ M, run T (n + 5) "law" [scr ns] [] = .ok (.d (.bl true)) M := by
  have : (run T (n + 5) "law" [scr ns] []).wp fun x M' => Kp (x = .d (.bl true)) := by
    have hlim := lim_big
    rw [run_has i]
    refine wp_run rfl ?_
    simp [F_law_k11, b_law_k11]
    have c0 := law_cell_run (T := T) (n + 3) ns 0 []
    simp at c0
    rw [c0]
    generalize ns[0]?.getD 0 = first
    obtain ⟨spread, low, s1, s2, s3, s4, es⟩ := law_scale_ex (T := T) first
    simp
    rw [es (n + 3)]
    simp
    have hcl : (cut ns (some 1) (some 17)).length ≤ 16 := by unfold cut; simp [sIx]; omega
    generalize cut ns (some 1) (some 17) = cells at *
    have e0 : (cells.map D.int).take (sIx cells.length cells.length none) = cells.map D.int := by rw [sIx_none]; exact List.take_of_length_le (by simp)
    have e1 : sIx cells.length 0 none = 0 := rfl
    obtain ⟨c1, q1, q2⟩ := pickS_ints 0 2 (by decide) cells
    obtain ⟨c2, q3, q4⟩ := pickS_ints (sIx cells.length 0 (some 1)) 2 (by decide) cells
    rw [e0, e1, q1]
    obtain ⟨a, a1, a2, a3, ea⟩ := law_plot_ex (T := T) (n + 1) c1 1 48271 spread low s1 (by omega) [.lst (cells.map D.int), .lst (c1.map D.int)] rfl
    rw [ea]
    simp
    rw [e0, q3]
    obtain ⟨b, b1, b2, b3, eb⟩ := law_plot_ex (T := T) (n + 1) c2 2 69621 spread low s1 (by omega) [.lst (cells.map D.int), .lst (c1.map D.int), .lst (c2.map D.int)] rfl
    rw [eb]
    have hL := line_len spread low
    have key : ∀ b : Plot, POk b → PSub (line spread low) b → b.2.length ≤ 16 → (sSeq (sFor (.nm 7) (iSeq (eLst (dCons (eC (.str "both")) (dCons (eC (.str "either")) (dCons (eC (.str "less")) (dCons (eC (.str "just")) dNil)))))) (sIf (tNot (tTru (eCall "_law_right" (dCons (eVar 5) (dCons (eVar 6) (dCons (eVar 7) dNil)))))) (sRet (eC (.bl false))) sNil)) (sSeq (sSet 8 (eLst (dCons (eC (.str "")) (dCons (eC (.str "Both")) (dCons (eC (.str "and")) (dCons (eC (.str "eithe")) (dCons (eC (.str "just ")) (dCons (eC (.str "not")) (dCons (eC (.str "is")) (dCons (eC (.str "known")) (dCons (eC (.str "or")) (dCons (eC (.str "xor")) (dCons (eC (.str "any")) dNil))))))))))))) (sRet (eCall "_law_refused" (dCons (eVar 5) (dCons (eVar 6) (dCons (MI.e2 oIx (eVar 8) (MI.e2 oMod (MI.e2 oDiv (eVar 1) (eC (.int 96))) (eC (.int 11)))) dNil))))))
        (run T (n + 4)) [some (scr ns), some (.int first), some (.int spread), some (.int low), some (.hdl 0), some (encP a), some (encP b), none, none] [.lst (cells.map D.int), .lst (c1.map D.int), .lst (c2.map D.int)]).wp (fun x M' => (fin .pure [] (.d .non) M').wp fun x M' => Kp (x = .d (.bl true))) (fun x M' => (fin .pure [] x M').wp fun x M' => Kp (x = .d (.bl true))) := by
      intro b b1 b2 b3
      simp [show (4 : Nat) ≤ lim by omega]
      have rg : ∀ (w : W4) M, run T (n + 4) "_law_right" [encP a, encP b, .str w.s] M = .ok (.d (.bl true)) M := fun w M => law_right_run n w a1 b1 a2 b2 (by omega) (by omega) (by omega) M
      rw [show ([D.str "both", D.str "either", D.str "less", D.str "just"] : List D) = [W4.both, W4.either, W4.less, W4.just].map fun w => D.str w.s from rfl]
      refine forL_wp (fun w : W4 => D.str w.s) (fun l env M' => M' = [.lst (cells.map D.int), .lst (c1.map D.int), .lst (c2.map D.int)] ∧ ∃ (j7 : Option D), env = [some (scr ns), some (.int first), some (.int spread), some (.int low), some (.hdl 0), some (encP a), some (encP b), j7, none]) ?_ ?_ _ _ _ ⟨rfl, _, rfl⟩
      · rintro _ _ ⟨rfl, j7, rfl⟩
        simp [show (11 : Nat) ≤ lim by omega]
        obtain ⟨d, ⟨s, hs, rfl⟩, e⟩ := oIx_lit (M := [.lst (cells.map D.int), .lst (c1.map D.int), .lst (c2.map D.int), .lst [.str "", .str "Both", .str "and", .str "eithe", .str "just ", .str "not", .str "is", .str "known", .str "or", .str "xor", .str "any"]]) (x := .d (.hdl 3)) (ds := [.str "", .str "Both", .str "and", .str "eithe", .str "just ", .str "not", .str "is", .str "known", .str "or", .str "xor", .str "any"]) (i := first / 96 % 11) (P := fun d => ∃ s : Str, OddW s ∧ d = .str s) (by simp) (Int.emod_nonneg _ (by decide)) (Int.emod_lt_of_pos _ (by decide)) (by
          simp only [List.forall_mem_cons]
          refine ⟨⟨_, ?_, rfl⟩, ⟨_, ?_, rfl⟩, ⟨_, ?_, rfl⟩, ⟨_, ?_, rfl⟩, ⟨_, ?_, rfl⟩, ⟨_, ?_, rfl⟩, ⟨_, ?_, rfl⟩, ⟨_, ?_, rfl⟩, ⟨_, ?_, rfl⟩, ⟨_, ?_, rfl⟩, ⟨_, ?_, rfl⟩, fun _ h => nomatch h⟩
          all_goals (simp [OddW]))
        rw [e]
        simp
        rw [law_refused_k11_run n s hs a1 b1 a2 b2 (by omega) (by omega)]
        simp
        rfl
      · rintro w l _ _ ⟨rfl, j7, rfl⟩
        simp [rg]
        exact ⟨rfl, _, rfl⟩
    have k1 := key a a1 a2 (by omega)
    have k2 := key b b1 b2 (by omega)
    have k3 := key (overP a) (overP_ok a1) (overP_sub a2) (by simp [overP]; omega)
    have hto : ∀ M, run T (n + 4) "_law_turned_over" [encP a] M = .ok (.d (encP (overP a))) M := fun M => law_turned_over_run (n + 3) a (by omega) M
    by_cases f1 : first / 16 % 6 = 1
    · simp [f1]
      simpa using k1
    · by_cases f2 : first / 16 % 6 = 2
      · simp [f2, hto]
        simpa using k3
      · simp [f1, f2]
        simpa using k2
  obtain ⟨x, M', e, rfl⟩ := Res.wp_ex this
  exact ⟨M', e⟩
end
end HW
end
section
set_option linter.all false
set_option autoImplicit false
/-! MJ26: is_plot, of anything -/
namespace HW
open MI PySem
mutual
/-- every handle within is of a list or a dict -/
def kAll (M : Mem) : D → Prop
  | .hdl n => (∃ ds, M[n]? = some (.lst ds)) ∨ ∃ kvs, M[n]? = some (.dic false kvs)
  | .tup ds => kAlls M ds
  | _ => True
def kAlls (M : Mem) : List D → Prop
  | [] => True
  | d :: ds => kAll M d ∧ kAlls M ds
end
theorem kAlls_mem {M : Mem} : ∀ {ds : List D}, kAlls M ds ↔ ∀ d ∈ ds, kAll M d
  | [] => by simp [kAlls]
  | d :: ds => by simp [kAlls, kAlls_mem]
theorem kAll_kOk {M : Mem} {d : D} (h : kAll M d) : kOk M d := by
  cases d with
  | hdl n => simp only [kAll] at h; exact h
  | _ => trivial
theorem kAll_tup {M : Mem} {ds : List D} : kAll M (.tup ds) ↔ ∀ d ∈ ds, kAll M d := by
  show kAlls M ds ↔ _
  exact kAlls_mem
theorem kAll_2 {M : Mem} {d : D} (h : kAll M d) : kOk2 M d := by
  refine ⟨kAll_kOk h, fun a b e => ?_, fun a es e x hx => ?_⟩
  · subst e
    have := kAll_tup.mp h
    exact ⟨kAll_kOk (this a (by simp)), kAll_kOk (this b (by simp))⟩
  · subst e
    exact kAll_kOk (kAll_tup.mp (kAll_tup.mp h (.tup es) (by simp)) x hx)
mutual
theorem kAll_mono {M : Mem} (l : Mem) : ∀ {d : D}, kAll M d → kAll (M ++ l) d
  | .non, _ => by simp [kAll]
  | .bl _, _ => by simp [kAll]
  | .int _, _ => by simp [kAll]
  | .str _, _ => by simp [kAll]
  | .ro _, _ => by simp [kAll]
  | .hdl n, h => by
    simp only [kAll] at h ⊢
    rcases h with ⟨ds, h⟩ | ⟨ds, h⟩
    · exact .inl ⟨ds, get_ahead h⟩
    · exact .inr ⟨ds, get_ahead h⟩
  | .tup ds, h => by
    simp only [kAll] at h ⊢
    exact kAlls_mono l h
theorem kAlls_mono {M : Mem} (l : Mem) : ∀ {ds : List D}, kAlls M ds → kAlls (M ++ l) ds
  | [], _ => by simp [kAlls]
  | d :: ds, h => by
    simp only [kAlls] at h ⊢
    exact ⟨kAll_mono l h.1, kAlls_mono l h.2⟩
end
theorem kAll_int (M : Mem) (i : Int) : kAll M (.int i) := by simp [kAll]
theorem kAll_R (M : Mem) (r : Reach) : kAll M (encR r) := by
  refine kAll_tup.mpr fun d hd => ?_
  simp only [List.mem_cons, List.not_mem_nil, or_false] at hd
  rcases hd with rfl | rfl
  · simp [kAll]
  · refine kAll_tup.mpr fun d hd => ?_
    obtain ⟨x, _, rfl⟩ := List.mem_map.mp hd
    exact kAll_int _ _
theorem kAll_S (M : Mem) (s : Step) : kAll M (encS s) := by
  refine kAll_tup.mpr fun d hd => ?_
  simp only [List.mem_cons, List.not_mem_nil, or_false] at hd
  rcases hd with rfl | rfl
  · exact kAll_int _ _
  · exact kAll_R _ _
theorem kAll_Ss (M : Mem) (l : List Step) : kAll M (.tup (l.map encS)) := by
  refine kAll_tup.mpr fun d hd => ?_
  obtain ⟨x, _, rfl⟩ := List.mem_map.mp hd
  exact kAll_S _ _
theorem kAll_P (M : Mem) (p : Plot) : kAll M (encP p) := by
  refine kAll_tup.mpr fun d hd => ?_
  simp only [List.mem_cons, List.not_mem_nil, or_false] at hd
  rcases hd with rfl | rfl
  · exact kAll_R _ _
  · exact kAll_Ss _ _
/-- what reads as a reach is one -/
theorem rdD_ints : ∀ {es : List D} {o : Option Int}, rdD o es = true → ∃ l : List Int, es = l.map D.int ∧ Rising l ∧ ∀ j, o = some j → ∀ x ∈ l, j < x
  | [], o, _ => ⟨[], rfl, .nil, by simp⟩
  | d :: es, o, h => by
    cases d with
    | int v =>
      have h2 : rdD (some v) es = true ∧ ∀ j, o = some j → j < v := by
        cases o with
        | none => exact ⟨h, by simp⟩
        | some j =>
          simp only [rdD, Bool.and_eq_true, Bool.not_eq_true', decide_eq_false_iff_not] at h
          exact ⟨h.2, fun k e => by cases e; omega⟩
      obtain ⟨l, e, hr, hx⟩ := rdD_ints h2.1
      refine ⟨v :: l, by rw [e]; rfl, Rising.cons.mpr ⟨hx v rfl, hr⟩, fun j e2 x hx' => ?_⟩
      have hj := h2.2 j e2
      rcases List.mem_cons.mp hx' with q | q
      · omega
      · have := hx v rfl x q; omega
    | _ => cases o <;> simp [rdD] at h
theorem isReachD_inv {d : D} (h : isReachD d = true) : ∃ r : Reach, d = encR r ∧ Rising r.2 := by
  unfold isReachD at h
  split at h
  · rename_i f es
    obtain ⟨l, e, hr, _⟩ := rdD_ints h
    exact ⟨(f, l), by rw [e]; rfl, hr⟩
  · cases h
def stepOk (d : D) : Option Step := match d with
  | .tup [.int t, .tup [.bl f, .tup es]] => if rdD none es = true then match asInts es with
      | some l => some (t, (f, l))
      | none => none
    else none
  | _ => none
theorem stepOk_some {d : D} {s : Step} (h : stepOk d = some s) : d = encS s ∧ Rising s.2.2 := by
  unfold stepOk at h
  split at h
  · split at h
    · rename_i t f es hr
      obtain ⟨l, e, hl, _⟩ := rdD_ints hr
      subst e
      rw [asInts_map] at h
      cases h
      exact ⟨rfl, hl⟩
    · cases h
  · cases h
theorem stepOk_S {s : Step} (h : Rising s.2.2) : stepOk (encS s) = some s := by
  have : rdD none (s.2.2.map D.int) = true := rdD_map (fun j e => by cases e) h
  simp [stepOk, encS, encR, this]
/-- the steps of a thing -/
def stD : Reach → Option Int → List D → Bool
  | _, _, [] => true
  | last, ahead, d :: r => match stepOk d with
    | some s => !decide (s.2 = last) && ((match ahead with | none => true | some a => decide (a < s.1)) && stD s.2 (some s.1) r)
    | none => false
def isPlotD : D → Bool
  | .tup [.tup [.bl f, .tup es], .tup ss] => rdD none es && (match asInts es with | some l => stD (f, l) none ss | none => false)
  | _ => false
theorem isPlotD_R {r : Reach} (h : Rising r.2) (ss : List D) : isPlotD (.tup [encR r, .tup ss]) = stD r none ss := by
  have : rdD none (r.2.map D.int) = true := rdD_map (fun j e => by cases e) h
  simp [isPlotD, encR, this]
theorem isPlotD_no {a b : D} (h : isReachD a = false) : isPlotD (.tup [a, b]) = false := by
  unfold isPlotD
  split
  · rename_i f es ss e
    simp only [D.tup.injEq, List.cons.injEq, and_true] at e
    obtain ⟨rfl, rfl⟩ := e
    have : rdD none es = false := h
    simp [this]
  · rfl
theorem isPlotD_no2 {a b : D} (h : ∀ ss, b ≠ .tup ss) : isPlotD (.tup [a, b]) = false := by
  unfold isPlotD
  split
  · rename_i f es ss e
    simp only [D.tup.injEq, List.cons.injEq, and_true] at e
    exact absurd e.2 (h _)
  · rfl
theorem stD_ok {ss : List Step} : ∀ {g : Reach} {o : Option Int}, Alt g ss → Rising (ss.map (·.1)) → (∀ s ∈ ss, Rising s.2.2) → (∀ a, o = some a → ∀ s ∈ ss, a < s.1) → stD g o (ss.map encS) = true := by
  induction ss with
  | nil => intro g o _ _ _ _; rfl
  | cons s ss ih =>
    intro g o ha ht hr ho
    have h1 := ih (g := s.2) (o := some s.1) ha.2 (Rising.cons.mp ht).2 (fun x hx => hr x (List.mem_cons_of_mem _ hx)) (fun a e x hx => by cases e; exact turns_gt ht x hx)
    have h2 : ¬ s.2 = g := ha.1
    rw [List.map_cons, stD, stepOk_S (hr s List.mem_cons_self)]
    cases o with
    | none => simp [h1, h2]
    | some a => have := ho a rfl s List.mem_cons_self; simp [h1, h2, this]
theorem isPlotD_P {p : Plot} (h : POk p) : isPlotD (encP p) = true := by
  unfold encP
  rw [isPlotD_R h.g]
  exact stD_ok h.alt h.ts h.rs (by simp)
section
variable {T : Tab}
theorem is_turn_run [i : HasF T "is_turn" F_is_turn] (n : Nat) (d : D) (M : Mem) (h : kOk M d) : run T (n + 1) "is_turn" [d] M = .ok (.d (.bl (wholeD d))) M := by
  rw [run_has i, ← Res.wp_eq]
  refine wp_run rfl ?_
  simp [F_is_turn, b_is_turn]
  rw [bIsi_k _ (.inr (.inr rfl)) h]
  cases d with
  | int v => simp [tyB, wholeD]
  | bl v => simp [tyB, wholeD]
  | _ => simp [tyB, wholeD]
theorem stepOk_two {a b : D} : (stepOk (.tup [a, b])).isSome = (wholeD a && isReachD b) := by
  cases a with
  | int t =>
    cases hb : isReachD b with
    | true =>
      obtain ⟨r, rfl, hr⟩ := isReachD_inv hb
      have := stepOk_S (s := (t, r)) hr
      simp only [encS] at this
      rw [this]; rfl
    | false =>
      have : stepOk (.tup [.int t, b]) = none := by
        unfold stepOk
        split
        · rename_i t' f es e
          simp only [D.tup.injEq, List.cons.injEq, and_true] at e
          obtain ⟨_, rfl⟩ := e
          have : rdD none es = false := hb
          rw [if_neg (by rw [this]; simp)]
        · rfl
      rw [this]; rfl
  | _ => simp [stepOk, wholeD]
theorem is_step_run [HasF T "is_turn" F_is_turn] [HasF T "is_reach" F_is_reach] [i : HasF T "is_step" F_is_step] (n : Nat) (d : D) (M : Mem) (h : kAll M d) : run T (n + 2) "is_step" [d] M = .ok (.d (.bl (stepOk d).isSome)) M := by
  rw [run_has i, ← Res.wp_eq]
  refine wp_run rfl ?_
  simp [F_is_step, b_is_step]
  rw [bIsi_k _ (.inl rfl) (kAll_kOk h)]
  cases d with
  | tup ds =>
    have hk := kAll_tup.mp h
    rcases ds with _ | ⟨a, _ | ⟨b, _ | ⟨c, r⟩⟩⟩
    · simp [tyB, stepOk]
    · simp [tyB, stepOk]
    · simp [tyB]
      rw [is_turn_run n a M (kAll_kOk (hk a (by simp))), stepOk_two]
      cases wholeD a with
      | false => simp
      | true =>
        simp
        rw [is_reach_run n b M (kAll_2 (hk b (by simp)))]
        simp
    · simp [tyB, stepOk]
      have : ¬ ((r.length : Int) + 1 + 1 + 1 = 2) := by omega
      simp [this]
  | _ => simp [tyB, stepOk]
theorem is_plot_run [HasF T "is_turn" F_is_turn] [HasF T "is_reach" F_is_reach] [HasF T "is_step" F_is_step] [i : HasF T "is_plot" F_is_plot] (n : Nat) (d : D) (M : Mem) (h : kAll M d) : run T (n + 3) "is_plot" [d] M = .ok (.d (.bl (isPlotD d))) M := by
  rw [run_has i, ← Res.wp_eq]
  refine wp_run rfl ?_
  simp [F_is_plot, b_is_plot]
  rw [bIsi_k _ (.inl rfl) (kAll_kOk h)]
  cases d with
  | tup ds =>
    have hk := kAll_tup.mp h
    rcases ds with _ | ⟨a, _ | ⟨b, _ | ⟨c, r⟩⟩⟩
    · simp [tyB, isPlotD]
    · simp [tyB, isPlotD]
    · simp [tyB]
      rw [is_reach_run (n + 1) a M (kAll_2 (hk a (by simp)))]
      cases hr : isReachD a with
      | false => simp [isPlotD_no hr]
      | true =>
        obtain ⟨g, rfl, hg⟩ := isReachD_inv hr
        simp
        rw [bIsi_k _ (.inl rfl) (kAll_kOk (hk b (by simp)))]
        cases b with
        | tup ss =>
          have hs := kAll_tup.mp (hk (.tup ss) (by simp))
          simp [tyB]
          rw [isPlotD_R hg]
          refine forL_wpD (fun l env M' => M' = M ∧ ∃ (last : Reach) (o : Option Int) (j : Option D), env = [some (.tup [encR g, .tup ss]), some (encR last), some (encO o), j] ∧ (∀ d ∈ l, kAll M d) ∧ stD last o l = stD g none ss) ?_ ?_ _ _ _ ⟨rfl, g, none, _, rfl, hs, rfl⟩
          · rintro _ M' ⟨hM', last, o, j, rfl, _, hst⟩
            simp [hM', ← hst, stD]
          · rintro d l _ M' ⟨hM', last, o, j, rfl, hd, hst⟩
            rw [hM']
            have hd' : ∀ x ∈ l, kAll M x := fun x hx => hd x (List.mem_cons_of_mem _ hx)
            simp
            rw [is_step_run n d M (hd d List.mem_cons_self)]
            rw [stD] at hst
            cases hs : stepOk d with
            | none =>
              rw [hs] at hst
              simp [← hst]
            | some s =>
              rw [hs] at hst
              obtain ⟨rfl, hsr⟩ := stepOk_some hs
              simp only at hst
              by_cases e : s.2 = last
              · simp [e] at hst ⊢
                simp [← hst]
              · simp [e] at hst ⊢
                cases o with
                | none =>
                  simp at hst
                  simp [encO]
                  exact ⟨rfl, s.2, some s.1, _, rfl, hd', hst⟩
                | some a =>
                  by_cases c : s.1 ≤ a
                  · have c' : ¬ a < s.1 := by omega
                    simp [c'] at hst
                    simp [encO, c, ← hst]
                  · have c' : a < s.1 := by omega
                    simp [c'] at hst
                    simp [encO, c]
                    exact ⟨rfl, s.2, some s.1, _, rfl, hd', hst⟩
        | _ => simp [tyB, isPlotD]
    · simp [tyB, isPlotD]
      have : ¬ ((r.length : Int) + 1 + 1 + 1 = 2) := by omega
      simp [this]
  | _ => simp [tyB, isPlotD]
end
end HW
end
section
set_option linter.all false
set_option autoImplicit false
/-! MJ27: the law's own is_plot, of anything -/
namespace HW
open MI PySem
mutual
/-- no tuple within is too long -/
def shortD : D → Prop
  | .tup ds => ds.length ≤ 1000000 ∧ shortDs ds
  | _ => True
def shortDs : List D → Prop
  | [] => True
  | d :: ds => shortD d ∧ shortDs ds
end
theorem shortDs_mem : ∀ {ds : List D}, shortDs ds ↔ ∀ d ∈ ds, shortD d
  | [] => by simp [shortDs]
  | d :: ds => by simp [shortDs, shortDs_mem]
theorem short_tup {ds : List D} : shortD (.tup ds) ↔ ds.length ≤ 1000000 ∧ ∀ d ∈ ds, shortD d := by
  show (ds.length ≤ 1000000 ∧ shortDs ds) ↔ _
  rw [shortDs_mem]
theorem short_R {r : Reach} (h : r.2.length ≤ 1000) : shortD (encR r) := by
  refine short_tup.mpr ⟨by simp, fun d hd => ?_⟩
  simp only [List.mem_cons, List.not_mem_nil, or_false] at hd
  rcases hd with rfl | rfl
  · simp [shortD]
  · refine short_tup.mpr ⟨by simp; omega, fun d hd => ?_⟩
    obtain ⟨x, _, rfl⟩ := List.mem_map.mp hd
    simp [shortD]
theorem short_S {s : Step} (h : s.2.2.length ≤ 1000) : shortD (encS s) := by
  refine short_tup.mpr ⟨by simp, fun d hd => ?_⟩
  simp only [List.mem_cons, List.not_mem_nil, or_false] at hd
  rcases hd with rfl | rfl
  · simp [shortD]
  · exact short_R h
theorem short_Ss {l : List Step} (hl : l.length ≤ 1000) (h : ∀ s ∈ l, s.2.2.length ≤ 1000) : shortD (.tup (l.map encS)) := by
  refine short_tup.mpr ⟨by simp; omega, fun d hd => ?_⟩
  obtain ⟨x, hx, rfl⟩ := List.mem_map.mp hd
  exact short_S (h x hx)
theorem short_is {d : D} (h : shortD d) : ∀ a es, d = .tup [a, .tup es] → es.length ≤ 1000000 := fun a es e => by
  subst e
  exact (short_tup.mp ((short_tup.mp h).2 (.tup es) (by simp))).1
section
variable {T : Tab}
theorem law_is_plot_run [HasF T "_law_whole" F__law_whole] [HasF T "_law_is_reach" F__law_is_reach_k09] [i : HasF T "_law_is_plot" F__law_is_plot_k09] (n : Nat) (d : D) (M : Mem) (h : kAll M d) (hs : shortD d) : run T (n + 3) "_law_is_plot" [d] M = .ok (.d (.bl (isPlotD d))) M := by
  rw [run_has i, ← Res.wp_eq]
  refine wp_run rfl ?_
  simp [F__law_is_plot_k09, b__law_is_plot_k09]
  rw [bIsi_k _ (.inl rfl) (kAll_kOk h)]
  cases d with
  | tup ds =>
    have hk := kAll_tup.mp h
    have hsh := (short_tup.mp hs).2
    rcases ds with _ | ⟨a, _ | ⟨b, _ | ⟨c, r⟩⟩⟩
    · simp [tyB, isPlotD]
    · simp [tyB, isPlotD]
    · simp [tyB]
      rw [law_is_reach_run n a M (kAll_2 (hk a (by simp))) (short_is (hsh a (by simp)))]
      cases hr : isReachD a with
      | false => simp [isPlotD_no hr]
      | true =>
        obtain ⟨g, rfl, hg⟩ := isReachD_inv hr
        simp
        rw [bIsi_k _ (.inl rfl) (kAll_kOk (hk b (by simp)))]
        cases b with
        | tup ss =>
          have hss := kAll_tup.mp (hk (.tup ss) (by simp))
          have hssh := short_tup.mp (hsh (.tup ss) (by simp))
          simp [tyB]
          refine ⟨by omega, ?_⟩
          rw [isPlotD_R hg]
          refine forL_range (fun j env M' => M' = M ∧ ∃ (last : Reach) (o : Option Int) (j2 j3 : Option D), env = [some (.tup [encR g, .tup ss]), some (encR last), j2, j3] ∧ (j = 0 → o = none) ∧ (0 < j → ∃ s : Step, ss[j - 1]? = some (encS s) ∧ o = some s.1) ∧ stD last o (ss.drop j) = stD g none ss) ?_ ?_ _ _ ⟨rfl, g, none, _, _, rfl, fun _ => rfl, fun h => absurd h (Nat.lt_irrefl 0), rfl⟩
          · rintro _ M' ⟨hM', last, o, j2, j3, rfl, _, _, hst⟩
            rw [List.drop_length] at hst
            simp [hM', ← hst, stD]
          · rintro j _ M' hj ⟨hM', last, o, j2, j3, rfl, h3, h4, hst⟩
            rw [hM']
            rw [List.drop_eq_getElem_cons hj, stD] at hst
            have hmem := List.getElem_mem hj
            have ex : oIx (.d (.tup ss)) (.d (.int (j : Int))) M = .ok (.d ss[j]) M := oIx_seq rfl (k := j) (by rw [ixN_pos (by omega) (by omega)]; simp) (List.getElem?_eq_getElem hj)
            have he1 := hss _ hmem
            have he2 := hssh.2 _ hmem
            have hgj : ss[j]? = some ss[j] := List.getElem?_eq_getElem hj
            simp [ex]
            generalize hes : ss[j] = e at *
            rw [bIsi_k _ (.inl rfl) (kAll_kOk he1)]
            have no : ∀ (P : Prop), stepOk e = none → (false = stD g none ss → P) → P := fun P hn hp => by
              rw [hn] at hst
              exact hp (by simpa using hst)
            cases e with
            | tup ds =>
              have hkd := kAll_tup.mp he1
              have hsd := (short_tup.mp he2).2
              rcases ds with _ | ⟨a, _ | ⟨b, _ | ⟨c, r⟩⟩⟩
              · exact no _ rfl fun q => by simp [tyB, ← q]
              · exact no _ (by simp [stepOk]) fun q => by simp [tyB, ← q]
              · simp [tyB]
                rw [law_whole_runD _ a M (kAll_kOk (hkd a (by simp)))]
                have two := stepOk_two (a := a) (b := b)
                cases hw : wholeD a with
                | false =>
                  rw [hw] at two
                  refine no _ (by simpa using two) fun q => by simp [← q]
                | true =>
                  simp
                  rw [law_is_reach_run n b M (kAll_2 (hkd b (by simp))) (short_is (hsd b (by simp)))]
                  cases hrb : isReachD b with
                  | false =>
                    rw [hw, hrb] at two
                    refine no _ (by simpa using two) fun q => by simp [← q]
                  | true =>
                    obtain ⟨rb, rfl, hrr⟩ := isReachD_inv hrb
                    cases a with
                    | int t =>
                      have hso := stepOk_S (s := (t, rb)) hrr
                      simp only [encS] at hso
                      rw [hso] at hst
                      simp only at hst
                      by_cases el : rb = last
                      · simp [el] at hst ⊢
                        simp [← hst]
                      · simp [el] at hst ⊢
                        rcases Nat.eq_zero_or_pos j with hj0 | hj0
                        · subst hj0
                          rw [h3 rfl] at hst
                          simp at hst
                          simp
                          exact ⟨rfl, rb, some t, _, _, rfl, by simp, fun _ => ⟨(t, rb), by simpa [encS] using hgj, rfl⟩, by simpa using hst⟩
                        · obtain ⟨s', hs1, hs2⟩ := h4 hj0
                          subst hs2
                          have hj1 : j - 1 < ss.length := by omega
                          have hj0' : ¬ j = 0 := by omega
                          have ex2 : oIx (.d (.tup ss)) (.d (.int ((j : Int) - 1))) M = .ok (.d (encS s')) M := oIx_seq rfl (k := j - 1) (by rw [ixN_pos (by omega) (by omega)]; congr 1; omega) hs1
                          by_cases c : t ≤ s'.1
                          · have c' : ¬ s'.1 < t := by omega
                            simp [c'] at hst
                            simp [hj0, ex2, c, ← hst]
                          · have c' : s'.1 < t := by omega
                            simp [c'] at hst
                            simp [hj0, ex2, c]
                            exact ⟨rfl, rb, some t, _, _, rfl, by simp, fun _ => ⟨(t, rb), by simpa [encS] using hgj, rfl⟩, hst⟩
                    | _ => simp [wholeD] at hw
              · refine no _ (by simp [stepOk]) fun q => ?_
                simp [tyB]
                have : ¬ ((r.length : Int) + 1 + 1 + 1 = 2) := by omega
                simp [this, ← q]
            | _ => exact no _ rfl fun q => by simp [tyB, ← q]
        | _ => simp [tyB, isPlotD]
    · simp [tyB, isPlotD]
      have : ¬ ((r.length : Int) + 1 + 1 + 1 = 2) := by omega
      simp [this]
  | _ => simp [tyB, isPlotD]
end
end HW
end
section
set_option linter.all false
set_option autoImplicit false
/-! MJ28: spoilt plots; law k12 -/
namespace MI
@[simp] theorem fin_keep (M0 M : Mem) (x : RV) : fin .keep M0 x M = .ok x M := nrfl rfl
section
variable {M : Mem} {b : Bool}
@[simp] theorem bInt_bl : bInt (.d (.bl b)) M = .ok (.d (.int (if b then 1 else 0))) M := nrfl rfl
@[simp] theorem bInt_int (i : Int) : bInt (.d (.int i)) M = .ok (.d (.int i)) M := nrfl rfl
@[simp] theorem bStr_int (i : Int) : bStr (.d (.int i)) M = if i.natAbs.log2 < 1920 then .ok (.d (.str (PySem.Str.ofString (toString i)))) M else .bad := nrfl rfl
end
end MI
namespace HW
open MI PySem
theorem kAll_non (M : Mem) : kAll M .non := by simp [kAll]
theorem kAll_bl (M : Mem) (b : Bool) : kAll M (.bl b) := by simp [kAll]
theorem kAll_str (M : Mem) (b : Str) : kAll M (.str b) := by simp [kAll]
theorem short_int (i : Int) : shortD (.int i) := by simp [shortD]
theorem short_non : shortD .non := by simp [shortD]
theorem short_bl (b : Bool) : shortD (.bl b) := by simp [shortD]
theorem short_str (b : Str) : shortD (.str b) := by simp [shortD]
theorem short_hdl (n : Nat) : shortD (.hdl n) := by simp [shortD]
def vldH (M : Mem) (n : Nat) : Prop := (∃ ds, M[n]? = some (.lst ds)) ∨ ∃ kvs, M[n]? = some (.dic false kvs)
mutual
theorem kAll_to {M M' : Mem} (hv : ∀ n, vldH M n → vldH M' n) : ∀ {d : D}, kAll M d → kAll M' d
  | .non, _ => by simp [kAll]
  | .bl _, _ => by simp [kAll]
  | .int _, _ => by simp [kAll]
  | .str _, _ => by simp [kAll]
  | .ro _, _ => by simp [kAll]
  | .hdl n, h => by
    simp only [kAll] at h ⊢
    exact hv n h
  | .tup ds, h => by
    simp only [kAll] at h ⊢
    exact kAlls_to hv h
theorem kAlls_to {M M' : Mem} (hv : ∀ n, vldH M n → vldH M' n) : ∀ {ds : List D}, kAlls M ds → kAlls M' ds
  | [], _ => by simp [kAlls]
  | d :: ds, h => by
    simp only [kAlls] at h ⊢
    exact ⟨kAll_to hv h.1, kAlls_to hv h.2⟩
end
theorem vld_mid {M e : Mem} {a b : List D} (n : Nat) (h : vldH (M ++ O.lst a :: e) n) : vldH (M ++ O.lst b :: e) n := by
  unfold vldH at *
  by_cases c : n < M.length
  · rw [List.getElem?_append_left c] at h ⊢; exact h
  · have c' : M.length ≤ n := by omega
    rw [List.getElem?_append_right c'] at h ⊢
    cases hk : n - M.length with
    | zero => exact .inl ⟨b, rfl⟩
    | succ k => rw [hk] at h; exact h
/-- a datum that may be looked over -/
def oddD (M : Mem) (d : D) : Prop := kAll M d ∧ shortD d
theorem odd_tup {M : Mem} {ds : List D} (hl : ds.length ≤ 1000000) (h : ∀ d ∈ ds, oddD M d) : oddD M (.tup ds) := ⟨kAll_tup.mpr fun d hd => (h d hd).1, short_tup.mpr ⟨hl, fun d hd => (h d hd).2⟩⟩
theorem odd_mono {M : Mem} {d : D} (l : Mem) (h : oddD M d) : oddD (M ++ l) d := ⟨kAll_mono l h.1, h.2⟩
theorem odd_int (M : Mem) (i : Int) : oddD M (.int i) := ⟨kAll_int _ _, short_int _⟩
theorem odd_non (M : Mem) : oddD M .non := ⟨kAll_non _, short_non⟩
theorem odd_bl (M : Mem) (b : Bool) : oddD M (.bl b) := ⟨kAll_bl _ _, short_bl _⟩
theorem odd_str (M : Mem) (b : Str) : oddD M (.str b) := ⟨kAll_str _ _, short_str _⟩
theorem odd_lst {M : Mem} {n : Nat} {ds : List D} (h : M[n]? = some (.lst ds)) : oddD M (.hdl n) := ⟨by simp only [kAll]; exact .inl ⟨ds, h⟩, short_hdl _⟩
theorem odd_dic {M : Mem} {n : Nat} {ds : List (D × D)} (h : M[n]? = some (.dic false ds)) : oddD M (.hdl n) := ⟨by simp only [kAll]; exact .inr ⟨ds, h⟩, short_hdl _⟩
theorem odd_R {M : Mem} {r : Reach} (h : r.2.length ≤ 1000) : oddD M (encR r) := ⟨kAll_R _ _, short_R h⟩
theorem odd_ints {M : Mem} {l : List Int} (h : l.length ≤ 1000) : oddD M (.tup (l.map D.int)) := odd_tup (by simp; omega) fun d hd => by obtain ⟨x, _, rfl⟩ := List.mem_map.mp hd; exact odd_int _ _
theorem odd_S {M : Mem} {s : Step} (h : s.2.2.length ≤ 1000) : oddD M (encS s) := ⟨kAll_S _ _, short_S h⟩
theorem odd_Ss {M : Mem} {l : List Step} (hl : l.length ≤ 1000) (h : ∀ s ∈ l, s.2.2.length ≤ 1000) : oddD M (.tup (l.map encS)) := ⟨kAll_Ss _ _, short_Ss hl h⟩
theorem odd_mid {M e : Mem} {a b : List D} {d : D} (h : oddD (M ++ O.lst a :: e) d) : oddD (M ++ O.lst b :: e) d := ⟨kAll_to vld_mid h.1, h.2⟩
def oddX (x : RV) (M : Mem) : Prop := oddD (box x M).2 (box x M).1
theorem oddX_d {M : Mem} {d : D} (h : oddD M d) : oddX (.d d) M := h
theorem oddX_lst {M : Mem} {ds : List D} : oddX (.o (.lst ds)) M := by
  unfold oddX
  simp only [box_o]
  exact odd_lst (ds := ds) (by simp)
theorem oddX_dic {M : Mem} {ds : List (D × D)} : oddX (.o (.dic false ds)) M := by
  unfold oddX
  simp only [box_o]
  exact odd_dic (ds := ds) (by simp)
theorem two_mem {P : D → Prop} {a b : D} (ha : P a) (hb : P b) : ∀ d ∈ [a, b], P d := by
  simp only [List.forall_mem_cons]; exact ⟨ha, hb, fun _ h => nomatch h⟩
theorem three_mem {P : D → Prop} {a b c : D} (ha : P a) (hb : P b) (hc : P c) : ∀ d ∈ [a, b, c], P d := by
  simp only [List.forall_mem_cons]; exact ⟨ha, hb, hc, fun _ h => nomatch h⟩
theorem one_mem {P : D → Prop} {a : D} (ha : P a) : ∀ d ∈ [a], P d := by
  simp only [List.forall_mem_cons]; exact ⟨ha, fun _ h => nomatch h⟩
section
variable {T : Tab}
theorem law_bad_reach_ex [i : HasF T "_law_bad_reach" F__law_bad_reach] (n : Nat) (r : Reach) (way : Int) (hl : r.2.length ≤ 20) (M : Mem) :
    (run T (n + 1) "_law_bad_reach" [encR r, .int way] M).wp fun x M' => Kp (∃ l, M' = M ++ l ∧ oddX x M') := by
  have hlim := lim_big
  rw [run_has i]
  refine wp_run rfl ?_
  have l1 : (1 : Nat) ≤ lim := by omega
  have l2 : (2 : Nat) ≤ lim := by omega
  have l3 : (3 : Nat) ≤ lim := by omega
  have q1 : r.2.length + 1 ≤ lim := by omega
  have o2 : ∀ {M : Mem} {a b : D}, oddD M a → oddD M b → oddX (.d (.tup [a, b])) M := fun ha hb => oddX_d (odd_tup (by simp) (two_mem ha hb))
  simp [F__law_bad_reach, b__law_bad_reach, l1, l2, l3, q1]
  split
  · exact ⟨[], by simp, oddX_lst⟩
  split
  · exact ⟨[], by simp, o2 (odd_int _ _) (odd_ints (by omega))⟩
  split
  · exact ⟨[.lst (r.2.map D.int)], by simp, o2 (odd_bl _ _) (odd_lst (get_off0 _ _))⟩
  split
  · have e : r.2.map D.int ++ [D.int 0] = (r.2 ++ [0]).map D.int := by simp
    have hc : ∀ (lo hi : Option Int), (cut (r.2 ++ [0]) lo hi).length ≤ 21 := fun lo hi => by
      unfold cut
      rw [List.length_take, List.length_drop]
      simp only [List.length_append, List.length_cons, List.length_nil]
      omega
    have h1 := hc (some (-1)) none
    simp [e, -List.map_append]
    have l4 : r.2.length + (cut (r.2 ++ [0]) (some (-1)) none).length ≤ lim := by omega
    have l5 : r.2.length + (cut (r.2 ++ [0]) (some (-1)) none).length + (cut (r.2 ++ [0]) (some (-1)) none).length ≤ lim := by omega
    simp [l4, l5]
    refine ⟨[], by simp, ?_⟩
    have := o2 (M := M) (odd_bl M r.1) (odd_ints (M := M) (l := r.2 ++ (cut (r.2 ++ [0]) (some (-1)) none ++ cut (r.2 ++ [0]) (some (-1)) none)) (by simp; omega))
    simp only [List.map_append, List.append_assoc] at this ⊢
    rw [show cut (r.2.map D.int ++ [D.int 0]) (some (-1)) none = (cut (r.2 ++ [0]) (some (-1)) none).map D.int from by rw [e, pickSlice]]
    exact this
  split
  · exact ⟨[], by simp, o2 (odd_bl _ _) (odd_ints (l := [5, 3]) (by simp))⟩
  split
  · exact ⟨[], by simp, oddX_d (odd_tup (by simp) (three_mem (odd_bl _ _) (odd_ints (by omega)) (odd_ints (l := []) (by simp))))⟩
  split
  · exact ⟨[], by simp, o2 (odd_bl _ _) (odd_tup (by simp) (one_mem (odd_bl _ _)))⟩
  · exact ⟨[], by simp, oddX_d (odd_non _)⟩
theorem log2_small {v : Int} (h0 : -10 ^ 70 < v) (h1 : v < 10 ^ 70) : v.natAbs.log2 < 1920 := by
  have : v.natAbs < 2 ^ 256 := by omega
  rcases Nat.eq_zero_or_pos v.natAbs with h | h
  · rw [h]; decide
  · have := (Nat.log2_lt (by omega)).mpr this
    omega
theorem law_bad_step_ex [i : HasF T "_law_bad_step" F__law_bad_step] (n : Nat) (s : Step) (a : Reach) (way : Int) (h0 : 0 ≤ way) (h1 : way < 11) (hl : s.2.2.length ≤ 20) (ha : a.2.length ≤ 20) (M : Mem) :
    (run T (n + 1) "_law_bad_step" [encS s, encR a, .int way] M).wp fun x M' => Kp (M' = M ∧ oddX x M') := by
  have hlim := lim_big
  rw [run_has i]
  refine wp_run rfl ?_
  have l1 : (1 : Nat) ≤ lim := by omega
  have l2 : (2 : Nat) ≤ lim := by omega
  have l3 : (3 : Nat) ≤ lim := by omega
  have l4 : (4 : Nat) ≤ lim := by omega
  have o2 : ∀ {M : Mem} {a b : D}, oddD M a → oddD M b → oddX (.d (.tup [a, b])) M := fun ha hb => oddX_d (odd_tup (by simp) (two_mem ha hb))
  have m0 := Int.emod_nonneg s.1 (show (10 ^ 60 : Int) ≠ 0 by decide)
  have m1 := Int.emod_lt_of_pos s.1 (show (0 : Int) < 10 ^ 60 by decide)
  have lg := log2_small (v := s.1 % 10 ^ 60) (by omega) (by omega)
  simp at lg
  simp [F__law_bad_step, b__law_bad_step, l1, l2, l3, l4]
  split
  · exact ⟨rfl, oddX_lst⟩
  split
  · exact ⟨rfl, oddX_d (odd_tup (by simp) (one_mem (odd_int _ _)))⟩
  split
  · exact ⟨rfl, o2 (odd_bl _ _) (odd_R (by omega))⟩
  split
  · simp [lg]
    exact ⟨rfl, o2 (odd_str _ _) (odd_R (by omega))⟩
  split
  · exact ⟨rfl, o2 (odd_non _) (odd_R (by omega))⟩
  split
  · exact ⟨rfl, o2 (odd_int _ _) (odd_R (by omega))⟩
  split
  · rename_i h7
    have hk : way - 7 = 0 ∨ way - 7 = 1 ∨ way - 7 = 2 ∨ way - 7 = 3 := by omega
    have gx : ∀ (k : Nat) (d : D), ([D.non, .int s.1, .str "in", .hdl M.length] : List D)[k]? = some d → ∀ M', oIx (.o (.lst [D.non, .int s.1, .str "in", .hdl M.length])) (.d (.int (k : Int))) M' = .ok (.d d) M' := fun k d h M' => by
      have hk : k < 4 := by
        have := (List.getElem?_eq_some_iff.mp h).1
        simpa using this
      exact oIx_seq rfl (k := k) (by rw [ixN_pos (by omega) (by simp; omega)]; simp) h
    rcases hk with e | e | e | e <;> rw [e]
    · have := gx 0 _ rfl (M ++ [O.dic false []])
      simp at this
      rw [this]
      simp
      exact ⟨rfl, oddX_d (odd_non _)⟩
    · have := gx 1 _ rfl (M ++ [O.dic false []])
      simp at this
      rw [this]
      simp
      exact ⟨rfl, oddX_d (odd_int _ _)⟩
    · have := gx 2 _ rfl (M ++ [O.dic false []])
      simp at this
      rw [this]
      simp [fin, D.bel]
      exact ⟨rfl, oddX_d (odd_str _ _)⟩
    · have := gx 3 _ rfl (M ++ [O.dic false []])
      simp at this
      rw [this]
      simp
      exact ⟨rfl, oddX_dic⟩
  · exact ⟨rfl, oddX_d (odd_tup (by simp) (three_mem (odd_int _ _) (odd_R (by omega)) (odd_R (by omega))))⟩
theorem law_odd_ex [i : HasF T "_law_odd" F__law_odd] (n : Nat) (p : Plot) (c : Int) (h0 : p.2.length ≤ 100) (h1 : p.1.2.length ≤ 20) (h2 : ∀ s ∈ p.2, s.2.2.length ≤ 20) (M : Mem) :
    (run T (n + 1) "_law_odd" [encP p, .int c] M).wp fun x M' => Kp (∃ l, M' = M ++ l ∧ oddX x M') := by
  have hlim := lim_big
  rw [run_has i]
  refine wp_run rfl ?_
  have l : ∀ k : Nat, k ≤ 14 → k ≤ lim := fun k h => by omega
  have lN := fun k (h : decide (k ≤ 14) = true) => l k (of_decide_eq_true h)
  have q : ∀ (M : Mem), bList (.d (encP p)) M = .ok (.o (.lst [encR p.1, .tup (p.2.map encS)])) M := fun M => bList_tup _
  have q2 : ∀ (M : Mem), oAdd (.d (encP p)) (.d (.tup [.tup []])) M = .ok (.d (.tup [encR p.1, .tup (p.2.map encS), .tup []])) M := fun M => by
    unfold encP; rw [oAdd_tup]; simp; try omega
  simp [F__law_odd, b__law_odd, q, q2, lN 0 rfl, lN 1 rfl, lN 2 rfl, lN 9 rfl, lN 5 rfl, lN 14 rfl]
  have oP : ∀ {M : Mem}, oddD M (encR p.1) := odd_R (by omega)
  have oS : ∀ {M : Mem}, oddD M (.tup (p.2.map encS)) := odd_Ss (by omega) fun s hs => by have := h2 s hs; omega
  generalize hex : ([O.lst [], O.lst [encR p.1, .tup (p.2.map encS)], O.lst (p.2.map encS), O.lst [.non, .int 3, .str "plot", .hdl M.length, .tup [], .tup [encR p.1], .hdl (M.length + 1), .tup [encR p.1, .tup (p.2.map encS), .tup []], .tup [encR p.1, .hdl (M.length + 2)]], O.dic false [],
    O.lst [.non, .int 3, .str "plot", .hdl M.length, .tup [], .tup [encR p.1], .hdl (M.length + 1), .tup [encR p.1, .tup (p.2.map encS), .tup []], .tup [encR p.1, .hdl (M.length + 2)], .tup [.tup (p.2.map encS), encR p.1], .tup [.non, .tup (p.2.map encS)], .hdl (M.length + 4), .tup [.tup [.bl false, .tup []], .int 0], .bl true]] : Mem) = ex
  have e0 : ∀ {M : Mem}, oddD M (.tup []) := odd_tup (by simp) nofun
  have g0 : oddD (M ++ ex) (.hdl M.length) := odd_lst (ds := []) (by rw [← hex, get_off0]; rfl)
  have g1 : oddD (M ++ ex) (.hdl (M.length + 1)) := odd_lst (by rw [← hex, get_off]; rfl)
  have g2 : oddD (M ++ ex) (.hdl (M.length + 2)) := odd_lst (by rw [← hex, get_off]; rfl)
  have g4 : oddD (M ++ ex) (.hdl (M.length + 4)) := odd_dic (ds := []) (by rw [← hex, get_off]; rfl)
  obtain ⟨d, hd, e⟩ := oIx_lit (M := M ++ ex) (x := .d (.hdl (M.length + 5))) (i := c % 14) (P := fun d => oddD (M ++ ex) d) (ds := [.non, .int 3, .str "plot", .hdl M.length, .tup [], .tup [encR p.1], .hdl (M.length + 1), .tup [encR p.1, .tup (p.2.map encS), .tup []], .tup [encR p.1, .hdl (M.length + 2)], .tup [.tup (p.2.map encS), encR p.1], .tup [.non, .tup (p.2.map encS)], .hdl (M.length + 4), .tup [.tup [.bl false, .tup []], .int 0], .bl true])
    (by rw [seqOf_hdl, get_off, ← hex]; rfl) (Int.emod_nonneg _ (by decide)) (Int.emod_lt_of_pos _ (by decide)) (by
      simp only [List.forall_mem_cons]
      exact ⟨odd_non _, odd_int _ _, odd_str _ _, g0, e0, odd_tup (by simp) (one_mem oP), g1, odd_tup (by simp) (three_mem oP oS e0), odd_tup (by simp) (two_mem oP g2), odd_tup (by simp) (two_mem oS oP), odd_tup (by simp) (two_mem (odd_non _) oS), g4, odd_tup (by simp) (two_mem (odd_tup (by simp) (two_mem (odd_bl _ _) e0)) (odd_int _ _)), odd_bl _ _, fun _ h => nomatch h⟩)
  rw [e]
  exact ⟨ex, rfl, hd⟩
theorem set_mid {A B : Type} (f : A → B) (l : List A) (k : Nat) (x : B) : ∀ d ∈ (l.map f).set k x, d = x ∨ ∃ a ∈ l, d = f a := fun d hd => by
  rcases List.mem_or_eq_of_mem_set hd with q | q
  · obtain ⟨a, ha, rfl⟩ := List.mem_map.mp q
    exact .inr ⟨a, ha, rfl⟩
  · exact .inl q
theorem law_spoilt_ex [HasF T "_law_bad_reach" F__law_bad_reach] [HasF T "_law_bad_step" F__law_bad_step] [HasF T "_law_odd" F__law_odd] [i : HasF T "_law_spoilt" F__law_spoilt] (n : Nat) (p : Plot) (c : Int) (h0 : p.2.length ≤ 100) (h1 : p.1.2.length ≤ 20) (h2 : ∀ s ∈ p.2, s.2.2.length ≤ 20) (M : Mem) :
    (run T (n + 2) "_law_spoilt" [encP p, .int c] M).wp fun x M' => Kp (oddX x M') := by
  have hlim := lim_big
  rw [run_has i]
  refine wp_run rfl ?_
  have l2 : (2 : Nat) ≤ lim := by omega
  have oP : ∀ {M : Mem}, oddD M (encR p.1) := odd_R (by omega)
  have oS : ∀ {M : Mem}, oddD M (.tup (p.2.map encS)) := odd_Ss (by omega) fun s hs => by have := h2 s hs; omega
  simp [F__law_spoilt, b__law_spoilt]
  have odd : ∀ (M : Mem), (run T (n + 1) "_law_odd" [encP p, .int (c / 4)] M).wp fun x M' => (fin .keep M x M').wp fun x M' => Kp (oddX x M') := fun M => by
    refine Res.wp_mono (law_odd_ex n p (c / 4) h0 h1 h2 M) ?_
    rintro x M' ⟨l, rfl, h⟩
    rw [fin_keep]
    exact h
  by_cases c0 : c % 4 = 0
  · simp [c0]
    exact odd M
  · by_cases z : p.2 = []
    · simp [c0, z]
      exact odd M
    · have zl : 0 < p.2.length := List.length_pos_iff.mpr z
      have a0 := Int.emod_nonneg (c / 4) (show (p.2.length : Int) ≠ 0 by omega)
      have a1 := Int.emod_lt_of_pos (c / 4) (show (0 : Int) < p.2.length by omega)
      simp [c0, z, zl]
      generalize c / 4 % (p.2.length : Int) = at_ at *
      have hk : at_.toNat < p.2.length := by omega
      have gx : ∀ (M' : Mem) (h : Nat), M'[h]? = some (O.lst (p.2.map encS)) → ∀ (j : Int), 0 ≤ j → ∀ (hj : j.toNat < p.2.length), oIx (.d (.hdl h)) (.d (.int j)) M' = .ok (.d (encS p.2[j.toNat])) M' := fun M' h hM j hj0 hj => oIx_seq (ds := p.2.map encS) (k := j.toNat) (by simp [hM]) (ixN_pos hj0 (by rw [List.length_map]; omega)) (by rw [List.getElem?_map, List.getElem?_eq_getElem hj]; rfl)
      have hM1 : (M ++ [O.lst (p.2.map encS)])[M.length]? = some (O.lst (p.2.map encS)) := by simp
      have w0 := Int.emod_nonneg (c / 80) (show (8 : Int) ≠ 0 by decide)
      have v0 := Int.emod_nonneg (c / 80) (show (11 : Int) ≠ 0 by decide)
      have v1 := Int.emod_lt_of_pos (c / 80) (show (0 : Int) < 11 by decide)
      have last : ∀ (d : D) (l : Mem), oddD (M ++ l) d → oddX (.d (.tup [encR p.1, .tup ((p.2.map encS).set at_.toNat d)])) (M ++ l) := fun d l hd => oddX_d (odd_tup (by simp) (two_mem oP (odd_tup (by simp; omega) fun e he => by
        rcases set_mid encS p.2 at_.toNat d e he with rfl | ⟨s, hs, rfl⟩
        · exact hd
        · exact odd_S (by have := h2 s hs; omega))))
      have ixs : ixN (p.2.map encS).length at_ = some at_.toNat := ixN_pos a0 (by rw [List.length_map]; omega)
      have key : ∀ a : Reach, a.2.length ≤ 20 → (sSeq (sIf (tB (MI.e2 oEq (MI.e2 oMod (eVar 1) (eC (.int 4))) (eC (.int 1)))) (sSetIx (eVar 4) (eVar 3) (eTup (dCons (MI.e2 oIx (MI.e2 oIx (eVar 4) (eVar 3)) (eC (.int 0))) (dCons (eCall "_law_bad_reach" (dCons (MI.e2 oIx (MI.e2 oIx (eVar 4) (eVar 3)) (eC (.int 1))) (dCons (MI.e2 oMod (MI.e2 oDiv (eVar 1) (eC (.int 80))) (eC (.int 8))) dNil))) dNil)))) (sIf (tB (MI.e2 oEq (MI.e2 oMod (eVar 1) (eC (.int 4))) (eC (.int 2)))) (sSetIx (eVar 4) (eVar 3) (eCall "_law_bad_step" (dCons (MI.e2 oIx (eVar 4) (eVar 3)) (dCons (eVar 5) (dCons (MI.e2 oMod (MI.e2 oDiv (eVar 1) (eC (.int 80))) (eC (.int 11))) dNil))))) (sIf (tB (MI.e2 oGt (eVar 3) (eC (.int 0)))) (sSetIx (eVar 4) (eVar 3) (eTup (dCons (MI.e2 oSub (MI.e2 oIx (MI.e2 oIx (eVar 4) (MI.e2 oSub (eVar 3) (eC (.int 1)))) (eC (.int 0))) (MI.e2 oMod (MI.e2 oDiv (eVar 1) (eC (.int 80))) (eC (.int 2)))) (dCons (MI.e2 oIx (MI.e2 oIx (eVar 4) (eVar 3)) (eC (.int 1))) dNil)))) (sRet (eTup (dCons (eCall "_law_bad_reach" (dCons (MI.e2 oIx (eVar 0) (eC (.int 0))) (dCons (MI.e2 oMod (MI.e2 oDiv (eVar 1) (eC (.int 80))) (eC (.int 8))) dNil))) (dCons (MI.e2 oIx (eVar 0) (eC (.int 1))) dNil))))))) (sRet (eTup (dCons (MI.e2 oIx (eVar 0) (eC (.int 0))) (dCons (e1 bTuple (eVar 4)) dNil)))) (run T (n + 1))
          [some (encP p), some (.int c), some (.int p.2.length), some (.int at_), some (.hdl M.length), some (encR a)] (M ++ [O.lst (p.2.map encS)])).wp (fun _ M' => (fin .keep M (.d .non) M').wp fun x M' => Kp (oddX x M')) (fun x M' => (fin .keep M x M').wp fun x M' => Kp (oddX x M')) := by
        intro a ha
        by_cases k1 : c % 4 = 1
        · simp [k1, l2, gx _ _ hM1 at_ a0 hk]
          have hs := h2 _ (List.getElem_mem hk)
          refine Res.wp_mono (law_bad_reach_ex n p.2[at_.toNat].2 (c / 80 % 8) hs (M ++ [O.lst (p.2.map encS)])) ?_
          rintro x M' ⟨l, rfl, hx⟩
          obtain ⟨e1, e2⟩ : ∃ l', (box x (M ++ [O.lst (p.2.map encS)] ++ l)).2 = M ++ (O.lst (p.2.map encS) :: l') ∧ True := by
            cases x with
            | d d => exact ⟨l, by simp, trivial⟩
            | o o => exact ⟨l ++ [o], by simp, trivial⟩
          have hx' : oddD (M ++ (O.lst (p.2.map encS) :: e1)) (box x (M ++ [O.lst (p.2.map encS)] ++ l)).1 := by rw [← e2.1]; exact hx
          rw [e2.1]
          generalize (box x (M ++ [O.lst (p.2.map encS)] ++ l)).1 = d at *
          rw [List.length_map] at ixs
          simp [l2, ixs]
          exact last _ (O.lst ((p.2.map encS).set at_.toNat (.tup [.int p.2[at_.toNat].1, d])) :: e1) (odd_tup (by simp) (two_mem (odd_int _ _) (odd_mid hx')))
        · by_cases k2 : c % 4 = 2
          · simp [k2, l2, gx _ _ hM1 at_ a0 hk]
            have hs := h2 _ (List.getElem_mem hk)
            refine Res.wp_mono (law_bad_step_ex n p.2[at_.toNat] a (c / 80 % 11) v0 v1 hs ha (M ++ [O.lst (p.2.map encS)])) ?_
            rintro x M' ⟨rfl, hx⟩
            obtain ⟨e1, e2⟩ : ∃ l', (box x (M ++ [O.lst (p.2.map encS)])).2 = M ++ (O.lst (p.2.map encS) :: l') ∧ True := by
              cases x with
              | d d => exact ⟨[], by simp, trivial⟩
              | o o => exact ⟨[o], by simp, trivial⟩
            have hx' : oddD (M ++ (O.lst (p.2.map encS) :: e1)) (box x (M ++ [O.lst (p.2.map encS)])).1 := by rw [← e2.1]; exact hx
            rw [e2.1]
            generalize (box x (M ++ [O.lst (p.2.map encS)])).1 = d at *
            rw [List.length_map] at ixs
            simp [l2, ixs]
            exact last _ (O.lst ((p.2.map encS).set at_.toNat d) :: e1) (odd_mid hx')
          · by_cases hp : 0 < at_
            · have hk1 : (at_ - 1).toNat < p.2.length := by omega
              have g1 := gx _ _ hM1 (at_ - 1) (by omega) hk1
              have hs := h2 _ (List.getElem_mem hk)
              rw [List.length_map] at ixs
              simp [k1, k2, hp, l2, gx _ _ hM1 at_ a0 hk, g1, ixs]
              exact last _ [O.lst ((p.2.map encS).set at_.toNat (.tup [.int (p.2[at_.toNat - 1].1 - c / 80 % 2), encR p.2[at_.toNat].2]))] (odd_tup (by simp) (two_mem (odd_int _ _) (odd_R (r := p.2[at_.toNat].2) (by omega))))
            · simp [k1, k2, hp, l2]
              refine Res.wp_mono (law_bad_reach_ex n p.1 (c / 80 % 8) h1 (M ++ [O.lst (p.2.map encS)])) ?_
              rintro x M' ⟨l, rfl, hx⟩
              have hx2 : oddX x (M ++ O.lst (p.2.map encS) :: l) := by simpa using hx
              simp [l2]
              refine oddX_d (odd_tup (by simp) (two_mem hx2 oS))
      by_cases hp : 0 < at_
      · have hk1 : (at_ - 1).toNat < p.2.length := by omega
        have g1 := gx _ _ hM1 (at_ - 1) (by omega) hk1
        have hs := h2 _ (List.getElem_mem hk1)
        have := key _ hs
        simp [hp, g1]
        simpa [hp, g1] using this
      · have := key _ h1
        simp [hp]
        simpa [hp] using this
end
end HW
end
section
set_option linter.all false
set_option autoImplicit false
/-! MK16: texts as lists of signs; while -/
namespace MI
open PySem (Str PyData)
@[simp] theorem strL_tl (l : List Nat) : (strL l).cps.toList = l := nrfl rfl
@[simp] theorem strL_size (l : List Nat) : (strL l).cps.size = l.length := by simp [strL]
@[simp] theorem strL_len (l : List Nat) : (strL l).length = l.length := by simp [strL, Str.length]
theorem strL_of (s : Str) : s = strL s.cps.toList := by cases s; simp [strL]
theorem strL_inj {a b : List Nat} : strL a = strL b ↔ a = b := ⟨fun h => by rw [← strL_tl a, h, strL_tl], fun h => by rw [h]⟩
@[simp] theorem strL_eq_iff (a b : List Nat) : (strL a = strL b) = (a = b) := propext strL_inj
theorem lit (s : String) : Str.ofString s = strL (s.toList.map Char.toNat) := by rw [Str.ofString_eq_toList]; rfl
def okL (l : List Nat) : Bool := l.all (· < 0x110000)
@[simp] theorem okS_strL (l : List Nat) : okS (strL l) = okL l := by unfold okS okL strL; simp
@[simp] theorem okL_nil : okL [] = true := nrfl rfl
@[simp] theorem okL_cons (c : Nat) (l : List Nat) : okL (c :: l) = (decide (c < 0x110000) && okL l) := nrfl rfl
@[simp] theorem okL_app (a b : List Nat) : okL (a ++ b) = (okL a && okL b) := by unfold okL; rw [List.all_append]
theorem okL_of {l : List Nat} (h : ∀ c ∈ l, c < 0x110000) : okL l = true := List.all_eq_true.mpr fun c hc => decide_eq_true (h c hc)
section
variable {M : Mem}
theorem strD_strL (l : List Nat) : strD (strL l) = l.map fun c => D.str (strL [c]) := nrfl rfl
@[simp] theorem bLen_strL (l : List Nat) : bLen (.d (.str (strL l))) M = if l.length ≤ lim then .ok (.d (.int l.length)) M else .bad := by
  show (if (strL l).length ≤ lim then vI (strL l).length M else .bad) = _
  rw [strL_len]; rfl
@[simp] theorem oAdd_strL (a b : List Nat) : oAdd (.d (.str (strL a))) (.d (.str (strL b))) M = if a.length + b.length ≤ lim then .ok (.d (.str (strL (a ++ b)))) M else .bad := by
  show (if (strL a).length + (strL b).length ≤ lim then Res.ok (RV.d (.str (strL a ++ strL b))) M else .bad) = _
  rw [strL_len, strL_len]
  have : strL a ++ strL b = strL (a ++ b) := by
    rw [strL_of (strL a ++ strL b)]
    congr 1
    show ((strL a).cps ++ (strL b).cps).toList = _
    simp
  rw [this]
@[simp] theorem oSlice_strL (l : List Nat) (lo hi : Option Int) : oSlice (.d (.str (strL l))) lo hi M = if l.length ≤ lim then .ok (.d (.str (strL (cut l lo hi)))) M else .bad := by
  show (if (strL l).length ≤ lim then Res.ok (RV.d (.str ⟨(cut (strL l).cps.toList lo hi).toArray⟩)) M else .bad) = _
  rw [strL_len, strL_tl]; rfl
theorem oIx_strL {l : List Nat} {i : Int} {j : Nat} {c : Nat} (hl : l.length ≤ lim) (h : ixN l.length i = some j) (hc : l[j]? = some c) : oIx (.d (.str (strL l))) (.d (.int i)) M = .ok (.d (.str (strL [c]))) M := by
  show (if (strL l).length ≤ lim then match ixN (strL l).cps.size i with
      | some j => match (strL l).cps[j]? with
        | some c => Res.ok (RV.d (.str ⟨#[c]⟩)) M
        | none => .bad
      | none => .bad
    else .bad) = _
  rw [strL_len, strL_size, if_pos hl, h]
  have : (strL l).cps[j]? = some c := by rw [← Array.getElem?_toList, strL_tl]; exact hc
  simp only [this]
  rfl
theorem oEq_strL {a b : List Nat} (ha : okL a = true) (hb : okL b = true) : oEq (.d (.str (strL a))) (.d (.str (strL b))) M = .ok (.d (.bl (decide (a = b)))) M := by
  rw [oEq_str, okS_strL, okS_strL, if_pos ⟨ha, hb⟩]; simp
theorem oNe_strL {a b : List Nat} (ha : okL a = true) (hb : okL b = true) : oNe (.d (.str (strL a))) (.d (.str (strL b))) M = .ok (.d (.bl (!decide (a = b)))) M := by
  have e : ∀ s : Str, derR (.d (.str s)) M = if okS s = true then some (.str s) else none := fun s => rfl
  rw [oNe_of (by rw [e, okS_strL, if_pos ha]) (by rw [e, okS_strL, if_pos hb])]
  show Res.ok (RV.d (.bl (!(strL a == strL b)))) M = _
  congr 4
  rw [Bool.eq_iff_iff, beq_iff_eq, decide_eq_true_eq, strL_inj]
@[simp] theorem oIn_sign (c : Nat) (l : List Nat) : oIn (.d (.str (strL [c]))) (.d (.str (strL l))) M = .ok (.d (.bl (decide (c ∈ l)))) M := nrfl rfl
@[simp] theorem oNotIn_sign (c : Nat) (l : List Nat) : oNotIn (.d (.str (strL [c]))) (.d (.str (strL l))) M = .ok (.d (.bl (!decide (c ∈ l)))) M := nrfl rfl
theorem bInt_strL {l : List Nat} {n : Int} (hl : l.length ≤ 640) (h : intL l = some n) : bInt (.d (.str (strL l))) M = .ok (.d (.int n)) M := by
  show (if (strL l).length ≤ 640 then match intL (strL l).cps.toList with
    | some n => vI n M
    | none => .bad else .bad) = _
  rw [strL_len, if_pos hl, strL_tl, h]; rfl
@[simp] theorem truR_strL (l : List Nat) : truR (.d (.str (strL l))) M = if l.length ≤ lim then some (!l.isEmpty) else none := by
  show (if (strL l).length ≤ lim then some (((strL l).length : Int) != 0) else none) = _
  rw [strL_len]
  cases l with
  | nil => rfl
  | cons c r =>
    have : (((c :: r).length : Int) != 0) = true := by rw [bne_iff_ne, List.length_cons]; omega
    rw [this]; rfl
end
theorem intL_c (c : Nat) (r : List Nat) : intL (c :: r) = if c = 45 then (if allFig r = true then some (-(figs r : Int)) else none) else if allFig (c :: r) = true then some (figs (c :: r) : Int) else none := rfl
/-! while -/
theorem wp_sWhile {cl : Cl} {t : STt} {body : SS} {r : Env} {M : Mem} {N : Env → Mem → Prop} {R : RV → Mem → Prop} : (sWhile t body cl r M).wp N R = (whileL (t cl) (body cl) 100000 r M).wp N R := nrfl rfl
/-- a loop with a measure -/
theorem whileL_wp {t : Env → Mem → Res Bool} {body : Env → Mem → SR} {N : Env → Mem → Prop} {R : RV → Mem → Prop} (I : Nat → Env → Mem → Prop)
    (hs : ∀ n r M, I n r M → (t r M).wp fun b M1 => if b = true then (body r M1).wp (fun r2 M2 => Kp (∃ m, m < n ∧ I m r2 M2)) R else N r M1) :
    ∀ (k n : Nat) r M, n < k → I n r M → (whileL t body k r M).wp N R
  | 0, n, r, M, hk, _ => absurd hk (Nat.not_lt_zero _)
  | k + 1, n, r, M, hk, h => by
    have h1 := hs n r M h
    unfold whileL
    cases e : t r M with
    | ok b M1 =>
      rw [e] at h1
      simp only [wp_ok] at h1
      cases b with
      | false => simpa using h1
      | true =>
        simp only [if_true] at h1 ⊢
        cases e2 : body r M1 with
        | nx r2 M2 =>
          rw [e2] at h1
          obtain ⟨m, hm, hI⟩ := h1
          exact whileL_wp I hs k m r2 M2 (by omega) hI
        | ret x M2 => rw [e2] at h1; exact h1
        | err => rw [e2] at h1; exact h1.elim
        | bad => rw [e2] at h1; exact h1.elim
    | err => rw [e] at h1; exact h1.elim
    | bad => rw [e] at h1; exact h1.elim
example : Str.ofString "-" = strL [45] := by rw [lit]; rfl
example : Str.ofString "0123456789" = strL [48,49,50,51,52,53,54,55,56,57] := by rw [lit]; rfl
end MI
end
section
set_option linter.all false
set_option autoImplicit false
/-! MJ71: numbers, written and read -/
namespace HW
open MI PySem
def FIG : List Nat := [48, 49, 50, 51, 52, 53, 54, 55, 56, 57]
theorem mem_FIG (c : Nat) : c ∈ FIG ↔ 48 ≤ c ∧ c ≤ 57 := by simp [FIG]; omega
/-- a whole number's signs -/
def numZ (n : Int) : List Nat := if n < 0 then 45 :: TL.numL n.natAbs else TL.numL n.natAbs
theorem numZ_nat (n : Nat) : numZ (n : Int) = TL.numL n := by unfold numZ; rw [if_neg (by omega)]; rfl
theorem str_numZ (n : Int) : Str.ofString (toString n) = strL (numZ n) := by
  cases n with
  | ofNat m =>
    have h := TL.tl_num m
    show Str.ofString (toString ((m : Nat) : Int)) = strL (numZ ((m : Nat) : Int))
    rw [numZ_nat, ← h]
    exact strL_of _
  | negSucc m =>
    have h := TL.tl_num (m + 1)
    have e : toString (Int.negSucc m) = "-" ++ toString ((m + 1 : Nat) : Int) := rfl
    unfold numZ
    rw [if_pos (Int.negSucc_lt_zero m), e, lit, String.toList_append, List.map_append]
    congr 1
    have h2 := TL.tl_ofString (toString ((m + 1 : Nat) : Int))
    rw [← h2, h]
    rfl
theorem numL_fig {n c : Nat} (h : c ∈ TL.numL n) : 48 ≤ c ∧ c ≤ 57 := TL.numL_digits n c h
theorem numL_okL (n : Nat) : okL (TL.numL n) = true := okL_of fun c hc => by have := numL_fig hc; omega
theorem numZ_okL (n : Int) : okL (numZ n) = true := by
  unfold numZ
  split
  · simp [numL_okL]
  · exact numL_okL _
theorem numL_pos (n : Nat) : 0 < (TL.numL n).length := List.length_pos_iff.mpr (TL.numL_ne n)
theorem numL_head {n : Nat} (h : 0 < n) : (TL.numL n).head? ≠ some 48 := by
  induction n using Nat.strongRecOn with
  | ind n ih =>
    by_cases h1 : n < 10
    · rw [TL.numL_lt h1]; simp; omega
    · rw [TL.numL_step (by omega), List.head?_append]
      have := ih (n / 10) (by omega) (by omega)
      cases e : (TL.numL (n / 10)).head? with
      | none => rw [List.head?_eq_none_iff] at e; exact absurd e (TL.numL_ne _)
      | some c => rw [e] at this; simpa using this
theorem natAbs_lt {n : Int} {m : Nat} (h : n.natAbs < 10 ^ m) (hm : 0 < m) : (TL.numL n.natAbs).length ≤ m := TL.numL_len hm h
theorem figs_numL (n : Nat) : figs (TL.numL n) = n := TL.numL_val n
theorem allFig_numL (n : Nat) : allFig (TL.numL n) = true := by
  unfold allFig
  rw [Bool.and_eq_true]
  refine ⟨by have := TL.numL_ne n; cases e : TL.numL n with
    | nil => exact absurd e this
    | cons => rfl, List.all_eq_true.mpr fun c hc => decide_eq_true (numL_fig hc)⟩
/-! what is read -/
def figP (l : List Nat) : List Nat := if l.take 1 = [45] then l.drop 1 else l
def readL (l : List Nat) : Option Int :=
  if (figP l).length < 1 ∨ 60 < (figP l).length then none
  else if (figP l).all (fun c => decide (c ∈ FIG)) = false then none
  else if (figP l).head? = some 48 ∧ l ≠ [48] then none
  else intL l
theorem intL_figP {l : List Nat} (h : allFig (figP l) = true) : ∃ v, intL l = some v := by
  cases l with
  | nil => exact absurd h (by decide)
  | cons c r =>
    unfold figP at h
    by_cases hc : c = 45
    · subst hc
      simp at h
      exact ⟨_, by rw [intL_c, if_pos rfl, if_pos h]⟩
    · simp [hc] at h
      exact ⟨_, by rw [intL_c, if_neg hc, if_pos h]⟩
theorem readL_numZ {n : Int} (h : n.natAbs < 10 ^ 60) : readL (numZ n) = some n := by
  have hlen := natAbs_lt h (by decide)
  have hpos := numL_pos n.natAbs
  have hf : figP (numZ n) = TL.numL n.natAbs := by
    unfold figP numZ
    split
    · simp
    · rw [if_neg]
      intro e
      cases e2 : TL.numL n.natAbs with
      | nil => exact TL.numL_ne _ e2
      | cons c r =>
        rw [e2] at e
        simp at e
        have := numL_fig (n := n.natAbs) (c := c) (by rw [e2]; exact List.mem_cons_self)
        omega
  unfold readL
  rw [hf, if_neg (by omega), if_neg (by
    rw [Bool.not_eq_false, List.all_eq_true]
    exact fun c hc => decide_eq_true ((mem_FIG c).mpr (numL_fig hc)))]
  rw [if_neg (by
    rintro ⟨h1, h2⟩
    by_cases h0 : n = 0
    · subst h0; exact h2 (by decide)
    · exact numL_head (by omega) h1)]
  unfold numZ
  split
  · rename_i hn
    rw [intL_c, if_pos rfl, if_pos (allFig_numL _), figs_numL]
    congr 1; omega
  · rename_i hn
    cases e2 : TL.numL n.natAbs with
    | nil => exact absurd e2 (TL.numL_ne _)
    | cons c r =>
      have hc := numL_fig (n := n.natAbs) (c := c) (by rw [e2]; exact List.mem_cons_self)
      rw [intL_c, if_neg (by omega), ← e2, if_pos (allFig_numL _), figs_numL]
      congr 1; omega
section
variable {T : Tab}
theorem write_number_run [i : HasF T "write_number" F_write_number] (n : Nat) (z : Int) (h : z.natAbs < 10 ^ 70) (M : Mem) : run T (n + 1) "write_number" [.int z] M = .ok (.d (.str (strL (numZ z)))) M := by
  rw [run_has i, ← Res.wp_eq]
  refine wp_run rfl ?_
  have hl : z.natAbs.log2 < 1920 := by
    by_cases h0 : z.natAbs = 0
    · rw [h0]; decide
    · exact (Nat.log2_lt h0).mpr (Nat.lt_of_lt_of_le h (Nat.le_trans (show 10 ^ 70 ≤ 2 ^ 250 by decide) (Nat.pow_le_pow_right (by decide) (by decide))))
  simp [F_write_number, b_write_number]
  refine ⟨hl, ?_⟩
  rw [← Int.toString_eq_repr, str_numZ, fin_d0 (x := .str _) rfl nofun]
  simp
theorem read_number_run [i : HasF T "read_number" F_read_number] (n : Nat) (l : List Nat) (h : okL l = true) (hl : l.length ≤ lim) (M : Mem) : run T (n + 1) "read_number" [.str (strL l)] M = match readL l with
    | some v => .ok (.d (.int v)) M
    | none => .err "NoText" M := by
  have e45 : Str.ofString "-" = strL [45] := by rw [lit]; rfl
  have e48 : Str.ofString "0" = strL [48] := by rw [lit]; rfl
  have eF : Str.ofString "0123456789" = strL FIG := by rw [lit]; rfl
  have key : (run T (n + 1) "read_number" [.str (strL l)] M).wpx (fun c M' => readL l = none ∧ c = "NoText" ∧ M' = M) (fun x M' => ∃ v, readL l = some v ∧ x = .d (.int v) ∧ M' = M) := by
    rw [run_has i]
    refine wpx_run rfl ?_
    simp [F_read_number, b_read_number, hl]
    rw [e45, cut_to l (by decide), cut_from l (by decide), show (1 : Int).toNat = 1 from rfl]
    have ok1 : okL (l.take 1) = true := List.all_eq_true.mpr fun c hc => List.all_eq_true.mp h c (List.mem_of_mem_take hc)
    refine ⟨ok1, ?_⟩
    have fin0 : ∀ (x : RV), fin .pure M x M = fin .pure M x (M ++ []) := fun x => by rw [List.append_nil]
    -- the figures
    have rest : ∀ f : List Nat, f = figP l → okL f = true → f.length ≤ lim → (if (f.length : Int) < 1 then readL l = none
        else f.length ≤ lim ∧ if (60 : Int) < (f.length : Int) then readL l = none else
          (forL (sIf (tB (MI.e2 oNotIn (eVar 2) (eC (D.str (Str.ofString "0123456789"))))) (sRaise (Str.ofString "NoText")) sNil (run T n)) (Tg.nm 2) (chkR (RV.d (D.str (strL f))) M) (strD (strL f)) [some (D.str (strL l)), some (D.str (strL f)), none] M).wpx
            (fun c r M' => (finS Mode.pure M (SR.err c r M')).wpx (fun c M' => readL l = none ∧ c = Str.ofString "NoText" ∧ M' = M) fun x M' => ∃ v, readL l = some v ∧ x = RV.d (D.int v) ∧ M' = M)
            (fun r M_1 => (sSeq (sIf (tAnd (tB (MI.e2 oEq (MI.e2 oIx (eVar 1) (eC (D.int 0))) (eC (D.str (Str.ofString "0"))))) (tB (MI.e2 oNe (eVar 0) (eC (D.str (Str.ofString "0")))))) (sRaise (Str.ofString "NoText")) sNil) (sRet (e1 bInt (eVar 0))) (run T n) r M_1).wpx
                (fun c r M' => (finS Mode.pure M (SR.err c r M')).wpx (fun c M' => readL l = none ∧ c = Str.ofString "NoText" ∧ M' = M) fun x M' => ∃ v, readL l = some v ∧ x = RV.d (D.int v) ∧ M' = M)
                (fun x M' => (fin Mode.pure M (RV.d D.non) M').wpx (fun c M' => readL l = none ∧ c = Str.ofString "NoText" ∧ M' = M) fun x M' => ∃ v, readL l = some v ∧ x = RV.d (D.int v) ∧ M' = M)
                fun x M' => (fin Mode.pure M x M').wpx (fun c M' => readL l = none ∧ c = Str.ofString "NoText" ∧ M' = M) fun x M' => ∃ v, readL l = some v ∧ x = RV.d (D.int v) ∧ M' = M)
            fun x M' => (fin Mode.pure M x M').wpx (fun c M' => readL l = none ∧ c = Str.ofString "NoText" ∧ M' = M) fun x M' => ∃ v, readL l = some v ∧ x = RV.d (D.int v) ∧ M' = M) := fun f hf ok hfl => by
      split
      · unfold readL; rw [← hf, if_pos (.inl (by omega))]
      · rename_i h1
        refine ⟨hfl, ?_⟩
        split
        · unfold readL; rw [← hf, if_pos (.inr (by omega))]
        · rename_i h2
          rw [strD_strL]
          have no : ∀ c, c ∈ f → c ∉ FIG → readL l = none := fun c hc hn => by
            unfold readL
            rw [← hf, if_neg (by omega), if_pos]
            rw [List.all_eq_false]
            exact ⟨c, hc, by simpa using hn⟩
          refine forL_wpx (fun c => D.str (strL [c])) (I := fun (rest : List Nat) r M' => M' = M ∧ (∃ x, r = [some (D.str (strL l)), some (D.str (strL f)), x]) ∧ ∃ pre, f = pre ++ rest ∧ ∀ c ∈ pre, c ∈ FIG) ?_ ?_ f _ _ ⟨rfl, ⟨none, rfl⟩, [], rfl, fun _ h => nomatch h⟩
          · rintro r M' ⟨rfl, ⟨x, rfl⟩, pre, e, hp⟩
            rw [List.append_nil] at e
            subst e
            refine ⟨rfl, ?_⟩
            cases f with
            | nil => exact absurd (show ((0 : Nat) : Int) < 1 by decide) h1
            | cons c r =>
              have ix : oIx (.d (.str (strL (c :: r)))) (.d (.int 0)) M' = .ok (.d (.str (strL [c]))) M' := oIx_strL hfl (ixN_pos (Int.le_refl 0) (by simp)) rfl
              have okc : okL [c] = true := by
                have := List.all_eq_true.mp ok c List.mem_cons_self
                simpa using this
              have hall : (c :: r).all (fun c => decide (c ∈ FIG)) = true := List.all_eq_true.mpr fun c hc => decide_eq_true (hp c hc)
              have q1 := oEq_strL (M := M') okc (show okL [48] = true by decide)
              have q2 := oNe_strL (M := M') h (show okL [48] = true by decide)
              have hr : readL l = if (c = 48 ∧ l ≠ [48]) then none else intL l := by
                unfold readL
                rw [← hf, if_neg (by omega), if_neg (by rw [hall]; decide)]
                simp
              have alf : allFig (figP l) = true := by
                rw [← hf]; unfold allFig
                rw [Bool.and_eq_true]
                exact ⟨rfl, List.all_eq_true.mpr fun c hc => decide_eq_true ((mem_FIG c).mp (hp c hc))⟩
              obtain ⟨v, hv⟩ := intL_figP alf
              have l640 : l.length ≤ 640 := by
                have : l.length ≤ (figP l).length + 1 := by unfold figP; split <;> simp <;> omega
                rw [← hf] at this
                simp at h2 this ⊢ <;> omega
              simp [ix]
              rw [e48]
              refine ⟨by simpa using okc, ?_⟩
              rw [q2]
              by_cases hc : c = 48
              · rw [if_pos (by rw [hc])]
                by_cases hl48 : l = [48]
                · simp [hl48]
                  rw [hl48] at hv hr l640
                  rw [bInt_strL l640 hv]
                  have hv' : readL [48] = some v := by rw [hr, if_neg (by simp), hv]
                  simp [fin_d0 (M := M') (x := .int v) rfl nofun]
                  rw [hl48]; exact hv'
                · have : readL l = none := by rw [hr, if_pos ⟨hc, hl48⟩]
                  simp [hl48, this]
              · rw [if_neg (by simpa using hc)]
                have : readL l = some v := by rw [hr, if_neg (by simp [hc]), hv]
                rw [bInt_strL l640 hv]
                simp [fin_d0 (M := M') (x := .int v) rfl nofun]
                exact this
          · rintro c rr r M' ⟨rfl, ⟨x, rfl⟩, pre, e, hp⟩
            refine ⟨rfl, ?_⟩
            simp
            rw [eF]
            simp
            by_cases hc : c ∈ FIG
            · rw [if_pos hc]
              exact ⟨rfl, ⟨_, rfl⟩, pre ++ [c], by rw [e]; simp, fun y hy => by
                rcases List.mem_append.mp hy with hy | hy
                · exact hp y hy
                · rw [List.mem_singleton.mp hy]; exact hc⟩
            · rw [if_neg hc]
              exact no c (by rw [e]; simp) hc
    by_cases hm : l.take 1 = [45]
    · rw [hm, if_pos rfl]
      have hf : l.drop 1 = figP l := by unfold figP; rw [if_pos hm]
      have okd : okL (l.drop 1) = true := List.all_eq_true.mpr fun c hc => List.all_eq_true.mp h c (List.mem_of_mem_drop hc)
      have hdl : (l.drop 1).length ≤ lim := by rw [List.length_drop]; omega
      refine ⟨hdl, ?_⟩
      exact rest _ hf okd hdl
    · rw [if_neg (by simpa using hm)]
      have hf : l = figP l := by unfold figP; rw [if_neg hm]
      have := rest l hf h hl
      simpa [hl] using this
  rcases Res.wpx_ex key with ⟨a, M', e, v, h1, rfl, rfl⟩ | ⟨c, M', e, h1, rfl, rfl⟩
  · rw [e, h1]
  · rw [e, h1]
end
end HW
end
section
set_option linter.all false
set_option autoImplicit false
/-! MJ72: law k43 -/
namespace HW
open MI PySem
theorem e_nil : Str.ofString "" = strL [] := by rw [lit]; rfl
theorem e_minus : Str.ofString "-" = strL [45] := by rw [lit]; rfl
theorem e_zero : Str.ofString "0" = strL [48] := by rw [lit]; rfl
theorem e_FIG : Str.ofString "0123456789" = strL FIG := by rw [lit]; rfl
theorem FIG_at {j : Nat} (h : j < 10) : FIG[j]? = some (48 + j) := by
  rcases (show j = 0 ∨ j = 1 ∨ j = 2 ∨ j = 3 ∨ j = 4 ∨ j = 5 ∨ j = 6 ∨ j = 7 ∨ j = 8 ∨ j = 9 by omega) with h | h | h | h | h | h | h | h | h | h <;> subst h <;> rfl
section
variable {T : Tab}
theorem law_text43_run [i : HasF T "_law_text" F__law_text] (n : Nat) (z : Int) (h : z.natAbs < 10 ^ 60) (M : Mem) : run T (n + 1) "_law_text" [.int z] M = .ok (.d (.str (strL (numZ z)))) M := by
  rw [run_has i, ← Res.wp_eq]
  refine wp_run rfl ?_
  have hlim := lim_big
  have ha : (if z < 0 then -z else z) = (z.natAbs : Int) := by split <;> omega
  have bA : bAbs (.d (.int z)) M = .ok (.d (.int (z.natAbs : Int))) M := by rw [← ha]; rfl
  simp [F__law_text, b__law_text, bA]
  rw [wp_sWhile]
  refine whileL_wp (fun m r M' => M' = M ∧ ∃ (rest : Nat) (fg : List Nat), r = [some (.int z), some (.str (strL fg)), some (.int (rest : Int))] ∧ rest < 10 ^ m ∧ (fg = [] → 1 ≤ m) ∧ fg.length + m ≤ 60 ∧ okL fg = true ∧
    (rest = 0 → fg ≠ [] → fg = TL.numL z.natAbs) ∧ (rest ≠ 0 ∨ fg = [] → TL.numL z.natAbs = TL.numL rest ++ fg)) ?_ 100000 60 _ _ (by decide) ⟨rfl, z.natAbs, [], by rw [e_nil], h, fun _ => by decide, by simp, rfl, fun _ h => absurd rfl h, fun _ => by simp⟩
  rintro m r M' ⟨rfl, rest, fg, rfl, h1, h2, h3, h4, h5, h6⟩
  have q0 := oEq_strL (M := M') h4 (show okL [] = true from rfl)
  simp
  rw [e_nil, e_FIG]
  by_cases hh : rest ≠ 0 ∨ fg = []
  · have hm : 1 ≤ m := by
      rcases hh with hh | hh
      · cases m with
        | zero => simp at h1; omega
        | succ m => omega
      · exact h2 hh
    have hj : rest % 10 < 10 := Nat.mod_lt _ (by decide)
    have e1 : ((rest : Int) % 10) = ((rest % 10 : Nat) : Int) := by omega
    have e2 : ((rest : Int) / 10) = ((rest / 10 : Nat) : Int) := by omega
    have ix : oIx (.d (.str (strL FIG))) (.d (.int ((rest % 10 : Nat) : Int))) M' = .ok (.d (.str (strL [48 + rest % 10]))) M' := oIx_strL (by decide) (ixN_pos (by omega) (by simp only [FIG, List.length_cons, List.length_nil]; omega)) (FIG_at (by rw [Int.toNat_natCast]; exact hj))
    have nxt : ∃ m', m' < m ∧ rest / 10 < 10 ^ m' ∧ ((48 + rest % 10) :: fg).length + m' ≤ 60 ∧ okL ((48 + rest % 10) :: fg) = true ∧
        (rest / 10 = 0 → (48 + rest % 10) :: fg = TL.numL z.natAbs) ∧ (rest / 10 ≠ 0 → TL.numL z.natAbs = TL.numL (rest / 10) ++ (48 + rest % 10) :: fg) := by
      refine ⟨m - 1, by omega, ?_, by simp only [List.length_cons]; omega, by rw [okL_cons, h4, Bool.and_true]; exact decide_eq_true (by omega), fun h0 => ?_, fun h0 => ?_⟩
      · have : 10 ^ m = 10 * 10 ^ (m - 1) := by rw [← Nat.pow_succ']; congr 1; omega
        omega
      · rw [h6 hh, TL.numL_lt (by omega), Nat.mod_eq_of_lt (by omega)]; rfl
      · rw [h6 hh, TL.numL_step (show 10 ≤ rest by omega), List.append_assoc]; rfl
    obtain ⟨m', g1, g2, g3, g4, g5, g6⟩ := nxt
    have fin : ∃ m_1, m_1 < m ∧ M' = M' ∧ ∃ (rest' : Nat) (fg' : List Nat), [some (D.int z), some (D.str (strL ((48 + rest % 10) :: fg))), some (D.int ((rest / 10 : Nat) : Int))] = [some (D.int z), some (D.str (strL fg')), some (D.int (rest' : Int))] ∧ rest' < 10 ^ m_1 ∧ (fg' = [] → 1 ≤ m_1) ∧ fg'.length + m_1 ≤ 60 ∧ okL fg' = true ∧
        (rest' = 0 → ¬fg' = [] → fg' = TL.numL z.natAbs) ∧ (¬rest' = 0 ∨ fg' = [] → TL.numL z.natAbs = TL.numL rest' ++ fg') :=
      ⟨m', g1, rfl, rest / 10, _, rfl, g2, nofun, g3, g4, fun h _ => g5 h, fun h => h.elim g6 nofun⟩
    by_cases h0 : 0 < rest
    · rw [if_pos h0, e1, ix]
      simp
      refine ⟨by omega, ?_⟩
      rw [e2]
      exact fin
    · rw [if_neg h0]
      refine ⟨h4, ?_⟩
      rw [if_pos (by rw [hh.resolve_left (by omega)]), e1, ix]
      simp
      refine ⟨by omega, ?_⟩
      rw [e2]
      exact fin
  · have h0 : rest = 0 := by omega
    have hf : fg ≠ [] := fun e => hh (.inr e)
    have := h5 h0 hf
    rw [if_neg (by omega)]
    refine ⟨h4, ?_⟩
    rw [if_neg (by rw [strL_eq_iff]; exact hf), e_minus]
    by_cases hz : z < 0
    · rw [if_pos hz]
      simp
      refine ⟨by omega, ?_⟩
      rw [fin_d0 (x := .str _) rfl nofun, this]
      simp [numZ, hz]
    · rw [if_neg hz, fin_d0 (x := .str _) rfl nofun, this]
      simp [numZ, hz]
theorem law_drawn43_ex [HasF T "_law_draw" F__law_draw] [i : HasF T "_law_drawn" F__law_drawn] (ns : List Int) (k : Nat) (hk : k < ns.length) (n : Nat) (M : Mem) : ∃ z : Int, z.natAbs < 10 ^ 60 ∧ run T (n + 2) "_law_drawn" [scr ns, .int (k : Int)] M = .ok (.d (.int z)) M := by
  have : (run T (n + 2) "_law_drawn" [scr ns, .int (k : Int)] M).wp fun x M' => ∃ z : Int, x = .d (.int z) ∧ z.natAbs < 10 ^ 60 ∧ M' = M := by
    rw [run_has i]
    refine wp_run rfl ?_
    have dr : ∀ (k many : Int) M, 0 < many → run T (n + 1) "_law_draw" [scr ns, .int k, .int many] M = .ok (.d (.int (lawDraw ns k many))) M := fun k many M hm => law_draw_run n ns k many hm M
    have ix : oIx (.d (scr ns)) (.d (.int (k : Int))) M = .ok (.d (.int (ns.getD k 0))) M := oIx_seq rfl (ixN_pos (by omega) (by simp; omega)) (by simp [hk])
    have d1 := lawDraw_lt ns ((k : Int) + 63) (show (0 : Int) < 100000000 by decide)
    have d0 := lawDraw_nn ns ((k : Int) + 63) (show (0 : Int) < 100000000 by decide)
    have n0 := Int.emod_nonneg (ns.getD k 0) (show (10 ^ 60 : Int) ≠ 0 by decide)
    have n1 := Int.emod_lt_of_pos (ns.getD k 0) (show (0 : Int) < 10 ^ 60 by decide)
    obtain ⟨v, hv⟩ : ∃ v, v = ns.getD k 0 % 10 ^ 60 := ⟨_, rfl⟩
    rw [← hv] at n0 n1
    have w0 := lawDraw_nn ns (k : Int) (show (0 : Int) < 4 by decide)
    have fin : ∀ z : Int, 0 ≤ z → z < 10 ^ 60 → if lawDraw ns ((k : Int) + 126) 2 = 1 then (∃ y : Int, D.int (-z) = D.int y ∧ y.natAbs < 10 ^ 60) else ∃ y : Int, D.int z = D.int y ∧ y.natAbs < 10 ^ 60 := fun z h0 h1 => by
      split
      · exact ⟨_, rfl, by omega⟩
      · exact ⟨_, rfl, by omega⟩
    have hv' : (ns[k]?.getD 0) % 1000000000000000000000000000000000000000000000000000000000000 = v := by rw [hv]; simp
    have a1 := Int.emod_nonneg v (show (100 : Int) ≠ 0 by decide)
    have a2 := Int.emod_lt_of_pos v (show (0 : Int) < 100 by decide)
    have b1 : 0 ≤ v / 10 ^ 30 := Int.ediv_nonneg n0 (by decide)
    have b2 : v / 10 ^ 30 ≤ v := Int.ediv_le_self _ n0
    have c1 := Int.emod_nonneg (v * (lawDraw ns (↑k + 63) 100000000 + 1) + 10 ^ 59) (show (10 ^ 60 : Int) ≠ 0 by decide)
    have c2 := Int.emod_lt_of_pos (v * (lawDraw ns (↑k + 63) 100000000 + 1) + 10 ^ 59) (show (0 : Int) < 10 ^ 60 by decide)
    simp at fin n1 a1 a2 b1 b2 c1 c2
    simp [F__law_drawn, b__law_drawn, dr, ix, -Int.emod_emod_of_dvd]
    rw [hv']
    by_cases q0 : lawDraw ns (k : Int) 4 = 0
    · simp [q0]; omega
    · by_cases q1 : lawDraw ns (k : Int) 4 = 1
      · simp [q1]; omega
      · by_cases q2 : lawDraw ns (k : Int) 4 = 2
        · simp [q2]; omega
        · simp [q0, q1, q2]; omega
  obtain ⟨x, M', e, z, rfl, h1, rfl⟩ := Res.wp_ex this
  exact ⟨z, h1, e⟩
theorem law_k43_run [HasF T "write_number" F_write_number] [HasF T "read_number" F_read_number] [HasF T "_law_draw" F__law_draw] [HasF T "_law_text" F__law_text] [HasF T "_law_drawn" F__law_drawn] [i : HasF T "law" F_law_k43] (ns : List Int) (hns : ns.length ≤ 63) (n : Nat) :
    ∃ M, run T (n + 3) "law" [scr ns] [] = .ok (.d (.bl true)) M := by
  have : (run T (n + 3) "law" [scr ns] []).wp fun x M' => Kp (x = .d (.bl true)) := by
    have hlim := lim_big
    rw [run_has i]
    refine wp_run rfl ?_
    simp [F_law_k43, b_law_k43]
    refine ⟨by omega, ?_⟩
    have hmin : (min (ns.length : Int) 63).toNat = ns.length := by omega
    rw [hmin]
    refine forL_range (fun j env M' => ∃ (j2 : Option D) (zs : List Int), env = [some (scr ns), some (.hdl 0), j2, none, none, none, none] ∧ M' = [.lst (zs.map D.int)] ∧ zs.length = j + 7 ∧ ∀ z ∈ zs, z.natAbs < 10 ^ 60) ?_ ?_ _ _ ⟨none, [0, -1, 9, 10, -10, 10 ^ 60 - 1, 1 - 10 ^ 60], rfl, rfl, rfl, by simp⟩
    · rintro env M' ⟨j2, zs, rfl, rfl, hz, hb⟩
      simp
      refine forL_wp D.int (fun l env M' => M' = [.lst (zs.map D.int)] ∧ (∃ j2 j3 j4 j5 j6 : Option D, env = [some (scr ns), some (.hdl 0), j2, j3, j4, j5, j6]) ∧ ∀ z ∈ l, z.natAbs < 10 ^ 60) ?_ ?_ zs _ _ ⟨rfl, ⟨_, _, _, _, _, rfl⟩, hb⟩
      · rintro env M' ⟨rfl, ⟨_, _, _, _, _, rfl⟩, _⟩
        simp
        rfl
      · rintro z l env M' ⟨rfl, ⟨_, _, _, _, _, rfl⟩, hb⟩
        have hz := hb z List.mem_cons_self
        have okz := numZ_okL z
        have hzl : (numZ z).length ≤ 61 := by
          have := natAbs_lt hz (by decide)
          unfold numZ; split <;> simp <;> omega
        simp
        rw [law_text43_run (n + 1) z hz]
        simp
        rw [write_number_run (n + 1) z (Nat.lt_of_lt_of_le hz (by decide))]
        simp
        rw [oNe_strL okz okz]
        simp
        rw [read_number_run (n + 1) _ okz (by omega), readL_numZ hz]
        simp
        exact ⟨rfl, ⟨_, _, _, _, _, rfl⟩, fun x hx => hb x (List.mem_cons_of_mem _ hx)⟩
    · rintro j env M' hj ⟨j2, zs, rfl, rfl, hz, hb⟩
      obtain ⟨z, h1, h2⟩ := law_drawn43_ex (T := T) ns j hj n [.lst (zs.map D.int)]
      simp
      rw [h2]
      simp
      refine ⟨by omega, _, zs ++ [z], rfl, by simp, by simp; omega, fun y hy => ?_⟩
      rcases List.mem_append.mp hy with hy | hy
      · exact hb y hy
      · rw [List.mem_singleton.mp hy]; exact h1
  obtain ⟨x, M', e, h⟩ := Res.wp_ex this
  have h' : x = .d (.bl true) := h
  exact ⟨M', by rw [e, h']⟩
end
end HW
end
namespace HW
open PySem PySem.Spec PyProof.Rows L2 He MI
def topS (i : Nat) : Stmt := PySem.Challenge.pw_heldwhen_k43_numbers.main.body.getD i (.Pass ⟨0, 0, 0, 0⟩)
def t_write_number : Df := { d := ⟨("write_number", none), "write_number", "write_number", defArgs (topS 5), defBody (topS 5), defScope (topS 5), [], []⟩, N := ["number"], ps := ["number"], fn := F_write_number }
def t_read_number : Df := { d := ⟨("read_number", none), "read_number", "read_number", defArgs (topS 6), defBody (topS 6), defScope (topS 6), [], []⟩, N := ["text", "figures", "sign"], ps := ["text"], fn := F_read_number }
def t__law_draw : Df := { d := ⟨("_law_draw", none), "_law_draw", "_law_draw", defArgs (topS 8), defBody (topS 8), defScope (topS 8), [], []⟩, N := ["script", "k", "many", "cell", "number"], ps := ["script", "k", "many"], fn := F__law_draw }
def t__law_text : Df := { d := ⟨("_law_text", none), "_law_text", "_law_text", defArgs (topS 9), defBody (topS 9), defScope (topS 9), [], []⟩, N := ["number", "figures", "rest"], ps := ["number"], fn := F__law_text }
def t__law_drawn : Df := { d := ⟨("_law_drawn", none), "_law_drawn", "_law_drawn", defArgs (topS 10), defBody (topS 10), defScope (topS 10), [], []⟩, N := ["script", "k", "number", "way"], ps := ["script", "k"], fn := F__law_drawn }
def t_law : Df := { d := ⟨("law", none), "law", "law", defArgs (topS 11), defBody (topS 11), defScope (topS 11), [], []⟩, N := ["script", "numbers", "k", "number", "due", "told", "back"], ps := ["script"], fn := F_law_k43 }
def cfg : Cfg := { fns := [(("write_number" : Str), 1), (("read_number" : Str), 1), (("_law_draw" : Str), 3), (("_law_text" : Str), 1), (("_law_drawn" : Str), 2), (("law" : Str), 1)], bl := ["abs", "bool", "int", "isinstance", "len", "min", "range", "str"], kon := [("FIGURES", .str "0123456789")], exs := ["HeldError", "NoText"], cls := [], ms := [], flds := [] }
def tab : List Df := [t_write_number, t_read_number, t__law_draw, t__law_text, t__law_drawn, t_law]
abbrev T : MI.Tab := tabOf tab
theorem ok_write_number : DfOk cfg tab t_write_number := ⟨by kernel_rfl, ⟨rfl, rfl, rfl, by decide +kernel, rfl, by decide +kernel, by decide +kernel⟩, rfl, rfl, rfl, rfl, by kernel_rfl, fun _ _ _ _ _ _ us hl => match us, hl with | [_], _ => rfl⟩
theorem ok_read_number : DfOk cfg tab t_read_number := ⟨by kernel_rfl, ⟨rfl, rfl, rfl, by decide +kernel, rfl, by decide +kernel, by decide +kernel⟩, rfl, rfl, rfl, rfl, by kernel_rfl, fun _ _ _ _ _ _ us hl => match us, hl with | [_], _ => rfl⟩
theorem ok__law_draw : DfOk cfg tab t__law_draw := ⟨by kernel_rfl, ⟨rfl, rfl, rfl, by decide +kernel, rfl, by decide +kernel, by decide +kernel⟩, rfl, rfl, rfl, rfl, by kernel_rfl, fun _ _ _ _ _ _ us hl => match us, hl with | [_, _, _], _ => rfl⟩
theorem ok__law_text : DfOk cfg tab t__law_text := ⟨by kernel_rfl, ⟨rfl, rfl, rfl, by decide +kernel, rfl, by decide +kernel, by decide +kernel⟩, rfl, rfl, rfl, rfl, by kernel_rfl, fun _ _ _ _ _ _ us hl => match us, hl with | [_], _ => rfl⟩
theorem ok__law_drawn : DfOk cfg tab t__law_drawn := ⟨by kernel_rfl, ⟨rfl, rfl, rfl, by decide +kernel, rfl, by decide +kernel, by decide +kernel⟩, rfl, rfl, rfl, rfl, by kernel_rfl, fun _ _ _ _ _ _ us hl => match us, hl with | [_, _], _ => rfl⟩
theorem ok_law : DfOk cfg tab t_law := ⟨by kernel_rfl, ⟨rfl, rfl, rfl, by decide +kernel, rfl, by decide +kernel, by decide +kernel⟩, rfl, rfl, rfl, rfl, by kernel_rfl, fun _ _ _ _ _ _ us hl => match us, hl with | [_], _ => rfl⟩
theorem ok_all : ∀ t ∈ tab, DfOk cfg tab t := by
  intro t ht
  simp only [tab, List.mem_cons, List.not_mem_nil, or_false] at ht
  rcases ht with rfl | rfl | rfl | rfl | rfl | rfl
  · exact ok_write_number
  · exact ok_read_number
  · exact ok__law_draw
  · exact ok__law_text
  · exact ok__law_drawn
  · exact ok_law
instance : HasF T "write_number" F_write_number := ⟨ok_write_number.look⟩
instance : HasF T "read_number" F_read_number := ⟨ok_read_number.look⟩
instance : HasF T "_law_draw" F__law_draw := ⟨ok__law_draw.look⟩
instance : HasF T "_law_text" F__law_text := ⟨ok__law_text.look⟩
instance : HasF T "_law_drawn" F__law_drawn := ⟨ok__law_drawn.look⟩
instance : HasF T "law" F_law_k43 := ⟨ok_law.look⟩
def loose0 : List PySem.Str := ["__name__", "HeldError", "NoText", "FIGURES", "write_number", "read_number", "_law_draw", "_law_text", "_law_drawn"]
abbrev loose : List PySem.Str := loose0
abbrev R : PySem.W.OpenRow := PySem.W.OpenLaw.row PySem.Challenge.rw_heldwhen_k43_numbers
abbrev hk : PySem.W.Hook := hookM 5 cfg (tab.map Df.d)
def ob (s : PySem.W.SharedT) : AlM := obsMG 5 cfg (tab.map Df.d) (HandSHeadRun.getT s)
theorem ob_eq (s : PySem.W.SharedT) : ob s = hk.obs s.abs := obsMG_eq (HandSHeadRun.getT_eq s)
theorem run0 (w : World) : HandSHeadRun.RunEq R (PySem.W.view R.prog [11]) hk ob 4000 loose w := by
  intro os
  kernel_rfl
theorem hrun : ∀ ns : List Int, ns.length ≤ 63 → ∃ M, MI.run T 40 t_law.name [.ro (ns.map D.int)] [] = Res.ok (.d (.bl true)) M := fun ns h => law_k43_run ns h 37
end HW
open PySem PySem.W PySem.Calls PyProof.Rows
theorem PySem.Challenge.cw_heldwhen_k43_numbers_holds : PySem.Challenge.rw_heldwhen_k43_numbers.Holds := by
  w_on; o_law
  refine HandSHeadRun.head_any (r := HW.R) (q := view HW.R.prog [11]) (H := HW.hk) (ob := HW.ob) (M := 4000) (loose := HW.loose) (d := HandSHeadRun.topDef HW.R.prog 11) (kwd := []) HW.ob_eq
    (by kernel_rfl) (fun s => by kernel_rfl) HW.run0 (by kernel_rfl) (by kernel_rfl) (by kernel_rfl) (by rfl) (by first | assumption | decide +kernel) (by decide +kernel) ⟨rfl, rfl, rfl, rfl, rfl, by decide +kernel⟩ ?hw ?hc
  case hw => w_witness2
  case hc =>
    exact MI.walk_M (l := PySem.Challenge.rw_heldwhen_k43_numbers) (n := 63) (k := 80) (x := "script") rfl (by decide) (by kernel_rfl) ⟨rfl, by decide, by decide⟩ (MI.end_M (l := PySem.Challenge.rw_heldwhen_k43_numbers) (g := HW.cfg) (ts := HW.tab) (t := HW.t_law) (n := 40) rfl (by kernel_rfl) HW.ok_all (by decide +kernel) (by decide +kernel) rfl (by simp [HW.tab]) HW.hrun)
