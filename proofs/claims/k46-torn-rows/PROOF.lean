import PyProof.Rows.All
import Wide.All
import OpenK.AllK
import Wide.FinOn
import HandS.ForMost
import HandS.Exc
import HandS.TupAny
import HandS.Style
import HandS.IsInst
import HandS.Flow
import HandS.Wide
import HandS.SortInts
import HandS.More
import KE.KeyNested
import PySem.PyData
import HandS.TupLe
import PyProof.DictRoadsH
import PyProof.DictMoreH
import KE.KDictLaws
import KE.KDictCopyH
import HandS.SetKeys
import HandS.TupSets
import HandS.Set
import HandS.Text
import HandS.CallSlots
import HandS.TryOnly
import HandS.Deep
import KE.KDictSum
import HandS.SetFor
import HandS.Strs
import HandS.WordsExc
import PyProof.LongRange
import HandS.Iter
import HandS.CallRecv
import PyProof.Rows.TupIter
import KE.KDictPairs
import HandS.Conv
import HandS.ExcOwn
import KE.KEqNest
import PyProof.NeKinds
import HandS.TupMul
import KE.GoesRaise
import HandS.FStr
import HandS.Defaults
import HandS.ExcIs
import HandS.HeadHook4
import HandS.HeadEnd
import HandS.Head0
import HandS.Head1
import HandS.Head2
import KE.KStateDown
import PySem.Challenge.RW_heldwhen_k46_torn_rows
set_option Elab.async false
set_option linter.all false
set_option maxRecDepth 100000
set_option maxHeartbeats 0
section
set_option linter.all false
set_option autoImplicit false
/-! MI1: a small semantics over plain data -/
namespace MI
open PySem (Str PyData)

/-! ### data -/
inductive D where
  | non | bl (b : Bool) | int (i : Int) | str (s : Str) | tup (ds : List D) | hdl (n : Nat) | ro (ds : List D)
mutual
def D.dec : (a b : D) → Decidable (a = b)
  | .non, .non => .isTrue rfl
  | .bl a, .bl b => if h : a = b then .isTrue (by rw [h]) else .isFalse (by intro e; cases e; exact h rfl)
  | .int a, .int b => if h : a = b then .isTrue (by rw [h]) else .isFalse (by intro e; cases e; exact h rfl)
  | .str a, .str b => if h : a = b then .isTrue (by rw [h]) else .isFalse (by intro e; cases e; exact h rfl)
  | .hdl a, .hdl b => if h : a = b then .isTrue (by rw [h]) else .isFalse (by intro e; cases e; exact h rfl)
  | .tup a, .tup b => match D.decs a b with
    | .isTrue h => .isTrue (by rw [h])
    | .isFalse h => .isFalse (by intro e; cases e; exact h rfl)
  | .ro a, .ro b => match D.decs a b with
    | .isTrue h => .isTrue (by rw [h])
    | .isFalse h => .isFalse (by intro e; cases e; exact h rfl)
  | .non, .bl _ | .non, .int _ | .non, .str _ | .non, .tup _ | .non, .hdl _ | .non, .ro _ => .isFalse nofun
  | .bl _, .non | .bl _, .int _ | .bl _, .str _ | .bl _, .tup _ | .bl _, .hdl _ | .bl _, .ro _ => .isFalse nofun
  | .int _, .non | .int _, .bl _ | .int _, .str _ | .int _, .tup _ | .int _, .hdl _ | .int _, .ro _ => .isFalse nofun
  | .str _, .non | .str _, .bl _ | .str _, .int _ | .str _, .tup _ | .str _, .hdl _ | .str _, .ro _ => .isFalse nofun
  | .tup _, .non | .tup _, .bl _ | .tup _, .int _ | .tup _, .str _ | .tup _, .hdl _ | .tup _, .ro _ => .isFalse nofun
  | .hdl _, .non | .hdl _, .bl _ | .hdl _, .int _ | .hdl _, .str _ | .hdl _, .tup _ | .hdl _, .ro _ => .isFalse nofun
  | .ro _, .non | .ro _, .bl _ | .ro _, .int _ | .ro _, .str _ | .ro _, .tup _ | .ro _, .hdl _ => .isFalse nofun
def D.decs : (a b : List D) → Decidable (a = b)
  | [], [] => .isTrue rfl
  | x :: xs, y :: ys => match D.dec x y with
    | .isTrue h => match D.decs xs ys with
      | .isTrue h2 => .isTrue (by rw [h, h2])
      | .isFalse h2 => .isFalse (by intro e; cases e; exact h2 rfl)
    | .isFalse h => .isFalse (by intro e; cases e; exact h rfl)
  | [], _ :: _ => .isFalse nofun
  | _ :: _, [] => .isFalse nofun
end
instance : DecidableEq D := D.dec

/-- what may change: a list, a dict, an object of a class -/
inductive O where
  | lst (ds : List D)
  /-- a dict; fz: a loop walks it, it may not be written -/
  | dic (fz : Bool) (kvs : List (D × D))
  | ins (c : Str) (fs : List (Str × D))
  deriving DecidableEq
abbrev Mem := List O
abbrev Env := List (Option D)
/-- an expression's value: a datum, or an object that nothing else names -/
inductive RV where
  | d (d : D) | o (o : O)
  deriving DecidableEq
inductive Res (A : Type) where
  | ok (a : A) (M : Mem) | err (c : Str) (M : Mem) | bad
inductive SR where
  | nx (r : Env) (M : Mem) | ret (r : RV) (M : Mem) | err (c : Str) (r : Env) (M : Mem) | bad
/-- the longest list -/
def lim : Nat := 16777216

def Res.bind {A B : Type} (r : Res A) (f : A → Mem → Res B) : Res B :=
  match r with
  | .ok a M => f a M
  | .err c M => .err c M
  | .bad => .bad
theorem Res.bind_ok {A B : Type} (a : A) (M : Mem) (f : A → Mem → Res B) : (Res.ok a M).bind f = f a M := rfl
theorem Res.bind_err {A B : Type} (c : Str) (M : Mem) (f : A → Mem → Res B) : (Res.err c M : Res A).bind f = .err c M := rfl
theorem Res.bind_bad {A B : Type} (f : A → Mem → Res B) : (Res.bad : Res A).bind f = .bad := rfl

mutual
/-- all handles lie below n -/
def D.bel (n : Nat) : D → Bool
  | .hdl m => decide (m < n)
  | .tup ds => D.bels n ds
  | .ro ds => D.bels n ds
  | _ => true
def D.bels (n : Nat) : List D → Bool
  | [] => true
  | d :: ds => D.bel n d && D.bels n ds
end
def O.bel (n : Nat) : O → Bool
  | .lst ds => D.bels n ds
  | .dic _ kvs => kvs.all fun kv => kv.1.bel n && kv.2.bel n
  | .ins _ fs => fs.all fun f => f.2.bel n

def box : RV → Mem → D × Mem
  | .d d, M => (d, M)
  | .o o, M => (.hdl M.length, M ++ [o])

/-! ### reading -/
def lstOf : RV → Mem → Option (List D)
  | .d (.hdl n), M => match M[n]? with
    | some (.lst ds) => some ds
    | _ => none
  | .d (.ro ds), _ => some ds
  | .o (.lst ds), _ => some ds
  | _, _ => none
/-- a list that may be written -/
def lstT : RV → Mem → Option (List D)
  | .d (.hdl n), M => match M[n]? with
    | some (.lst ds) => some ds
    | _ => none
  | .o (.lst ds), _ => some ds
  | _, _ => none
def seqOf : RV → Mem → Option (List D)
  | .d (.tup ds), _ => some ds
  | r, M => lstOf r M
def dicOf : RV → Mem → Option (List (D × D))
  | .d (.hdl n), M => match M[n]? with
    | some (.dic _ kvs) => some kvs
    | _ => none
  | .o (.dic _ kvs), _ => some kvs
  | _, _ => none

/-- plain data, lists opened, to a depth -/
def der : Nat → Mem → D → Option PyData
  | _, _, .non => some .none
  | _, _, .bl b => some (.bool b)
  | _, _, .int i => some (.int i)
  | _, _, .str s => if s.cps.all (· < 0x110000) then some (.str s) else none
  | 0, _, .tup _ => none
  | 0, _, .hdl _ => none
  | 0, _, .ro _ => none
  | n + 1, M, .tup ds => (ds.mapM fun d => der n M d).map .tuple
  | n + 1, M, .hdl m => match M[m]? with
    | some (.lst ds) => (ds.mapM fun d => der n M d).map .list
    | _ => none
  | n + 1, M, .ro ds => (ds.mapM fun d => der n M d).map .list
def derR : RV → Mem → Option PyData
  | .d d, M => der 32 M d
  | .o (.lst ds), M => (ds.mapM fun d => der 31 M d).map .list
  | _, _ => none
mutual
/-- == of plain data -/
def peq : PyData → PyData → Bool
  | .none, .none => true
  | .bool a, .bool b => a == b
  | .bool a, .int j => (if a then 1 else 0) == j
  | .int i, .bool b => i == (if b then 1 else 0)
  | .int i, .int j => i == j
  | .str x, .str y => x == y
  | .list xs, .list ys => peqs xs ys
  | .tuple xs, .tuple ys => peqs xs ys
  | _, _ => false
def peqs : List PyData → List PyData → Bool
  | [], [] => true
  | x :: xs, y :: ys => peq x y && peqs xs ys
  | _, _ => false
end

/-! ### operations -/
def asInts : List D → Option (List Int)
  | [] => some []
  | .int i :: r => (asInts r).map (i :: ·)
  | _ => none
/-- a row: a tuple of whole numbers -/
def asRow : D → Option (List Int)
  | .tup ds => asInts ds
  | _ => none
def asRows : List D → Option (List (List Int))
  | [] => some []
  | d :: r => match asRow d, asRows r with
    | some a, some b => some (a :: b)
    | _, _ => none
def rowD (ns : List Int) : D := .tup (ns.map D.int)
/-- the order of tuples of whole numbers -/
def lexL : List Int → List Int → Bool
  | [], [] => false
  | [], _ :: _ => true
  | _ :: _, [] => false
  | x :: xs, y :: ys => if x = y then lexL xs ys else decide (x < y)
def insR (a : List Int) : List (List Int) → List (List Int)
  | [] => [a]
  | b :: r => if lexL b a = true then b :: insR a r else a :: b :: r
def sortR : List (List Int) → List (List Int)
  | [] => []
  | a :: r => insR a (sortR r)
def dedR : List (List Int) → List (List Int)
  | [] => []
  | a :: r => if r.contains a then dedR r else a :: dedR r
/-- rows that may be sorted: less than two, or each of a number at least -/
def rowsOk (rs : List (List Int)) : Bool := decide (rs.length < 2) || rs.all fun r => !r.isEmpty
abbrev Op1 := RV → Mem → Res RV
abbrev Op2 := RV → RV → Mem → Res RV
def vI (i : Int) (M : Mem) : Res RV := .ok (.d (.int i)) M
def vB (b : Bool) (M : Mem) : Res RV := .ok (.d (.bl b)) M

def oAdd : Op2
  | .d (.int i), .d (.int j), M => vI (i + j) M
  | .d (.str x), .d (.str y), M => if x.length + y.length ≤ lim then .ok (.d (.str (x ++ y))) M else .bad
  | .d (.tup xs), .d (.tup ys), M => if xs.length + ys.length ≤ lim then .ok (.d (.tup (xs ++ ys))) M else .bad
  | x, y, M => match lstOf x M, lstOf y M with
    | some xs, some ys => if xs.length + ys.length ≤ lim then .ok (.o (.lst (xs ++ ys))) M else .bad
    | _, _ => .bad
def oSub : Op2
  | .d (.int i), .d (.int j), M => vI (i - j) M
  | _, _, _ => .bad
/-- so many times -/
def mulL (l : List Nat) : Nat → List Nat
  | 0 => []
  | n + 1 => l ++ mulL l n
def oMul : Op2
  | .d (.int i), .d (.int j), M => if (-(2 ^ 64) < i ∧ i < 2 ^ 64) ∨ (-(2 ^ 64) < j ∧ j < 2 ^ 64) then vI (i * j) M else .bad
  | .d (.str x), .d (.int n), M => if 0 ≤ n ∧ n ≤ 1000 ∧ x.length ≤ 10000 then .ok (.d (.str ⟨(mulL x.cps.toList n.toNat).toArray⟩)) M else .bad
  | .d (.tup ds), .d (.int n), M => if ds ≠ [] ∧ ds.length ≤ 1000 ∧ 1 ≤ n ∧ n ≤ 1000 then .ok (.d (.tup (List.replicate n.toNat ds).flatten)) M else .bad
  | _, _, _ => .bad
def oDiv : Op2
  | .d (.int i), .d (.int j), M => if 0 < j ∧ j < 1267650600228229401496703205376 then vI (i / j) M else .bad
  | _, _, _ => .bad
def oMod : Op2
  | .d (.int i), .d (.int j), M => if 0 < j then vI (i % j) M else .bad
  | _, _, _ => .bad
def oPow : Op2
  | .d (.int i), .d (.int j), M => if 0 ≤ j ∧ j ≤ 1000000 ∧ i.natAbs < 2 ^ 64 then vI (i ^ j.toNat) M else .bad
  | _, _, _ => .bad
def oNeg : Op1
  | .d (.int i), M => vI (-i) M
  | _, _ => .bad
def oLt : Op2
  | .d (.int i), .d (.int j), M => vB (decide (i < j)) M
  | .d (.tup xs), .d (.tup ys), M => match asInts xs, asInts ys with
    | some a, some b => if a.length = b.length then vB (lexL a b) M else .bad
    | _, _ => .bad
  | _, _, _ => .bad
def oLe : Op2
  | .d (.int i), .d (.int j), M => vB (decide (i ≤ j)) M
  | .d (.tup xs), .d (.tup ys), M => match asInts xs, asInts ys with
    | some a, some b => if a.length = b.length then vB (!lexL b a) M else .bad
    | _, _ => .bad
  | _, _, _ => .bad
def oGt : Op2
  | .d (.int i), .d (.int j), M => vB (decide (j < i)) M
  | .d (.tup xs), .d (.tup ys), M => match asInts xs, asInts ys with
    | some a, some b => if a.length = b.length then vB (lexL b a) M else .bad
    | _, _ => .bad
  | _, _, _ => .bad
def oGe : Op2
  | .d (.int i), .d (.int j), M => vB (decide (j ≤ i)) M
  | .d (.tup xs), .d (.tup ys), M => match asInts xs, asInts ys with
    | some a, some b => if a.length = b.length then vB (!lexL a b) M else .bad
    | _, _ => .bad
  | _, _, _ => .bad
def oIs : Op2
  | x, .d .non, M => vB (decide (x = .d .non)) M
  | .d (.bl a), .d (.bl b), M => vB (decide (a = b)) M
  | _, _, _ => .bad
def oIsNot : Op2
  | x, .d .non, M => vB (!decide (x = .d .non)) M
  | .d (.bl a), .d (.bl b), M => vB (!decide (a = b)) M
  | _, _, _ => .bad
/-- flat data, for in -/
def D.flat : D → Bool
  | .non => true
  | .bl _ => true
  | .int _ => true
  | .str _ => true
  | _ => false
def feq : D → D → Bool
  | .non, .non => true
  | .bl a, .bl b => a == b
  | .bl a, .int b => (if a then 1 else 0) == b
  | .int a, .bl b => a == (if b then 1 else 0)
  | .int a, .int b => a == b
  | .str a, .str b => a == b
  | _, _ => false
/-- a key that is no tuple -/
def isSk : D → Bool
  | .non => true
  | .int _ => true
  | .str _ => true
  | _ => false
mutual
/-- what a key may hold, to a depth -/
def nkOk : Nat → D → Bool
  | _, .non => true
  | _, .int _ => true
  | _, .str _ => true
  | n + 1, .tup ds => nksOk n ds
  | _, _ => false
def nksOk : Nat → List D → Bool
  | _, [] => true
  | n, d :: ds => nkOk n d && nksOk n ds
end
/-- a tuple that may be a key -/
def isTk : D → Bool
  | .tup ds => nkOk 8 (.tup ds)
  | _ => false
/-- a key for this dict: all its keys are tuples, or none is -/
def okK (kvs : List (D × D)) (k : D) : Bool := (isSk k && kvs.all fun p => isSk p.1) || (isTk k && kvs.all fun p => isTk p.1)
def dget (kvs : List (D × D)) (k : D) : Option D := (kvs.find? fun kv => decide (kv.1 = k)).map (·.2)
def dput (kvs : List (D × D)) (k v : D) : List (D × D) :=
  if (kvs.any fun kv => decide (kv.1 = k)) = true then kvs.map (fun kv => if kv.1 = k then (kv.1, v) else kv) else kvs ++ [(k, v)]
/-- == of dicts whose keys are no tuples, whose values are plain -/
def ceqD (M : Mem) (ls : List (D × D)) : List (D × D) → Option Bool
  | [] => some true
  | p :: r => match dget ls p.1 with
    | none => some false
    | some w => match der 31 M p.2, der 31 M w, ceqD M ls r with
      | some a, some b, some c => some (peq a b && c)
      | _, _, _ => none
def ceqK (M : Mem) (ks ls : List (D × D)) : Option Bool := if (ks.all fun p => isSk p.1) && (ls.all fun p => isSk p.1) then (if ks.length = ls.length then ceqD M ls ks else some false) else none
/-- == of plain things, or of two such dicts -/
def ceqI (M : Mem) (a b : D) : Option Bool := match der 31 M a, der 31 M b with
  | some p, some q => some (peq p q)
  | _, _ => match a, b with
    | .hdl i, .hdl j => if i = j then none else match M[i]?, M[j]? with
      | some (.dic _ ks), some (.dic _ ls) => ceqK M ks ls
      | _, _ => none
    | _, _ => none
def ceqL (M : Mem) : List D → List D → Option Bool
  | [], [] => some true
  | a :: as, b :: bs => match ceqI M a b, ceqL M as bs with
    | some x, some y => some (x && y)
    | _, _ => none
  | _, _ => none
/-- == where dicts stand in it -/
def ceqR : RV → RV → Mem → Option Bool
  | .d (.tup xs), .d (.tup ys), M => ceqL M xs ys
  | x, y, M => match dicOf x M, dicOf y M with
    | some ks, some ls => ceqK M ks ls
    | _, _ => match lstT x M, lstT y M with
      | some xs, some ys => ceqL M xs ys
      | _, _ => none
def eqR (x y : RV) (M : Mem) : Option Bool := match derR x M, derR y M with
  | some p, some q => some (peq p q)
  | _, _ => ceqR x y M
def oEq : Op2 := fun x y M => match eqR x y M with
  | some b => vB b M
  | none => .bad
def oNe : Op2 := fun x y M => match eqR x y M with
  | some b => vB (!b) M
  | none => .bad
/-- a text of one sign -/
def sign1 : D → Option Nat
  | .str s => match s.cps.toList with
    | [c] => some c
    | _ => none
  | _ => none
def inR : RV → RV → Mem → Option Bool
  | .d k, r, M => match dicOf r M with
    | some kvs => if okK kvs k then some (dget kvs k).isSome else none
    | none => match seqOf r M with
      | some ds => if k.flat && ds.all D.flat then some (ds.any fun d => feq d k) else match derR (.d k) M, derR r M with
        | some p, some (.list qs) => some (qs.any fun z => peq z p)
        | _, _ => none
      | none => match r with
        | .d (.str t) => match sign1 k with
          | some c => some (decide (c ∈ t.cps.toList))
          | none => none
        | _ => none
  | _, _, _ => none
def oIn : Op2 := fun x y M => match inR x y M with
  | some b => vB b M
  | none => .bad
def oNotIn : Op2 := fun x y M => match inR x y M with
  | some b => vB (!b) M
  | none => .bad

/-- the place that an index of any sign means -/
def ixN (n : Nat) (i : Int) : Option Nat := if 0 ≤ i then (if i < n then some i.toNat else none) else if -(n : Int) ≤ i then some (i + n).toNat else none
def oIx : Op2
  | x, .d (.int i), M => match seqOf x M with
    | some ds => match ixN ds.length i with
      | some j => match ds[j]? with
        | some d => .ok (.d d) M
        | none => .bad
      | none => .bad
    | none => match dicOf x M with
      | some kvs => if okK kvs (.int i) then match dget kvs (.int i) with
          | some d => .ok (.d d) M
          | none => .bad
        else .bad
      | none => match x with
        | .d (.str t) => if t.length ≤ lim then match ixN t.cps.size i with
            | some j => match t.cps[j]? with
              | some c => .ok (.d (.str ⟨#[c]⟩)) M
              | none => .bad
            | none => .bad
          else .bad
        | _ => .bad
  | x, .d k, M => match dicOf x M with
    | some kvs => if okK kvs k then match dget kvs k with
        | some d => .ok (.d d) M
        | none => .bad
      else .bad
    | none => .bad
  | _, _, _ => .bad
def sIx (n d : Nat) : Option Int → Nat
  | none => d
  | some v => if v < 0 then (v + (n : Int)).toNat else min v.toNat n
def cut {A : Type} (xs : List A) (lo hi : Option Int) : List A := (xs.drop (sIx xs.length 0 lo)).take (sIx xs.length xs.length hi - sIx xs.length 0 lo)
def oSlice (x : RV) (lo hi : Option Int) (M : Mem) : Res RV :=
  match x with
  | .d (.tup ds) => .ok (.d (.tup (cut ds lo hi))) M
  | .d (.str t) => if t.length ≤ lim then .ok (.d (.str ⟨(cut t.cps.toList lo hi).toArray⟩)) M else .bad
  | x => match lstOf x M with
    | some ds => .ok (.o (.lst (cut ds lo hi))) M
    | none => .bad

/-- truth -/
def truR : RV → Mem → Option Bool
  | .d .non, _ => some false
  | .d (.bl b), _ => some b
  | .d (.int i), _ => some (i != 0)
  | .d (.str s), _ => if s.length ≤ lim then some ((s.length : Int) != 0) else none
  | .d (.tup ds), _ => some (!ds.isEmpty)
  | r, M => (lstOf r M).map fun ds => !ds.isEmpty

/-! ### builtins -/
def bLen : Op1
  | .d (.str s), M => if s.length ≤ lim then vI s.length M else .bad
  | r, M => match seqOf r M with
    | some ds => vI ds.length M
    | none => .bad
def bList : Op1 := fun r M => match seqOf r M with
  | some ds => .ok (.o (.lst ds)) M
  | none => match dicOf r M with
    | some kvs => .ok (.o (.lst (kvs.map (·.1)))) M
    | none => .bad
def bTuple : Op1 := fun r M => match seqOf r M with
  | some ds => .ok (.d (.tup ds)) M
  | none => .bad
/-- the number that figures write -/
def figs (cs : List Nat) : Nat := cs.foldl (fun acc c => acc * 10 + (c - 48)) 0
def allFig (cs : List Nat) : Bool := !cs.isEmpty && cs.all fun c => decide (48 ≤ c ∧ c ≤ 57)
def intL : List Nat → Option Int
  | [] => none
  | c :: r => if c = 45 then (if allFig r = true then some (-(figs r : Int)) else none) else if allFig (c :: r) = true then some (figs (c :: r) : Int) else none
def bInt : Op1
  | .d (.int i), M => vI i M
  | .d (.bl b), M => vI (if b then 1 else 0) M
  | .d (.str s), M => if s.length ≤ 640 then match intL s.cps.toList with
      | some n => vI n M
      | none => .bad
    else .bad
  | _, _ => .bad
def bAbs : Op1
  | .d (.int i), M => vI (if i < 0 then -i else i) M
  | _, _ => .bad
def bMax2 : Op2
  | .d (.int i), .d (.int j), M => vI (if j > i then j else i) M
  | _, _, _ => .bad
def bMin2 : Op2
  | .d (.int i), .d (.int j), M => vI (if j < i then j else i) M
  | _, _, _ => .bad
/-- put into a rising list -/
def insI (i : Int) : List Int → List Int
  | [] => [i]
  | j :: r => if i ≤ j then i :: j :: r else j :: insI i r
def sortI : List Int → List Int
  | [] => []
  | i :: r => insI i (sortI r)
def dedI : List Int → List Int
  | [] => []
  | i :: r => if r.contains i then dedI r else i :: dedI r
/-- sorted(list), sorted(dict): whole numbers -/
def bSorted : Op1 := fun r M => match dicOf r M with
  | some kvs => match asInts (kvs.map (·.1)) with
    | some ns => .ok (.o (.lst ((sortI ns).map D.int))) M
    | none => match asRows (kvs.map (·.1)) with
      | some rs => if rowsOk rs = true then .ok (.o (.lst ((sortR rs).map rowD))) M else .bad
      | none => .bad
  | none => match lstOf r M with
    | some ds => match asInts ds with
      | some ns => .ok (.o (.lst ((sortI ns).map D.int))) M
      | none => match asRows ds with
        | some rs => if rowsOk rs = true then .ok (.o (.lst ((sortR rs).map rowD))) M else .bad
        | none => .bad
    | none => .bad
/-- list(d.values()), sorted(d.values()) -/
def bListVals : Op1 := fun r M => match dicOf r M with
  | some kvs => .ok (.o (.lst (kvs.map (·.2)))) M
  | none => .bad
def bSortVals : Op1 := fun r M => match dicOf r M with
  | some kvs => match asRows (kvs.map (·.2)) with
    | some rs => if rowsOk rs = true then .ok (.o (.lst ((sortR rs).map rowD))) M else .bad
    | none => .bad
  | none => .bad
/-- sorted(set(..)) -/
def bSortedSet : Op1 := fun r M => match seqOf r M with
  | some ds => match asInts ds with
    | some ns => if ns.length < 4000 then .ok (.o (.lst ((sortI (dedI ns)).map D.int))) M else .bad
    | none => match lstOf r M, asRows ds with
      | some _, some rs => if rs.length < 4000 ∧ rowsOk (dedR rs) = true then .ok (.o (.lst ((sortR (dedR rs)).map rowD))) M else .bad
      | _, _ => .bad
  | none => .bad
/-- max(xs), min(xs) of whole numbers -/
def maxL : Int → List Int → Int
  | m, [] => m
  | m, x :: r => maxL (if m < x then x else m) r
def minL : Int → List Int → Int
  | m, [] => m
  | m, x :: r => minL (if x < m then x else m) r
def bMax1 : Op1 := fun r M => match lstOf r M with
  | some ds => match asInts ds with
    | some (n :: ns) => vI (maxL n ns) M
    | _ => .bad
  | none => .bad
def bMin1 : Op1 := fun r M => match seqOf r M with
  | some ds => match asInts ds with
    | some (n :: ns) => vI (minL n ns) M
    | _ => .bad
  | none => .bad
def asBls : List D → Option (List Bool)
  | [] => some []
  | .bl i :: r => (asBls r).map (i :: ·)
  | _ => none
def bAll : Op1 := fun r M => match lstOf r M with
  | some ds => match asBls ds with
    | some bs => vB (bs.all id) M
    | none => .bad
  | none => .bad
/-- str(i) of a number that is not too long -/
def bStr : Op1
  | .d (.int i), M => if i.natAbs.log2 < 1920 then .ok (.d (.str (Str.ofString (toString i)))) M else .bad
  | _, _ => .bad
inductive Ty where
  | tuple | bool | int | list | str | dict
  deriving DecidableEq
def isTy : Ty → RV → Mem → Option Bool
  | t, .d .non, _ => some false
  | t, .d (.bl _), _ => some (decide (t = .bool) || decide (t = .int))
  | t, .d (.int _), _ => some (decide (t = .int))
  | t, .d (.str _), _ => some (decide (t = .str))
  | t, .d (.tup _), _ => some (decide (t = .tuple))
  | t, .d (.ro _), _ => some (decide (t = .list))
  | t, .d (.hdl n), M => match M[n]? with
    | some (.lst _) => some (decide (t = .list))
    | some (.dic _ _) => some (decide (t = .dict))
    | _ => none
  | t, .o (.lst _), _ => some (decide (t = .list))
  | t, .o (.dic _ _), _ => some (decide (t = .dict))
  | _, _, _ => none
def bIsi (t : Ty) : Op1 := fun r M => match isTy t r M with
  | some b => vB b M
  | none => .bad

/-- isinstance(x, (A, B)), x no object that may change -/
def bIsi2 (t u : Ty) : Op1
  | .d (.hdl _), _ => .bad
  | .d d, M => match isTy t (.d d) M, isTy u (.d d) M with
    | some a, some b => vB (a || b) M
    | _, _ => .bad
  | .o _, _ => .bad

/-! ### methods of lists and dicts: the receiver's handle, the boxed arguments -/
def mAppend (n : Nat) (d : D) (M : Mem) : Res RV := match M[n]? with
  | some (.lst ds) => if ds.length < lim then .ok (.d .non) (M.set n (.lst (ds ++ [d]))) else .bad
  | _ => .bad
def mPopAt (n : Nat) (d : D) (M : Mem) : Res RV := match M[n]? with
  | some (.lst ds) => match d with
    | .int i => if 0 ≤ i ∧ i < ds.length ∧ i < 2 ^ 62 then match ds[i.toNat]? with
        | some d => .ok (.d d) (M.set n (.lst (ds.eraseIdx i.toNat)))
        | none => .bad
      else .bad
    | _ => .bad
  | _ => .bad
def mClear (n : Nat) (M : Mem) : Res RV := match M[n]? with
  | some (.lst _) => .ok (.d .non) (M.set n (.lst []))
  | _ => .bad
def mPop (n : Nat) (M : Mem) : Res RV := match M[n]? with
  | some (.lst ds) => match ds.getLast? with
    | some d => .ok (.d d) (M.set n (.lst ds.dropLast))
    | none => .bad
  | _ => .bad
def mInsert (n : Nat) (i d : D) (M : Mem) : Res RV := match M[n]? with
  | some (.lst ds) => match i with
    | .int i => if 0 ≤ i ∧ i < 2 ^ 62 ∧ ds.length < lim then .ok (.d .non) (M.set n (.lst (ds.take i.toNat ++ [d] ++ ds.drop i.toNat))) else .bad
    | _ => .bad
  | _ => .bad
/-- the place of the first equal one -/
def mIndex (n : Nat) (d : D) (M : Mem) : Res RV := match M[n]? with
  | some (.lst ds) => if d.flat && ds.all D.flat then match ds.findIdx? (fun x => feq x d) with
      | some j => vI j M
      | none => .bad
    else .bad
  | _ => .bad
/-- how many are equal to it -/
def mCount (n : Nat) (d : D) (M : Mem) : Res RV := match M[n]? with
  | some (.lst ds) => if d.flat && ds.all D.flat then vI (ds.countP (fun x => feq x d) : Nat) M else .bad
  | _ => .bad
/-! methods of texts -/
def splC (s : Nat) : List Nat → List Nat → List (List Nat)
  | acc, [] => [acc]
  | acc, c :: r => if c = s then acc :: splC s [] r else splC s (acc ++ [c]) r
def joinC (s : List Nat) : List (List Nat) → List Nat
  | [] => []
  | [p] => p
  | p :: q :: r => p ++ (s ++ joinC s (q :: r))
def asStrs : List D → Option (List Str)
  | [] => some []
  | .str s :: r => (asStrs r).map (s :: ·)
  | _ => none
def strL (l : List Nat) : Str := ⟨l.toArray⟩
def tSplit (a : Str) : RV → Mem → Res RV
  | .d (.str b), M => match b.cps.toList with
    | [s] => if s < 256 ∧ a.length + 2 ≤ lim then .ok (.o (.lst ((splC s [] a.cps.toList).map fun l => .str (strL l)))) M else .bad
    | _ => .bad
  | _, _ => .bad
def tJoin (a : Str) (y : RV) (M : Mem) : Res RV := match seqOf y M with
  | some ds => match asStrs ds with
    | some ys => if (ys.map (·.length)).sum + ys.length * a.length ≤ lim then .ok (.d (.str (strL (joinC a.cps.toList (ys.map (·.cps.toList)))))) M else .bad
    | none => .bad
  | none => .bad
/-! methods of dicts: the receiver's handle -/
def mGet (n : Nat) (k x : D) (M : Mem) : Res RV := match M[n]? with
  | some (.dic _ kvs) => if okK kvs k = true then .ok (.d ((dget kvs k).getD x)) M else .bad
  | _ => .bad
def mSetd (n : Nat) (k x : D) (M : Mem) : Res RV := match M[n]? with
  | some (.dic false kvs) => if okK kvs k = true ∧ kvs.length < lim then match dget kvs k with
      | some d => .ok (.d d) M
      | none => .ok (.d x) (M.set n (.dic false (dput kvs k x)))
    else .bad
  | _ => .bad
def ddel (kvs : List (D × D)) (k : D) : List (D × D) := kvs.filter fun p => !decide (p.1 = k)
def mDpop (n : Nat) (k x : D) (M : Mem) : Res RV := match M[n]? with
  | some (.dic false kvs) => if okK kvs k = true then match dget kvs k with
      | some d => .ok (.d d) (M.set n (.dic false (ddel kvs k)))
      | none => .ok (.d x) M
    else .bad
  | _ => .bad
/-- d.pop(k), the key there -/
def mDpop1 (n : Nat) (k : D) (M : Mem) : Res RV := match M[n]? with
  | some (.dic false kvs) => if okK kvs k = true then match dget kvs k with
      | some d => .ok (.d d) (M.set n (.dic false (ddel kvs k)))
      | none => .bad
    else .bad
  | _ => .bad
/-- dict(xs) of a list of pairs -/
def pairsOf : List D → List (D × D) → Option (List (D × D))
  | [], acc => some acc
  | .tup [k, v] :: r, acc => if isTk k = true then pairsOf r (dput acc k v) else none
  | _, _ => none
def bDict : Op1 := fun r M => match lstOf r M with
  | some ds => match pairsOf ds [] with
    | some kvs => if ds.length ≤ lim then .ok (.o (.dic false kvs)) M else .bad
    | none => .bad
  | none => .bad
/-- o[k] = v -/
def setIx (o k v : D) (M : Mem) : Option Mem := match o with
  | .hdl n => match M[n]? with
    | some (.lst ds) => match k with
      | .int i => match ixN ds.length i with
        | some j => some (M.set n (.lst (ds.set j v)))
        | none => none
      | _ => none
    | some (.dic false kvs) => if okK kvs k = true ∧ kvs.length < lim then some (M.set n (.dic false (dput kvs k v))) else none
    | _ => none
  | _ => none

/-! ### expressions, tests, arguments -/
abbrev Cl := Str → List D → Mem → Res RV
abbrev SE := Cl → Env → Mem → Res RV
abbrev STt := Cl → Env → Mem → Res Bool
abbrev SDs := Cl → Env → Mem → Res (List D)
abbrev SO := Cl → Env → Mem → Res (Option Int)
abbrev SS := Cl → Env → Mem → SR

def eVar (i : Nat) : SE := fun _ r M => match r[i]? with
  | some (some d) => .ok (.d d) M
  | _ => .bad
def eC (d : D) : SE := fun _ _ M => .ok (.d d) M
def e1 (op : Op1) (a : SE) : SE := fun cl r M => (a cl r M).bind op
def e2 (op : Op2) (a b : SE) : SE := fun cl r M => (a cl r M).bind fun x M => (b cl r M).bind fun y M => op x y M
/-- not e as a value -/
def eNot (a : SE) : SE := fun cl r M => (a cl r M).bind fun x M => match truR x M with
  | some b => vB (!b) M
  | none => .bad
def eAnd (a b : SE) : SE := fun cl r M => (a cl r M).bind fun x M => match truR x M with
  | some true => b cl r M
  | some false => .ok x M
  | none => .bad
def eOr (a b : SE) : SE := fun cl r M => (a cl r M).bind fun x M => match truR x M with
  | some true => .ok x M
  | some false => b cl r M
  | none => .bad
def tAnd (a b : STt) : STt := fun cl r M => (a cl r M).bind fun x M => if x = true then b cl r M else .ok false M
def tOr (a b : STt) : STt := fun cl r M => (a cl r M).bind fun x M => if x = true then .ok true M else b cl r M
def tNot (a : STt) : STt := fun cl r M => (a cl r M).bind fun x M => .ok (!x) M
/-- a value's truth -/
def tTru (a : SE) : STt := fun cl r M => (a cl r M).bind fun x M => match truR x M with
  | some b => .ok b M
  | none => .bad
/-- a value that is a truth -/
def tB (a : SE) : STt := fun cl r M => (a cl r M).bind fun x M => match x with
  | .d (.bl b) => .ok b M
  | _ => .bad
def eIf (t : STt) (a b : SE) : SE := fun cl r M => (t cl r M).bind fun x M => if x = true then a cl r M else b cl r M
def dNil : SDs := fun _ _ M => .ok [] M
def dCons (a : SE) (as : SDs) : SDs := fun cl r M => (a cl r M).bind fun x M => (as cl r (box x M).2).bind fun ds M' => .ok ((box x M).1 :: ds) M'
def eTup (as : SDs) : SE := fun cl r M => (as cl r M).bind fun ds M => if ds.length ≤ lim then .ok (.d (.tup ds)) M else .bad
def eLst (as : SDs) : SE := fun cl r M => (as cl r M).bind fun ds M => if ds.length ≤ lim then .ok (.o (.lst ds)) M else .bad
def eDic0 : SE := fun _ _ M => .ok (.o (.dic false [])) M
/-- pairs, key value key value .. -/
def pairUp : List D → List (D × D) → Option (List (D × D))
  | [], acc => some acc
  | k :: v :: r, acc => if isSk k = true then pairUp r (dput acc k v) else none
  | _, _ => none
def eDic (as : SDs) : SE := fun cl r M => (as cl r M).bind fun ds M => match pairUp ds [] with
  | some kvs => if ds.length ≤ 30 then .ok (.o (.dic false kvs)) M else .bad
  | none => .bad
def eCall (f : Str) (as : SDs) : SE := fun cl r M => (as cl r M).bind fun ds M => cl f ds M
def oNone : SO := fun _ _ M => .ok none M
def oSome (a : SE) : SO := fun cl r M => (a cl r M).bind fun x M => match x with
  | .d (.int i) => .ok (some i) M
  | _ => .bad
def eSlice (a : SE) (lo hi : SO) : SE := fun cl r M => (a cl r M).bind fun x M => (lo cl r M).bind fun l M => (hi cl r M).bind fun h M => oSlice x l h M
/-- a method of a list, of one argument: the receiver is a handle -/
def eM1 (m : Nat → D → Mem → Res RV) (o a : SE) : SE := fun cl r M => (o cl r M).bind fun x M => match x with
  | .d (.hdl n) => if (lstT (.d (.hdl n)) M).isSome = true then (a cl r M).bind fun y M => m n (box y M).1 (box y M).2 else .bad
  | _ => .bad

def eM0 (m : Nat → Mem → Res RV) (o : SE) : SE := fun cl r M => (o cl r M).bind fun x M => match x with
  | .d (.hdl n) => if (lstT (.d (.hdl n)) M).isSome = true then m n M else .bad
  | _ => .bad
def eM2 (m : Nat → D → D → Mem → Res RV) (o a b : SE) : SE := fun cl r M => (o cl r M).bind fun x M => match x with
  | .d (.hdl n) => if (lstT (.d (.hdl n)) M).isSome = true then (a cl r M).bind fun y M => (b cl r (box y M).2).bind fun z M2 => m n (box y M).1 (box z M2).1 (box z M2).2 else .bad
  | _ => .bad
/-- a method of a dict, of two arguments -/
def eD2 (m : Nat → D → D → Mem → Res RV) (o a b : SE) : SE := fun cl r M => (o cl r M).bind fun x M => match x with
  | .d (.hdl n) => if (dicOf (.d (.hdl n)) M).isSome = true then (a cl r M).bind fun y M => (b cl r (box y M).2).bind fun z M2 => m n (box y M).1 (box z M2).1 (box z M2).2 else .bad
  | _ => .bad
def eD1 (m : Nat → D → Mem → Res RV) (o a : SE) : SE := fun cl r M => (o cl r M).bind fun x M => match x with
  | .d (.hdl n) => if (dicOf (.d (.hdl n)) M).isSome = true then (a cl r M).bind fun y M => m n (box y M).1 (box y M).2 else .bad
  | _ => .bad
/-- a method of a list that was just made -/
def eN1 (m : Nat → D → Mem → Res RV) (o a : SE) : SE := fun cl r M => (o cl r M).bind fun x M => match x with
  | .o (.lst ds) => (a cl r (M ++ [.lst ds])).bind fun y M2 => m M.length (box y M2).1 (box y M2).2
  | _ => .bad
def eN0 (m : Nat → Mem → Res RV) (o : SE) : SE := fun cl r M => (o cl r M).bind fun x M => match x with
  | .o (.lst ds) => m M.length (M ++ [.lst ds])
  | _ => .bad
/-- every so many-th -/
def pickS (lo : Nat) (k : Nat) (xs : List D) : List D := (List.range ((xs.length - lo + (k - 1)) / k)).filterMap fun j => xs[lo + k * j]?
/-- tuple(range(n)) -/
def eTupRg (a : SE) : SE := fun cl r M => (a cl r M).bind fun x M => match x with
  | .d (.int n) => if 0 ≤ n ∧ n ≤ 16777216 then .ok (.d (.tup ((List.range n.toNat).map fun (k : Nat) => D.int k))) M else .bad
  | _ => .bad
/-- a[lo:hi:k] of a list, k from 1 on -/
def eStep (a : SE) (lo hi : SO) (k : Nat) : SE := fun cl r M => (a cl r M).bind fun x M => (lo cl r M).bind fun l M => (hi cl r M).bind fun h M => match lstOf x M with
  | some ds => .ok (.o (.lst (pickS (sIx ds.length 0 l) k (ds.take (sIx ds.length ds.length h))))) M
  | none => .bad
/-- a[::-1] of a list -/
def eRev (a : SE) : SE := fun cl r M => (a cl r M).bind fun x M => match lstOf x M with
  | some ds => .ok (.o (.lst ds.reverse)) M
  | none => .bad
/-! ### targets, iterations -/
inductive Tg where
  | nm (i : Nat) | tp (is : List Nat)
def setAll : List Nat → List D → Env → Option Env
  | [], [], r => some r
  | i :: is, d :: ds, r => setAll is ds (r.set i (some d))
  | _, _, _ => none
def asg : Tg → D → Env → Option Env
  | .nm i, d, r => some (r.set i (some d))
  | .tp is, .tup ds, r => setAll is ds r
  | _, _, _ => none
/-- a source: its items, and which list must stay as it is -/
abbrev Chk := List (Nat × O)
def chkOk (c : Chk) (M : Mem) : Bool := c.all fun p => decide (M[p.1]? = some p.2)
abbrev SI := Cl → Env → Mem → Res (List D × Chk)
def chkR : RV → Mem → Chk
  | .d (.hdl n), M => match M[n]? with
    | some (.lst ds) => [(n, .lst ds)]
    | _ => []
  | _, _ => []
/-- a text, sign by sign -/
def strD (t : Str) : List D := t.cps.toList.map fun c => D.str ⟨#[c]⟩
def iSeq (a : SE) : SI := fun cl r M => (a cl r M).bind fun x M => match seqOf x M with
  | some ds => .ok (ds, chkR x M) M
  | none => match x with
    | .d (.str t) => .ok (strD t, []) M
    | _ => .bad
/-- zip(xs, ys) of two lists: the pairs -/
def iZip (a b : SE) : SI := fun cl r M => (a cl r M).bind fun x M => (b cl r M).bind fun y M => match lstOf x M, lstOf y M with
  | some xs, some ys => if xs.length = ys.length then .ok ((xs.zip ys).map fun p => D.tup [p.1, p.2], chkR x M ++ chkR y M) M else .bad
  | _, _ => .bad
def rngD (lo : Int) (n : Nat) : List D := (List.range n).map fun (k : Nat) => D.int (lo + k)
def iRange1 (a : SE) : SI := fun cl r M => (a cl r M).bind fun x M => match x with
  | .d (.int n) => if n < 2 ^ 62 ∧ -(2 ^ 62) ≤ n then .ok (rngD 0 n.toNat, []) M else .bad
  | _ => .bad
def iRange2 (a b : SE) : SI := fun cl r M => (a cl r M).bind fun x M => (b cl r M).bind fun y M => match x, y with
  | .d (.int i), .d (.int j) => if (-(2 ^ 62) ≤ i ∧ i < 2 ^ 62) ∧ -(2 ^ 62) ≤ j ∧ j < 2 ^ 62 then .ok (rngD i (j - i).toNat, []) M else .bad
  | _, _ => .bad
def rngC (lo c : Int) (n : Nat) : List D := (List.range n).map fun (k : Nat) => D.int (lo + k * c)
/-- range(i, j, c), c rising or falling -/
def rgN (i j c : Int) : Nat := if 0 < c then ((j - i + c - 1) / c).toNat else ((i - j - c - 1) / (-c)).toNat
def iRange3 (a b c : SE) : SI := fun cl r M => (a cl r M).bind fun x M => (b cl r M).bind fun y M => (c cl r M).bind fun z M => match x, y, z with
  | .d (.int i), .d (.int j), .d (.int c) => if c ≠ 0 ∧ c.natAbs < 1000000 then .ok (rngC i c (rgN i j c), []) M else .bad
  | _, _, _ => .bad
def forL (body : Env → Mem → SR) (tg : Tg) (c : Chk) : List D → Env → Mem → SR
  | [], r, M => if chkOk c M then .nx r M else .bad
  | x :: xs, r, M => if chkOk c M then
      match asg tg x r with
      | some r1 => match body r1 M with
        | .nx r2 M2 => forL body tg c xs r2 M2
        | o => o
      | none => .bad
    else .bad
def wipe (r : Env) : List Nat → Env
  | [] => r
  | v :: vs => (wipe r vs).set v none
def Res.calm {A : Type} : Res A → Res A
  | .ok a M => .ok a M
  | _ => .bad
/-- the items of a list comprehension -/
def compL (elt : Env → Mem → Res RV) (tst : Env → Mem → Res Bool) (tg : Tg) (c : Chk) (r : Env) : List D → List D → Mem → Res RV
  | [], acc, M => if chkOk c M then .ok (.o (.lst acc)) M else .bad
  | x :: xs, acc, M => if chkOk c M then
      match asg tg x r with
      | some r1 => (tst r1 M).calm.bind fun b M => if b = true then
          (elt r1 M).calm.bind fun y M => if acc.length < lim then compL elt tst tg c r xs (acc ++ [(box y M).1]) (box y M).2 else .bad
        else compL elt tst tg c r xs acc M
      | none => .bad
    else .bad
def tYes : STt := fun _ _ M => .ok true M
def eComp (elt : SE) (tst : STt) (tg : Tg) (own : List Nat) (it : SI) : SE := fun cl r M => (it cl r M).bind fun p M =>
  compL (elt cl) (tst cl) tg p.2 (wipe r own) p.1 [] M
/-- the items, an exception let out -/
def compLX (elt : Env → Mem → Res RV) (tg : Tg) (c : Chk) (r : Env) : List D → List D → Mem → Res RV
  | [], acc, M => if chkOk c M then .ok (.o (.lst acc)) M else .bad
  | x :: xs, acc, M => if chkOk c M then
      match asg tg x r with
      | some r1 => (elt r1 M).bind fun y M => if acc.length < lim then compLX elt tg c r xs (acc ++ [(box y M).1]) (box y M).2 else .bad
      | none => .bad
    else .bad
def eCompX (elt : SE) (tg : Tg) (own : List Nat) (it : SI) : SE := fun cl r M => (it cl r M).bind fun p M => compLX (elt cl) tg p.2 (wipe r own) p.1 [] M
/-- a part of an f-string -/
def fmtR : RV → Option Str
  | .d (.str s) => if s.length ≤ lim then some s else none
  | .d (.int i) => if i.natAbs.log2 < 1920 then some (Str.ofString (toString i)) else none
  | _ => none
def fsGo (cl : Cl) (r : Env) : List SE → Str → Mem → Res RV
  | [], acc, M => .ok (.d (.str acc)) M
  | a :: as, acc, M => (a cl r M).bind fun x M => match fmtR x with
    | some y => if acc.length + y.length ≤ lim then fsGo cl r as (acc ++ y) M else .bad
    | none => .bad
def eFs (as : List SE) : SE := fun cl r M => fsGo cl r as ⟨#[]⟩ M
/-- a slot that holds a dict: its handle and what is in it -/
def dicAt (o : Option (Option D)) (M : Mem) : Option (Nat × List (D × D)) := match o with
  | some (some (.hdl n)) => match M[n]? with
    | some (.dic false kvs) => some (n, kvs)
    | _ => none
  | _ => none
/-- the lock is taken off -/
def unlk (n : Nat) (kvs : List (D × D)) (M : Mem) : Option Mem := if M[n]? = some (.dic true kvs) then some (M.set n (.dic false kvs)) else none
/-- .. over a name, that may hold a dict -/
def eCompN (elt : SE) (tst : STt) (tg : Tg) (own : List Nat) (i : Nat) : SE := fun cl r M => match dicAt r[i]? M with
  | some (n, kvs) => match compL (elt cl) (tst cl) tg [(n, .dic true kvs)] (wipe r own) (kvs.map (·.1)) [] (M.set n (.dic true kvs)) with
    | .ok x M1 => match unlk n kvs M1 with
      | some M2 => .ok x M2
      | none => .bad
    | _ => .bad
  | none => eComp elt tst tg own (iSeq (eVar i)) cl r M
/-! objects of classes -/
def mname (c m : Str) : Str := c ++ "." ++ m
def eFld (o : SE) (f : Str) : SE := fun cl r M => (o cl r M).bind fun x M => match x with
  | .d (.hdl n) => match M[n]? with
    | some (.ins _ fs) => match fs.lookup f with
      | some d => .ok (.d d) M
      | none => .bad
    | _ => .bad
  | _ => .bad
def eMeth (m : Str) (o : SE) (as : SDs) : SE := fun cl r M => (o cl r M).bind fun x M => match x with
  | .d (.hdl n) => match M[n]? with
    | some (.ins c fs) => if (fs.lookup m).isNone = true then (as cl r M).calm.bind fun ds M => cl (mname c m) (.hdl n :: ds) M else .bad
    | _ => .bad
  | _ => .bad
def eNew (c : Str) (as : SDs) : SE := fun cl r M => (as cl r M).bind fun ds M => match cl (mname c "__init__") (.hdl M.length :: ds) (M ++ [.ins c []]) with
  | .ok (.d .non) M1 => .ok (.d (.hdl M.length)) M1
  | _ => .bad
/-! methods of texts -/
def eT1 (m : Str → RV → Mem → Res RV) (o a : SE) : SE := fun cl r M => (o cl r M).bind fun x M => match x with
  | .d (.str s) => (a cl r M).bind fun y M => m s y M
  | _ => .bad

/-! ### statements -/
def ofE (s : Res RV) (r : Env) (f : RV → Mem → SR) : SR := match s with
  | .ok x M => f x M
  | .err c M => .err c r M
  | .bad => .bad
def ofT (s : Res Bool) (r : Env) (f : Bool → Mem → SR) : SR := match s with
  | .ok x M => f x M
  | .err c M => .err c r M
  | .bad => .bad
def ofI (s : Res (List D × Chk)) (r : Env) (f : List D × Chk → Mem → SR) : SR := match s with
  | .ok x M => f x M
  | .err c M => .err c r M
  | .bad => .bad
def sNil : SS := fun _ r M => .nx r M
def sSeq (a b : SS) : SS := fun cl r M => match a cl r M with
  | .nx r M => b cl r M
  | o => o
def sSet (i : Nat) (e : SE) : SS := fun cl r M => ofE (e cl r M) r fun x M => .nx (r.set i (some (box x M).1)) (box x M).2
def sUnp (is : List Nat) (e : SE) : SS := fun cl r M => ofE (e cl r M) r fun x M => match x with
  | .d (.tup ds) => match setAll is ds r with
    | some r => .nx r M
    | none => .bad
  | _ => .bad
def sSetIx (o k e : SE) : SS := fun cl r M => ofE (e cl r M) r fun x M => ofE (o cl r (box x M).2) r fun y M1 => ofE (k cl r M1) r fun z M2 => match y, z with
  | .d y, .d z => match setIx y z (box x M).1 M2 with
    | some M => .nx r M
    | none => .bad
  | _, _ => .bad
def sExpr (e : SE) : SS := fun cl r M => ofE (e cl r M) r fun _ M => .nx r M
def sRet (e : SE) : SS := fun cl r M => ofE (e cl r M) r fun x M => .ret x M
def sRetN : SS := fun _ _ M => .ret (.d .non) M
def sIf (t : STt) (a b : SS) : SS := fun cl r M => ofT (t cl r M) r fun b' M => if b' = true then a cl r M else b cl r M
def sRaise (c : Str) : SS := fun _ r M => .err c r M
def sFor (tg : Tg) (it : SI) (body : SS) : SS := fun cl r M => ofI (it cl r M) r fun p M => forL (body cl) tg p.2 p.1 r M
/-- for x in a name, that may hold a dict -/
def sForN (tg : Tg) (i : Nat) (body : SS) : SS := fun cl r M => match dicAt r[i]? M with
  | some (n, kvs) => match forL (body cl) tg [(n, .dic true kvs)] (kvs.map (·.1)) r (M.set n (.dic true kvs)) with
    | .nx r1 M1 => match unlk n kvs M1 with
      | some M2 => .nx r1 M2
      | none => .bad
    | .ret x M1 => match unlk n kvs M1 with
      | some M2 => .ret x M2
      | none => .bad
    | _ => .bad
  | none => sFor tg (iSeq (eVar i)) body cl r M
def whileL (t : Env → Mem → Res Bool) (body : Env → Mem → SR) : Nat → Env → Mem → SR
  | 0, _, _ => .bad
  | n + 1, r, M => match t r M with
    | .ok b M1 => if b = true then match body r M1 with
        | .nx r2 M2 => whileL t body n r2 M2
        | o => o
      else .nx r M1
    | .err c M1 => .err c r M1
    | .bad => .bad
def sWhile (t : STt) (body : SS) : SS := fun cl r M => whileL (t cl) (body cl) 100000 r M
/-- o.f = e -/
def putF (f : Str) (d : D) : List (Str × D) → List (Str × D)
  | [] => [(f, d)]
  | p :: r => if p.1 = f then (f, d) :: r else p :: putF f d r
def sFld (o : SE) (f : Str) (e : SE) : SS := fun cl r M => ofE (e cl r M) r fun x M => ofE (o cl r (box x M).2) r fun y M1 => match y with
  | .d (.hdl n) => match M1[n]? with
    | some (.ins c fs) => if fs.length < 900 then .nx r (M1.set n (.ins c (putF f (box x M).1 fs))) else .bad
    | _ => .bad
  | _ => .bad
def sPass : SS := fun _ r M => .nx r M
/-- the slot of the clause's name, gone -/
def gone (i : Option Nat) (r : Env) : Env := match i with
  | some i => r.set i none
  | none => r
/-- try: body except X as n: suite; cat: is c caught -/
def sTry (i : Option Nat) (body : SS) (cat : Str → Bool) (suite : Str → SS) : SS := fun cl r M => match body cl r M with
  | .err c r1 M1 => if cat c = true then
      match suite c cl (gone i r1) M1 with
      | .nx r2 M2 => .nx (gone i r2) M2
      | .ret x M2 => .ret x M2
      | _ => .bad
    else .err c r1 M1
  | o => o

def dPairs : List (SE × SE) → SDs
  | [] => dNil
  | p :: r => dCons p.1 (dCons p.2 (dPairs r))
/-! ### what a suite does -/
/-- is a c a d -/
def subX (c d : Str) : Bool := decide (c = d) || (decide (d = "HeldError") || decide (d = "ValueError"))
def catX (exs : List Str) (x : Str) (c : Str) : Bool := decide (c ∈ exs) && subX c x
inductive SuI where
  | isi (neg : Bool) (cs : List Str) | var (j : Nat) | or2 (n1 : Bool) (cs1 : List Str) (n2 : Bool) (cs2 : List Str)
inductive SuS where
  | lst (j : Nat) (add : Bool) (its : List SuI) | con (j : Nat) (b : Bool) | one (j : Nat) (it : SuI) | rnn
def isiV (c : Str) (neg : Bool) (cs : List Str) : Bool := if neg = true then !(cs.any (subX c)) else cs.any (subX c)
def SuI.val (c : Str) : SuI → Bool
  | .isi neg cs => if neg = true then !(cs.any (subX c)) else cs.any (subX c)
  | .or2 n1 cs1 n2 cs2 => isiV c n1 cs1 || isiV c n2 cs2
  | .var _ => true
def SuI.sem (c : Str) : SuI → SE
  | .isi neg cs => eC (.bl (SuI.val c (.isi neg cs)))
  | .or2 n1 cs1 n2 cs2 => eC (.bl (SuI.val c (.or2 n1 cs1 n2 cs2)))
  | .var j => eVar j
def suLst (c : Str) : List SuI → SDs
  | [] => dNil
  | s :: r => dCons (s.sem c) (suLst c r)
def SuS.sem (c : Str) : SuS → SS
  | .lst j false its => sSet j (eLst (suLst c its))
  | .lst j true its => sSet j (e2 oAdd (eVar j) (eLst (suLst c its)))
  | .con j b => sSet j (eC (.bl b))
  | .one j it => sSet j (it.sem c)
  | .rnn => sRet (eC .non)
def suBody (c : Str) : List SuS → SS
  | [] => sNil
  | s :: r => sSeq (s.sem c) (suBody c r)
def sBad : SS := fun _ _ _ => .bad
def suSem (exs : List Str) (spec : List SuS) (c : Str) : SS := if c ∈ exs then suBody c spec else sBad
/-! ### functions -/
inductive Mode where
  | pure | keep
  deriving DecidableEq
structure Fn where
  ar : Nat
  ns : Nat
  mode : Mode
  body : SS
/-- what is handed back: the memory as it was, if nothing of the new is wanted -/
def fin (m : Mode) (M0 : Mem) (x : RV) (M : Mem) : Res RV :=
  match m with
  | .keep => .ok x M
  | .pure => if M.take M0.length = M0 then
      match x with
      | .d (.hdl n) => if n < M0.length then .ok x M0 else
          match M[n]? with
          | some o => if o.bel M0.length = true then .ok (.o o) M0 else .bad
          | none => .bad
      | .d d => if d.bel M0.length = true then .ok x M0 else .bad
      | .o o => if o.bel M0.length = true then .ok x M0 else .bad
    else .bad
def finS (m : Mode) (M0 : Mem) : SR → Res RV
  | .nx _ M => fin m M0 (.d .non) M
  | .ret x M => fin m M0 x M
  | .err c _ M => match m with
    | .keep => .err c M
    | .pure => if M.take M0.length = M0 then .err c M0 else .bad
  | .bad => .bad
def Fn.run (F : Fn) : Cl → List D → Mem → Res RV := fun cl ds M =>
  if ds.length = F.ar then finS F.mode M (F.body cl (ds.map some ++ List.replicate (F.ns - ds.length) none) M) else .bad
abbrev Tab := List (Str × Fn)
def run (T : Tab) : Nat → Cl
  | 0, _, _, _ => .bad
  | n + 1, f, ds, M => match T.lookup f with
    | some F => F.run (run T n) ds M
    | none => .bad
end MI
end
section
set_option Elab.async false
set_option linter.all false
set_option maxRecDepth 100000
set_option maxHeartbeats 4000000
/-! MI2: the small semantics and the heap -/
namespace MI
open PySem PySem.Spec PyProof.Rows L2

theorem lim_eq : lim = sizeLine := rfl
abbrev Sg := List (Option V)
/-- the classes' addresses; the world -/
structure CLs where
  of : Str → Option Addr
  cls : Str → Option Addr
  w : World
instance : CoeFun CLs (fun _ => Str → Option Addr) := ⟨CLs.of⟩
mutual
def toNk : D → NestedKey
  | .int i => .num i
  | .str x => .text x
  | .tup ds => .tup (toNks ds)
  | _ => .none
def toNks : List D → List NestedKey
  | [] => []
  | d :: ds => toNk d :: toNks ds
end
abbrev Ent := NestedKey × Value × Value
/-- a dict: its own object, its entries told one by one -/
structure DT0 (w : World) (h : Heap) (a : Addr) (xs : List Ent) : Prop where
  ob : ∃ o es ep, h.get? a = some o ∧ o.ExactDict ∧ o.data = .dict es ep ∧ es.toList = xs.map fun x => ⟨x.1.hash w, x.2.1, x.2.2⟩
  nd : (xs.map (·.1)).Nodup
  sy : (a == sysModules) = false
  len : xs.length ≤ sizeLine
def dictO (w : World) (a : Addr) (xs : List Ent) : HO := .ext fun h => DT0 w h a xs
/-- u stands at a, locked or not -/
def Lk (fz : Bool) (H : Hp) (a : Addr) (u : HO) : Prop := match fz with
  | false => H a = some u
  | true => ∃ od, H a = some (.frz od u)
/-- a list that is only read -/
def SqF (K : PySem.W.Frag) (H : Hp) (a : Addr) (xs : List V) : Prop :=
  (∃ o, H a = some (.frz o (.lst xs))) ∨
    ∃ (o : Obj) (its : Array Value) (n : Nat), K.lookup a = some o ∧ o.cls = .type "list" ∧ o.dict = none ∧ o.data = .seq its n ∧ its.size ≤ sizeLine ∧ Vals xs its.toList
theorem SqF.sq {K : PySem.W.Frag} {H : Hp} {a : Addr} {xs : List V} (h : SqF K H a xs) : SqL K H a xs := by
  rcases h with ⟨o, h⟩ | h
  · exact .inl (.inr ⟨o, h⟩)
  · exact .inr h

section
variable (K : PySem.W.Frag) (CL : CLs) (mu : List Addr) (H : Hp)
mutual
/-- a value of the layer stands for a datum -/
def Rv : D → V → Prop
  | .non, v => v = .non
  | .bl b, v => v = .bl b
  | .int i, v => v = .int i
  | .str s, v => v = .str s
  | .tup ds, v => ∃ a vs, v = .ref a ∧ SqT K H a vs ∧ Rvs ds vs
  | .hdl n, v => ∃ a, mu[n]? = some a ∧ v = .ref a
  | .ro ds, v => ∃ a vs, v = .ref a ∧ SqF K H a vs ∧ Rvs ds vs
def Rvs : List D → List V → Prop
  | [], vs => vs = []
  | d :: ds, vs => ∃ v r, vs = v :: r ∧ Rv d v ∧ Rvs ds r
end
def Rfs : List (Str × D) → List (Str × V) → Prop
  | [], fs => fs = []
  | p :: r, fs => ∃ v fs', fs = (p.1, v) :: fs' ∧ Rv K mu H p.2 v ∧ Rfs r fs'
def Rdt : List (D × D) → List Ent → Prop
  | [], xs => xs = []
  | p :: r, xs => ∃ kv ku u v xs', xs = (toNk p.1, ku, u) :: xs' ∧ RelV kv ku ∧ Rv K mu H p.1 kv ∧ (isSk p.1 = true ∨ isTk p.1 = true) ∧ RelV v u ∧ Rv K mu H p.2 v ∧ Rdt r xs'
/-- an object of the memory stands at a -/
def Ro : O → Addr → Prop
  | .lst ds, a => ∃ vs, H a = some (.lst vs) ∧ Rvs K mu H ds vs
  | .dic fz kvs, a => ∃ xs, Lk fz H a (dictO CL.w a xs) ∧ Rdt K mu H kvs xs
  | .ins c fs, a => ∃ C dx fs', CL.cls c = some C ∧ H a = some (.ins C dx fs') ∧ Rfs K mu H fs fs'
structure Rm (M : Mem) : Prop where
  len : mu.length = M.length
  nd : mu.Nodup
  ob : ∀ (n : Nat) (a : Addr) (o : O), mu[n]? = some a → M[n]? = some o → Ro K CL mu H o a
structure Rst (r : Env) (σ : Sg) : Prop where
  len : r.length = σ.length
  at_ : ∀ (i : Nat) (d : D), r[i]? = some (some d) → ∃ v, σ[i]? = some (some v) ∧ Rv K mu H d v
/-- an expression's value, made behind H0 if it is a new object -/
def Rr (H0 : Hp) : RV → V → Prop
  | .d d, v => Rv K mu H d v
  | .o o, v => ∃ a, v = .ref a ∧ Ro K CL mu H o a ∧ a ∉ mu ∧ H0 a = none
/-- .. wherever it was made -/
def Rw : RV → V → Prop
  | .d d, v => Rv K mu H d v
  | .o o, v => ∃ a, v = .ref a ∧ Ro K CL mu H o a ∧ a ∉ mu
end
/-- from one state to a later one -/
structure Stp (mu : List Addr) (H : Hp) (mu' : List Addr) (H' : Hp) : Prop where
  pre : ∃ t, mu' = mu ++ t
  new : ∀ a, a ∈ mu' → a ∈ mu ∨ H a = none
  keep : ∀ a o, H a = some o → a ∉ mu → H' a = some o
  frz : ∀ a od u, H a = some (.frz od u) → H' a = some (.frz od u)

section
variable {K : PySem.W.Frag} {CL : CLs} {mu mu' mu1 mu2 : List Addr} {H H0 H' H1 H2 : Hp} {M M' : Mem} {r : Env} {σ : Sg}

theorem Rvs.length : ∀ {ds : List D} {vs : List V}, Rvs K mu H ds vs → ds.length = vs.length
  | [], vs, h => by rw [show vs = [] from h]; rfl
  | d :: ds, _, ⟨v, r, e, _, t⟩ => by rw [e, List.length_cons, List.length_cons, Rvs.length t]
theorem Rvs.get : ∀ {ds : List D} {vs : List V} {i : Nat} {d : D}, Rvs K mu H ds vs → ds[i]? = some d → ∃ v, vs[i]? = some v ∧ Rv K mu H d v
  | [], _, _, _, _, e => by simp at e
  | d :: ds, _, 0, _, ⟨v, r, e, h, _⟩, q => by
    rw [e]; simp at q; subst q; exact ⟨v, rfl, h⟩
  | d :: ds, _, i + 1, _, ⟨v, r, e, _, t⟩, q => by
    rw [e]
    obtain ⟨w, h1, h2⟩ := Rvs.get (i := i) t (by simpa using q)
    exact ⟨w, by simpa using h1, h2⟩
theorem Rvs.append : ∀ {ds es : List D} {vs ws : List V}, Rvs K mu H ds vs → Rvs K mu H es ws → Rvs K mu H (ds ++ es) (vs ++ ws)
  | [], _, _, _, h, t => by rw [show _ = [] from h]; exact t
  | d :: ds, _, _, _, ⟨v, r, e, h, q⟩, t => by rw [e]; exact ⟨v, _, rfl, h, Rvs.append q t⟩
theorem Rvs.one {d : D} {v : V} (h : Rv K mu H d v) : Rvs K mu H [d] [v] := ⟨v, [], rfl, h, rfl⟩
theorem Rvs.take : ∀ {ds : List D} {vs : List V} (n : Nat), Rvs K mu H ds vs → Rvs K mu H (ds.take n) (vs.take n)
  | _, _, 0, _ => rfl
  | [], _, n + 1, h => by rw [show _ = [] from h]; rfl
  | d :: ds, _, n + 1, ⟨v, r, e, h, q⟩ => by rw [e]; exact ⟨v, _, rfl, h, Rvs.take n q⟩
theorem Rvs.drop : ∀ {ds : List D} {vs : List V} (n : Nat), Rvs K mu H ds vs → Rvs K mu H (ds.drop n) (vs.drop n)
  | _, _, 0, h => h
  | [], _, n + 1, h => by rw [show _ = [] from h]; rfl
  | d :: ds, _, n + 1, ⟨v, r, e, h, q⟩ => by rw [e]; exact Rvs.drop n q
theorem Rvs.set : ∀ {ds : List D} {vs : List V} {d : D} {v : V} (i : Nat), Rvs K mu H ds vs → Rv K mu H d v → Rvs K mu H (ds.set i d) (vs.set i v)
  | [], _, _, _, _, h, _ => by rw [show _ = [] from h]; rfl
  | d :: ds, _, _, _, 0, ⟨v, r, e, h, q⟩, h2 => by rw [e]; exact ⟨_, _, rfl, h2, q⟩
  | d :: ds, _, _, _, i + 1, ⟨v, r, e, h, q⟩, h2 => by rw [e]; exact ⟨_, _, rfl, h, Rvs.set i q h2⟩
theorem Rvs.eraseIdx : ∀ {ds : List D} {vs : List V} (i : Nat), Rvs K mu H ds vs → Rvs K mu H (ds.eraseIdx i) (vs.eraseIdx i)
  | [], _, _, h => by rw [show _ = [] from h]; rfl
  | d :: ds, _, 0, ⟨v, r, e, h, q⟩ => by rw [e]; exact q
  | d :: ds, _, i + 1, ⟨v, r, e, h, q⟩ => by rw [e]; exact ⟨_, _, rfl, h, Rvs.eraseIdx i q⟩
theorem Rvs.dropLast {ds : List D} {vs : List V} (h : Rvs K mu H ds vs) : Rvs K mu H ds.dropLast vs.dropLast := by
  rw [List.dropLast_eq_take, List.dropLast_eq_take, h.length]; exact h.take _
theorem Rvs.ints : ∀ {ns : List Int} {vs : List V}, Rvs K mu H (ns.map D.int) vs → vs = ns.map V.int
  | [], _, h => h
  | n :: ns, _, ⟨v, r, e, h, t⟩ => by rw [e, show v = V.int n from h, Rvs.ints t]; rfl
theorem Rvs.of_ints : ∀ (ns : List Int), Rvs K mu H (ns.map D.int) (ns.map V.int)
  | [] => rfl
  | n :: ns => ⟨_, _, rfl, rfl, Rvs.of_ints ns⟩

/-! ### tracked objects -/
theorem Rm.get (R : Rm K CL mu H M) {a : Addr} (h : a ∈ mu) : ∃ (n : Nat) (o : O), mu[n]? = some a ∧ M[n]? = some o ∧ Ro K CL mu H o a := by
  obtain ⟨n, hn, e⟩ := List.mem_iff_getElem.mp h
  have hm : n < M.length := by rw [← R.len]; exact hn
  have e1 : mu[n]? = some a := by rw [List.getElem?_eq_getElem hn, e]
  exact ⟨n, M[n], e1, List.getElem?_eq_getElem hm, R.ob n a _ e1 (List.getElem?_eq_getElem hm)⟩
/-- what may stand at a tracked address -/
def isMut : HO → Bool
  | .lst _ => true
  | .dK _ => true
  | .ins _ _ _ => true
  | .ext _ => true
  | .frz _ (.ext _) => true
  | _ => false
theorem Ro.ho {o : O} {a : Addr} (h : Ro K CL mu H o a) : ∃ u, H a = some u ∧ isMut u = true := by
  cases o with
  | lst ds => obtain ⟨vs, e, _⟩ := h; exact ⟨_, e, rfl⟩
  | dic fz kvs =>
    obtain ⟨vs, e, _⟩ := h
    cases fz with
    | false => exact ⟨_, e, rfl⟩
    | true => obtain ⟨od, e⟩ := e; exact ⟨_, e, rfl⟩
  | ins c fs => obtain ⟨C, dx, fs', _, e, _⟩ := h; exact ⟨_, e, rfl⟩
theorem Rm.ho (R : Rm K CL mu H M) {a : Addr} (h : a ∈ mu) : ∃ u, H a = some u ∧ isMut u = true := let ⟨_, _, _, _, q⟩ := R.get h; q.ho
theorem Rm.out (R : Rm K CL mu H M) {a : Addr} {u : HO} (e : H a = some u) (n : isMut u = false) : a ∉ mu := fun h => by
  obtain ⟨w, q, z⟩ := R.ho h
  rw [e] at q; cases q; rw [n] at z; cases z
theorem Rm.fresh (R : Rm K CL mu H M) {a : Addr} (e : H a = none) : a ∉ mu := fun h => by
  obtain ⟨w, q, z⟩ := R.ho h
  rw [e] at q; cases q

/-! ### steps -/
theorem Stp.refl : Stp mu H mu H := ⟨⟨[], by simp⟩, fun a h => .inl h, fun a o e _ => e, fun a od u e => e⟩
theorem Stp.trans (a : Stp mu H mu1 H1) (b : Stp mu1 H1 mu2 H2) (R : Rm K CL mu1 H1 M) : Stp mu H mu2 H2 := by
  obtain ⟨t1, e1⟩ := a.pre
  obtain ⟨t2, e2⟩ := b.pre
  refine ⟨⟨t1 ++ t2, by rw [e2, e1, List.append_assoc]⟩, fun x hx => ?_, fun x o e n => ?_, fun x od u e => b.frz x od u (a.frz x od u e)⟩
  · rcases b.new x hx with h | h
    · exact a.new x h
    · by_cases hm : x ∈ mu
      · exact .inl hm
      · right
        cases q : H x with
        | none => rfl
        | some u => rw [a.keep x u q hm] at h; cases h
  · have q := a.keep x o e n
    refine b.keep x o q fun hx => ?_
    rcases a.new x hx with h | h
    · exact n h
    · rw [e] at h; cases h
theorem Stp.get (s : Stp mu H mu' H') {n : Nat} {a : Addr} (e : mu[n]? = some a) : mu'[n]? = some a := by
  obtain ⟨t, q⟩ := s.pre
  rw [q, List.getElem?_append_left (List.getElem?_eq_some_iff.mp e).1, e]
theorem Stp.mem (s : Stp mu H mu' H') {a : Addr} (h : a ∈ mu) : a ∈ mu' := by
  obtain ⟨t, q⟩ := s.pre
  rw [q]; exact List.mem_append_left _ h
/-- what is new to the later state was new to the elder one -/
theorem Stp.free (s : Stp mu H mu' H') (R : Rm K CL mu' H' M) {a : Addr} (e : H' a = none) : H a = none := by
  cases q : H a with
  | none => rfl
  | some u =>
    by_cases h : a ∈ mu
    · obtain ⟨w, z, _⟩ := R.ho (s.mem h)
      rw [e] at z; cases z
    · rw [s.keep a u q h] at e; cases e
theorem Stp.out (s : Stp mu H mu' H') {a : Addr} {u : HO} (e : H a = some u) (h : a ∉ mu) : a ∉ mu' := fun z => by
  rcases s.new a z with q | q
  · exact h q
  · rw [e] at q; cases q
theorem SqT.stp {a : Addr} {vs : List V} (R : Rm K CL mu H M) (s : Stp mu H mu' H') (h : SqT K H a vs) : SqT K H' a vs := by
  rcases h with (h | ⟨o, h⟩) | h
  · exact .inl (.inl (s.keep _ _ h (R.out h rfl)))
  · exact .inl (.inr ⟨o, s.frz _ _ _ h⟩)
  · exact .inr h
theorem SqF.stp {a : Addr} {vs : List V} (R : Rm K CL mu H M) (s : Stp mu H mu' H') (h : SqF K H a vs) : SqF K H' a vs := by
  rcases h with ⟨o, h⟩ | h
  · exact .inl ⟨o, s.frz _ _ _ h⟩
  · exact .inr h
end
end MI
end
section
set_option Elab.async false
set_option linter.all false
set_option maxRecDepth 100000
set_option maxHeartbeats 4000000
namespace MI
open PySem PySem.Spec PyProof.Rows L2
section
variable {K : PySem.W.Frag} {CL : CLs} {mu mu' mu1 mu2 : List Addr} {H H0 H' H1 H2 : Hp} {M M' M1 : Mem} {r : Env} {σ : Sg}
/-! ### values last -/
mutual
theorem Rv.stp (R : Rm K CL mu H M) (s : Stp mu H mu' H') : ∀ {d : D} {v : V}, Rv K mu H d v → Rv K mu' H' d v
  | .non, _, h => h
  | .bl _, _, h => h
  | .int _, _, h => h
  | .str _, _, h => h
  | .tup ds, _, ⟨a, vs, e, h, t⟩ => ⟨a, vs, e, SqT.stp R s h, Rvs.stp R s t⟩
  | .hdl n, _, ⟨a, e, q⟩ => ⟨a, s.get e, q⟩
  | .ro ds, _, ⟨a, vs, e, h, t⟩ => ⟨a, vs, e, h.stp R s, Rvs.stp R s t⟩
theorem Rvs.stp (R : Rm K CL mu H M) (s : Stp mu H mu' H') : ∀ {ds : List D} {vs : List V}, Rvs K mu H ds vs → Rvs K mu' H' ds vs
  | [], _, h => h
  | _ :: _, _, ⟨v, r, e, h, t⟩ => ⟨v, r, e, Rv.stp R s h, Rvs.stp R s t⟩
end
theorem Rfs.stp (R : Rm K CL mu H M) (s : Stp mu H mu' H') : ∀ {ds : List (Str × D)} {vs : List (Str × V)}, Rfs K mu H ds vs → Rfs K mu' H' ds vs
  | [], _, h => h
  | _ :: _, _, ⟨v, r, e, h, t⟩ => ⟨v, r, e, h.stp R s, Rfs.stp R s t⟩
theorem Rdt.stp (R : Rm K CL mu H M) (s : Stp mu H mu' H') : ∀ {ds : List (D × D)} {vs : List Ent}, Rdt K mu H ds vs → Rdt K mu' H' ds vs
  | [], _, h => h
  | _ :: _, _, ⟨kv, ku, u, v, r, e, h0, h, h2, h3, h4, t⟩ => ⟨kv, ku, u, v, r, e, h0, h.stp R s, h2, h3, h4.stp R s, Rdt.stp R s t⟩
theorem Lk.at {fz : Bool} {a : Addr} {u : HO} (h : Lk fz H a u) (k : H' a = H a) : Lk fz H' a u := by
  cases fz with
  | false => exact k.trans h
  | true => obtain ⟨od, e⟩ := h; exact ⟨od, k.trans e⟩
/-- an object whose own place is kept -/
theorem Ro.stp (R : Rm K CL mu H M) (s : Stp mu H mu' H') {o : O} {a : Addr} (h : Ro K CL mu H o a) (k : H' a = H a) : Ro K CL mu' H' o a := by
  cases o with
  | lst ds => obtain ⟨vs, e, t⟩ := h; exact ⟨vs, k.trans e, t.stp R s⟩
  | dic fz kvs => obtain ⟨vs, e, t⟩ := h; exact ⟨vs, e.at k, t.stp R s⟩
  | ins c fs => obtain ⟨C, dx, fs', c', e, t⟩ := h; exact ⟨C, dx, fs', c', k.trans e, t.stp R s⟩
theorem Rw.stp (R : Rm K CL mu H M) (s : Stp mu H mu' H') {x : RV} {v : V} (h : Rw K CL mu H x v) : Rw K CL mu' H' x v := by
  cases x with
  | d d => exact Rv.stp R s h
  | o o =>
    obtain ⟨a, e, h, n⟩ := h
    obtain ⟨u, q, _⟩ := h.ho
    exact ⟨a, e, h.stp R s ((s.keep _ _ q n).trans q.symm), s.out q n⟩
theorem Rr.w {x : RV} {v : V} (h : Rr K CL mu H H0 x v) : Rw K CL mu H x v := by
  cases x with
  | d d => exact h
  | o o => obtain ⟨a, e, h, n, _⟩ := h; exact ⟨a, e, h, n⟩
theorem Rr.base (s : Stp mu1 H1 mu2 H2) (R : Rm K CL mu2 H2 M) {x : RV} {v : V} (h : Rr K CL mu H H2 x v) : Rr K CL mu H H1 x v := by
  cases x with
  | d d => exact h
  | o o => obtain ⟨a, e, h, n, z⟩ := h; exact ⟨a, e, h, n, s.free R z⟩
theorem Rst.stp (R : Rm K CL mu H M) (s : Stp mu H mu' H') (h : Rst K mu H r σ) : Rst K mu' H' r σ :=
  ⟨h.len, fun i d e => let ⟨v, q, z⟩ := h.at_ i d e; ⟨v, q, z.stp R s⟩⟩
theorem Rst.set (h : Rst K mu H r σ) {i : Nat} {d : D} {v : V} (q : Rv K mu H d v) : Rst K mu H (r.set i (some d)) (σ.set i (some v)) := by
  refine ⟨by rw [List.length_set, List.length_set, h.len], fun j e he => ?_⟩
  by_cases hj : i = j
  · subst hj
    have hl : i < r.length := by
      have := (List.getElem?_eq_some_iff.mp he).1
      simpa using this
    rw [List.getElem?_set_self hl] at he
    simp only [Option.some.injEq] at he
    subst he
    exact ⟨v, by rw [List.getElem?_set_self (by rw [← h.len]; exact hl)], q⟩
  · rw [List.getElem?_set_ne hj] at he
    obtain ⟨w, h1, h2⟩ := h.at_ j e he
    exact ⟨w, by rw [List.getElem?_set_ne hj]; exact h1, h2⟩
theorem Rst.gone (h : Rst K mu H r σ) (i : Nat) {x : Option V} : Rst K mu H (r.set i none) (σ.set i x) := by
  refine ⟨by rw [List.length_set, List.length_set, h.len], fun j e he => ?_⟩
  by_cases hj : i = j
  · subst hj
    have hl : i < r.length := by
      have := (List.getElem?_eq_some_iff.mp he).1
      simpa using this
    rw [List.getElem?_set_self hl] at he
    simp at he
  · rw [List.getElem?_set_ne hj] at he
    obtain ⟨w, h1, h2⟩ := h.at_ j e he
    exact ⟨w, by rw [List.getElem?_set_ne hj]; exact h1, h2⟩
theorem Rst.wipe (h : Rst K mu H r σ) : ∀ vs : List Nat, Rst K mu H (MI.wipe r vs) (L2.wipe σ vs)
  | [] => h
  | v :: vs => (Rst.wipe h vs).gone v

/-! ### a new object is laid; boxed; written -/
theorem Stp.laid (R : Rm K CL mu H M) {p : Addr} {u : HO} (n : H p = none) : Stp mu H mu (upd H p u) :=
  ⟨⟨[], by simp⟩, fun a h => .inl h, fun a o e _ => by rw [upd_ne (ne_of_none e n)]; exact e, fun a od u e => by rw [upd_ne (ne_of_none e n)]; exact e⟩
theorem Rm.stp (R : Rm K CL mu H M) (s : Stp mu H mu H') (k : ∀ a ∈ mu, H' a = H a) : Rm K CL mu H' M :=
  ⟨R.len, R.nd, fun n a o e1 e2 => (R.ob n a o e1 e2).stp R s (k a (List.mem_of_getElem? e1))⟩
theorem Rm.laid (R : Rm K CL mu H M) {p : Addr} {u : HO} (n : H p = none) : Rm K CL mu (upd H p u) M :=
  R.stp (Stp.laid R n) fun a h => upd_ne fun e => R.fresh (e ▸ n) h
/-! the same heap, more tracked -/
mutual
theorem Rv.ext (t : List Addr) : ∀ {d : D} {v : V}, Rv K mu H d v → Rv K (mu ++ t) H d v
  | .non, _, h => h
  | .bl _, _, h => h
  | .int _, _, h => h
  | .str _, _, h => h
  | .tup ds, _, ⟨a, vs, e, h, q⟩ => ⟨a, vs, e, h, Rvs.ext t q⟩
  | .hdl n, _, ⟨a, e, q⟩ => ⟨a, by rw [List.getElem?_append_left (List.getElem?_eq_some_iff.mp e).1, e], q⟩
  | .ro ds, _, ⟨a, vs, e, h, q⟩ => ⟨a, vs, e, h, Rvs.ext t q⟩
theorem Rvs.ext (t : List Addr) : ∀ {ds : List D} {vs : List V}, Rvs K mu H ds vs → Rvs K (mu ++ t) H ds vs
  | [], _, h => h
  | _ :: _, _, ⟨v, r, e, h, q⟩ => ⟨v, r, e, Rv.ext t h, Rvs.ext t q⟩
end
theorem Rfs.ext (t : List Addr) : ∀ {ds : List (Str × D)} {vs : List (Str × V)}, Rfs K mu H ds vs → Rfs K (mu ++ t) H ds vs
  | [], _, h => h
  | _ :: _, _, ⟨v, r, e, h, q⟩ => ⟨v, r, e, h.ext t, Rfs.ext t q⟩
theorem Rdt.ext (t : List Addr) : ∀ {ds : List (D × D)} {vs : List Ent}, Rdt K mu H ds vs → Rdt K (mu ++ t) H ds vs
  | [], _, h => h
  | _ :: _, _, ⟨kv, ku, u, v, r, e, h0, h, h2, h3, h4, q⟩ => ⟨kv, ku, u, v, r, e, h0, h.ext t, h2, h3, h4.ext t, Rdt.ext t q⟩
theorem Ro.ext (t : List Addr) {o : O} {a : Addr} (h : Ro K CL mu H o a) : Ro K CL (mu ++ t) H o a := by
  cases o with
  | lst ds => obtain ⟨vs, e, q⟩ := h; exact ⟨vs, e, q.ext t⟩
  | dic fz kvs => obtain ⟨vs, e, q⟩ := h; exact ⟨vs, e, q.ext t⟩
  | ins c fs => obtain ⟨C, dx, fs', c', e, q⟩ := h; exact ⟨C, dx, fs', c', e, q.ext t⟩
theorem Rst.ext (t : List Addr) (h : Rst K mu H r σ) : Rst K (mu ++ t) H r σ :=
  ⟨h.len, fun i d e => let ⟨v, q, z⟩ := h.at_ i d e; ⟨v, q, z.ext t⟩⟩
/-- an object of our own is tracked from now on -/
theorem Rm.track (R : Rm K CL mu H M) {o : O} {a : Addr} (h : Ro K CL mu H o a) (n : a ∉ mu) : Rm K CL (mu ++ [a]) H (M ++ [o]) := by
  refine ⟨by simp [R.len], List.nodup_append.mpr ⟨R.nd, by simp, fun x hx y hy => ?_⟩, fun m b o' e1 e2 => ?_⟩
  · simp only [List.mem_singleton] at hy
    subst hy
    exact fun z => n (z ▸ hx)
  · by_cases hm : m < mu.length
    · rw [List.getElem?_append_left hm] at e1
      rw [List.getElem?_append_left (by rw [← R.len]; exact hm)] at e2
      exact (R.ob m b o' e1 e2).ext [a]
    · have hl : m < (mu ++ [a]).length := (List.getElem?_eq_some_iff.mp e1).1
      simp only [List.length_append, List.length_cons, List.length_nil, Nat.zero_add] at hl
      have hm' : m = mu.length := by omega
      subst hm'
      rw [List.getElem?_append_right (Nat.le_refl _), Nat.sub_self] at e1
      rw [R.len, List.getElem?_append_right (Nat.le_refl _), Nat.sub_self] at e2
      simp only [List.getElem?_cons_zero, Option.some.injEq] at e1 e2
      subst e1; subst e2
      exact h.ext [a]
theorem Rm.box (R : Rm K CL mu H M) {x : RV} {v : V} (h : Rr K CL mu H H0 x v) (s0 : Stp mu1 H0 mu H) :
    ∃ t, Rm K CL (mu ++ t) H (MI.box x M).2 ∧ Stp mu1 H0 (mu ++ t) H ∧ Rv K (mu ++ t) H (MI.box x M).1 v := by
  cases x with
  | d d => exact ⟨[], by rw [List.append_nil]; exact R, by rw [List.append_nil]; exact s0, by rw [List.append_nil]; exact h⟩
  | o o =>
    obtain ⟨a, e, h, n, z⟩ := h
    refine ⟨[a], R.track h n, ⟨?_, fun b hb => ?_, s0.keep, s0.frz⟩, ?_⟩
    · obtain ⟨t, q⟩ := s0.pre
      exact ⟨t ++ [a], by rw [q, List.append_assoc]⟩
    · rcases List.mem_append.mp hb with hb | hb
      · exact s0.new b hb
      · simp only [List.mem_singleton] at hb
        subst hb
        exact .inr z
    · exact ⟨a, by rw [show M.length = mu.length from R.len.symm, List.getElem?_append_right (Nat.le_refl _), Nat.sub_self]; rfl, e⟩
/-- a tracked object is written -/
theorem Stp.write {n : Nat} {a : Addr} {u : HO} (h : mu[n]? = some a) (nf : ∀ od v, H a ≠ some (.frz od v)) : Stp mu H mu (upd H a u) :=
  ⟨⟨[], by simp⟩, fun a h => .inl h, fun b o e z => by
    have nb : b ≠ a := fun q => z (by rw [q]; exact List.mem_of_getElem? h)
    rw [upd_ne nb]; exact e, fun b od v e => by
    have nb : b ≠ a := fun q => nf od v (by rw [← q]; exact e)
    rw [upd_ne nb]; exact e⟩
theorem Rm.write (R : Rm K CL mu H M) {n : Nat} {a : Addr} {u : HO} {o : O} (h : mu[n]? = some a) (nf : ∀ od v, H a ≠ some (.frz od v)) (q : Ro K CL mu (upd H a u) o a) : Rm K CL mu (upd H a u) (M.set n o) := by
  refine ⟨by simp [R.len], R.nd, fun m b o' e1 e2 => ?_⟩
  by_cases hm : n = m
  · subst hm
    rw [h] at e1; cases e1
    have hl : n < M.length := by rw [← R.len]; exact (List.getElem?_eq_some_iff.mp h).1
    rw [List.getElem?_set_self hl] at e2
    simp only [Option.some.injEq] at e2
    subst e2; exact q
  · rw [List.getElem?_set_ne hm] at e2
    refine (R.ob m b o' e1 e2).stp R (Stp.write h nf) (upd_ne fun e => hm ?_)
    subst e
    obtain ⟨h1, q1⟩ := List.getElem?_eq_some_iff.mp h
    obtain ⟨h2, q2⟩ := List.getElem?_eq_some_iff.mp e1
    exact (List.getElem_inj R.nd).mp (q1.trans q2.symm)
end

/-! ### what is wanted behind a run -/
section
variable (K : PySem.W.Frag) (CL : CLs) (W : WX) (σ : Sg)
def Pst {A : Type} (mu : List Addr) (H : Hp) (res : Res A) (k : A → Mem → List Addr → Hp → Prop) : Prop :=
  match res with
  | .ok x M' => ∀ mu' H', Stp mu H mu' H' → Rm K CL mu' H' M' → k x M' mu' H'
  | .err c M' => ∀ mu' H' C, CL c = some C → Stp mu H mu' H' → Rm K CL mu' H' M' → W (.ref C) none σ H'
  | .bad => False
/-- an expression's reading -/
def rE (cl : Cl) (s : SE) : TE := fun σ H Q => ∃ mu r M, Rm K CL mu H M ∧ Rst K mu H r σ ∧ Pst K CL W σ mu H (s cl r M) fun x _ mu' H' => ∀ v, Rr K CL mu' H' H x v → Q v H'
def rT (cl : Cl) (s : STt) : TT := fun σ H Q => ∃ mu r M, Rm K CL mu H M ∧ Rst K mu H r σ ∧ Pst K CL W σ mu H (s cl r M) fun x _ _ H' => Q x H'
def rDs (cl : Cl) (s : SDs) : TA := fun σ H Q => ∃ mu r M, Rm K CL mu H M ∧ Rst K mu H r σ ∧ Pst K CL W σ mu H (s cl r M) fun x _ mu' H' => ∀ vs, Rvs K mu' H' x vs → Q vs H'
def rO (cl : Cl) (s : SO) : TO := fun σ H Q => ∃ mu r M, Rm K CL mu H M ∧ Rst K mu H r σ ∧ Pst K CL W σ mu H (s cl r M) fun x _ _ H' => Q x H'
end
section
variable {K : PySem.W.Frag} {CL : CLs} {W : WX} {σ : Sg} {mu mu1 : List Addr} {H H1 : Hp} {M M1 : Mem} {r : Env} {cl : Cl}
theorem Pst.mono {A : Type} {res : Res A} {k k' : A → Mem → List Addr → Hp → Prop} (h : Pst K CL W σ mu H res k)
    (q : ∀ x M' mu' H', Stp mu H mu' H' → Rm K CL mu' H' M' → k x M' mu' H' → k' x M' mu' H') : Pst K CL W σ mu H res k' := by
  cases res with
  | ok x M' => exact fun mu' H' s R => q x M' mu' H' s R (h mu' H' s R)
  | err c M' => exact h
  | bad => exact h
/-- from a later state -/
theorem Pst.from {A : Type} {res : Res A} {k : A → Mem → List Addr → Hp → Prop} (h : Pst K CL W σ mu H res k) (s : Stp mu H mu1 H1) (R : Rm K CL mu1 H1 M1) : Pst K CL W σ mu1 H1 res k := by
  cases res with
  | ok x M' => exact fun mu' H' s' R' => h mu' H' (s.trans s' R) R'
  | err c M' => exact fun mu' H' C e s' R' => h mu' H' C e (s.trans s' R) R'
  | bad => exact h
theorem Pst.bind {A B : Type} {res : Res A} {f : A → Mem → Res B} {k : B → Mem → List Addr → Hp → Prop} (h : Pst K CL W σ mu H (res.bind f) k) :
    Pst K CL W σ mu H res fun x M1 mu1 H1 => Pst K CL W σ mu1 H1 (f x M1) k := by
  cases res with
  | ok x M' => exact fun mu' H' s R => Pst.from (show Pst K CL W σ mu H (f x M') k from h) s R
  | err c M' => exact h
  | bad => exact h
end
end MI
end
section
set_option Elab.async false
set_option linter.all false
set_option maxRecDepth 100000
set_option maxHeartbeats 4000000
namespace MI
open PySem PySem.Spec PyProof.Rows L2
section
variable {X : Cx} {e : Expr}
theorem pe_imp {t t' : TE} (h : PE X e t) (q : ∀ σ H Q, t' σ H Q → t σ H Q) : PE X e t' := ⟨fun pins s σ H Q I w => h.run pins s σ H Q I (q σ H Q w)⟩
theorem pt_imp {t t' : TT} (h : PT X e t) (q : ∀ σ H Q, t' σ H Q → t σ H Q) : PT X e t' := ⟨fun pins s σ H Q I w => h.run pins s σ H Q I (q σ H Q w)⟩
theorem pa_imp {es : List Expr} {t t' : TA} (h : PA X es t) (q : ∀ σ H Q, t' σ H Q → t σ H Q) : PA X es t' := ⟨fun pos pins s σ H Q I w => h.run pos pins s σ H Q I (q σ H Q w)⟩
theorem po_imp {o : Option Expr} {t t' : TO} (h : PO X o t) (q : ∀ σ H Q, t' σ H Q → t σ H Q) : PO X o t' := ⟨fun pins s σ H Q I w => h.run pins s σ H Q I (q σ H Q w)⟩
theorem ps_imp {st : Stmt} {t t' : TS} (h : PS X st t) (q : ∀ D σ H, t' D σ H → t D σ H) : PS X st t' := ⟨fun pins s σ H D I w => h.run pins s σ H D I (q D σ H w)⟩
theorem pss_imp {st : List Stmt} {t t' : TS} (h : PSs X st t) (q : ∀ D σ H, t' D σ H → t D σ H) : PSs X st t' := ⟨fun pins s σ H D I w => h.run pins s σ H D I (q D σ H w)⟩
end
section
variable {K : PySem.W.Frag} {CL : CLs} {W : WX} {σ : Sg} {mu mu1 : List Addr} {H H0 H1 : Hp} {M M1 : Mem} {r : Env} {cl : Cl}
theorem rE.imp {s : SE} {Q Q' : VK} (h : rE K CL W cl s σ H Q) (q : ∀ v H', Q v H' → Q' v H') : rE K CL W cl s σ H Q' :=
  let ⟨mu, r, M, a, b, p⟩ := h
  ⟨mu, r, M, a, b, p.mono fun _ _ _ _ _ _ z v hv => q _ _ (z v hv)⟩
theorem rT.imp {s : STt} {Q Q' : Bool → Hp → Prop} (h : rT K CL W cl s σ H Q) (q : ∀ v H', Q v H' → Q' v H') : rT K CL W cl s σ H Q' :=
  let ⟨mu, r, M, a, b, p⟩ := h
  ⟨mu, r, M, a, b, p.mono fun _ _ _ _ _ _ z => q _ _ z⟩
theorem rDs.imp {s : SDs} {Q Q' : List V → Hp → Prop} (h : rDs K CL W cl s σ H Q) (q : ∀ v H', Q v H' → Q' v H') : rDs K CL W cl s σ H Q' :=
  let ⟨mu, r, M, a, b, p⟩ := h
  ⟨mu, r, M, a, b, p.mono fun _ _ _ _ _ _ z v hv => q _ _ (z v hv)⟩
theorem rO.imp {s : SO} {Q Q' : Option Int → Hp → Prop} (h : rO K CL W cl s σ H Q) (q : ∀ v H', Q v H' → Q' v H') : rO K CL W cl s σ H Q' :=
  let ⟨mu, r, M, a, b, p⟩ := h
  ⟨mu, r, M, a, b, p.mono fun _ _ _ _ _ _ z => q _ _ z⟩
/-- a state behind an expression, and what is still to be run -/
structure Nxt (K : PySem.W.Frag) (CL : CLs) (σ : Sg) (mu : List Addr) (H : Hp) (r : Env) (M1 : Mem) (mu1 : List Addr) (H1 : Hp) : Prop where
  rm : Rm K CL mu1 H1 M1
  rs : Rst K mu1 H1 r σ
  st : Stp mu H mu1 H1
theorem rE_then {A : Type} {s : SE} {f : RV → Mem → Res A} {k : A → Mem → List Addr → Hp → Prop} (hm : Rm K CL mu H M) (hs : Rst K mu H r σ)
    (h : Pst K CL W σ mu H ((s cl r M).bind f) k) {Q : VK} (q : ∀ x v M1 mu1 H1, Nxt K CL σ mu H r M1 mu1 H1 → Rr K CL mu1 H1 H x v → Pst K CL W σ mu1 H1 (f x M1) k → Q v H1) : rE K CL W cl s σ H Q :=
  ⟨mu, r, M, hm, hs, h.bind.mono fun x M' mu' H' st R z v hv => q x v M' mu' H' ⟨R, hs.stp hm st, st⟩ hv z⟩
theorem rT_then {A : Type} {s : STt} {f : Bool → Mem → Res A} {k : A → Mem → List Addr → Hp → Prop} (hm : Rm K CL mu H M) (hs : Rst K mu H r σ)
    (h : Pst K CL W σ mu H ((s cl r M).bind f) k) {Q : Bool → Hp → Prop} (q : ∀ x M1 mu1 H1, Nxt K CL σ mu H r M1 mu1 H1 → Pst K CL W σ mu1 H1 (f x M1) k → Q x H1) : rT K CL W cl s σ H Q :=
  ⟨mu, r, M, hm, hs, h.bind.mono fun x M' mu' H' st R z => q x M' mu' H' ⟨R, hs.stp hm st, st⟩ z⟩
theorem rDs_then {A : Type} {s : SDs} {f : List D → Mem → Res A} {k : A → Mem → List Addr → Hp → Prop} (hm : Rm K CL mu H M) (hs : Rst K mu H r σ)
    (h : Pst K CL W σ mu H ((s cl r M).bind f) k) {Q : List V → Hp → Prop} (q : ∀ x v M1 mu1 H1, Nxt K CL σ mu H r M1 mu1 H1 → Rvs K mu1 H1 x v → Pst K CL W σ mu1 H1 (f x M1) k → Q v H1) : rDs K CL W cl s σ H Q :=
  ⟨mu, r, M, hm, hs, h.bind.mono fun x M' mu' H' st R z v hv => q x v M' mu' H' ⟨R, hs.stp hm st, st⟩ hv z⟩
theorem rO_then {A : Type} {s : SO} {f : Option Int → Mem → Res A} {k : A → Mem → List Addr → Hp → Prop} (hm : Rm K CL mu H M) (hs : Rst K mu H r σ)
    (h : Pst K CL W σ mu H ((s cl r M).bind f) k) {Q : Option Int → Hp → Prop} (q : ∀ x M1 mu1 H1, Nxt K CL σ mu H r M1 mu1 H1 → Pst K CL W σ mu1 H1 (f x M1) k → Q x H1) : rO K CL W cl s σ H Q :=
  ⟨mu, r, M, hm, hs, h.bind.mono fun x M' mu' H' st R z => q x M' mu' H' ⟨R, hs.stp hm st, st⟩ z⟩
/-- .. what is left, told from the start -/
theorem Pst.bindB {A B : Type} {res : Res A} {f : A → Mem → Res B} {k : B → Mem → List Addr → Hp → Prop} (h : Pst K CL W σ mu H (res.bind f) k) :
    Pst K CL W σ mu H res fun x M1 _ _ => Pst K CL W σ mu H (f x M1) k := by
  cases res with
  | ok x M' => exact fun mu' H' s R => h
  | err c M' => exact h
  | bad => exact h
theorem rE_thenB {A : Type} {s : SE} {f : RV → Mem → Res A} {k : A → Mem → List Addr → Hp → Prop} {mu0 : List Addr} {H00 : Hp} (hm : Rm K CL mu H M) (hs : Rst K mu H r σ) (s0 : Stp mu0 H00 mu H)
    (h : Pst K CL W σ mu0 H00 ((s cl r M).bind f) k) {Q : VK} (q : ∀ x v M1 mu1 H1, Nxt K CL σ mu H r M1 mu1 H1 → Rr K CL mu1 H1 H x v → Pst K CL W σ mu0 H00 (f x M1) k → Q v H1) : rE K CL W cl s σ H Q :=
  ⟨mu, r, M, hm, hs, (h.bindB.from s0 hm).mono fun x M' mu' H' st R z v hv => q x v M' mu' H' ⟨R, hs.stp hm st, st⟩ hv z⟩
theorem rDs_thenB {A : Type} {s : SDs} {f : List D → Mem → Res A} {k : A → Mem → List Addr → Hp → Prop} {mu0 : List Addr} {H00 : Hp} (hm : Rm K CL mu H M) (hs : Rst K mu H r σ) (s0 : Stp mu0 H00 mu H)
    (h : Pst K CL W σ mu0 H00 ((s cl r M).bind f) k) {Q : List V → Hp → Prop} (q : ∀ x v M1 mu1 H1, Nxt K CL σ mu H r M1 mu1 H1 → Rvs K mu1 H1 x v → Pst K CL W σ mu0 H00 (f x M1) k → Q v H1) : rDs K CL W cl s σ H Q :=
  ⟨mu, r, M, hm, hs, (h.bindB.from s0 hm).mono fun x M' mu' H' st R z v hv => q x v M' mu' H' ⟨R, hs.stp hm st, st⟩ hv z⟩
/-- where the run ends: a value, nothing new -/
theorem Pst.here {A : Type} {a : A} {k : A → Mem → List Addr → Hp → Prop} (h : Pst K CL W σ mu H (.ok a M) k) (R : Rm K CL mu H M) : k a M mu H := h mu H Stp.refl R
end

/-! ### soundness of an expression, a test .. -/
section
variable (X : Cx) (CL : CLs) (cl : Cl)
def SndE (e : Expr) (s : SE) : Prop := ∀ W, Takes X W → PE X e (rE X.K CL W cl s)
def SndT (e : Expr) (s : STt) : Prop := ∀ W, Takes X W → PT X e (rT X.K CL W cl s)
def SndW (e : Expr) (s : STt) : Prop := ∀ W, Takes X W → PW X e (rT X.K CL W cl s)
def SndDs (es : List Expr) (s : SDs) : Prop := ∀ W, Takes X W → PA X es (rDs X.K CL W cl s)
def SndO (e : Option Expr) (s : SO) : Prop := ∀ W, Takes X W → PO X e (rO X.K CL W cl s)
end
section
variable {X : Cx} {CL : CLs} {cl : Cl} {a b c : Expr} {es : List Expr} {sa sb sc : SE} {as : SDs} {pos : Pos}
theorem snd_var {i : Nat} {x : Str} (hN : X.N[i]? = some x) (hv : Vis X.env.scope x) (hd : (x == ("__debug__" : Str)) = false) (hcd : (x == ("__classdict__" : Str)) = false) : SndE X CL cl (.Name x pos) (eVar i) := fun W tk => by
  refine pe_imp (pe_var hN hv hd hcd) fun σ H Q h => ?_
  obtain ⟨mu, r, M, hm, hs, p⟩ := h
  cases e : r[i]? with
  | none => simp [eVar, e, Pst] at p
  | some o =>
    cases o with
    | none => simp [eVar, e, Pst] at p
    | some d =>
      obtain ⟨v, h1, h2⟩ := hs.at_ i d e
      simp only [eVar, e] at p
      exact ⟨v, h1, p.here hm v h2⟩
theorem snd_const {d : D} {v : V} (h : PE X a (tC v)) (q : ∀ mu H, Rv X.K mu H d v) : SndE X CL cl a (eC d) := fun W tk => by
  refine pe_imp h fun σ H Q h => ?_
  obtain ⟨mu, r, M, hm, hs, p⟩ := h
  exact p.here hm v (q mu H)
theorem snd_int {i : Int} {j : Nat} : SndE X CL cl (.Constant (.int i) j pos) (eC (.int i)) := snd_const pe_int fun _ _ => rfl
theorem snd_bl {i : Bool} {j : Nat} : SndE X CL cl (.Constant (.bool i) j pos) (eC (.bl i)) := snd_const pe_bl fun _ _ => rfl
theorem snd_non {j : Nat} : SndE X CL cl (.Constant .none j pos) (eC .non) := snd_const pe_non fun _ _ => rfl
theorem snd_str {x : Str} {j : Nat} : SndE X CL cl (.Constant (.str x) j pos) (eC (.str x)) := snd_const pe_str fun _ _ => rfl

/-- an operation on two values, by what it asks of the heap -/
def Ok2 (K : PySem.W.Frag) (CL : CLs) (rr : R2) (o : Op2) : Prop :=
  ∀ (W : WX) (σ : Sg) mu H M x y v u (Q : VK), Rm K CL mu H M → Rw K CL mu H x v → Rw K CL mu H y u → Pst K CL W σ mu H (o x y M) (fun z _ mu' H' => ∀ w, Rr K CL mu' H' H z w → Q w H') → rr v u H Q
theorem two (W : WX) {rr : R2} {o : Op2} (ha : SndE X CL cl a sa) (hb : SndE X CL cl b sb) (k : Ok2 X.K CL rr o) {σ : Sg} {H : Hp} {Q : VK} (h : rE X.K CL W cl (e2 o sa sb) σ H Q) :
    rE X.K CL W cl sa σ H fun x H1 => rE X.K CL W cl sb σ H1 fun y H2 => rr x y H2 Q := by
  obtain ⟨mu, r, M, hm, hs, p⟩ := h
  refine rE_then hm hs p fun x v M1 mu1 H1 n1 h1 p1 => ?_
  refine rE_then n1.rm n1.rs p1 fun y u M2 mu2 H2 n2 h2 p2 => ?_
  refine k W σ mu2 H2 M2 x y v u Q n2.rm (h1.w.stp n1.rm n2.st) h2.w ?_
  exact p2.mono fun z M3 mu3 H3 s3 R3 q w hw => q w (hw.base (n1.st.trans n2.st n1.rm) n2.rm)
theorem snd_op2 {op : Operator} {rr : R2} {o : Op2} (ho : OpR X (binaryOp op) rr) (k : Ok2 X.K CL rr o) (ha : SndE X CL cl a sa) (hb : SndE X CL cl b sb) : SndE X CL cl (.BinOp a op b pos) (e2 o sa sb) := fun W tk =>
  pe_imp (pe_op ho (ha W tk) (hb W tk)) fun _ _ _ h => two W ha hb k h
theorem snd_cmp2 {op : CmpOp} {rr : R2} {o : Op2} (ho : OpR X (compareOp op) rr) (k : Ok2 X.K CL rr o) (ha : SndE X CL cl a sa) (hb : SndE X CL cl b sb) (hm : behindInMarks op b = false) : SndE X CL cl (.Compare a [op] [b] pos) (e2 o sa sb) := fun W tk =>
  pe_imp (pe_cmpR ho (ha W tk) (hb W tk) hm) fun _ _ _ h => two W ha hb k h
end
end MI
end
section
set_option Elab.async false
set_option linter.all false
set_option maxRecDepth 100000
set_option maxHeartbeats 4000000
/-! MIt: tuples of whole numbers compared -/
namespace MI
open PySem PySem.Spec PyProof.Rows L2
def lexW (R : Int → Int → Bool) (z : Bool) : List Int → List Int → Bool
  | x :: xs, y :: ys => if x = y then lexW R z xs ys else R x y
  | _, _ => z
theorem lexAt_shift (e r : Nat → Bool) (z : Bool) : ∀ k i, Ob.lexAt (fun j => e (j + 1)) (fun j => r (j + 1)) z i k = Ob.lexAt e r z (i + 1) k
  | 0, _ => rfl
  | k + 1, i => by rw [Ob.lexAt_succ, Ob.lexAt_succ, lexAt_shift e r z k (i + 1)]
theorem lexAt_W (R : Int → Int → Bool) (z : Bool) : ∀ (ns ms : List Int), ns.length = ms.length →
    Ob.lexAt (fun j => decide (ns.getD j 0 = ms.getD j 0)) (fun j => R (ns.getD j 0) (ms.getD j 0)) z 0 (min ns.length ms.length) = lexW R z ns ms
  | [], [], _ => rfl
  | [], _ :: _, h => by simp at h
  | _ :: _, [], h => by simp at h
  | x :: xs, y :: ys, h => by
    have h' : xs.length = ys.length := by simpa using h
    have ih := lexAt_W R z xs ys h'
    have em : min (x :: xs).length (y :: ys).length = min xs.length ys.length + 1 := by simp only [List.length_cons]; omega
    rw [em, Ob.lexAt_succ]
    show (if decide (x = y) = true then _ else R x y) = if x = y then lexW R z xs ys else R x y
    by_cases c : x = y
    · rw [if_pos (decide_eq_true c), if_pos c, ← ih]
      exact (lexAt_shift (fun j => decide ((x :: xs).getD j 0 = (y :: ys).getD j 0)) (fun j => R ((x :: xs).getD j 0) ((y :: ys).getD j 0)) z _ 0).symm
    · rw [if_neg (by simp [c]), if_neg c]
theorem lexW_lt : ∀ (a b : List Int), a.length = b.length → lexW (fun i j => decide (i < j)) false a b = lexL a b
  | [], [], _ => rfl
  | [], _ :: _, h => by simp at h
  | _ :: _, [], h => by simp at h
  | x :: xs, y :: ys, h => by
    unfold lexW lexL
    rw [lexW_lt xs ys (by simpa using h)]
theorem lexW_gt : ∀ (a b : List Int), a.length = b.length → lexW (fun i j => decide (j < i)) false a b = lexL b a
  | [], [], _ => rfl
  | [], _ :: _, h => by simp at h
  | _ :: _, [], h => by simp at h
  | x :: xs, y :: ys, h => by
    unfold lexW lexL
    rw [lexW_gt xs ys (by simpa using h)]
    by_cases c : x = y
    · rw [if_pos c, if_pos c.symm]
    · rw [if_neg c, if_neg (Ne.symm c)]
theorem lexW_le : ∀ (a b : List Int), a.length = b.length → lexW (fun i j => decide (i ≤ j)) true a b = !lexL b a
  | [], [], _ => rfl
  | [], _ :: _, h => by simp at h
  | _ :: _, [], h => by simp at h
  | x :: xs, y :: ys, h => by
    unfold lexW lexL
    rw [lexW_le xs ys (by simpa using h)]
    by_cases c : x = y
    · rw [if_pos c, if_pos c.symm]
    · rw [if_neg c, if_neg (Ne.symm c)]
      by_cases d : x ≤ y
      · rw [decide_eq_true d, decide_eq_false (by omega)]; rfl
      · rw [decide_eq_false d, decide_eq_true (by omega)]; rfl
theorem lexW_ge : ∀ (a b : List Int), a.length = b.length → lexW (fun i j => decide (j ≤ i)) true a b = !lexL a b
  | [], [], _ => rfl
  | [], _ :: _, h => by simp at h
  | _ :: _, [], h => by simp at h
  | x :: xs, y :: ys, h => by
    unfold lexW lexL
    rw [lexW_ge xs ys (by simpa using h)]
    by_cases c : x = y
    · rw [if_pos c, if_pos c]
    · rw [if_neg c, if_neg c]
      by_cases d : y ≤ x
      · rw [decide_eq_true d, decide_eq_false (by omega)]; rfl
      · rw [decide_eq_false d, decide_eq_true (by omega)]; rfl
/-- x op y of two tuples of whole numbers, of one width -/
abbrev rCmpT (K : PySem.W.Frag) (f : List Int → List Int → Bool) : R2 := fun x y H Q => ∃ (a b : Addr) (ns ms : List Int), x = .ref a ∧ y = .ref b ∧ SqT K H a (ns.map V.int) ∧ SqT K H b (ms.map V.int) ∧ ns.length = ms.length ∧ Q (.bl (f ns ms)) H
section
variable {X : Cx}
theorem op_cmpT {op : CmpOp} {f : List Int → List Int → Bool} (R : Int → Int → Bool) (z : Nat → Nat → Bool) (z0 : Bool) (hz : ∀ n, z n n = z0) (hf : ∀ a b : List Int, a.length = b.length → lexW R z0 a b = f a b)
    (hri : ∀ (s : Shared) (a b : Int) (t u : Tok), Ob.RcOp op X.A.in1 s (.int a t) (.int b u) (R a b))
    (hop : ∀ u v, compareOp op u v = richCompare op u v)
    (ht : ∀ {s : Shared} {l b : Addr} {items items2 : Array Value} {e r : Nat → Bool} (hl : s.heap.IsTuple l items) (hb : s.heap.IsTuple b items2) (hu : X.A.units < cLine)
      (he : ∀ j (h1 : j < items.size) (h2 : j < items2.size), SeqAt.EqAt X.A.in1 s items[j] items2[j] (e j))
      (hr : ∀ j (h1 : j < items.size) (h2 : j < items2.size), e j = false → Ob.RcOp op X.A.in1 s items[j] items2[j] (r j)),
      Ob.RcOp op X.A s (.ref l) (.ref b) (Ob.lexAt e r (z items.size items2.size) 0 (min items.size items2.size)))
    (hu : X.A.units < cLine) : OpR X (compareOp op) (rCmpT X.K f) := by
  intro pins s σ H x y v u Q I rx ry h
  obtain ⟨a, b, ns, ms, rfl, rfl, ha, hb, hl, q⟩ := h
  cases rx
  cases ry
  obtain ⟨its, r1, p1, _⟩ := I.tuple ha
  obtain ⟨its2, r2, p2, _⟩ := I.tuple hb
  have i1 : IntsAre its ns := Vals.ints r1
  have i2 : IntsAre its2 ms := Vals.ints r2
  have e1 : its.toArray.size = ns.length := by rw [List.size_toArray]; exact i1.length
  have e2 : its2.toArray.size = ms.length := by rw [List.size_toArray]; exact i2.length
  have at1 : ∀ j (h1 : j < its.toArray.size), ∃ t, its.toArray[j] = .int (ns.getD j 0) t := fun j h1 => PyProof.Rows.IntsAre.int_at i1 _ _ (by simp at h1; simp [h1])
  have at2 : ∀ j (h1 : j < its2.toArray.size), ∃ t, its2.toArray[j] = .int (ms.getD j 0) t := fun j h1 => PyProof.Rows.IntsAre.int_at i2 _ _ (by simp at h1; simp [h1])
  have RR := ht (s := s) (e := fun j => decide (ns.getD j 0 = ms.getD j 0)) (r := fun j => R (ns.getD j 0) (ms.getD j 0)) p1 p2 hu (fun j h1 h2 => by
    obtain ⟨t, et⟩ := at1 j h1
    obtain ⟨t', et'⟩ := at2 j h2
    rw [et, et']
    have z : (ns.getD j 0 == ms.getD j 0) = decide (ns.getD j 0 = ms.getD j 0) := by
      by_cases q : ns.getD j 0 = ms.getD j 0
      · rw [decide_eq_true q]; exact beq_iff_eq.mpr q
      · rw [decide_eq_false q]; exact beq_eq_false_iff_ne.mpr q
    rw [← z]
    exact SeqAt.EqAt.int_int _ _ _ _) (fun j h1 h2 _ => by
    obtain ⟨t, et⟩ := at1 j h1
    obtain ⟨t', et'⟩ := at2 j h2
    rw [et, et']
    exact hri s _ _ _ _)
  rw [e1, e2, hl, hz, ← hl] at RR
  have lw := lexAt_W R z0 ns ms hl
  rw [← hl] at lw
  simp only [Nat.min_self] at lw RR
  rw [lw, hf ns ms hl] at RR
  rw [hop]
  exact RR X.prog X.w X.xe (EP X pins σ Q) ⟨.bl _, H, I, rfl, q⟩
theorem op_ltT (hu : X.A.units < cLine) : OpR X (compareOp .Lt) (rCmpT X.K lexL) :=
  op_cmpT (fun i j => decide (i < j)) (fun m n => decide (m < n)) false (fun n => decide_eq_false (Nat.lt_irrefl n)) lexW_lt (fun s a b t u => Ob.RcOp.lt_int a b t u) (fun _ _ => rfl) (fun hl hb hu he hr => Ob.RcOp.tuples_lt hl hb hu he hr) hu
theorem op_gtT (hu : X.A.units < cLine) : OpR X (compareOp .Gt) (rCmpT X.K fun a b => lexL b a) :=
  op_cmpT (fun i j => decide (j < i)) (fun m n => decide (m > n)) false (fun n => decide_eq_false (Nat.lt_irrefl n)) lexW_gt (fun s a b t u => Ob.RcOp.gt_int a b t u) (fun _ _ => rfl) (fun hl hb hu he hr => Ob.RcOp.tuples_gt hl hb hu he hr) hu
theorem op_leT (hu : X.A.units < cLine) : OpR X (compareOp .LtE) (rCmpT X.K fun a b => !lexL b a) :=
  op_cmpT (fun i j => decide (i ≤ j)) (fun m n => decide (m ≤ n)) true (fun n => decide_eq_true (Nat.le_refl n)) lexW_le (fun s a b t u => Ob.RcOp.le_int a b t u) (fun _ _ => rfl) (fun hl hb hu he hr => Ob.RcOp.tuples_le hl hb hu he hr) hu
theorem op_geT (hu : X.A.units < cLine) : OpR X (compareOp .GtE) (rCmpT X.K fun a b => !lexL a b) :=
  op_cmpT (fun i j => decide (j ≤ i)) (fun m n => decide (m ≥ n)) true (fun n => decide_eq_true (Nat.le_refl n)) lexW_ge (fun s a b t u => Ob.RcOp.ge_int a b t u) (fun _ _ => rfl) (fun hl hb hu he hr => Ob.RcOp.tuples_ge hl hb hu he hr) hu
end
theorem asInts_eq : ∀ {ds : List D} {ns : List Int}, asInts ds = some ns → ds = ns.map D.int
  | [], ns, h => by simp [asInts] at h; subst h; rfl
  | .int i :: r, ns, h => by
    simp only [asInts, Option.map_eq_some_iff] at h
    obtain ⟨q, h, rfl⟩ := h
    rw [asInts_eq h]; rfl
  | .non :: _, _, h | .bl _ :: _, _, h | .str _ :: _, _, h | .tup _ :: _, _, h | .hdl _ :: _, _, h | .ro _ :: _, _, h => by simp [asInts] at h
theorem asRow_eq {d : D} {ns : List Int} (h : asRow d = some ns) : d = rowD ns := by
  cases d with
  | tup ds => rw [asInts_eq (show asInts ds = some ns from h)]; rfl
  | _ => cases h
theorem asRows_eq : ∀ {ds : List D} {rs : List (List Int)}, asRows ds = some rs → ds = rs.map rowD
  | [], rs, h => by simp [asRows] at h; subst h; rfl
  | d :: r, rs, h => by
    unfold asRows at h
    split at h
    · rename_i a b e1 e2
      cases h
      rw [asRow_eq e1, asRows_eq e2]; rfl
    · cases h
end MI
end
section
set_option Elab.async false
set_option linter.all false
set_option maxRecDepth 100000
set_option maxHeartbeats 4000000
namespace MI
open PySem PySem.Spec PyProof.Rows L2
section
variable {K : PySem.W.Frag} {CL : CLs} {W : WX} {σ : Sg} {mu mu1 : List Addr} {H H0 H1 : Hp} {M M1 : Mem} {r : Env} {cl : Cl}
/-! ### what a run ends in -/
theorem end_d {d : D} {v : V} {Q : VK} (R : Rm K CL mu H M) (h : Pst K CL W σ mu H (.ok (.d d) M) fun z _ mu' H' => ∀ w, Rr K CL mu' H' H z w → Q w H') (q : Rv K mu H d v) : Q v H := h.here R v q
theorem end_lst {ds : List D} {vs : List V} {Q : VK} (R : Rm K CL mu H M) (h : Pst K CL W σ mu H (.ok (.o (.lst ds)) M) fun z _ mu' H' => ∀ w, Rr K CL mu' H' H z w → Q w H') (q : Rvs K mu H ds vs) :
    ∀ p, H p = none → Q (.ref p) (upd H p (.lst vs)) := fun p n =>
  h mu _ (Stp.laid R n) (R.laid n) (.ref p) ⟨p, rfl, ⟨vs, upd_same, q.stp R (Stp.laid R n)⟩, R.fresh n, n⟩
theorem end_tup {ds : List D} {vs : List V} {Q : VK} (R : Rm K CL mu H M) (h : Pst K CL W σ mu H (.ok (.d (.tup ds)) M) fun z _ mu' H' => ∀ w, Rr K CL mu' H' H z w → Q w H') (q : Rvs K mu H ds vs) :
    ∀ p, H p = none → Q (.ref p) (upd H p (.tup vs)) := fun p n =>
  h mu _ (Stp.laid R n) (R.laid n) (.ref p) ⟨p, vs, rfl, .inl (.inl upd_same), q.stp R (Stp.laid R n)⟩
theorem bad_end {A : Type} {k : A → Mem → List Addr → Hp → Prop} {P : Prop} (h : Pst K CL W σ mu H (.bad : Res A) k) : P := h.elim

/-! ### what is read -/
theorem lstT_ok {x : RV} {v : V} {ds : List D} (R : Rm K CL mu H M) (h : Rw K CL mu H x v) (e : lstT x M = some ds) : ∃ a vs, v = .ref a ∧ H a = some (.lst vs) ∧ Rvs K mu H ds vs := by
  cases x with
  | o o =>
    cases o with
    | lst es =>
      simp only [lstT, Option.some.injEq] at e
      subst e
      obtain ⟨a, rfl, ⟨vs, h1, h2⟩, _⟩ := h
      exact ⟨a, vs, rfl, h1, h2⟩
    | _ => simp [lstT] at e
  | d d =>
    cases d with
    | hdl n =>
      obtain ⟨a, h1, rfl⟩ := h
      cases q : M[n]? with
      | none => simp [lstT, q] at e
      | some o =>
        cases o with
        | lst es =>
          simp only [lstT, q, Option.some.injEq] at e
          subst e
          obtain ⟨vs, h3, h4⟩ := R.ob n a _ h1 q
          exact ⟨a, vs, rfl, h3, h4⟩
        | _ => simp [lstT, q] at e
    | _ => simp [lstT] at e
theorem lstOf_ok {x : RV} {v : V} {ds : List D} (R : Rm K CL mu H M) (h : Rw K CL mu H x v) (e : lstOf x M = some ds) : ∃ a vs, v = .ref a ∧ SqL K H a vs ∧ Rvs K mu H ds vs := by
  by_cases hr : ∃ es, x = .d (.ro es)
  · obtain ⟨es, rfl⟩ := hr
    simp only [lstOf, Option.some.injEq] at e
    subst e
    obtain ⟨a, vs, rfl, h1, h2⟩ := h
    exact ⟨a, vs, rfl, h1.sq, h2⟩
  · have e' : lstT x M = some ds := by
      cases x with
      | o o => cases o <;> simpa [lstT, lstOf] using e
      | d d =>
        cases d with
        | ro es => exact absurd ⟨es, rfl⟩ hr
        | hdl n => simpa [lstT, lstOf] using e
        | _ => simp [lstOf] at e
    obtain ⟨a, vs, h1, h2, h3⟩ := lstT_ok R h e'
    exact ⟨a, vs, h1, .inl (.inl h2), h3⟩
theorem seqOf_ok {x : RV} {v : V} {ds : List D} (R : Rm K CL mu H M) (h : Rw K CL mu H x v) (e : seqOf x M = some ds) : ∃ a vs, v = .ref a ∧ (SqL K H a vs ∨ SqT K H a vs) ∧ Rvs K mu H ds vs := by
  by_cases hr : ∃ es, x = .d (.tup es)
  · obtain ⟨es, rfl⟩ := hr
    simp only [seqOf, Option.some.injEq] at e
    subst e
    obtain ⟨a, vs, rfl, h1, h2⟩ := h
    exact ⟨a, vs, rfl, .inr h1, h2⟩
  · have e' : lstOf x M = some ds := by
      cases x with
      | o o => simpa [seqOf] using e
      | d d =>
        cases d with
        | tup es => exact absurd ⟨es, rfl⟩ hr
        | _ => simpa [seqOf] using e
    obtain ⟨a, vs, h1, h2, h3⟩ := lstOf_ok R h e'
    exact ⟨a, vs, h1, .inl h2, h3⟩
theorem dicOf_ok {x : RV} {v : V} {kvs : List (D × D)} (R : Rm K CL mu H M) (h : Rw K CL mu H x v) (e : dicOf x M = some kvs) : ∃ fz a xs, v = .ref a ∧ Lk fz H a (dictO CL.w a xs) ∧ Rdt K mu H kvs xs := by
  cases x with
  | o o =>
    cases o with
    | dic fz es =>
      simp only [dicOf, Option.some.injEq] at e
      subst e
      obtain ⟨a, rfl, ⟨xs, h1, h2⟩, _⟩ := h
      exact ⟨fz, a, xs, rfl, h1, h2⟩
    | _ => simp [dicOf] at e
  | d d =>
    cases d with
    | hdl n =>
      obtain ⟨a, h1, rfl⟩ := h
      cases q : M[n]? with
      | none => simp [dicOf, q] at e
      | some o =>
        cases o with
        | dic fz es =>
          simp only [dicOf, q, Option.some.injEq] at e
          subst e
          obtain ⟨xs, h3, h4⟩ := R.ob n a _ h1 q
          exact ⟨fz, a, xs, rfl, h3, h4⟩
        | _ => simp [dicOf, q] at e
    | _ => simp [dicOf] at e

/-! ### whole numbers -/
theorem ok2_sub : Ok2 K CL (rI0 fun i j => .int (i - j)) oSub := fun W σ mu H M x y v u Q R hx hy p => by
  unfold oSub at p
  split at p
  · exact ⟨_, _, hx, hy, end_d R p rfl⟩
  · exact bad_end p
/-- a text, so many times -/
def rMulS : R2 := fun x y H Q => ∃ (a : Str) (n : Int), x = .str a ∧ y = .int n ∧ 0 ≤ n ∧ n ≤ 1000 ∧ a.length ≤ 10000 ∧ Q (.str (Txt.mul a n)) H
theorem op_mulStr {X : Cx} : OpR X (binaryOp .Mult) rMulS := by
  intro pins s σ H x y v u Q I rx ry h
  obtain ⟨a, n, rfl, rfl, h0, h1, h2, q⟩ := h
  obtain ⟨t, rfl⟩ := rx
  obtain ⟨t', rfl⟩ := ry
  have hsl := sizeLine_eq
  refine SB.mul ⟨by simp only [Bool.or_eq_false_iff, decide_eq_false_iff_not]; omega, fun h3 _ => ?_, fun h3 _ => ?_⟩ fun t' tk => ⟨.str _, H, I.tok _, ⟨_, rfl⟩, q⟩
  · have : (10000 : Int) ≤ (2 ^ 63 - 1) / n := (Int.le_ediv_iff_mul_le (by omega)).mpr (by omega)
    omega
  · have hm : a.length * n.toNat ≤ 10000 * 1000 := Nat.mul_le_mul h2 (by omega)
    simp only [Builtin.Str.tooLong, decide_eq_false_iff_not]
    omega
theorem flat_rep (c : Array Nat) : ∀ (n : Nat) (b : Array Nat), ((List.replicate n c).foldl (· ++ ·) b).toList = b.toList ++ mulL c.toList n
  | 0, b => by simp [mulL]
  | n + 1, b => by rw [List.replicate_succ, List.foldl_cons, flat_rep c n, Array.toList_append, mulL, List.append_assoc]
theorem mulL_nil : ∀ n, mulL [] n = []
  | 0 => rfl
  | n + 1 => by rw [mulL, mulL_nil n]; rfl
theorem mul_mulL {a : Str} {n : Int} (h : 0 ≤ n) : Txt.mul a n = ⟨(mulL a.cps.toList n.toNat).toArray⟩ := by
  refine Str.ext' (Array.toList_inj.mp ?_)
  unfold Txt.mul
  split
  · have : n = 0 := by omega
    subst this; rfl
  · split
    · rename_i h1 h2
      rw [Bool.or_eq_true, beq_iff_eq, beq_iff_eq] at h2
      rcases h2 with h2 | h2
      · subst h2
        show a.cps.toList = a.cps.toList ++ []
        rw [List.append_nil]
      · have e : a.cps.toList = [] := by
          have : a.cps.size = 0 := h2
          rw [← Array.length_toList] at this
          exact List.length_eq_zero_iff.mp this
        show a.cps.toList = mulL a.cps.toList n.toNat
        rw [e, mulL_nil]
    · show ((List.replicate n.toNat a.cps).foldl (· ++ ·) #[]).toList = mulL a.cps.toList n.toNat
      rw [flat_rep]; rfl
theorem ok2_div : Ok2 K CL (rI CDivW fun i j => .int (i / j)) oDiv := fun W σ mu H M x y v u Q R hx hy p => by
  unfold oDiv at p
  split at p
  · split at p
    · rename_i c; exact ⟨_, _, hx, hy, wide_div c.1 (b := 101) (by omega) (by decide) (by decide), end_d R p rfl⟩
    · exact bad_end p
  · exact bad_end p
theorem ok2_mod : Ok2 K CL (rI (fun _ j => 0 < j) fun i j => .int (i % j)) oMod := fun W σ mu H M x y v u Q R hx hy p => by
  unfold oMod at p
  split at p
  · split at p
    · rename_i c; exact ⟨_, _, hx, hy, c, end_d R p rfl⟩
    · exact bad_end p
  · exact bad_end p
theorem ok2_pow : Ok2 K CL (rI CPow fun i j => .int (i ^ j.toNat)) oPow := fun W σ mu H M x y v u Q R hx hy p => by
  unfold oPow at p
  split at p
  · split at p
    · rename_i c; exact ⟨_, _, hx, hy, c, end_d R p rfl⟩
    · exact bad_end p
  · exact bad_end p
/-- a new list of two, whatever they are -/
def rCatL (K : PySem.W.Frag) : R2 := fun x y H Q => ∃ l b xs zs, x = .ref l ∧ y = .ref b ∧ SqL K H l xs ∧ SqL K H b zs ∧ xs.length + zs.length ≤ sizeLine ∧ ∀ p, H p = none → Q (.ref p) (upd H p (.lst (xs ++ zs)))
theorem op_catL {X : Cx} : OpR X (binaryOp .Add) (rCatL X.K) := by
  intro pins s σ H x y v u Q I rx ry h
  obtain ⟨l, b, xs, zs, rfl, rfl, hH, hB, hz, q⟩ := h
  cases rx
  cases ry
  obtain ⟨its, r, ⟨o, n, e1, e2, e3, e4⟩, _⟩ := I.list hH
  obtain ⟨its2, r2, ⟨o', n2, e5, e6, e7, e8⟩, _⟩ := I.list hB
  have hl := r.length
  have hl2 := r2.length
  obtain ⟨oc, od, odt, osl⟩ := o
  obtain ⟨oc2, od2, odt2, osl2⟩ := o'
  dsimp only at e2 e3 e4 e6 e7 e8
  subst e2 e3 e4 e6 e7 e8
  have ea : its.toArray ++ its2.toArray = (its ++ its2).toArray := by simp
  refine concat_meets ⟨_, e1, rfl⟩ ⟨_, e5, rfl⟩ noFill_list_add seq_list_add PySem.F.slot_list_add PySem.F.entry_list_add (PySem.F.args_list_add_2 _ _) (PyProof.Rows.list_addW l b its.toArray its2.toArray n n2 none none osl osl2 (by simp only [List.size_toArray]; omega)) ⟨e1, e5, ?_⟩
  rw [ea]
  exact ⟨.ref _, _, I.lnew (t' := s.toks) (r.append r2) (by rw [List.length_append]; omega), rfl, q _ I.fresh⟩
abbrev rAddAll (K : PySem.W.Frag) : R2 := fun x y H Q => (rI0 fun i j => .int (i + j)) x y H Q ∨ (∃ i j, x = .str i ∧ y = .str j ∧ i.length + j.length ≤ sizeLine ∧ Q (.str (i ++ j)) H) ∨ rCatA K x y H Q ∨ rCatL K x y H Q
theorem op_addAll {X : Cx} : OpR X (binaryOp .Add) (rAddAll X.K) := op_add.or (op_add_str.or (op_catA.or op_catL))
theorem ok2_add : Ok2 K CL (rAddAll K) oAdd := fun W σ mu H M x y v u Q R hx hy p => by
  unfold oAdd at p
  split at p
  · exact .inl ⟨_, _, hx, hy, end_d R p rfl⟩
  · split at p
    · rename_i c; exact .inr (.inl ⟨_, _, hx, hy, c, end_d R p rfl⟩)
    · exact bad_end p
  · split at p
    · rename_i c
      obtain ⟨a, vs, rfl, h1, h2⟩ := hx
      obtain ⟨b, ws, rfl, h3, h4⟩ := hy
      refine .inr (.inr (.inl ⟨a, b, vs, ws, rfl, rfl, h1, h3, by rw [← h2.length, ← h4.length]; exact c, fun e => ?_, fun _ e => ?_, fun _ _ => end_tup R p (h2.append h4)⟩))
      · subst e
        exact end_d R p ⟨b, ws, rfl, h3, by simpa using h2.append h4⟩
      · subst e
        exact end_d R p ⟨a, vs, rfl, h1, by simpa using h2.append h4⟩
    · exact bad_end p
  · split at p
    · rename_i e1 e2
      split at p
      · rename_i c
        obtain ⟨a, vs, rfl, h1, h2⟩ := lstOf_ok R hx e1
        obtain ⟨b, ws, rfl, h3, h4⟩ := lstOf_ok R hy e2
        exact .inr (.inr (.inr ⟨a, b, vs, ws, rfl, rfl, h1, h3, by rw [← h2.length, ← h4.length]; exact c, end_lst R p (h2.append h4)⟩))
      · exact bad_end p
    · exact bad_end p
theorem ok2_lt : Ok2 K CL (fun x y H Q => (rI0 fun i j => .bl (decide (i < j))) x y H Q ∨ rCmpT K (lexL) x y H Q) oLt := fun W σ mu H M x y v u Q R hx hy p => by
  unfold oLt at p
  split at p
  · exact .inl ⟨_, _, hx, hy, end_d R p rfl⟩
  · split at p
    · rename_i e1 e2
      split at p
      · rename_i c
        obtain ⟨a, vs, rfl, h1, h2⟩ := hx
        obtain ⟨b, ws, rfl, h3, h4⟩ := hy
        rw [asInts_eq e1] at h2
        rw [asInts_eq e2] at h4
        have i1 := h2.ints
        have i2 := h4.ints
        subst i1
        subst i2
        exact .inr ⟨a, b, _, _, rfl, rfl, h1, h3, c, end_d R p rfl⟩
      · exact bad_end p
    · exact bad_end p
  · exact bad_end p
theorem ok2_le : Ok2 K CL (fun x y H Q => (rI0 fun i j => .bl (decide (i ≤ j))) x y H Q ∨ rCmpT K (fun a b => !lexL b a) x y H Q) oLe := fun W σ mu H M x y v u Q R hx hy p => by
  unfold oLe at p
  split at p
  · exact .inl ⟨_, _, hx, hy, end_d R p rfl⟩
  · split at p
    · rename_i e1 e2
      split at p
      · rename_i c
        obtain ⟨a, vs, rfl, h1, h2⟩ := hx
        obtain ⟨b, ws, rfl, h3, h4⟩ := hy
        rw [asInts_eq e1] at h2
        rw [asInts_eq e2] at h4
        have i1 := h2.ints
        have i2 := h4.ints
        subst i1
        subst i2
        exact .inr ⟨a, b, _, _, rfl, rfl, h1, h3, c, end_d R p rfl⟩
      · exact bad_end p
    · exact bad_end p
  · exact bad_end p
theorem ok2_gt : Ok2 K CL (fun x y H Q => (rI0 fun i j => .bl (decide (j < i))) x y H Q ∨ rCmpT K (fun a b => lexL b a) x y H Q) oGt := fun W σ mu H M x y v u Q R hx hy p => by
  unfold oGt at p
  split at p
  · exact .inl ⟨_, _, hx, hy, end_d R p rfl⟩
  · split at p
    · rename_i e1 e2
      split at p
      · rename_i c
        obtain ⟨a, vs, rfl, h1, h2⟩ := hx
        obtain ⟨b, ws, rfl, h3, h4⟩ := hy
        rw [asInts_eq e1] at h2
        rw [asInts_eq e2] at h4
        have i1 := h2.ints
        have i2 := h4.ints
        subst i1
        subst i2
        exact .inr ⟨a, b, _, _, rfl, rfl, h1, h3, c, end_d R p rfl⟩
      · exact bad_end p
    · exact bad_end p
  · exact bad_end p
theorem ok2_ge : Ok2 K CL (fun x y H Q => (rI0 fun i j => .bl (decide (j ≤ i))) x y H Q ∨ rCmpT K (fun a b => !lexL a b) x y H Q) oGe := fun W σ mu H M x y v u Q R hx hy p => by
  unfold oGe at p
  split at p
  · exact .inl ⟨_, _, hx, hy, end_d R p rfl⟩
  · split at p
    · rename_i e1 e2
      split at p
      · rename_i c
        obtain ⟨a, vs, rfl, h1, h2⟩ := hx
        obtain ⟨b, ws, rfl, h3, h4⟩ := hy
        rw [asInts_eq e1] at h2
        rw [asInts_eq e2] at h4
        have i1 := h2.ints
        have i2 := h4.ints
        subst i1
        subst i2
        exact .inr ⟨a, b, _, _, rfl, rfl, h1, h3, c, end_d R p rfl⟩
      · exact bad_end p
    · exact bad_end p
  · exact bad_end p

/-! ### is -/
theorem Rw.non_iff {x : RV} {v : V} (h : Rw K CL mu H x v) : decide (x = .d .non) = decide (v = .non) := by
  have key : x = .d .non ↔ v = .non := by
    cases x with
    | o o => obtain ⟨a, rfl, _⟩ := h; exact ⟨nofun, nofun⟩
    | d d =>
      cases d with
      | non => exact ⟨fun _ => h, fun _ => rfl⟩
      | bl b => rw [show v = V.bl b from h]; exact ⟨nofun, nofun⟩
      | int b => rw [show v = V.int b from h]; exact ⟨nofun, nofun⟩
      | str b => rw [show v = V.str b from h]; exact ⟨nofun, nofun⟩
      | tup b => obtain ⟨a, vs, rfl, _⟩ := h; exact ⟨nofun, nofun⟩
      | hdl b => obtain ⟨a, _, rfl⟩ := h; exact ⟨nofun, nofun⟩
      | ro b => obtain ⟨a, vs, rfl, _⟩ := h; exact ⟨nofun, nofun⟩
  by_cases h1 : v = .non
  · rw [decide_eq_true h1, decide_eq_true (key.mpr h1)]
  · rw [decide_eq_false h1, decide_eq_false fun z => h1 (key.mp z)]
abbrev rIsAll : R2 := fun x y H Q => (y = .non ∧ Q (.bl (decide (x = .non))) H) ∨ rIsB x y H Q
abbrev rIsNotAll : R2 := fun x y H Q => (y = .non ∧ Q (.bl (!decide (x = .non))) H) ∨ rNotB x y H Q
theorem op_isAll {X : Cx} : OpR X (compareOp .Is) rIsAll := op_isN.or op_isBl
theorem op_isNotAll {X : Cx} : OpR X (compareOp .IsNot) rIsNotAll := op_notN.or op_notBl
theorem ok2_is : Ok2 K CL rIsAll oIs := fun W σ mu H M x y v u Q R hx hy p => by
  unfold oIs at p
  split at p
  · exact .inl ⟨hy, end_d R p (by rw [hx.non_iff]; rfl)⟩
  · exact .inr ⟨_, _, hx, hy, end_d R p rfl⟩
  · exact bad_end p
theorem ok2_isNot : Ok2 K CL rIsNotAll oIsNot := fun W σ mu H M x y v u Q R hx hy p => by
  unfold oIsNot at p
  split at p
  · exact .inl ⟨hy, end_d R p (by rw [hx.non_iff]; rfl)⟩
  · exact .inr ⟨_, _, hx, hy, end_d R p rfl⟩
  · exact bad_end p

/-! ### == -/
mutual
theorem peq_eqv : ∀ a b : PyData, a.canLay0 = true → b.canLay0 = true → peq a b = PyData.eqv a b
  | .none, b, _, _ => by cases b <;> rfl
  | .bool _, b, _, _ => by cases b <;> rfl
  | .int _, b, _, _ => by cases b <;> rfl
  | .str _, b, _, _ => by cases b <;> rfl
  | .list xs, .list ys, h1, h2 => peqs_eqv xs ys h1 h2
  | .tuple xs, .tuple ys, h1, h2 => peqs_eqv xs ys h1 h2
  | .list _, .none, _, _ | .list _, .bool _, _, _ | .list _, .int _, _, _ | .list _, .str _, _, _ | .list _, .tuple _, _, _ | .list _, .dict _, _, _ => rfl
  | .tuple _, .none, _, _ | .tuple _, .bool _, _, _ | .tuple _, .int _, _, _ | .tuple _, .str _, _, _ | .tuple _, .list _, _, _ | .tuple _, .dict _, _, _ => rfl
  | .dict _, b, _, _ => by cases b <;> rfl
theorem peqs_eqv : ∀ a b : List PyData, PyData.canLayAll0 a = true → PyData.canLayAll0 b = true → peqs a b = PyData.eqvAll a b
  | [], [], _, _ => rfl
  | [], _ :: _, _, _ => rfl
  | _ :: _, [], _, _ => rfl
  | x :: xs, y :: ys, h1, h2 => by
    simp only [PyData.canLayAll0, Bool.and_eq_true] at h1 h2
    simp only [peqs, PyData.eqvAll, peq_eqv x y h1.1 h2.1, peqs_eqv xs ys h1.2 h2.2]
end
theorem mapM_cons' {A B : Type} {f : A → Option B} {x : A} {xs : List A} {q : List B} (h : (x :: xs).mapM f = some q) : ∃ y ys, f x = some y ∧ xs.mapM f = some ys ∧ q = y :: ys := by
  rw [List.mapM_cons] at h
  cases e : f x with
  | none => rw [e] at h; simp at h
  | some y =>
    rw [e] at h
    cases e2 : xs.mapM f with
    | none => rw [e2] at h; simp at h
    | some ys =>
      rw [e2] at h
      simp at h
      exact ⟨y, ys, rfl, rfl, h.symm⟩
theorem dps_of {f : D → Option PyData} {n : Nat} (ih : ∀ d v q, Rv K mu H d v → f d = some q → Dp K H v q ∧ q.canLay0 = true ∧ q.depth ≤ n) :
    ∀ (ds : List D) (vs : List V) (qs : List PyData), Rvs K mu H ds vs → ds.mapM f = some qs → DpAll K H vs qs ∧ PyData.canLayAll0 qs = true ∧ PyData.depthAll qs ≤ n
  | [], vs, qs, h, e => by
    rw [show vs = [] from h]
    simp at e
    subst e
    exact ⟨.nil, rfl, Nat.zero_le _⟩
  | d :: ds, vs, qs, ⟨v, r, e1, h, t⟩, e => by
    obtain ⟨y, ys, h1, h2, rfl⟩ := mapM_cons' e
    subst e1
    obtain ⟨a1, a2, a3⟩ := ih d v y h h1
    obtain ⟨b1, b2, b3⟩ := dps_of ih ds r ys t h2
    refine ⟨.cons a1 b1, ?_, ?_⟩
    · simp only [PyData.canLayAll0, a2, b2, Bool.and_self]
    · simp only [PyData.depthAll]
      exact Nat.max_le.mpr ⟨a3, b3⟩
theorem der_ok (R : Rm K CL mu H M) : ∀ (n : Nat) (d : D) (v : V) (q : PyData), Rv K mu H d v → der n M d = some q → Dp K H v q ∧ q.canLay0 = true ∧ q.depth ≤ n
  | n, .non, v, q, h, e => by
    rw [show v = V.non from h]; cases n <;> (simp [der] at e; subst e; exact ⟨.non, rfl, Nat.zero_le _⟩)
  | n, .bl b, v, q, h, e => by
    rw [show v = V.bl b from h]; cases n <;> (simp [der] at e; subst e; exact ⟨.bl b, rfl, Nat.zero_le _⟩)
  | n, .int b, v, q, h, e => by
    rw [show v = V.int b from h]; cases n <;> (simp [der] at e; subst e; exact ⟨.int b, rfl, Nat.zero_le _⟩)
  | n, .str b, v, q, h, e => by
    have h' : v = V.str b := h
    subst h'
    by_cases c : b.cps.all (· < 0x110000) = true
    · have e' : some (PyData.str b) = some q := by cases n <;> simpa only [der, if_pos c] using e
      cases e'
      exact ⟨.str b, c, Nat.zero_le _⟩
    · cases n <;> simp only [der, if_neg c] at e <;> cases e
  | 0, .tup _, _, _, _, e => by simp [der] at e
  | 0, .hdl _, _, _, _, e => by simp [der] at e
  | 0, .ro _, _, _, _, e => by simp [der] at e
  | n + 1, .tup ds, v, q, hv, e => by
    obtain ⟨a, vs, rfl, h, t⟩ := hv
    simp only [der, Option.map_eq_some_iff] at e
    obtain ⟨qs, e, rfl⟩ := e
    obtain ⟨a1, a2, a3⟩ := dps_of (fun d v q => der_ok R n d v q) ds vs qs t e
    exact ⟨.tup h a1, a2, Nat.succ_le_succ a3⟩
  | n + 1, .ro ds, v, q, hv, e => by
    obtain ⟨a, vs, rfl, h, t⟩ := hv
    simp only [der, Option.map_eq_some_iff] at e
    obtain ⟨qs, e, rfl⟩ := e
    obtain ⟨a1, a2, a3⟩ := dps_of (fun d v q => der_ok R n d v q) ds vs qs t e
    exact ⟨.lst h.sq a1, a2, Nat.succ_le_succ a3⟩
  | n + 1, .hdl m, v, q, hv, e => by
    obtain ⟨a, h, rfl⟩ := hv
    simp only [der] at e
    split at e
    · rename_i ds e2
      simp only [Option.map_eq_some_iff] at e
      obtain ⟨qs, e, rfl⟩ := e
      obtain ⟨vs, h3, h4⟩ := R.ob m a _ h e2
      obtain ⟨a1, a2, a3⟩ := dps_of (fun d v q => der_ok R n d v q) ds vs qs h4 e
      exact ⟨.lst (.inl (.inl h3)) a1, a2, Nat.succ_le_succ a3⟩
    · cases e
theorem derR_ok (R : Rm K CL mu H M) {x : RV} {v : V} {q : PyData} (h : Rw K CL mu H x v) (e : derR x M = some q) : Dp K H v q ∧ q.canLay0 = true ∧ SeqAt.shaped q = true := by
  have key : Dp K H v q ∧ q.canLay0 = true ∧ q.depth ≤ 32 := by
    cases x with
    | d d => exact der_ok R 32 d v q h e
    | o o =>
      cases o with
      | lst ds =>
        simp only [derR, Option.map_eq_some_iff] at e
        obtain ⟨qs, e, rfl⟩ := e
        obtain ⟨a, rfl, ⟨vs, h3, h4⟩, _⟩ := h
        obtain ⟨a1, a2, a3⟩ := dps_of (fun d v q => der_ok R 31 d v q) ds vs qs h4 e
        exact ⟨.lst (.inl (.inl h3)) a1, a2, Nat.succ_le_succ a3⟩
      | _ => simp [derR] at e
  obtain ⟨a, b, c⟩ := key
  refine ⟨a, b, ?_⟩
  unfold SeqAt.shaped
  rw [b, decide_eq_true (Nat.le_trans c (by decide))]
  rfl
end
end MI
end
section
set_option Elab.async false
set_option linter.all false
set_option maxRecDepth 100000
set_option maxHeartbeats 4000000
/-! MIu: dicts: their keys are tuples, or numbers, texts and None -/
namespace MI
open PySem PySem.Spec PyProof.Rows L2
/-! ### keys -/
mutual
theorem nk_depth : ∀ (n : Nat) (d : D), nkOk n d = true → (toNk d).depth ≤ n
  | _, .non, _ => Nat.zero_le _
  | _, .int _, _ => Nat.zero_le _
  | _, .str _, _ => Nat.zero_le _
  | n + 1, .tup ds, h => Nat.succ_le_succ (nks_depth n ds (by simpa only [nkOk] using h))
  | 0, .tup ds, h => by simp [nkOk] at h
  | n, .bl _, h => by cases n <;> simp [nkOk] at h
  | n, .hdl _, h => by cases n <;> simp [nkOk] at h
  | n, .ro _, h => by cases n <;> simp [nkOk] at h
theorem nks_depth : ∀ (n : Nat) (ds : List D), nksOk n ds = true → NestedKey.depthAll (toNks ds) ≤ n
  | _, [], _ => Nat.zero_le _
  | n, d :: ds, h => by
    simp only [nksOk, Bool.and_eq_true] at h
    have h1 := nk_depth n d h.1
    have h2 := nks_depth n ds h.2
    show max (toNk d).depth (NestedKey.depthAll (toNks ds)) ≤ n
    omega
end
mutual
theorem nk_inj : ∀ (n m : Nat) (d e : D), nkOk n d = true → nkOk m e = true → toNk d = toNk e → d = e
  | n, m, .non, .non, _, _, _ => rfl
  | n, m, .int i, .int j, _, _, h => by cases h; rfl
  | n, m, .str i, .str j, _, _, h => by cases h; rfl
  | n + 1, m + 1, .tup ds, .tup es, h1, h2, h => by
    injection h with h
    rw [nks_inj n m ds es (by simpa only [nkOk] using h1) (by simpa only [nkOk] using h2) h]
  | 0, _, .tup _, _, h1, _, _ => by simp [nkOk] at h1
  | _, 0, _, .tup _, _, h2, _ => by simp [nkOk] at h2
  | n, m, .bl _, _, h1, _, _ => by cases n <;> simp [nkOk] at h1
  | n, m, .hdl _, _, h1, _, _ => by cases n <;> simp [nkOk] at h1
  | n, m, .ro _, _, h1, _, _ => by cases n <;> simp [nkOk] at h1
  | n, m, _, .bl _, _, h2, _ => by cases m <;> simp [nkOk] at h2
  | n, m, _, .hdl _, _, h2, _ => by cases m <;> simp [nkOk] at h2
  | n, m, _, .ro _, _, h2, _ => by cases m <;> simp [nkOk] at h2
  | n, m, .non, .int _, _, _, h | n, m, .non, .str _, _, _, h | n, m, .non, .tup _, _, _, h => by cases h
  | n, m, .int _, .non, _, _, h | n, m, .int _, .str _, _, _, h | n, m, .int _, .tup _, _, _, h => by cases h
  | n, m, .str _, .non, _, _, h | n, m, .str _, .int _, _, _, h | n, m, .str _, .tup _, _, _, h => by cases h
  | n, m, .tup _, .non, _, _, h | n, m, .tup _, .int _, _, _, h | n, m, .tup _, .str _, _, _, h => by cases h
theorem nks_inj : ∀ (n m : Nat) (ds es : List D), nksOk n ds = true → nksOk m es = true → toNks ds = toNks es → ds = es
  | n, m, [], [], _, _, _ => rfl
  | n, m, [], _ :: _, _, _, h => by cases h
  | n, m, _ :: _, [], _, _, h => by cases h
  | n, m, d :: ds, e :: es, h1, h2, h => by
    simp only [nksOk, Bool.and_eq_true] at h1 h2
    injection h with h3 h4
    rw [nk_inj n m d e h1.1 h2.1 h3, nks_inj n m ds es h1.2 h2.2 h4]
end
theorem tk_ok {d : D} (h : isTk d = true) : nkOk 8 d = true := by
  cases d with
  | tup ds => exact h
  | _ => cases h
theorem sk_ok {d : D} (h : isSk d = true) : nkOk 8 d = true := by
  cases d <;> first | rfl | cases h
def isK (d : D) : Prop := isSk d = true ∨ isTk d = true
theorem isK.ok {d : D} (h : isK d) : nkOk 8 d = true := h.elim sk_ok tk_ok
theorem isK.inj {d e : D} (h1 : isK d) (h2 : isK e) (h : toNk d = toNk e) : d = e := nk_inj 8 8 d e h1.ok h2.ok h
theorem st_no {d : D} (h : isSk d = true) : isTk d = false := by
  cases d <;> first | rfl | cases h
theorem okK_isK {kvs : List (D × D)} {k : D} (h : okK kvs k = true) : isK k := by
  unfold okK at h
  rw [Bool.or_eq_true, Bool.and_eq_true, Bool.and_eq_true] at h
  exact h.elim (fun z => .inl z.1) fun z => .inr z.1
/-! ### numbers, texts, None as a kind of key -/
def flatIs : NestedKey → Value → Bool
  | .none, .none => true
  | .num i, v => Value.isInt i v
  | .text x, v => Value.isStrOf x v
  | _, _ => false
theorem flatIs_shape : ∀ {k : NestedKey} {v : Value}, flatIs k v = true → (k = .none ∧ v = .none) ∨ (∃ i t, k = .num i ∧ v = .int i t) ∨ ∃ x t, k = .text x ∧ v = .str x t
  | .none, v, h => by cases v <;> first | exact .inl ⟨rfl, rfl⟩ | cases h
  | .num i, v, h => by obtain ⟨t, e⟩ := Value.isInt_shape (k := i) (v := v) h; exact .inr (.inl ⟨i, t, rfl, e⟩)
  | .text i, v, h => by obtain ⟨t, e⟩ := Value.isStrOf_shape (x := i) (v := v) h; exact .inr (.inr ⟨i, t, rfl, e⟩)
  | .tup _, v, h => by cases v <;> cases h
def flatKind (prog : Program) (w : World) : PySem.KeyKind prog w NestedKey where
  is := flatIs
  hash := NestedKey.hash w
  inj := fun v a b ha hb => by
    rcases flatIs_shape ha with ⟨rfl, rfl⟩ | ⟨i, t, rfl, rfl⟩ | ⟨x, t, rfl, rfl⟩
    · rcases flatIs_shape hb with ⟨e1, e⟩ | ⟨j, u, e1, e⟩ | ⟨y, u, e1, e⟩
      · exact e1.symm
      · cases e
      · cases e
    · rcases flatIs_shape hb with ⟨e1, e⟩ | ⟨j, u, e1, e⟩ | ⟨y, u, e1, e⟩
      · cases e
      · injection e with e2 _; rw [e1, e2]
      · cases e
    · rcases flatIs_shape hb with ⟨e1, e⟩ | ⟨j, u, e1, e⟩ | ⟨y, u, e1, e⟩
      · cases e
      · cases e
      · injection e with e2 _; rw [e1, e2]
  byValue := fun k v h => by
    rcases flatIs_shape h with ⟨rfl, rfl⟩ | ⟨i, t, rfl, rfl⟩ | ⟨x, t, rfl, rfl⟩ <;> rfl
  pyHash := fun {A E s k v Q} hv h => by
    rcases flatIs_shape hv with ⟨rfl, rfl⟩ | ⟨i, t, rfl, rfl⟩ | ⟨x, t, rfl, rfl⟩
    · exact W.pyHash_slot (T := "NoneType") rfl F.slot_NoneType_hash F.entry_NoneType_hash (F.args_NoneType_hash_1 _) (beq_builtin_none _) (.inl rfl) (wpAny_bind (wpAny_pure (wpAny_bind (wpAny_mkInt (wpAny_pure ⟨_, _, rfl, h⟩)))))
    · exact wpAny_pyHash_int h
    · exact wpAny_pyHash_str h
  eqBool := fun {A E s a b u v Q} hu hv h => by
    rw [NestedKey.decide_eq] at h
    rcases flatIs_shape hu with ⟨rfl, rfl⟩ | ⟨i, t, rfl, rfl⟩ | ⟨x, t, rfl, rfl⟩ <;> rcases flatIs_shape hv with ⟨rfl, rfl⟩ | ⟨j, w, rfl, rfl⟩ | ⟨y, w, rfl, rfl⟩
    · exact SeqAt.EqAt.same _ _ _ _ _ h
    · exact SeqAt.EqAt.none_int j w _ _ _ _ h
    · exact SeqAt.EqAt.none_str y w _ _ _ _ h
    · exact SeqAt.EqAt.int_none i t _ _ _ _ h
    · exact (SeqAt.EqAt.int_int i t j w).cast rfl _ _ _ _ h
    · exact SeqAt.EqAt.int_str i t y w _ _ _ _ h
    · exact SeqAt.EqAt.str_none x t _ _ _ _ h
    · exact SeqAt.EqAt.str_int x t j w _ _ _ _ h
    · exact (SeqAt.EqAt.str_str x t y w).cast rfl _ _ _ _ h
  «strs» := fun k x t v h => by
    rcases flatIs_shape h with ⟨rfl, e⟩ | ⟨i, u, rfl, e⟩ | ⟨y, u, rfl, e⟩
    · exact nomatch e
    · exact nomatch e
    · injection e with e1 _
      subst e1
      cases v <;> rfl
section
variable {X : Cx} {pins : List (Addr × Obj)} {σ : Sg} {H : Hp} {s : Shared} {mu : List Addr}
mutual
theorem nested_is (I : Inv X pins σ H s) : ∀ (n : Nat) (d : D) (v : V) (u : Value), nkOk n d = true → Rv X.K mu H d v → RelV v u → NestedIs s.heap (toNk d) u
  | _, .non, _, _, _, h, r => by
    cases (show _ = V.non from h)
    cases (show _ = Value.none from r)
    exact .none
  | _, .int i, _, _, _, h, r => by
    cases (show _ = V.int i from h)
    obtain ⟨t, rfl⟩ := (show ∃ t, _ = Value.int i t from r)
    exact .int i t
  | _, .str x, _, _, _, h, r => by
    cases (show _ = V.str x from h)
    obtain ⟨t, rfl⟩ := (show ∃ t, _ = Value.str x t from r)
    exact .text x t
  | n + 1, .tup ds, _, _, hk, ⟨a, vs, e, h, q⟩, r => by
    subst e
    cases (show _ = Value.ref a from r)
    obtain ⟨its, rv, ⟨o, ho, hc, m, hd⟩, _⟩ := I.tuple h
    exact .tup ho hc hd (by simpa using nested_all I n ds vs its (by simpa only [nkOk] using hk) q rv)
  | 0, .tup ds, _, _, h, _, _ => by simp [nkOk] at h
  | n, .bl _, _, _, h, _, _ => by cases n <;> simp [nkOk] at h
  | n, .hdl _, _, _, h, _, _ => by cases n <;> simp [nkOk] at h
  | n, .ro _, _, _, h, _, _ => by cases n <;> simp [nkOk] at h
theorem nested_all (I : Inv X pins σ H s) : ∀ (n : Nat) (ds : List D) (vs : List V) (us : List Value), nksOk n ds = true → Rvs X.K mu H ds vs → Vals vs us → NestedAll s.heap (toNks ds) us
  | _, [], _, _, _, h, r => by
    cases (show _ = [] from h)
    cases r
    exact .nil
  | n, d :: ds, _, _, hk, ⟨v, vr, e, h, q⟩, r => by
    subst e
    simp only [nksOk, Bool.and_eq_true] at hk
    cases r with
    | cons r1 r2 => exact .cons (nested_is I n d v _ hk.1 h r1) (nested_all I n ds vr _ hk.2 q r2)
end
theorem key_is (I : Inv X pins σ H s) {d : D} {b : Addr} (hk : isTk d = true) (h : Rv X.K mu H d (.ref b)) : (nestedKind X.prog X.w).is s.heap (toNk d) b :=
  ⟨nested_is I 8 d _ _ (tk_ok hk) h rfl, nk_depth 8 d (tk_ok hk)⟩
end
section
variable {K : PySem.W.Frag} {H : Hp} {mu : List Addr}
theorem sk_is {d : D} {v : V} {u : Value} (hk : isSk d = true) (h : Rv K mu H d v) (r : RelV v u) : flatIs (toNk d) u = true := by
  cases d with
  | non => rw [show v = V.non from h] at r; rw [show u = Value.none from r]; rfl
  | int i => rw [show v = V.int i from h] at r; obtain ⟨t, rfl⟩ := (show ∃ t, u = Value.int i t from r); simp [flatIs, toNk, Value.isInt]
  | str i => rw [show v = V.str i from h] at r; obtain ⟨t, rfl⟩ := (show ∃ t, u = Value.str i t from r); simp [flatIs, toNk, Value.isStrOf]
  | _ => cases hk
theorem sk_of {d : D} {u : Value} (hk : isSk d = true) (h : flatIs (toNk d) u = true) : ∃ v, RelV v u ∧ Rv K mu H d v := by
  cases d with
  | non =>
    rcases flatIs_shape h with ⟨_, rfl⟩ | ⟨_, _, e, _⟩ | ⟨_, _, e, _⟩
    · exact ⟨.non, rfl, rfl⟩
    · cases e
    · cases e
  | int i =>
    rcases flatIs_shape h with ⟨e, _⟩ | ⟨j, t, e, rfl⟩ | ⟨_, _, e, _⟩
    · cases e
    · cases e; exact ⟨.int i, ⟨t, rfl⟩, rfl⟩
    · cases e
  | str i =>
    rcases flatIs_shape h with ⟨e, _⟩ | ⟨_, _, e, _⟩ | ⟨j, t, e, rfl⟩
    · cases e
    · cases e
    · cases e; exact ⟨.str i, ⟨t, rfl⟩, rfl⟩
  | _ => cases hk
theorem tk_ref {d : D} {v : V} (hk : isTk d = true) (h : Rv K mu H d v) : ∃ a, v = .ref a := by
  cases d with
  | tup ds => obtain ⟨a, vs, e, _⟩ := h; exact ⟨a, e⟩
  | _ => cases hk
/-! ### what is in a dict -/
def eFind (xs : List Ent) (k : NestedKey) : Option Value := (xs.find? fun x => decide (x.1 = k)).map (·.2.2)
theorem Rdt.length : ∀ {ds : List (D × D)} {xs : List Ent}, Rdt K mu H ds xs → ds.length = xs.length
  | [], _, h => by cases (show _ = [] from h); rfl
  | _ :: _, _, ⟨_, _, _, _, _, e, _, _, _, _, _, t⟩ => by subst e; simp [Rdt.length t]
theorem dget_nil (k : D) : dget [] k = none := rfl
theorem dget_cons (p : D × D) (r : List (D × D)) (k : D) : dget (p :: r) k = if p.1 = k then some p.2 else dget r k := by
  unfold dget
  rw [List.find?_cons]
  by_cases c : p.1 = k <;> simp [c]
theorem eFind_cons (p : Ent) (r : List Ent) (k : NestedKey) : eFind (p :: r) k = if p.1 = k then some p.2.2 else eFind r k := by
  unfold eFind
  rw [List.find?_cons]
  by_cases c : p.1 = k <;> simp [c]
theorem Rdt.get {k : D} (hk : isK k) : ∀ {ds : List (D × D)} {xs : List Ent}, Rdt K mu H ds xs →
    (dget ds k = none ∧ eFind xs (toNk k) = none) ∨ ∃ d u v, dget ds k = some d ∧ eFind xs (toNk k) = some u ∧ RelV v u ∧ Rv K mu H d v
  | [], _, h => by cases (show _ = [] from h); exact .inl ⟨rfl, rfl⟩
  | p :: r, _, ⟨kv, ku, u, v, xs', e, h0, h1, h2, h3, h4, t⟩ => by
    subst e
    rw [dget_cons, eFind_cons]
    by_cases c : p.1 = k
    · rw [if_pos c, if_pos (by rw [c])]
      exact .inr ⟨p.2, u, v, rfl, rfl, h3, h4⟩
    · rw [if_neg c, if_neg (fun z => c (isK.inj h2 hk z))]
      exact Rdt.get hk t
theorem Rdt.mem : ∀ {ds : List (D × D)} {xs : List Ent}, Rdt K mu H ds xs → ∀ x ∈ xs, ∃ p ∈ ds, ∃ kv v, x.1 = toNk p.1 ∧ RelV kv x.2.1 ∧ Rv K mu H p.1 kv ∧ RelV v x.2.2 ∧ Rv K mu H p.2 v
  | [], _, h, x, hx => by cases (show _ = [] from h); cases hx
  | p :: r, _, ⟨kv, ku, u, v, xs', e, h0, h1, h2, h3, h4, t⟩, x, hx => by
    subst e
    rcases List.mem_cons.mp hx with z | z
    · subst z; exact ⟨p, List.mem_cons_self, kv, v, rfl, h0, h1, h3, h4⟩
    · obtain ⟨q, hq, z⟩ := Rdt.mem t x z; exact ⟨q, List.mem_cons_of_mem _ hq, z⟩
theorem Rdt.at : ∀ {ds : List (D × D)} {xs : List Ent} {i : Nat} {x : Ent}, Rdt K mu H ds xs → xs[i]? = some x → ∃ p kv v, ds[i]? = some p ∧ x.1 = toNk p.1 ∧ RelV kv x.2.1 ∧ Rv K mu H p.1 kv ∧ RelV v x.2.2 ∧ Rv K mu H p.2 v
  | [], _, _, _, h, e => by cases (show _ = [] from h); simp at e
  | p :: r, _, 0, x, ⟨kv, ku, u, v, xs', e, h0, h1, h2, h3, h4, t⟩, ex => by
    subst e; simp at ex; subst ex; exact ⟨p, kv, v, rfl, rfl, h0, h1, h3, h4⟩
  | p :: r, _, i + 1, x, ⟨kv, ku, u, v, xs', e, h0, h1, h2, h3, h4, t⟩, ex => by
    subst e; exact (Rdt.at (i := i) t (by simpa using ex))
/-- .. with one more pair, or a pair's value another -/
theorem Rdt.snoc {k w : D} {kv : V} {ku u : Value} {v : V} (hk : isK k) (rk : RelV kv ku) (hb : Rv K mu H k kv) (ru : RelV v u) (hw : Rv K mu H w v) : ∀ {ds : List (D × D)} {xs : List Ent}, Rdt K mu H ds xs → Rdt K mu H (ds ++ [(k, w)]) (xs ++ [(toNk k, ku, u)])
  | [], _, h => by cases (show _ = [] from h); exact ⟨kv, ku, u, v, [], rfl, rk, hb, hk, ru, hw, rfl⟩
  | p :: r, _, ⟨a, b', u', v', xs', e, h0, h1, h2, h3, h4, t⟩ => by subst e; exact ⟨a, b', u', v', _, rfl, h0, h1, h2, h3, h4, Rdt.snoc hk rk hb ru hw t⟩
def ePut (k : NestedKey) (u : Value) (x : Ent) : Ent := if x.1 = k then (x.1, x.2.1, u) else x
theorem Rdt.repl {k w : D} {u : Value} {v : V} (hk : isK k) (ru : RelV v u) (hw : Rv K mu H w v) : ∀ {ds : List (D × D)} {xs : List Ent}, Rdt K mu H ds xs →
    Rdt K mu H (ds.map fun kv => if kv.1 = k then (kv.1, w) else kv) (xs.map (ePut (toNk k) u))
  | [], _, h => by cases (show _ = [] from h); rfl
  | p :: r, _, ⟨a, b', u', v', xs', e, h0, h1, h2, h3, h4, t⟩ => by
    subst e
    have ih := Rdt.repl (k := k) hk ru hw t
    rw [List.map_cons, List.map_cons]
    by_cases c : p.1 = k
    · have e1 : (if p.1 = k then (p.1, w) else p) = (p.1, w) := if_pos c
      have e2 : ePut (toNk k) u (toNk p.1, b', u') = (toNk p.1, b', u) := if_pos (by rw [c])
      rw [e2]
      show Rdt K mu H ((if p.1 = k then (p.1, w) else p) :: _) _
      rw [e1]
      exact ⟨a, b', u, v, _, rfl, h0, h1, h2, ru, hw, ih⟩
    · have e1 : (if p.1 = k then (p.1, w) else p) = p := if_neg c
      have e2 : ePut (toNk k) u (toNk p.1, b', u') = (toNk p.1, b', u') := if_neg (fun z => c (isK.inj h2 hk z))
      rw [e2]
      show Rdt K mu H ((if p.1 = k then (p.1, w) else p) :: _) _
      rw [e1]
      exact ⟨a, b', u', v', _, rfl, h0, h1, h2, h3, h4, ih⟩
theorem dget_any (ds : List (D × D)) (k : D) : (ds.any fun kv => decide (kv.1 = k)) = (dget ds k).isSome := by
  induction ds with
  | nil => rfl
  | cons p r ih =>
    rw [List.any_cons, dget_cons, ih]
    by_cases c : p.1 = k <;> simp [c]
def eStore (xs : List Ent) (k : NestedKey) (ku u : Value) : List Ent := if (eFind xs k).isSome = true then xs.map (ePut k u) else xs ++ [(k, ku, u)]
theorem Rdt.put {k w : D} {kv : V} {ku u : Value} {v : V} (hk : isK k) (rk : RelV kv ku) (hb : Rv K mu H k kv) (ru : RelV v u) (hw : Rv K mu H w v) {ds : List (D × D)} {xs : List Ent} (h : Rdt K mu H ds xs) :
    Rdt K mu H (dput ds k w) (eStore xs (toNk k) ku u) := by
  unfold dput eStore
  rw [dget_any]
  rcases h.get hk with ⟨e1, e2⟩ | ⟨d, u', v', e1, e2, _⟩
  · rw [e1, e2]; exact h.snoc hk rk hb ru hw
  · rw [e1, e2]; exact h.repl hk ru hw
def eDel (xs : List Ent) (k : NestedKey) : List Ent := xs.filter fun x => decide (x.1 ≠ k)
theorem Rdt.del {k : D} (hk : isK k) : ∀ {ds : List (D × D)} {xs : List Ent}, Rdt K mu H ds xs → Rdt K mu H (ddel ds k) (eDel xs (toNk k))
  | [], _, h => by cases (show _ = [] from h); rfl
  | p :: r, _, ⟨a, b', u', v', xs', e, h0, h1, h2, h3, h4, t⟩ => by
    subst e
    have ih := Rdt.del (k := k) hk t
    unfold ddel eDel at ih ⊢
    rw [List.filter_cons, List.filter_cons]
    by_cases c : p.1 = k
    · have c2 : toNk p.1 = toNk k := by rw [c]
      simp only [c, c2, decide_true, Bool.not_true, Bool.false_eq_true, if_false, ne_eq, not_true_eq_false, decide_false]
      exact ih
    · have c2 : ¬ toNk p.1 = toNk k := fun z => c (isK.inj h2 hk z)
      simp only [c, c2, decide_false, Bool.not_false, if_true, ne_eq, not_false_eq_true, decide_true]
      exact ⟨a, b', u', v', _, rfl, h0, h1, h2, h3, h4, ih⟩
theorem eStore_len (xs : List Ent) (k : NestedKey) (ku u : Value) : (eStore xs k ku u).length ≤ xs.length + 1 := by
  unfold eStore; split <;> simp
end
end MI
end
section
set_option Elab.async false
set_option linter.all false
set_option maxRecDepth 100000
set_option maxHeartbeats 4000000
/-! MIv: dicts: the rules -/
namespace MI
open PySem PySem.Spec PyProof.Rows L2
def adV : Value → Addr
  | .ref a => a
  | _ => 0
abbrev xsT (xs : List Ent) : List (NestedKey × Addr × Value) := xs.map fun x => (x.1, adV x.2.1, x.2.2)
abbrev xsS (xs : List Ent) : List (NestedKey × Value) := xs.map fun x => (x.1, x.2.2)
theorem valueAt_eq (xs : List Ent) (k : NestedKey) : valueAt (xsS xs) k = eFind xs k := by
  induction xs with
  | nil => rfl
  | cons x r ih =>
    rw [eFind_cons, ← ih]
    unfold valueAt xsS
    rw [List.map_cons, List.find?_cons]
    by_cases c : x.1 = k <;> simp [c]
theorem atKey_eq (xs : List Ent) (k : NestedKey) : (atKey (xsT xs) k).map (·.2) = eFind xs k := by
  induction xs with
  | nil => rfl
  | cons x r ih =>
    rw [eFind_cons, ← ih]
    unfold atKey xsT
    rw [List.map_cons, List.find?_cons]
    by_cases c : x.1 = k <;> simp [c]
theorem atKey_isSome (xs : List Ent) (k : NestedKey) : (atKey (xsT xs) k).isSome = (eFind xs k).isSome := by
  rw [← atKey_eq]; cases atKey (xsT xs) k <;> rfl
theorem keys_S (xs : List Ent) : (xsS xs).map (·.1) = xs.map (·.1) := by unfold xsS; rw [List.map_map]; rfl
theorem keys_T (xs : List Ent) : (xsT xs).map (·.1) = xs.map (·.1) := by unfold xsT; rw [List.map_map]; rfl
def Refs (xs : List Ent) : Prop := ∀ x ∈ xs, x.2.1 = .ref (adV x.2.1)
abbrev bkT (ys : List (NestedKey × Addr × Value)) : List Ent := ys.map fun y => (y.1, Value.ref y.2.1, y.2.2)
theorem bk_xsT {xs : List Ent} (h : Refs xs) : bkT (xsT xs) = xs := by
  unfold bkT xsT
  rw [List.map_map]
  conv => rhs; rw [← List.map_id xs]
  refine List.map_congr_left fun x hx => ?_
  have := h x hx
  obtain ⟨a, b, c⟩ := x
  simp only [Function.comp, id_eq]
  rw [← this]
theorem bk_store {xs : List Ent} (h : Refs xs) (k : NestedKey) (b : Addr) (u : Value) : bkT (storedH (xsT xs) k b u) = eStore xs k (.ref b) u := by
  unfold storedH eStore
  rw [atKey_isSome]
  split
  · unfold bkT xsT
    rw [List.map_map, List.map_map]
    refine List.map_congr_left fun x hx => ?_
    have := h x hx
    obtain ⟨a, b, c⟩ := x
    simp only [Function.comp, putAt, ePut]
    by_cases e : a = k
    · simp only [e, if_true]; rw [← this]
    · simp only [e, if_false]; rw [← this]
  · unfold bkT
    rw [List.map_append]
    show bkT (xsT xs) ++ _ = _
    rw [bk_xsT h]
    rfl
theorem bk_del {xs : List Ent} (h : Refs xs) (k : NestedKey) : bkT (withoutH (xsT xs) k) = eDel xs k := by
  induction xs with
  | nil => rfl
  | cons x r ih =>
    have ih' := ih fun y hy => h y (List.mem_cons_of_mem _ hy)
    have hx := h x List.mem_cons_self
    unfold withoutH eDel xsT bkT at ih' ⊢
    rw [List.map_cons, List.filter_cons, List.filter_cons]
    by_cases e : x.1 = k
    · simp only [e, ne_eq, not_true_eq_false, decide_false, Bool.false_eq_true, if_false]
      exact ih'
    · simp only [e, ne_eq, not_false_eq_true, decide_true, if_true, List.map_cons]
      rw [ih', ← hx]
theorem S_store (xs : List Ent) (k : NestedKey) (ku u : Value) : stored (xsS xs) k u = xsS (eStore xs k ku u) := by
  have e : ((xsS xs).any fun kv => decide (kv.1 = k)) = (eFind xs k).isSome := by
    induction xs with
    | nil => rfl
    | cons x r ih =>
      rw [eFind_cons]
      unfold xsS at ih ⊢
      rw [List.map_cons, List.any_cons, ih]
      by_cases c : x.1 = k <;> simp [c]
  unfold stored eStore
  rw [e]
  split
  · unfold xsS
    rw [List.map_map, List.map_map]
    refine List.map_congr_left fun x hx => ?_
    simp only [Function.comp, ePut]
    by_cases c : x.1 = k
    · simp only [c, if_true]
    · simp only [c, if_false]
  · unfold xsS; rw [List.map_append]; rfl
theorem S_del (xs : List Ent) (k : NestedKey) : without (xsS xs) k = xsS (eDel xs k) := by
  unfold without eDel xsS
  rw [List.filter_map]; rfl
section
variable {K : PySem.W.Frag} {H : Hp} {mu : List Addr}
theorem refs_of {ds : List (D × D)} {xs : List Ent} (r : Rdt K mu H ds xs) (all : (ds.all fun p => isTk p.1) = true) : Refs xs := fun x hx => by
  obtain ⟨p, hp, kv, v, e1, e2, e3, _⟩ := r.mem x hx
  obtain ⟨a, rfl⟩ := tk_ref (List.all_eq_true.mp all p hp) e3
  rw [show x.2.1 = Value.ref a from e2]; rfl
/-- keys of another make -/
theorem Rdt.keys : ∀ {ds : List (D × D)} {xs ys : List Ent}, Rdt K mu H ds xs → (ds.all fun p => isSk p.1) = true → xsS ys = xsS xs → (∀ y ∈ ys, flatIs y.1 y.2.1 = true) → Rdt K mu H ds ys
  | [], xs, ys, h, _, e, _ => by
    rw [show xs = [] from h] at e
    exact List.map_eq_nil_iff.mp e
  | p :: r, _, ys, ⟨kv, ku, u, v, xs', e0, h0, h1, h2, h3, h4, t⟩, all, e, f => by
    subst e0
    cases ys with
    | nil => cases e
    | cons y ys =>
      rw [List.all_cons, Bool.and_eq_true] at all
      unfold xsS at e
      rw [List.map_cons, List.map_cons] at e
      injection e with e1 e2
      have e3 : y.1 = toNk p.1 := congrArg Prod.fst e1
      have e4 : y.2.2 = u := congrArg Prod.snd e1
      have hf := f y List.mem_cons_self
      rw [e3] at hf
      obtain ⟨w, w1, w2⟩ := sk_of (K := K) (H := H) (mu := mu) all.1 hf
      refine ⟨w, y.2.1, u, v, ys, ?_, w1, w2, h2, h3, h4, Rdt.keys t all.2 e2 fun z hz => f z (List.mem_cons_of_mem _ hz)⟩
      rw [← e3, ← e4]
end
section
variable {X : Cx} {pins : List (Addr × Obj)} {σ : Sg} {H : Hp} {s : Shared} {mu : List Addr} {a : Addr} {xs : List Ent} {ds : List (D × D)}
theorem dictO_ok {P : Program} {w w' : World} {H' : Hp} {h : Heap} (d : DT0 w' h a xs) : ObjOk P w H' h a (dictO w' a xs) := by
  obtain ⟨o, es, ep, ho, _⟩ := d.ob
  refine ⟨d, ⟨o, ho⟩, fun h1 h2 p k => ?_⟩
  have p' : DT0 w' h1 a xs := p
  obtain ⟨⟨o', es', ep', ho', r⟩, q1, q2, q3⟩ := p'
  exact ⟨⟨o', es', ep', k o' ho', r⟩, q1, q2, q3⟩
theorem lk_get {fz : Bool} {w' : World} (I : Inv X pins σ H s) (e : Lk fz H a (dictO w' a xs)) : DT0 w' s.heap a xs := by
  cases fz with
  | false => exact (I.hok a _ e).1
  | true =>
    obtain ⟨od, e⟩ := e
    exact ((I.hok a _ e).2).1
theorem DT0.T {w : World} (I : Inv X pins σ H s) (hw : w = X.w) (d : DT0 w s.heap a xs) (r : Rdt X.K mu H ds xs) (all : (ds.all fun p => isTk p.1) = true) : s.heap.DictOfH (nestedKind X.prog X.w) a (xsT xs) := by
  subst hw
  obtain ⟨⟨o, es, ep, h1, h2, h3, h4⟩, nd, _, _⟩ := d
  have rf := refs_of r all
  refine ⟨o, es, ep, h1, h2, h3, ?_, fun y hy => ?_, by rw [keys_T]; exact nd⟩
  · rw [h4]
    unfold xsT
    rw [List.map_map]
    refine List.map_congr_left fun x hx => ?_
    have := rf x hx
    simp only [Function.comp, entryOfKey]
    rw [← this]; rfl
  · obtain ⟨x, hx, rfl⟩ := List.mem_map.mp hy
    obtain ⟨p, hp, kv, v, e1, e2, e3, _⟩ := r.mem x hx
    have hk := List.all_eq_true.mp all p hp
    obtain ⟨b, rfl⟩ := tk_ref hk e3
    have e2' : x.2.1 = .ref b := e2
    show (nestedKind X.prog X.w).is s.heap x.1 (adV x.2.1)
    rw [e1, e2']
    exact key_is I hk e3
theorem DT0.S {w : World} {h : Heap} {P : Program} (d : DT0 w h a xs) {K : PySem.W.Frag} (r : Rdt K mu H ds xs) (all : (ds.all fun p => isSk p.1) = true) : h.DictOf (flatKind P w) a (xsS xs) := by
  obtain ⟨⟨o, es, ep, h1, h2, h3, h4⟩, nd, n1, n2⟩ := d
  have fl : ∀ x ∈ xs, flatIs x.1 x.2.1 = true := fun x hx => by
    obtain ⟨p, hp, kv, v, e1, e2, e3, _⟩ := r.mem x hx
    rw [e1]
    exact sk_is (List.all_eq_true.mp all p hp) e3 e2
  refine ⟨o, es, ep, h1, h2, h3, fun e he => ?_, ?_, by rw [keys_S]; exact nd⟩
  · have he' : e ∈ xs.map fun x => (⟨x.1.hash w, x.2.1, x.2.2⟩ : DictEntry) := by rw [← h4]; exact Array.mem_toList_iff.mpr he
    obtain ⟨x, hx, rfl⟩ := List.mem_map.mp he'
    exact ⟨x.1, fl x hx, rfl⟩
  · rw [h4]
    clear h4 nd r h1 h2 h3 n1 n2
    induction xs with
    | nil => exact .nil
    | cons x q ih => exact .cons (fl x List.mem_cons_self) rfl (ih fun y hy => fl y (List.mem_cons_of_mem _ hy))
theorem DT0.ofT {w : World} {h : Heap} {P : Program} {ys : List (NestedKey × Addr × Value)} (m : h.DictOfH (nestedKind P w) a ys) (sy : (a == sysModules) = false) (len : ys.length ≤ sizeLine) : DT0 w h a (bkT ys) := by
  obtain ⟨o, es, ep, h1, h2, h3, h4, h5, h6⟩ := m
  refine ⟨⟨o, es, ep, h1, h2, h3, ?_⟩, ?_, sy, by unfold bkT; rw [List.length_map]; exact len⟩
  · rw [h4]; unfold bkT; rw [List.map_map]; rfl
  · unfold bkT; rw [List.map_map]; exact h6
theorem DT0.ofS {w : World} {h : Heap} {P : Program} {ks : List (NestedKey × Value)} (m : h.DictOf (flatKind P w) a ks) (sy : (a == sysModules) = false) (len : ks.length ≤ sizeLine) :
    ∃ ys, DT0 w h a ys ∧ xsS ys = ks ∧ ∀ y ∈ ys, flatIs y.1 y.2.1 = true := by
  obtain ⟨o, es, ep, h1, h2, h3, h4, h5, h6⟩ := m
  have key : ∀ (es : List DictEntry) (ks : List (NestedKey × Value)), (∀ e ∈ es, ∃ k, (flatKind P w).is k e.key = true ∧ e.hash = (flatKind P w).hash k) → Pairs (flatKind P w) es ks →
      ∃ ys : List Ent, (es = ys.map fun x => (⟨x.1.hash w, x.2.1, x.2.2⟩ : DictEntry)) ∧ xsS ys = ks ∧ ∀ y ∈ ys, flatIs y.1 y.2.1 = true := by
    intro es
    induction es with
    | nil => intro ks _ p; cases p; exact ⟨[], rfl, rfl, fun y hy => nomatch hy⟩
    | cons e es ih =>
      intro ks hk p
      cases p with
      | @cons _ kv _ kvs p1 p2 p3 =>
        obtain ⟨ys, q1, q2, q3⟩ := ih _ (fun e he => hk e (List.mem_cons_of_mem _ he)) p3
        obtain ⟨k', z1, z2⟩ := hk e List.mem_cons_self
        have ek := (flatKind P w).inj _ _ _ z1 p1
        subst ek
        refine ⟨(kv.1, e.key, kv.2) :: ys, ?_, ?_, fun y hy => ?_⟩
        · rw [List.map_cons, ← q1]
          congr 1
          obtain ⟨eh, ekey, ev⟩ := e
          simp only at p2 z2 ⊢
          rw [p2, z2]; rfl
        · unfold xsS at q2 ⊢; rw [List.map_cons, q2]
        · rcases List.mem_cons.mp hy with r | r
          · subst r; exact p1
          · exact q3 y r
  obtain ⟨ys, q1, q2, q3⟩ := key es.toList ks (fun e he => h4 e (Array.mem_toList_iff.mp he)) h5
  refine ⟨ys, ⟨⟨o, es, ep, h1, h2, h3, q1⟩, ?_, sy, ?_⟩, q2, q3⟩
  · rw [← keys_S, q2]; exact h6
  · have := congrArg List.length q2
    unfold xsS at this
    rw [List.length_map] at this
    omega
/-- which kind of dict it is, for this key -/
theorem okK_ways {k : D} (h : okK ds k = true) : (isSk k = true ∧ (ds.all fun p => isSk p.1) = true) ∨ (isTk k = true ∧ (ds.all fun p => isTk p.1) = true) := by
  unfold okK at h
  rw [Bool.or_eq_true, Bool.and_eq_true, Bool.and_eq_true] at h
  exact h
theorem room1 {A : Around} (hu : A.units + 64 < cLine) : (nestedKind X.prog X.w).room A.in1 := by
  have h1 : A.in1.units ≤ A.units + 2 := by first | exact Nat.le_refl _ | (simp [Around.in1]) | decide
  show A.in1.units + 8 < cLine
  omega
variable {A : Around} {E : Value → Shared → Prop} {k : D} {kv : V} {ku : Value} {w : World} {fz : Bool}
theorem part_S (hk : isSk k = true) {K : PySem.W.Frag} (h : Rv K mu H k kv) (r : RelV kv ku) : (keyPart ku).isSome = true := by
  cases k with
  | non => rw [show kv = V.non from h] at r; rw [show ku = Value.none from r]; rfl
  | int i => rw [show kv = V.int i from h] at r; obtain ⟨t, rfl⟩ := (show ∃ t, ku = Value.int i t from r); rfl
  | str i => rw [show kv = V.str i from h] at r; obtain ⟨t, rfl⟩ := (show ∃ t, ku = Value.str i t from r); rfl
  | _ => cases hk
theorem dd_in {neg : Bool} {Q : Value → Shared → Prop} (hu : A.units + 64 < cLine) (I : Inv X pins σ H s) (hw : w = X.w) (e : Lk fz H a (dictO w a xs)) (r : Rdt X.K mu H ds xs) (ok : okK ds k = true) (hk : Rv X.K mu H k kv) (rk : RelV kv ku)
    (h : ∀ s', Inv X pins σ H s' → Q (.bool (if neg then !(dget ds k).isSome else (dget ds k).isSome)) s') : wpAny (model X.prog X.w) A (compareOp (if neg then .NotIn else .In) ku (.ref a)) Q E s := by
  have d0 := lk_get I e
  have hs : (eFind xs (toNk k)).isSome = (dget ds k).isSome := by
    rcases r.get (okK_isK ok) with ⟨e1, e2⟩ | ⟨d, u, v, e1, e2, _⟩ <;> rw [e1, e2] <;> rfl
  rcases okK_ways ok with ⟨hs1, all⟩ | ⟨ht1, all⟩
  · subst hw
    have m := (d0.S (P := X.prog) r all).mapOf
    have fk := sk_is hs1 hk rk
    cases neg with
    | false => exact wpAny_in_of (knd := flatKind X.prog X.w) fk d0.sy m (by rw [valueAt_eq, hs]; exact h _ (I.tok _))
    | true => exact wpAny_notIn_of (knd := flatKind X.prog X.w) fk d0.sy m (by rw [valueAt_eq, hs]; exact h _ (I.tok _))
  · obtain ⟨b, rfl⟩ := tk_ref ht1 hk
    cases rk
    have m := d0.T I hw r all
    cases neg with
    | false => exact wpAny_in_heap (room1 hu) (key_is I ht1 hk) d0.sy m (by rw [atKey_isSome, hs]; exact h _ (I.tok _))
    | true => exact wpAny_notIn_heap (room1 hu) (key_is I ht1 hk) d0.sy m (by rw [atKey_isSome, hs]; exact h _ (I.tok _))
theorem dd_item {d : D} {Q : Value → Shared → Prop} (hu : A.units + 64 < cLine) (I : Inv X pins σ H s) (hw : w = X.w) (e : Lk fz H a (dictO w a xs)) (r : Rdt X.K mu H ds xs) (ok : okK ds k = true) (hk : Rv X.K mu H k kv) (rk : RelV kv ku) (hd : dget ds k = some d)
    (h : ∀ u v s', Inv X pins σ H s' → RelV v u → Rv X.K mu H d v → Q u s') : wpAny (model X.prog X.w) A (getItem (.ref a) ku) Q E s := by
  have d0 := lk_get I e
  rcases r.get (okK_isK ok) with ⟨e1, e2⟩ | ⟨d', u, v, e1, e2, e3, e4⟩
  · rw [hd] at e1; cases e1
  rw [hd] at e1; cases e1
  rcases okK_ways ok with ⟨hs1, all⟩ | ⟨ht1, all⟩
  · subst hw
    exact wpAny_getItem_of (knd := flatKind X.prog X.w) (sk_is hs1 hk rk) (d0.S (P := X.prog) r all).mapOf (by rw [valueAt_eq]; exact e2) (h u v _ (I.tok _) e3 e4)
  · obtain ⟨b, rfl⟩ := tk_ref ht1 hk
    cases rk
    have z := atKey_eq xs (toNk k)
    rw [e2] at z
    obtain ⟨p, z1, z2⟩ := Option.map_eq_some_iff.mp z
    exact wpAny_getItem_heap (room1 hu) (key_is I ht1 hk) (d0.T I hw r all) z1 (by rw [z2]; exact h u v _ (I.tok _) e3 e4)
theorem dd_get {x : V} {xu : Value} {xd : D} {Q : Value → Shared → Prop} (hu : A.units + 64 < cLine) (I : Inv X pins σ H s) (hw : w = X.w) (e : Lk fz H a (dictO w a xs)) (r : Rdt X.K mu H ds xs) (ok : okK ds k = true) (hk : Rv X.K mu H k kv) (rk : RelV kv ku) (hx : Rv X.K mu H xd x) (rx : RelV x xu)
    (h : ∀ u v s', Inv X pins σ H s' → RelV v u → Rv X.K mu H ((dget ds k).getD xd) v → Q u s') : wpAny (model X.prog X.w) A (call (.builtin "dict.get") [.ref a, ku, xu]) Q E s := by
  have d0 := lk_get I e
  have hq : ∀ s', Inv X pins σ H s' → Q ((eFind xs (toNk k)).getD xu) s' := fun s' I' => by
    rcases r.get (okK_isK ok) with ⟨e1, e2⟩ | ⟨d', u, v, e1, e2, e3, e4⟩
    · rw [e2]; rw [e1] at h; exact h xu x s' I' rx hx
    · rw [e2]; rw [e1] at h; exact h u v s' I' e3 e4
  rcases okK_ways ok with ⟨hs1, all⟩ | ⟨ht1, all⟩
  · subst hw
    have m := d0.S (P := X.prog) r all
    exact call_meetsIn PySem.F.slot_dict_get m.typeIs PySem.F.entry_dict_get (PySem.F.args_dict_get_3 _ _ _) (meets_dict_get_default (flatKind X.prog X.w) a (sk_is hs1 hk rk) d0.sy xu) ⟨_, m.mapOf, by rw [valueAt_eq]; exact hq _ (I.tok _)⟩
  · obtain ⟨b, rfl⟩ := tk_ref ht1 hk
    cases rk
    have m := d0.T I hw r all
    exact call_meetsIn PySem.F.slot_dict_get m.typeIs PySem.F.entry_dict_get (PySem.F.args_dict_get_3 _ _ _) (meetsH_dict_get_default (nestedKind X.prog X.w) a b d0.sy xu) ⟨room1 hu, toNk k, _, key_is I ht1 hk, m, by rw [atKey_eq]; exact hq _ (I.tok _)⟩
/-- what a store leaves -/
theorem left_S {h' : Heap} {t' : Nat} {ks : List (NestedKey × Value)} {ys : List Ent} {ds' : List (D × D)} (I : Inv X pins σ H s) (e : H a = some (dictO w a xs)) (sy : (a == sysModules) = false) (m : h'.DictOf (flatKind X.prog w) a ks) (hs : Heap.SameBut a s.heap h') (ek : ks = xsS ys) (r : Rdt X.K mu H ds' ys) (all : (ds'.all fun p => isSk p.1) = true) (hl : ys.length ≤ sizeLine) :
    ∃ zs, Rdt X.K mu H ds' zs ∧ Inv X pins σ (upd H a (dictO w a zs)) { s with heap := h', toks := t' } := by
  subst ek
  obtain ⟨zs, d, e1, f⟩ := DT0.ofS m sy (by unfold xsS; rw [List.length_map]; exact hl)
  obtain ⟨o, es, ep, ho, _⟩ := d.ob
  exact ⟨zs, r.keys all e1 f, d_write I (by rw [e]; exact True.intro) hs ⟨o, ho⟩ (dictO_ok d)⟩
theorem left_T {h' : Heap} {t' : Nat} {ks : List (NestedKey × Addr × Value)} {ys : List Ent} {ds' : List (D × D)} (I : Inv X pins σ H s) (e : H a = some (dictO w a xs)) (sy : (a == sysModules) = false) (m : h'.DictOfH (nestedKind X.prog w) a ks) (hs : Heap.SameBut a s.heap h') (ek : bkT ks = ys) (r : Rdt X.K mu H ds' ys) (hl : ys.length ≤ sizeLine) :
    ∃ zs, Rdt X.K mu H ds' zs ∧ Inv X pins σ (upd H a (dictO w a zs)) { s with heap := h', toks := t' } := by
  subst ek
  have d := DT0.ofT m sy (by unfold bkT at hl; rw [List.length_map] at hl; exact hl)
  obtain ⟨o, es, ep, ho, _⟩ := d.ob
  exact ⟨_, r, d_write I (by rw [e]; exact True.intro) hs ⟨o, ho⟩ (dictO_ok d)⟩
theorem dput_all {f : D → Bool} {k d : D} (h : (ds.all fun p => f p.1) = true) (hk : f k = true) : ((dput ds k d).all fun p => f p.1) = true := by
  unfold dput
  split
  · rw [List.all_map, List.all_eq_true]
    intro p hp
    have := List.all_eq_true.mp h p hp
    simp only [Function.comp]
    split <;> exact this
  · rw [List.all_append, h]; simp [hk]
theorem ddel_all {f : D → Bool} {k : D} (h : (ds.all fun p => f p.1) = true) : ((ddel ds k).all fun p => f p.1) = true := by
  unfold ddel
  rw [List.all_eq_true] at h ⊢
  intro p hp
  exact h p (List.mem_filter.mp hp).1
theorem dd_set {d : D} {v : V} {u : Value} {Q : Unit → Shared → Prop} (hu : A.units + 64 < cLine) (I : Inv X pins σ H s) (hw : w = X.w) (e : H a = some (dictO w a xs)) (r : Rdt X.K mu H ds xs) (ok : okK ds k = true) (hk : Rv X.K mu H k kv) (rk : RelV kv ku) (hd : Rv X.K mu H d v) (ru : RelV v u) (hl : ds.length < sizeLine)
    (h : ∀ zs s', Rdt X.K mu H (dput ds k d) zs → Inv X pins σ (upd H a (dictO w a zs)) s' → Q () s') : wpAny (model X.prog X.w) A (setItem (.ref a) ku u) Q E s := by
  have d0 := lk_get (fz := false) I e
  have hl2 : xs.length < sizeLine := by rw [← r.length]; exact hl
  have hz := eStore_len xs (toNk k) ku u
  have rp := r.put (okK_isK ok) rk hk ru hd
  rcases okK_ways ok with ⟨hs1, all⟩ | ⟨ht1, all⟩
  · subst hw
    refine wpAny_setItem_pairs (knd := flatKind X.prog X.w) (sk_is hs1 hk rk) (d0.S (P := X.prog) r all) (fun h' m hs => ?_) (by unfold xsS; rw [List.length_map]; exact d0.len)
    obtain ⟨zs, q1, q2⟩ := left_S (t' := s.toks + 1) I e d0.sy m hs (S_store xs (toNk k) ku u) rp (dput_all all hs1) (by omega)
    exact h zs _ q1 q2
  · obtain ⟨b, rfl⟩ := tk_ref ht1 hk
    cases rk
    subst hw
    refine wpAny_setItem_heap (hsz := by unfold xsT; rw [List.length_map]; exact d0.len) (room1 hu) (key_is I ht1 hk) (d0.T I rfl r all) fun h' m hs => ?_
    obtain ⟨zs, q1, q2⟩ := left_T (t' := s.toks + (nestedKind X.prog X.w).draws (toNk k)) I e d0.sy m hs (bk_store (refs_of r all) _ _ _) rp (by omega)
    exact h zs _ q1 q2
theorem dd_setdefault {d : D} {v : V} {u : Value} {Q : Value → Shared → Prop} (hu : A.units + 64 < cLine) (I : Inv X pins σ H s) (hw : w = X.w) (e : H a = some (dictO w a xs)) (r : Rdt X.K mu H ds xs) (ok : okK ds k = true) (hk : Rv X.K mu H k kv) (rk : RelV kv ku) (hd : Rv X.K mu H d v) (ru : RelV v u) (hl : ds.length < sizeLine)
    (h1 : ∀ d' u' v' s', dget ds k = some d' → Inv X pins σ H s' → RelV v' u' → Rv X.K mu H d' v' → Q u' s')
    (h2 : ∀ zs s', dget ds k = none → Rdt X.K mu H (dput ds k d) zs → Inv X pins σ (upd H a (dictO w a zs)) s' → Q u s') : wpAny (model X.prog X.w) A (call (.builtin "dict.setdefault") [.ref a, ku, u]) Q E s := by
  have d0 := lk_get (fz := false) I e
  have hl2 : xs.length < sizeLine := by rw [← r.length]; exact hl
  have hz := eStore_len xs (toNk k) ku u
  have rp := r.put (okK_isK ok) rk hk ru hd
  have hgo : ∀ x s', eFind xs (toNk k) = some x → Inv X pins σ H s' → Q x s' := fun x s' ex I' => by
    rcases r.get (okK_isK ok) with ⟨e1, e2⟩ | ⟨d', u, v, e1, e2, e3, e4⟩
    · rw [ex] at e2; cases e2
    · rw [ex] at e2; cases e2; exact h1 d' _ v s' e1 I' e3 e4
  have hno : eFind xs (toNk k) = none → dget ds k = none := fun ex => by
    rcases r.get (okK_isK ok) with ⟨e1, e2⟩ | ⟨d', u, v, e1, e2, e3, e4⟩
    · exact e1
    · rw [ex] at e2; cases e2
  rcases okK_ways ok with ⟨hs1, all⟩ | ⟨ht1, all⟩
  · subst hw
    have m0 := d0.S (P := X.prog) r all
    refine call_meetsIn PySem.F.slot_dict_setdefault m0.typeIs PySem.F.entry_dict_setdefault (PySem.F.args_dict_setdefault_3 _ _ _) (kt_meets_setdefault (flatKind X.prog X.w) a (sk_is hs1 hk rk) d0.sy u)
      ⟨_, m0, by unfold xsS; rw [List.length_map]; exact d0.len, fun x hx => hgo x _ (by rw [← valueAt_eq]; exact hx) (I.tok _), fun hn h' m hs => ?_⟩
    obtain ⟨zs, q1, q2⟩ := left_S (t' := s.toks + 1) I e d0.sy m hs (S_store xs (toNk k) ku u) rp (dput_all all hs1) (by omega)
    exact h2 zs _ (hno (by rw [← valueAt_eq]; exact hn)) q1 q2
  · obtain ⟨b, rfl⟩ := tk_ref ht1 hk
    cases rk
    subst hw
    refine call_setdefault_heap (hsz := by unfold xsT; rw [List.length_map]; exact d0.len) (room1 hu) (key_is I ht1 hk) d0.sy (d0.T I rfl r all) (fun p hp => hgo p.2 _ (by rw [← atKey_eq, hp]; rfl) (I.tok _)) fun hn h' m hs => ?_
    obtain ⟨zs, q1, q2⟩ := left_T (t' := s.toks + (nestedKind X.prog X.w).draws (toNk k)) I e d0.sy m hs (bk_store (refs_of r all) _ _ _) rp (by omega)
    exact h2 zs _ (hno (by rw [← atKey_eq, hn]; rfl)) q1 q2
theorem dd_pop {d : D} {v : V} {u : Value} {Q : Value → Shared → Prop} (hu : A.units + 64 < cLine) (I : Inv X pins σ H s) (hw : w = X.w) (e : H a = some (dictO w a xs)) (r : Rdt X.K mu H ds xs) (ok : okK ds k = true) (hk : Rv X.K mu H k kv) (rk : RelV kv ku)
    (h1 : ∀ d' u' v' zs s', dget ds k = some d' → Rdt X.K mu H (ddel ds k) zs → Inv X pins σ (upd H a (dictO w a zs)) s' → RelV v' u' → Rv X.K mu H d' v' → Q u' s')
    (h2 : ∀ s', dget ds k = none → Inv X pins σ H s' → Q u s') : wpAny (model X.prog X.w) A (call (.builtin "dict.pop") [.ref a, ku, u]) Q E s := by
  have d0 := lk_get (fz := false) I e
  have rp := r.del (okK_isK ok)
  have hz : (eDel xs (toNk k)).length ≤ sizeLine := Nat.le_trans (List.length_filter_le _ _) d0.len
  have pk : argsOk "dict.pop" ⟨[.ref a, ku, u], []⟩ := PySem.F.args_dict_pop_3 _ _ _
  rcases okK_ways ok with ⟨hs1, all⟩ | ⟨ht1, all⟩
  · subst hw
    have m0 := d0.S (P := X.prog) r all
    rcases r.get (okK_isK ok) with ⟨e1, e2⟩ | ⟨d', u', v', e1, e2, e3, e4⟩
    · exact call_meetsIn PySem.F.slot_dict_pop m0.typeIs PySem.F.entry_dict_pop pk (meets_dict_pop_default (flatKind X.prog X.w) a (sk_is hs1 hk rk) d0.sy (part_S hs1 hk rk) u) ⟨_, m0, by rw [valueAt_eq]; exact e2, h2 _ e1 (I.tok _)⟩
    · refine call_meetsIn PySem.F.slot_dict_pop m0.typeIs PySem.F.entry_dict_pop pk (meets_dict_pop_there (flatKind X.prog X.w) a (sk_is hs1 hk rk) [u] (.inr ⟨u, rfl⟩) (part_S hs1 hk rk))
        ⟨_, u', m0, by unfold xsS; rw [List.length_map]; exact d0.len, by rw [valueAt_eq]; exact e2, fun h' m hs => ?_⟩
      obtain ⟨zs, q1, q2⟩ := left_S (t' := s.toks + 1) I e d0.sy m hs (S_del xs (toNk k)) rp (ddel_all all) hz
      exact h1 d' u' v' zs _ e1 q1 q2 e3 e4
  · obtain ⟨b, rfl⟩ := tk_ref ht1 hk
    cases rk
    subst hw
    have m0 := d0.T I rfl r all
    have hsz : (xsT xs).length ≤ sizeLine := by unfold xsT; rw [List.length_map]; exact d0.len
    rcases r.get (okK_isK ok) with ⟨e1, e2⟩ | ⟨d', u', v', e1, e2, e3, e4⟩
    · refine call_pop_default_heap (hsz := hsz) (room1 hu) (key_is I ht1 hk) d0.sy m0 ?_ fun tk => h2 _ e1 (I.tok _)
      have z := atKey_eq xs (toNk k)
      rw [e2] at z
      exact Option.map_eq_none_iff.mp z
    · have z := atKey_eq xs (toNk k)
      rw [e2] at z
      obtain ⟨p, z1, z2⟩ := Option.map_eq_some_iff.mp z
      refine call_pop_heap (hsz := hsz) (.inr ⟨u, rfl⟩) pk (room1 hu) (key_is I ht1 hk) d0.sy m0 z1 fun h' m hs => ?_
      obtain ⟨zs, q1, q2⟩ := left_T (t' := s.toks + (nestedKind X.prog X.w).draws (toNk k)) I e d0.sy m hs (bk_del (refs_of r all) _) rp hz
      rw [z2]
      exact h1 d' u' v' zs _ e1 q1 q2 e3 e4
end
end MI
end
section
set_option Elab.async false
set_option linter.all false
set_option maxRecDepth 100000
set_option maxHeartbeats 4000000
/-! MIw: rows sorted: of a list, of a dict's keys, of a set -/
namespace MI
open PySem PySem.Spec PyProof.Rows L2
/-! ### the order -/
theorem lexL_irr : ∀ a : List Int, lexL a a = false
  | [] => rfl
  | x :: xs => by unfold lexL; rw [if_pos rfl]; exact lexL_irr xs
theorem lexL_asym : ∀ a b : List Int, lexL a b = true → lexL b a = false
  | [], [], h => by cases h
  | [], _ :: _, _ => rfl
  | _ :: _, [], h => by cases h
  | x :: xs, y :: ys, h => by
    unfold lexL at h ⊢
    by_cases e : x = y
    · rw [if_pos e] at h; rw [if_pos e.symm]; exact lexL_asym xs ys h
    · rw [if_neg e] at h; rw [if_neg (Ne.symm e)]
      have := of_decide_eq_true h
      exact decide_eq_false (by omega)
theorem lexL_tr : ∀ a b c : List Int, lexL b a = false → lexL c b = false → lexL c a = false
  | a, b, [], h1, h2 => by
    cases b with
    | nil => exact h1
    | cons y ys => cases h2
  | [], b, z :: zs, _, _ => rfl
  | x :: xs, [], z :: zs, h1, _ => by cases h1
  | x :: xs, y :: ys, z :: zs, h1, h2 => by
    unfold lexL at h1 h2 ⊢
    by_cases e1 : y = x
    · subst e1
      rw [if_pos rfl] at h1
      by_cases e2 : z = y
      · subst e2
        rw [if_pos rfl] at h2
        rw [if_pos rfl]; exact lexL_tr xs ys zs h1 h2
      · rw [if_neg e2] at h2
        rw [if_neg e2]; exact h2
    · rw [if_neg e1] at h1
      have h1' := of_decide_eq_false h1
      by_cases e2 : z = y
      · subst e2
        rw [if_neg e1]; exact decide_eq_false h1'
      · rw [if_neg e2] at h2
        have h2' := of_decide_eq_false h2
        rw [if_neg (by omega)]; exact decide_eq_false (by omega)
theorem lexL_eq : ∀ a b : List Int, lexL a b = false → lexL b a = false → a = b
  | [], [], _, _ => rfl
  | [], _ :: _, h, _ => by cases h
  | _ :: _, [], _, h => by cases h
  | x :: xs, y :: ys, h1, h2 => by
    unfold lexL at h1 h2
    by_cases e : x = y
    · subst e
      rw [if_pos rfl] at h1 h2
      rw [lexL_eq xs ys h1 h2]
    · rw [if_neg e] at h1; rw [if_neg (Ne.symm e)] at h2
      have := of_decide_eq_false h1
      have := of_decide_eq_false h2
      omega
theorem swo_rows (k : Value → List Int) : SrtO.Swo fun v u => lexL (k v) (k u) := ⟨fun x y h => lexL_asym _ _ h, fun x y z h1 h2 => lexL_tr _ _ _ h1 h2⟩
theorem insR_perm (i : List Int) : ∀ l : List (List Int), (insR i l).Perm (i :: l)
  | [] => .refl _
  | j :: r => by
    unfold insR
    split
    · exact ((insR_perm i r).cons j).trans (.swap i j r)
    · exact .refl _
theorem sortR_perm : ∀ l : List (List Int), (sortR l).Perm l
  | [] => .refl _
  | i :: r => (insR_perm i _).trans ((sortR_perm r).cons i)
abbrev SrtR (l : List (List Int)) : Prop := l.Pairwise fun a b => lexL b a = false
theorem insR_sorted (i : List Int) : ∀ l : List (List Int), SrtR l → SrtR (insR i l)
  | [], _ => List.pairwise_singleton _ _
  | j :: r, h => by
    unfold insR
    obtain ⟨h1, h2⟩ := List.pairwise_cons.mp h
    split
    · rename_i c
      refine List.pairwise_cons.mpr ⟨fun x hx => ?_, insR_sorted i r h2⟩
      rcases List.mem_cons.mp ((insR_perm i r).mem_iff.mp hx) with e | hx
      · rw [e]; exact lexL_asym _ _ c
      · exact h1 x hx
    · rename_i c
      have c' : lexL j i = false := by cases q : lexL j i <;> simp_all
      refine List.pairwise_cons.mpr ⟨fun x hx => ?_, h⟩
      rcases List.mem_cons.mp hx with e | hx
      · rw [e]; exact c'
      · exact lexL_tr i j x c' (h1 x hx)
theorem sortR_sorted : ∀ l : List (List Int), SrtR (sortR l)
  | [] => .nil
  | i :: r => insR_sorted i _ (sortR_sorted r)
theorem sortedR_one {xs ys : List (List Int)} (p : xs.Perm ys) (h : SrtR xs) (h2 : SrtR ys) : xs = ys :=
  List.Perm.eq_of_pairwise (fun a b _ _ h1 h2 => lexL_eq _ _ h2 h1) h h2 p
/-! ### the machine's comparison -/
section
variable {prog : Program} {w : World} {A : Around} {E : Value → Shared → Prop} {s : Shared} {Q : Bool → Shared → Prop}
theorem lex_rows {b : Bool} {xs ys : List Value} {ns ms : List Int} {f : Bool} (i : Nat) (hx : IntsAre xs ns) (hy : IntsAre ys ms) (hf : ∀ z, (ns = [] ∨ ms = []) → z = lexL ns ms → f = z ∨ True)
    (hfin : f = decide (ns.length < ms.length)) (h : Q (lexL ns ms) s) : PySem.W.KatLex prog w A b f Q (xs.zip ys) i s := by
  induction hx generalizing ys ms i with
  | nil =>
    cases hy with
    | nil => exact PySem.W.kat_nil (by rw [hfin]; exact h)
    | cons q u hy => exact PySem.W.kat_nil (by rw [hfin]; simpa [lexL] using h)
  | @cons p t xs ns hx ih =>
    cases hy with
    | nil => exact PySem.W.kat_nil (by rw [hfin]; simpa [lexL] using h)
    | @cons q u ys ms hy =>
      show PySem.W.KatLex prog w A b f Q ((Value.int p t, Value.int q u) :: xs.zip ys) i s
      refine PySem.W.kat_cons (wpAny_eqBool_int ?_)
      by_cases e : p = q
      · subst e
        rw [beq_self_eq_true]
        unfold lexL at h
        rw [if_pos rfl] at h
        exact PySem.W.kat_yes (ih (i + 1) hy (fun _ _ _ => .inr trivial) (by rw [hfin]; simp) h)
      · rw [show (p == q) = false from beq_eq_false_iff_ne.mpr e]
        unfold lexL at h
        rw [if_neg e] at h
        exact PySem.W.kat_no (TS.oneLt_ints _ h)
theorem rows_cmp {vs : List Value} {k : Value → List Int} (hp : ∀ v ∈ vs, TS.TupInts s.heap v (k v)) : SrtO.Cmp prog w A s (tuples' true) (fun p => p.1 ∈ vs) (SrtO.lt2 fun v u => lexL (k v) (k u)) := by
  intro p q hm hm'
  obtain ⟨a, xs, e, ⟨o, ho, hc, n, hd⟩, i1⟩ := hp _ hm
  obtain ⟨a', ys, e', ⟨o', ho', hc', n', hd'⟩, i2⟩ := hp _ hm'
  show wpAny (model prog w) A (keyLt' (tuples' true) p.1 q.1) (fun r s' => s' = s ∧ r = lexL (k p.1) (k q.1)) (fun _ _ => False) s
  generalize k p.1 = ns at i1 ⊢
  generalize k q.1 = ms at i2 ⊢
  rw [e, e']
  refine PySem.W.kat_lt ho hd ho' hd' ?_
  refine lex_rows 0 i1 i2 (fun _ _ _ => .inr trivial) ?_ ⟨rfl, rfl⟩
  have l1 := i1.length
  have l2 := i2.length
  rw [Array.length_toList] at l1 l2
  rw [l1, l2]
theorem rows_firsts {h : Heap} : ∀ (vs : List Value) (k : Value → List Int), (∀ v ∈ vs, TS.TupInts h v (k v)) → (∀ v ∈ vs, k v ≠ []) → ∃ fs, PySem.W.KatTups h vs fs ∧ fs.length = vs.length ∧ ∀ f, f ∈ fs → ∃ n t, f = Value.int n t
  | [], _, _, _ => ⟨[], PySem.W.KatTups.nil, rfl, fun f hf => by simp at hf⟩
  | v :: vs, k, x, ne => by
    obtain ⟨fs, kk, hl, hi⟩ := rows_firsts vs k (fun u hu => x u (List.mem_cons_of_mem _ hu)) fun u hu => ne u (List.mem_cons_of_mem _ hu)
    obtain ⟨a, xs, rfl, ⟨o, ho, hc, n, hdt⟩, i⟩ := x v List.mem_cons_self
    have hn := ne _ List.mem_cons_self
    generalize k (.ref a) = ns at i hn
    obtain ⟨y, ys, e⟩ : ∃ y ys, xs.toList = y :: ys := by
      cases q : xs.toList with
      | nil =>
        rw [q] at i
        cases i
        exact absurd rfl hn
      | cons y ys => exact ⟨y, ys, rfl⟩
    obtain ⟨m, t, hy⟩ := i.all y (by rw [e]; exact List.mem_cons_self ..)
    refine ⟨y :: fs, PySem.W.KatTups.cons ho hc hdt ?_ kk, by simp [hl], ?_⟩
    · have z := congrArg (fun l : List Value => l[0]?) e
      simpa using z
    · intro f hf
      rcases List.mem_cons.mp hf with rfl | hf
      · exact ⟨m, t, hy⟩
      · exact hi f hf
theorem rows_sortable {a : Addr} {vs : List Value} {k : Value → List Int} (h0 : 0 < vs.length) (ne : ∀ v ∈ vs, k v ≠ []) (hp : ∀ v ∈ vs, TS.TupInts s.heap v (k v)) (ha : ∀ o, s.heap.get? a = some o → o.cls ≠ .type "tuple") :
    SrtO.SortableO prog w A s a vs fun v u => lexL (k v) (k u) := by
  intro h' keep
  have hp' : ∀ v ∈ vs, TS.TupInts h' v (k v) := fun v hm => (hp v hm).keeps fun b o e c => keep b o (fun z => by subst z; exact ha o e c) e
  obtain ⟨fs, h1, h2, h3⟩ := rows_firsts vs k hp' ne
  refine ⟨tuples' true, fun Q E hq => ?_, rows_cmp hp'⟩
  refine PySem.W.kat_kind (T := .type "int") h1 (by omega) (fun f hm => ?_) (by rfl) ?_
  · obtain ⟨x, t, rfl⟩ := h3 f hm
    exact PySem.W.Looks.of_pure rfl
  · have e : (Value.type "int" != Value.type "tuple") = true := by first | decide +kernel | rfl | decide
    rw [e]
    exact hq
end
/-! ### sorted(x), x whatever is walked to rows -/
abbrev AR := Addr × List Int
theorem refs_ord (L : List AR) : ∀ vs : List Value, (∀ v ∈ vs, ∃ q ∈ L, v = Value.ref q.1) → ∃ L1 : List AR, vs = L1.map (fun q => Value.ref q.1) ∧ ∀ q ∈ L1, q ∈ L
  | [], _ => ⟨[], rfl, fun q hq => nomatch hq⟩
  | v :: vs, hv => by
    obtain ⟨q, hq, e⟩ := hv v List.mem_cons_self
    obtain ⟨L1, e1, hs⟩ := refs_ord L vs fun u hu => hv u (List.mem_cons_of_mem _ hu)
    refine ⟨q :: L1, by rw [List.map_cons, e, e1], fun r hr => ?_⟩
    rcases List.mem_cons.mp hr with z | z
    · rw [z]; exact hq
    · exact hs r z
section
variable {X : Cx} {pins : List (Addr × Obj)} {σ : Sg} {H : Hp} {s : Shared} {a : Addr} {Q : VK}
theorem tupInts_at {t : Addr} {ns : List Int} (I : Inv X pins σ H s) (h : SqT X.K H t (ns.map V.int)) : TS.TupInts s.heap (.ref t) ns := by
  obtain ⟨its, r, p, _⟩ := I.tuple h
  obtain ⟨o, h1, h2, n, h3⟩ := p
  exact ⟨t, its.toArray, rfl, ⟨o, h1, h2, n, h3⟩, by simpa using Vals.ints r⟩
theorem sortedR_any {ks : List (List Int)} (hz : ks.length ≤ sizeLine) (hok : rowsOk ks = true)
    (col : ∀ R : List Value → Shared → Prop, (∀ (L : List AR) s1, Inv X pins σ H s1 → (∀ p ∈ L, SqT X.K H p.1 (p.2.map V.int)) → (L.map (·.2)).Perm ks → R (L.map fun p => Value.ref p.1) s1) → wpAny (model X.prog X.w) X.A.in1 (collect (.ref a)) R X.xe s)
    (q : ∀ (L : List AR) (p : Addr), L.map (·.2) = sortR ks → (∀ p ∈ L, SqT X.K H p.1 (p.2.map V.int)) → H p = none → Q (.ref p) (upd H p (.lst (L.map fun p => V.ref p.1)))) :
    wpAny (model X.prog X.w) X.A (call (.builtin "sorted") [.ref a]) (EP X pins σ Q) X.xe s := by
  refine Calls.call_function_entry PyProof.Rows.kind_sorted PyProof.Rows.plain_sorted PyProof.Rows.entry_sorted (PyProof.Rows.args_sorted1 _) (show wpAny _ _ (Builtin.«sorted» _) _ _ _ from ?_)
  unfold Builtin.«sorted»; refine wpAny_bind (m := checkCount "sorted" 1 1 _) (wpAny_pure (wpAny_bind (col _ fun L s1 I1 hL hp => ?_)))
  have hl : (L.map fun p => Value.ref p.1).length ≤ sizeLine := by
    have := hp.length_eq
    rw [List.length_map] at this ⊢
    omega
  refine wpAny_bind (wpAny_newList ?_ hl)
  have ho : (s1.heap.push (seqObj "list" (L.map fun p => Value.ref p.1).toArray 0)).get? s1.heap.objs.size = some (seqObj "list" (L.map fun p => Value.ref p.1).toArray 0) := Heap.get?_push_size _ rfl
  have hT : ∀ p ∈ L, TS.TupInts (s1.heap.push (seqObj "list" (L.map fun p => Value.ref p.1).toArray 0)) (.ref p.1) p.2 := fun p hp => (tupInts_at I1 (hL p hp)).keeps fun b o e _ => Heap.get?_push_of_some _ e
  have hk : ∀ v ∈ (L.map fun p => Value.ref p.1), TS.TupInts (s1.heap.push (seqObj "list" (L.map fun p => Value.ref p.1).toArray 0)) v (TS.intsOf (s1.heap.push (seqObj "list" (L.map fun p => Value.ref p.1).toArray 0)) v) := fun v hv => by
    obtain ⟨p, hp1, rfl⟩ := List.mem_map.mp hv
    rw [(hT p hp1).ints]; exact hT p hp1
  refine wpAny_bind (wpAny_holding (wpAny_call_entry PyProof.Rows.slot_list_sort ⟨_, ho, rfl⟩ PyProof.Rows.entry_list_sort (SrtO.list_sort_ord
    (s := { s1 with heap := s1.heap.push (seqObj "list" (L.map fun p => Value.ref p.1).toArray 0) }) (swo_rows (TS.intsOf (s1.heap.push (seqObj "list" (L.map fun p => Value.ref p.1).toArray 0)))) ho hl (fun h2 => rows_sortable (by omega) (fun v hv => ?_) hk fun o e => ?_) fun out h1 h2 => ⟨_, rfl, ?_⟩) (PyProof.Rows.args_list_sort _)))
  · obtain ⟨p, hp1, rfl⟩ := List.mem_map.mp hv
    rw [(hT p hp1).ints]
    unfold rowsOk at hok
    rw [Bool.or_eq_true, decide_eq_true_eq] at hok
    rcases hok with z | z
    · have := hp.length_eq
      rw [List.length_map] at this h2
      omega
    · have := List.all_eq_true.mp z p.2 (hp.mem_iff.mp (List.mem_map.mpr ⟨p, hp1, rfl⟩))
      intro e
      rw [e] at this
      cases this
  · rw [ho] at e
    cases e
    intro c
    exact absurd (Value.type.inj c) (by decide)
  · have pm := h2.perm
    obtain ⟨L', e', hs'⟩ := refs_ord L out fun v hv => by
      obtain ⟨p, hp1, e⟩ := List.mem_map.mp (pm.mem_iff.mp hv)
      exact ⟨p, hp1, e.symm⟩
    have km : ∀ (M : List AR), (∀ p ∈ M, p ∈ L) → ((M.map fun p => Value.ref p.1).map (TS.intsOf (s1.heap.push (seqObj "list" (L.map fun p => Value.ref p.1).toArray 0)))) = M.map (·.2) := fun M hM => by
      rw [List.map_map]
      exact List.map_congr_left fun p hp1 => (hT p (hM p hp1)).ints
    have e2 : L'.map (·.2) = sortR ks := by
      refine sortedR_one ?_ ?_ (sortR_sorted ks)
      · have z := pm.map (TS.intsOf (s1.heap.push (seqObj "list" (L.map fun p => Value.ref p.1).toArray 0)))
        rw [e', km L' hs', km L fun p hp1 => hp1] at z
        exact (z.trans hp).trans (sortR_perm ks).symm
      · rw [← km L' hs', ← e']
        exact List.pairwise_map.mpr h1
    obtain ⟨c, hc⟩ := PyProof.Rows.sortedHeap_at (vs := L.map fun p => Value.ref p.1) (out := out.toArray) ho
    refine wpAny_pure ⟨_, rfl, .ref s1.heap.objs.size, _, I1.laid (o := .lst (L'.map fun p => V.ref p.1)) (t' := s1.toks) (fun b u e => ?_) (Nat.le_refl _) ⟨?_, out, c, ?_, hc⟩, rfl, q L' _ e2 (fun p hp1 => hL p (hs' p hp1)) (I1.hok.fresh (Nat.le_refl _))⟩
    · have lt := Heap.lt_size e
      rw [PyProof.Rows.sortedHeap_old (Nat.ne_of_lt lt) (by rw [PyProof.Rows.size_push']; exact Nat.lt_succ_of_lt lt)]
      exact Heap.get?_push_of_some _ e
    · have z := congrArg List.length e2
      rw [List.length_map, (sortR_perm ks).length_eq] at z
      rw [List.length_map, z]; exact hz
    · rw [e']; exact vals_of_refs L'
end
end MI
end
section
set_option Elab.async false
set_option linter.all false
set_option maxRecDepth 100000
set_option maxHeartbeats 4000000
namespace MI
open PySem PySem.Spec PyProof.Rows L2
section
variable {K : PySem.W.Frag} {CL : CLs} {W : WX} {σ : Sg} {mu mu1 : List Addr} {H H0 H1 : Hp} {M M1 : Mem} {r : Env} {cl : Cl}
/-! ### in -/
theorem flat_v {d : D} {v : V} (h : Rv K mu H d v) (f : d.flat = true) : flatV v = true := by
  cases d with
  | non => rw [show v = V.non from h]; rfl
  | bl b => rw [show v = V.bl b from h]; rfl
  | int b => rw [show v = V.int b from h]; rfl
  | str b => rw [show v = V.str b from h]; rfl
  | _ => simp [D.flat] at f
theorem feq_v {d e : D} {v u : V} (h : Rv K mu H d v) (h2 : Rv K mu H e u) (f : d.flat = true) (f2 : e.flat = true) : eqV v u = feq d e := by
  cases d with
  | non => rw [show v = V.non from h]; cases e with
    | non => rw [show u = V.non from h2]; rfl
    | bl b => rw [show u = V.bl b from h2]; rfl
    | int b => rw [show u = V.int b from h2]; rfl
    | str b => rw [show u = V.str b from h2]; rfl
    | _ => simp [D.flat] at f2
  | bl a => rw [show v = V.bl a from h]; cases e with
    | non => rw [show u = V.non from h2]; rfl
    | bl b => rw [show u = V.bl b from h2]; rfl
    | int b => rw [show u = V.int b from h2]; rfl
    | str b => rw [show u = V.str b from h2]; rfl
    | _ => simp [D.flat] at f2
  | int a => rw [show v = V.int a from h]; cases e with
    | non => rw [show u = V.non from h2]; rfl
    | bl b => rw [show u = V.bl b from h2]; rfl
    | int b => rw [show u = V.int b from h2]; rfl
    | str b => rw [show u = V.str b from h2]; rfl
    | _ => simp [D.flat] at f2
  | str a => rw [show v = V.str a from h]; cases e with
    | non => rw [show u = V.non from h2]; rfl
    | bl b => rw [show u = V.bl b from h2]; rfl
    | int b => rw [show u = V.int b from h2]; rfl
    | str b => rw [show u = V.str b from h2]; rfl
    | _ => simp [D.flat] at f2
  | _ => simp [D.flat] at f
theorem any_v {e : D} {u : V} (h2 : Rv K mu H e u) (f2 : e.flat = true) : ∀ {ds : List D} {vs : List V}, Rvs K mu H ds vs → ds.all D.flat = true → (vs.all flatV = true ∧ inV u vs = ds.any fun d => feq d e)
  | [], vs, h, _ => by rw [show vs = [] from h]; exact ⟨rfl, rfl⟩
  | d :: ds, _, ⟨v, r, e1, h, t⟩, f => by
    rw [List.all_cons, Bool.and_eq_true] at f
    obtain ⟨a, b⟩ := any_v h2 f2 t f.2
    rw [e1]
    refine ⟨by rw [List.all_cons, flat_v h f.1, a]; rfl, ?_⟩
    unfold inV at b ⊢
    rw [List.any_cons, List.any_cons, feq_v h h2 f.1 f2, b]
def rInD (K : PySem.W.Frag) (w : World) (neg : Bool) : R2 := fun y x H Q => ∃ mu fz a xs ds k, x = .ref a ∧ Lk fz H a (dictO w a xs) ∧ Rdt K mu H ds xs ∧ okK ds k = true ∧ Rv K mu H k y ∧ Q (.bl (if neg then !(dget ds k).isSome else (dget ds k).isSome)) H
theorem op_inD {X : Cx} {w : World} (hu : X.A.units + 64 < cLine) (hw : w = X.w) : OpR X (compareOp .In) (rInD X.K w false) := fun pins s σ H y x v u Q I ry rx ⟨mu, fz, a, xs, ds, k, ex, e, r, ok, hk, q⟩ => by
  subst ex
  cases rx
  exact dd_in (neg := false) hu I hw e r ok hk ry fun s' I' => ⟨.bl _, H, I', rfl, q⟩
theorem op_notInD {X : Cx} {w : World} (hu : X.A.units + 64 < cLine) (hw : w = X.w) : OpR X (compareOp .NotIn) (rInD X.K w true) := fun pins s σ H y x v u Q I ry rx ⟨mu, fz, a, xs, ds, k, ex, e, r, ok, hk, q⟩ => by
  subst ex
  cases rx
  exact dd_in (neg := true) hu I hw e r ok hk ry fun s' I' => ⟨.bl _, H, I', rfl, q⟩
abbrev rInS (neg : Bool) : R2 := fun x y H Q => ∃ (c : Nat) (z : Str), x = .str ⟨#[c]⟩ ∧ y = .str z ∧ Q (.bl (if neg then !decide (c ∈ z.cps.toList) else decide (c ∈ z.cps.toList))) H
def rInP (K : PySem.W.Frag) (neg : Bool) : R2 := fun x y H Q => ∃ d ds, Dp K H x d ∧ Dp K H y (.list ds) ∧ SeqAt.shaped d = true ∧ SeqAt.shaped (.list ds) = true ∧ Q (.bl (if neg then !(ds.any fun z => PyData.eqv z d) else ds.any fun z => PyData.eqv z d)) H
abbrev rInAll (K : PySem.W.Frag) (w : World) (neg : Bool) : R2 := fun x y H Q => rInD K w neg x y H Q ∨ rIn K neg x y H Q ∨ rInS neg x y H Q ∨ rInP K neg x y H Q
theorem op_inP {X : Cx} (hu : X.A.units + 65 < cLine) : OpR X (compareOp .In) (rInP X.K false) := fun pins s σ H x y v u Q I rx ry ⟨d, ds, h1, h2, h3, h4, q⟩ => L2.op_inD hu pins s σ H x y v u Q I rx ry ⟨d, ds, h1, h2, h3, h4, q⟩
theorem op_notInP {X : Cx} (hu : X.A.units + 65 < cLine) : OpR X (compareOp .NotIn) (rInP X.K true) := fun pins s σ H x y v u Q I rx ry ⟨d, ds, h1, h2, h3, h4, q⟩ => L2.op_notInD hu pins s σ H x y v u Q I rx ry ⟨d, ds, h1, h2, h3, h4, q⟩
theorem op_inAll {X : Cx} {w : World} (hu : X.A.units + 65 < cLine) (hw : w = X.w) : OpR X (compareOp .In) (rInAll X.K w false) := (op_inD (by omega) hw).or (op_in_seq.or (op_in_sign.or (op_inP hu)))
theorem op_notInAll {X : Cx} {w : World} (hu : X.A.units + 65 < cLine) (hw : w = X.w) : OpR X (compareOp .NotIn) (rInAll X.K w true) := (op_notInD (by omega) hw).or (op_notIn_seq.or (op_notIn_sign.or (op_notInP hu)))
theorem sign1_eq {d : D} {c : Nat} (h : sign1 d = some c) : d = .str ⟨#[c]⟩ := by
  cases d with
  | str s =>
    unfold sign1 at h
    simp only at h
    split at h
    · rename_i e
      cases h
      obtain ⟨cps⟩ := s
      have : cps = #[c] := by
        have e' : cps.toList = [c] := e
        apply Array.ext'
        rw [e']
      rw [this]
    · cases h
  | _ => cases h
theorem inR_ok {x y : RV} {v u : V} {b neg : Bool} {Q : VK} (R : Rm K CL mu H M) (hx : Rw K CL mu H x v) (hy : Rw K CL mu H y u) (e : inR x y M = some b) (q : Q (.bl (if neg then !b else b)) H) : rInAll K CL.w neg v u H Q := by
  cases x with
  | o o => cases e
  | d k =>
    unfold inR at e
    simp only at e
    split at e
    · rename_i kvs e1
      split at e
      · rename_i hk
        simp only [Option.some.injEq] at e
        obtain ⟨fz, a, xs, rfl, h1, h2⟩ := dicOf_ok R hy e1
        subst e
        exact .inl ⟨mu, fz, a, xs, kvs, k, rfl, h1, h2, hk, hx, q⟩
      · cases e
    · split at e
      · rename_i ds e1
        split at e
        · rename_i hk
          simp only [Option.some.injEq] at e
          rw [Bool.and_eq_true] at hk
          obtain ⟨a, vs, rfl, h1, h2⟩ := seqOf_ok R hy e1
          obtain ⟨h3, h4⟩ := any_v hx hk.1 h2 hk.2
          refine .inr (.inl ⟨a, vs, rfl, h1, flat_v hx hk.1, h3, ?_⟩)
          rw [h4, e]; exact q
        · split at e
          · rename_i p qs e2 e3
            simp only [Option.some.injEq] at e
            obtain ⟨g1, g2, g3⟩ := derR_ok R (x := .d k) hx e2
            obtain ⟨g4, g5, g6⟩ := derR_ok R hy e3
            have key : ∀ l : List PyData, PyData.canLayAll0 l = true → (l.any fun z => peq z p) = l.any fun z => PyData.eqv z p := fun l => by
              induction l with
              | nil => exact fun _ => rfl
              | cons z l ih =>
                intro hl
                simp only [PyData.canLayAll0, Bool.and_eq_true] at hl
                rw [List.any_cons, List.any_cons, peq_eqv z p hl.1 g2, ih hl.2]
            rw [key qs g5] at e
            exact .inr (.inr (.inr ⟨p, qs, g1, g4, g3, g6, by rw [e]; exact q⟩))
          · cases e
      · split at e
        · split at e
          · rename_i c hc
            cases e
            have hx' : Rv K mu H k v := hx
            rw [sign1_eq hc] at hx'
            exact .inr (.inr (.inl ⟨c, _, hx', hy, q⟩))
          · cases e
        · cases e
theorem ok2_in : Ok2 K CL (rInAll K CL.w false) oIn := fun W σ mu H M x y v u Q R hx hy p => by
  unfold oIn at p
  split at p
  · rename_i b e; exact inR_ok R hx hy e (end_d R p rfl)
  · exact bad_end p
theorem ok2_notIn : Ok2 K CL (rInAll K CL.w true) oNotIn := fun W σ mu H M x y v u Q R hx hy p => by
  unfold oNotIn at p
  split at p
  · rename_i b e; exact inR_ok R hx hy e (end_d R p rfl)
  · exact bad_end p

/-! ### items, slices -/
def rIxD (K : PySem.W.Frag) (w : World) : R2 := fun x y H Q => ∃ mu fz a xs ds k d, x = .ref a ∧ Lk fz H a (dictO w a xs) ∧ Rdt K mu H ds xs ∧ okK ds k = true ∧ Rv K mu H k y ∧ dget ds k = some d ∧ ∀ v, Rv K mu H d v → Q v H
theorem ix_dict {X : Cx} {w : World} (hu : X.A.units + 64 < cLine) (hw : w = X.w) : IxR X (rIxD X.K w) := fun value slice pins s σ H x y v u Q I rx ry ⟨mu, fz, a, xs, ds, k, d, ex, e, r, ok, hk, g, q⟩ hs => by
  subst ex
  cases rx
  have ht : s.TypeIs (.ref a) "dict" := by
    obtain ⟨⟨o, es, ep, h1, h2, _⟩, _⟩ := lk_get I e
    exact ⟨o, h1, h2.1⟩
  exact PyProof.Rows.tail_any ht PySem.F.slot_dict_getitem.lookup (dd_item hu I hw e r ok hk ry g fun u v s' I' ru rv => ⟨v, H, I', ru, q v rv⟩) hs
abbrev rIxAll (K : PySem.W.Frag) (w : World) : R2 := fun x y H Q => rIxD K w x y H Q ∨ rIx K x y H Q ∨ rIxS x y H Q
theorem ix_all {X : Cx} {w : World} (hu : X.A.units + 64 < cLine) (hw : w = X.w) : IxR X (rIxAll X.K w) := (ix_dict hu hw).or (ix_seq.or ix_str)
theorem ixN_eq : @MI.ixN = @L2.ixN := rfl
theorem ok2_ix : Ok2 K CL (rIxAll K CL.w) oIx := fun W σ mu H M x y v u Q R hx hy p => by
  unfold oIx at p
  split at p
  · rename_i i
    have hu : u = .int i := hy
    subst hu
    split at p
    · rename_i ds e1
      split at p
      · rename_i j e2
        split at p
        · rename_i d e3
          obtain ⟨a, vs, rfl, h1, h2⟩ := seqOf_ok R hx e1
          obtain ⟨w, e4, h3⟩ := h2.get e3
          have ea : atI vs i = some w := by
            unfold atI
            rw [← ixN_eq, ← h2.length, e2]
            exact e4
          rcases h1 with h1 | h1
          · exact .inr (.inl (.inl ⟨a, vs, i, w, rfl, rfl, h1, ea, end_d R p h3⟩))
          · exact .inr (.inl (.inr (.inl ⟨a, vs, i, w, rfl, rfl, h1, ea, end_d R p h3⟩)))
        · exact bad_end p
      · exact bad_end p
    · split at p
      · rename_i kvs e1
        split at p
        · rename_i hk
          split at p
          · rename_i d e2
            obtain ⟨fz, a, xs, rfl, h1, h2⟩ := dicOf_ok R hx e1
            exact .inl ⟨mu, fz, a, xs, kvs, _, d, rfl, h1, h2, hk, hy, e2, fun w hw => end_d R p hw⟩
          · exact bad_end p
        · exact bad_end p
      · split at p
        · rename_i t _ _
          split at p
          · rename_i hl
            split at p
            · rename_i j e2
              split at p
              · rename_i c e3
                have hv : v = .str t := hx
                subst hv
                refine .inr (.inr ⟨t, i, c, rfl, rfl, hl, ?_, end_d R p rfl⟩)
                unfold atI
                rw [← ixN_eq, Array.length_toList, e2]
                show t.cps.toList[j]? = some c
                rw [Array.getElem?_toList]; exact e3
              · exact bad_end p
            · exact bad_end p
          · exact bad_end p
        · exact bad_end p
  · rename_i k _
    split at p
    · rename_i kvs e1
      split at p
      · rename_i hk
        split at p
        · rename_i d e2
          obtain ⟨fz, a, xs, rfl, h1, h2⟩ := dicOf_ok R hx e1
          exact .inl ⟨mu, fz, a, xs, kvs, _, d, rfl, h1, h2, hk, hy, e2, fun w hw => end_d R p hw⟩
        · exact bad_end p
      · exact bad_end p
    · exact bad_end p
  · exact bad_end p
end
section
variable {X : Cx} {CL : CLs} {cl : Cl} {a b c : Expr} {es : List Expr} {sa sb sc : SE} {as : SDs} {pos : Pos}
theorem snd_ix (hu : X.A.units + 64 < cLine) (hw : CL.w = X.w) (ha : SndE X CL cl a sa) (hb : SndE X CL cl b sb) (hs : PlainIx b) : SndE X CL cl (.Subscript a b pos) (e2 oIx sa sb) := fun W tk =>
  pe_imp (pe_ix (ix_all hu hw) (ha W tk) (hb W tk) hs) fun _ _ _ h => two W ha hb ok2_ix h
theorem plainIx_of (h : ∀ l u q p, b ≠ .Slice l u q p) : PlainIx b := fun o i => by
  cases b with
  | Slice l u q p => exact absurd rfl (h l u q p)
  | _ => rfl
end
end MI
end
section
set_option Elab.async false
set_option linter.all false
set_option maxRecDepth 100000
set_option maxHeartbeats 4000000
namespace MI
open PySem PySem.Spec PyProof.Rows L2
section
variable {K : PySem.W.Frag} {CL : CLs} {W : WX} {σ : Sg} {mu mu1 : List Addr} {H H0 H1 : Hp} {M M1 : Mem} {r : Env} {cl : Cl}
/-! ### truth -/
theorem truR_ok {x : RV} {v : V} {b : Bool} (R : Rm K CL mu H M) (h : Rw K CL mu H x v) (e : truR x M = some b) : TruV K v H b := by
  have ls : ∀ ds, lstOf x M = some ds → b = (!ds.isEmpty) → TruV K v H b := fun ds e1 e2 => by
    obtain ⟨a, vs, rfl, h1, h2⟩ := lstOf_ok R h e1
    have hl := h2.length
    refine .inl ⟨vs, h1, e2.trans ?_⟩
    cases ds <;> cases vs <;> simp_all
  have sm : ∀ z : Option (List D), z.map (fun ds => !ds.isEmpty) = some b → ∃ ds, z = some ds ∧ b = (!ds.isEmpty) := fun z e => by
    cases z with
    | none => simp at e
    | some ds => simp only [Option.map_some, Option.some.injEq] at e; exact ⟨ds, rfl, e.symm⟩
  cases x with
  | o o => obtain ⟨ds, e1, e2⟩ := sm _ e; exact ls ds e1 e2
  | d d =>
    cases d with
    | non => rw [show v = V.non from h]; simp only [truR, Option.some.injEq] at e; exact e.symm
    | bl c => rw [show v = V.bl c from h]; simp only [truR, Option.some.injEq] at e; exact e.symm
    | int c => rw [show v = V.int c from h]; simp only [truR, Option.some.injEq] at e; exact e.symm
    | str c =>
      rw [show v = V.str c from h]
      simp only [truR] at e
      split at e
      · rename_i hl
        simp only [Option.some.injEq] at e
        exact ⟨hl, e.symm⟩
      · cases e
    | tup ds =>
      obtain ⟨a, vs, rfl, h1, h2⟩ := h
      have hl := h2.length
      simp only [truR, Option.some.injEq] at e
      refine .inr (.inl ⟨vs, h1, e.symm.trans ?_⟩)
      cases ds <;> cases vs <;> simp_all
    | hdl n => obtain ⟨ds, e1, e2⟩ := sm _ e; exact ls ds e1 e2
    | ro ds => obtain ⟨ds, e1, e2⟩ := sm (lstOf (.d (.ro ds)) M) (by simpa only [truR] using e); exact ls ds e1 e2
/-- the same wish, from a later state -/
theorem Pst.rb {res : Res RV} {Q : VK} (p : Pst K CL W σ mu1 H1 res fun z _ mu' H' => ∀ w, Rr K CL mu' H' H z w → Q w H') (n : Nxt K CL σ mu H r M1 mu1 H1) : Pst K CL W σ mu1 H1 res fun z _ mu' H' => ∀ w, Rr K CL mu' H' H1 z w → Q w H' :=
  p.mono fun _ _ _ _ _ _ q w hw => q w (hw.base n.st n.rm)
end
section
variable {X : Cx} {CL : CLs} {cl : Cl} {a b c : Expr} {rest : List Expr} {es : List Expr} {sa sb sc : SE} {ta tb tc : STt} {as : SDs} {pos : Pos}
theorem snd_not (ha : SndE X CL cl a sa) : SndE X CL cl (.UnaryOp .Not a pos) (eNot sa) := fun W tk => by
  refine pe_imp (pe_notT (ha W tk)) fun σ H Q h => ?_
  obtain ⟨mu, r, M, hm, hs, p⟩ := h
  refine rE_then hm hs p fun x v M1 mu1 H1 n1 h1 p1 => ?_
  split at p1
  · rename_i k e; exact ⟨k, truR_ok n1.rm h1.w e, end_d n1.rm (p1.rb n1) rfl⟩
  · exact bad_end p1
theorem snd_and (ha : SndE X CL cl a sa) (hb : SndE X CL cl (.BoolOp .And (b :: rest) pos) sb) : SndE X CL cl (.BoolOp .And (a :: b :: rest) pos) (eAnd sa sb) := fun W tk => by
  refine pe_imp (pe_andT (ha W tk) (hb W tk)) fun σ H Q h => ?_
  obtain ⟨mu, r, M, hm, hs, p⟩ := h
  refine rE_then hm hs p fun x v M1 mu1 H1 n1 h1 p1 => ?_
  split at p1
  · rename_i e
    exact ⟨true, truR_ok n1.rm h1.w e, by rw [if_pos rfl]; exact ⟨mu1, r, M1, n1.rm, n1.rs, p1.rb n1⟩⟩
  · rename_i e
    exact ⟨false, truR_ok n1.rm h1.w e, by rw [if_neg Bool.false_ne_true]; exact p1.here n1.rm v h1⟩
  · exact bad_end p1
theorem snd_or (ha : SndE X CL cl a sa) (hb : SndE X CL cl (.BoolOp .Or (b :: rest) pos) sb) : SndE X CL cl (.BoolOp .Or (a :: b :: rest) pos) (eOr sa sb) := fun W tk => by
  refine pe_imp (pe_orT (ha W tk) (hb W tk)) fun σ H Q h => ?_
  obtain ⟨mu, r, M, hm, hs, p⟩ := h
  refine rE_then hm hs p fun x v M1 mu1 H1 n1 h1 p1 => ?_
  split at p1
  · rename_i e
    exact ⟨true, truR_ok n1.rm h1.w e, by rw [if_pos rfl]; exact p1.here n1.rm v h1⟩
  · rename_i e
    exact ⟨false, truR_ok n1.rm h1.w e, by rw [if_neg Bool.false_ne_true]; exact ⟨mu1, r, M1, n1.rm, n1.rs, p1.rb n1⟩⟩
  · exact bad_end p1
theorem snd_one {op : BoolOp} (ha : SndE X CL cl a sa) : SndE X CL cl (.BoolOp op [a] pos) sa := fun W tk => pe_one (ha W tk)
theorem snd_neg (ha : SndE X CL cl a sa) : SndE X CL cl (.UnaryOp .USub a pos) (e1 oNeg sa) := fun W tk => by
  refine pe_imp (pe_un un_neg (ha W tk)) fun σ H Q h => ?_
  obtain ⟨mu, r, M, hm, hs, p⟩ := h
  refine rE_then hm hs p fun x v M1 mu1 H1 n1 h1 p1 => ?_
  unfold oNeg at p1
  split at p1
  · exact ⟨_, h1, end_d n1.rm (p1.rb n1) rfl⟩
  · exact bad_end p1

/-! ### tests -/
theorem tnd_tB {op : CmpOp} {rr : R2} {o : Op2} (ho : OpR X (compareOp op) rr) (k : Ok2 X.K CL rr o) (ha : SndE X CL cl a sa) (hb : SndE X CL cl b sb) (hm : behindInMarks op b = false) : SndT X CL cl (.Compare a [op] [b] pos) (tB (e2 o sa sb)) := fun W tk => by
  refine pt_imp (pt_cmpR ho (ha W tk) (hb W tk) hm) fun σ H Q h => ?_
  obtain ⟨mu, r, M, hm, hs, p⟩ := h
  refine two W ha hb k (rE_then hm hs p fun x v M1 mu1 H1 n1 h1 p1 => ?_)
  split at p1
  · exact ⟨_, h1, p1.here n1.rm⟩
  · exact bad_end p1
theorem tnd_tru (ha : SndE X CL cl a sa) (he : ∀ whole, isTrue a X.env whole = (do let v ← whole; standAt a.pos; holding [v] (truthy v))) : SndT X CL cl a (tTru sa) := fun W tk => by
  refine pt_imp (pt_truth (ha W tk) he) fun σ H Q h => ?_
  obtain ⟨mu, r, M, hm, hs, p⟩ := h
  refine rE_then hm hs p fun x v M1 mu1 H1 n1 h1 p1 => ?_
  split at p1
  · rename_i k e; exact ⟨k, truR_ok n1.rm h1.w e, p1.here n1.rm⟩
  · exact bad_end p1
theorem tnd_not (ha : SndT X CL cl a ta) : SndT X CL cl (.UnaryOp .Not a pos) (tNot ta) := fun W tk => by
  refine pt_imp (pt_not (ha W tk)) fun σ H Q h => ?_
  obtain ⟨mu, r, M, hm, hs, p⟩ := h
  exact rT_then hm hs p fun x M1 mu1 H1 n1 p1 => p1.here n1.rm
theorem wnd_and1 (ha : SndT X CL cl a ta) : SndW X CL cl (.BoolOp .And [a] pos) ta := fun W tk => pw_and1 (ha W tk)
theorem wnd_or1 (ha : SndT X CL cl a ta) : SndW X CL cl (.BoolOp .Or [a] pos) ta := fun W tk => pw_or1 (ha W tk)
theorem pw_imp {t t' : TT} (h : PW X a t) (q : ∀ σ H Q, t' σ H Q → t σ H Q) : PW X a t' := ⟨fun wh pins s σ H Q I w => h.run wh pins s σ H Q I (q σ H Q w)⟩
theorem wnd_and (ha : SndT X CL cl a ta) (hb : SndW X CL cl (.BoolOp .And (b :: rest) pos) tb) : SndW X CL cl (.BoolOp .And (a :: b :: rest) pos) (MI.tAnd ta tb) := fun W tk => by
  refine pw_imp (pw_and (ha W tk) (hb W tk)) fun σ H Q h => ?_
  obtain ⟨mu, r, M, hm, hs, p⟩ := h
  refine rT_then hm hs p fun x M1 mu1 H1 n1 p1 => ?_
  cases x with
  | true => rw [if_pos rfl] at p1 ⊢; exact ⟨mu1, r, M1, n1.rm, n1.rs, p1⟩
  | false => rw [if_neg Bool.false_ne_true] at p1 ⊢; exact p1.here n1.rm
theorem wnd_or (ha : SndT X CL cl a ta) (hb : SndW X CL cl (.BoolOp .Or (b :: rest) pos) tb) : SndW X CL cl (.BoolOp .Or (a :: b :: rest) pos) (MI.tOr ta tb) := fun W tk => by
  refine pw_imp (pw_or (ha W tk) (hb W tk)) fun σ H Q h => ?_
  obtain ⟨mu, r, M, hm, hs, p⟩ := h
  refine rT_then hm hs p fun x M1 mu1 H1 n1 p1 => ?_
  cases x with
  | true => rw [if_pos rfl] at p1 ⊢; exact p1.here n1.rm
  | false => rw [if_neg Bool.false_ne_true] at p1 ⊢; exact ⟨mu1, r, M1, n1.rm, n1.rs, p1⟩
theorem wnd_t (h : SndW X CL cl a ta) : SndT X CL cl a ta := fun W tk => (h W tk).pt
theorem snd_if (ht : SndT X CL cl c tc) (ha : SndE X CL cl a sa) (hb : SndE X CL cl b sb) : SndE X CL cl (.IfExp c a b pos) (eIf tc sa sb) := fun W tk => by
  refine pe_imp (pe_ifExp (ht W tk) (ha W tk) (hb W tk)) fun σ H Q h => ?_
  obtain ⟨mu, r, M, hm, hs, p⟩ := h
  refine rT_then hm hs p fun x M1 mu1 H1 n1 p1 => ?_
  cases x with
  | true => rw [if_pos rfl] at p1 ⊢; exact ⟨mu1, r, M1, n1.rm, n1.rs, p1.rb n1⟩
  | false => rw [if_neg Bool.false_ne_true] at p1 ⊢; exact ⟨mu1, r, M1, n1.rm, n1.rs, p1.rb n1⟩

/-! ### arguments, displays -/
theorem dnd_nil : SndDs X CL cl [] dNil := fun W tk => by
  refine pa_imp pa_nil fun σ H Q h => ?_
  obtain ⟨mu, r, M, hm, hs, p⟩ := h
  exact p.here hm [] rfl
theorem dnd_cons (ha : SndE X CL cl a sa) (hr : SndDs X CL cl es as) (hst : starEach (a :: es) X.env = (false, eval a X.env) :: starEach es X.env) : SndDs X CL cl (a :: es) (dCons sa as) := fun W tk => by
  refine pa_imp (pa_cons (ha W tk) (hr W tk) hst) fun σ H Q h => ?_
  obtain ⟨mu, r, M, hm, hs, p⟩ := h
  refine rE_thenB hm hs Stp.refl p fun x v M1 mu1 H1 n1 h1 p1 => ?_
  obtain ⟨t, R2, s2, hv⟩ := n1.rm.box h1 n1.st
  refine rDs_thenB R2 (n1.rs.ext t) s2 p1 fun ds vs M3 mu3 H3 n3 h3 p3 => ?_
  exact p3 mu3 H3 (s2.trans n3.st R2) n3.rm (v :: vs) ⟨v, vs, rfl, hv.stp R2 n3.st, h3⟩
theorem snd_tup {k : Nat} (h : SndDs X CL cl es as) : SndE X CL cl (.Tuple es k pos) (eTup as) := fun W tk => by
  refine pe_imp (pe_tup (h W tk)) fun σ H Q h => ?_
  obtain ⟨mu, r, M, hm, hs, p⟩ := h
  refine rDs_then hm hs p fun ds vs M1 mu1 H1 n1 h1 p1 => ?_
  split at p1
  · rename_i c
    exact ⟨by rw [← h1.length]; exact c, end_tup n1.rm (p1.rb n1) h1⟩
  · exact bad_end p1
theorem snd_lst (h : SndDs X CL cl es as) : SndE X CL cl (.List es pos) (eLst as) := fun W tk => by
  refine pe_imp (pe_lst (h W tk)) fun σ H Q h => ?_
  obtain ⟨mu, r, M, hm, hs, p⟩ := h
  refine rDs_then hm hs p fun ds vs M1 mu1 H1 n1 h1 p1 => ?_
  split at p1
  · rename_i c
    exact ⟨by rw [← h1.length]; exact c, end_lst n1.rm (p1.rb n1) h1⟩
  · exact bad_end p1
theorem end_dic {K : PySem.W.Frag} {CL : CLs} {W : WX} {σ : Sg} {mu : List Addr} {H : Hp} {M : Mem} {kvs : List (D × D)} {xs : List Ent} {Q : VK} (R : Rm K CL mu H M) (h : Pst K CL W σ mu H (.ok (.o (.dic false kvs)) M) fun z _ mu' H' => ∀ w, Rr K CL mu' H' H z w → Q w H') (q : Rdt K mu H kvs xs) :
    ∀ p, H p = none → Q (.ref p) (upd H p (dictO CL.w p xs)) := fun p n =>
  h mu _ (Stp.laid R n) (R.laid n) (.ref p) ⟨p, rfl, ⟨xs, upd_same, q.stp R (Stp.laid R n)⟩, R.fresh n, n⟩
/-- {} -/
def tDicNew (w : World) : TE := fun _ H Q => ∀ p, H p = none → Q (.ref p) (upd H p (dictO w p []))
theorem pe_dic0 {w : World} : PE X (.Dict [] [] pos) (tDicNew w) := ⟨fun pins s σ H Q I h =>
  wpAny_Dict_empty ⟨.ref s.heap.objs.size, _, I.laid (a := s.heap.objs.size) (o := dictO w s.heap.objs.size []) (t' := s.toks) (fun _ _ q => Heap.get?_push_of_some _ q) (Nat.le_refl _)
    (dictO_ok ⟨⟨_, #[], 0, Heap.get?_push_size _ rfl, ⟨rfl, rfl, rfl⟩, rfl, rfl⟩, List.nodup_nil, beq_eq_false_iff_ne.mpr (Ne.symm (Nat.ne_of_lt I.big)), Nat.zero_le _⟩), rfl, h _ (I.hok.fresh (Nat.le_refl _))⟩⟩
theorem snd_dic0 : SndE X CL cl (.Dict [] [] pos) eDic0 := fun W tk => by
  refine pe_imp (pe_dic0 (w := CL.w)) fun σ H Q h => ?_
  obtain ⟨mu, r, M, hm, hs, p⟩ := h
  exact end_dic hm p rfl

/-! ### slices -/
theorem ond_none : SndO X CL cl none oNone := fun W tk => by
  refine po_imp po_none fun σ H Q h => ?_
  obtain ⟨mu, r, M, hm, hs, p⟩ := h
  exact p.here hm
theorem ond_some (ha : SndE X CL cl a sa) : SndO X CL cl (some a) (oSome sa) := fun W tk => by
  refine po_imp (po_some (ha W tk)) fun σ H Q h => ?_
  obtain ⟨mu, r, M, hm, hs, p⟩ := h
  refine rE_then hm hs p fun x v M1 mu1 H1 n1 h1 p1 => ?_
  split at p1
  · exact ⟨_, h1, p1.here n1.rm⟩
  · exact bad_end p1
theorem sIx_eq : @MI.sIx = @HT.sIx := rfl
theorem cut_v {K : PySem.W.Frag} {mu : List Addr} {H : Hp} {ds : List D} {vs : List V} {lo hi : Option Int} (h : Rvs K mu H ds vs) : Rvs K mu H (cut ds lo hi) (cutV vs lo hi) := by
  unfold cut cutV
  rw [h.length, sIx_eq]
  exact (h.drop _).take _
theorem cut_whole {A : Type} {xs : List A} {lo hi : Option Int} (h : HT.sIx xs.length 0 lo = 0 ∧ HT.sIx xs.length xs.length hi = xs.length) : cut xs lo hi = xs := by
  unfold cut
  rw [sIx_eq, h.1, h.2]
  simp
theorem snd_slice {lo hi : Option Expr} {sl sh : SO} {p2 : Pos} (ha : SndE X CL cl a sa) (hl : SndO X CL cl lo sl) (hh : SndO X CL cl hi sh) : SndE X CL cl (.Subscript a (.Slice lo hi none p2) pos) (eSlice sa sl sh) := fun W tk => by
  refine pe_imp (pe_slice (sl_list.or (sl_tupA.or sl_str)) (ha W tk) (hl W tk) (hh W tk)) fun σ H Q h => ?_
  obtain ⟨mu, r, M, hm, hs, p⟩ := h
  refine rE_then hm hs p fun x v M1 mu1 H1 n1 h1 p1 => ?_
  refine rO_then n1.rm n1.rs p1 fun l M2 mu2 H2 n2 p2 => ?_
  refine rO_then n2.rm n2.rs p2 fun u M3 mu3 H3 n3 p3 => ?_
  have hx : Rw X.K CL mu3 H3 x v := (h1.w.stp n1.rm n2.st).stp n2.rm n3.st
  have p4 : Pst X.K CL W σ mu3 H3 (oSlice x l u M3) fun z _ mu' H' => ∀ w, Rr X.K CL mu' H' H3 z w → Q w H' :=
    p3.mono fun z M3 mu3 H3 s3 R3 q w hw => q w (hw.base ((n1.st.trans n2.st n1.rm).trans n3.st n2.rm) n3.rm)
  unfold oSlice at p4
  split at p4
  · obtain ⟨a, vs, rfl, h4, h5⟩ := hx
    refine .inr (.inl ⟨a, vs, rfl, h4, fun e => end_d n3.rm p4 ⟨a, vs, rfl, h4, ?_⟩, fun _ => end_tup n3.rm p4 (cut_v h5)⟩)
    rw [cut_whole (by rw [h5.length]; exact e)]
    exact h5
  · split at p4
    · rename_i c
      have hv : v = .str _ := hx
      subst hv
      refine .inr (.inr ⟨_, rfl, c, end_d n3.rm p4 ?_⟩)
      unfold cutS cut
      rw [sIx_eq]
      rfl
    · exact bad_end p4
  · split at p4
    · rename_i ds e
      obtain ⟨a, vs, rfl, h4, h5⟩ := lstOf_ok n3.rm hx e
      exact .inl ⟨a, vs, rfl, h4, end_lst n3.rm p4 (cut_v h5)⟩
    · exact bad_end p4

/-! ### calls of built-ins -/
/-- a built-in of one argument by what it asks of the heap -/
def Ok1 (K : PySem.W.Frag) (CL : CLs) (rr : List V → Hp → VK → Prop) (o : Op1) : Prop :=
  ∀ (W : WX) (σ : Sg) mu H M x v (Q : VK), Rm K CL mu H M → Rw K CL mu H x v → Pst K CL W σ mu H (o x M) (fun z _ mu' H' => ∀ w, Rr K CL mu' H' H z w → Q w H') → rr [v] H Q
theorem one_arg (W : WX) {rr : List V → Hp → VK → Prop} {o : Op1} (ha : SndE X CL cl a sa) (k : Ok1 X.K CL rr o) {σ : Sg} {H : Hp} {Q : VK} (h : rE X.K CL W cl (e1 o sa) σ H Q) :
    tCons (rE X.K CL W cl sa) tNil σ H fun vs H1 => rr vs H1 Q := by
  obtain ⟨mu, r, M, hm, hs, p⟩ := h
  exact rE_then hm hs p fun x v M1 mu1 H1 n1 h1 p1 => k W σ mu1 H1 M1 x v Q n1.rm h1.w (p1.rb n1)
theorem two_arg (W : WX) {rr : List V → Hp → VK → Prop} {o : Op2} (ha : SndE X CL cl a sa) (hb : SndE X CL cl b sb) (k : Ok2 X.K CL (fun x y H Q => rr [x, y] H Q) o) {σ : Sg} {H : Hp} {Q : VK} (h : rE X.K CL W cl (e2 o sa sb) σ H Q) :
    tCons (rE X.K CL W cl sa) (tCons (rE X.K CL W cl sb) tNil) σ H fun vs H1 => rr vs H1 Q := two W ha hb k h
variable {x : Str} {p0 : Pos} {id T : String} {rr : List V → Hp → VK → Prop} {o : Op1}
theorem snd_b1 (hc : CallR X (.builtin id) rr) (k : Ok1 X.K CL rr o) (ha : SndE X CL cl a sa) (hg : Gl X x) (hm : X.mg x = none) (hv : bootBuiltins x = some (.builtin id)) (hn : x ≠ "__name__") (hdb : (x == ("__debug__" : Str)) = false)
    (hst : starEach [a] X.env = [(false, eval a X.env)]) : SndE X CL cl (.Call (.Name x p0) [a] [] pos) (e1 o sa) := fun W tk =>
  pe_imp (pe_callB hc hg hm hv (pa_cons (ha W tk) pa_nil hst) hn hdb hst rfl) fun σ H Q h => one_arg W ha k h
theorem snd_t1 (hc : CallR X (.type T) rr) (k : Ok1 X.K CL rr o) (ha : SndE X CL cl a sa) (hg : Gl X x) (hm : X.mg x = none) (hv : bootBuiltins x = some (.type T)) (hn : x ≠ "__name__") (hdb : (x == ("__debug__" : Str)) = false)
    (hst : starEach [a] X.env = [(false, eval a X.env)]) : SndE X CL cl (.Call (.Name x p0) [a] [] pos) (e1 o sa) := fun W tk =>
  pe_imp (pe_callTy hc hg hm hv (pa_cons (ha W tk) pa_nil hst) hn hdb hst rfl) fun σ H Q h => one_arg W ha k h
theorem snd_b2 {o : Op2} (hc : CallR X (.builtin id) rr) (k : Ok2 X.K CL (fun x y H Q => rr [x, y] H Q) o) (ha : SndE X CL cl a sa) (hb : SndE X CL cl b sb) (hg : Gl X x) (hm : X.mg x = none) (hv : bootBuiltins x = some (.builtin id)) (hn : x ≠ "__name__") (hdb : (x == ("__debug__" : Str)) = false)
    (hst : starEach [a, b] X.env = (false, eval a X.env) :: starEach [b] X.env) (hst2 : starEach [b] X.env = [(false, eval b X.env)]) : SndE X CL cl (.Call (.Name x p0) [a, b] [] pos) (e2 o sa sb) := fun W tk =>
  pe_imp (pe_callB hc hg hm hv (pa_cons (ha W tk) (pa_cons (hb W tk) pa_nil hst2) hst) hn hdb hst (by rw [hst2]; rfl)) fun σ H Q h => two_arg W ha hb k h
end
end MI
end
section
set_option Elab.async false
set_option linter.all false
set_option maxRecDepth 100000
set_option maxHeartbeats 4000000
namespace MI
open PySem PySem.Spec PyProof.Rows L2
section
variable {K : PySem.W.Frag} {CL : CLs} {W : WX} {σ : Sg} {mu mu1 : List Addr} {H H0 H1 : Hp} {M M1 : Mem} {r : Env} {cl : Cl}
/-! ### the built-ins' contracts -/
theorem ok1_len : Ok1 K CL (fun xs H Q => ∃ x n, xs = [x] ∧ LenV K x H n ∧ Q (.int n) H) bLen := fun W σ mu H M x v Q R hx p => by
  unfold bLen at p
  split at p
  · split at p
    · rename_i c
      have hv : v = .str _ := hx
      subst hv
      exact ⟨_, _, rfl, ⟨c, rfl⟩, end_d R p rfl⟩
    · exact bad_end p
  · split at p
    · rename_i ds e
      obtain ⟨a, vs, rfl, h1, h2⟩ := seqOf_ok R hx e
      rcases h1 with h1 | h1
      · exact ⟨_, _, rfl, .inl ⟨vs, h1, h2.length⟩, end_d R p rfl⟩
      · exact ⟨_, _, rfl, .inr ⟨vs, h1, h2.length⟩, end_d R p rfl⟩
    · exact bad_end p
theorem rdt_kvs : ∀ {ds : List (D × D)} {xs : List Ent}, Rdt K mu H ds xs → ∃ vs, Vals vs (xs.map (·.2.1)) ∧ Rvs K mu H (ds.map (·.1)) vs
  | [], _, h => by cases (show _ = [] from h); exact ⟨[], .nil, rfl⟩
  | p :: r, _, ⟨kv, ku, u, v, xs', e, h0, h1, h2, h3, h4, t⟩ => by
    subst e
    obtain ⟨vs, q1, q2⟩ := rdt_kvs t
    exact ⟨kv :: vs, .cons h0 q1, kv, vs, rfl, h1, q2⟩
theorem rdt_vals : ∀ {ds : List (D × D)} {xs : List Ent}, Rdt K mu H ds xs → ∃ vs, Vals vs (xs.map (·.2.2)) ∧ Rvs K mu H (ds.map (·.2)) vs
  | [], _, h => by cases (show _ = [] from h); exact ⟨[], .nil, rfl⟩
  | p :: r, _, ⟨kv, ku, u, v, xs', e, h0, h1, h2, h3, h4, t⟩ => by
    subst e
    obtain ⟨vs, q1, q2⟩ := rdt_vals t
    exact ⟨v :: vs, .cons h3 q1, v, vs, rfl, h4, q2⟩
theorem items_keys {xs : List Ent} {es : Array DictEntry} {acc : Array Value} {w : World} (h : es.toList = xs.map fun x => ⟨x.1.hash w, x.2.1, x.2.2⟩) (hacc : ItemsOf (fun i v => ∃ hi : i < es.size, v = es[i].key) acc es.size) : acc.toList = xs.map (·.2.1) := by
  have hz : es.size = xs.length := by rw [← Array.length_toList, h, List.length_map]
  refine List.ext_getElem? fun i => ?_
  by_cases hi : i < xs.length
  · have h1 : i < acc.size := by rw [hacc.1, hz]; exact hi
    obtain ⟨hi2, e⟩ := hacc.2 i acc[i] (Array.getElem?_eq_getElem h1)
    rw [Array.getElem?_toList, Array.getElem?_eq_getElem h1, e, List.getElem?_map, List.getElem?_eq_getElem hi]
    have z : es[i]? = some ⟨xs[i].1.hash w, xs[i].2.1, xs[i].2.2⟩ := by rw [← Array.getElem?_toList, h, List.getElem?_map, List.getElem?_eq_getElem hi]; rfl
    rw [Array.getElem?_eq_getElem hi2] at z
    rw [Option.some.inj z]; rfl
  · have h1 : acc.toList.length ≤ i := by rw [Array.length_toList, hacc.1, hz]; omega
    have h2 : (xs.map (·.2.1)).length ≤ i := by rw [List.length_map]; omega
    rw [List.getElem?_eq_none h1, List.getElem?_eq_none h2]
abbrev rListL (K : PySem.W.Frag) : List V → Hp → VK → Prop := fun xs H Q => ∃ p ys, xs = [.ref p] ∧ (SqL K H p ys ∨ SqT K H p ys) ∧ ∀ l, H l = none → Q (.ref l) (upd H l (.lst ys))
def rListD (K : PySem.W.Frag) (w : World) : List V → Hp → VK → Prop := fun xs H Q => ∃ mu fz a es ds, xs = [.ref a] ∧ Lk fz H a (dictO w a es) ∧ Rdt K mu H ds es ∧ ∀ vs p, Rvs K mu H (ds.map (·.1)) vs → H p = none → Q (.ref p) (upd H p (.lst vs))
theorem call_listD {X : Cx} {w : World} (hc : X.calm = true) : CallR X (.type "list") (rListD X.K w) := fun pins s σ H xs us Q I r ⟨mu, fz, a, es, ds, ex, e, rd, q⟩ => by
  subst ex
  obtain ⟨u, rfl, rx⟩ := vals1 r
  cases rx
  have d0 := lk_get I e
  obtain ⟨⟨o, en, ep, h1, h2, h3, h4⟩, nd, sy, len⟩ := d0
  obtain ⟨vs, z1, z2⟩ := rdt_kvs rd
  have hz : en.size = es.length := by rw [← Array.length_toList, h4, List.length_map]
  refine PySem.W.kdl_call (KdlSrc.rawDict (es := en) (ep := ep) sy) (I.ok.hd hc) ⟨o, h1, h2, h3⟩ (by omega) fun h' tk acc' c' keep hS hacc => ?_
  refine ⟨.ref s.heap.objs.size, _, I.laid (o := .lst vs) (t' := tk) keep (Nat.le_refl _) ⟨?_, acc'.toList, c', ?_, hS⟩, rfl, q vs _ z2 (I.hok.fresh (Nat.le_refl _))⟩
  · rw [z1.length, List.length_map]; exact len
  · rw [items_keys h4 hacc]; exact z1
abbrev rListAll (K : PySem.W.Frag) (w : World) : List V → Hp → VK → Prop := fun xs H Q => rListL K xs H Q ∨ rListD K w xs H Q
theorem call_listAll {X : Cx} {w : World} (hc : X.calm = true) : CallR X (.type "list") (rListAll X.K w) := call_list_of.or (call_listD hc)
theorem ok1_list : Ok1 K CL (rListAll K CL.w) bList := fun W σ mu H M x v Q R hx p => by
  unfold bList at p
  split at p
  · rename_i ds e
    obtain ⟨a, vs, rfl, h1, h2⟩ := seqOf_ok R hx e
    exact .inl ⟨a, vs, rfl, h1, end_lst R p h2⟩
  · split at p
    · rename_i kvs e
      obtain ⟨fz, a, xs, rfl, h1, h2⟩ := dicOf_ok R hx e
      exact .inr ⟨mu, fz, a, xs, kvs, rfl, h1, h2, fun vs l hv n => end_lst R p hv l n⟩
    · exact bad_end p
theorem ok1_tuple : Ok1 K CL (fun xs H Q => ∃ p ys, xs = [.ref p] ∧ ((SqL K H p ys ∧ ∀ l, H l = none → Q (.ref l) (upd H l (.tup ys))) ∨ (SqT K H p ys ∧ Q (.ref p) H))) bTuple := fun W σ mu H M x v Q R hx p => by
  unfold bTuple at p
  split at p
  · rename_i ds e
    obtain ⟨a, vs, rfl, h1, h2⟩ := seqOf_ok R hx e
    rcases h1 with h1 | h1
    · exact ⟨a, vs, rfl, .inl ⟨h1, end_tup R p h2⟩⟩
    · exact ⟨a, vs, rfl, .inr ⟨h1, end_d R p ⟨a, vs, rfl, h1, h2⟩⟩⟩
  · exact bad_end p
theorem allFig_ok {cs : List Nat} (h : allFig cs = true) : NumText.AllDigits cs ∧ cs ≠ [] := by
  unfold allFig at h
  simp only [Bool.and_eq_true, Bool.not_eq_true', List.isEmpty_eq_false_iff] at h
  refine ⟨fun c hc => ?_, h.1⟩
  have := of_decide_eq_true (List.all_eq_true.mp h.2 c hc)
  exact this
theorem figs_val (cs : List Nat) : NumText.digitsVal cs = figs cs := rfl
theorem intL_cons (c : Nat) (r : List Nat) : intL (c :: r) = if c = 45 then (if allFig r = true then some (-(figs r : Int)) else none) else if allFig (c :: r) = true then some (figs (c :: r) : Int) else none := rfl
theorem intL_ok {s : Str} {n : Int} (hl : s.length ≤ 640) (h : intL s.cps.toList = some n) : PySem.intText? s = some n := by
  cases e : s.cps.toList with
  | nil => rw [e] at h; cases h
  | cons c r =>
    rw [e, intL_cons] at h
    by_cases hc : c = 45
    · subst hc
      rw [if_pos rfl] at h
      by_cases hf : allFig r = true
      · rw [if_pos hf] at h
        cases h
        obtain ⟨h1, h2⟩ := allFig_ok hf
        rw [intText_neg e h1 h2 (by omega), figs_val]
      · rw [if_neg hf] at h; cases h
    · rw [if_neg hc] at h
      by_cases hf : allFig (c :: r) = true
      · rw [if_pos hf] at h
        cases h
        obtain ⟨h1, h2⟩ := allFig_ok hf
        rw [intText_digits (by rw [e]; exact h1) (by rw [e]; exact h2) (by omega), figs_val, e]
      · rw [if_neg hf] at h; cases h
abbrev rInt : List V → Hp → VK → Prop := fun xs H Q => ((∃ i, xs = [.int i] ∧ Q (.int i) H) ∨ ∃ k, xs = [.bl k] ∧ Q (.int (if k then 1 else 0)) H) ∨ ∃ a n, xs = [.str a] ∧ PySem.intText? a = some n ∧ a.length ≤ 640 ∧ Q (.int n) H
theorem call_intAll {X : Cx} : CallR X (.type "int") rInt := CallR.or call_int1 call_int_str
theorem ok1_int : Ok1 K CL rInt bInt := fun W σ mu H M x v Q R hx p => by
  unfold bInt at p
  split at p
  · exact .inl (.inl ⟨_, by rw [show v = _ from hx], end_d R p rfl⟩)
  · exact .inl (.inr ⟨_, by rw [show v = _ from hx], end_d R p rfl⟩)
  · split at p
    · rename_i hl
      split at p
      · rename_i n hn
        exact .inr ⟨_, n, by rw [show v = _ from hx], intL_ok hl hn, hl, end_d R p rfl⟩
      · exact bad_end p
    · exact bad_end p
  · exact bad_end p
theorem ok1_abs : Ok1 K CL (fun xs H Q => ∃ i, xs = [.int i] ∧ Q (.int (if i < 0 then -i else i)) H) bAbs := fun W σ mu H M x v Q R hx p => by
  unfold bAbs at p
  split at p
  · exact ⟨_, by rw [show v = _ from hx], end_d R p rfl⟩
  · exact bad_end p
theorem ok2_max : Ok2 K CL (fun x y H Q => ∃ i j, [x, y] = [.int i, .int j] ∧ Q (.int (if j > i then j else i)) H) bMax2 := fun W σ mu H M x y v u Q R hx hy p => by
  unfold bMax2 at p
  split at p
  · exact ⟨_, _, by rw [show v = _ from hx, show u = _ from hy], end_d R p rfl⟩
  · exact bad_end p
theorem ok2_min : Ok2 K CL (fun x y H Q => ∃ i j, [x, y] = [.int i, .int j] ∧ Q (.int (if j < i then j else i)) H) bMin2 := fun W σ mu H M x y v u Q R hx hy p => by
  unfold bMin2 at p
  split at p
  · exact ⟨_, _, by rw [show v = _ from hx, show u = _ from hy], end_d R p rfl⟩
  · exact bad_end p

/-! ### sorted -/
theorem insI_perm (i : Int) : ∀ l : List Int, (insI i l).Perm (i :: l)
  | [] => .refl _
  | j :: r => by
    unfold insI
    split
    · exact .refl _
    · exact ((insI_perm i r).cons j).trans (.swap i j r)
theorem sortI_perm : ∀ l : List Int, (sortI l).Perm l
  | [] => .refl _
  | i :: r => (insI_perm i _).trans ((sortI_perm r).cons i)
theorem insI_sorted (i : Int) : ∀ l : List Int, l.Pairwise (· ≤ ·) → (insI i l).Pairwise (· ≤ ·)
  | [], _ => List.pairwise_singleton _ _
  | j :: r, h => by
    unfold insI
    obtain ⟨h1, h2⟩ := List.pairwise_cons.mp h
    split
    · rename_i c
      refine List.pairwise_cons.mpr ⟨fun x hx => ?_, h⟩
      rcases List.mem_cons.mp hx with e | hx
      · rw [e]; exact c
      · exact Int.le_trans c (h1 x hx)
    · rename_i c
      refine List.pairwise_cons.mpr ⟨fun x hx => ?_, insI_sorted i r h2⟩
      rcases List.mem_cons.mp ((insI_perm i r).mem_iff.mp hx) with e | hx
      · rw [e]; omega
      · exact h1 x hx
theorem sortI_sorted : ∀ l : List Int, (sortI l).Pairwise (· ≤ ·)
  | [] => .nil
  | i :: r => insI_sorted i _ (sortI_sorted r)
theorem sorted_one {xs ys : List Int} (p : xs.Perm ys) (h : xs.Pairwise (· ≤ ·)) (h2 : ys.Pairwise (· ≤ ·)) : xs = ys :=
  List.Perm.eq_of_pairwise (fun a b _ _ h1 h2 => Int.le_antisymm h1 h2) h h2 p
/-- sorted(a), whatever a is, if walking it tells whole numbers -/
theorem sorted_any {X : Cx} {pins : List (Addr × Obj)} {σ : Sg} {H : Hp} {s : Shared} {a : Addr} {Q : VK} {ks : List Int} (hz : ks.length ≤ sizeLine)
    (col : ∀ R : List Value → Shared → Prop, (∀ us ns s1, Inv X pins σ H s1 → IntsAre us ns → ns.Perm ks → R us s1) → wpAny (model X.prog X.w) X.A.in1 (collect (.ref a)) R X.xe s)
    (q : ∀ (ys : List Int) (p : Addr), ys.Perm ks → ys.Pairwise (· ≤ ·) → H p = none → Q (.ref p) (upd H p (.lst (ys.map V.int)))) :
    wpAny (model X.prog X.w) X.A (call (.builtin "sorted") [.ref a]) (EP X pins σ Q) X.xe s := by
  refine Calls.call_function_entry PyProof.Rows.kind_sorted PyProof.Rows.plain_sorted PyProof.Rows.entry_sorted (PyProof.Rows.args_sorted1 _) (show wpAny _ _ (Builtin.«sorted» _) _ _ _ from ?_)
  unfold Builtin.«sorted»; refine wpAny_bind (m := checkCount "sorted" 1 1 _) (wpAny_pure (wpAny_bind (col _ fun us ns s1 I1 hi hp => ?_)))
  have hl : us.length ≤ sizeLine := by rw [hi.length, hp.length_eq]; exact hz
  refine wpAny_bind (wpAny_newList ?_ hl)
  have ho : (s1.heap.push (seqObj "list" us.toArray 0)).get? s1.heap.objs.size = some (seqObj "list" us.toArray 0) := Heap.get?_push_size _ rfl
  refine wpAny_bind (wpAny_holding (wpAny_call_entry PyProof.Rows.slot_list_sort ⟨_, ho, rfl⟩ PyProof.Rows.entry_list_sort (SrtO.list_sort_ord
    (s := { s1 with heap := s1.heap.push (seqObj "list" us.toArray 0) }) SrtO.swo_int ho hl (fun h2 => SrtO.ints_sortable hi h2) fun out h1 h2 => ⟨_, rfl, ?_⟩) (PyProof.Rows.args_list_sort _)))
  obtain ⟨k1, k2, k3⟩ := SrtO.ints_out hi h1 h2
  obtain ⟨c, hc⟩ := PyProof.Rows.sortedHeap_at (vs := us) (out := out.toArray) ho
  have pk := k2.trans hp
  refine wpAny_pure ⟨_, rfl, .ref s1.heap.objs.size, _, I1.laid (o := .lst ((out.map SrtO.iv).map V.int)) (t' := s1.toks) (fun b u e => ?_) (Nat.le_refl _) ⟨by rw [List.length_map, pk.length_eq]; exact hz, out, c, vals_of_ints k1, hc⟩, rfl, q _ _ pk k3 (I1.hok.fresh (Nat.le_refl _))⟩
  have lt := Heap.lt_size e
  rw [PyProof.Rows.sortedHeap_old (Nat.ne_of_lt lt) (by rw [PyProof.Rows.size_push']; exact Nat.lt_succ_of_lt lt)]
  exact Heap.get?_push_of_some _ e
/-! sorted(d) of a dict of whole numbers, of any size -/
def rSortDI (K : PySem.W.Frag) (w : World) : List V → Hp → VK → Prop := fun xs H Q => ∃ mu fz a es ds, ∃ ns : List Int, xs = [.ref a] ∧ Lk fz H a (dictO w a es) ∧ Rdt K mu H ds es ∧ ds.map (·.1) = ns.map D.int ∧
  ∀ (ys : List Int) (p : Addr), ys.Perm ns → ys.Pairwise (· ≤ ·) → H p = none → Q (.ref p) (upd H p (.lst (ys.map V.int)))
theorem kdu_keys {X : Cx} {pins : List (Addr × Obj)} {σ : Sg} {H : Hp} {s : Shared} {fz : Bool} {w : World} {a : Addr} {es : List Ent} (hc : X.calm = true) (I : Inv X pins σ H s) (e : Lk fz H a (dictO w a es)) {R : List Value → Shared → Prop}
    (h : ∀ s1, Inv X pins σ H s1 → R (es.map (·.2.1)) s1) : wpAny (model X.prog X.w) X.A.in1 (collect (.ref a)) R X.xe s := by
  obtain ⟨⟨o, en, ep, h1, h2, h3, h4⟩, nd, sy, len⟩ := lk_get I e
  have hz : en.size = es.length := by rw [← Array.length_toList, h4, List.length_map]
  refine PySem.W.kdu_collect (A := X.A.in1) (KdlSrc.rawDict (es := en) (ep := ep) sy) (I.ok.hd hc) ⟨o, h1, h2, h3⟩ (by omega) fun h' tk acc keep hacc => ?_
  rw [items_keys h4 hacc]
  exact h _ (I.kept keep)
theorem ints_vals : ∀ {ns : List Int} {us : List Value}, Vals (ns.map V.int) us → IntsAre us ns := fun h => Vals.ints h
theorem call_sortDI {X : Cx} {w : World} (hc : X.calm = true) : CallR X (.builtin "sorted") (rSortDI X.K w) := fun pins s σ H xs us Q I r ⟨mu, fz, a, es, ds, ns, ex, e, rd, ek, q⟩ => by
  subst ex
  obtain ⟨u, rfl, rx⟩ := vals1 r
  cases rx
  obtain ⟨vs, z1, z2⟩ := rdt_kvs rd
  rw [ek] at z2
  have z3 := z2.ints
  subst z3
  have hl : ns.length = es.length := by have := z1.length; simpa using this
  refine sorted_any (ks := ns) (by rw [hl]; exact (lk_get I e).len) (fun R hR => kdu_keys hc I e fun s1 I1 => hR _ ns s1 I1 (ints_vals z1) (.refl _)) q
/-! .. of rows -/
def rSortRL (K : PySem.W.Frag) : List V → Hp → VK → Prop := fun xs H Q => ∃ (a : Addr) (L0 : List AR), xs = [.ref a] ∧ SqL K H a (L0.map fun p => V.ref p.1) ∧ (∀ p ∈ L0, SqT K H p.1 (p.2.map V.int)) ∧ rowsOk (L0.map (·.2)) = true ∧
  ∀ (L : List AR) (p : Addr), L.map (·.2) = sortR (L0.map (·.2)) → (∀ p ∈ L, SqT K H p.1 (p.2.map V.int)) → H p = none → Q (.ref p) (upd H p (.lst (L.map fun p => V.ref p.1)))
theorem call_sortRL {X : Cx} : CallR X (.builtin "sorted") (rSortRL X.K) := fun pins s σ H xs us Q I r ⟨a, L0, ex, hl, hT, hok, q⟩ => by
  subst ex
  obtain ⟨u, rfl, rx⟩ := vals1 r
  cases rx
  obtain ⟨its, rv, p, hz⟩ := I.list hl
  have ei := refs_of_vals rv
  have hz' : its.length ≤ sizeLine := by rw [← rv.length]; exact hz
  refine sortedR_any (ks := L0.map (·.2)) (by rw [List.length_map] at hz ⊢; exact hz) hok (fun R hR => ?_) q
  refine PyProof.Rows.collect_list p.isList ?_ hz'
  rw [ei]
  refine hR L0 _ (I.kept (t' := s.toks) fun b o e => ?_) hT (.refl _)
  have hlt : b < s.heap.objs.size := Heap.lt_size e
  rw [Heap.get?_update_ne _ _ _ _ (Nat.ne_of_lt hlt)]
  exact Heap.get?_push_of_some _ e
def rSortRD (K : PySem.W.Frag) (w : World) : List V → Hp → VK → Prop := fun xs H Q => ∃ mu fz a es ds, ∃ rs : List (List Int), xs = [.ref a] ∧ Lk fz H a (dictO w a es) ∧ Rdt K mu H ds es ∧ ds.map (·.1) = rs.map rowD ∧ rowsOk rs = true ∧
  ∀ (L : List AR) (p : Addr), L.map (·.2) = sortR rs → (∀ p ∈ L, SqT K H p.1 (p.2.map V.int)) → H p = none → Q (.ref p) (upd H p (.lst (L.map fun p => V.ref p.1)))
theorem row_v {ns : List Int} {v : V} (h : Rv K mu H (rowD ns) v) : ∃ a, v = .ref a ∧ SqT K H a (ns.map V.int) := by
  obtain ⟨a, vs, rfl, h1, h2⟩ := h
  have e := h2.ints
  subst e
  exact ⟨a, rfl, h1⟩
theorem rows_v : ∀ {rs : List (List Int)} {vs : List V}, Rvs K mu H (rs.map rowD) vs → ∃ L : List AR, vs = L.map (fun p => V.ref p.1) ∧ (∀ p ∈ L, SqT K H p.1 (p.2.map V.int)) ∧ L.map (·.2) = rs
  | [], _, h => ⟨[], h, (fun p hp => nomatch hp), rfl⟩
  | ns :: rs, _, ⟨v, vs, e, h, t⟩ => by
    subst e
    obtain ⟨a, rfl, h1⟩ := row_v h
    obtain ⟨L, e1, e2, e3⟩ := rows_v t
    refine ⟨(a, ns) :: L, by rw [e1]; rfl, fun p hp => ?_, by rw [List.map_cons, e3]⟩
    rcases List.mem_cons.mp hp with z | z
    · subst z; exact h1
    · exact e2 p z
theorem rows_back : ∀ (L : List AR), (∀ p ∈ L, SqT K H p.1 (p.2.map V.int)) → Rvs K mu H ((L.map (·.2)).map rowD) (L.map fun p => V.ref p.1)
  | [], _ => rfl
  | p :: L, h => ⟨_, _, rfl, ⟨p.1, _, rfl, h p List.mem_cons_self, Rvs.of_ints _⟩, rows_back L fun q hq => h q (List.mem_cons_of_mem _ hq)⟩
theorem call_sortRD {X : Cx} {w : World} (hc : X.calm = true) : CallR X (.builtin "sorted") (rSortRD X.K w) := fun pins s σ H xs us Q I r ⟨mu, fz, a, es, ds, rs, ex, e, rd, ek, hok, q⟩ => by
  subst ex
  obtain ⟨u, rfl, rx⟩ := vals1 r
  cases rx
  obtain ⟨vs, z1, z2⟩ := rdt_kvs rd
  rw [ek] at z2
  obtain ⟨L0, e1, e2, e3⟩ := rows_v z2
  subst e1
  have hl : rs.length = es.length := by
    have := z1.length
    have h3 := congrArg List.length e3
    simp only [List.length_map] at this h3
    omega
  refine sortedR_any (ks := rs) (by rw [hl]; exact (lk_get I e).len) hok (fun R hR => kdu_keys hc I e fun s1 I1 => ?_) q
  rw [refs_of_vals z1]
  exact hR L0 s1 I1 e2 (by rw [e3])
abbrev rSortedAll (K : PySem.W.Frag) (w : World) : List V → Hp → VK → Prop := fun xs H Q => rSortDI K w xs H Q ∨ rSortedI K xs H Q ∨ rSortRL K xs H Q ∨ rSortRD K w xs H Q
theorem call_sortedAll {X : Cx} {w : World} (hc : X.calm = true) : CallR X (.builtin "sorted") (rSortedAll X.K w) := (call_sortDI hc).or (cr_sortedI.or (call_sortRL.or (call_sortRD hc)))
theorem ok1_sorted : Ok1 K CL (rSortedAll K CL.w) bSorted := fun W σ mu H M x v Q R hx p => by
  have fin : ∀ rs, Pst K CL W σ mu H (.ok (.o (.lst ((sortR rs).map rowD))) M) (fun z _ mu' H' => ∀ w, Rr K CL mu' H' H z w → Q w H') → ∀ (L : List AR) (q : Addr), L.map (·.2) = sortR rs → (∀ p ∈ L, SqT K H p.1 (p.2.map V.int)) → H q = none → Q (.ref q) (upd H q (.lst (L.map fun p => V.ref p.1))) := fun rs p L q e hT n => by
    have := rows_back (mu := mu) L hT
    rw [e] at this
    exact end_lst R p this q n
  unfold bSorted at p
  split at p
  · rename_i kvs e
    obtain ⟨fz, a, xs, rfl, h1, h2⟩ := dicOf_ok R hx e
    split at p
    · rename_i ns e2
      refine .inl ⟨mu, fz, a, xs, kvs, ns, rfl, h1, h2, asInts_eq e2, fun ys q hp hs n => ?_⟩
      rw [sorted_one (hp.trans (sortI_perm ns).symm) hs (sortI_sorted ns)]
      exact end_lst R p (Rvs.of_ints _) q n
    · split at p
      · rename_i rs e2
        split at p
        · rename_i hok
          exact .inr (.inr (.inr ⟨mu, fz, a, xs, kvs, rs, rfl, h1, h2, asRows_eq e2, hok, fin rs p⟩))
        · exact bad_end p
      · exact bad_end p
  · split at p
    · rename_i ds e
      obtain ⟨a, vs, rfl, h1, h2⟩ := lstOf_ok R hx e
      split at p
      · rename_i ns e2
        rw [asInts_eq e2] at h2
        have e3 := h2.ints
        subst e3
        refine .inr (.inl ⟨a, ns, rfl, h1, fun ys q hp hs n => ?_⟩)
        rw [sorted_one (hp.trans (sortI_perm ns).symm) hs (sortI_sorted ns)]
        exact end_lst R p (Rvs.of_ints _) q n
      · split at p
        · rename_i rs e2
          split at p
          · rename_i hok
            rw [asRows_eq e2] at h2
            obtain ⟨L0, e3, e4, e5⟩ := rows_v h2
            subst e3
            subst e5
            exact .inr (.inr (.inl ⟨a, L0, rfl, h1, e4, hok, fin _ p⟩))
          · exact bad_end p
        · exact bad_end p
    · exact bad_end p

/-! ### isinstance -/
def Ty.nm : Ty → String
  | .tuple => "tuple"
  | .bool => "bool"
  | .int => "int"
  | .list => "list"
  | .str => "str"
  | .dict => "dict"
theorem tyx_seqL {a : Addr} {vs : List V} (h : SqL K H a vs) : TyX K H (.ref a) (.type "list") := by
  rcases h with (h | ⟨o, h⟩) | ⟨o, its, n, e, c, _⟩
  · exact .base (.lst h)
  · exact .base (.frz h)
  · exact .kList e c
theorem tyx_seqT {a : Addr} {vs : List V} (h : SqT K H a vs) : TyX K H (.ref a) (.type "tuple") := by
  rcases h with (h | ⟨o, h⟩) | ⟨o, its, n, e, c, _⟩
  · exact .base (.tup h)
  · exact .fTuple h
  · exact .kTuple e c
/-- what is a dict of ours, too -/
def TyY (K : PySem.W.Frag) (w : World) (H : Hp) (v : V) (n : String) : Prop := TyX K H v (.type n) ∨ (n = "dict" ∧ ∃ fz a xs, v = .ref a ∧ Lk fz H a (dictO w a xs))
theorem kit_ofY {X : Cx} {pins : List (Addr × Obj)} {σ : Sg} {H : Hp} {s : Shared} {w : World} {x : V} {u : Value} {n : String} (I : Inv X pins σ H s) (rx : RelV x u) (ty : TyY X.K w H x n) : ∃ P : Heap → Prop, PySem.W.KitX X.K u (.type n) P ∧ P s.heap ∧ u ≠ .builtin "__main__.__loader__#opaque" := by
  rcases ty with ty | ⟨rfl, fz, a, xs, rfl, e⟩
  · exact kit_of I rx ty
  · cases rx
    obtain ⟨⟨o, en, ep, h1, h2, _⟩, _⟩ := lk_get I e
    exact ⟨_, PySem.W.kitx_dict, ⟨o, h1, h2.1⟩, fun z => nomatch z⟩
def rIsiY (K : PySem.W.Frag) (w : World) : List V → Hp → VK → Prop := fun xs H Q => ∃ (x c : V) (n : String) (u : Value) (b : Bool), xs = [x, c] ∧ ClsV c u ∧ TyY K w H x n ∧ PySem.W.kitOne K (.type n) u = some b ∧ Q (.bl b) H
theorem call_isiY {X : Cx} {w : World} : CallR X (.builtin "isinstance") (rIsiY X.K w) := by
  intro pins s σ H xs us Q I r h
  obtain ⟨x, c, n, u, b, rfl, k, ty, e, q⟩ := h
  obtain ⟨u1, u2, rfl, r1, r2⟩ := vals2 r
  have e2 := k.eq r2
  subst e2
  obtain ⟨P, Z, p, hx⟩ := kit_ofY I r1 ty
  exact PySem.W.kia_one Z I.kIn p e hx fun tk => ⟨.bl b, H, I.tok tk, rfl, q⟩
theorem isTy_ok {t : Ty} {x : RV} {v : V} {b : Bool} (R : Rm K CL mu H M) (h : Rw K CL mu H x v) (e : isTy t x M = some b) : ∃ n, TyY K CL.w H v n ∧ kitB n t.nm = some b := by
  unfold isTy at e
  split at e <;> first | cases e | skip
  · rw [show v = V.non from h]
    refine ⟨_, .inl (.base .non), ?_⟩
    cases t <;> decide +kernel
  · rw [show v = V.bl _ from h]
    refine ⟨_, .inl (.base (.bl _)), ?_⟩
    cases t <;> decide +kernel
  · rw [show v = V.int _ from h]
    refine ⟨_, .inl (.base (.int _)), ?_⟩
    cases t <;> decide +kernel
  · rw [show v = V.str _ from h]
    refine ⟨_, .inl (.base (.str _)), ?_⟩
    cases t <;> decide +kernel
  · obtain ⟨a, vs, rfl, h1, h2⟩ := h
    refine ⟨_, .inl (tyx_seqT h1), ?_⟩
    cases t <;> decide +kernel
  · obtain ⟨a, vs, rfl, h1, h2⟩ := h
    refine ⟨_, .inl (tyx_seqL h1.sq), ?_⟩
    cases t <;> decide +kernel
  · obtain ⟨a, h1, rfl⟩ := h
    split at e
    · rename_i ds q
      cases e
      obtain ⟨vs, h3, h4⟩ := R.ob _ a _ h1 q
      refine ⟨_, .inl (.base (.lst h3)), ?_⟩
      cases t <;> decide +kernel
    · rename_i fz ds q
      cases e
      obtain ⟨vs, h3, h4⟩ := R.ob _ a _ h1 q
      refine ⟨_, .inr ⟨rfl, fz, a, vs, rfl, h3⟩, ?_⟩
      cases t <;> decide +kernel
    · cases e
  · obtain ⟨a, rfl, ⟨vs, h3, h4⟩, _⟩ := h
    refine ⟨_, .inl (.base (.lst h3)), ?_⟩
    cases t <;> decide +kernel
  · obtain ⟨a, rfl, ⟨vs, h3, h4⟩, _⟩ := h
    refine ⟨_, .inr ⟨rfl, _, a, vs, rfl, h3⟩, ?_⟩
    cases t <;> decide +kernel
end
section
variable {X : Cx} {CL : CLs} {cl : Cl} {a b c : Expr} {rest : List Expr} {es : List Expr} {sa sb sc : SE} {ta tb tc : STt} {as : SDs} {pos p0 : Pos}
theorem snd_isi {T : Str} {q : Pos} {t : Ty} (ha : SndE X CL cl a sa) (hg : Gl X "isinstance") (hm : X.mg "isinstance" = none) (hgT : Gl X T) (hmT : X.mg T = none) (hvT : bootBuiltins T = some (.type t.nm)) (hnT : T ≠ "__name__") (hdT : (T == ("__debug__" : Str)) = false)
    (hst : starEach [a, .Name T q] X.env = (false, eval a X.env) :: starEach [.Name T q] X.env) : SndE X CL cl (.Call (.Name "isinstance" p0) [a, .Name T q] [] pos) (e1 (bIsi t) sa) := fun W tk => by
  refine pe_imp (pe_callB (call_isiY (w := CL.w)) hg hm PyProof.Rows.boot_isinstance (pa_cons (ha W tk) (pa_cons (pe_bltn (v := .ty t.nm) hgT hmT hvT rfl hnT hdT) pa_nil rfl) hst) (by decide) (by decide) hst rfl) fun σ H Q h => ?_
  obtain ⟨mu, r, M, hm, hs, p⟩ := h
  refine rE_then hm hs p fun x v M1 mu1 H1 n1 h1 p1 => ?_
  unfold bIsi at p1
  split at p1
  · rename_i k e
    obtain ⟨n, h2, h3⟩ := isTy_ok n1.rm h1.w e
    exact ⟨v, .ty t.nm, _, _, k, rfl, .ty _, h2, kit_ty h3, end_d n1.rm (p1.rb n1) rfl⟩
  · exact bad_end p1

/-! ### calls of our own functions -/
/-- a function's promise: what cl says of it -/
def spOf (K : PySem.W.Frag) (CL : CLs) (cl : Cl) (f : Str) (ar : Nat) : Sp := fun vs H Q E => vs.length = ar ∧ ∃ mu ds M, Rm K CL mu H M ∧ Rvs K mu H ds vs ∧
  Pst K CL (fun c d _ H' => E c d H') [] mu H (cl f ds M) fun x _ mu' H' => ∀ v, Rr K CL mu' H' H x v → Q v H'
theorem Pst.wish {K : PySem.W.Frag} {CL : CLs} {W W' : WX} {σ σ' : Sg} {mu : List Addr} {H : Hp} {A : Type} {res : Res A} {k : A → Mem → List Addr → Hp → Prop} (h : Pst K CL W σ mu H res k) (q : ∀ c d H', W c d σ H' → W' c d σ' H') : Pst K CL W' σ' mu H res k := by
  cases res with
  | ok x M' => exact h
  | err c M' => exact fun mu' H' C e s R => q _ _ _ (h mu' H' C e s R)
  | bad => exact h
structure FnG (X : Cx) (CL : CLs) (cl : Cl) (k : Nat) (x : Str) (ar : Nat) : Prop where
  ok : ∃ (f : Addr) (fd : FuncData) (ps : List Str), FnOk X.prog X.w X.K X.mg X.base (CX X.prog X.w) k f fd ps (spOf X.K CL cl x ar) ∧ X.mg x = some (.ref f) ∧ PySem.W.keepIn X.K (.ref f) = true ∧ Binds X.K fd ps []
theorem snd_call {k : Nat} {x : Str} {ar : Nat} (F : FnG X CL cl k x ar) (hr : Room k X.A) (hg : Gl X x) (hdb : (x == ("__debug__" : Str)) = false) (h : SndDs X CL cl (a :: es) as) (hal : (a :: es).length = ar)
    (hlen : ∀ r M ds M', as cl r M = .ok ds M' → ds.length = ar)
    (he : starEach (a :: es) X.env = (false, eval a X.env) :: starEach es X.env) (hpl : (backTo pos (starEach es X.env)).any (·.1) = false) : SndE X CL cl (.Call (.Name x p0) (a :: es) [] pos) (eCall x as) := fun W tk => by
  obtain ⟨f, fd, ps, ok, mg, kp, bd⟩ := F.ok
  refine pe_imp (pe_callS (E := WE W) ok hr hg mg kp bd (fun σ => passAt tk σ) (h W tk) hdb he hpl) fun σ H Q h => ?_
  obtain ⟨mu, r, M, hm, hs, p⟩ := h
  cases e : as cl r M with
  | ok ds M' =>
    have hl := hlen r M ds M' e
    refine ⟨mu, r, M, hm, hs, ?_⟩
    have p' : Pst X.K CL W σ mu H (cl x ds M') fun z _ mu' H' => ∀ v, Rr X.K CL mu' H' H z v → Q v H' := by
      simpa only [eCall, e, Res.bind] using p
    rw [e]
    exact fun mu' H' s' R' vs hvs => ⟨hvs.length.symm.trans hl, mu', ds, M', R', hvs, ((p'.from s' R').mono fun z M3 mu3 H3 s3 R3 q w hw => q w (hw.base s' R')).wish fun _ _ _ z => z⟩
  | err c M' =>
    refine ⟨mu, r, M, hm, hs, ?_⟩
    simp only [eCall, e, Res.bind] at p
    rw [e]
    exact p
  | bad => simp only [eCall, e, Res.bind] at p; exact p.elim
end
end MI
end
section
set_option Elab.async false
set_option linter.all false
set_option maxRecDepth 100000
set_option maxHeartbeats 4000000
namespace MI
open PySem PySem.Spec PyProof.Rows L2
/-! ### set(xs) of a list of whole numbers -/
/-- a set as it begins -/
abbrev nset (w : World) : Obj := { cls := .type "set", dict := none, data := .set #[] 0 (.fresh 0 0 (!w.params.followText "set-order")) }
section
variable {P : Program} {w : World} {A : Around} {E : Value → Shared → Prop} {s : Shared}
set_option maxHeartbeats 3200000 in
theorem set_of_list {l : Addr} {items : Array Value} (ns : List Int) {Q : Value → Shared → Prop} (hh : A.handled = none) (hl : s.heap.IsList l items) (hit : IntsAre items.toList ns) (hb : ns.length + 1 < scanBound)
    (h : ∀ (h' : Heap) (tk c : Nat), SetR w h' s.heap.objs.size (fun j => decide (j ∈ ns)) c → c ≤ ns.length → (∀ b o, s.heap.get? b = some o → h'.get? b = some o) → Q (.ref s.heap.objs.size) { s with heap := h', toks := tk }) :
    wpAny (model P w) A (call (.type "set") [.ref l]) Q E s := by
  have hisz : items.size = ns.length := by have q := IntsAre.length hit; rwa [Array.length_toList] at q
  obtain ⟨c, tl, hmro⟩ := F.called_set.mro
  have hmade := F.called_set.made; have hsub := F.called_set.sub
  refine wpAny_call (codeAny_of_tree (show wpAny _ _ (callAny (.type "set") _) _ _ _ from wpAny_pure ⟨Code.quiet_builtin _ (by decide +kernel), codeAny_builtin F.entry_type_call ?_⟩))
  rw [Around.under_plain (weight_type_call_type "set" [.ref l] []) rfl]
  have h1 := F.called_set.notType; have h2 := F.called_set.canCreate; have hct := F.typeCall_set_1 (.ref l)
  repeat (any_goals (first | assumption | wp_step))
  refine codeAny_mono (code_set_led1 (.ref l) (E := E) (Q₁ := fun obj t => obj = .ref s.heap.objs.size ∧ t = { s with heap := s.heap.push (nset w) }) ⟨rfl, rfl⟩) fun r t hr => ?_
  match r, hr with
  | .error e, hr => exact hr
  | .ok .next, hr => exact hr.elim
  | .ok .brk, hr => exact hr.elim
  | .ok .cont, hr => exact hr.elim
  | .ok (.ret obj), hr =>
    obtain ⟨rfl, rfl⟩ := hr
    have hS : (s.heap.push (nset w)).get? s.heap.objs.size = some (nset w) := Heap.get?_push_size _ rfl
    have hT : Shared.TypeIs { s with heap := s.heap.push (nset w) } (.ref s.heap.objs.size) "set" := ⟨_, hS, rfl⟩
    have hli := F.called_set.init.lookup; have hbi := F.called_set.init.bind (.ref s.heap.objs.size)
    repeat (any_goals (first | assumption | wp_step))
    refine codeAny_mono (codeAny_call_builtin (R := wants (fun r t => r = .none ∧ ∃ h' tk c, t = { s with heap := h', toks := tk } ∧ SetR w h' s.heap.objs.size (fun j => decide (j ∈ ns)) c ∧ c ≤ ns.length ∧ ∀ b o, s.heap.get? b = some o → h'.get? b = some o) E)
      F.called_set.init.plain F.entry_set_init (check_set_init_1 hT ?_)) fun r2 t2 hr2 => ?_
    · obtain ⟨⟨oc, od, odt, osl⟩, hol, hcl, nl, hdl⟩ := hl
      simp only at hcl hdl
      subst hcl; subst hdl
      have holP : (s.heap.push (nset w)).get? l = some { cls := .type "list", dict := od, data := .seq items nl, slots := osl } := Heap.get?_push_of_some _ hol
      have hsls := F.sub_list_set; have hslf := F.sub_list_frozenset
      have hne : (Value.type "list" == Value.type "dict") = false := by decide
      have hl1 : (s.heap.push (nset w)).IsList l items := ⟨_, holP, rfl, nl, rfl⟩
      unfold Builtin.«set.__init__» noKeywords Builtin.Frozenset.updateFrom
      generalize hPI : pyIter = PI
      wp_walk
      subst hPI
      refine wpAny_pyIter_list hl1 (wpAny_bind (wpAny_runValue ?_))
      have hlS : l < s.heap.objs.size := Heap.lt_size hol
      have hI : (s.heap.push (nset w)).objs.size = s.heap.objs.size + 1 := Heap.size_push ..
      have hneI : l ≠ (s.heap.push (nset w)).objs.size := by rw [hI]; exact Nat.ne_of_lt (Nat.lt_succ_of_lt hlS)
      have hSf : s.heap.objs.size ∉ [(s.heap.push (nset w)).objs.size, l] := by
        rw [hI]; intro z; simp only [List.mem_cons, List.not_mem_nil, or_false] at z
        rcases z with z | z
        · exact Nat.ne_of_lt (Nat.lt_succ_self _) z
        · exact Nat.ne_of_gt hlS z
      have hval : ∀ (i : Nat) (v : Value), items[i]? = some v → ∃ k t, ns[i]? = some k ∧ v = .int k t := fun i v hv => by
        have hin : i < ns.length := by rw [← hisz]; exact (Array.getElem?_eq_some_iff.mp hv).1
        obtain ⟨t, e⟩ := PyProof.Rows.IntsAre.int_at hit i v (by rw [Array.getElem?_toList]; exact hv)
        exact ⟨ns[i], t, List.getElem?_eq_getElem hin, by rw [e, List.getD_eq_getElem?_getD, List.getElem?_eq_getElem hin]; rfl⟩
      have start : ((s.heap.push (nset w)).push { cls := .type "list_iterator", data := .fields #[.ref l, .int 0 0] }).get? s.heap.objs.size = some (nset w) := Heap.get?_push_of_some _ hS
      refine set_update_ints ((Walks.list (show A.in1.in1.in1.handled = none by simp [hh]) _ l hneI items).toS) s.heap.objs.size hSf ns hisz hb hval (items.size - 0) 0 _ (by omega) (Nat.zero_le _)
        ⟨⟨_, Heap.get?_push_size _ rfl, rfl, rfl⟩, (hl1.push _)⟩ ⟨0, Nat.le_refl 0, setR_new_at start⟩ fun s' c' hm hc' hS' => ?_
      obtain ⟨h', g2, d', tk', os'⟩ := s'
      cases (show g2 = s.gens from hm.gens); cases (show d' = s.drawn from hm.drawn); cases (show os' = s.os from hm.os)
      refine wpAny_pure (show wpAny _ _ (ret Value.none) _ _ _ from wpAny_pure ⟨rfl, h', tk', c', rfl, hS', by rw [← hisz]; exact hc', fun b o e => ?_⟩)
      have hb0 := Heap.lt_size e
      refine hm.heap b o (fun z => ?_) (Heap.get?_push_of_some _ (Heap.get?_push_of_some _ e))
      simp only [List.mem_cons, List.not_mem_nil, or_false, hI] at z
      rcases z with z | z
      · exact Nat.ne_of_lt hb0 z
      · exact Nat.ne_of_lt (Nat.lt_succ_of_lt hb0) z
    · match r2, hr2 with
      | .error e, hr2 => exact hr2
      | .ok .next, hr2 => exact hr2.elim
      | .ok .brk, hr2 => exact hr2.elim
      | .ok .cont, hr2 => exact hr2.elim
      | .ok (.ret r), hr2 =>
        obtain ⟨rfl, h', tk, c', rfl, hS', hc', hk'⟩ := hr2
        repeat (any_goals (first | assumption | wp_step))
        exact h _ _ _ hS' hc' hk'
end
section
variable {X : Cx}
/-- set(a) of a list or a tuple of whole numbers -/
def rSetI (K : PySem.W.Frag) (w : World) : List V → Hp → VK → Prop := fun xs H Q => ∃ (a : Addr) (ns : List Int), xs = [.ref a] ∧ (SqL K H a (ns.map V.int) ∨ SqT K H a (ns.map V.int)) ∧ ns.length + 1 < scanBound ∧
  ∀ p c, H p = none → Q (.ref p) (upd H p (SetO w p (fun j => decide (j ∈ ns)) c))
theorem call_setI (hc : X.calm = true) : CallR X (.type "set") (rSetI X.K X.w) := fun pins s σ H xs us Q I r ⟨a, ns, ex, hq, hb, q⟩ => by
  subst ex
  obtain ⟨u, rfl, rx⟩ := vals1 r
  cases rx
  have fin : ∀ (h' : Heap) (tk c : Nat), SetR X.w h' s.heap.objs.size (fun j => decide (j ∈ ns)) c → c ≤ ns.length → (∀ b o, s.heap.get? b = some o → h'.get? b = some o) → EP X pins σ Q (.ref s.heap.objs.size) { s with heap := h', toks := tk } := fun h' tk c R _ k =>
    ⟨.ref _, _, I.laid (o := SetO X.w s.heap.objs.size (fun j => decide (j ∈ ns)) c) k (Nat.le_refl _) (setO_new R), rfl, q _ c (I.hok.fresh (Nat.le_refl _))⟩
  rcases hq with hq | hq
  · obtain ⟨its, rv, pt, hz⟩ := I.list hq
    exact set_of_list ns (I.ok.hd hc) pt.isList (ints_of_vals rv) hb fin
  · obtain ⟨its, rv, pt, hz⟩ := I.tuple hq
    exact call_set_tupI ns (I.ok.hd hc) (show s.heap.IsTuple a its.toArray from pt) (ints_of_vals rv) hb fin
end
end MI
end
section
set_option Elab.async false
set_option linter.all false
set_option maxRecDepth 100000
/-! MIta: tables of sets of any mask 2^k - 1: each slot is met (number theory of i -> 5 i + 1) -/
namespace MI
open PySem PyProof.Rows
/-- i -> 5 i + 1, so many times, from 0, as a whole number -/
def g5 : Nat → Nat
  | 0 => 0
  | n + 1 => 5 * g5 n + 1
theorem g5_add (b : Nat) : ∀ a, g5 (a + b) = 5 ^ a * g5 b + g5 a
  | 0 => by simp [g5]
  | a + 1 => by
    rw [Nat.add_right_comm]
    show 5 * g5 (a + b) + 1 = 5 ^ (a + 1) * g5 b + (5 * g5 a + 1)
    rw [g5_add b a, Nat.mul_add, Nat.pow_succ, Nat.mul_comm (5 ^ a) 5, Nat.mul_assoc]
    omega
theorem five_odd : ∀ n, 5 ^ n % 4 = 1
  | 0 => rfl
  | n + 1 => by rw [Nat.pow_succ, Nat.mul_mod, five_odd n]
theorem g5_par : ∀ n, g5 n % 2 = n % 2
  | 0 => rfl
  | n + 1 => by
    have := g5_par n
    show (5 * g5 n + 1) % 2 = _
    omega
/-- an odd factor takes no twos away -/
theorem odd_dvd {q : Nat} (hq : q % 2 = 1) : ∀ k x, 2 ^ k ∣ x * q → 2 ^ k ∣ x
  | 0, x, _ => by simp
  | k + 1, x, h => by
    have h2 : 2 ∣ x * q := Nat.dvd_trans ⟨2 ^ k, by rw [Nat.pow_succ, Nat.mul_comm]⟩ h
    have hx : x % 2 = 0 := by
      have e := Nat.mul_mod x q 2
      rw [hq] at e
      have := Nat.mod_eq_zero_of_dvd h2
      omega
    obtain ⟨y, rfl⟩ : ∃ y, x = 2 * y := ⟨x / 2, by omega⟩
    obtain ⟨c, hc⟩ := h
    have : 2 ^ k ∣ y * q := ⟨c, by
      have e : 2 * (y * q) = 2 * (2 ^ k * c) := by rw [← Nat.mul_assoc, hc, Nat.pow_succ]; rw [Nat.mul_comm (2 ^ k) 2, Nat.mul_assoc]
      exact Nat.eq_of_mul_eq_mul_left (by omega) e⟩
    obtain ⟨d, hd⟩ := odd_dvd hq k y this
    exact ⟨d, by rw [hd, Nat.pow_succ, Nat.mul_comm (2 ^ k) 2, Nat.mul_assoc]⟩
theorem g5_two (n : Nat) : g5 (n + n) = g5 n * (5 ^ n + 1) := by rw [g5_add, Nat.mul_add, Nat.mul_comm, Nat.mul_one]
theorem g5_dvd : ∀ k n, 2 ^ k ∣ g5 n → 2 ^ k ∣ n
  | 0, n, _ => by simp
  | k + 1, n, h => by
    have h2 : 2 ∣ g5 n := Nat.dvd_trans ⟨2 ^ k, by rw [Nat.pow_succ, Nat.mul_comm]⟩ h
    have hn : n % 2 = 0 := by rw [← g5_par]; exact Nat.mod_eq_zero_of_dvd h2
    obtain ⟨y, rfl⟩ : ∃ y, n = y + y := ⟨n / 2, by omega⟩
    rw [g5_two] at h
    have f := five_odd y
    obtain ⟨q, hq⟩ : ∃ q, 5 ^ y + 1 = 2 * q := ⟨(5 ^ y + 1) / 2, by omega⟩
    have qo : q % 2 = 1 := by omega
    rw [hq] at h
    obtain ⟨c, hc⟩ := h
    have : 2 ^ k ∣ g5 y * q := ⟨c, by
      have e : 2 * (g5 y * q) = 2 * (2 ^ k * c) := by
        rw [← Nat.mul_assoc, Nat.mul_comm 2 (g5 y), Nat.mul_assoc, hc, Nat.pow_succ, Nat.mul_comm (2 ^ k) 2, Nat.mul_assoc]
      exact Nat.eq_of_mul_eq_mul_left (by omega) e⟩
    obtain ⟨d, hd⟩ := g5_dvd k y (odd_dvd qo k _ this)
    exact ⟨d, by rw [Nat.pow_succ, Nat.mul_comm (2 ^ k) 2, Nat.mul_assoc, ← hd]; omega⟩
theorem g5_round : ∀ k, 2 ^ k ∣ g5 (2 ^ k)
  | 0 => by simp
  | k + 1 => by
    obtain ⟨c, hc⟩ := g5_round k
    have f := five_odd (2 ^ k)
    obtain ⟨q, hq⟩ : ∃ q, 5 ^ 2 ^ k + 1 = 2 * q := ⟨(5 ^ 2 ^ k + 1) / 2, by omega⟩
    have e : 2 ^ (k + 1) = 2 ^ k + 2 ^ k := by rw [Nat.pow_succ]; omega
    rw [e, g5_two, hq, hc]
    exact ⟨c * q, by rw [← Nat.two_mul, Nat.mul_assoc, Nat.mul_left_comm c 2 q, Nat.mul_left_comm (2 ^ k) 2, Nat.mul_assoc]⟩
/-- a mask of ones -/
def Ones (m : Nat) : Prop := ∃ k, m + 1 = 2 ^ k
theorem lcg_g5 (m : Nat) : ∀ n, L2.lcgN m n = g5 n % (m + 1)
  | 0 => by simp [L2.lcgN, g5]
  | n + 1 => by
    show (L2.lcgN m n * 5 + 1) % (m + 1) = (5 * g5 n + 1) % (m + 1)
    rw [lcg_g5 m n, Nat.mul_comm, Nat.add_mod, Nat.mul_mod_mod, ← Nat.add_mod]
theorem lcg_inj {m : Nat} (hm : Ones m) {a b : Nat} (h : a < b) (hb : b ≤ m) : L2.lcgN m a ≠ L2.lcgN m b := fun e => by
  obtain ⟨k, hk⟩ := hm
  rw [lcg_g5, lcg_g5] at e
  obtain ⟨c, hc⟩ : ∃ c, b = a + c := ⟨b - a, by omega⟩
  have d1 : (m + 1) ∣ g5 b - g5 a := Nat.dvd_of_mod_eq_zero (Nat.sub_mod_eq_zero_of_mod_eq e.symm)
  have e2 : g5 b - g5 a = g5 c * 5 ^ a := by rw [hc, g5_add, Nat.mul_comm]; omega
  rw [e2, hk] at d1
  have f := five_odd a
  have d2 := g5_dvd k c (odd_dvd (by omega) k _ d1)
  have := Nat.le_of_dvd (by omega) d2
  omega
theorem lcg_allO {m : Nat} (hm : Ones m) {j : Nat} (hj : j ≤ m) : ∃ b, b ≤ m ∧ L2.lcgN m b = j := by
  apply Classical.byContradiction
  intro no
  have lt : ∀ n, L2.lcgN m n < m + 1 := fun n => by rw [lcg_g5]; exact Nat.mod_lt _ (Nat.succ_pos m)
  have nd : ((List.range (m + 1)).map (L2.lcgN m)).Nodup := by
    unfold List.Nodup
    rw [List.pairwise_map]
    refine List.Pairwise.imp_of_mem (fun {a b} _ hb h => lcg_inj hm h (Nat.le_of_lt_succ (List.mem_range.mp hb))) (List.pairwise_lt_range)
  have hlen := L2.nat_nodup_len _ ((List.range (m + 1)).erase j) nd fun x hx => by
    obtain ⟨n, hn, rfl⟩ := List.mem_map.mp hx
    have hne : L2.lcgN m n ≠ j := fun e => no ⟨n, Nat.le_of_lt_succ (List.mem_range.mp hn), e⟩
    exact (List.mem_erase_of_ne hne).mpr (List.mem_range.mpr (lt n))
  rw [List.length_map, List.length_range, List.length_erase_of_mem (List.mem_range.mpr (Nat.lt_succ_of_le hj)), List.length_range] at hlen
  omega
theorem lcg_back {m : Nat} (hm : Ones m) (n : Nat) : L2.lcgN m (m + 1 + n) = L2.lcgN m n := by
  obtain ⟨k, hk⟩ := hm
  rw [lcg_g5, lcg_g5, Nat.add_comm, g5_add]
  obtain ⟨c, hc⟩ := g5_round k
  rw [← hk] at hc
  rw [hc, Nat.mul_left_comm, Nat.add_comm, Nat.add_mul_mod_self_left]
theorem lcgI_allO {m : Nat} (hm : Ones m) {i j : Nat} (hi : i ≤ m) (hj : j ≤ m) : ∃ k, k ≤ m ∧ L2.lcgI m i k = j := by
  obtain ⟨a, ha, rfl⟩ := lcg_allO hm hi
  obtain ⟨b, hb, rfl⟩ := lcg_allO hm hj
  by_cases c : a ≤ b
  · exact ⟨b - a, by omega, by rw [L2.lcgN_add, show a + (b - a) = b by omega]⟩
  · exact ⟨m + 1 + b - a, by omega, by rw [L2.lcgN_add, show a + (m + 1 + b - a) = m + 1 + b by omega, lcg_back hm]⟩
/-- each slot is met within the search's bound -/
theorem nth_meetsO {m : Nat} (hm : Ones m) (h : Int) {j : Nat} (hj : j ≤ m) : ∃ k, k < 10 * SetTable.turns m ∧ (L2.nth m (L2.runAt m (SetTable.bits h % (m + 1)) (SetTable.bits h)) k).j = j := by
  obtain ⟨r, hr, e⟩ := lcgI_allO hm (L2.runI_le m (SetTable.bits h) 12) hj
  obtain ⟨k, hk, e2⟩ := L2.run_nth m (SetTable.bits h) (12 + r)
  refine ⟨k, by unfold SetTable.turns; omega, ?_⟩
  rw [e2, L2.runI_tail (L2.bits_lt h), ← e]
  rfl
end MI
end
section
set_option Elab.async false
set_option linter.all false
set_option maxRecDepth 100000
/-! MItb: tables of sets of any mask of ones: found again, one put in, laid anew -/
namespace MI
open PySem PyProof.Rows
variable {t : SetTable} {hs : List Int} {m : Nat}
theorem way_in (m : Nat) (h : Int) (k : Nat) : L2.way m h k ≤ m := by
  have h0 : SetTable.bits h % (m + 1) ≤ m := by have := Nat.mod_lt (SetTable.bits h) (show 0 < m + 1 by omega); omega
  have b := L2.runEnd_bd h0
  have := L2.nth_in (m := m) k (L2.runAt m (SetTable.bits h % (m + 1)) (SetTable.bits h)) (by show SetTable.bits h % (m + 1) + (SetTable.runEnd m (SetTable.bits h % (m + 1)) - SetTable.bits h % (m + 1)) ≤ m; omega)
  show (L2.nth m _ k).j ≤ m
  omega
/-- the slots up to the k-th step of a hash's way are taken -/
def TakenTo (t : SetTable) (h : Int) (k : Nat) : Prop := ∀ k', k' < k → L2.way t.mask h k' ∈ t.place.toList
/-- each entry's slot is on its hash's way, all ahead of it taken -/
structure TabO (t : SetTable) (hs : List Int) : Prop where
  ris : L2.Ris t.place.toList
  dm : t.dummies = #[]
  sz : t.place.toList.length = hs.length
  ones : Ones t.mask
  bd : ∀ x ∈ t.place.toList, x ≤ t.mask
  reach : ∀ (i : Nat) (h : Int) (j : Nat), hs[i]? = some h → t.place.toList[i]? = some j → ∃ k, L2.way t.mask h k = j ∧ TakenTo t h k
/-- a first free step of a way -/
theorem TabO.first (T : TabO t hs) (hl : hs.length ≤ t.mask) (h : Int) : ∃ K, K < 10 * SetTable.turns t.mask ∧ L2.way t.mask h K ∉ t.place.toList ∧ TakenTo t h K := by
  obtain ⟨j, hj, hn⟩ := L2.st_missing t.place.toList (t.mask + 1) (by rw [T.sz]; omega)
  obtain ⟨k, hk, e⟩ := nth_meetsO T.ones h (Nat.le_of_lt_succ hj)
  obtain ⟨K, a, b, c⟩ := L2.st_least (p := fun k => L2.way t.mask h k ∉ t.place.toList) k (fun z => hn (by rw [← e]; exact z))
  exact ⟨K, by omega, b, fun k' hk' => Classical.byContradiction fun z => c k' hk' z⟩
theorem TabO.before (T : TabO t hs) {h : Int} {K i j : Nat} (hK : L2.way t.mask h K ∉ t.place.toList) (hi : hs[i]? = some h) (hj : t.place.toList[i]? = some j) : ∃ k, k < K ∧ L2.way t.mask h k = j := by
  obtain ⟨k, e, tk⟩ := T.reach i h j hi hj
  by_cases c : k < K
  · exact ⟨k, c, e⟩
  · by_cases d : k = K
    · rw [← d, e] at hK
      exact absurd (List.mem_of_getElem? hj) hK
    · exact absurd (tk K (by omega)) hK
/-- one put in at the first free step of its way -/
theorem TabO.put (T : TabO t hs) {h : Int} {K j p : Nat} (ej : L2.way t.mask h K = j) (ep : SetTable.below t.place j = p) (hK : j ∉ t.place.toList) (tk : TakenTo t h K) :
    p ≤ hs.length ∧ TabO (t.put j).1 (hs.take p ++ h :: hs.drop p) ∧ (t.put j).1.fill = hs.length + 1 := by
  have cut := (L2.below_cut T.ris j).1
  rw [ep] at cut
  have hp : p ≤ hs.length := by rw [← T.sz, Array.length_toList]; exact cut
  have hp2 : p ≤ t.place.toList.length := by rw [T.sz]; exact hp
  have pl : (t.put j).1.place.toList = t.place.toList.take p ++ j :: t.place.toList.drop p := by rw [L2.put_place, ep]
  have dm := L2.put_dm T.dm j
  have mono : ∀ {h' : Int} {k : Nat}, TakenTo t h' k → TakenTo (t.put j).1 h' k := fun tk' k' hk' => by
    rw [pl]; exact L2.mem_ins.2 (.inr (tk' k' hk'))
  have ll : (t.put j).1.place.toList.length = hs.length + 1 := by rw [pl, L2.len_ins _ hp2, T.sz]
  refine ⟨hp, ⟨?_, dm, by rw [ll, L2.len_ins _ hp], T.ones, fun x hx => ?_, fun i h' j' a b => ?_⟩, ?_⟩
  · refine L2.ris_insert T.ris fun e => hK ?_
    exact List.mem_of_getElem? (by rw [Array.getElem?_toList]; exact e)
  · rw [pl] at hx
    rcases L2.mem_ins.1 hx with rfl | z
    · rw [← ej]; exact way_in _ _ _
    · exact T.bd x z
  · rw [L2.tins_get hs hp] at a
    rw [pl, L2.tins_get _ hp2] at b
    rcases Nat.lt_trichotomy i p with c | c | c
    · rw [if_pos c] at a b
      obtain ⟨k, e, z⟩ := T.reach i h' j' a b
      exact ⟨k, e, mono z⟩
    · rw [if_neg (by omega), if_pos c] at a b
      injection a with a
      injection b with b
      subst a
      subst b
      exact ⟨K, ej, mono tk⟩
    · rw [if_neg (by omega), if_neg (by omega)] at a b
      obtain ⟨k, e, z⟩ := T.reach (i - 1) h' j' a b
      exact ⟨k, e, mono z⟩
  · show (t.put j).1.place.size + (t.put j).1.dummies.size = _
    rw [dm, ← Array.length_toList, ll]; rfl
/-! ### laid anew -/
/-- a free slot is found where a way first meets one -/
theorem free_findO (hm : Ones m) (owner : Array (Option Nat)) (h : Int) {j : Nat} (hj : j ≤ m) (hf : L2.oAt owner j = none) :
    ∃ K, SetTable.layClean.free m owner (SetTable.turns m) (SetTable.bits h % (m + 1)) (SetTable.bits h) = some (L2.way m h K) ∧ L2.oAt owner (L2.way m h K) = none ∧ ∀ k, k < K → L2.oAt owner (L2.way m h k) ≠ none := by
  obtain ⟨r, hr, e⟩ := lcgI_allO hm (L2.runI_le m (SetTable.bits h) 12) hj
  rw [← L2.runI_tail (L2.bits_lt h)] at e
  have e2 : L2.way m h (L2.off m (SetTable.bits h % (m + 1)) (SetTable.bits h) (12 + r)) = j := by
    show (L2.nth m _ _).j = j
    rw [L2.nth_off, L2.itL_run]
    exact e
  obtain ⟨K, a, b, c⟩ := L2.st_least (p := fun k => L2.oAt owner (L2.way m h k) = none) _ (show L2.oAt owner (L2.way m h (L2.off m (SetTable.bits h % (m + 1)) (SetTable.bits h) (12 + r))) = none by rw [e2]; exact hf)
  refine ⟨K, L2.free_spec m owner (SetTable.turns m) (12 + r) _ _ K (by unfold SetTable.turns; omega) a (fun k hk => ?_) ?_, b, c⟩
  · have := c k hk
    cases z : L2.oAt owner (L2.nth m (L2.runAt m (SetTable.bits h % (m + 1)) (SetTable.bits h)) k).j with
    | none => exact absurd z this
    | some _ => rfl
  · have b' : L2.oAt owner (L2.nth m (L2.runAt m (SetTable.bits h % (m + 1)) (SetTable.bits h)) K).j = none := b
    rw [b']; rfl
theorem own_step (hm : Ones m) {done : List Int} {owner : Array (Option Nat)} (W : L2.Own m done owner) (hl : done.length ≤ m) (h : Int) :
    ∃ j, SetTable.layClean.free m owner (SetTable.turns m) (SetTable.bits h % (m + 1)) (SetTable.bits h) = some j ∧ L2.Own m (done ++ [h]) (owner.setIfInBounds j (some done.length)) := by
  obtain ⟨ps, lp, inp⟩ := W.ps
  obtain ⟨j0, h0, n0⟩ := L2.st_missing ps (m + 1) (by omega)
  have f0 : L2.oAt owner j0 = none := Classical.byContradiction fun z => n0 (inp j0 (by omega) z)
  obtain ⟨K, fr, fk, tk⟩ := free_findO hm owner h (show j0 ≤ m by omega) f0
  have wm := way_in m h K
  generalize ew : L2.way m h K = w at fr fk wm
  have ws : w < owner.size := by rw [W.sz]; omega
  have sf := L2.oAt_set_self (some done.length) ws
  have ot : ∀ {i : Nat}, i ≠ w → L2.oAt (owner.setIfInBounds w (some done.length)) i = L2.oAt owner i := fun {i} hi => L2.oAt_set_ne _ hi
  have up : ∀ i, L2.oAt owner i ≠ none → L2.oAt (owner.setIfInBounds w (some done.length)) i ≠ none := fun i hi => by
    by_cases c : i = w
    · rw [c, sf]; exact nofun
    · rw [ot c]; exact hi
  refine ⟨w, fr, by rw [Array.size_setIfInBounds]; exact W.sz, ?_, ?_, w :: ps, by simp [lp], ?_⟩
  · intro j k hj e
    by_cases c : j = w
    · rw [c, sf] at e
      injection e with e
      exact ⟨h, K, by rw [← e]; simp, by rw [ew, c], fun k' hk' => up _ (tk k' hk')⟩
    · rw [ot c] at e
      obtain ⟨h', K', a, b, d⟩ := W.at_ j k hj e
      exact ⟨h', K', by rw [List.getElem?_append_left (List.getElem?_eq_some_iff.mp a).1]; exact a, b, fun k' hk' => up _ (d k' hk')⟩
  · intro k hk
    by_cases c : k = done.length
    · exact ⟨w, wm, by rw [c]; exact sf⟩
    · obtain ⟨j, hj, e⟩ := W.all k (by rw [List.length_append, List.length_singleton] at hk; omega)
      exact ⟨j, hj, by rw [ot fun z => by rw [z, fk] at e; cases e]; exact e⟩
  · intro j hj e
    by_cases c : j = w
    · rw [c]; exact List.mem_cons_self
    · rw [ot c] at e; exact List.mem_cons_of_mem _ (inp j hj e)
theorem lay_all (hm : Ones m) : ∀ (rest done : List Int) (owner : Array (Option Nat)), L2.Own m done owner → done.length + rest.length ≤ m → ∃ ow, rest.foldl (L2.stepF m) (some (owner, done.length)) = some (ow, (done ++ rest).length) ∧ L2.Own m (done ++ rest) ow := by
  intro rest
  induction rest with
  | nil => intro done owner W _; exact ⟨owner, by simp, by simpa using W⟩
  | cons h rest ih =>
    intro done owner W hl
    rw [List.length_cons] at hl
    obtain ⟨j, e, W2⟩ := own_step hm W (by omega) h
    obtain ⟨ow, f, W3⟩ := ih (done ++ [h]) _ W2 (by rw [List.length_append, List.length_singleton]; omega)
    refine ⟨ow, ?_, by simpa using W3⟩
    rw [List.foldl_cons, L2.stepF_some e]
    simpa using f
theorem lay_clean (hm : Ones m) {hs : Array Int} (hn : hs.size ≤ m) : ∃ owner, SetTable.layClean m hs = some owner ∧ L2.Own m hs.toList owner := by
  obtain ⟨ow, f, W⟩ := lay_all hm hs.toList [] _ (L2.Own.init m) (by simpa using hn)
  refine ⟨ow, ?_, by simpa using W⟩
  rw [L2.layClean_eq]
  have f' : hs.toList.foldl (L2.stepF m) (some (Array.replicate (m + 1) none, 0)) = some (ow, ([] ++ hs.toList).length) := f
  rw [f']; rfl
/-- a table laid anew, of a larger mask -/
theorem relaidO (t : SetTable) {hs : Array Int} {wanted M : Nat} (hw : SetTable.sizeAbove wanted - 1 = M) (hM : Ones M) (hn : hs.size ≤ M) :
    ∃ t' order, t.relaid hs wanted = some (t', order) ∧ order.toList.Perm (List.range hs.size) ∧ TabO t' (order.toList.map fun i => hs.getD i 0) ∧ t'.mask = M ∧ t'.led = t.led ∧ t'.plain = t.plain ∧ t'.dummies = #[] := by
  obtain ⟨ow, e, W⟩ := lay_clean hM hn
  have hr : t.relaid hs wanted = some (L2.tabOf t M ow, ((L2.liveOf M ow).map (·.2)).toArray) := by rw [L2.relaid_eq, hw, e]; rfl
  obtain ⟨r1, r2⟩ := L2.ris_live (fun j => ow.getD j none) (List.range (M + 1)) (by unfold L2.Ris; exact List.pairwise_lt_range)
  have r1' : L2.Ris ((L2.liveOf M ow).map (·.1)) := r1
  have r2' : ∀ x ∈ (L2.liveOf M ow).map (·.1), x ∈ List.range (M + 1) := r2
  have mem := fun (j k : Nat) => L2.mem_live W.sz (j := j) (k := k)
  have surj : ∀ k, k < hs.size → k ∈ (L2.liveOf M ow).map (·.2) := fun k hk => by
    obtain ⟨j, a, b⟩ := W.all k (by rw [Array.length_toList]; exact hk)
    exact List.mem_map.mpr ⟨(j, k), (mem j k).2 ⟨a, b⟩, rfl⟩
  have len : (L2.liveOf M ow).length = hs.size := by
    obtain ⟨ps, p1, p2⟩ := W.ps
    have nd : ((L2.liveOf M ow).map (·.1)).Nodup := r1'.imp fun h => Nat.ne_of_lt h
    have a := L2.nat_nodup_len ((L2.liveOf M ow).map (·.1)) ps nd fun x hx => by
      obtain ⟨⟨y, k⟩, hq, rfl⟩ := List.mem_map.mp hx
      obtain ⟨b1, b2⟩ := (mem y k).1 hq
      exact p2 y b1 (by rw [b2]; exact nofun)
    have b := L2.nat_nodup_len (List.range hs.size) _ List.nodup_range fun k hk => surj k (List.mem_range.mp hk)
    have hz : hs.toList.length = hs.size := rfl
    have l1 : ((L2.liveOf M ow).map (·.1)).length = (L2.liveOf M ow).length := List.length_map ..
    have l2 : ((L2.liveOf M ow).map (·.2)).length = (L2.liveOf M ow).length := List.length_map ..
    rw [l1, p1, hz] at a
    rw [List.length_range] at b
    have b' : hs.size ≤ (L2.liveOf M ow).length := by rw [← l2]; exact b
    omega
  refine ⟨_, _, hr, L2.perm_range hs.size _ (by show ((L2.liveOf M ow).map (·.2)).length = _; rw [List.length_map]; exact len) surj, ⟨r1', rfl, ?_, hM, fun x hx => by have := List.mem_range.mp (r2' x hx); show x ≤ M; omega, ?_⟩, rfl, rfl, rfl, rfl⟩
  · show ((L2.liveOf M ow).map (·.1)).length = (((L2.liveOf M ow).map (·.2)).map _).length
    simp
  · intro i h j a b
    have a' : (((L2.liveOf M ow).map (·.2)).map fun i => hs.getD i 0)[i]? = some h := a
    have b' : ((L2.liveOf M ow).map (·.1))[i]? = some j := b
    rw [List.map_map, List.getElem?_map] at a'
    rw [List.getElem?_map] at b'
    obtain ⟨⟨y, k⟩, hq, rfl⟩ := Option.map_eq_some_iff.mp b'
    rw [hq] at a'
    injection a' with a'
    obtain ⟨b1, b2⟩ := (mem y k).1 (List.mem_of_getElem? hq)
    obtain ⟨h0, K, c1, c2, c3⟩ := W.at_ y k b1 b2
    have eh : h0 = h := by
      rw [← a']
      show h0 = hs.getD k 0
      rw [Array.getD_eq_getD_getElem?, ← Array.getElem?_toList, c1]; rfl
    subst eh
    refine ⟨K, c2, fun k' hk' => ?_⟩
    show L2.way M h0 k' ∈ (L2.liveOf M ow).map (·.1)
    cases z : L2.oAt ow (L2.way M h0 k') with
    | none => exact absurd z (c3 k' hk')
    | some k2 => exact List.mem_map.mpr ⟨(L2.way M h0 k', k2), (mem _ _).2 ⟨way_in _ _ _, z⟩, rfl⟩
/-- the masks that come as a set grows -/
theorem size_ones : ∀ (f s n : Nat), (∃ k, s = 2 ^ k) → ∃ k, SetTable.sizeAbove.go n f s = 2 ^ k
  | 0, s, n, h => h
  | f + 1, s, n, ⟨k, hk⟩ => by
    unfold SetTable.sizeAbove.go
    split
    · exact size_ones f (s * 2) n ⟨k + 1, by rw [hk, Nat.pow_succ]⟩
    · exact ⟨k, hk⟩
theorem above_ones (n : Nat) : Ones (SetTable.sizeAbove n - 1) := by
  obtain ⟨k, hk⟩ := size_ones 64 8 n ⟨3, rfl⟩
  refine ⟨k, ?_⟩
  have : 0 < 2 ^ k := Nat.pow_pos (by omega)
  unfold SetTable.sizeAbove
  omega
theorem go_gt : ∀ (f s n : Nat), n < s * 2 ^ f → n < SetTable.sizeAbove.go n f s
  | 0, s, n, h => by unfold SetTable.sizeAbove.go; simpa using h
  | f + 1, s, n, h => by
    unfold SetTable.sizeAbove.go
    split
    · exact go_gt f (s * 2) n (by rw [Nat.mul_assoc, Nat.mul_comm 2, ← Nat.pow_succ]; exact h)
    · omega
theorem above_gt {n : Nat} (h : n < 2 ^ 64) : n < SetTable.sizeAbove n := go_gt 64 8 n (Nat.lt_of_lt_of_le h (Nat.le_mul_of_pos_left _ (by omega)))
theorem ones_7 : Ones 7 := ⟨3, rfl⟩
end MI
end
section
set_option Elab.async false
set_option linter.all false
set_option maxRecDepth 100000
set_option maxHeartbeats 4000000
/-! MItc: sets of up to 4000 tuples of ints: the search, adding -/
namespace MI
open PySem PySem.Spec PyProof.Rows
/-- the masks that come, up to 4000 members -/
def MaskB (m : Nat) : Prop := m = 7 ∨ m = 31 ∨ m = 127 ∨ m = 511 ∨ m = 2047 ∨ m = 8191
theorem MaskB.ones {m : Nat} (h : MaskB m) : Ones m := by
  rcases h with rfl | rfl | rfl | rfl | rfl | rfl
  · exact ⟨3, rfl⟩
  · exact ⟨5, rfl⟩
  · exact ⟨7, rfl⟩
  · exact ⟨9, rfl⟩
  · exact ⟨11, rfl⟩
  · exact ⟨13, rfl⟩
theorem MaskB.le {m : Nat} (h : MaskB m) : m ≤ 8191 ∧ m % 2 = 1 := by
  rcases h with rfl | rfl | rfl | rfl | rfl | rfl <;> decide
abbrev TH (P : Program) (w : World) (L : List (Addr × List Int)) : List Int := L.map fun p => L2.thash P w p.2
/-- the set at a: L its members, as they lie; fewer than 4000 -/
structure SetG (P : Program) (w : World) (h : Heap) (a : Addr) (L : List (Addr × List Int)) (es : Array (Int × Value)) (ep : Nat) (t : SetTable) : Prop where
  ob : ∃ o, h.get? a = some o ∧ o.ExactSet ∧ o.data = .set es ep t
  rows : es.toList = L2.rowsOf P w L
  tab : TabO t (TH P w L)
  nd : (L.map (·.2)).Nodup
  tup : ∀ p ∈ L, L2.IsT P w h p.2 p.1
  plain : t.plain = true
  led : w.params.followText "set-order" = true ∨ t.led = true
  room : L.length * 5 < t.mask * 3
  few : L.length < 4000
  msk : MaskB t.mask
theorem rows_size {P : Program} {w : World} {L : List (Addr × List Int)} {es : Array (Int × Value)} (h : es.toList = L2.rowsOf P w L) : es.size = L.length := by
  have := congrArg List.length h
  rw [Array.length_toList] at this
  rw [this]
  unfold L2.rowsOf
  exact List.length_map ..
section
variable {P : Program} {w : World} {A : Around} {E : Value → Shared → Prop} {s : Shared} {a : Addr} {L : List (Addr × List Int)} {es : Array (Int × Value)} {ep : Nat} {t : SetTable}
theorem SetG.size (R : SetG P w s.heap a L es ep t) : es.size = L.length := rows_size R.rows
theorem SetG.places (R : SetG P w s.heap a L es ep t) : t.place.toList.length = L.length := by rw [R.tab.sz]; exact List.length_map ..
theorem SetG.fits (R : SetG P w s.heap a L es ep t) : t.fits es.size = true := by
  have h1 : t.place.size = L.length := R.places
  have h2 := R.size
  have h3 := R.room
  unfold SetTable.fits SetTable.fill
  rw [R.tab.dm, Bool.and_eq_true, beq_iff_eq, decide_eq_true_eq]
  exact ⟨by omega, by show t.place.size + 0 ≤ t.mask; omega⟩
theorem SetG.entry (R : SetG P w s.heap a L es ep t) {i : Nat} {p : Addr × List Int} (h : L[i]? = some p) : es[i]? = some (L2.thash P w p.2, Value.ref p.1) := by
  rw [← Array.getElem?_toList, R.rows]
  unfold L2.rowsOf
  rw [List.getElem?_map, h]; rfl
theorem SetG.gw (R : SetG P w s.heap a L es ep t) : ¬ t.gaveWay = true := by
  unfold SetTable.gaveWay
  rw [R.msk.le.2]
  decide
/-- a search from the c-th step of the way on: what has this key lies ahead, before the first free step -/
theorem searchG (R : SetG P w s.heap a L es ep t) {x : Addr} {k : List Int} (hx : L2.IsT P w s.heap k x) (hu : A.units < cLine) {K : Nat} {H : Int} (eH : L2.thash P w k = H) (hKf : K < 10 * SetTable.turns t.mask)
    (hK : L2.way t.mask H K ∉ t.place.toList) (tk : TakenTo t H K) {Q : SetFound → Shared → Prop}
    (hin : k ∈ L.map (·.2) → Q (.there none) s) (hout : k ∉ L.map (·.2) → Q (.free (L2.way t.mask H K) false) s) :
    ∀ (f c : Nat) (stand : Option SetTable.Probe), stand.getD (t.probeStart H) = L2.nth t.mask (L2.runAt t.mask (SetTable.bits H % (t.mask + 1)) (SetTable.bits H)) c → c ≤ K → K - c < f →
      (∀ (i : Nat) p, L[i]? = some p → p.2 = k → ∃ d, c ≤ d ∧ d < K ∧ t.place.toList[i]? = some (L2.way t.mask H d)) →
      wpAny (model P w) A (setSearchFrom a (.ref x) H true f stand) Q E s := by
  obtain ⟨o, ho, hex, hd⟩ := R.ob
  obtain ⟨m, em⟩ : ∃ m, m = t.mask := ⟨_, rfl⟩
  obtain ⟨z, ez⟩ : ∃ z, z = L2.runAt m (SetTable.bits H % (m + 1)) (SetTable.bits H) := ⟨_, rfl⟩
  have wy : ∀ d, L2.way m H d = (L2.nth m z d).j := fun d => by rw [ez]
  have nod : ∀ n, (L2.nth m z n).dummy = none := by
    have adv0 : ∀ p : SetTable.Probe, p.dummy = none → (L2.adv m p).dummy = none := fun p hp => by
      unfold L2.adv
      split
      · exact hp
      · exact hp
    intro n
    induction n with
    | zero => rw [ez]; rfl
    | succ n ih => rw [L2.nth_succ]; exact adv0 _ ih
  intro f
  induction f with
  | zero => intro c stand _ _ h; exact absurd h (Nat.not_lt_zero _)
  | succ f ih =>
    intro c stand hst hc hf ahead
    rw [L2.setSearchFrom_succ]
    refine wpAny_bind (wpAny_setState_of ho hd R.fits ?_)
    dsimp only
    refine L2.wp_if_neg R.gw ?_
    try refine wpAny_bind (wpAny_pure ?_)
    rw [← em] at hst hKf hK hout
    rw [← ez] at hst
    have from_ : ∀ q, L2.nth m (L2.nth m z c) q = L2.nth m z (c + q) := fun q => (L2.nth_add m c z q).symm
    obtain ⟨hashAt, eha⟩ : ∃ g : Nat → Int, g = fun i => (es[i]?.map (·.1)).getD 0 := ⟨_, rfl⟩
    have hA : ∀ i p, L[i]? = some p → hashAt i = L2.thash P w p.2 := fun i p hp => by rw [eha]; show (es[i]?.map (·.1)).getD 0 = _; rw [R.entry hp]; rfl
    have spec := L2.go_spec t R.tab.ris R.tab.dm hashAt H (10 * SetTable.turns t.mask) (K - c) (L2.nth m z c) (nod c) (by rw [← em]; omega)
      (fun q hq => by rw [← em, from_, ← wy, em]; exact tk (c + q) (by omega)) (by rw [← em, from_, show c + (K - c) = K by omega, ← wy, em]; rw [em] at hK; exact hK)
    rw [← em] at spec
    simp only [from_] at spec
    rw [← eha]
    have at_pl : ∀ {d i : Nat}, t.place.toList[i]? = some (L2.way t.mask H d) → t.place.toList[i]? = some (L2.nth m z d).j := fun {d i} h => by rw [h, ← em, wy]
    rcases spec with ⟨q, i, hq, hi, hh, hno, hpr⟩ | ⟨hno, hpr⟩
    · have hpr' : t.probe hashAt H (stand.getD (t.probeStart H)) = some (.candidate (L2.nth m z (c + q)).j i (L2.nth m z (c + (q + 1)))) := by
        rw [hst]
        have e : t.probe hashAt H (L2.nth m z c) = SetTable.probe.go t hashAt H (10 * SetTable.turns t.mask) (L2.nth m z c) := rfl
        rw [e, ← em]
        exact hpr
      rw [hpr']
      dsimp only
      have il : i < L.length := by rw [← R.places]; exact (List.getElem?_eq_some_iff.mp hi).1
      obtain ⟨p, hp⟩ : ∃ p, L[i]? = some p := ⟨_, List.getElem?_eq_getElem il⟩
      have pm := List.mem_of_getElem? hp
      have sl : t.slot (L2.nth m z (c + q)).j = .live i := L2.slot_live R.tab.ris hi
      have rest : wpAny (model P w) A (L2.searchRest a (.ref x) H true f es t (L2.nth m z (c + q)).j i (L2.nth m z (c + (q + 1)))) Q E s := by
        unfold L2.searchRest
        rw [R.entry hp]
        dsimp only
        refine wpAny_bind (wpAny_holding (wpAny_eqBool_tuple hu (R.tup p pm) hx ?_))
        refine wpAny_bind (wpAny_setState_of ho hd R.fits ?_)
        dsimp only
        by_cases e : p.2 = k
        · refine L2.wp_if_pos (by simp [e]) ?_
          exact wpAny_pure (hin (List.mem_map.mpr ⟨p, pm, e⟩))
        · refine L2.wp_if_neg (by simp [e]) ?_
          try refine wpAny_bind (wpAny_pure ?_)
          rw [L2.sameMem]
          dsimp only
          simp only [if_true, sl, R.entry hp]
          refine wpAny_bind (wpAny_isSame_ref_self (wpAny_bind (wpAny_pure ?_)))
          simp only [if_true]
          refine L2.wp_if_neg (by simp [e]) ?_
          refine ih (c + (q + 1)) _ (by rw [← em, ← ez]; rfl) (by omega) (by omega) fun i0 p0 h0 k0 => ?_
          obtain ⟨d, d1, d2, d3⟩ := ahead i0 p0 h0 k0
          refine ⟨d, ?_, d2, d3⟩
          have a0 : hashAt i0 = H := by rw [hA i0 p0 h0, k0, eH]
          by_cases lt : d < c + q
          · exact absurd a0 (hno (d - c) i0 (by omega) (by rw [show c + (d - c) = d by omega]; exact at_pl d3))
          · by_cases eq : d = c + q
            · have s0 := L2.slot_live R.tab.ris (at_pl d3)
              rw [eq, sl] at s0
              injection s0 with s0
              rw [← s0, hp] at h0
              injection h0 with h0
              exact absurd (by rw [h0]; exact k0) e
            · omega
      by_cases hl : t.led = true
      · refine L2.wp_if_neg (by simp [hl]) ?_
        try refine wpAny_bind (wpAny_pure ?_)
        exact rest
      · refine L2.wp_if_pos (by simp [hl]) ?_
        refine wpAny_bind (L2.seen_tup hx (fun y hy => ?_) ?_)
        · obtain ⟨e, he, rfl⟩ := List.mem_map.mp hy
          have he2 : e ∈ es.toList := by
            have : e ∈ es ∧ e.1 = H := by simpa using he
            simpa using this.1
          rw [R.rows] at he2
          obtain ⟨p2, hp2, rfl⟩ := List.mem_map.mp he2
          exact ⟨p2.2, p2.1, rfl, R.tup p2 hp2⟩
        · refine L2.wp_if_neg (by decide) ?_
          try refine wpAny_bind (wpAny_pure ?_)
          exact rest
    · have hpr' : t.probe hashAt H (stand.getD (t.probeStart H)) = some (.empty (L2.way m H K) none) := by
        rw [hst]
        have e : t.probe hashAt H (L2.nth m z c) = SetTable.probe.go t hashAt H (10 * SetTable.turns t.mask) (L2.nth m z c) := rfl
        rw [e, ← em, hpr, wy, show c + (K - c) = K by omega]
      rw [hpr']
      dsimp only
      refine wpAny_pure (hout fun hm => ?_)
      obtain ⟨p0, h0, k0⟩ := List.mem_map.mp hm
      obtain ⟨i0, hi0⟩ := List.getElem?_of_mem h0
      obtain ⟨d, d1, d2, d3⟩ := ahead i0 p0 hi0 k0
      exact hno (d - c) i0 (by omega) (by rw [show c + (d - c) = d by omega]; exact at_pl d3) (by rw [hA i0 p0 hi0, k0, eH])
/-- the search as adding asks for it -/
theorem search_addG (R : SetG P w s.heap a L es ep t) {x : Addr} {k : List Int} (hx : L2.IsT P w s.heap k x) (hu : A.units < cLine) {Q : SetFound → Shared → Prop}
    (hin : k ∈ L.map (·.2) → Q (.there none) s)
    (hout : ∀ K, k ∉ L.map (·.2) → L2.way t.mask (L2.thash P w k) K ∉ t.place.toList → TakenTo t (L2.thash P w k) K → Q (.free (L2.way t.mask (L2.thash P w k) K) false) s) :
    wpAny (model P w) A (setSearch a (.ref x) (L2.thash P w k) true) Q E s := by
  have room := R.room
  obtain ⟨K, kf, kn, kt⟩ := R.tab.first (by show (TH P w L).length ≤ _; unfold TH; rw [List.length_map]; omega) (L2.thash P w k)
  have big : K < 100000 := by
    have := R.msk.le.1
    unfold SetTable.turns at kf
    omega
  unfold setSearch
  refine searchG R hx hu rfl kf kn kt hin (fun hn => hout K hn kn kt) 100000 0 none rfl (Nat.zero_le _) (by omega) fun i p hp hk => ?_
  have hi : (TH P w L)[i]? = some (L2.thash P w k) := by unfold TH; rw [List.getElem?_map, hp, ← hk]; rfl
  have il : i < t.place.toList.length := by rw [R.places]; exact (List.getElem?_eq_some_iff.mp hp).1
  obtain ⟨d, d1, d2⟩ := R.tab.before kn hi (List.getElem?_eq_getElem il)
  exact ⟨d, Nat.zero_le _, d1, by rw [List.getElem?_eq_getElem il, d2]⟩
end
end MI
end
section
set_option Elab.async false
set_option linter.all false
set_option maxRecDepth 100000
set_option maxHeartbeats 4000000
/-! MItd: sets of up to 4000 tuples of ints: one added, the table laid anew -/
namespace MI
open PySem PySem.Spec PyProof.Rows
section
variable {P : Program} {w : World} {A : Around} {E : Value → Shared → Prop} {s : Shared} {a : Addr} {L : List (Addr × List Int)} {es : Array (Int × Value)} {ep : Nat} {t : SetTable}
/-- laid anew, larger -/
theorem relayG {o : Obj} (ho : s.heap.get? a = some o) (hex : o.ExactSet) (hd : o.data = .set es ep t) (hrows : es.toList = L2.rowsOf P w L) (hsz : t.place.size = es.size) (hdm : t.dummies = #[]) (hfl : es.size ≤ t.mask)
    (nd : (L.map (·.2)).Nodup) (tup : ∀ p ∈ L, L2.IsT P w s.heap p.2 p.1) (pl : t.plain = true) (ld : w.params.followText "set-order" = true ∨ t.led = true) (few : L.length < 4000) {wanted M : Nat}
    (hw : SetTable.sizeAbove wanted = M + 1) (hM : MaskB M) (hn : L.length * 5 < M * 3) {Q : Unit → Shared → Prop}
    (hQ : ∀ h' L' es' ep' t', Heap.SameBut a s.heap h' → SetG P w h' a L' es' ep' t' → L'.Perm L → Q () { s with heap := h' }) : wpAny (model P w) A (setRelay a wanted) Q E s := by
  have sl : es.size = L.length := rows_size hrows
  have Mle := hM.le.1
  have fits : t.fits es.size = true := by
    unfold SetTable.fits SetTable.fill
    rw [hdm, Bool.and_eq_true, beq_iff_eq, decide_eq_true_eq]
    exact ⟨hsz, by show t.place.size + 0 ≤ t.mask; omega⟩
  have h1 : (es.map (·.1)).size = L.length := by rw [Array.size_map]; exact sl
  obtain ⟨t2, order, e, pm, T, em, el, ep2, _⟩ := relaidO t (hs := es.map (·.1)) (wanted := wanted) (M := M) (by rw [hw]; rfl) hM.ones (by rw [h1]; omega)
  rw [h1] at pm
  obtain ⟨L2', r1, r2, r3⟩ := L2.order_rows (P := P) (w := w) L es order hrows pm
  rw [← r3] at T
  have s2 : (order.filterMap (es[·]?)).size = L.length := by rw [rows_size r1, r2.length_eq]
  rw [L2.setRelay_eq]
  refine wpAny_bind (wpAny_setState_of ho hd fits ?_)
  dsimp only
  refine L2.wp_if_neg (by rw [sizeLine_eq]; omega) ?_
  try refine wpAny_bind (wpAny_pure ?_)
  rw [e]
  dsimp only
  refine wpAny_bind ?_
  refine L2.wp_if_neg (by rw [s2, sl]; simp) ?_
  try refine wpAny_bind (wpAny_pure ?_)
  refine wpAny_pure ?_
  dsimp only
  refine wpAny_storeSet_of ho hd ?_ (by rw [s2, sizeLine_eq]; omega)
  have sb : Heap.SameBut a s.heap (s.heap.update a (Obj.putSet (order.filterMap (es[·]?)) t2)) := Heap.SameBut.update ..
  refine hQ _ L2' (order.filterMap (es[·]?)) (ep + 1) t2 sb ⟨⟨_, L2.store_at ho hd, ⟨hex.1, hex.2.1, hex.2.2⟩, rfl⟩, r1, T, ?_, fun p hp => L2.isT_same (tup p (r2.mem_iff.mp hp)) ho hd sb, by rw [ep2]; exact pl, by rw [el]; exact ld, ?_, ?_, by rw [em]; exact hM⟩ r2
  · exact (r2.map (·.2)).nodup_iff.mpr nd
  · rw [r2.length_eq, em]; exact hn
  · rw [r2.length_eq]; exact few
theorem grown_sizes : SetTable.sizeAbove (SetTable.grown 5) = 31 + 1 ∧ SetTable.sizeAbove (SetTable.grown 19) = 127 + 1 ∧ SetTable.sizeAbove (SetTable.grown 77) = 511 + 1 ∧ SetTable.sizeAbove (SetTable.grown 307) = 2047 + 1 ∧ SetTable.sizeAbove (SetTable.grown 1229) = 8191 + 1 := by decide +kernel
/-- one added -/
theorem addG (R : SetG P w s.heap a L es ep t) {x : Addr} {k : List Int} (hx : L2.IsT P w s.heap k x) (hu : A.units < cLine) (hfew : L.length + 1 < 4000) {Q : Bool → Shared → Prop}
    (hQ : ∀ b h' L' es' ep' t', Heap.SameBut a s.heap h' → SetG P w h' a L' es' ep' t' → (k ∈ L.map (·.2) → L' = L) → (k ∉ L.map (·.2) → L'.Perm ((x, k) :: L)) → Q b { s with heap := h' }) :
    wpAny (model P w) A (setAddHashed a (.ref x) (L2.thash P w k)) Q E s := by
  obtain ⟨o, ho, hex, hd⟩ := R.ob
  have sz := R.size
  have room := R.room
  obtain ⟨H, eH⟩ : ∃ H, H = L2.thash P w k := ⟨_, rfl⟩
  unfold setAddHashed
  refine wpAny_holding ?_
  rw [show (100000 : Nat) = 99999 + 1 from rfl, L2.setAddHashedIn_succ]
  refine wpAny_bind (wpAny_setState_of ho hd R.fits ?_)
  dsimp only
  refine L2.wp_if_neg (by simp [byScan, Value.scannable]) ?_
  try refine wpAny_bind (wpAny_pure ?_)
  refine wpAny_bind (search_addG R hx hu (fun hm => ?_) fun K hm kn kt => ?_)
  · dsimp only
    exact wpAny_pure (hQ false s.heap L es ep t (Heap.SameBut.refl a s.heap) R (fun _ => rfl) fun z => absurd hm z)
  · dsimp only
    refine wpAny_bind (wpAny_setState_of ho hd R.fits ?_)
    dsimp only
    rw [← eH] at kn kt ⊢
    obtain ⟨j, ej⟩ : ∃ j, j = L2.way t.mask H K := ⟨_, rfl⟩
    obtain ⟨p, epp⟩ : ∃ p, p = SetTable.below t.place j := ⟨_, rfl⟩
    rw [← ej] at kn ⊢
    obtain ⟨q1, q2, q3⟩ := R.tab.put ej.symm epp.symm kn kt
    have e2 : t.put j = ((t.put j).1, p) := by rw [epp]; rfl
    have m1 : (t.put j).1.mask = t.mask := rfl
    have l1 : (t.put j).1.led = t.led := rfl
    have p1 : (t.put j).1.plain = true := R.plain
    rw [e2]
    generalize (t.put j).1 = t1 at q2 q3 m1 l1 p1 ⊢
    dsimp only
    first
      | (refine wpAny_bind ?_; refine L2.wp_if_pos p1 ?_; refine L2.hashBy_tup hx ?_)
      | refine L2.wp_if_pos p1 (wpAny_bind (L2.hashBy_tup hx ?_))
    simp only [if_true]
    obtain ⟨L1, eL1⟩ : ∃ L1, L1 = L.take p ++ (x, k) :: L.drop p := ⟨_, rfl⟩
    have pm : L1.Perm ((x, k) :: L) := by rw [eL1]; exact L2.put_perm L p (x, k)
    have len1 : L1.length = L.length + 1 := pm.length_eq
    have rows1 : (SetTable.insertAt es p (H, Value.ref x)).toList = L2.rowsOf P w L1 := by rw [SetTable.toList_insertAt, eL1, L2.rows_put, R.rows, eH]
    have tab1 : TabO t1 (TH P w L1) := by
      have e : TH P w L1 = (TH P w L).take p ++ H :: (TH P w L).drop p := by unfold TH; rw [eL1, List.map_append, List.map_cons, List.map_take, List.map_drop, eH]
      rw [e]; exact q2
    have lTH : (TH P w L).length = L.length := List.length_map ..
    rw [lTH] at q3
    have nd1 : (L1.map (·.2)).Nodup := (pm.map (·.2)).nodup_iff.mpr (List.nodup_cons.mpr ⟨hm, R.nd⟩)
    have sz1 := rows_size rows1
    generalize SetTable.insertAt es p (H, Value.ref x) = es1 at rows1 sz1 ⊢
    refine wpAny_bind (wpAny_storeSet_of ho hd ?_ (by rw [sz1, len1, sizeLine_eq]; omega))
    have sb : Heap.SameBut a s.heap (s.heap.update a (Obj.putSet es1 t1)) := Heap.SameBut.update ..
    have ho1 := L2.store_at (es' := es1) (t' := t1) ho hd
    generalize s.heap.update a (Obj.putSet es1 t1) = h1 at sb ho1 ⊢
    have tup1 : ∀ p ∈ L1, L2.IsT P w h1 p.2 p.1 := fun p hp => by
      rcases List.mem_cons.mp (pm.mem_iff.mp hp) with rfl | hp
      · exact L2.isT_same hx ho hd sb
      · exact L2.isT_same (R.tup p hp) ho hd sb
    have led1 : w.params.followText "set-order" = true ∨ t1.led = true := by rw [l1]; exact R.led
    by_cases full : t1.tooFull = true
    · first
        | (refine wpAny_bind ?_; refine L2.wp_if_pos (by simp [full]) ?_)
        | (refine L2.wp_if_pos (by simp [full]) ?_; refine wpAny_bind ?_)
      have hfull : (L.length + 1) * 5 ≥ t.mask * 3 := by
        have h := full
        unfold SetTable.tooFull at h
        rw [decide_eq_true_eq, q3, m1] at h
        exact h
      rw [sz]
      have psz : t1.place.size = es1.size := by
        have h : t1.place.toList.length = (TH P w L1).length := tab1.sz
        have h2 : (TH P w L1).length = L1.length := List.length_map ..
        rw [h2, ← sz1] at h
        exact h
      have go : ∀ M, SetTable.sizeAbove (SetTable.grown (L.length + 1)) = M + 1 → MaskB M → (L.length + 1) * 5 < M * 3 → L.length + 1 ≤ t.mask →
          wpAny (model P w) A (setRelay a (SetTable.grown (L.length + 1))) (fun _ s' => wpAny (model P w) A (pure true) Q E s') E { s with heap := h1 } := fun M g1 g2 g3 g4 => by
        refine relayG (s := { s with heap := h1 }) ho1 ⟨hex.1, hex.2.1, hex.2.2⟩ rfl rows1 psz tab1.dm (by rw [sz1, len1, m1]; exact g4) nd1 tup1 p1 led1 (by rw [len1]; exact hfew) g1 g2 (by rw [len1]; exact g3) ?_
        intro h2 L2' es2 ep2 t2 sb2 R2 pm2
        exact wpAny_pure (hQ true h2 L2' es2 ep2 t2 (sb.trans sb2) R2 (fun z => absurd z hm) fun _ => pm2.trans pm)
      obtain ⟨g1, g2, g3, g4, g5⟩ := grown_sizes
      rcases R.msk with e | e | e | e | e | e
      · have n : L.length + 1 = 5 := by omega
        exact go 31 (by rw [n]; exact g1) (.inr (.inl rfl)) (by omega) (by omega)
      · have n : L.length + 1 = 19 := by omega
        exact go 127 (by rw [n]; exact g2) (.inr (.inr (.inl rfl))) (by omega) (by omega)
      · have n : L.length + 1 = 77 := by omega
        exact go 511 (by rw [n]; exact g3) (.inr (.inr (.inr (.inl rfl)))) (by omega) (by omega)
      · have n : L.length + 1 = 307 := by omega
        exact go 2047 (by rw [n]; exact g4) (.inr (.inr (.inr (.inr (.inl rfl))))) (by omega) (by omega)
      · have n : L.length + 1 = 1229 := by omega
        exact go 8191 (by rw [n]; exact g5) (.inr (.inr (.inr (.inr (.inr rfl))))) (by omega) (by omega)
      · omega
    · first
        | refine L2.wp_if_neg (by simp [full]) ?_
        | (refine wpAny_bind ?_; refine L2.wp_if_neg (by simp [full]) ?_; refine wpAny_pure ?_)
      refine wpAny_pure (hQ true h1 L1 es1 (ep + 1) t1 sb ⟨⟨_, ho1, ⟨hex.1, hex.2.1, hex.2.2⟩, rfl⟩, rows1, tab1, nd1, tup1, p1, led1, ?_, by rw [len1]; exact hfew, by rw [m1]; exact R.msk⟩ (fun z => absurd z hm) fun _ => pm)
      have h := full
      unfold SetTable.tooFull at h
      rw [decide_eq_true_eq, q3] at h
      rw [len1]
      omega
theorem SetG.keep {h h' : Heap} (R : SetG P w h a L es ep t) (ha : ∀ o, h.get? a = some o → h'.get? a = some o) (ht : ∀ p ∈ L, L2.IsT P w h' p.2 p.1) : SetG P w h' a L es ep t := by
  obtain ⟨o, ho, r⟩ := R.ob
  exact ⟨⟨o, ha o ho, r⟩, R.rows, R.tab, R.nd, ht, R.plain, R.led, R.room, R.few, R.msk⟩
end
/-- a set as it begins -/
abbrev nsetO (w : World) : Obj := { cls := .type "set", dict := none, data := .set #[] 0 (.fresh 0 0 (!w.params.followText "set-order")) }
theorem setG_fresh {P : Program} {w : World} {h : Heap} {a : Addr} (ho : h.get? a = some (nsetO w)) : SetG P w h a [] #[] 0 (.fresh 0 0 (!w.params.followText "set-order")) where
  ob := ⟨_, ho, ⟨rfl, rfl, rfl⟩, rfl⟩
  rows := rfl
  tab := ⟨List.Pairwise.nil, rfl, rfl, ones_7, nofun, fun i h j hi => by simp at hi⟩
  nd := List.nodup_nil
  tup := nofun
  plain := rfl
  led := by
    show _ ∨ (!w.params.followText "set-order") = true
    cases w.params.followText "set-order"
    · exact .inr rfl
    · exact .inl rfl
  room := by show 0 * 5 < 7 * 3; decide
  few := by show 0 < 4000; decide
  msk := .inl rfl
end MI
end
section
set_option Elab.async false
set_option linter.all false
set_option maxRecDepth 100000
set_option maxHeartbeats 4000000
/-! MIte: set(xs) of up to 4000 tuples of ints -/
namespace MI
open PySem PySem.Spec PyProof.Rows L2
/-- so far: a set of what the first i items are, the ground as it was -/
def SoFar (P : Program) (w : World) (h0 : Heap) (S : Addr) (ks : List (Addr × List Int)) (i : Nat) (h : Heap) : Prop :=
  (∀ b o, h0.get? b = some o → h.get? b = some o) ∧ ∃ L es ep t, SetG P w h S L es ep t ∧ Got ks i L
section
variable {P : Program} {w : World} {A : Around} {E : Value → Shared → Prop} {s : Shared}
/-- set.update's loop over tuples -/
theorem update_rows {I : Addr} {fp wr : List Addr} {G : Array GenState → Array GenState → Prop} {n : Nat} {Pv : Nat → Value → Prop} {St : Nat → Shared → Prop} {R : Result → Shared → Prop}
    (W : WalksS P w A.in1 I fp wr G n Pv St) (S : Addr) (hSf : S ∉ fp) (ks : List (Addr × List Int)) (hn : n = ks.length) (hfew : ks.length < 4000) (hval : ∀ i v, Pv i v → ∃ p, ks[i]? = some p ∧ v = .ref p.1)
    (h0 : Heap) (hk : ∀ p ∈ ks, IsT P w h0 p.2 p.1) (hS0 : h0.get? S = none) (hw0 : ∀ b ∈ wr, h0.get? b = none) (hu : A.in1.units < cLine) :
    ∀ (m i : Nat) (s : Shared), i + m = n → St i s → SoFar P w h0 S ks i s.heap → (∀ s', Moved (S :: wr) G s s' → SoFar P w h0 S ks n s'.heap → R (.ok (.ret .none)) s') → codeAny (model P w) A (.builtin "set.update.loop" ⟨[.ref S, .ref I], []⟩) R s := by
  have Swr : S ∉ wr := fun z => hSf (W.sub _ z)
  have up : ∀ b ∈ wr, b ∈ S :: wr := fun b hb => List.mem_cons_of_mem _ hb
  -- the iterator's step leaves what is so far
  have step : ∀ {i : Nat} {s s' : Shared}, Moved wr G s s' → SoFar P w h0 S ks i s.heap → SoFar P w h0 S ks i s'.heap := fun {i s s'} mv ⟨keep, L, es, ep, t, r, g⟩ => by
    have keep' : ∀ b o, h0.get? b = some o → s'.heap.get? b = some o := fun b o e => mv.heap b o (fun z => by rw [hw0 b z] at e; cases e) (keep b o e)
    exact ⟨keep', L, es, ep, t, r.keep (fun o e => mv.heap S o Swr e) fun p hp => isT_keep (hk p (List.mem_of_mem_take (g.sub p hp))) keep', g⟩
  intro m
  induction m with
  | zero =>
    intro i s hi hst sf hR
    have ei : i = n := by omega
    subst ei
    refine codeAny_builtin F.entry_set_update_loop ?_
    rw [Around.under_plainId F.plain_set_update_loop _]
    show wpAny _ A.in1 (pyNext (.ref I) >>= _) _ _ s
    refine wpAny_bind (W.done s _ _ hst fun s' mv => ?_)
    show wpAny _ A.in1 (ret Value.none) _ _ s'
    exact wpAny_pure (hR s' (mv.mono up) (step mv sf))
  | succ m ih =>
    intro i s hi hst sf hR
    have lt : i < n := by omega
    refine codeAny_builtin F.entry_set_update_loop ?_
    rw [Around.under_plainId F.plain_set_update_loop _]
    show wpAny _ A.in1 (pyNext (.ref I) >>= _) _ _ s
    refine wpAny_bind (W.item i s _ _ lt hst fun v s' hP hst' mv => ?_)
    obtain ⟨p, hp, rfl⟩ := hval i v hP
    obtain ⟨keep, L, es, ep, t, r, g⟩ := step mv sf
    have hx : IsT P w s'.heap p.2 p.1 := isT_keep (hk p (List.mem_of_getElem? hp)) keep
    show wpAny _ A.in1 (holding [Value.ref p.1] (setAdd S (.ref p.1)) >>= _) _ _ s'
    refine wpAny_bind (wpAny_holding ?_)
    unfold setAdd
    refine wpAny_holding ?_
    refine wpAny_bind (wpAny_pyHash_tuple hu hx ?_)
    refine addG (s := { s' with toks := s'.toks + (p.2.length + 1) }) r hx hu (by have := g.len; omega) fun b h' L' es' ep' t' sb r' c1 c2 => ?_
    have other : ∀ b, b ≠ S → h'.get? b = s'.heap.get? b := fun b hb => sb.2 b hb
    have g' : Got ks (i + 1) L' := by
      by_cases c : p.2 ∈ L.map (·.2)
      · rw [c1 c]; exact g.same hp c
      · exact g.more hp (c2 c)
    have sf' : SoFar P w h0 S ks (i + 1) h' := ⟨fun b o e => by rw [other b fun z => by rw [z, hS0] at e; cases e]; exact keep b o e, L', es', ep', t', r', g'⟩
    refine wpAny_pure ⟨plainId_quiet F.plain_set_update_loop _, ih (i + 1) _ (by omega) (W.frame _ s' _ _ hst' (Nat.le_add_right _ _) fun b hb o e => ?_) sf' fun s'' mv2 sf2 => ?_⟩
    · rw [other b fun z => hSf (z ▸ hb)]; exact e
    · refine hR s'' (Moved.trans W.gtrans ((mv.mono up).then_heap (Nat.le_add_right _ _) fun b o hb e => ?_) mv2) sf2
      rw [other b fun z => hb (z ▸ List.mem_cons_self)]; exact e
set_option maxHeartbeats 3200000 in
theorem set_of_rows {l : Addr} {items : Array Value} (ks : List (Addr × List Int)) {Q : Value → Shared → Prop} (hh : A.handled = none) (hl : s.heap.IsList l items) (hit : items.toList = ks.map fun p => Value.ref p.1)
    (hk : ∀ p ∈ ks, IsT P w s.heap p.2 p.1) (hfew : ks.length < 4000) (hu : A.units + 3 < cLine)
    (h : ∀ (h' : Heap) (tk : Nat), SoFar P w s.heap s.heap.objs.size ks ks.length h' → Q (.ref s.heap.objs.size) { s with heap := h', toks := tk }) :
    wpAny (model P w) A (call (.type "set") [.ref l]) Q E s := by
  have hisz : items.size = ks.length := by have q := congrArg List.length hit; rwa [Array.length_toList, List.length_map] at q
  obtain ⟨c, tl, hmro⟩ := F.called_set.mro
  have hmade := F.called_set.made; have hsub := F.called_set.sub
  refine wpAny_call (codeAny_of_tree (show wpAny _ _ (callAny (.type "set") _) _ _ _ from wpAny_pure ⟨Code.quiet_builtin _ (by decide +kernel), codeAny_builtin F.entry_type_call ?_⟩))
  rw [Around.under_plain (weight_type_call_type "set" [.ref l] []) rfl]
  have h1 := F.called_set.notType; have h2 := F.called_set.canCreate; have hct := F.typeCall_set_1 (.ref l)
  repeat (any_goals (first | assumption | wp_step))
  refine codeAny_mono (code_set_led1 (.ref l) (E := E) (Q₁ := fun obj t => obj = .ref s.heap.objs.size ∧ t = { s with heap := s.heap.push (nset w) }) ⟨rfl, rfl⟩) fun r t hr => ?_
  match r, hr with
  | .error e, hr => exact hr
  | .ok .next, hr => exact hr.elim
  | .ok .brk, hr => exact hr.elim
  | .ok .cont, hr => exact hr.elim
  | .ok (.ret obj), hr =>
    obtain ⟨rfl, rfl⟩ := hr
    have hS : (s.heap.push (nset w)).get? s.heap.objs.size = some (nset w) := Heap.get?_push_size _ rfl
    have hT : Shared.TypeIs { s with heap := s.heap.push (nset w) } (.ref s.heap.objs.size) "set" := ⟨_, hS, rfl⟩
    have hli := F.called_set.init.lookup; have hbi := F.called_set.init.bind (.ref s.heap.objs.size)
    repeat (any_goals (first | assumption | wp_step))
    refine codeAny_mono (codeAny_call_builtin (R := wants (fun r t => r = .none ∧ ∃ h' tk, t = { s with heap := h', toks := tk } ∧ SoFar P w s.heap s.heap.objs.size ks ks.length h') E)
      F.called_set.init.plain F.entry_set_init (check_set_init_1 hT ?_)) fun r2 t2 hr2 => ?_
    · obtain ⟨⟨oc, od, odt, osl⟩, hol, hcl, nl, hdl⟩ := hl
      simp only at hcl hdl
      subst hcl; subst hdl
      have holP : (s.heap.push (nset w)).get? l = some { cls := .type "list", dict := od, data := .seq items nl, slots := osl } := Heap.get?_push_of_some _ hol
      have hsls := F.sub_list_set; have hslf := F.sub_list_frozenset
      have hne : (Value.type "list" == Value.type "dict") = false := by decide
      have hl1 : (s.heap.push (nset w)).IsList l items := ⟨_, holP, rfl, nl, rfl⟩
      unfold Builtin.«set.__init__» noKeywords Builtin.Frozenset.updateFrom
      generalize hPI : pyIter = PI
      wp_walk
      subst hPI
      refine wpAny_pyIter_list hl1 (wpAny_bind (wpAny_runValue ?_))
      have hlS : l < s.heap.objs.size := Heap.lt_size hol
      have hI : (s.heap.push (nset w)).objs.size = s.heap.objs.size + 1 := Heap.size_push ..
      have hneI : l ≠ (s.heap.push (nset w)).objs.size := by rw [hI]; exact Nat.ne_of_lt (Nat.lt_succ_of_lt hlS)
      have hSf : s.heap.objs.size ∉ [(s.heap.push (nset w)).objs.size, l] := by
        rw [hI]; intro z; simp only [List.mem_cons, List.not_mem_nil, or_false] at z
        rcases z with z | z
        · exact Nat.ne_of_lt (Nat.lt_succ_self _) z
        · exact Nat.ne_of_gt hlS z
      have hval : ∀ (i : Nat) (v : Value), items[i]? = some v → ∃ p, ks[i]? = some p ∧ v = .ref p.1 := fun i v hv => by
        have q : items.toList[i]? = some v := by rw [Array.getElem?_toList]; exact hv
        rw [hit, List.getElem?_map] at q
        obtain ⟨p, hp, rfl⟩ := Option.map_eq_some_iff.mp q
        exact ⟨p, hp, rfl⟩
      have off : ∀ b, s.heap.objs.size ≤ b → s.heap.get? b = none := fun b hb => by
        cases q : s.heap.get? b with
        | none => rfl
        | some o => exact absurd (Heap.lt_size q) (Nat.not_lt.mpr hb)
      have start : ((s.heap.push (nset w)).push { cls := .type "list_iterator", data := .fields #[.ref l, .int 0 0] }).get? s.heap.objs.size = some (nset w) := Heap.get?_push_of_some _ hS
      refine update_rows ((Walks.list (show A.in1.in1.in1.handled = none by simp [hh]) _ l hneI items).toS) s.heap.objs.size hSf ks hisz hfew hval s.heap hk (off _ (Nat.le_refl _)) (fun b hb => off b (by
          rw [List.mem_singleton.mp hb, hI]; exact Nat.le_succ _)) hu items.size 0 _ (by omega)
        ⟨⟨_, Heap.get?_push_size _ rfl, rfl, rfl⟩, (hl1.push _)⟩ ⟨fun b o e => Heap.get?_push_of_some _ (Heap.get?_push_of_some _ e), [], #[], 0, _, setG_fresh start, Got.zero ks⟩ fun s' hm sf => ?_
      obtain ⟨h', g2, d', tk', os'⟩ := s'
      cases (show g2 = s.gens from hm.gens); cases (show d' = s.drawn from hm.drawn); cases (show os' = s.os from hm.os)
      rw [hisz] at sf
      exact wpAny_pure (show wpAny _ _ (ret Value.none) _ _ _ from wpAny_pure ⟨rfl, h', tk', rfl, sf⟩)
    · match r2, hr2 with
      | .error e, hr2 => exact hr2
      | .ok .next, hr2 => exact hr2.elim
      | .ok .brk, hr2 => exact hr2.elim
      | .ok .cont, hr2 => exact hr2.elim
      | .ok (.ret r), hr2 =>
        obtain ⟨rfl, h', tk, rfl, sf⟩ := hr2
        repeat (any_goals (first | assumption | wp_step))
        exact h _ _ sf
end
/-! ### as a reading -/
/-- the set at a, without the tuples themselves -/
def SetGx (P : Program) (w : World) (h : Heap) (a : Addr) (L : List (Addr × List Int)) : Prop := ∃ (es : Array (Int × Value)) (ep : Nat) (t : SetTable), (∃ o, h.get? a = some o ∧ o.ExactSet ∧ o.data = .set es ep t) ∧
  es.toList = rowsOf P w L ∧ TabO t (TH P w L) ∧ (L.map (·.2)).Nodup ∧ t.plain = true ∧ (w.params.followText "set-order" = true ∨ t.led = true) ∧ L.length * 5 < t.mask * 3 ∧ L.length < 4000 ∧ MaskB t.mask
def SetGO (P : Program) (w : World) (a : Addr) (L : List (Addr × List Int)) : HO := .ext fun h => SetGx P w h a L
theorem SetG.bare {P : Program} {w : World} {h : Heap} {a : Addr} {L : List (Addr × List Int)} {es : Array (Int × Value)} {ep : Nat} {t : SetTable} (R : SetG P w h a L es ep t) : SetGx P w h a L :=
  ⟨es, ep, t, R.ob, R.rows, R.tab, R.nd, R.plain, R.led, R.room, R.few, R.msk⟩
theorem SetGx.full {P : Program} {w : World} {h : Heap} {a : Addr} {L : List (Addr × List Int)} (R : SetGx P w h a L) (ht : ∀ p ∈ L, IsT P w h p.2 p.1) : ∃ es ep t, SetG P w h a L es ep t := by
  obtain ⟨es, ep, t, h1, h2, h3, h4, h5, h6, h7, h8, h9⟩ := R
  exact ⟨es, ep, t, h1, h2, h3, h4, ht, h5, h6, h7, h8, h9⟩
theorem setGO_new {P : Program} {w : World} {H : Hp} {h : Heap} {a : Addr} {L : List (Addr × List Int)} (R : SetGx P w h a L) : ObjOk P w H h a (SetGO P w a L) := by
  have ⟨_, _, _, ⟨o, ho, _⟩, _⟩ := R
  refine ⟨R, ⟨o, ho⟩, fun h1 h2 p k => ?_⟩
  have ⟨es, ep, t, ⟨o', ho', r⟩, q⟩ := (p : SetGx P w h1 a L)
  exact ⟨es, ep, t, ⟨o', k o' ho', r⟩, q⟩
section
variable {X : Cx}
/-- set(a) of a list of tuples of whole numbers -/
def rSetG (K : PySem.W.Frag) (P : Program) (w : World) : List V → Hp → VK → Prop := fun xs H Q => ∃ (l : Addr) (ks : List (Addr × List Int)), xs = [V.ref l] ∧ SqL K H l (ks.map fun p => V.ref p.1) ∧ (∀ p ∈ ks, SqT K H p.1 (p.2.map V.int)) ∧ ks.length < 4000 ∧
  ∀ a L, H a = none → (∀ p ∈ L, p ∈ ks) → (∀ p ∈ ks, p.2 ∈ L.map (·.2)) → Q (.ref a) (upd H a (SetGO P w a L))
theorem call_setG (hc : X.calm = true) (hu : X.A.units + 64 < cLine) : CallR X (.type "set") (rSetG X.K X.prog X.w) := fun pins s σ H xs us Q I r ⟨l, ks, ex, hl, hk, hf, q⟩ => by
  subst ex
  rw [Vals.ref1 r]
  obtain ⟨its, rv, pl, hz⟩ := I.list hl
  refine set_of_rows (P := X.prog) (w := X.w) ks (I.ok.hd hc) pl.isList (by simpa using refs_of_vals rv) (fun p hp => I.isT (hk p hp)) hf (by omega) fun h' tk ⟨keep, L, es, ep, t, R, g⟩ => ?_
  exact ⟨.ref s.heap.objs.size, _, I.laid (t' := tk) keep (Nat.le_refl _) (setGO_new R.bare), rfl, q _ L (I.hok.fresh (Nat.le_refl _)) (fun p hp => List.mem_of_mem_take (g.sub p hp)) fun p hp => g.all p (by rw [List.take_length]; exact hp)⟩
end
end MI
end
section
set_option Elab.async false
set_option linter.all false
set_option maxRecDepth 100000
set_option maxHeartbeats 4000000
namespace MI
open PySem PySem.Spec PyProof.Rows L2
section
variable {X : Cx}
/-- sorted(s) of a set of whole numbers -/
def rSortS (w : World) : List V → Hp → VK → Prop := fun xs H Q => ∃ a S n, xs = [.ref a] ∧ H a = some (SetO w a S n) ∧
  ∀ (ys : List Int) (p : Addr), ys.Pairwise (· < ·) → (∀ k, k ∈ ys ↔ S k = true) → H p = none → Q (.ref p) (upd H p (.lst (ys.map V.int)))
theorem call_sortS (hc : X.calm = true) : CallR X (.builtin "sorted") (rSortS X.w) := fun pins s σ H xs us Q I r ⟨a, S, n, ex, ha, q⟩ => by
  subst ex
  obtain ⟨u, rfl, rx⟩ := vals1 r
  cases rx
  obtain ⟨o, es, ep, t, ho, hex, hd, g, nd, hm, hb, hf, hn, hr, hl⟩ := setO_get I ha
  refine sorted_any (H := H) (ks := es.toList.map L2.keyOf) ?_ (fun R hR => ?_) fun ys p hp hs n => ?_
  · rw [List.length_map, Array.length_toList]
    exact Nat.le_of_lt (Nat.lt_of_lt_of_le hb (by decide))
  · refine collect_set (A := X.A.in1) (I.ok.hd hc) ⟨o, ho, hex.1, hd⟩ hf hb hr hl fun s1 vs k1 _ g1 o1 pm => ?_
    have hI : IntsAre vs (vs.map Builtin.Re.reRawOf) := ints_of vs fun v hv => by
      obtain ⟨e, he, q⟩ := List.mem_map.mp (pm.mem_iff.mp hv)
      obtain ⟨k, tk, h1, _⟩ := g e he
      exact ⟨k, tk, q ▸ h1⟩
    refine hR vs _ s1 (I.call' (ch := []) o1 (Un.kept k1) (I.hok.kept k1) (by rw [g1]; exact I.bare) (fun _ z => nomatch z)) hI ?_
    have z := pm.map Builtin.Re.reRawOf
    rwa [List.map_map] at z
  · refine q ys p (lt_of_le_nodup ys hs (hp.nodup_iff.mpr nd)) (fun k => ?_) n
    rw [hp.mem_iff, ← hm k]
end
section
variable {K : PySem.W.Frag} {CL : CLs} {W : WX} {σ : Sg} {mu mu1 : List Addr} {H H0 H1 : Hp} {M M1 : Mem} {r : Env} {cl : Cl}
theorem dedI_mem (k : Int) : ∀ l : List Int, k ∈ dedI l ↔ k ∈ l
  | [] => .rfl
  | i :: r => by
    unfold dedI
    split
    · rename_i c
      rw [dedI_mem k r, List.mem_cons]
      refine ⟨.inr, fun h => h.elim (fun e => ?_) id⟩
      rw [e]; simpa using c
    · rw [List.mem_cons, List.mem_cons, dedI_mem k r]
theorem dedI_nodup : ∀ l : List Int, (dedI l).Nodup
  | [] => .nil
  | i :: r => by
    unfold dedI
    split
    · exact dedI_nodup r
    · rename_i c
      refine List.nodup_cons.mpr ⟨fun h => c ?_, dedI_nodup r⟩
      simpa using (dedI_mem i r).mp h
theorem strict_one {xs ys : List Int} (h : xs.Pairwise (· < ·)) (h2 : ys.Pairwise (· < ·)) (m : ∀ k, k ∈ xs ↔ k ∈ ys) : xs = ys := by
  have nd : ∀ {l : List Int}, l.Pairwise (· < ·) → l.Nodup := fun h => h.imp fun h => Int.ne_of_lt h
  have p : xs.Perm ys := (List.perm_ext_iff_of_nodup (nd h) (nd h2)).mpr m
  exact sorted_one p (h.imp fun h => Int.le_of_lt h) (h2.imp fun h => Int.le_of_lt h)
theorem sortDed_sorted (l : List Int) : (sortI (dedI l)).Pairwise (· < ·) :=
  lt_of_le_nodup _ (sortI_sorted _) ((sortI_perm _).nodup_iff.mpr (dedI_nodup l))
theorem sortDed_mem (l : List Int) (k : Int) : k ∈ sortI (dedI l) ↔ k ∈ l := by rw [(sortI_perm _).mem_iff, dedI_mem]
end
/-! ### sets of rows -/
theorem dedR_mem (k : List Int) : ∀ l : List (List Int), k ∈ dedR l ↔ k ∈ l
  | [] => .rfl
  | i :: r => by
    unfold dedR
    split
    · rename_i c
      rw [dedR_mem k r, List.mem_cons]
      refine ⟨.inr, fun h => h.elim (fun e => ?_) id⟩
      rw [e]; simpa using c
    · rw [List.mem_cons, List.mem_cons, dedR_mem k r]
theorem dedR_nodup : ∀ l : List (List Int), (dedR l).Nodup
  | [] => .nil
  | i :: r => by
    unfold dedR
    split
    · exact dedR_nodup r
    · rename_i c
      refine List.nodup_cons.mpr ⟨fun h => c ?_, dedR_nodup r⟩
      simpa using (dedR_mem i r).mp h
theorem rowsOk_perm {a b : List (List Int)} (p : a.Perm b) : rowsOk a = rowsOk b := by
  unfold rowsOk
  rw [p.length_eq]
  congr 1
  exact p.all_eq
section
variable {X : Cx}
def rSortST (K : PySem.W.Frag) (P : Program) (w : World) : List V → Hp → VK → Prop := fun xs H Q => ∃ (a : Addr) (L : List AR), xs = [.ref a] ∧ H a = some (SetGO P w a L) ∧ (∀ p ∈ L, SqT K H p.1 (p.2.map V.int)) ∧ ((L.map (·.2)).Nodup → rowsOk (L.map (·.2)) = true) ∧
  ∀ (L' : List AR) (p : Addr), (L.map (·.2)).Nodup → L'.map (·.2) = sortR (L.map (·.2)) → (∀ p ∈ L', SqT K H p.1 (p.2.map V.int)) → H p = none → Q (.ref p) (upd H p (.lst (L'.map fun p => V.ref p.1)))
theorem call_sortST (hc : X.calm = true) : CallR X (.builtin "sorted") (rSortST X.K X.prog X.w) := fun pins s σ H xs us Q I r ⟨a, L, ex, ha, hT, hok, q⟩ => by
  subst ex
  obtain ⟨u, rfl, rx⟩ := vals1 r
  cases rx
  have R0 : SetGx X.prog X.w s.heap a L := (I.hok a _ ha).1
  obtain ⟨es, ep, t, R⟩ := R0.full fun p hp => I.isT (hT p hp)
  have hz : L.length ≤ sizeLine := by have := R.few; rw [sizeLine_eq]; omega
  refine sortedR_any (H := H) (ks := L.map (·.2)) (by rw [List.length_map]; exact hz) (hok R.nd) (fun R2 hR => ?_) fun L' p e1 e2 n => q L' p R.nd e1 e2 n
  obtain ⟨o, ho, hex, hd⟩ := R.ob
  refine collect_set (A := X.A.in1) (I.ok.hd hc) ⟨o, ho, hex.1, hd⟩ R.fits (by have := R.size; have := R.few; unfold scanBound; omega) R.tab.ris R.led fun s1 vs k1 _ g1 o1 pm => ?_
  have hes : es.toList.map (·.2) = L.map fun q => Value.ref q.1 := by
    rw [R.rows]; unfold rowsOf; rw [List.map_map]; rfl
  rw [hes] at pm
  obtain ⟨L1, e1, hs⟩ := refs_ord L vs fun v hv => by
    obtain ⟨p, hp, e⟩ := List.mem_map.mp (pm.mem_iff.mp hv)
    exact ⟨p, hp, e.symm⟩
  have one : ∀ q ∈ L, ∀ r ∈ L, q.1 = r.1 → q = r := fun q hq r hr e => by
    have a1 := R.tup q hq
    have a2 := R.tup r hr
    rw [e] at a1
    exact Prod.ext e (a1.inj a2)
  have nL : L.Nodup := nodup_of_map R.nd
  have nref : (L.map fun q => Value.ref q.1).Nodup := by
    refine List.pairwise_map.mpr (List.Pairwise.imp_of_mem (fun {q r} hq hr hne e => ?_) nL)
    injection e with e
    exact hne (one q hq r hr e)
  have pL : L1.Perm L := by
    rw [e1] at pm
    have n1 : L1.Nodup := nodup_of_map (pm.nodup_iff.mpr nref)
    refine (List.perm_ext_iff_of_nodup n1 nL).mpr fun q => ⟨hs q, fun hq => ?_⟩
    have hm : Value.ref q.1 ∈ L1.map (fun q => Value.ref q.1) := pm.mem_iff.mpr (List.mem_map.mpr ⟨q, hq, rfl⟩)
    obtain ⟨r, hr, e⟩ := List.mem_map.mp hm
    injection e with e
    rw [← one r (hs r hr) q hq e]
    exact hr
  rw [e1]
  exact hR L1 s1 (I.call' (ch := []) o1 (Un.kept k1) (I.hok.kept k1) (by rw [g1]; exact I.bare) (fun _ z => nomatch z)) (fun p hp => hT p (hs p hp)) (pL.map (·.2))
end
section
variable {X : Cx} {CL : CLs} {cl : Cl} {a b c : Expr} {sa sb sc : SE} {pos p0 p1 p2 : Pos}
theorem snd_sortedSet (hc : X.calm = true) (hu : X.A.units + 64 < cLine) (ha : SndE X CL cl a sa) (hg : Gl X "sorted") (hm : X.mg "sorted" = none) (hg2 : Gl X "set") (hm2 : X.mg "set" = none) (hst : starEach [a] X.env = [(false, eval a X.env)]) :
    SndE X CL cl (.Call (.Name "sorted" p0) [.Call (.Name "set" p1) [a] [] p2] [] pos) (e1 bSortedSet sa) := fun W tk => by
  refine pe_imp (pe_callB ((call_sortS hc).or (call_sortST hc)) hg hm PyProof.Rows.boot_sorted (pa_cons (pe_callTy ((call_setI hc).or (call_setG hc hu)) hg2 hm2 PyProof.Rows.boot_set (pa_cons (ha W tk) pa_nil hst) (by decide) (by decide) hst rfl) pa_nil rfl) (by decide) (by decide) rfl rfl) fun σ H Q h => ?_
  obtain ⟨mu, r, M, hm, hs, p⟩ := h
  refine rE_then hm hs p fun x v M1 mu1 H1 n1 h1 p1 => ?_
  have p2 := p1.rb n1
  unfold bSortedSet at p2
  split at p2
  · rename_i ds e
    split at p2
    · rename_i ns e2
      split at p2
      · rename_i hl
        obtain ⟨q, vs, rfl, h2, h3⟩ := seqOf_ok n1.rm h1.w e
        rw [asInts_eq e2] at h3
        have e3 := h3.ints
        subst e3
        refine .inl ⟨q, ns, rfl, h2, by unfold scanBound; omega, fun p c nf => .inl ⟨p, _, c, rfl, upd_same, fun ys p' hs hk n' => ?_⟩⟩
        rw [strict_one hs (sortDed_sorted ns) fun k => by rw [hk, sortDed_mem]; simp]
        exact end_lst (n1.rm.laid nf) (p2.from (Stp.laid n1.rm nf) (n1.rm.laid nf) |>.mono fun _ _ _ _ _ _ z w hw => z w (hw.base (Stp.laid n1.rm nf) (n1.rm.laid nf))) (Rvs.of_ints _) p' n'
      · exact bad_end p2
    · split at p2
      · rename_i ds' rs e3 e4
        split at p2
        · rename_i hl
          obtain ⟨q, vs, rfl, h2, h3⟩ := lstOf_ok n1.rm h1.w e3
          have ed : ds' = ds := by
            unfold seqOf at e
            split at e
            · simp [lstOf] at e3
            · rw [e3] at e; exact Option.some.inj e
          subst ed
          rw [asRows_eq e4] at h3
          obtain ⟨L0, e5, e6, e7⟩ := rows_v h3
          subst e5
          subst e7
          refine .inr ⟨q, L0, rfl, h2, e6, by simpa using hl.1, fun p L nf sub sup => .inr ⟨p, L, rfl, upd_same, fun r hr => ?_, fun nd => ?_, fun L' p' nd eL hT n' => ?_⟩⟩
          · exact SqT.stp n1.rm (Stp.laid n1.rm nf) (e6 r (sub r hr))
          · rw [rowsOk_perm (b := dedR (L0.map (·.2))) ((List.perm_ext_iff_of_nodup nd (dedR_nodup _)).mpr fun k => ?_)]
            · exact hl.2
            · rw [dedR_mem]
              refine ⟨fun h => ?_, fun h => ?_⟩
              · obtain ⟨p, hp, rfl⟩ := List.mem_map.mp h; exact List.mem_map.mpr ⟨p, sub p hp, rfl⟩
              · obtain ⟨p, hp, rfl⟩ := List.mem_map.mp h; exact sup p hp
          · have pm : (L.map (·.2)).Perm (dedR (L0.map (·.2))) := (List.perm_ext_iff_of_nodup nd (dedR_nodup _)).mpr fun k => by
              rw [dedR_mem]
              refine ⟨fun h => ?_, fun h => ?_⟩
              · obtain ⟨p, hp, rfl⟩ := List.mem_map.mp h; exact List.mem_map.mpr ⟨p, sub p hp, rfl⟩
              · obtain ⟨p, hp, rfl⟩ := List.mem_map.mp h; exact sup p hp
            have es : sortR (L.map (·.2)) = sortR (dedR (L0.map (·.2))) := sortedR_one (((sortR_perm _).trans pm).trans (sortR_perm _).symm) (sortR_sorted _) (sortR_sorted _)
            rw [es] at eL
            have := rows_back (mu := mu1) L' hT
            rw [eL] at this
            exact end_lst (n1.rm.laid nf) (p2.from (Stp.laid n1.rm nf) (n1.rm.laid nf) |>.mono fun _ _ _ _ _ _ z w hw => z w (hw.base (Stp.laid n1.rm nf) (n1.rm.laid nf))) this p' n'
        · exact bad_end p2
      · exact bad_end p2
  · exact bad_end p2
end
end MI
end
section
set_option Elab.async false
set_option linter.all false
set_option maxRecDepth 100000
set_option maxHeartbeats 4000000
namespace MI
open PySem PySem.Spec PyProof.Rows L2
section
variable {X : Cx} {CL : CLs} {cl : Cl} {a b c o : Expr} {rest : List Expr} {es : List Expr} {sa sb sc so : SE} {ta tb tc : STt} {as : SDs} {pos p0 apos cpos : Pos}
/-! ### methods of lists -/
/-- a list's method by what it asks of the heap: the list stands at the handle n -/
def OkM (K : PySem.W.Frag) (CL : CLs) (rr : V → List V → Hp → VK → Prop) (m : Nat → D → Mem → Res RV) : Prop :=
  ∀ (W : WX) (σ : Sg) mu H M n p d v (Q : VK), Rm K CL mu H M → mu[n]? = some p → Rv K mu H d v → Pst K CL W σ mu H (m n d M) (fun z _ mu' H' => ∀ w, Rr K CL mu' H' H z w → Q w H') → rr (.ref p) [v] H Q
theorem snd_m1 {name : Str} {id : String} {rr : V → List V → Hp → VK → Prop} {m : Nat → D → Mem → Res RV} (slot : Slot "list" name id) (hty : typeOf (.builtin id) = pure (.type "method_descriptor")) (hm : MtR X id rr) (k : OkM X.K CL rr m) (ho : SndE X CL cl o so) (ha : SndE X CL cl a sa)
    (hbase : attributeBase o name X.env (eval o X.env) = eval o X.env) (hline : (apos.endLine == cpos.line) = true) (hst : starEach [a] X.env = [(false, eval a X.env)]) : SndE X CL cl (.Call (.Attribute o name apos) [a] [] cpos) (eM1 m so sa) := fun W tk => by
  refine pe_imp (pe_bm PySem.F.plainAttrs_list slot hty hm (ho W tk) (pa_cons (ha W tk) pa_nil hst) hbase (by rw [hst]; rfl) hline hst rfl) fun σ H Q h => ?_
  obtain ⟨mu, r, M, hm, hs, p⟩ := h
  refine rE_then hm hs p fun x v M1 mu1 H1 n1 h1 p1 => ?_
  split at p1
  · rename_i n
    split at p1
    · rename_i e
      obtain ⟨ds, e⟩ := Option.isSome_iff_exists.mp e
      obtain ⟨p', vs, hv, h2, h3⟩ := lstT_ok n1.rm h1.w e
      obtain ⟨q, h4, h5⟩ := h1
      have eq : q = p' := V.ref.inj (h5.symm.trans hv)
      subst eq
      refine ⟨by rw [h5]; exact .inl ⟨rfl, vs, .inl (.inl h2)⟩, ?_⟩
      refine rE_thenB n1.rm n1.rs Stp.refl p1 fun y u M2 mu2 H2 n2 h6 p2 => ?_
      obtain ⟨t, R3, s3, hu⟩ := n2.rm.box h6 n2.st
      rw [h5]
      refine k W σ (mu2 ++ t) H2 _ n q _ u Q R3 ?_ hu ?_
      · rw [List.getElem?_append_left (List.getElem?_eq_some_iff.mp (n2.st.get h4)).1]; exact n2.st.get h4
      · exact (p2.from s3 R3).mono fun _ _ _ _ _ _ z w hw => z w ((hw.base s3 R3).base n1.st n1.rm)
    · exact bad_end p1
  · exact bad_end p1
theorem okM_append {K : PySem.W.Frag} : OkM K CL rAppend mAppend := fun W σ mu H M n p d v Q R hp hv h => by
  unfold mAppend at h
  split at h
  · rename_i ds e
    split at h
    · rename_i c
      obtain ⟨vs, h1, h2⟩ := R.ob n p _ hp e
      have st : Stp mu H mu (upd H p (.lst (vs ++ [v]))) := Stp.write hp (fun _ _ z => by rw [h1] at z; cases z)
      have R' := R.write (u := .lst (vs ++ [v])) (o := .lst (ds ++ [d])) hp (fun _ _ z => by rw [h1] at z; cases z) ⟨_, upd_same, (h2.append (Rvs.one hv)).stp R st⟩
      exact ⟨p, vs, v, rfl, rfl, h1, by rw [← h2.length]; exact c, h mu _ st R' .non rfl⟩
    · exact bad_end h
  · exact bad_end h
theorem okM_popAt {K : PySem.W.Frag} : OkM K CL rPopAt mPopAt := fun W σ mu H M n p d v Q R hp hv h => by
  unfold mPopAt at h
  split at h
  · rename_i ds e
    split at h
    · rename_i i
      split at h
      · rename_i c
        split at h
        · rename_i y ey
          obtain ⟨vs, h1, h2⟩ := R.ob n p _ hp e
          obtain ⟨w, h3, h4⟩ := h2.get ey
          have hv' : v = .int i := hv
          subst hv'
          have st : Stp mu H mu (upd H p (.lst (vs.eraseIdx i.toNat))) := Stp.write hp (fun _ _ z => by rw [h1] at z; cases z)
          have R' := R.write (u := .lst (vs.eraseIdx i.toNat)) (o := .lst (ds.eraseIdx i.toNat)) hp (fun _ _ z => by rw [h1] at z; cases z) ⟨_, upd_same, (h2.eraseIdx _).stp R st⟩
          have hl := h2.length
          refine ⟨p, vs, i, i.toNat, w, rfl, rfl, h1, by omega, by omega, seqIndex_of c.1 (by omega), h3, h mu _ st R' w (h4.stp R st)⟩
        · exact bad_end h
      · exact bad_end h
    · exact bad_end h
  · exact bad_end h

/-! ### what is walked -/
structure Wk (K : PySem.W.Frag) (CL : CLs) (J : It) (xs : List D) (c : Chk) (mu0 : List Addr) (H0 : Hp) : Prop where
  go : ∀ (i : Nat) (d : D) mu H M, xs[i]? = some d → Stp mu0 H0 mu H → Rm K CL mu H M → chkOk c M = true → J.go i H ∧ ∀ x H', J.yld i H x H' → Stp mu H mu H' ∧ Rm K CL mu H' M ∧ Rv K mu H' d x
  stop : ∀ mu H M, Stp mu0 H0 mu H → Rm K CL mu H M → chkOk c M = true → J.stop xs.length H
def rI (K : PySem.W.Frag) (CL : CLs) (W : WX) (cl : Cl) (s : SI) : TI := fun σ H R => ∃ mu r M, Rm K CL mu H M ∧ Rst K mu H r σ ∧ Pst K CL W σ mu H (s cl r M) fun p _ mu' H' => ∀ J, Wk K CL J p.1 p.2 mu' H' → R J H'
def SndI (X : Cx) (CL : CLs) (cl : Cl) (tg : Expr) (e : Expr) (s : SI) : Prop := ∀ W, Takes X W → PI X tg e (rI X.K CL W cl s)
theorem pi_imp {tg e : Expr} {t t' : TI} (h : PI X tg e t) (q : ∀ σ H R, t' σ H R → t σ H R) : PI X tg e t' := ⟨fun pins s σ H R I w => h.run pins s σ H R I (q σ H R w)⟩
/-- a list, a tuple or a text -/
def iBoth (K : PySem.W.Frag) (tl : TE) : TI := fun σ H R => tl σ H fun x H1 => (∃ z, x = .str z ∧ R (Its z) H1) ∨ ∃ a, x = .ref a ∧ (((∃ xs, SqL K H1 a xs) ∧ R (Itl K a) H1) ∨ ((∃ xs, SqT K H1 a xs) ∧ R (Itt K a) H1))
theorem pi_both {tg l : Expr} {tl : TE} (hl : PE X l tl) : PI X tg l (iBoth X.K tl) := by
  refine ⟨fun pins s σ H R I h => thn (hl.run pins s σ H _ I h) fun v s1 ⟨x, H1, I1, r1, q0⟩ => ?_⟩
  rcases q0 with ⟨z, e, q⟩ | ⟨a, e, q1⟩
  · subst e
    obtain ⟨t, rfl⟩ := r1
    cases ha : z.cps.all (· < 128)
    · exact wpAny_pyIter_wide ha (pi_one (tk := s1.toks) I1 _ (turn_str _ z t "str_iterator" (.inr rfl)) ⟨_, Heap.get?_push_size _ rfl, rfl, rfl⟩ q)
    · exact wpAny_pyIter_ascii ha (pi_one (tk := s1.toks) I1 _ (turn_str _ z t "str_ascii_iterator" (.inl rfl)) ⟨_, Heap.get?_push_size _ rfl, rfl, rfl⟩ q)
  subst e
  cases r1
  rcases q1 with ⟨⟨xs, hq⟩, q⟩ | ⟨⟨xs, hq⟩, q⟩
  · obtain ⟨its, rv, p, hz⟩ := I1.list hq
    refine wpAny_pyIter_list p.isList ⟨s1.heap.objs.size, [s1.heap.objs.size], _, _, H1, rfl, I1.kept (t' := s1.toks) fun b o e => Heap.get?_push_of_some _ e, turn_list a _, ⟨_, Heap.get?_push_size _ rfl, rfl, rfl⟩, fun b hb => ?_, q⟩
    rw [show b = s1.heap.objs.size by simpa using hb]
    exact I1.fpOk (Nat.le_refl _) (I1.hok.fresh (Nat.le_refl _))
  · obtain ⟨its, rv, p, hz⟩ := I1.tuple hq
    refine wpAny_pyIter_tuple (show s1.heap.IsTuple a its.toArray from p) ⟨s1.heap.objs.size, [s1.heap.objs.size], _, _, H1, rfl, I1.kept (t' := s1.toks) fun b o e => Heap.get?_push_of_some _ e, turn_tuple a _, ⟨_, Heap.get?_push_size _ rfl, rfl, rfl⟩, fun b hb => ?_, q⟩
    rw [show b = s1.heap.objs.size by simpa using hb]
    exact I1.fpOk (Nat.le_refl _) (I1.hok.fresh (Nat.le_refl _))
/-- a walk whose list stays -/
theorem wk_list {K : PySem.W.Frag} {a : Addr} {xs : List D} {c : Chk} {mu0 : List Addr} {H0 : Hp} (h : ∀ mu H M, Stp mu0 H0 mu H → Rm K CL mu H M → chkOk c M = true → ∃ vs, SqL K H a vs ∧ Rvs K mu H xs vs) : Wk K CL (Itl K a) xs c mu0 H0 where
  go := fun i d mu H M e st R ck => by
    obtain ⟨vs, h1, h2⟩ := h mu H M st R ck
    obtain ⟨v, h3, h4⟩ := h2.get e
    refine ⟨⟨vs, v, h1, h3⟩, fun x H' ⟨e1, e2⟩ => ?_⟩
    subst e1
    have e3 := e2 vs h1
    rw [h3] at e3; cases e3
    exact ⟨Stp.refl, R, h4⟩
  stop := fun mu H M st R ck => by
    obtain ⟨vs, h1, h2⟩ := h mu H M st R ck
    exact ⟨vs, h1, by rw [h2.length]; exact Nat.le_refl _⟩
theorem wk_tup {K : PySem.W.Frag} {a : Addr} {xs : List D} {c : Chk} {mu0 : List Addr} {H0 : Hp} (h : ∀ mu H M, Stp mu0 H0 mu H → Rm K CL mu H M → chkOk c M = true → ∃ vs, SqT K H a vs ∧ Rvs K mu H xs vs) : Wk K CL (Itt K a) xs c mu0 H0 where
  go := fun i d mu H M e st R ck => by
    obtain ⟨vs, h1, h2⟩ := h mu H M st R ck
    obtain ⟨v, h3, h4⟩ := h2.get e
    refine ⟨⟨vs, v, h1, h3⟩, fun x H' ⟨e1, e2⟩ => ?_⟩
    subst e1
    have e3 := e2 vs h1
    rw [h3] at e3; cases e3
    exact ⟨Stp.refl, R, h4⟩
  stop := fun mu H M st R ck => by
    obtain ⟨vs, h1, h2⟩ := h mu H M st R ck
    exact ⟨vs, h1, by rw [h2.length]; exact Nat.le_refl _⟩
theorem wk_str {K : PySem.W.Frag} {z : Str} {c : Chk} {mu0 : List Addr} {H0 : Hp} : Wk K CL (Its z) (strD z) c mu0 H0 where
  go := fun i d mu H M e st R ck => by
    unfold strD at e
    rw [List.getElem?_map] at e
    obtain ⟨n, h1, h2⟩ := Option.map_eq_some_iff.mp e
    subst h2
    rw [Array.getElem?_toList] at h1
    refine ⟨(Array.getElem?_eq_some_iff.mp h1).1, fun x H' ⟨e1, n', h3, h4⟩ => ?_⟩
    subst e1
    rw [h1] at h3; cases h3
    exact ⟨Stp.refl, R, h4⟩
  stop := fun mu H M st R ck => by
    show z.cps.size ≤ (strD z).length
    unfold strD
    rw [List.length_map, Array.length_toList]
    exact Nat.le_refl _
theorem snd_seq {tg : Expr} (ha : SndE X CL cl a sa) : SndI X CL cl tg a (iSeq sa) := fun W tk => by
  refine pi_imp (pi_both (ha W tk)) fun σ H R h => ?_
  obtain ⟨mu, r, M, hm, hs, p⟩ := h
  refine rE_then hm hs p fun x v M1 mu1 H1 n1 h1 p1 => ?_
  split at p1
  · rename_i ds e
    have p2 := p1.here n1.rm
    by_cases ht : ∃ es, x = .d (.tup es)
    · obtain ⟨es, rfl⟩ := ht
      simp only [seqOf, Option.some.injEq] at e
      subst e
      obtain ⟨q, vs, rfl, h2, h3⟩ := h1
      exact .inr ⟨q, rfl, .inr ⟨⟨vs, h2⟩, p2 _ (wk_tup fun mu H M st R _ => ⟨vs, SqT.stp n1.rm st h2, h3.stp n1.rm st⟩)⟩⟩
    · have e' : lstOf x M1 = some ds := by
        cases x with
        | o o => simpa [seqOf] using e
        | d d =>
          cases d with
          | tup es => exact absurd ⟨es, rfl⟩ ht
          | _ => simpa [seqOf] using e
      by_cases hr : ∃ es, x = .d (.ro es)
      · obtain ⟨es, rfl⟩ := hr
        simp only [lstOf, Option.some.injEq] at e'
        subst e'
        obtain ⟨q, vs, rfl, h2, h3⟩ := h1
        exact .inr ⟨q, rfl, .inl ⟨⟨vs, h2.sq⟩, p2 _ (wk_list fun mu H M st R _ => ⟨vs, (h2.stp n1.rm st).sq, h3.stp n1.rm st⟩)⟩⟩
      · cases x with
        | o o =>
          cases o with
          | lst es =>
            simp only [lstOf, Option.some.injEq] at e'
            subst e'
            obtain ⟨q, rfl, ⟨vs, h2, h3⟩, h4, h5⟩ := h1
            exact .inr ⟨q, rfl, .inl ⟨⟨vs, .inl (.inl h2)⟩, p2 _ (wk_list fun mu H M st R _ => ⟨vs, .inl (.inl (st.keep _ _ h2 h4)), h3.stp n1.rm st⟩)⟩⟩
          | _ => simp [lstOf] at e'
        | d d =>
          cases d with
          | ro es => exact absurd ⟨es, rfl⟩ hr
          | hdl n =>
            obtain ⟨q, h2, rfl⟩ := h1
            cases ec : M1[n]? with
            | none => simp [lstOf, ec] at e'
            | some o =>
              cases o with
              | lst es =>
                simp only [lstOf, ec, Option.some.injEq] at e'
                subst e'
                obtain ⟨vs, h3, h4⟩ := n1.rm.ob n q _ h2 ec
                have ck : chkR (.d (.hdl n)) M1 = [(n, .lst es)] := by simp [chkR, ec]
                rw [ck] at p2
                refine .inr ⟨q, rfl, .inl ⟨⟨vs, .inl (.inl h3)⟩, p2 _ (wk_list fun mu H M st R k => ?_)⟩⟩
                simp only [chkOk, List.all_cons, List.all_nil, Bool.and_true, decide_eq_true_eq] at k
                obtain ⟨ws, h5, h6⟩ := R.ob n q _ (st.get h2) k
                exact ⟨ws, .inl (.inl h5), h6⟩
              | _ => simp [lstOf, ec] at e'
          | _ => simp [lstOf] at e'
  · split at p1
    · rename_i t _
      have hv : v = .str t := h1
      exact .inl ⟨t, hv, p1.here n1.rm _ wk_str⟩
    · exact bad_end p1
theorem snd_range1 {tg : Expr} (ha : SndE X CL cl a sa) (hg : Gl X "range") (hm : X.mg "range" = none) (hst : starEach [a] X.env = [(false, eval a X.env)]) : SndI X CL cl tg (.Call (.Name "range" p0) [a] [] pos) (iRange1 sa) := fun W tk => by
  refine pi_imp (pi_range1 hg hm (pa_cons (ha W tk) pa_nil hst) hst) fun σ H R h => ?_
  obtain ⟨mu, r, M, hm, hs, p⟩ := h
  refine rE_then hm hs p fun x v M1 mu1 H1 n1 h1 p1 => ?_
  split at p1
  · rename_i n
    split at p1
    · rename_i c
      have hv : v = .int n := h1
      subst hv
      refine ⟨n, rfl, c.2, c.1, p1.here n1.rm _ ⟨fun i d mu H M e st R _ => ?_, fun mu H M st R _ => ?_⟩⟩
      · have hi : i < n.toNat := by
          have := (List.getElem?_eq_some_iff.mp e).1
          simpa [rngD] using this
        refine ⟨hi, fun x H' ⟨e1, e2⟩ => ?_⟩
        subst e1
        refine ⟨Stp.refl, R, ?_⟩
        have : d = .int (0 + (i : Int)) := by
          unfold rngD at e
          rw [List.getElem?_map, List.getElem?_range hi] at e
          exact (Option.some.inj e).symm
        rw [this, e2]
        rfl
      · show n.toNat ≤ (rngD 0 n.toNat).length
        simp [rngD]
    · exact bad_end p1
  · exact bad_end p1
end
end MI
end
section
set_option Elab.async false
set_option linter.all false
set_option maxRecDepth 100000
set_option maxHeartbeats 4000000
namespace MI
open PySem PySem.Spec PyProof.Rows L2
section
variable (K : PySem.W.Frag) (CL : CLs) (W : WX)
/-- what is wanted behind a statement's run -/
def PsS (mu : List Addr) (H : Hp) (res : SR) (D : Ends) : Prop :=
  match res with
  | .nx r M' => ∀ mu' H' σ', Stp mu H mu' H' → Rm K CL mu' H' M' → Rst K mu' H' r σ' → D.nx σ' H'
  | .ret x M' => ∀ mu' H' v, Stp mu H mu' H' → Rm K CL mu' H' M' → Rr K CL mu' H' H x v → D.rt v H'
  | .err c r M' => ∀ mu' H' σ' C, CL c = some C → Stp mu H mu' H' → Rm K CL mu' H' M' → Rst K mu' H' r σ' → W (.ref C) none σ' H'
  | .bad => False
def rS (cl : Cl) (s : SS) : TS := fun D σ H => ∃ mu r M, Rm K CL mu H M ∧ Rst K mu H r σ ∧ PsS K CL W mu H (s cl r M) D
end
section
variable {K : PySem.W.Frag} {CL : CLs} {W : WX} {σ : Sg} {mu mu1 mu0 : List Addr} {H H0 H1 : Hp} {M M1 : Mem} {r : Env} {cl : Cl} {DD : Ends}
theorem PsS.from {res : SR} (h : PsS K CL W mu H res DD) (s : Stp mu H mu1 H1) (R : Rm K CL mu1 H1 M1) : PsS K CL W mu1 H1 res DD := by
  cases res with
  | nx r M' => exact fun mu' H' σ' s' R' => h mu' H' σ' (s.trans s' R) R'
  | ret x M' => exact fun mu' H' v s' R' hv => h mu' H' v (s.trans s' R) R' (hv.base s R)
  | err c r M' => exact fun mu' H' σ' C e s' R' => h mu' H' σ' C e (s.trans s' R) R'
  | bad => exact h
theorem PsS.here {r : Env} (h : PsS K CL W mu0 H0 (.nx r M) DD) (s : Stp mu0 H0 mu H) (R : Rm K CL mu H M) (q : Rst K mu H r σ) : DD.nx σ H := h mu H σ s R q
/-- an expression, then the rest -/
theorem rE_stm {s : SE} {f : RV → Mem → SR} (hm : Rm K CL mu H M) (hs : Rst K mu H r σ) (s0 : Stp mu0 H0 mu H) (h : PsS K CL W mu0 H0 (ofE (s cl r M) r f) DD) {Q : VK}
    (q : ∀ x v M1 mu1 H1, Nxt K CL σ mu H r M1 mu1 H1 → Rr K CL mu1 H1 H x v → PsS K CL W mu0 H0 (f x M1) DD → Q v H1) : rE K CL W cl s σ H Q := by
  refine ⟨mu, r, M, hm, hs, ?_⟩
  cases e : s cl r M with
  | ok x M' =>
    rw [e] at h
    exact fun mu' H' st R v hv => q x v M' mu' H' ⟨R, hs.stp hm st, st⟩ hv h
  | err c M' =>
    rw [e] at h
    exact fun mu' H' C ec st R => h mu' H' σ C ec (s0.trans st hm) R (hs.stp hm st)
  | bad => rw [e] at h; exact h
theorem rT_stm {s : STt} {f : Bool → Mem → SR} (hm : Rm K CL mu H M) (hs : Rst K mu H r σ) (s0 : Stp mu0 H0 mu H) (h : PsS K CL W mu0 H0 (ofT (s cl r M) r f) DD) {Q : Bool → Hp → Prop}
    (q : ∀ x M1 mu1 H1, Nxt K CL σ mu H r M1 mu1 H1 → PsS K CL W mu0 H0 (f x M1) DD → Q x H1) : rT K CL W cl s σ H Q := by
  refine ⟨mu, r, M, hm, hs, ?_⟩
  cases e : s cl r M with
  | ok x M' =>
    rw [e] at h
    exact fun mu' H' st R => q x M' mu' H' ⟨R, hs.stp hm st, st⟩ h
  | err c M' =>
    rw [e] at h
    exact fun mu' H' C ec st R => h mu' H' σ C ec (s0.trans st hm) R (hs.stp hm st)
  | bad => rw [e] at h; exact h
theorem rI_stm {s : SI} {f : List D × Chk → Mem → SR} (hm : Rm K CL mu H M) (hs : Rst K mu H r σ) (s0 : Stp mu0 H0 mu H) (h : PsS K CL W mu0 H0 (ofI (s cl r M) r f) DD) {R : It → Hp → Prop}
    (q : ∀ x M1 mu1 H1 J, Nxt K CL σ mu H r M1 mu1 H1 → Wk K CL J x.1 x.2 mu1 H1 → PsS K CL W mu0 H0 (f x M1) DD → R J H1) : rI K CL W cl s σ H R := by
  refine ⟨mu, r, M, hm, hs, ?_⟩
  cases e : s cl r M with
  | ok x M' =>
    rw [e] at h
    exact fun mu' H' st R J wk => q x M' mu' H' J ⟨R, hs.stp hm st, st⟩ wk h
  | err c M' =>
    rw [e] at h
    exact fun mu' H' C ec st R => h mu' H' σ C ec (s0.trans st hm) R (hs.stp hm st)
  | bad => rw [e] at h; exact h
end
section
variable (X : Cx) (CL : CLs) (cl : Cl)
abbrev POwn (X : Cx) : Prop := PassesOwn (model X.prog X.w) X.A X.env X.xe
def SndS (st : Stmt) (s : SS) : Prop := ∀ W, Takes X W → POwn X → PS X st (rS X.K CL W cl s)
def SndB (sts : List Stmt) (s : SS) : Prop := ∀ W, Takes X W → POwn X → PSs X sts (rS X.K CL W cl s)
/-- a target -/
def SndG (e : Expr) (t : Tg) : Prop := ∃ g, PG X e g ∧ ∀ (d : D) (r r' : Env) mu H v σ (Q : Sg → Hp → Prop), asg t d r = some r' → Rv X.K mu H d v → Rst X.K mu H r σ → (∀ σ', Rst X.K mu H r' σ' → σ'.length = σ.length → Q σ' H) → g v σ H Q
end
section
variable {X : Cx} {CL : CLs} {cl : Cl} {a b c o k : Expr} {sa sb sc so sk : SE} {ta tb tc : STt} {pos p0 p1 : Pos} {st : Stmt} {rest sts stt : List Stmt} {u v : SS}
theorem bnd_nil : SndB X CL cl [] sNil := fun W tk po => by
  refine pss_imp pss_nil fun D σ H h => ?_
  obtain ⟨mu, r, M, hm, hs, p⟩ := h
  exact p.here Stp.refl hm hs
theorem bnd_cons (h1 : SndS X CL cl st u) (h2 : SndB X CL cl rest v) : SndB X CL cl (st :: rest) (sSeq u v) := fun W tk po => by
  refine pss_imp (pss_cons (h1 W tk po) (h2 W tk po)) fun D σ H h => ?_
  obtain ⟨mu, r, M, hm, hs, p⟩ := h
  refine ⟨mu, r, M, hm, hs, ?_⟩
  unfold sSeq at p
  cases e : u cl r M with
  | nx r1 M1 =>
    rw [e] at p
    exact fun mu' H' σ' s' R' q => ⟨mu', r1, M1, R', q, PsS.from p s' R'⟩
  | ret x M1 => rw [e] at p; exact p
  | err c r1 M1 => rw [e] at p; exact p
  | bad => rw [e] at p; exact p
theorem bnd_one (h1 : SndS X CL cl st u) : SndB X CL cl [st] u := fun W tk po => pss_one (h1 W tk po)
theorem stm_expr (ha : SndE X CL cl a sa) (hs : swapsWith a none pos.line X.env = pure false) : SndS X CL cl (.Expr a pos) (sExpr sa) := fun W tk po => by
  refine ps_imp (ps_expr (ha W tk) hs) fun D σ H h => ?_
  obtain ⟨mu, r, M, hm, hs, p⟩ := h
  exact rE_stm hm hs Stp.refl p fun x v M1 mu1 H1 n1 _ p1 => p1.here n1.st n1.rm n1.rs
theorem stm_ret (ha : SndE X CL cl a sa) : SndS X CL cl (.Return (some a) pos) (sRet sa) := fun W tk po => by
  refine ps_imp (ps_ret (ha W tk)) fun D σ H h => ?_
  obtain ⟨mu, r, M, hm, hs, p⟩ := h
  exact rE_stm hm hs Stp.refl p fun x v M1 mu1 H1 n1 h1 p1 => p1 mu1 H1 v n1.st n1.rm h1
theorem stm_retN : SndS X CL cl (.Return none pos) sRetN := fun W tk po => by
  refine ps_imp ps_retN fun D σ H h => ?_
  obtain ⟨mu, r, M, hm, hs, p⟩ := h
  exact p mu H .non Stp.refl hm rfl
theorem stm_if (ht : SndT X CL cl c tc) (ha : SndB X CL cl sts u) (hb : SndB X CL cl stt v) : SndS X CL cl (.If c sts stt pos) (sIf tc u v) := fun W tk po => by
  refine ps_imp (ps_if (ht W tk) (ha W tk po) (hb W tk po)) fun D σ H h => ?_
  obtain ⟨mu, r, M, hm, hs, p⟩ := h
  refine rT_stm hm hs Stp.refl p fun x M1 mu1 H1 n1 p1 => ?_
  cases x with
  | true => rw [if_pos rfl] at p1 ⊢; exact ⟨mu1, r, M1, n1.rm, n1.rs, p1.from n1.st n1.rm⟩
  | false => rw [if_neg Bool.false_ne_true] at p1 ⊢; exact ⟨mu1, r, M1, n1.rm, n1.rs, p1.from n1.st n1.rm⟩
theorem stm_set {i : Nat} {x : Str} (hN : X.N.Nodup) (hi : X.N[i]? = some x) (hx : Loc X.env.scope x) (hf : X.fn x = true ∨ X.env.scope.names.lookup x = some .local) (ha : SndE X CL cl a sa) (hs : swapsWith a (some (.Name x p1)) pos.line X.env = pure false) :
    SndS X CL cl (.Assign [.Name x p1] a pos) (sSet i sa) := fun W tk po => by
  refine ps_imp (ps_set hN hi hx (ha W tk) hs hf) fun D σ H h => ?_
  obtain ⟨mu, r, M, hm, hs, p⟩ := h
  refine rE_stm hm hs Stp.refl p fun x v M1 mu1 H1 n1 h1 p1 => ?_
  obtain ⟨t, R2, s2, hv⟩ := n1.rm.box h1 n1.st
  exact p1.here s2 R2 ((n1.rs.ext t).set hv)
theorem stm_setIx {rr : TSet} (ho : SndE X CL cl o so) (hk : SndE X CL cl k sk) (ha : SndE X CL cl a sa) (hps : PSet X rr)
    (key : ∀ mu H M M' n kd vd (p : Addr) kv vv (Q : Hp → Prop), Rm X.K CL mu H M → mu[n]? = some p → Rv X.K mu H kd kv → Rv X.K mu H vd vv → setIx (.hdl n) kd vd M = some M' → (∀ H', Stp mu H mu H' → Rm X.K CL mu H' M' → Q H') → rr (.ref p) kv vv H Q)
    (hs : swapsWithSole [.Subscript o k p1] a pos.line X.env = pure false) (hw : swappedStores [.Subscript o k p1] a X.env = pure none) (h1 : (assignEach [.Subscript o k p1] X.env).map (·.2) = [assign (.Subscript o k p1) X.env])
    (hg : ∀ v, assign (.Subscript o k p1) X.env v = (do
      let ov ← holding [v] (eval o X.env)
      let iv ← holding [v, ov] (eval k X.env)
      standAt p1
      holding [v, ov, iv] (setItem ov iv v)
      release [v, ov, iv] [])) : SndS X CL cl (.Assign [.Subscript o k p1] a pos) (sSetIx so sk sa) := fun W tk po => by
  refine ps_imp (ps_asg (ha W tk) (pg_sub (ho W tk) (hk W tk) hps hg) hs hw h1) fun D σ H h => ?_
  obtain ⟨mu, r, M, hm, hs, p⟩ := h
  refine rE_stm hm hs Stp.refl p fun x v M1 mu1 H1 n1 h1 p1 => ?_
  obtain ⟨t, R2, s2, hv⟩ := n1.rm.box h1 n1.st
  refine rE_stm R2 (n1.rs.ext t) s2 p1 fun y u M3 mu3 H3 n3 h3 p3 => ?_
  refine rE_stm n3.rm n3.rs (s2.trans n3.st R2) p3 fun z w M4 mu4 H4 n4 h4 p4 => ?_
  split at p4
  · rename_i yd zd
    split at p4
    · rename_i M5 e
      have hy : Rv X.K mu4 H4 yd u := Rv.stp n3.rm n4.st h3
      cases yd with
      | hdl n =>
        obtain ⟨q, h5, rfl⟩ := hy
        refine key mu4 H4 M4 M5 n zd _ q w v _ n4.rm h5 h4 ((hv.stp R2 n3.st).stp n3.rm n4.st) e fun H' st R => ?_
        exact p4.here (((s2.trans n3.st R2).trans n4.st n3.rm).trans st n4.rm) R (n4.rs.stp n4.rm st)
      | _ => simp [setIx] at e
    · exact p4.elim
  · exact p4.elim
end
end MI
end
section
set_option Elab.async false
set_option linter.all false
set_option maxRecDepth 100000
set_option maxHeartbeats 4000000
namespace MI
open PySem PySem.Spec PyProof.Rows L2
section
variable {X : Cx} {CL : CLs} {cl : Cl} {a b c o k : Expr} {sa sb sc so sk : SE} {ta tb tc : STt} {pos p0 p1 : Pos} {st : Stmt} {rest sts stt : List Stmt} {u v : SS}
/-! ### o[k] = v -/
def rSetD (K : PySem.W.Frag) (w : World) : TSet := fun o i v H Q => ∃ mu a xs ds k d, o = .ref a ∧ H a = some (dictO w a xs) ∧ Rdt K mu H ds xs ∧ okK ds k = true ∧ Rv K mu H k i ∧ Rv K mu H d v ∧ ds.length < sizeLine ∧ ∀ zs, Rdt K mu H (dput ds k d) zs → Q (upd H a (dictO w a zs))
abbrev rSetAll (K : PySem.W.Frag) (w : World) : TSet := fun o i v H Q => rSetL o i v H Q ∨ rSetD K w o i v H Q
theorem set_all {w : World} (hu : X.A.units + 64 < cLine) (hw : w = X.w) : PSet X (rSetAll X.K w) := fun pins s σ H o i v ov iv u Q I ro ri rv h => by
  rcases h with h | ⟨mu, a, xs, ds, k, d, ex, e, r, ok, hk, hd, hl, q⟩
  · exact set_list pins s σ H o i v ov iv u Q I ro ri rv h
  · subst ex
    cases ro
    exact dd_set hu I hw e r ok hk ri hd rv hl fun zs s' rz I' => ⟨_, I', q zs rz⟩
theorem setIx_ok {K : PySem.W.Frag} : ∀ mu H M M' n kd vd (p : Addr) kv vv (Q : Hp → Prop), Rm K CL mu H M → mu[n]? = some p → Rv K mu H kd kv → Rv K mu H vd vv → setIx (.hdl n) kd vd M = some M' → (∀ H', Stp mu H mu H' → Rm K CL mu H' M' → Q H') → rSetAll K CL.w (.ref p) kv vv H Q := by
  intro mu H M M' n kd vd p kv vv Q R hp hk hv e q
  simp only [setIx] at e
  split at e
  · rename_i ds e1
    split at e
    · rename_i i
      split at e
      · rename_i j e2
        cases e
        obtain ⟨vs, h1, h2⟩ := R.ob n p _ hp e1
        have hk' : kv = .int i := hk
        subst hk'
        have nf : ∀ od v, H p ≠ some (.frz od v) := fun _ _ z => by rw [h1] at z; cases z
        have st : Stp mu H mu (upd H p (.lst (vs.set j vv))) := Stp.write hp nf
        have R' := R.write (u := .lst (vs.set j vv)) (o := .lst (ds.set j vd)) hp nf ⟨_, upd_same, (h2.set j hv).stp R st⟩
        exact .inl ⟨p, vs, i, j, rfl, rfl, h1, by rw [← ixN_eq, ← h2.length]; exact e2, q _ st R'⟩
      · cases e
    · cases e
  · rename_i kvs e1
    split at e
    · rename_i c
      cases e
      obtain ⟨xs, h1, h2⟩ := R.ob n p _ hp e1
      have h1' : H p = some (dictO CL.w p xs) := h1
      have nf : ∀ od v, H p ≠ some (.frz od v) := fun _ _ z => by rw [h1'] at z; cases z
      refine .inr ⟨mu, p, xs, kvs, kd, vd, rfl, h1', h2, c.1, hk, hv, c.2, fun zs rz => ?_⟩
      have st : Stp mu H mu (upd H p (dictO CL.w p zs)) := Stp.write hp nf
      exact q _ st (R.write (u := dictO CL.w p zs) (o := .dic false (dput kvs kd vd)) hp nf ⟨zs, upd_same, rz.stp R st⟩)
    · cases e
  · cases e

/-! ### targets -/
def gNames : List Nat → TGs
  | [] => gNil
  | i :: is => gCons (gName i) (gNames is)
theorem gNames_ok {K : PySem.W.Frag} {mu : List Addr} {H : Hp} : ∀ (is : List Nat) (ds : List D) (vs : List V) (r r' : Env) (σ : Sg) (Q : Sg → Hp → Prop), setAll is ds r = some r' → Rvs K mu H ds vs → Rst K mu H r σ → (∀ σ', Rst K mu H r' σ' → Q σ' H) → gNames is vs σ H Q
  | [], [], vs, r, r', σ, Q, e, h, hs, q => by
    simp only [setAll, Option.some.injEq] at e
    subst e
    exact ⟨h, q σ hs⟩
  | [], _ :: _, _, _, _, _, _, e, _, _, _ => by simp [setAll] at e
  | _ :: _, [], _, _, _, _, _, e, _, _, _ => by simp [setAll] at e
  | i :: is, d :: ds, vs, r, r', σ, Q, e, h, hs, q => by
    obtain ⟨v, vr, e1, h1, h2⟩ := h
    exact ⟨v, vr, e1, gNames_ok is ds vr _ r' _ Q (by simpa only [setAll] using e) h2 (hs.set h1) q⟩
def gTg (K : PySem.W.Frag) : Tg → TG
  | .nm i => gName i
  | .tp is => gTup K is.length (gNames is)
theorem gTg_ok {K : PySem.W.Frag} {mu : List Addr} {H : Hp} (t : Tg) {d : D} {v : V} {r r' : Env} {σ : Sg} {Q : Sg → Hp → Prop} (e : asg t d r = some r') (h : Rv K mu H d v) (hs : Rst K mu H r σ) (q : ∀ σ', Rst K mu H r' σ' → Q σ' H) : gTg K t v σ H Q := by
  cases t with
  | nm i =>
    simp only [asg, Option.some.injEq] at e
    subst e
    exact q _ (hs.set h)
  | tp is =>
    cases d with
    | tup ds =>
      obtain ⟨a, vs, rfl, h1, h2⟩ := h
      have e' : setAll is ds r = some r' := e
      refine ⟨a, vs, rfl, h1, ?_, gNames_ok is ds vs r r' σ Q e' h2 hs q⟩
      have len : ∀ (is : List Nat) (ds : List D) (r r' : Env), setAll is ds r = some r' → is.length = ds.length := by
        intro is
        induction is with
        | nil => intro ds r r' e; cases ds with
          | nil => rfl
          | cons => simp [setAll] at e
        | cons i is ih => intro ds r r' e; cases ds with
          | nil => simp [setAll] at e
          | cons d ds => simp only [setAll] at e; simp only [List.length_cons, ih _ _ _ e]
      rw [← h2.length, len is ds r r' e']
    | _ => simp [asg] at e
/-- a target is this -/
def SndTg (X : Cx) (e : Expr) (t : Tg) : Prop := PG X e (gTg X.K t)
theorem stm_unp {is : List Nat} (hg : SndTg X b (.tp is)) (ha : SndE X CL cl a sa) (hs : swapsWithSole [b] a pos.line X.env = pure false) (hw : swappedStores [b] a X.env = pure none) (h1 : (assignEach [b] X.env).map (·.2) = [assign b X.env]) :
    SndS X CL cl (.Assign [b] a pos) (sUnp is sa) := fun W tk po => by
  refine ps_imp (ps_asg (ha W tk) hg hs hw h1) fun D σ H h => ?_
  obtain ⟨mu, r, M, hm, hs, p⟩ := h
  refine rE_stm hm hs Stp.refl p fun x v M1 mu1 H1 n1 h1 p1 => ?_
  split at p1
  · rename_i ds
    split at p1
    · rename_i r1 e
      exact gTg_ok (.tp is) (d := .tup ds) e h1 n1.rs fun σ' hs' => p1.here n1.st n1.rm hs'
    · exact p1.elim
  · exact p1.elim

/-! ### for -/
theorem stm_for {tg it : Expr} {t : Tg} {si : SI} (hc : X.calm = true) (hi : SndI X CL cl tg it si) (hg : SndTg X tg t) (hb : SndB X CL cl sts u) (hs : ∀ x, foldedSetIterable it X.env x = pure x) : SndS X CL cl (.For tg it sts [] pos) (sFor t si u) := fun W tk po => by
  refine ps_imp (ps_for po hc (hi W tk) hg (hb W tk po) hs) fun D σ H h => ?_
  obtain ⟨mu, r, M, hm, hs, p⟩ := h
  refine rI_stm hm hs Stp.refl p fun x M1 mu1 H1 J n1 wk p1 => ?_
  obtain ⟨xs, c⟩ := x
  refine ⟨fun i m σ' H' => m = xs.length - i ∧ i ≤ xs.length ∧ ∃ mu' r' M', Rm X.K CL mu' H' M' ∧ Rst X.K mu' H' r' σ' ∧ Stp mu1 H1 mu' H' ∧ PsS X.K CL W mu H (forL (u cl) t c (xs.drop i) r' M') D, ⟨xs.length, by simp, Nat.zero_le _, mu1, r, M1, n1.rm, n1.rs, Stp.refl, p1⟩, ?_⟩
  rintro i m σ' H' ⟨rfl, hi, mu', r', M', R', S', st, p'⟩
  have st0 := n1.st.trans st n1.rm
  by_cases hlt : i < xs.length
  · rw [List.drop_eq_getElem_cons hlt] at p'
    unfold forL at p'
    split at p'
    · rename_i ck
      split at p'
      · rename_i r1 ea
        obtain ⟨g1, g2⟩ := wk.go i xs[i] mu' H' M' (List.getElem?_eq_getElem hlt) st R' ck
        refine .inr ⟨g1, fun σ2 H2 => ∃ m', m' < xs.length - i ∧ (m' = xs.length - (i + 1) ∧ i + 1 ≤ xs.length ∧ ∃ mu' r' M', Rm X.K CL mu' H2 M' ∧ Rst X.K mu' H2 r' σ2 ∧ Stp mu1 H1 mu' H2 ∧ PsS X.K CL W mu H (forL (u cl) t c (xs.drop (i + 1)) r' M') D), fun _ _ z => z, fun y H2 hy => ?_⟩
        obtain ⟨s2, R2, hv⟩ := g2 y H2 hy
        refine gTg_ok t ea hv (S'.stp R' s2) fun σ2 hs2 => ⟨mu', r1, M', R2, hs2, ?_⟩
        cases eb : u cl r1 M' with
        | nx r2 M2 =>
          rw [eb] at p'
          exact fun mu3 H3 σ3 s3 R3 q3 => ⟨xs.length - (i + 1), by omega, rfl, hlt, mu3, r2, M2, R3, q3, (st.trans s2 R').trans s3 R2, p'⟩
        | ret y M2 =>
          rw [eb] at p'
          exact PsS.from (res := .ret y M2) p' (st0.trans s2 R') R2
        | err c M2 =>
          rw [eb] at p'
          exact PsS.from (res := .err c M2 _) p' (st0.trans s2 R') R2
        | bad => rw [eb] at p'; exact p'
      · exact p'.elim
    · exact p'.elim
  · have e : i = xs.length := by omega
    subst e
    rw [List.drop_length] at p'
    unfold forL at p'
    split at p'
    · rename_i ck
      exact .inl ⟨wk.stop mu' H' M' st R' ck, p'.here st0 R' S'⟩
    · exact p'.elim

/-! ### raise, try -/
theorem stm_raise {x m : Str} {j : Nat} {C : Addr} {p p2 pos2 : Pos} (hc : X.calm = true) (q : PySem.W.excIn X.K C [.type "ValueError", .type "Exception", .type "BaseException", .type "object"] "ValueError.__new__" = true) (gC : X.mg x = some (.ref C)) (kC : PySem.W.keepIn X.K (.ref C) = true)
    (h1 : PySem.W.subIn X.K (.ref C) (.type "BaseException") = some true) (h2 : PySem.W.typeIn X.K (.ref C) = some (.type "type")) (hg : Gl X x) (hdb : (x == ("__debug__" : Str)) = false) (hCL : CL x = some C) :
    SndS X CL cl (.Raise (some (.Call (.Name x p) [.Constant (.str m) j p2] [] pos)) none pos2) (sRaise x) := fun W tk po => by
  refine ps_imp (ps_raise hc tk (pmk_own PySem.F.excBase_ValueError q gC kC (raises_own h1 h2) hg hdb)) fun D σ H h => ?_
  obtain ⟨mu, r, M, hm, hs, p⟩ := h
  exact p mu H σ C hCL Stp.refl hm hs
theorem pss_some {A : Type} {t : A → TS} {P : A → Prop} (h : ∀ y, P y → PSs X sts (t y)) : PSs X sts (fun D σ H => ∃ y, P y ∧ t y D σ H) := ⟨fun pins s σ H D I ⟨y, py, q⟩ => (h y py).run pins s σ H D I q⟩
abbrev Wno : WX := fun _ _ _ _ => False
theorem stm_try {i : Nat} {x n : Str} {cv : Value} {b0 : Stmt} {cat : Str → Bool} {su : Str → SS} {np pos' : Pos} (hs : X.stack = X.env :: X.outer) (hf : X.env.frame = some X.env.locals) (hN : X.N.Nodup) (hi : X.N[i]? = some n) (hln : X.env.kindOf n = some .local) (hc : Names X x cv)
    (hcat : ∀ c C, CL c = some C → PySem.W.exmOne X.K (.ref C) cv = some (cat c))
    (hb : ∀ (pn : List (Addr × Obj)) (xe : Value → Shared → Prop), SndB (X.tr pn xe) CL cl sts u)
    (hsu : ∀ (a : Addr) (oe : Obj) (c : Str) (C : Addr) (d : Option Addr) (pn : List (Addr × Obj)), CL c = some C → Zc (.ref C) d oe → (∃ vs, oe.data = .fields vs) → PSs (X.suite a ((a, oe) :: pn)) (b0 :: stt) (rS X.K CL Wno cl (su c))) :
    SndS X CL cl (.Try sts [.ExceptHandler (some (.Name x np)) (some n) (b0 :: stt) pos'] [] [] pos) (sTry (some i) u cat su) := fun W tk po => by
  refine ps_imp (ps_try_as (ts := fun a cls d => fun D σ H => ∃ y : Str, (∃ C, CL y = some C ∧ cls = .ref C) ∧ rS X.K CL Wno cl (su y) D σ H) (tb := fun W' => rS X.K CL W' cl u) hs hf hN hi hln hc tk (fun W' pn xe tk' po' => hb pn xe W' tk' po') fun a oe cls d pn hz hd => pss_some fun y hy => ?_) fun D σ H h => ?_
  · obtain ⟨C, h1, rfl⟩ := hy
    exact hsu a oe y C d pn h1 hz hd
  · obtain ⟨mu, r, M, hm, hs, p⟩ := h
    refine ⟨mu, r, M, hm, hs, ?_⟩
    unfold sTry at p
    cases e : u cl r M with
    | nx r1 M1 => rw [e] at p; exact p
    | ret y M1 => rw [e] at p; exact p
    | bad => rw [e] at p; exact p
    | err c r1 M1 =>
      rw [e] at p
      intro mu' H' σ' C hC st R' S'
      refine ⟨cat c, hcat c C hC, fun hb2 a na => ⟨c, ⟨C, hC, rfl⟩, mu', gone (some i) r1, M1, R', S'.gone i, ?_⟩, fun hb2 => ?_⟩
      · simp only [hb2, if_true] at p
        cases e2 : su c cl (gone (some i) r1) M1 with
        | nx r2 M2 =>
          rw [e2] at p
          exact fun mu3 H3 σ3 s3 R3 q3 => p mu3 H3 _ (st.trans s3 R') R3 (q3.gone i)
        | ret y M2 => rw [e2] at p; exact PsS.from (res := .ret y M2) p st R'
        | err c2 r2 M2 => rw [e2] at p; exact p.elim
        | bad => rw [e2] at p; exact p
      · simp only [hb2, Bool.false_eq_true, if_false] at p
        exact p mu' H' σ' C hC st R' S'
end
end MI
end
section
set_option Elab.async false
set_option linter.all false
set_option maxRecDepth 100000
set_option maxHeartbeats 4000000
namespace MI
open PySem PySem.Spec PyProof.Rows L2
section
variable {K : PySem.W.Frag} {CL : CLs} {W : WX} {σ : Sg} {mu mu1 mu0 : List Addr} {H H0 H1 : Hp} {M M1 : Mem} {r : Env} {cl : Cl}
/-! ### a list of our own is written -/
theorem SqT.updL {a Da : Addr} {vs as bs : List V} (hD : H Da = some (.lst as)) (h : SqT K H a vs) : SqT K (upd H Da (.lst bs)) a vs := by
  rcases h with (h | ⟨o, h⟩) | h
  · exact .inl (.inl (by rw [upd_ne (ne_of h hD nofun)]; exact h))
  · exact .inl (.inr ⟨o, by rw [upd_ne (ne_of h hD nofun)]; exact h⟩)
  · exact .inr h
theorem SqF.updL {a Da : Addr} {vs as bs : List V} (hD : H Da = some (.lst as)) (h : SqF K H a vs) : SqF K (upd H Da (.lst bs)) a vs := by
  rcases h with ⟨o, h⟩ | h
  · exact .inl ⟨o, by rw [upd_ne (ne_of h hD nofun)]; exact h⟩
  · exact .inr h
mutual
theorem Rv.updL {Da : Addr} {as bs : List V} (hD : H Da = some (.lst as)) : ∀ {d : D} {v : V}, Rv K mu H d v → Rv K mu (upd H Da (.lst bs)) d v
  | .non, _, h => h
  | .bl _, _, h => h
  | .int _, _, h => h
  | .str _, _, h => h
  | .tup ds, _, ⟨a, vs, e, h, q⟩ => ⟨a, vs, e, SqT.updL hD h, Rvs.updL hD q⟩
  | .hdl n, _, h => h
  | .ro ds, _, ⟨a, vs, e, h, q⟩ => ⟨a, vs, e, SqF.updL hD h, Rvs.updL hD q⟩
theorem Rvs.updL {Da : Addr} {as bs : List V} (hD : H Da = some (.lst as)) : ∀ {ds : List MI.D} {vs : List V}, Rvs K mu H ds vs → Rvs K mu (upd H Da (.lst bs)) ds vs
  | [], _, h => h
  | _ :: _, _, ⟨v, r, e, h, q⟩ => ⟨v, r, e, Rv.updL hD h, Rvs.updL hD q⟩
end
theorem Rfs.updL {Da : Addr} {as bs : List V} (hD : H Da = some (.lst as)) : ∀ {ds : List (Str × MI.D)} {vs : List (Str × V)}, Rfs K mu H ds vs → Rfs K mu (upd H Da (.lst bs)) ds vs
  | [], _, h => h
  | _ :: _, _, ⟨v, r, e, h, q⟩ => ⟨v, r, e, h.updL hD, Rfs.updL hD q⟩
theorem Rdt.updL {Da : Addr} {as bs : List V} (hD : H Da = some (.lst as)) : ∀ {ds : List (MI.D × MI.D)} {vs : List Ent}, Rdt K mu H ds vs → Rdt K mu (upd H Da (.lst bs)) ds vs
  | [], _, h => h
  | _ :: _, _, ⟨kv, b, u, v, r, e, h0, h, h2, h3, h4, q⟩ => ⟨kv, b, u, v, r, e, h0, h.updL hD, h2, h3, h4.updL hD, Rdt.updL hD q⟩
theorem Rm.updL {Da : Addr} {as bs : List V} (hD : H Da = some (.lst as)) (R : Rm K CL mu H M) (n : Da ∉ mu) : Rm K CL mu (upd H Da (.lst bs)) M := by
  refine ⟨R.len, R.nd, fun m a o e1 e2 => ?_⟩
  have na : a ≠ Da := fun e => n (e ▸ List.mem_of_getElem? e1)
  have h := R.ob m a o e1 e2
  cases o with
  | lst ds => obtain ⟨vs, e, q⟩ := h; exact ⟨vs, by rw [upd_ne na]; exact e, q.updL hD⟩
  | dic fz kvs => obtain ⟨vs, e, q⟩ := h; exact ⟨vs, e.at (upd_ne na), q.updL hD⟩
  | ins c fs => obtain ⟨C, dx, fs', c', e, q⟩ := h; exact ⟨C, dx, fs', c', by rw [upd_ne na]; exact e, q.updL hD⟩
theorem Stp.updL {Da : Addr} {u : HO} (s : Stp mu1 H1 mu H) (n : H1 Da = none) : Stp mu1 H1 mu (upd H Da u) :=
  ⟨s.pre, s.new, fun a o e na => by rw [upd_ne (ne_of_none e n)]; exact s.keep a o e na, fun a od v e => by rw [upd_ne (ne_of_none e n)]; exact s.frz a od v e⟩
/-! ### the slots that are forgotten -/
theorem wipe_at (σ : Sg) (vs : List Nat) (j : Nat) : (L2.wipe σ vs)[j]? = if j ∈ vs then (σ[j]?).map (fun _ => none) else σ[j]? := by
  induction vs with
  | nil => simp [L2.wipe]
  | cons v vs ih =>
    show ((L2.wipe σ vs).set v none)[j]? = _
    by_cases h : v = j
    · subst h
      simp only [List.mem_cons, true_or, if_true]
      rw [List.getElem?_set]
      simp only [if_true, wipe_length]
      by_cases hl : v < σ.length
      · simp [hl]
      · simp [hl]
    · rw [List.getElem?_set_ne h, ih]
      have : (j ∈ v :: vs) ↔ (j ∈ vs) := by rw [List.mem_cons]; exact ⟨fun z => z.elim (fun e => absurd e.symm h) id, .inr⟩
      simp only [this]
theorem wipe_set {σ : Sg} {vs : List Nat} {i : Nat} {x : Option V} (h : i ∈ vs) : L2.wipe (σ.set i x) vs = L2.wipe σ vs := by
  refine List.ext_getElem? fun j => ?_
  rw [wipe_at, wipe_at]
  by_cases hj : j ∈ vs
  · rw [if_pos hj, if_pos hj, List.getElem?_set]
    by_cases e : i = j
    · subst e
      by_cases hl : i < σ.length
      · simp [hl]
      · simp [hl]
    · rw [if_neg e]
  · rw [if_neg hj, if_neg hj, List.getElem?_set_ne (fun e => hj (by rw [← e]; exact h))]
theorem wipe_wipe (σ : Sg) (vs : List Nat) : L2.wipe (L2.wipe σ vs) vs = L2.wipe σ vs := by
  refine List.ext_getElem? fun j => ?_
  rw [wipe_at, wipe_at]
  by_cases hj : j ∈ vs
  · rw [if_pos hj, if_pos hj]; cases σ[j]? <;> rfl
  · rw [if_neg hj, if_neg hj]
def Tg.ix : Tg → List Nat
  | .nm i => [i]
  | .tp is => is
theorem gNames_wp {vs0 : List Nat} : ∀ (is : List Nat) (ds : List D) (vs : List V) (r r' : Env) (σ : Sg) (Q : Sg → Hp → Prop), (∀ i ∈ is, i ∈ vs0) → setAll is ds r = some r' → Rvs K mu H ds vs → Rst K mu H r σ → (∀ σ', Rst K mu H r' σ' → L2.wipe σ' vs0 = L2.wipe σ vs0 → Q σ' H) → gNames is vs σ H Q
  | [], [], vs, r, r', σ, Q, _, e, h, hs, q => by
    simp only [setAll, Option.some.injEq] at e
    subst e
    exact ⟨h, q σ hs rfl⟩
  | [], _ :: _, _, _, _, _, _, _, e, _, _, _ => by simp [setAll] at e
  | _ :: _, [], _, _, _, _, _, _, e, _, _, _ => by simp [setAll] at e
  | i :: is, d :: ds, vs, r, r', σ, Q, hi, e, h, hs, q => by
    obtain ⟨v, vr, e1, h1, h2⟩ := h
    exact ⟨v, vr, e1, gNames_wp is ds vr _ r' _ Q (fun j hj => hi j (List.mem_cons_of_mem _ hj)) (by simpa only [setAll] using e) h2 (hs.set h1) fun σ' a b => q σ' a (b.trans (wipe_set (hi i List.mem_cons_self)))⟩
theorem gTg_wp {vs0 : List Nat} (t : Tg) {d : D} {v : V} {r r' : Env} {σ : Sg} {Q : Sg → Hp → Prop} (hi : ∀ i ∈ t.ix, i ∈ vs0) (e : asg t d r = some r') (h : Rv K mu H d v) (hs : Rst K mu H r σ) (q : ∀ σ', Rst K mu H r' σ' → L2.wipe σ' vs0 = L2.wipe σ vs0 → Q σ' H) : gTg K t v σ H Q := by
  cases t with
  | nm i =>
    simp only [asg, Option.some.injEq] at e
    subst e
    exact q _ (hs.set h) (wipe_set (hi i List.mem_cons_self))
  | tp is =>
    cases d with
    | tup ds =>
      have hlen : ∀ (is : List Nat) (ds : List D) (r r' : Env), setAll is ds r = some r' → is.length = ds.length := by
        intro is
        induction is with
        | nil => intro ds r r' e; cases ds with
          | nil => rfl
          | cons => simp [setAll] at e
        | cons i is ih => intro ds r r' e; cases ds with
          | nil => simp [setAll] at e
          | cons d ds => simp only [setAll] at e; simp only [List.length_cons, ih _ _ _ e]
      obtain ⟨a, vs, rfl, h1, h2⟩ := h
      have e' : setAll is ds r = some r' := e
      exact ⟨a, vs, rfl, h1, by rw [← h2.length, hlen is ds r r' e'], gNames_wp is ds vs r r' σ Q hi e' h2 hs q⟩
    | _ => simp [asg] at e
end
section
variable {X : Cx} {CL : CLs} {cl : Cl} {W : WX}
theorem lc_read {selt : SE} {stst : STt} {t : Tg} {own : List Nat} {si : SI} (hi : ∀ i ∈ t.ix, i ∈ own) {σ : Sg} {H : Hp} {Q : VK} (h : rE X.K CL W cl (eComp selt stst t own si) σ H Q) :
    tLc (rI X.K CL W cl si) (gTg X.K t) (rT X.K CL Wno cl stst) (rE X.K CL Wno cl selt) own σ H Q := by
  obtain ⟨mu, r, M, hm, hs, p⟩ := h
  unfold tLc
  refine ⟨mu, r, M, hm, hs, ?_⟩
  unfold eComp at p
  refine p.bindB.mono fun x M1 mu1 H1 st1 R1 p1 J wk D nD => ?_
  obtain ⟨xs, c⟩ := x
  have S1 : Rst X.K mu1 H1 r σ := hs.stp hm st1
  have dD : D ∉ mu1 := R1.fresh nD
  refine ⟨fun i m H' => m = xs.length - i ∧ i ≤ xs.length ∧ ∃ mu' M' acc av, Rm X.K CL mu' H' M' ∧ Stp mu1 H1 mu' H' ∧ D ∉ mu' ∧ H' D = some (.lst av) ∧ Rvs X.K mu' H' acc av ∧
    Pst X.K CL W σ mu H (compL (selt cl) (stst cl) t c (MI.wipe r own) (xs.drop i) acc M') fun x _ mu' H' => ∀ v, Rr X.K CL mu' H' H x v → Q v H', ⟨xs.length, by simp, Nat.zero_le _, mu1, M1, [], [], R1.laid nD, Stp.laid R1 nD, dD, upd_same, rfl, p1⟩, ?_⟩
  rintro i m H' ⟨rfl, hle, mu', M', acc, av, R', st, nm, hD, ha, p'⟩
  by_cases hlt : i < xs.length
  · rw [List.drop_eq_getElem_cons hlt] at p'
    unfold compL at p'
    split at p'
    · rename_i ck
      split at p'
      · rename_i r1 ea
        obtain ⟨g1, g2⟩ := wk.go i xs[i] mu' H' M' (List.getElem?_eq_getElem hlt) st R' ck
        refine .inr ⟨g1, fun H2 => ∃ m', m' < xs.length - i ∧ (m' = xs.length - (i + 1) ∧ i + 1 ≤ xs.length ∧ ∃ mu' M' acc av, Rm X.K CL mu' H2 M' ∧ Stp mu1 H1 mu' H2 ∧ D ∉ mu' ∧ H2 D = some (.lst av) ∧ Rvs X.K mu' H2 acc av ∧
          Pst X.K CL W σ mu H (compL (selt cl) (stst cl) t c (MI.wipe r own) (xs.drop (i + 1)) acc M') fun x _ mu' H' => ∀ v, Rr X.K CL mu' H' H x v → Q v H'), fun _ z => z, fun y H2 hy => ?_⟩
        obtain ⟨s2, R2, hv⟩ := g2 y H2 hy
        have hD2 : H2 D = some (.lst av) := s2.keep _ _ hD nm
        have ha2 := ha.stp R' s2
        have S2 : Rst X.K mu' H2 (MI.wipe r own) (L2.wipe σ own) := (((S1.stp R1 st).stp R' s2)).wipe own
        refine gTg_wp t hi ea hv S2 fun σ2 S3 hw => ⟨hw.trans (wipe_wipe σ own), ?_⟩
        refine ⟨mu', r1, M', R2, S3, ?_⟩
        cases et : stst cl r1 M' with
        | err c M2 => rw [et] at p'; exact p'.elim
        | bad => rw [et] at p'; exact p'.elim
        | ok b M2 =>
          rw [et] at p'
          intro mu3 H3 s3 R3
          have hD3 : H3 D = some (.lst av) := s3.keep _ _ hD2 nm
          have nm3 : D ∉ mu3 := s3.out hD2 nm
          have ha3 := ha2.stp R2 s3
          have st3 : Stp mu1 H1 mu3 H3 := (st.trans s2 R').trans s3 R2
          cases b with
          | false =>
            simp only [Res.calm, Res.bind, Bool.false_eq_true, if_false] at p' ⊢
            exact ⟨xs.length - (i + 1), by omega, rfl, hlt, mu3, M2, acc, av, R3, st3, nm3, hD3, ha3, p'⟩
          | true =>
            simp only [Res.calm, Res.bind, if_true] at p' ⊢
            refine ⟨mu3, r1, M2, R3, S3.stp R2 s3, ?_⟩
            cases ee : selt cl r1 M2 with
            | err c M4 => rw [ee] at p'; exact p'.elim
            | bad => rw [ee] at p'; exact p'.elim
            | ok y M4 =>
              rw [ee] at p'
              intro mu4 H4 s4 R4 w hw
              have hD4 : H4 D = some (.lst av) := s4.keep _ _ hD3 nm3
              obtain ⟨tt, R5, s5, hb⟩ := R4.box hw s4
              have nm5 : D ∉ mu4 ++ tt := s5.out hD3 nm3
              have ha5 : Rvs X.K (mu4 ++ tt) H4 acc av := ha3.stp R3 s5
              simp only at p'
              split at p'
              · rename_i hl
                refine ⟨av, hD4, by rw [← ha5.length]; exact hl, xs.length - (i + 1), by omega, rfl, hlt, mu4 ++ tt, _, acc ++ [(MI.box y M4).1], av ++ [w], R5.updL hD4 nm5, (st3.trans s5 R3).updL nD, nm5, upd_same, (ha5.append (Rvs.one hb)).updL hD4, p'⟩
              · exact p'.elim
      · exact p'.elim
    · exact p'.elim
  · have e : i = xs.length := by omega
    subst e
    rw [List.drop_length] at p'
    unfold compL at p'
    split at p'
    · rename_i ck
      refine .inl ⟨wk.stop mu' H' M' st R' ck, ?_⟩
      exact p' mu' H' (st1.trans st R1) R' (.ref D) ⟨D, rfl, ⟨av, hD, ha⟩, nm, st1.free R1 nD⟩
    · exact p'.elim
theorem takes_no {X : Cx} : Takes X Wno := fun u s' ⟨_, _, _, _, _, _, _, _, _, _, _, _, _, _, _, _, w⟩ => w.elim
/-- a comprehension's tests -/
def SndTs (X : Cx) (CL : CLs) (cl : Cl) (ifs : List Expr) (s : STt) : Prop := PTs X ifs (rT X.K CL Wno cl s)
theorem tsnd_nil : SndTs X CL cl [] MI.tYes := ⟨fun pins s σ H Q I ⟨mu, r, M, hm, hs, p⟩ => (pts_nil (X := X)).run pins s σ H Q I (p.here hm)⟩
theorem tsnd_one {c : Expr} {s : STt} (h : SndT X CL cl c s) : SndTs X CL cl [c] s := pts_one (h Wno takes_no)
variable {elt tg iter : Expr} {ifs : List Expr} {scope : Scope} {own : List (Str × Nat)} {pos spos : Pos} {selt : SE} {stst : STt} {t : Tg} {si : SI}
abbrev Blk (X : Cx) (scope : Scope) (s : Shared) (H : Hp) (C : Addr) (cc : List (Str × Addr)) (fp : List Addr) : Cx := X.blk s H scope (compEnvC scope cc C X.env) fp
theorem snd_comp (hc : X.calm = true) (hN : X.N.Nodup) (hi : SndI X CL cl tg iter si) (ok : BlkOk X.N X.env.scope scope own) (hix : ∀ i ∈ t.ix, i ∈ own.map (·.2))
    (hg : ∀ s H C cc fp, SndTg (Blk X scope s H C cc fp) tg t) (ht : ∀ s H C cc fp, SndTs (Blk X scope s H C cc fp) CL cl ifs stst) (he : ∀ s H C cc fp, SndE (Blk X scope s H C cc fp) CL cl elt selt)
    (hs : ∀ x, foldedSetIterable iter X.env x = pure x) : SndE X CL cl (.ListComp elt [⟨tg, iter, ifs, 0⟩] scope pos) (eComp selt stst t (own.map (·.2)) si) := fun W tk =>
  pe_imp (pe_lc (g := gTg X.K t) (tt := rT X.K CL Wno cl stst) (te := rE X.K CL Wno cl selt) hc hN (hi W tk) ok hg ht (fun s H C cc fp => he s H C cc fp Wno takes_no) hs) fun σ H Q h => lc_read hix h
theorem stm_setComp {i : Nat} {y : Str} {py : Pos} (hc : X.calm = true) (hN : X.N.Nodup) (hy : X.N[i]? = some y) (hyl : X.env.scope.names.lookup y = some .local) (hsw : swapsWith (.ListComp elt [⟨tg, iter, ifs, 0⟩] scope pos) (some (.Name y py)) spos.line X.env = pure true)
    (hi : SndI X CL cl tg iter si) (ok : BlkOk X.N X.env.scope scope own) (hix : ∀ i ∈ t.ix, i ∈ own.map (·.2))
    (hg : ∀ s H C cc fp, SndTg (Blk X scope s H C cc fp) tg t) (ht : ∀ s H C cc fp, SndTs (Blk X scope s H C cc fp) CL cl ifs stst) (he : ∀ s H C cc fp, SndE (Blk X scope s H C cc fp) CL cl elt selt)
    (hs : ∀ x, foldedSetIterable iter X.env x = pure x) : SndS X CL cl (.Assign [.Name y py] (.ListComp elt [⟨tg, iter, ifs, 0⟩] scope pos) spos) (sSet i (eComp selt stst t (own.map (·.2)) si)) := fun W tk po => by
  refine ps_imp (ps_setLc (g := gTg X.K t) (tt := rT X.K CL Wno cl stst) (te := rE X.K CL Wno cl selt) hc hN hy hyl hsw (hi W tk) ok hg ht (fun s H C cc fp => he s H C cc fp Wno takes_no) hs) fun D σ H h => ?_
  obtain ⟨mu, r, M, hm, hs, p⟩ := h
  refine lc_read hix (rE_stm hm hs Stp.refl p fun x v M1 mu1 H1 n1 h1 p1 => ?_)
  obtain ⟨tt, R2, s2, hv⟩ := n1.rm.box h1 n1.st
  exact p1.here s2 R2 ((n1.rs.ext tt).set hv)
end
end MI
end
section
set_option Elab.async false
set_option linter.all false
set_option maxRecDepth 100000
set_option maxHeartbeats 4000000
namespace MI
open PySem PySem.Spec PyProof.Rows L2
section
variable {K : PySem.W.Frag} {CL : CLs} {W : WX} {σ : Sg} {mu mu' mu1 mu0 : List Addr} {H H' H0 H1 : Hp} {M M' M1 : Mem} {r : Env} {cl : Cl}
/-! ### back to fewer handles -/
mutual
theorem Rv.bel : ∀ {d : D} {v : V}, Rv K mu H d v → d.bel mu.length = true
  | .non, _, _ | .bl _, _, _ | .int _, _, _ | .str _, _, _ => rfl
  | .tup ds, _, ⟨a, vs, e, h, q⟩ => Rvs.bel q
  | .ro ds, _, ⟨a, vs, e, h, q⟩ => Rvs.bel q
  | .hdl n, _, ⟨a, e, q⟩ => decide_eq_true (List.getElem?_eq_some_iff.mp e).1
theorem Rvs.bel : ∀ {ds : List D} {vs : List V}, Rvs K mu H ds vs → D.bels mu.length ds = true
  | [], _, _ => rfl
  | _ :: _, _, ⟨v, r, e, h, q⟩ => by
    unfold D.bels
    rw [Rv.bel h, Rvs.bel q]; rfl
end
theorem Rfs.bel : ∀ {ds : List (Str × D)} {vs : List (Str × V)}, Rfs K mu H ds vs → (ds.all fun f => f.2.bel mu.length) = true
  | [], _, _ => rfl
  | _ :: _, _, ⟨v, r, e, h, q⟩ => by rw [List.all_cons, h.bel, Rfs.bel q]; rfl
theorem Rdt.bel : ∀ {ds : List (D × D)} {vs : List Ent}, Rdt K mu H ds vs → (ds.all fun kv => kv.1.bel mu.length && kv.2.bel mu.length) = true
  | [], _, _ => rfl
  | _ :: _, _, ⟨kv, b, u, v, r, e, h0, h, h2, h3, h4, q⟩ => by rw [List.all_cons, h.bel, h4.bel, Rdt.bel q]; rfl
theorem Ro.bel {o : O} {a : Addr} (h : Ro K CL mu H o a) : o.bel mu.length = true := by
  cases o with
  | lst ds => obtain ⟨vs, e, q⟩ := h; exact q.bel
  | dic fz kvs => obtain ⟨vs, e, q⟩ := h; exact q.bel
  | ins c fs => obtain ⟨C, dx, fs', c', e, q⟩ := h; exact q.bel
mutual
theorem Rv.back {t : List Addr} : ∀ {d : D} {v : V}, Rv K (mu ++ t) H d v → d.bel mu.length = true → Rv K mu H d v
  | .non, _, h, _ => h
  | .bl _, _, h, _ => h
  | .int _, _, h, _ => h
  | .str _, _, h, _ => h
  | .tup ds, _, ⟨a, vs, e, h, q⟩, b => ⟨a, vs, e, h, Rvs.back q b⟩
  | .ro ds, _, ⟨a, vs, e, h, q⟩, b => ⟨a, vs, e, h, Rvs.back q b⟩
  | .hdl n, _, ⟨a, e, q⟩, b => ⟨a, by rw [← e, List.getElem?_append_left (of_decide_eq_true b)], q⟩
theorem Rvs.back {t : List Addr} : ∀ {ds : List D} {vs : List V}, Rvs K (mu ++ t) H ds vs → D.bels mu.length ds = true → Rvs K mu H ds vs
  | [], _, h, _ => h
  | _ :: _, _, ⟨v, r, e, h, q⟩, b => by
    simp only [D.bels, Bool.and_eq_true] at b
    exact ⟨v, r, e, Rv.back h b.1, Rvs.back q b.2⟩
end
theorem Rfs.back {t : List Addr} : ∀ {ds : List (Str × D)} {vs : List (Str × V)}, Rfs K (mu ++ t) H ds vs → (ds.all fun f => f.2.bel mu.length) = true → Rfs K mu H ds vs
  | [], _, h, _ => h
  | _ :: _, _, ⟨v, r, e, h, q⟩, b => by
    simp only [List.all_cons, Bool.and_eq_true] at b
    exact ⟨v, r, e, h.back b.1, Rfs.back q b.2⟩
theorem Rdt.back {t : List Addr} : ∀ {ds : List (D × D)} {vs : List Ent}, Rdt K (mu ++ t) H ds vs → (ds.all fun kv => kv.1.bel mu.length && kv.2.bel mu.length) = true → Rdt K mu H ds vs
  | [], _, h, _ => h
  | _ :: _, _, ⟨kv, b, u, v, r, e, h0, h, h2, h3, h4, q⟩, bb => by
    simp only [List.all_cons, Bool.and_eq_true] at bb
    exact ⟨kv, b, u, v, r, e, h0, h.back bb.1.1, h2, h3, h4.back bb.1.2, Rdt.back q (by simpa only [Bool.and_eq_true] using bb.2)⟩
theorem Ro.back {t : List Addr} {o : O} {a : Addr} (h : Ro K CL (mu ++ t) H o a) (b : o.bel mu.length = true) : Ro K CL mu H o a := by
  cases o with
  | lst ds => obtain ⟨vs, e, q⟩ := h; exact ⟨vs, e, q.back b⟩
  | dic fz kvs => obtain ⟨vs, e, q⟩ := h; exact ⟨vs, e, q.back b⟩
  | ins c fs => obtain ⟨C, dx, fs', c', e, q⟩ := h; exact ⟨C, dx, fs', c', e, q.back b⟩
theorem Stp.back (s : Stp mu H mu' H') : Stp mu H mu H' := ⟨⟨[], by simp⟩, fun a h => .inl h, s.keep, s.frz⟩
theorem Rm.back (R : Rm K CL mu H M) (s : Stp mu H mu' H') (R' : Rm K CL mu' H' M') (e : M'.take M.length = M) : Rm K CL mu H' M := by
  refine ⟨R.len, R.nd, fun n a o e1 e2 => ?_⟩
  obtain ⟨t, q⟩ := s.pre
  have hn : n < M.length := (List.getElem?_eq_some_iff.mp e2).1
  have e3 : M'[n]? = some o := by
    rw [← e, List.getElem?_take] at e2
    simpa only [if_pos hn] using e2
  have h := R'.ob n a o (s.get e1) e3
  rw [q] at h
  exact h.back (R.ob n a o e1 e2).bel
/-- what is handed back -/
theorem fin_ok {m : Mode} {x : RV} {k : RV → Mem → List Addr → Hp → Prop} (R : Rm K CL mu H M) (h : Pst K CL W σ mu H (fin m M x M') k) (s : Stp mu H mu' H') (R' : Rm K CL mu' H' M') {v : V} (hv : Rr K CL mu' H' H x v) :
    ∃ y M2 mu2, Stp mu H mu2 H' ∧ Rm K CL mu2 H' M2 ∧ Rr K CL mu2 H' H y v ∧ k y M2 mu2 H' := by
  cases m with
  | keep => exact ⟨x, M', mu', s, R', hv, h mu' H' s R'⟩
  | pure =>
    unfold fin at h
    simp only at h
    split at h
    · rename_i e
      have R2 := R.back s R' e
      have s2 := s.back
      obtain ⟨t, q⟩ := s.pre
      have go : ∀ y : RV, Pst K CL W σ mu H (.ok y M) k → Rr K CL mu H' H y v → ∃ y M2 mu2, Stp mu H mu2 H' ∧ Rm K CL mu2 H' M2 ∧ Rr K CL mu2 H' H y v ∧ k y M2 mu2 H' := fun y hy hr => ⟨y, M, mu, s2, R2, hr, hy mu H' s2 R2⟩
      split at h
      · rename_i n
        split at h
        · rename_i hn
          obtain ⟨a, e1, e2⟩ := hv
          refine go _ h ⟨a, ?_, e2⟩
          rw [q, List.getElem?_append_left (by rw [R.len]; exact hn)] at e1
          exact e1
        · rename_i hn
          split at h
          · rename_i o eo
            split at h
            · rename_i hb
              obtain ⟨a, e1, e2⟩ := hv
              have ho := R'.ob n a o e1 eo
              rw [q] at ho
              have na : a ∉ mu := fun ha => by
                obtain ⟨i, hi, ei⟩ := List.mem_iff_getElem.mp ha
                have e3 : mu'[i]? = some a := by rw [q, List.getElem?_append_left hi, List.getElem?_eq_getElem hi, ei]
                obtain ⟨h1, q1⟩ := List.getElem?_eq_some_iff.mp e1
                obtain ⟨h2, q2⟩ := List.getElem?_eq_some_iff.mp e3
                have : n = i := (List.getElem_inj R'.nd).mp (q1.trans q2.symm)
                rw [this, ← R.len] at hn
                exact hn hi
              refine go _ h ⟨a, e2, ho.back (by rw [R.len]; exact hb), na, ?_⟩
              exact (s.new a (List.mem_of_getElem? e1)).resolve_left na
            · exact h.elim
          · exact h.elim
      · rename_i d _
        split at h
        · rename_i hb
          refine go _ h ?_
          have hv' : Rv K mu' H' d v := hv
          rw [q] at hv'
          exact hv'.back (by rw [R.len]; exact hb)
        · exact h.elim
      · rename_i o
        split at h
        · rename_i hb
          obtain ⟨a, e1, h1, h2, h3⟩ := hv
          rw [q] at h1 h2
          exact go _ h ⟨a, e1, h1.back (by rw [R.len]; exact hb), fun z => h2 (List.mem_append_left _ z), h3⟩
        · exact h.elim
    · exact h.elim
/-- a function's body, run: its end is the promise's -/
theorem body_ok {m : Mode} {res : SR} {Q : VK} {E : XK} (R : Rm K CL mu H M) (h : Pst K CL (fun c d _ H' => E c d H') σ mu H (finS m M res) fun x _ mu' H' => ∀ v, Rr K CL mu' H' H x v → Q v H') :
    PsS K CL (fun c d _ H' => E c d H') mu H res { nx := fun _ H' => Q .non H', rt := Q } := by
  cases res with
  | nx r M' =>
    intro mu' H' σ' s R' _
    obtain ⟨y, M2, mu2, a, b, c, d⟩ := fin_ok R h s R' (x := .d .non) (v := .non) rfl
    exact d _ c
  | ret x M' =>
    intro mu' H' v s R' hv
    obtain ⟨y, M2, mu2, a, b, c, d⟩ := fin_ok R h s R' hv
    exact d _ c
  | err c r M' =>
    intro mu' H' σ' C hC s R' _
    cases m with
    | keep => exact h mu' H' C hC s R'
    | pure =>
      unfold finS at h
      simp only at h
      split at h
      · rename_i e
        exact h mu H' C hC s.back (R.back s R' e)
      · exact h.elim
  | bad => exact h
theorem Rst.start {ds : List D} {vs : List V} {ns : Nat} {N : List Str} (h : Rvs K mu H ds vs) (hN : N.length = ns) : Rst K mu H (ds.map some ++ List.replicate (ns - ds.length) none) (L2.start N vs) := by
  have hl := h.length
  refine ⟨by simp [L2.start, hN, hl], fun i d e => ?_⟩
  by_cases hi : i < ds.length
  · rw [List.getElem?_append_left (by simpa using hi), List.getElem?_map] at e
    obtain ⟨d', e1, e2⟩ := Option.map_eq_some_iff.mp e
    have e3 : d' = d := Option.some.inj e2
    subst e3
    obtain ⟨v, h1, h2⟩ := h.get e1
    refine ⟨v, ?_, h2⟩
    unfold L2.start
    rw [List.getElem?_append_left (by simpa [← hl] using hi), List.getElem?_map, h1]
    rfl
  · rw [List.getElem?_append_right (by simpa using hi)] at e
    obtain ⟨_, e1⟩ := List.getElem?_eq_some_iff.mp e
    simp at e1
end
/-! ### a def keeps its promise -/
section
variable {P : Program} {w : World} {K : PySem.W.Frag} {mg : Str → Option Value} {base : Heap} {CL : CLs}
/-- the context in which a def's body stands -/
abbrev CxF (P : Program) (w : World) (K : PySem.W.Frag) (mg : Str → Option Value) (base : Heap) (N : List Str) (qual : Str) (sc : Scope) (f : Addr) (cdv : Value) (A : Around) (outer : List PySem.Env) (s : Shared) (H : Hp) (E : XK) : Cx := cxOf (CX P w) P w K mg base N qual sc f cdv A outer s H E
theorem fn_ok {T : Tab} {n : Nat} {x name qual : Str} {st : Stmt} {F : Fn} {f : Addr} {fd : FuncData} {N ps : List Str} (FF : Fun K name qual st f fd) (S : FnScope N ps (defScope st)) (hT : T.lookup x = some F) (har : F.ar = ps.length) (hns : N.length = F.ns)
    (snd : ∀ (cdv : Value) (A : Around) (outer : List PySem.Env) (s : Shared) (H : Hp) (E : XK), Room n (A.deeper (envOfC qual (defScope st) s.heap.objs.size f cdv)) →
      SndB (CxF P w K mg base N qual (defScope st) f cdv A outer s H E) CL (run T n) (defBody st) F.body) :
    FnOk P w K mg base (CX P w) (n + 1) f fd ps (spOf K CL (run T (n + 1)) x F.ar) := by
  refine FF.okX S (fun vs H Q E h => by rw [← har]; exact h.1) fun cdv A outer s H vs Q E hr hsp => ?_
  obtain ⟨hl, mu, ds, M, R, q, h⟩ := hsp
  refine ⟨rS K CL (fun c d _ H' => E c d H') (run T n) F.body, snd cdv A outer s H E hr _ (takes_of rfl rfl rfl rfl) (passes_of rfl), mu, _, M, R, Rst.start q hns, ?_⟩
  refine body_ok (σ := []) (m := F.mode) R ?_
  have hl2 : ds.length = F.ar := by have := q.length; have hh : vs.length = F.ar := hl; omega
  simp only [run, hT, Fn.run, if_pos hl2] at h
  exact h
end
end MI
end
section
set_option Elab.async false
set_option linter.all false
set_option maxRecDepth 100000
set_option maxHeartbeats 4000000
/-! MId: displays of dicts -/
namespace MI
open PySem PySem.Spec PyProof.Rows L2
section
variable {K : PySem.W.Frag} {CL : CLs} {mu mu1 : List Addr} {H H1 : Hp} {M : Mem}
theorem ne_mut {a Da : Addr} {u u0 : HO} (h : H a = some u) (n : isMut u = false) (hD : H Da = some u0) (hm : isMut u0 = true) : a ≠ Da := fun e => by
  subst e; rw [h] at hD; cases hD; rw [n] at hm; cases hm
theorem SqT.updM {a Da : Addr} {vs : List V} {u0 u : HO} (hD : H Da = some u0) (hm : isMut u0 = true) (h : SqT K H a vs) : SqT K (upd H Da u) a vs := by
  rcases h with (h | ⟨o, h⟩) | h
  · exact .inl (.inl (by rw [upd_ne (ne_mut h rfl hD hm)]; exact h))
  · exact .inl (.inr ⟨o, by rw [upd_ne (ne_mut h rfl hD hm)]; exact h⟩)
  · exact .inr h
theorem SqF.updM {a Da : Addr} {vs : List V} {u0 u : HO} (hD : H Da = some u0) (hm : isMut u0 = true) (h : SqF K H a vs) : SqF K (upd H Da u) a vs := by
  rcases h with ⟨o, h⟩ | h
  · exact .inl ⟨o, by rw [upd_ne (ne_mut h rfl hD hm)]; exact h⟩
  · exact .inr h
mutual
theorem Rv.updM {Da : Addr} {u0 u : HO} (hD : H Da = some u0) (hm : isMut u0 = true) : ∀ {d : D} {v : V}, Rv K mu H d v → Rv K mu (upd H Da u) d v
  | .non, _, h => h
  | .bl _, _, h => h
  | .int _, _, h => h
  | .str _, _, h => h
  | .tup ds, _, ⟨a, vs, e, h, q⟩ => ⟨a, vs, e, SqT.updM hD hm h, Rvs.updM hD hm q⟩
  | .hdl n, _, h => h
  | .ro ds, _, ⟨a, vs, e, h, q⟩ => ⟨a, vs, e, SqF.updM hD hm h, Rvs.updM hD hm q⟩
theorem Rvs.updM {Da : Addr} {u0 u : HO} (hD : H Da = some u0) (hm : isMut u0 = true) : ∀ {ds : List MI.D} {vs : List V}, Rvs K mu H ds vs → Rvs K mu (upd H Da u) ds vs
  | [], _, h => h
  | _ :: _, _, ⟨v, r, e, h, q⟩ => ⟨v, r, e, Rv.updM hD hm h, Rvs.updM hD hm q⟩
end
theorem Rfs.updM {Da : Addr} {u0 u : HO} (hD : H Da = some u0) (hm : isMut u0 = true) : ∀ {ds : List (Str × MI.D)} {vs : List (Str × V)}, Rfs K mu H ds vs → Rfs K mu (upd H Da u) ds vs
  | [], _, h => h
  | _ :: _, _, ⟨v, r, e, h, q⟩ => ⟨v, r, e, h.updM hD hm, Rfs.updM hD hm q⟩
theorem Rdt.updM {Da : Addr} {u0 u : HO} (hD : H Da = some u0) (hm : isMut u0 = true) : ∀ {ds : List (MI.D × MI.D)} {vs : List Ent}, Rdt K mu H ds vs → Rdt K mu (upd H Da u) ds vs
  | [], _, h => h
  | _ :: _, _, ⟨kv, b, w, v, r, e, h0, h, h2, h3, h4, q⟩ => ⟨kv, b, w, v, r, e, h0, h.updM hD hm, h2, h3, h4.updM hD hm, Rdt.updM hD hm q⟩
theorem Rm.updM {Da : Addr} {u0 u : HO} (hD : H Da = some u0) (hm : isMut u0 = true) (R : Rm K CL mu H M) (n : Da ∉ mu) : Rm K CL mu (upd H Da u) M := by
  refine ⟨R.len, R.nd, fun m a o e1 e2 => ?_⟩
  have na : a ≠ Da := fun e => n (e ▸ List.mem_of_getElem? e1)
  have h := R.ob m a o e1 e2
  cases o with
  | lst ds => obtain ⟨vs, e, q⟩ := h; exact ⟨vs, by rw [upd_ne na]; exact e, q.updM hD hm⟩
  | dic fz kvs => obtain ⟨vs, e, q⟩ := h; exact ⟨vs, e.at (upd_ne na), q.updM hD hm⟩
  | ins c fs => obtain ⟨C, dx, fs', c', e, q⟩ := h; exact ⟨C, dx, fs', c', by rw [upd_ne na]; exact e, q.updM hD hm⟩
end
def flatV2 : List (V × V) → List V
  | [] => []
  | p :: r => p.1 :: p.2 :: flatV2 r
section
variable {X : Cx} {CL : CLs} {cl : Cl}
theorem pairUp_ok {K : PySem.W.Frag} {P : Program} {w : World} {mu : List Addr} {H : Hp} : ∀ (ps : List (V × V)) (ws : List (Value × Value)) (ds : List D) (acc kvs : List (D × D)) (acc' : List Ent), VV ps ws → Rvs K mu H ds (flatV2 ps) → Rdt K mu H acc acc' → (acc.all fun p => isSk p.1) = true → pairUp ds acc = some kvs →
    ∃ (rs : List (NestedKey × Value)) (zs : List Ent), Carries (flatKind P w) ws rs ∧ Rdt K mu H kvs zs ∧ merged (xsS acc') rs = xsS zs ∧ (kvs.all fun p => isSk p.1) = true ∧ zs.length ≤ acc'.length + ps.length
  | [], ws, ds, acc, kvs, acc', hv, h, ha, al, e => by
    cases hv
    cases ds with
    | nil => simp only [pairUp] at e; cases e; exact ⟨[], acc', trivial, ha, rfl, al, Nat.le_refl _⟩
    | cons d ds => obtain ⟨v, r, e1, _⟩ := h; simp [flatV2] at e1
  | p :: ps, ws, ds, acc, kvs, acc', hv, h, ha, al, e => by
    cases ds with
    | nil => have : flatV2 (p :: ps) = [] := h; simp [flatV2] at this
    | cons d ds =>
      obtain ⟨v, r, e1, h1, h2⟩ := h
      cases ds with
      | nil => have h3 : r = [] := h2; subst h3; simp [flatV2] at e1
      | cons d2 ds =>
        obtain ⟨v2, r2, e2, h3, h4⟩ := h2
        subst e2
        simp only [flatV2, List.cons.injEq] at e1
        obtain ⟨q1, q2, q3⟩ := e1
        simp only [pairUp] at e
        split at e
        · rename_i hk
          cases hv with
          | @cons _ wv _ ws hw tw =>
            obtain ⟨w1, w2⟩ := wv
            have hw1 : RelV v w1 := by rw [← q1]; exact hw.1
            have hw2 : RelV v2 w2 := by rw [← q2]; exact hw.2
            have rp := ha.put (.inl hk) hw1 h1 hw2 h3
            obtain ⟨rs, zs, z1, z2, z3, z4, z5⟩ := pairUp_ok ps ws ds _ kvs _ tw (q3 ▸ h4) rp (dput_all al hk) e
            refine ⟨(toNk d, w2) :: rs, zs, ⟨sk_is hk h1 hw1, rfl, z1⟩, z2, ?_, z4, ?_⟩
            · rw [← z3]
              show merged (stored (xsS acc') (toNk d) w2) rs = _
              rw [S_store acc' (toNk d) w1 w2]
            · have := eStore_len acc' (toNk d) w1 w2
              simp only [List.length_cons]; omega
        · cases e
/-- {k: v, ..}; the new dict stands empty while the pairs are made -/
def tDispF (K : PySem.W.Frag) (w : World) (trs : List (TE × TE)) : TE := fun σ H Q => ∀ p, H p = none → tPairs trs σ (upd H p (dictO w p [])) fun ps H2 => H2 p = some (dictO w p []) ∧ ∃ mu ds kvs, Rvs K mu H2 ds (flatV2 ps) ∧ pairUp ds [] = some kvs ∧ ps.length ≤ 15 ∧ ∀ zs, Rdt K mu H2 kvs zs → Q (.ref p) (upd H2 p (dictO w p zs))
theorem pe_dispF {X : Cx} {w : World} (hw : w = X.w) {pos : Pos} {keys : List (Option Expr)} {values : List Expr} {trs : List (TE × TE)} (h : PPs X pos keys values trs) (hall : keys.all (·.isSome) = true) (hl : keys.length = values.length) (h0 : keys ≠ [])
    (h15 : keys.length ≤ 15) : PE X (.Dict keys values pos) (tDispF X.K w trs) := by
  subst hw
  refine ⟨fun pins s σ H Q I q => ?_⟩
  have hn := I.hok.fresh (Nat.le_refl s.heap.objs.size)
  have I1 := I.laid (a := s.heap.objs.size) (o := dictO X.w s.heap.objs.size []) (h' := s.heap.push { cls := .type "dict", data := .dict #[] }) (t' := s.toks) (fun _ _ q => Heap.get?_push_of_some _ q) (Nat.le_refl _)
    (dictO_ok ⟨⟨_, #[], 0, Heap.get?_push_size _ rfl, ⟨rfl, rfl, rfl⟩, rfl, rfl⟩, List.nodup_nil, beq_eq_false_iff_ne.mpr (Ne.symm (Nat.ne_of_lt I.big)), Nat.zero_le _⟩)
  refine wpAny_Dict_walk (knd := flatKind X.prog X.w) hall hl h0 h15 (thn (h.run pins _ σ _ _ I1 (q _ hn)) fun ws s2 ⟨ps, H2, I2, rel, e, mu, ds, kvs, hv, ep, h15', q2⟩ => ?_)
  obtain ⟨rs, zs, z1, z2, z3, z4, z5⟩ := pairUp_ok (P := X.prog) (w := X.w) ps ws ds [] kvs [] rel hv rfl rfl ep
  have d0 := lk_get (fz := false) I2 e
  refine ⟨rs, z1, d0.S (P := X.prog) (K := X.K) (H := H) (mu := mu) (ds := []) rfl rfl, fun h' m hs => ?_⟩
  obtain ⟨ys, y1, y2⟩ := left_S (t' := s2.toks + ws.length) I2 e d0.sy m hs z3 z2 z4 (by simp only [List.length_nil] at z5; rw [sizeLine_eq]; omega)
  exact ⟨.ref s.heap.objs.size, _, y2, rfl, q2 ys y1⟩
def trsOf (X : Cx) (CL : CLs) (cl : Cl) (W : WX) : List (SE × SE) → List (TE × TE)
  | [] => []
  | p :: r => (rE X.K CL W cl p.1, rE X.K CL W cl p.2) :: trsOf X CL cl W r
theorem pairs_go {W : WX} {σ : Sg} {mu0 : List Addr} {H00 : Hp} {A : Type} {k : A → Mem → List Addr → Hp → Prop} : ∀ (ps : List (SE × SE)) (f : List D → Mem → Res A) (mu : List Addr) (H : Hp) (r : Env) (M : Mem) (Q : List (V × V) → Hp → Prop), Rm X.K CL mu H M → Rst X.K mu H r σ → Stp mu0 H00 mu H →
    Pst X.K CL W σ mu0 H00 ((dPairs ps cl r M).bind f) k →
    (∀ ds vs M1 mu1 H1, Nxt X.K CL σ mu H r M1 mu1 H1 → Rvs X.K mu1 H1 ds (flatV2 vs) → Pst X.K CL W σ mu0 H00 (f ds M1) k → Q vs H1) → tPairs (trsOf X CL cl W ps) σ H Q
  | [], f, mu, H, r, M, Q, hm, hs, s0, p, q => q [] [] M mu H ⟨hm, hs, Stp.refl⟩ rfl p
  | pr :: ps, f, mu, H, r, M, Q, hm, hs, s0, p, q => by
    have p' : Pst X.K CL W σ mu0 H00 ((pr.1 cl r M).bind fun x M1 => (pr.2 cl r (box x M1).2).bind fun y M2 => (dPairs ps cl r (box y M2).2).bind fun ds M3 => f ((box x M1).1 :: (box y M2).1 :: ds) M3) k := by
      have e : ((dPairs (pr :: ps) cl r M).bind f) = ((pr.1 cl r M).bind fun x M1 => (pr.2 cl r (box x M1).2).bind fun y M2 => (dPairs ps cl r (box y M2).2).bind fun ds M3 => f ((box x M1).1 :: (box y M2).1 :: ds) M3) := by
        simp only [dPairs, dCons]
        cases pr.1 cl r M with
        | ok x M1 =>
          simp only [Res.bind]
          cases pr.2 cl r (box x M1).2 with
          | ok y M2 =>
            simp only []
            cases dPairs ps cl r (box y M2).2 <;> rfl
          | err => rfl
          | bad => rfl
        | err => rfl
        | bad => rfl
      rw [← e]; exact p
    refine rE_thenB hm hs s0 p' fun x v M1 mu1 H1 n1 h1 p1 => ?_
    obtain ⟨t1, R2, s2, hv⟩ := n1.rm.box h1 n1.st
    refine rE_thenB R2 (n1.rs.ext t1) (s0.trans s2 hm) p1 fun y u M3 mu3 H3 n3 h3 p3 => ?_
    obtain ⟨t2, R4, s4, hu⟩ := n3.rm.box h3 n3.st
    have s5 := s2.trans s4 R2
    refine pairs_go ps _ (mu3 ++ t2) H3 r _ _ R4 (n3.rs.ext t2) (s0.trans s5 hm) p3 fun ds vs M6 mu6 H6 n6 h6 p6 => ?_
    refine q _ ((v, u) :: vs) M6 mu6 H6 ⟨n6.rm, n6.rs, s5.trans n6.st R4⟩ (show Rvs X.K mu6 H6 (_ :: _ :: ds) (v :: u :: flatV2 vs) from ⟨v, _, rfl, (hv.stp R2 s4).stp R4 n6.st, u, _, rfl, hu.stp R4 n6.st, h6⟩) p6
/-- a display's text -/
inductive SndPs (X : Cx) (CL : CLs) (cl : Cl) : List (Option Expr) → List Expr → List (SE × SE) → Prop where
  | nil : SndPs X CL cl [] [] []
  | cons {k v : Expr} {sk sv : SE} {ks : List (Option Expr)} {vs : List Expr} {ps : List (SE × SE)} (hk : SndE X CL cl k sk) (hv : SndE X CL cl v sv) (hr : SndPs X CL cl ks vs ps) : SndPs X CL cl (some k :: ks) (v :: vs) ((sk, sv) :: ps)
theorem SndPs.pps {W : WX} (tk : Takes X W) {pos : Pos} {ks : List (Option Expr)} {vs : List Expr} {ps : List (SE × SE)} (h : SndPs X CL cl ks vs ps) : PPs X pos ks vs (trsOf X CL cl W ps) ∧ ks.all (·.isSome) = true ∧ ks.length = vs.length ∧ ks.length = ps.length := by
  induction h with
  | nil => exact ⟨pps_nil, rfl, rfl, rfl⟩
  | cons hk hv hr ih => exact ⟨pps_cons (hk W tk) (hv W tk) ih.1, by rw [List.all_cons, ih.2.1]; rfl, by simp [ih.2.2.1], by simp [ih.2.2.2]⟩
theorem snd_dic (hw : CL.w = X.w) {pos : Pos} {ks : List (Option Expr)} {vs : List Expr} {ps : List (SE × SE)} (h : SndPs X CL cl ks vs ps) (h0 : ks ≠ []) (h15 : ks.length ≤ 15) : SndE X CL cl (.Dict ks vs pos) (eDic (dPairs ps)) := fun W tk => by
  obtain ⟨z1, z2, z3, z4⟩ := h.pps tk (pos := pos)
  refine pe_imp (pe_dispF hw z1 z2 z3 h0 h15) fun σ H Q ⟨mu, r, M, hm, hs, p⟩ => fun a na => ?_
  have sa : Stp mu H mu (upd H a (dictO CL.w a [])) := Stp.laid hm na
  have Ra := hm.laid (u := dictO CL.w a []) na
  refine pairs_go ps _ mu _ r M _ Ra (hs.stp hm sa) sa p fun ds vs M1 mu1 H1 n1 h1 p1 => ?_
  split at p1
  · rename_i kvs e
    split at p1
    · rename_i hl
      have ha : H1 a = some (dictO CL.w a []) := n1.st.keep a _ upd_same (hm.fresh na)
      have na1 : a ∉ mu1 := n1.st.out upd_same (hm.fresh na)
      refine ⟨ha, mu1, ds, kvs, h1, e, ?_, fun zs rz => ?_⟩
      · have e1 : ds.length = 2 * vs.length := by
          rw [h1.length]
          have : ∀ l : List (V × V), (flatV2 l).length = 2 * l.length := fun l => by
            induction l with
            | nil => rfl
            | cons x l ih => simp only [flatV2, List.length_cons, ih]; omega
          exact this vs
        omega
      · have st2 : Stp mu H mu1 (upd H1 a (dictO CL.w a zs)) := (sa.trans n1.st Ra).updL na
        have R3 : Rm X.K CL mu1 (upd H1 a (dictO CL.w a zs)) M1 := n1.rm.updM ha rfl na1
        exact p1 mu1 _ st2 R3 (.ref a) ⟨a, rfl, ⟨zs, upd_same, rz.updM ha rfl⟩, na1, na⟩
    · exact p1.elim
  · exact p1.elim
end
end MI
end
section
set_option Elab.async false
set_option linter.all false
set_option maxRecDepth 100000
set_option maxHeartbeats 4000000
/-! MIo: range(i, j, c), whatever its bounds -/
namespace MI
open PySem PySem.Spec PyProof.Rows L2
theorem turn_longC {P : Program} {w : World} {K : PySem.W.Frag} {tg : Expr} (it : Addr) (lo c : Int) (n : Nat) : Turn P w K tg (Itc lo c n) [it] it (fun i h => IsLongIter h it (lo + (i : Nat) * c) ((n : Int) - (i : Nat)) c) where
  mem := by simp
  obj := fun i h st b hb => by
    have e : b = it := by simpa using hb
    subst e
    exact ⟨_, st, fun v z => nomatch z⟩
  keep := fun i h h' st k => k it (by simp) _ st
  item := by
    intro X hP hw hK hc i pins s σ H E I hf st hg
    subst hP hw hK
    obtain ⟨f0, f1, f2, f3, f4, f5⟩ := hf it (by simp)
    have W := Walks.longrange (prog := X.prog) (w := X.w) (I.ok.hd hc) it lo c n
    refine W.item i s _ _ hg st fun v h' tk hv st' kk => ?_
    obtain ⟨t, rfl⟩ := hv
    have I1 : Inv X pins σ H { s with heap := h', toks := tk } := I.turned (fun b o hb e => kk b o (by simpa using hb) e) f0 f1 f3 f4 f5
    exact ⟨_, rfl, go_of (s := { s with heap := h', toks := tk }) (n := "longrange_iterator") st' rfl rfl (by decide) ⟨.int (lo + (i : Nat) * c), H, I1, ⟨t, rfl⟩, ⟨rfl, rfl⟩, st', fun b hb => (hf b hb).1⟩⟩
  done := by
    intro X hP hw hK hc i pins s σ H E I hf st hg
    subst hP hw hK
    obtain ⟨f0, f1, f2, f3, f4, f5⟩ := hf it (by simp)
    exact wpAny_pyNext_long_end (I.ok.hd hc) st (by have : n ≤ i := hg; omega) fun h' eb => ⟨rfl, I.turned (t' := s.toks) (fun b o hb e => eb b o hb e) f0 f1 f3 f4 f5⟩
  self := fun A i s Q E st h => wpAny_pyIter_longiter st h
/-- range(i, j, c): n items -/
def RgA (i j c : Int) (n : Nat) : Prop := c ≠ 0 ∧ c.natAbs < 1073741824 ∧ Builtin.Range.rangeSize i j c = n
def iRngA (ta : TA) : TI := fun σ H R => ta σ H fun vs H1 => ∃ (i j c : Int) (n : Nat), vs = [.int i, .int j, .int c] ∧ RgA i j c n ∧ R (Itc i c n) H1
theorem pi_rangeA {X : Cx} {tg : Expr} {a b c : Expr} {ta : TA} {p pos : Pos} (hg : Gl X "range") (hm : X.mg "range" = none) (ha : PA X [a, b, c] ta)
    (hs : starEach [a, b, c] X.env = (false, eval a X.env) :: starEach [b, c] X.env := by rfl) (hpl : (backTo pos (starEach [b, c] X.env)).any (·.1) = false := by rfl) :
    PI X tg (.Call (.Name "range" p) [a, b, c] [] pos) (iRngA ta) := by
  refine ⟨fun pins s σ H R I h => ?_⟩
  refine Call_ (ld_blt I hg hm boot_range (PyProof.Rows.callWith_type1 (thn (ha.run pos pins s σ H _ I h) fun us s1 ⟨vs, H1, I1, r1, q1⟩ => ?_) hs hpl))
  obtain ⟨i, j, k, n, e, ⟨c0, c1, c3⟩, q⟩ := q1
  subst e
  cases r1 with
  | cons r rr =>
    cases rr with
    | cons r' rr =>
      cases rr with
      | cons r'' rr =>
        cases rr
        obtain ⟨t, rfl⟩ := r
        obtain ⟨t', rfl⟩ := r'
        obtain ⟨t'', rfl⟩ := r''
        refine call_range_3 c0 ?_ (.inl (PyProof.noPylong_small c1))
        have I2 : Inv X pins σ H1 { s1 with heap := s1.heap.push { cls := .type "range", data := .fields #[.int i t, .int j t', .int k t''] } } := I1.kept (t' := s1.toks) fun b o e => Heap.get?_push_of_some _ e
        have e1 : i + ((0 : Nat) : Int) * k = i := by simp
        have e2 : (n : Int) - ((0 : Nat) : Int) = Builtin.Range.rangeSize i j k := by rw [c3]; simp
        cases hsm : Builtin.Range.small i j k with
        | true =>
          refine wpAny_pyIter_range (IsRange.new ..) hsm ?_
          refine pi_one (tk := s1.toks) I2 _ (turn_rangeC _ i k n) ?_ q
          show IsRangeIter _ _ (i + ((0 : Nat) : Int) * k) ((n : Int) - ((0 : Nat) : Int)) k
          rw [e1, e2]
          exact Heap.get?_push_size _ rfl
        | false =>
          refine wpAny_pyIter_longrange (IsRange.new ..) hsm ?_
          refine pi_one (tk := s1.toks) I2 _ (turn_longC _ i k n) ?_ q
          show IsLongIter _ _ (i + ((0 : Nat) : Int) * k) ((n : Int) - ((0 : Nat) : Int)) k
          rw [e1, e2]
          exact Heap.get?_push_size _ rfl
end MI
end
section
set_option Elab.async false
set_option linter.all false
set_option maxRecDepth 100000
set_option maxHeartbeats 4000000
/-! MIe: more built-ins, methods, slices with a step, ranges -/
namespace MI
open PySem PySem.Spec PyProof.Rows L2
section
variable {K : PySem.W.Frag} {CL : CLs} {W : WX} {σ : Sg} {mu mu1 : List Addr} {H H0 H1 : Hp} {M M1 : Mem} {r : Env} {cl : Cl}
theorem maxL_mem : ∀ (l : List Int) (m : Int), maxL m l ∈ m :: l ∧ ∀ y ∈ m :: l, y ≤ maxL m l
  | [], m => ⟨List.mem_cons_self, fun y hy => by simp at hy; simp [maxL, hy]⟩
  | x :: r, m => by
    obtain ⟨h1, h2⟩ := maxL_mem r (if m < x then x else m)
    refine ⟨?_, fun y hy => ?_⟩
    · unfold maxL
      rcases List.mem_cons.mp h1 with e | h1
      · rw [e]; split <;> simp
      · exact List.mem_cons_of_mem _ (List.mem_cons_of_mem _ h1)
    · unfold maxL
      have h3 := h2 _ List.mem_cons_self
      rcases List.mem_cons.mp hy with e | hy
      · subst e; refine Int.le_trans ?_ h3; split <;> omega
      · rcases List.mem_cons.mp hy with e | hy
        · subst e; refine Int.le_trans ?_ h3; split <;> omega
        · exact h2 y (List.mem_cons_of_mem _ hy)
theorem minL_mem : ∀ (l : List Int) (m : Int), minL m l ∈ m :: l ∧ ∀ y ∈ m :: l, minL m l ≤ y
  | [], m => ⟨List.mem_cons_self, fun y hy => by simp at hy; simp [minL, hy]⟩
  | x :: r, m => by
    obtain ⟨h1, h2⟩ := minL_mem r (if x < m then x else m)
    refine ⟨?_, fun y hy => ?_⟩
    · unfold minL
      rcases List.mem_cons.mp h1 with e | h1
      · rw [e]; split <;> simp
      · exact List.mem_cons_of_mem _ (List.mem_cons_of_mem _ h1)
    · unfold minL
      have h3 := h2 _ List.mem_cons_self
      rcases List.mem_cons.mp hy with e | hy
      · subst e; refine Int.le_trans h3 ?_; split <;> omega
      · rcases List.mem_cons.mp hy with e | hy
        · subst e; refine Int.le_trans h3 ?_; split <;> omega
        · exact h2 y (List.mem_cons_of_mem _ hy)
theorem ok1_max1 : Ok1 K CL (rMax K) bMax1 := fun W σ mu H M x v Q R hx p => by
  unfold bMax1 at p
  split at p
  · rename_i ds e
    split at p
    · rename_i n ns e2
      obtain ⟨a, vs, rfl, h1, h2⟩ := lstOf_ok R hx e
      rw [asInts_eq e2] at h2
      have e3 := h2.ints
      subst e3
      refine ⟨a, n :: ns, rfl, h1, by simp, fun m hm hle => ?_⟩
      obtain ⟨z1, z2⟩ := maxL_mem ns n
      have : m = maxL n ns := Int.le_antisymm (z2 m hm) (hle _ z1)
      subst this
      exact end_d R p rfl
    · exact bad_end p
  · exact bad_end p
theorem asBls_eq : ∀ {ds : List D} {bs : List Bool}, asBls ds = some bs → ds = bs.map D.bl
  | [], bs, h => by simp only [asBls, Option.some.injEq] at h; subst h; rfl
  | d :: ds, bs, h => by
    cases d with
    | bl b =>
      simp only [asBls, Option.map_eq_some_iff] at h
      obtain ⟨q, e, rfl⟩ := h
      rw [asBls_eq e]; rfl
    | _ => simp [asBls] at h
theorem Rvs.bls : ∀ {ns : List Bool} {vs : List V}, Rvs K mu H (ns.map D.bl) vs → vs = ns.map V.bl
  | [], _, h => h
  | n :: ns, _, ⟨v, r, e, h, t⟩ => by rw [e, show v = V.bl n from h, Rvs.bls t]; rfl
theorem ok1_all : Ok1 K CL (rAll K) bAll := fun W σ mu H M x v Q R hx p => by
  unfold bAll at p
  split at p
  · rename_i ds e
    split at p
    · rename_i bs e2
      obtain ⟨a, vs, rfl, h1, h2⟩ := lstOf_ok R hx e
      rw [asBls_eq e2] at h2
      have e3 := h2.bls
      subst e3
      exact ⟨a, bs, rfl, h1, end_d R p rfl⟩
    · exact bad_end p
  · exact bad_end p
theorem ok1_str : Ok1 K CL (fun xs H Q => ∃ i, xs = [V.int i] ∧ i.natAbs.log2 < 1920 ∧ Q (.str (toString i)) H) bStr := fun W σ mu H M x v Q R hx p => by
  unfold bStr at p
  split at p
  · rename_i i
    split at p
    · rename_i h
      have hv : v = .int i := hx
      subst hv
      exact ⟨i, rfl, h, end_d R p rfl⟩
    · exact bad_end p
  · exact bad_end p
/-! ### slices with a step -/
theorem Rvs.filterMap {ds : List D} {vs : List V} (h : Rvs K mu H ds vs) : ∀ ks : List Nat, Rvs K mu H (ks.filterMap fun k => ds[k]?) (ks.filterMap fun k => vs[k]?)
  | [] => rfl
  | k :: ks => by
    have ih := Rvs.filterMap h ks
    by_cases hk : k < ds.length
    · obtain ⟨v, e1, e2⟩ := h.get (List.getElem?_eq_getElem hk)
      rw [List.filterMap_cons_some (List.getElem?_eq_getElem hk), List.filterMap_cons_some e1]
      exact ⟨v, _, rfl, e2, ih⟩
    · have e1 : ds[k]? = none := List.getElem?_eq_none (by omega)
      have e2 : vs[k]? = none := List.getElem?_eq_none (by rw [← h.length]; omega)
      rw [List.filterMap_cons_none e1, List.filterMap_cons_none e2]
      exact ih
theorem Rvs.reverse : ∀ {ds : List D} {vs : List V}, Rvs K mu H ds vs → Rvs K mu H ds.reverse vs.reverse
  | [], _, h => by rw [show _ = [] from h]; rfl
  | d :: ds, _, ⟨v, r, e, h, q⟩ => by
    rw [e, List.reverse_cons, List.reverse_cons]
    exact (Rvs.reverse q).append (Rvs.one h)
/-- the places of a slice with a step -/
def ixS (n : Nat) (lo hi : Option Int) (k : Nat) : List Nat := (List.range ((MI.sIx n n hi - MI.sIx n 0 lo + (k - 1)) / k)).map fun j => MI.sIx n 0 lo + k * j
theorem pickS_eq (ds : List D) (lo hi : Option Int) (k : Nat) (hk : 0 < k) : pickS (MI.sIx ds.length 0 lo) k (ds.take (MI.sIx ds.length ds.length hi)) = (ixS ds.length lo hi k).filterMap fun j => ds[j]? := by
  have hh : MI.sIx ds.length ds.length hi ≤ ds.length ∨ ds.length < MI.sIx ds.length ds.length hi := by omega
  have hle : ∀ (n : Nat) (o : Option Int), MI.sIx n n o ≤ n := fun n o => by
    cases o with
    | none => exact Nat.le_refl _
    | some v =>
      show (if v < 0 then (v + (n : Int)).toNat else min v.toNat n) ≤ n
      split <;> omega
  have h2 := hle ds.length hi
  unfold pickS ixS
  rw [List.length_take, Nat.min_eq_left h2, List.filterMap_map]
  generalize MI.sIx ds.length ds.length hi = b at *
  generalize MI.sIx ds.length 0 lo = a
  have cg : ∀ (l : List Nat) (f g : Nat → Option D), (∀ j ∈ l, f j = g j) → l.filterMap f = l.filterMap g := fun l f g h => by
    induction l with
    | nil => rfl
    | cons x l ih => rw [List.filterMap_cons, List.filterMap_cons, h x List.mem_cons_self, ih fun j hj => h j (List.mem_cons_of_mem _ hj)]
  refine cg _ _ _ fun j hj => ?_
  have hj := List.mem_range.mp hj
  have : a + k * j < b := by
    have q1 : j * k < (b - a + (k - 1)) := by
      have := (Nat.lt_div_iff_mul_lt hk).mp hj
      omega
    have q2 : k * j = j * k := Nat.mul_comm _ _
    have q3 : (j + 1) * k ≤ b - a + (k - 1) := by
      have := (Nat.le_div_iff_mul_le hk).mp (Nat.succ_le_of_lt hj)
      exact this
    rw [Nat.add_mul, Nat.one_mul] at q3
    omega
  simp only [Function.comp]
  rw [List.getElem?_take, if_pos this]
theorem slice_ixS {items : Array Value} {lo hi : Option Int} {k : Nat} (hk : 0 < k) : slicePick items lo hi (some (k : Int)) = ((ixS items.size lo hi k).filterMap (items[·]?)).toArray := by
  have hc : ∀ (o : Option Int) (d : Nat), d ≤ items.size → (match o with | none => (d : Int) | some i => max 0 (min (if i < 0 then i + (items.size : Int) else i) (items.size : Int)) : Int) = ((MI.sIx items.size d o : Nat) : Int) := fun o d hd => by
    cases o with
    | none => rfl
    | some v =>
      show _ = (((if v < 0 then (v + (items.size : Int)).toNat else min v.toNat items.size : Nat)) : Int)
      simp only
      split <;> omega
  have hpos : ((k : Int) > 0) := by omega
  have e1 : sliceBounds lo hi (some (k : Int)) items.size = (((MI.sIx items.size 0 lo : Nat) : Int), ((MI.sIx items.size items.size hi : Nat) : Int), (k : Int)) := by
    unfold sliceBounds
    simp only [Option.getD_some, hpos, if_true]
    rw [← hc lo 0 (Nat.zero_le _), ← hc hi items.size (Nat.le_refl _)]
    cases lo <;> cases hi <;> rfl
  unfold slicePick
  rw [e1]
  simp only
  congr 1
  unfold sliceRange ixS
  simp only [hpos, if_true]
  generalize MI.sIx items.size items.size hi = b
  generalize MI.sIx items.size 0 lo = a
  have e2 : (if (a : Int) < b then ((b : Int) - a + k - 1) / k else 0).toNat = (b - a + (k - 1)) / k := by
    by_cases h : a < b
    · rw [if_pos (by omega)]
      have : ((b : Int) - a + k - 1) = ((b - a + (k - 1) : Nat) : Int) := by omega
      rw [this, ← Int.natCast_ediv, Int.toNat_natCast]
    · rw [if_neg (by omega)]
      have : b - a + (k - 1) < k := by omega
      rw [Nat.div_eq_of_lt this]; rfl
  rw [e2]
  rfl
end
theorem vals_at : ∀ {xs : List V} {us : List Value}, Vals xs us → ∀ (k : Nat) (h1 : k < xs.length) (h2 : k < us.length), RelV xs[k] us[k]
  | _, _, .cons r _, 0, _, _ => r
  | _, _, .cons _ t, k + 1, h1, h2 => by
    simp only [List.getElem_cons_succ]
    exact vals_at t k _ _
theorem vals_fm {xs : List V} {us : List Value} (h : Vals xs us) : ∀ ks : List Nat, Vals (ks.filterMap fun k => xs[k]?) (ks.filterMap fun k => us[k]?)
  | [] => .nil
  | k :: ks => by
    have ih := vals_fm h ks
    by_cases hk : k < xs.length
    · have hk2 : k < us.length := by rw [← h.length]; exact hk
      have e1 := List.getElem?_eq_getElem hk
      have e2 := List.getElem?_eq_getElem hk2
      rw [List.filterMap_cons_some e1, List.filterMap_cons_some e2]
      exact .cons (vals_at h k hk hk2) ih
    · have e1 : xs[k]? = none := List.getElem?_eq_none (by omega)
      have e2 : us[k]? = none := List.getElem?_eq_none (by rw [← h.length]; omega)
      rw [List.filterMap_cons_none e1, List.filterMap_cons_none e2]
      exact ih
section
variable {X : Cx}
def tStep (K : PySem.W.Frag) (te : TE) (tl th : TO) (k : Nat) : TE := fun σ H Q => te σ H fun x H1 => tl σ H1 fun l H2 => th σ H2 fun u H3 => ∃ a xs, x = .ref a ∧ SqL K H3 a xs ∧ ∀ p, H3 p = none → Q (.ref p) (upd H3 p (.lst ((ixS xs.length l u k).filterMap fun j => xs[j]?)))
theorem pe_step {e : Expr} {lo hi : Option Expr} {te : TE} {tl th : TO} {k : Nat} {ik : Nat} {p2 p3 pos : Pos} (hk : 0 < k) (he : PE X e te) (hl : PO X lo tl) (hh : PO X hi th) : PE X (.Subscript e (.Slice lo hi (some (.Constant (.int k) ik p2)) p3) pos) (tStep X.K te tl th k) := by
  refine ⟨fun pins s σ H Q I h => ?_⟩
  refine Subscript_ (thn (he.run pins s σ H _ I h) fun v s1 ⟨x, H1, I1, r1, q1⟩ => ?_)
  have hst : PO X (some (.Constant (.int k) ik p2)) (tPart (tC (.int k))) := po_some pe_int
  refine wpAny_Slice (thn (hl.run pins s1 σ H1 _ I1 q1) fun vl s2 ⟨l, H2, I2, pl, q2⟩ => thn (hh.run pins s2 σ H2 _ I2 q2) fun vu s3 ⟨u, H3, I3, pu, q3⟩ => ?_)
  refine thn (hst.run pins s3 σ H3 (fun o H4 => o = some (k : Int) ∧ H4 = H3) I3 ⟨k, rfl, rfl, rfl⟩) fun vs s4 ⟨o, H4, I4, ps, eo, e4⟩ => ?_
  subst eo e4
  obtain ⟨a, xs, ex, hx, q⟩ := q3
  subst ex
  cases r1
  have I5 : Inv X pins σ H4 { s4 with heap := s4.heap.push { cls := .type "slice", data := .fields #[vl, vu, vs] } } := I4.kept (t' := s4.toks) fun b ob q => Heap.get?_push_of_some _ q
  obtain ⟨its, r, ht, hz⟩ := I5.list hx
  have hlen := r.length
  show wpAny (model X.prog X.w) X.A (subscriptTail e (.Slice lo hi (some (.Constant (.int k) ik p2)) p3) (.ref a) (.ref s4.heap.objs.size)) (EP X pins σ Q) X.xe { s4 with heap := s4.heap.push { cls := .type "slice", data := .fields #[vl, vu, vs] } }
  refine tail_any (ops := [.ref a, .ref s4.heap.objs.size]) ht.isList.typeIs (PySem.slot_list_getitem.lookup) ?_ (by with_unfolding_all rfl)
  refine wpAny_getItem_list_slice ht.isList (Heap.IsSliceOf.new _ vl vu vs) pl pu ps (by simp; omega) ?_ (by rw [List.size_toArray]; omega)
  rw [slice_ixS hk]
  have e1 : its.toArray.size = xs.length := by rw [List.size_toArray]; exact hlen.symm
  have e2 : (fun j : Nat => its.toArray[j]?) = fun j : Nat => its[j]? := by funext j; simp
  rw [e1, e2]
  refine ⟨.ref _, _, I5.laid (t' := s4.toks) (o := .lst ((ixS xs.length l u k).filterMap fun j => xs[j]?)) (fun b ob q => Heap.get?_push_of_some _ q) (Nat.le_refl _) ?_, rfl, q _ (I5.hok.fresh (Nat.le_refl _))⟩
  refine ⟨?_, _, 0, vals_fm r _, Heap.get?_push_size _ rfl⟩
  refine Nat.le_trans (List.length_filterMap_le _ _) (Nat.le_trans ?_ hz)
  unfold ixS
  rw [List.length_map, List.length_range]
  have hle : MI.sIx xs.length xs.length u ≤ xs.length := by
    cases u with
    | none => exact Nat.le_refl _
    | some v =>
      show (if v < 0 then (v + (xs.length : Int)).toNat else min v.toNat xs.length) ≤ xs.length
      split <;> omega
  generalize MI.sIx xs.length xs.length u = b at *
  generalize MI.sIx xs.length 0 l = a
  refine Nat.le_trans ?_ hle
  have : (b - a + (k - 1)) / k ≤ b - a := by
    rcases Nat.eq_zero_or_pos (b - a) with h0 | h0
    · rw [h0, Nat.div_eq_of_lt (by omega)]; exact Nat.le_refl _
    · refine Nat.le_of_lt_succ ((Nat.div_lt_iff_lt_mul hk).mpr ?_)
      have : (b - a + 1) * k = (b - a) * k + k := by rw [Nat.add_mul, Nat.one_mul]
      have h3 : b - a ≤ (b - a) * k := Nat.le_mul_of_pos_right _ hk
      show b - a + (k - 1) < (b - a + 1) * k
      omega
  omega
end
section
variable {X : Cx} {CL : CLs} {cl : Cl} {a b c o : Expr} {rest : List Expr} {es : List Expr} {sa sb sc so : SE} {ta tb tc : STt} {as : SDs} {pos p0 apos cpos : Pos}
theorem snd_step {lo hi : Option Expr} {sl sh : SO} {k ik : Nat} {p2 p3 : Pos} (hk : 0 < k) (ha : SndE X CL cl a sa) (hl : SndO X CL cl lo sl) (hh : SndO X CL cl hi sh) : SndE X CL cl (.Subscript a (.Slice lo hi (some (.Constant (.int k) ik p2)) p3) pos) (eStep sa sl sh k) := fun W tk => by
  refine pe_imp (pe_step hk (ha W tk) (hl W tk) (hh W tk)) fun σ H Q h => ?_
  obtain ⟨mu, r, M, hm, hs, p⟩ := h
  refine rE_then hm hs p fun x v M1 mu1 H1 n1 h1 p1 => ?_
  refine rO_then n1.rm n1.rs p1 fun l M2 mu2 H2 n2 p2 => ?_
  refine rO_then n2.rm n2.rs p2 fun u M3 mu3 H3 n3 p3 => ?_
  have hx : Rw X.K CL mu3 H3 x v := (h1.w.stp n1.rm n2.st).stp n2.rm n3.st
  have p4 : Pst X.K CL W σ mu3 H3 (match lstOf x M3 with
      | some ds => .ok (.o (.lst (pickS (MI.sIx ds.length 0 l) k (ds.take (MI.sIx ds.length ds.length u))))) M3
      | none => .bad) fun z _ mu' H' => ∀ w, Rr X.K CL mu' H' H3 z w → Q w H' :=
    p3.mono fun z M3 mu3 H3 s3 R3 q w hw => q w (hw.base ((n1.st.trans n2.st n1.rm).trans n3.st n2.rm) n3.rm)
  split at p4
  · rename_i ds e
    obtain ⟨q, vs, rfl, h4, h5⟩ := lstOf_ok n3.rm hx e
    refine ⟨q, vs, rfl, h4, ?_⟩
    rw [pickS_eq ds l u k hk] at p4
    have := end_lst n3.rm p4 (h5.filterMap _)
    rwa [h5.length] at this
  · exact bad_end p4
theorem snd_stepI {lo hi : Option Expr} {sl sh : SO} {k : Int} {ik : Nat} {p2 p3 : Pos} (hk : 0 < k) (ha : SndE X CL cl a sa) (hl : SndO X CL cl lo sl) (hh : SndO X CL cl hi sh) : SndE X CL cl (.Subscript a (.Slice lo hi (some (.Constant (.int k) ik p2)) p3) pos) (eStep sa sl sh k.toNat) := by
  have e : k = ((k.toNat : Nat) : Int) := by omega
  have := snd_step (X := X) (CL := CL) (cl := cl) (pos := pos) (k := k.toNat) (ik := ik) (p2 := p2) (p3 := p3) (by omega) ha hl hh
  rwa [← e] at this
theorem snd_rev {k : Nat} {p1 p2 p3 : Pos} (ha : SndE X CL cl a sa) : SndE X CL cl (.Subscript a (.Slice none none (some (.UnaryOp .USub (.Constant (.int 1) k p1) p2)) p3) pos) (eRev sa) := fun W tk => by
  refine pe_imp (pe_revL (ha W tk)) fun σ H Q h => ?_
  obtain ⟨mu, r, M, hm, hs, p⟩ := h
  refine rE_then hm hs p fun x v M1 mu1 H1 n1 h1 p1 => ?_
  split at p1
  · rename_i ds e
    obtain ⟨q, vs, rfl, h4, h5⟩ := lstOf_ok n1.rm h1.w e
    exact ⟨q, vs, rfl, h4, end_lst n1.rm (p1.rb n1) h5.reverse⟩
  · exact bad_end p1
/-! ### methods -/
/-- a receiver that is asked as it stands -/
def okRecv : Expr → Bool
  | .Call (.Name id _) _ _ _ => id != ("super" : Str)
  | _ => true
theorem abase_ok {o : Expr} {m : Str} {env : PySem.Env} (h : okRecv o = true) : attributeBase o m env (eval o env) = eval o env := by
  cases o with
  | Call f args kws pos =>
    cases f with
    | Name id p =>
      cases args with
      | nil =>
        cases kws with
        | nil => exact abase_call h
        | cons => rfl
      | cons => rfl
    | _ => rfl
  | _ => rfl
def OkM0 (K : PySem.W.Frag) (CL : CLs) (rr : V → List V → Hp → VK → Prop) (m : Nat → Mem → Res RV) : Prop :=
  ∀ (W : WX) (σ : Sg) mu H M n p (Q : VK), Rm K CL mu H M → mu[n]? = some p → Pst K CL W σ mu H (m n M) (fun z _ mu' H' => ∀ w, Rr K CL mu' H' H z w → Q w H') → rr (.ref p) [] H Q
def OkM2 (K : PySem.W.Frag) (CL : CLs) (rr : V → List V → Hp → VK → Prop) (m : Nat → D → D → Mem → Res RV) : Prop :=
  ∀ (W : WX) (σ : Sg) mu H M n p d v e u (Q : VK), Rm K CL mu H M → mu[n]? = some p → Rv K mu H d v → Rv K mu H e u → Pst K CL W σ mu H (m n d e M) (fun z _ mu' H' => ∀ w, Rr K CL mu' H' H z w → Q w H') → rr (.ref p) [v, u] H Q
variable {name : Str} {id : String} {rr : V → List V → Hp → VK → Prop}
theorem snd_m0 {m : Nat → Mem → Res RV} (slot : Slot "list" name id) (hty : typeOf (.builtin id) = pure (.type "method_descriptor")) (hm : MtR X id rr) (k : OkM0 X.K CL rr m) (ho : SndE X CL cl o so)
    (hbase : attributeBase o name X.env (eval o X.env) = eval o X.env) (hline : (apos.endLine == cpos.line) = true) : SndE X CL cl (.Call (.Attribute o name apos) [] [] cpos) (eM0 m so) := fun W tk => by
  refine pe_imp (pe_bm0 PySem.F.plainAttrs_list slot hty hm (ho W tk) hbase hline) fun σ H Q h => ?_
  obtain ⟨mu, r, M, hm, hs, p⟩ := h
  refine rE_then hm hs p fun x v M1 mu1 H1 n1 h1 p1 => ?_
  split at p1
  · rename_i n
    split at p1
    · rename_i e
      obtain ⟨ds, e⟩ := Option.isSome_iff_exists.mp e
      obtain ⟨p', vs, hv, h2, h3⟩ := lstT_ok n1.rm h1.w e
      obtain ⟨q, h4, h5⟩ := h1
      have eq : q = p' := V.ref.inj (h5.symm.trans hv)
      subst eq
      refine ⟨by rw [h5]; exact .inl ⟨rfl, vs, .inl (.inl h2)⟩, ?_⟩
      rw [h5]
      exact k W σ mu1 H1 _ n q Q n1.rm h4 (p1.rb n1)
    · exact bad_end p1
  · exact bad_end p1
theorem snd_n0 {m : Nat → Mem → Res RV} (slot : Slot "list" name id) (hty : typeOf (.builtin id) = pure (.type "method_descriptor")) (hm : MtR X id rr) (k : OkM0 X.K CL rr m) (ho : SndE X CL cl o so)
    (hbase : attributeBase o name X.env (eval o X.env) = eval o X.env) (hline : (apos.endLine == cpos.line) = true) : SndE X CL cl (.Call (.Attribute o name apos) [] [] cpos) (eN0 m so) := fun W tk => by
  refine pe_imp (pe_bm0 PySem.F.plainAttrs_list slot hty hm (ho W tk) hbase hline) fun σ H Q h => ?_
  obtain ⟨mu, r, M, hm, hs, p⟩ := h
  refine rE_thenB hm hs Stp.refl p fun x v M1 mu1 H1 n1 h1 p1 => ?_
  split at p1
  · rename_i ds
    obtain ⟨t, R2, s2, hv⟩ := n1.rm.box h1 n1.st
    obtain ⟨q, h4, h5⟩ := hv
    obtain ⟨p', h6, ⟨vs, h7, h8⟩, _⟩ := h1
    have eq : q = p' := V.ref.inj (h5.symm.trans h6)
    subst eq
    refine ⟨by rw [h5]; exact .inl ⟨rfl, vs, .inl (.inl h7)⟩, ?_⟩
    rw [h5]
    refine k W σ (mu1 ++ t) H1 _ M1.length q Q R2 h4 ?_
    exact (p1.from s2 R2).mono fun _ _ _ _ _ _ z w hw => z w (hw.base s2 R2)
  · exact bad_end p1
theorem snd_n1 {m : Nat → D → Mem → Res RV} (slot : Slot "list" name id) (hty : typeOf (.builtin id) = pure (.type "method_descriptor")) (hm : MtR X id rr) (k : OkM X.K CL rr m) (ho : SndE X CL cl o so) (ha : SndE X CL cl a sa)
    (hbase : attributeBase o name X.env (eval o X.env) = eval o X.env) (hline : (apos.endLine == cpos.line) = true) (hst : starEach [a] X.env = [(false, eval a X.env)]) : SndE X CL cl (.Call (.Attribute o name apos) [a] [] cpos) (eN1 m so sa) := fun W tk => by
  refine pe_imp (pe_bm PySem.F.plainAttrs_list slot hty hm (ho W tk) (pa_cons (ha W tk) pa_nil hst) hbase (by rw [hst]; rfl) hline hst rfl) fun σ H Q h => ?_
  obtain ⟨mu, r, M, hm, hs, p⟩ := h
  refine rE_thenB hm hs Stp.refl p fun x v M1 mu1 H1 n1 h1 p1 => ?_
  split at p1
  · rename_i ds
    obtain ⟨t, R2, s2, hv⟩ := n1.rm.box h1 n1.st
    obtain ⟨q, h4, h5⟩ := hv
    obtain ⟨p', h6, ⟨vs, h7, h8⟩, _⟩ := h1
    have eq : q = p' := V.ref.inj (h5.symm.trans h6)
    subst eq
    refine ⟨by rw [h5]; exact .inl ⟨rfl, vs, .inl (.inl h7)⟩, ?_⟩
    refine rE_thenB R2 (n1.rs.ext t) Stp.refl (p1.from s2 R2) fun y u M2 mu2 H2 n2 h6 p2 => ?_
    obtain ⟨t2, R3, s4, hu⟩ := n2.rm.box h6 n2.st
    rw [h5]
    refine k W σ (mu2 ++ t2) H2 _ M1.length q _ u Q R3 ?_ hu ?_
    · rw [List.getElem?_append_left (List.getElem?_eq_some_iff.mp (n2.st.get h4)).1]; exact n2.st.get h4
    · exact (p2.from s4 R3).mono fun _ _ _ _ _ _ z w hw => z w ((hw.base s4 R3).base s2 R2)
  · exact bad_end p1
theorem snd_m2 {m : Nat → D → D → Mem → Res RV} (slot : Slot "list" name id) (hty : typeOf (.builtin id) = pure (.type "method_descriptor")) (hm : MtR X id rr) (k : OkM2 X.K CL rr m) (ho : SndE X CL cl o so) (ha : SndE X CL cl a sa) (hb : SndE X CL cl b sb)
    (hbase : attributeBase o name X.env (eval o X.env) = eval o X.env) (hline : (apos.endLine == cpos.line) = true) (hst : starEach [a, b] X.env = (false, eval a X.env) :: starEach [b] X.env) (hst2 : starEach [b] X.env = [(false, eval b X.env)]) : SndE X CL cl (.Call (.Attribute o name apos) [a, b] [] cpos) (eM2 m so sa sb) := fun W tk => by
  refine pe_imp (pe_bm PySem.F.plainAttrs_list slot hty hm (ho W tk) (pa_cons (ha W tk) (pa_cons (hb W tk) pa_nil hst2) hst) hbase (by rw [hst, hst2]; rfl) hline hst (by rw [hst2]; rfl)) fun σ H Q h => ?_
  obtain ⟨mu, r, M, hm, hs, p⟩ := h
  refine rE_then hm hs p fun x v M1 mu1 H1 n1 h1 p1 => ?_
  split at p1
  · rename_i n
    split at p1
    · rename_i e
      obtain ⟨ds, e⟩ := Option.isSome_iff_exists.mp e
      obtain ⟨p', vs, hv, h2, h3⟩ := lstT_ok n1.rm h1.w e
      obtain ⟨q, h4, h5⟩ := h1
      have eq : q = p' := V.ref.inj (h5.symm.trans hv)
      subst eq
      refine ⟨by rw [h5]; exact .inl ⟨rfl, vs, .inl (.inl h2)⟩, ?_⟩
      refine rE_thenB n1.rm n1.rs Stp.refl p1 fun y u M2 mu2 H2 n2 h6 p2 => ?_
      obtain ⟨t, R3, s3, hu⟩ := n2.rm.box h6 n2.st
      refine rE_thenB R3 (n2.rs.ext t) s3 p2 fun z w M4 mu4 H4 n4 h7 p4 => ?_
      obtain ⟨t4, R5, s6, hw⟩ := n4.rm.box h7 n4.st
      have s5 := s3.trans s6 R3
      rw [h5]
      have g4 := (s3.trans n4.st R3).get h4
      refine k W σ (mu4 ++ t4) H4 _ n q _ u _ w Q R5 ?_ ((hu.stp R3 n4.st).ext t4) hw ?_
      · rw [List.getElem?_append_left (List.getElem?_eq_some_iff.mp g4).1]; exact g4
      · exact (p4.from s5 R5).mono fun _ _ _ _ _ _ z w hw => z w ((hw.base s5 R5).base n1.st n1.rm)
    · exact bad_end p1
  · exact bad_end p1
theorem okM0_clear {K : PySem.W.Frag} : OkM0 K CL rClear mClear := fun W σ mu H M n p Q R hp h => by
  unfold mClear at h
  split at h
  · rename_i ds e
    obtain ⟨vs, h1, h2⟩ := R.ob n p _ hp e
    have st : Stp mu H mu (upd H p (.lst [])) := Stp.write hp (fun _ _ z => by rw [h1] at z; cases z)
    have R' := R.write (u := .lst []) (o := .lst []) hp (fun _ _ z => by rw [h1] at z; cases z) ⟨_, upd_same, rfl⟩
    exact ⟨p, vs, rfl, rfl, h1, h mu _ st R' .non rfl⟩
  · exact bad_end h
theorem okM0_pop {K : PySem.W.Frag} : OkM0 K CL rPop mPop := fun W σ mu H M n p Q R hp h => by
  unfold mPop at h
  split at h
  · rename_i ds e
    split at h
    · rename_i d ed
      obtain ⟨vs, h1, h2⟩ := R.ob n p _ hp e
      have ed' : ds[ds.length - 1]? = some d := by rw [← List.getLast?_eq_getElem?]; exact ed
      obtain ⟨v, h3, h4⟩ := h2.get ed'
      have st : Stp mu H mu (upd H p (.lst vs.dropLast)) := Stp.write hp (fun _ _ z => by rw [h1] at z; cases z)
      have R' := R.write (u := .lst vs.dropLast) (o := .lst ds.dropLast) hp (fun _ _ z => by rw [h1] at z; cases z) ⟨_, upd_same, h2.dropLast.stp R st⟩
      exact ⟨p, vs, v, rfl, rfl, h1, by rw [← h2.length]; exact h3, h mu _ st R' v (h4.stp R st)⟩
    · exact bad_end h
  · exact bad_end h
theorem okM2_insert {K : PySem.W.Frag} : OkM2 K CL (fun x vs H Q => ∃ (l : Addr) (xs : List V) (i : Int) (y : V), x = .ref l ∧ vs = [.int i, y] ∧ H l = some (.lst xs) ∧ xs.length < sizeLine ∧ 0 ≤ i ∧ i < 2 ^ 63 ∧
    Q .non (upd H l (.lst (xs.take i.toNat ++ [y] ++ xs.drop i.toNat)))) mInsert := fun W σ mu H M n p d v e u Q R hp hd he h => by
  unfold mInsert at h
  split at h
  · rename_i ds e1
    split at h
    · rename_i i
      split at h
      · rename_i c
        obtain ⟨vs, h1, h2⟩ := R.ob n p _ hp e1
        have hv : v = .int i := hd
        subst hv
        have st : Stp mu H mu (upd H p (.lst (vs.take i.toNat ++ [u] ++ vs.drop i.toNat))) := Stp.write hp (fun _ _ z => by rw [h1] at z; cases z)
        have R' := R.write (u := .lst (vs.take i.toNat ++ [u] ++ vs.drop i.toNat)) (o := .lst (ds.take i.toNat ++ [e] ++ ds.drop i.toNat)) hp (fun _ _ z => by rw [h1] at z; cases z) ⟨_, upd_same, (((h2.take _).append (Rvs.one he)).append (h2.drop _)).stp R st⟩
        exact ⟨p, vs, i, u, rfl, rfl, h1, by rw [← h2.length]; exact c.2.2, c.1, by omega, h mu _ st R' .non rfl⟩
      · exact bad_end h
    · exact bad_end h
  · exact bad_end h
/-! ### ranges -/
theorem snd_range2 {tg : Expr} (ha : SndE X CL cl a sa) (hb : SndE X CL cl b sb) (hg : Gl X "range") (hm : X.mg "range" = none) (hst : starEach [a, b] X.env = [(false, eval a X.env), (false, eval b X.env)]) (hst2 : starEach [b] X.env = [(false, eval b X.env)]) : SndI X CL cl tg (.Call (.Name "range" p0) [a, b] [] pos) (iRange2 sa sb) := fun W tk => by
  refine pi_imp (pi_range2 hg hm (pa_cons (ha W tk) (pa_cons (hb W tk) pa_nil hst2) (by rw [hst, hst2])) hst hst2) fun σ H R h => ?_
  obtain ⟨mu, r, M, hm, hs, p⟩ := h
  refine rE_then hm hs p fun x v M1 mu1 H1 n1 h1 p1 => ?_
  refine rE_then n1.rm n1.rs p1 fun y u M2 mu2 H2 n2 h2 p2 => ?_
  split at p2
  · rename_i i j
    split at p2
    · rename_i c
      have hv : v = .int i := h1
      have hu : u = .int j := h2
      subst hv; subst hu
      refine ⟨i, j, rfl, ⟨c.1.1, c.1.2, c.2.1, c.2.2⟩, p2.here n2.rm _ ⟨fun k d mu H M e st R _ => ?_, fun mu H M st R _ => ?_⟩⟩
      · have hi : k < (j - i).toNat := by
          have := (List.getElem?_eq_some_iff.mp e).1
          simpa [rngD] using this
        refine ⟨hi, fun x H' ⟨e1, e2⟩ => ?_⟩
        subst e1
        refine ⟨Stp.refl, R, ?_⟩
        have : d = .int (i + (k : Int)) := by
          unfold rngD at e
          rw [List.getElem?_map, List.getElem?_range hi] at e
          exact (Option.some.inj e).symm
        rw [this, e2]
        rfl
      · show (j - i).toNat ≤ (rngD i (j - i).toNat).length
        simp [rngD]
    · exact bad_end p2
  · exact bad_end p2
theorem rgA_of {i j c : Int} (hc : c ≠ 0) (hl : c.natAbs < 1000000) : RgA i j c (rgN i j c) := by
  refine ⟨hc, by omega, ?_⟩
  · unfold Builtin.Range.rangeSize rgN
    by_cases h : c > 0
    · simp only [h, if_true, show 0 < c from h]
      by_cases h2 : i < j
      · simp only [h2, if_true]
        have e : j - i + c - 1 = (j - i - 1) + c := by omega
        have e2 := Int.add_ediv_of_dvd_right (a := j - i - 1) (b := c) (c := c) (Int.dvd_refl c)
        rw [e, e2, Int.ediv_self (by omega)]
        have := Int.ediv_nonneg (show 0 ≤ j - i - 1 by omega) (show 0 ≤ c by omega)
        omega
      · simp only [h2, if_false]
        have : (j - i + c - 1) / c ≤ 0 := by
          rcases Int.lt_or_le (j - i + c - 1) 0 with q | q
          · exact Int.le_of_lt (Int.ediv_neg_of_neg_of_pos q h)
          · rw [Int.ediv_eq_zero_of_lt q (by omega)]; exact Int.le_refl _
        omega
    · have h' : ¬ 0 < c := h
      simp only [h, if_false, h']
      by_cases h2 : i > j
      · simp only [h2, if_true]
        have e : i - j - c - 1 = (i - j - 1) + -c := by omega
        have e2 := Int.add_ediv_of_dvd_right (a := i - j - 1) (b := -c) (c := -c) (Int.dvd_refl _)
        rw [e, e2, Int.ediv_self (by omega)]
        have := Int.ediv_nonneg (show 0 ≤ i - j - 1 by omega) (show 0 ≤ -c by omega)
        omega
      · simp only [h2, if_false]
        have : (i - j - c - 1) / (-c) ≤ 0 := by
          rcases Int.lt_or_le (i - j - c - 1) 0 with q | q
          · exact Int.le_of_lt (Int.ediv_neg_of_neg_of_pos q (by omega))
          · rw [Int.ediv_eq_zero_of_lt q (by omega)]; exact Int.le_refl _
        omega
theorem snd_range3 {tg : Expr} (ha : SndE X CL cl a sa) (hb : SndE X CL cl b sb) (hc : SndE X CL cl c sc) (hg : Gl X "range") (hm : X.mg "range" = none) (hst : starEach [a, b, c] X.env = (false, eval a X.env) :: starEach [b, c] X.env) (hst2 : starEach [b, c] X.env = (false, eval b X.env) :: starEach [c] X.env) (hst3 : starEach [c] X.env = [(false, eval c X.env)]) : SndI X CL cl tg (.Call (.Name "range" p0) [a, b, c] [] pos) (iRange3 sa sb sc) := fun W tk => by
  refine pi_imp (pi_rangeA hg hm (pa_cons (ha W tk) (pa_cons (hb W tk) (pa_cons (hc W tk) pa_nil hst3) hst2) hst) hst (by rw [hst2, hst3]; rfl)) fun σ H R h => ?_
  obtain ⟨mu, r, M, hm, hs, p⟩ := h
  refine rE_then hm hs p fun x v M1 mu1 H1 n1 h1 p1 => ?_
  refine rE_then n1.rm n1.rs p1 fun y u M2 mu2 H2 n2 h2 p2 => ?_
  refine rE_then n2.rm n2.rs p2 fun z w M3 mu3 H3 n3 h3 p3 => ?_
  split at p3
  · rename_i i j c
    split at p3
    · rename_i cc
      have hv : v = .int i := h1
      have hu : u = .int j := h2
      have hw : w = .int c := h3
      subst hv; subst hu; subst hw
      refine ⟨i, j, c, _, rfl, rgA_of cc.1 cc.2, p3.here n3.rm _ ⟨fun k d mu H M e st R _ => ?_, fun mu H M st R _ => ?_⟩⟩
      · have hi : k < rgN i j c := by
          have := (List.getElem?_eq_some_iff.mp e).1
          simpa [rngC] using this
        refine ⟨hi, fun x H' ⟨e1, e2⟩ => ?_⟩
        subst e1
        refine ⟨Stp.refl, R, ?_⟩
        have : d = .int (i + (k : Int) * c) := by
          unfold rngC at e
          rw [List.getElem?_map, List.getElem?_range hi] at e
          exact (Option.some.inj e).symm
        rw [this, e2]
        rfl
      · show rgN i j c ≤ (rngC i c (rgN i j c)).length
        simp [rngC]
    · exact bad_end p3
  · exact bad_end p3
end
end MI
end
section
set_option Elab.async false
set_option linter.all false
set_option maxRecDepth 100000
set_option maxHeartbeats 4000000
/-! MIy: min of a tuple -/
namespace MI
open PySem PySem.Spec PyProof.Rows L2
section
variable {prog : Program} {w : World} {A : Around} {E : Value → Shared → Prop} {s : Shared} {l : Addr} {xs : Array (Int × Tok)}
theorem minT_raw {Q : Value → Shared → Prop} (hh : A.handled = none) (hl : s.heap.IsTuple l (intItems xs)) (hne : 0 < xs.size)
    (h : ∀ h' tk M t', (∀ b o, s.heap.get? b = some o → h'.get? b = some o) → M ∈ xs.toList.map (·.1) → (∀ a, a ∈ xs.toList.map (·.1) → M ≤ a) → Q (.int M t') { s with heap := h', toks := tk }) : wpAny (model prog w) A (call (.builtin "min") [.ref l]) Q E s := by
  have hlt : l < s.heap.objs.size := by obtain ⟨_, e, _⟩ := hl; exact Heap.lt_size e
  refine call_min_walk (wpAny_pyIter_tuple hl ?_)
  refine ⟨_, _, _, _, _, _, _, rfl, Walks.tuple (A := A.in1) hh _ l (Nat.ne_of_lt hlt) (intItems xs), ⟨⟨_, Heap.get?_push_size _ rfl, rfl, rfl⟩, hl.push _⟩, fun b hb => ?_, by simpa [intItems] using hne, CmpOf.ints_lt (numAt xs) (fun _ _ => intItems_at), fun v h' tk hP hk => ?_⟩
  · show b < (s.heap.push _).objs.size
    rw [Heap.size_push]
    simp only [List.mem_cons, List.not_mem_nil, or_false] at hb
    rcases hb with rfl | rfl
    · exact Nat.lt_succ_self _
    · exact Nat.lt_succ_of_lt hlt
  · obtain ⟨t, rfl⟩ := intItems_at hP
    obtain ⟨h1, h2⟩ := argBest_lt (numAt xs) ((intItems xs).size - 1)
    have esz : (intItems xs).size = xs.size := by simp [intItems]
    rw [esz] at h1 h2 ⊢
    refine h h' tk _ t (fun b o e => hk b o (fun hm => ?_) (Heap.get?_push_of_some _ e)) ?_ fun a ha => ?_
    · have lt := Heap.lt_size e
      simp only [List.mem_cons, List.not_mem_nil, or_false] at hm
      rw [hm] at lt
      exact absurd lt (Nat.lt_irrefl _)
    · rw [PySem.numAt_eq]; exact PySem.getD_mem (by rw [List.length_map, Array.length_toList]; omega)
    · obtain ⟨j, hj, rfl⟩ := PySem.mem_getD ha
      rw [List.length_map, Array.length_toList] at hj
      rw [← PySem.numAt_eq]; exact h2 j (by omega)
end
section
variable {X : Cx} {K : PySem.W.Frag} {CL : CLs}
/-- min(xs) of a list or a tuple of ints -/
def rMinQ (K : PySem.W.Frag) : List V → Hp → VK → Prop := fun vs H Q => rMin K vs H Q ∨ ∃ (a : Addr) (ns : List Int), vs = [V.ref a] ∧ SqT K H a (ns.map V.int) ∧ 0 < ns.length ∧ ∀ m, m ∈ ns → (∀ y, y ∈ ns → m ≤ y) → Q (.int m) H
theorem cr_minQ (hc : X.calm = true) : CallR X (.builtin "min") (rMinQ X.K) := by
  intro pins s σ H vs us Q I r h
  rcases h with h | ⟨a, ns, rfl, hs, hne, q⟩
  · exact cr_min hc pins s σ H vs us Q I r h
  · obtain ⟨its, rv, hl, _⟩ := I.tuple hs
    rw [Vals.ref1 r]
    have hi := rv.ints
    obtain ⟨xs, e⟩ := hi.allInts.items
    have hn : numsOf (intItems xs).toList = ns := by rw [← e]; exact hi.numsOf
    rw [nums_intItems] at hn
    subst hn
    rw [e] at hl
    exact minT_raw (I.ok.hd hc) hl (by simpa using hne) fun h' tk m t' hk h1 h2 => ⟨.int _, H, I.kept hk, ⟨_, rfl⟩, q m h1 h2⟩
theorem ok1_minQ : Ok1 K CL (rMinQ K) bMin1 := fun W σ mu H M x v Q R hx p => by
  unfold bMin1 at p
  split at p
  · rename_i ds e
    split at p
    · rename_i n ns e2
      obtain ⟨a, vs, rfl, h1, h2⟩ := seqOf_ok R hx e
      rw [asInts_eq e2] at h2
      have e3 := h2.ints
      subst e3
      have least : ∀ m, m ∈ n :: ns → (∀ y, y ∈ n :: ns → m ≤ y) → m = minL n ns := fun m hm hle => by
        obtain ⟨z1, z2⟩ := minL_mem ns n
        exact Int.le_antisymm (hle _ z1) (z2 m hm)
      rcases h1 with h1 | h1
      · refine .inl ⟨a, n :: ns, rfl, h1, by simp, fun m hm hle => ?_⟩
        rw [least m hm hle]
        exact end_d R p rfl
      · refine .inr ⟨a, n :: ns, rfl, h1, by simp, fun m hm hle => ?_⟩
        rw [least m hm hle]
        exact end_d R p rfl
    · exact bad_end p
  · exact bad_end p
end
end MI
end
section
set_option Elab.async false
set_option linter.all false
set_option maxRecDepth 100000
set_option maxHeartbeats 4000000
/-! MIf: methods of dicts, dict(pairs), zip, loops over dicts -/
namespace MI
open PySem PySem.Spec PyProof.Rows L2
/-! ### methods -/
section
variable {X : Cx} {CL : CLs} {cl : Cl} {a b o : Expr} {sa sb so : SE} {apos cpos pos : Pos}
/-- x is a dict of ours -/
def IsDi (w : World) (H : Hp) (x : V) : Prop := ∃ fz a xs, x = .ref a ∧ Lk fz H a (dictO w a xs)
def MtD (X : Cx) (id : String) (r : V → V → V → Hp → VK → Prop) : Prop :=
  ∀ (pins : List (Addr × Obj)) (s : Shared) (σ : Sg) (H : Hp) (x y z : V) (v u t : Value) (Q : VK), Inv X pins σ H s → RelV x v → RelV y u → RelV z t → r x y z H Q → wpAny (model X.prog X.w) X.A (call (.builtin id) [v, u, t]) (EP X pins σ Q) X.xe s
def tD2 (w : World) (r : V → V → V → Hp → VK → Prop) (to ta tb : TE) : TE := fun σ H Q => to σ H fun x H1 => IsDi w H1 x ∧ ta σ H1 fun y H2 => tb σ H2 fun z H3 => r x y z H3 Q
theorem pe_d2 {w : World} {name : Str} {id : String} {r : V → V → V → Hp → VK → Prop} {to ta tb : TE} (slot : Slot "dict" name id) (hty : typeOf (.builtin id) = pure (.type "method_descriptor")) (hm : MtD X id r) (ho : PE X o to) (ha : PE X a ta) (hb : PE X b tb) (m : M2 X o name apos a b cpos) :
    PE X (.Call (.Attribute o name apos) [a, b] [] cpos) (tD2 w r to ta tb) := by
  refine ⟨fun pins s σ H Q I h => ?_⟩
  refine wpAny_Call_method m.base m.few m.line PySem.F.plainAttrs_dict slot hty (thn (ho.run pins s σ H _ I h) fun u s1 ⟨x, H1, I1, rx, ⟨fz, p, xs, ex, lk⟩, q1⟩ => ?_)
  subst ex
  cases rx
  obtain ⟨⟨ob, en, ep, h1, h2, _⟩, _⟩ := lk_get I1 lk
  refine ⟨⟨ob, h1, h2.1⟩, fun c q => by cases q; exact ⟨ob, h1, h2.2.1⟩, ?_⟩
  rw [m.trees]
  refine Calls.callWith_builtin rfl (Calls.evalArgs_plain (Calls.spliced_cons (thn (ha.run pins s1 σ H1 _ I1 q1) fun iv s2 ⟨y, H2, I2, ry, q2⟩ =>
    Calls.spliced_cons (thn (hb.run pins s2 σ H2 _ I2 q2) fun fv s3 ⟨z, H3, I3, rz, q3⟩ => Calls.spliced_nil ?_))))
  exact hm pins s3 σ H3 (.ref p) y z (.ref p) iv fv Q I3 rfl ry rz q3
def rGetD (K : PySem.W.Frag) (w : World) : V → V → V → Hp → VK → Prop := fun x y z H Q => ∃ mu fz a xs ds k xd, x = .ref a ∧ Lk fz H a (dictO w a xs) ∧ Rdt K mu H ds xs ∧ okK ds k = true ∧ Rv K mu H k y ∧ Rv K mu H xd z ∧ ∀ v, Rv K mu H ((dget ds k).getD xd) v → Q v H
theorem mt_getD {w : World} (hu : X.A.units + 64 < cLine) (hw : w = X.w) : MtD X "dict.get" (rGetD X.K w) := fun pins s σ H x y z v u t Q I rx ry rz ⟨mu, fz, a, xs, ds, k, xd, ex, e, r, ok, hk, hx, q⟩ => by
  subst ex
  cases rx
  exact dd_get hu I hw e r ok hk ry hx rz fun u v s' I' ru rv => ⟨v, H, I', ru, q v rv⟩
def rSetdD (K : PySem.W.Frag) (w : World) : V → V → V → Hp → VK → Prop := fun x y z H Q => ∃ mu a xs ds k xd, x = .ref a ∧ H a = some (dictO w a xs) ∧ Rdt K mu H ds xs ∧ okK ds k = true ∧ Rv K mu H k y ∧ Rv K mu H xd z ∧ ds.length < sizeLine ∧
  (∀ d v, dget ds k = some d → Rv K mu H d v → Q v H) ∧ (∀ zs, dget ds k = none → Rdt K mu H (dput ds k xd) zs → Q z (upd H a (dictO w a zs)))
theorem mt_setdD {w : World} (hu : X.A.units + 64 < cLine) (hw : w = X.w) : MtD X "dict.setdefault" (rSetdD X.K w) := fun pins s σ H x y z v u t Q I rx ry rz ⟨mu, a, xs, ds, k, xd, ex, e, r, ok, hk, hx, hl, q1, q2⟩ => by
  subst ex
  cases rx
  exact dd_setdefault hu I hw e r ok hk ry hx rz hl (fun d' u' v' s' e1 I' ru rv => ⟨v', H, I', ru, q1 d' v' e1 rv⟩) fun zs s' e1 rp I' => ⟨z, _, I', rz, q2 zs e1 rp⟩
def rPopD (K : PySem.W.Frag) (w : World) : V → V → V → Hp → VK → Prop := fun x y z H Q => ∃ mu a xs ds k, x = .ref a ∧ H a = some (dictO w a xs) ∧ Rdt K mu H ds xs ∧ okK ds k = true ∧ Rv K mu H k y ∧
  (∀ d v zs, dget ds k = some d → Rv K mu H d v → Rdt K mu H (ddel ds k) zs → Q v (upd H a (dictO w a zs))) ∧ (dget ds k = none → Q z H)
theorem mt_popD {w : World} (hu : X.A.units + 64 < cLine) (hw : w = X.w) : MtD X "dict.pop" (rPopD X.K w) := fun pins s σ H x y z v u t Q I rx ry rz ⟨mu, a, xs, ds, k, ex, e, r, ok, hk, q1, q2⟩ => by
  subst ex
  cases rx
  exact dd_pop (d := .non) (v := z) hu I hw e r ok hk ry (fun d' u' v' zs s' e1 rp I' ru rv => ⟨v', _, I', ru, q1 d' v' zs e1 rv rp⟩) fun s' e1 I' => ⟨z, H, I', rz, q2 e1⟩
/-- a dict's method by what it asks of the heap: the dict stands at the handle n -/
def OkD (K : PySem.W.Frag) (CL : CLs) (rr : V → V → V → Hp → VK → Prop) (m : Nat → D → D → Mem → Res RV) : Prop :=
  ∀ (W : WX) (σ : Sg) mu H M n p d e v u (Q : VK), Rm K CL mu H M → mu[n]? = some p → Rv K mu H d v → Rv K mu H e u → Pst K CL W σ mu H (m n d e M) (fun z _ mu' H' => ∀ w, Rr K CL mu' H' H z w → Q w H') → rr (.ref p) v u H Q
theorem snd_d2 {w : World} {name : Str} {id : String} {rr : V → V → V → Hp → VK → Prop} {m : Nat → D → D → Mem → Res RV} (hw : w = CL.w) (slot : Slot "dict" name id) (hty : typeOf (.builtin id) = pure (.type "method_descriptor")) (hm : MtD X id rr) (k : OkD X.K CL rr m) (ho : SndE X CL cl o so) (ha : SndE X CL cl a sa) (hb : SndE X CL cl b sb)
    (m2 : M2 X o name apos a b cpos) : SndE X CL cl (.Call (.Attribute o name apos) [a, b] [] cpos) (eD2 m so sa sb) := fun W tk => by
  refine pe_imp (pe_d2 (w := w) slot hty hm (ho W tk) (ha W tk) (hb W tk) m2) fun σ H Q h => ?_
  obtain ⟨mu, r, M, hm, hs, p⟩ := h
  refine rE_then hm hs p fun x v M1 mu1 H1 n1 h1 p1 => ?_
  split at p1
  · rename_i n
    split at p1
    · rename_i e
      obtain ⟨ds, e⟩ := Option.isSome_iff_exists.mp e
      obtain ⟨fz, p', xs, hv, h2, h3⟩ := dicOf_ok n1.rm h1.w e
      obtain ⟨q, h4, h5⟩ := h1
      refine ⟨⟨fz, p', xs, hv, by rw [hw]; exact h2⟩, ?_⟩
      refine rE_thenB n1.rm n1.rs Stp.refl p1 fun y u M2 mu2 H2 n2 h6 p2 => ?_
      obtain ⟨t, R3, s3, hu⟩ := n2.rm.box h6 n2.st
      refine rE_thenB R3 (n2.rs.ext t) s3 p2 fun z v2 M4 mu4 H4 n4 h7 p4 => ?_
      obtain ⟨t2, R5, s5, hz⟩ := n4.rm.box h7 n4.st
      rw [h5]
      refine k W σ (mu4 ++ t2) H4 _ n q _ _ u v2 Q R5 ?_ (hu.stp R3 s5) hz ?_
      · exact s5.get (s3.get h4)
      · exact (p4.from (s3.trans s5 R3) R5).mono fun _ _ _ _ _ _ z w hw => z w ((hw.base (s3.trans s5 R3) R5).base n1.st n1.rm)
    · exact bad_end p1
  · exact bad_end p1
theorem okD_get {K : PySem.W.Frag} : OkD K CL (rGetD K CL.w) mGet := fun W σ mu H M n p d e v u Q R hp hd he h => by
  unfold mGet at h
  split at h
  · rename_i fz kvs e1
    split at h
    · rename_i c
      obtain ⟨xs, h1, h2⟩ := R.ob n p _ hp e1
      exact ⟨mu, fz, p, xs, kvs, d, e, rfl, h1, h2, c, hd, he, fun w hw => end_d R h hw⟩
    · exact bad_end h
  · exact bad_end h
theorem okD_setd {K : PySem.W.Frag} : OkD K CL (rSetdD K CL.w) mSetd := fun W σ mu H M n p d e v u Q R hp hd he h => by
  unfold mSetd at h
  split at h
  · rename_i kvs e1
    split at h
    · rename_i c
      obtain ⟨xs, h1, h2⟩ := R.ob n p _ hp e1
      have h1' : H p = some (dictO CL.w p xs) := h1
      have nf : ∀ od v, H p ≠ some (.frz od v) := fun _ _ z => by rw [h1'] at z; cases z
      refine ⟨mu, p, xs, kvs, d, e, rfl, h1', h2, c.1, hd, he, c.2, fun d' v' ed rv => ?_, fun zs ed rz => ?_⟩
      · rw [ed] at h; exact end_d R h rv
      · rw [ed] at h
        have st : Stp mu H mu (upd H p (dictO CL.w p zs)) := Stp.write hp nf
        exact h mu _ st (R.write (u := dictO CL.w p zs) (o := .dic false (dput kvs d e)) hp nf ⟨zs, upd_same, rz.stp R st⟩) u (Rv.stp R st he)
    · exact bad_end h
  · exact bad_end h
theorem okD_pop {K : PySem.W.Frag} : OkD K CL (rPopD K CL.w) mDpop := fun W σ mu H M n p d e v u Q R hp hd he h => by
  unfold mDpop at h
  split at h
  · rename_i kvs e1
    split at h
    · rename_i c
      obtain ⟨xs, h1, h2⟩ := R.ob n p _ hp e1
      have h1' : H p = some (dictO CL.w p xs) := h1
      have nf : ∀ od v, H p ≠ some (.frz od v) := fun _ _ z => by rw [h1'] at z; cases z
      refine ⟨mu, p, xs, kvs, d, rfl, h1', h2, c, hd, fun d' v' zs ed rv rz => ?_, fun ed => ?_⟩
      · rw [ed] at h
        have st : Stp mu H mu (upd H p (dictO CL.w p zs)) := Stp.write hp nf
        exact h mu _ st (R.write (u := dictO CL.w p zs) (o := .dic false (ddel kvs d)) hp nf ⟨zs, upd_same, rz.stp R st⟩) v' (Rv.stp R st rv)
      · rw [ed] at h; exact end_d R h he
    · exact bad_end h
  · exact bad_end h
end
/-! ### dict(xs), xs pairs with tuples as keys -/
section
variable {X : Cx} {K : PySem.W.Frag} {CL : CLs}
theorem storedAll_bk : ∀ (ps : List (NestedKey × Addr × Value)) (xs : List Ent), Refs xs → bkT (storedAllH (xsT xs) ps) = ps.foldl (fun acc p => eStore acc p.1 (.ref p.2.1) p.2.2) xs ∧ Refs (ps.foldl (fun acc p => eStore acc p.1 (.ref p.2.1) p.2.2) xs)
  | [], xs, h => ⟨bk_xsT h, h⟩
  | p :: ps, xs, h => by
    have h2 : Refs (eStore xs p.1 (.ref p.2.1) p.2.2) := by
      intro x hx
      unfold eStore at hx
      split at hx
      · obtain ⟨y, hy, rfl⟩ := List.mem_map.mp hx
        have := h y hy
        unfold ePut; split <;> exact this
      · rcases List.mem_append.mp hx with q | q
        · exact h x q
        · simp only [List.mem_singleton] at q; subst q; rfl
    obtain ⟨q1, q2⟩ := storedAll_bk ps _ h2
    refine ⟨?_, q2⟩
    rw [List.foldl_cons, ← q1]
    show bkT (storedAllH (storedH (xsT xs) p.1 p.2.1 p.2.2) ps) = _
    have e : storedH (xsT xs) p.1 p.2.1 p.2.2 = xsT (eStore xs p.1 (.ref p.2.1) p.2.2) := by
      have z := bk_store h p.1 p.2.1 p.2.2
      rw [← z]
      unfold xsT bkT
      rw [List.map_map]
      exact (List.map_id _).symm
    rw [e]
/-- pairs, told -/
def PrA (K : PySem.W.Frag) (mu : List Addr) (H : Hp) : List (D × D) → List (Addr × Addr × V) → Prop
  | [], ts => ts = []
  | p :: r, ts => ∃ t b v ts', ts = (t, b, v) :: ts' ∧ SqT K H t [.ref b, v] ∧ isTk p.1 = true ∧ Rv K mu H p.1 (.ref b) ∧ Rv K mu H p.2 v ∧ PrA K mu H r ts'
def rDictT (K : PySem.W.Frag) (w : World) : List V → Hp → VK → Prop := fun xs H Q => ∃ mu a ps ts, xs = [.ref a] ∧ SqL K H a (ts.map fun t => V.ref t.1) ∧ PrA K mu H ps ts ∧ ∀ zs p, Rdt K mu H (ps.foldl (fun acc q => dput acc q.1 q.2) []) zs → H p = none → Q (.ref p) (upd H p (dictO w p zs))
theorem prA_vals {pins : List (Addr × Obj)} {σ : Sg} {H : Hp} {s : Shared} {mu : List Addr} (I : Inv X pins σ H s) : ∀ {ps : List (D × D)} {ts : List (Addr × Addr × V)}, PrA X.K mu H ps ts →
    ∃ vs : List (NestedKey × Addr × Value), vs.length = ts.length ∧ (∀ x ∈ vs, (nestedKind X.prog X.w).is s.heap x.1 x.2.1) ∧
      (∀ (j : Nat) x, vs[j]? = some x → ∃ t, ts[j]? = some t ∧ PairAt s.heap t.1 (.ref x.2.1) x.2.2) ∧
      ∀ acc zs, Rdt X.K mu H acc zs → Rdt X.K mu H (ps.foldl (fun acc q => dput acc q.1 q.2) acc) (vs.foldl (fun acc p => eStore acc p.1 (.ref p.2.1) p.2.2) zs) ∧
        (vs.foldl (fun acc p => eStore acc p.1 (.ref p.2.1) p.2.2) zs).length ≤ zs.length + vs.length
  | [], ts, h => by cases (show ts = [] from h); exact ⟨[], rfl, (fun x hx => nomatch hx), (fun j x e => by simp at e), fun acc zs r => ⟨r, Nat.le_refl _⟩⟩
  | p :: ps, _, ⟨t, b, v, ts', e, h1, h2, h3, h4, h5⟩ => by
    subst e
    obtain ⟨vs, q1, q2, q3, q4⟩ := prA_vals I h5
    obtain ⟨its, rv, pt, _⟩ := I.tuple h1
    obtain ⟨u1, u2, rfl, r1, r2⟩ := vals2 rv
    cases r1
    refine ⟨(toNk p.1, b, u2) :: vs, by simp [q1], fun x hx => ?_, fun j x e => ?_, fun acc zs r => ?_⟩
    · rcases List.mem_cons.mp hx with z | z
      · subst z; exact key_is I h2 h3
      · exact q2 x z
    · cases j with
      | zero =>
        simp at e; subst e
        exact ⟨_, rfl, .inl pt⟩
      | succ j => exact q3 j x (by simpa using e)
    · obtain ⟨z1, z2⟩ := q4 _ _ (r.put (.inr h2) (show RelV (.ref b) (.ref b) from rfl) h3 r2 h4)
      refine ⟨z1, ?_⟩
      have := eStore_len zs (toNk p.1) (.ref b) u2
      simp only [List.foldl_cons, List.length_cons]
      omega
theorem call_dictT {w : World} (hc : X.calm = true) (hu : X.A.units + 64 < cLine) (hw : w = X.w) : CallR X (.type "dict") (rDictT X.K w) := fun pins s σ H xs us Q I r ⟨mu, a, ps, ts, ex, hl, hp, q⟩ => by
  subst ex
  subst hw
  obtain ⟨u, rfl, rx⟩ := vals1 r
  cases rx
  obtain ⟨its, rv, pl, hz⟩ := I.list hl
  obtain ⟨o, n, ho, hcl, hd, hdat⟩ := pl
  obtain ⟨vs, q1, q2, q3, q4⟩ := prA_vals I hp
  have ei : its = ts.map fun t => Value.ref t.1 := by
    have : ∀ {ts : List (Addr × Addr × V)} {us : List Value}, Vals (ts.map fun t => V.ref t.1) us → us = ts.map fun t => Value.ref t.1 := by
      intro ts
      induction ts with
      | nil => intro us r; cases r; rfl
      | cons t ts ih => intro us r; cases r with
        | cons h t => cases h; rw [ih t]; rfl
    exact this rv
  have hlen : vs.length ≤ sizeLine := by rw [q1]; rw [List.length_map] at hz; exact hz
  have hm : (s.heap.objs.size == sysModules) = false := beq_eq_false_iff_ne.mpr (Nat.ne_of_gt I.big)
  have P := PairArg.list (prog := X.prog) (w := X.w) a its.toArray (fun j => ((ts[j]?).map (·.1)).getD 0) (vs.map fun x => (Value.ref x.2.1, x.2.2))
  have room : (nestedKind X.prog X.w).room X.A.in1.in1 := by
    have h1 : X.A.in1.in1.units ≤ X.A.units + 4 := by first | (simp [Around.in1]; done) | (simp [Around.in1]; omega) | exact Nat.le_add_right _ _
    show X.A.in1.in1.units + 8 < cLine
    omega
  have hit : PairItems s.heap its.toArray (fun j => ((ts[j]?).map (·.1)).getD 0) (vs.map fun x => (Value.ref x.2.1, x.2.2)) := by
    refine ⟨by rw [ei]; simp [q1], fun j k v e => ?_⟩
    rw [List.getElem?_map] at e
    obtain ⟨x, e1, e2⟩ := Option.map_eq_some_iff.mp e
    obtain ⟨t, e3, e4⟩ := q3 j x e1
    simp only [Prod.mk.injEq] at e2
    simp only [e3, Option.map_some, Option.getD_some]
    refine ⟨?_, by rw [← e2.1, ← e2.2]; exact e4⟩
    rw [ei]
    simp [e3]
  have hhave : PairsHaveH (nestedKind X.prog X.w) (vs.map fun x => (Value.ref x.2.1, x.2.2)).length (PairRel (vs.map fun x => (Value.ref x.2.1, x.2.2))) vs := by
    refine ⟨by simp, fun i key v e => ?_⟩
    have e' : (vs.map fun x => (Value.ref x.2.1, x.2.2))[i]? = some (key, v) := e
    rw [List.getElem?_map] at e'
    obtain ⟨x, e1, e2⟩ := Option.map_eq_some_iff.mp e'
    simp only [Prod.mk.injEq] at e2
    exact ⟨x.1, x.2.1, by rw [e1, ← e2.2], e2.1.symm⟩
  have hstay : KeysStay (nestedKind X.prog X.w) s.heap s.heap.objs.size [] vs := fun h' hk x hx => by
    have z := q2 x hx
    exact ⟨NestedIs.at (fun b ob vs' m e _ => hk b ob (Nat.ne_of_lt (Heap.lt_size e)) (fun q => nomatch q) e) _ _ z.1, z.2⟩
  refine call_dict_pairsH (knd := nestedKind X.prog X.w) (ps := vs) P (I.ok.hd hc) room ⟨⟨o, n, ho, hcl, hd, hdat⟩, hit⟩ hhave hstay (by rw [List.length_map]; exact hlen) fun h' tk hd' hk => ?_
  · obtain ⟨z1, z2⟩ := q4 [] [] rfl
    obtain ⟨z3, _⟩ := storedAll_bk vs [] (fun x hx => nomatch hx)
    have e0 : storedAllH [] vs = storedAllH (xsT []) vs := rfl
    rw [e0] at hd'
    have d := DT0.ofT hd' hm (by
      have := congrArg List.length z3
      unfold bkT at this
      rw [List.length_map] at this
      rw [this]
      simp only [List.length_nil, Nat.zero_add] at z2
      omega)
    rw [z3] at d
    exact ⟨.ref s.heap.objs.size, _, I.laid (o := dictO X.w s.heap.objs.size _) (t' := tk) (fun b ob e => hk b ob (fun q => nomatch q) e) (Nat.le_refl _) (dictO_ok d), rfl, q _ _ z1 (I.hok.fresh (Nat.le_refl _))⟩
theorem pairsOf_ok {mu : List Addr} {H : Hp} : ∀ (ds : List D) (vs : List V) (acc kvs : List (D × D)), Rvs K mu H ds vs → pairsOf ds acc = some kvs → ∃ ps ts, vs = ts.map (fun t => V.ref t.1) ∧ PrA K mu H ps ts ∧ kvs = ps.foldl (fun acc q => dput acc q.1 q.2) acc
  | [], vs, acc, kvs, h, e => by
    cases (show vs = [] from h)
    simp only [pairsOf] at e; cases e
    exact ⟨[], [], rfl, rfl, rfl⟩
  | d :: ds, vs, acc, kvs, ⟨v, r, e1, h, t⟩, e => by
    subst e1
    unfold pairsOf at e
    split at e
    · rename_i e2; cases e2
    · rename_i k x r' e2
      injection e2 with e3 e4
      subst e3
      subst e4
      split at e
      · rename_i hk
        obtain ⟨ps, ts, q1, q2, q3⟩ := pairsOf_ok _ _ _ _ t e
        obtain ⟨a, ws, rfl, h1, h2⟩ := h
        obtain ⟨w1, r1, e5, h3, h4⟩ := h2
        obtain ⟨w2, r2, e6, h5, h6⟩ := h4
        have h6' : r2 = [] := h6
        subst h6'
        subst e6
        subst e5
        obtain ⟨b, rfl⟩ := tk_ref hk h3
        exact ⟨(k, x) :: ps, (a, b, w2) :: ts, by rw [q1]; rfl, ⟨a, b, w2, ts, rfl, h1, hk, h3, h5, q2⟩, q3⟩
      · cases e
    · cases e
theorem ok1_dict : Ok1 K CL (rDictT K CL.w) bDict := fun W σ mu H M x v Q R hx p => by
  unfold bDict at p
  split at p
  · rename_i ds e
    split at p
    · rename_i kvs e2
      split at p
      · obtain ⟨a, vs, rfl, h1, h2⟩ := lstOf_ok R hx e
        obtain ⟨ps, ts, rfl, q2, rfl⟩ := pairsOf_ok ds vs [] kvs h2 e2
        exact ⟨mu, a, ps, ts, rfl, h1, q2, fun zs l rz n => end_dic R p rz l n⟩
      · exact bad_end p
    · exact bad_end p
  · exact bad_end p
end
end MI
end
section
set_option Elab.async false
set_option linter.all false
set_option maxRecDepth 100000
set_option maxHeartbeats 4000000
/-! MIg: zip; loops and comprehensions over dicts -/
namespace MI
open PySem PySem.Spec PyProof.Rows L2
/-! ### zip -/
section
variable {K : PySem.W.Frag} {CL : CLs} {mu1 : List Addr} {H1 : Hp} {M1 : Mem}
theorem lst_stays {x : RV} {v : V} {ds : List D} (R1 : Rm K CL mu1 H1 M1) (h : Rw K CL mu1 H1 x v) (e : lstOf x M1 = some ds) :
    ∃ a, v = .ref a ∧ ∀ mu H M, Stp mu1 H1 mu H → Rm K CL mu H M → chkOk (chkR x M1) M = true → ∃ vs, SqL K H a vs ∧ Rvs K mu H ds vs := by
  by_cases hr : ∃ es, x = .d (.ro es)
  · obtain ⟨es, rfl⟩ := hr
    simp only [lstOf, Option.some.injEq] at e
    subst e
    obtain ⟨q, vs, rfl, h2, h3⟩ := h
    exact ⟨q, rfl, fun mu H M st R _ => ⟨vs, (h2.stp R1 st).sq, h3.stp R1 st⟩⟩
  · cases x with
    | o o =>
      cases o with
      | lst es =>
        simp only [lstOf, Option.some.injEq] at e
        subst e
        obtain ⟨q, rfl, ⟨vs, h2, h3⟩, h4⟩ := h
        exact ⟨q, rfl, fun mu H M st R _ => ⟨vs, .inl (.inl (st.keep _ _ h2 h4)), h3.stp R1 st⟩⟩
      | _ => simp [lstOf] at e
    | d d =>
      cases d with
      | ro es => exact absurd ⟨es, rfl⟩ hr
      | hdl n =>
        obtain ⟨q, h2, rfl⟩ := h
        cases ec : M1[n]? with
        | none => simp [lstOf, ec] at e
        | some o =>
          cases o with
          | lst es =>
            simp only [lstOf, ec, Option.some.injEq] at e
            subst e
            have ck : chkR (.d (.hdl n)) M1 = [(n, .lst es)] := by simp [chkR, ec]
            rw [ck]
            refine ⟨q, rfl, fun mu H M st R k => ?_⟩
            simp only [chkOk, List.all_cons, List.all_nil, Bool.and_true, decide_eq_true_eq] at k
            obtain ⟨ws, h5, h6⟩ := R.ob n q _ (st.get h2) k
            exact ⟨ws, .inl (.inl h5), h6⟩
          | _ => simp [lstOf, ec] at e
      | _ => simp [lstOf] at e
theorem chkOk_app {c d : Chk} {M : Mem} (h : chkOk (c ++ d) M = true) : chkOk c M = true ∧ chkOk d M = true := by
  unfold chkOk at h ⊢
  rw [List.all_append, Bool.and_eq_true] at h
  exact h
end
section
variable {X : Cx} {CL : CLs} {cl : Cl} {a b : Expr} {sa sb : SE} {p0 pos tpos : Pos} {elts : List Expr} {kk : Nat}
theorem snd_zip (ha : SndE X CL cl a sa) (hb : SndE X CL cl b sb) (hg : Gl X "zip") (hm : X.mg "zip" = none) (hst : starEach [a, b] X.env = (false, eval a X.env) :: starEach [b] X.env) (hst2 : starEach [b] X.env = [(false, eval b X.env)]) :
    SndI X CL cl (.Tuple elts kk tpos) (.Call (.Name "zip" p0) [a, b] [] pos) (MI.iZip sa sb) := fun W tk => by
  refine pi_imp (pi_zip hg hm (pa_cons (ha W tk) (pa_cons (hb W tk) pa_nil hst2) hst) hst (by rw [hst2]; rfl)) fun σ H R h => ?_
  obtain ⟨mu, r, M, hm, hs, p⟩ := h
  refine rE_then hm hs p fun x v M1 mu1 H1 n1 h1 p1 => ?_
  refine rE_then n1.rm n1.rs p1 fun y u M2 mu2 H2 n2 h2 p2 => ?_
  split at p2
  · rename_i xs ys e1 e2
    split at p2
    · rename_i hl
      obtain ⟨q1, rfl, f1⟩ := lst_stays n2.rm (h1.w.stp n1.rm n2.st) e1
      obtain ⟨q2, rfl, f2⟩ := lst_stays n2.rm h2.w e2
      have here : ∀ {c : Chk}, (∀ z ∈ c, M2[z.1]? = some z.2) → chkOk c M2 = true := fun {c} h => by
        unfold chkOk; rw [List.all_eq_true]; intro z hz; exact decide_eq_true (h z hz)
      have cR : ∀ x : RV, chkOk (chkR x M2) M2 = true := fun x => here fun z hz => by
        unfold chkR at hz
        split at hz
        · split at hz
          · rename_i e
            simp only [List.mem_singleton] at hz
            subst hz; exact e
          · cases hz
        · cases hz
      obtain ⟨vs, s1, s2⟩ := f1 _ _ _ Stp.refl n2.rm (cR x)
      obtain ⟨ws, s3, s4⟩ := f2 _ _ _ Stp.refl n2.rm (cR y)
      refine ⟨q1, q2, vs, ws, rfl, s1, s3, p2.here n2.rm _ ⟨fun i d mu H M e st R ck => ?_, fun mu H M st R ck => ?_⟩⟩
      · obtain ⟨c1, c2⟩ := chkOk_app ck
        obtain ⟨vs, g1, g2⟩ := f1 _ _ _ st R c1
        obtain ⟨ws, g3, g4⟩ := f2 _ _ _ st R c2
        rw [List.getElem?_map] at e
        obtain ⟨pr, e3, e4⟩ := Option.map_eq_some_iff.mp e
        obtain ⟨e5, e6⟩ := List.getElem?_zip_eq_some.mp e3
        obtain ⟨v, g5, g6⟩ := g2.get e5
        obtain ⟨w, g7, g8⟩ := g4.get e6
        refine ⟨⟨vs, ws, v, w, g1, g3, g5, g7⟩, fun z H' ⟨T, x', y', ez, nT, eH, z1, z2⟩ => ?_⟩
        subst ez
        subst eH
        have a1 := z1 vs g1
        rw [g5] at a1; cases a1
        have a2 := z2 ws g3
        rw [g7] at a2; cases a2
        have st' := Stp.laid R (u := .tup [v, w]) nT
        refine ⟨st', R.laid nT, ?_⟩
        subst e4
        exact ⟨T, [v, w], rfl, .inl (.inl upd_same), v, _, rfl, g6.stp R st', w, _, rfl, g8.stp R st', rfl⟩
      · obtain ⟨c1, c2⟩ := chkOk_app ck
        obtain ⟨vs, g1, g2⟩ := f1 _ _ _ st R c1
        obtain ⟨ws, g3, g4⟩ := f2 _ _ _ st R c2
        refine ⟨vs, ws, g1, g3, .inl ?_⟩
        rw [← g2.length, List.length_map, List.length_zip, ← hl, Nat.min_self]
        exact Nat.le_refl _
    · exact bad_end p2
  · exact bad_end p2
end
/-! ### a locked dict is walked -/
section
variable {X : Cx} {pins : List (Addr × Obj)} {σ : Sg} {H : Hp} {s : Shared} {d : Addr} {o : Obj} {xs : List Ent} {w : World}
theorem frzD (I : Inv X pins σ H s) (h : H d = some (.frz o (dictO w d xs))) :
    (d == sysModules) = false ∧ s.heap.get? d = some o ∧ o.ExactDict ∧ ∃ (es : Array DictEntry) (ep : Nat), o.data = .dict es ep ∧ es.size = xs.length ∧ ∀ (i : Nat) (e : Ent), xs[i]? = some e → ∃ en : DictEntry, es[i]? = some en ∧ en.key = e.2.1 := by
  obtain ⟨hd, hx⟩ := I.hok d _ h
  obtain ⟨⟨o', es, ep, ho, hc, hdt, he⟩, nd, sy, len⟩ := (show DT0 w s.heap d xs from hx.1)
  rw [hd] at ho
  cases ho
  refine ⟨sy, hd, hc, es, ep, hdt, ?_, fun i e hi => ?_⟩
  · rw [← Array.length_toList, he, List.length_map]
  · refine ⟨⟨e.1.hash w, e.2.1, e.2.2⟩, ?_, rfl⟩
    rw [← Array.getElem?_toList, he, List.getElem?_map, hi]; rfl
/-- the keys of the locked dict at d, in their order -/
def ItD (w : World) (d : Addr) (o : Obj) (xs : List Ent) : It :=
  ⟨fun i H => H d = some (.frz o (dictO w d xs)) ∧ i < xs.length, fun i H x H' => H' = H ∧ ∃ e, xs[i]? = some e ∧ RelV x e.2.1, fun i H => H d = some (.frz o (dictO w d xs)) ∧ xs.length ≤ i⟩
theorem relV_ex (e : Value) {v : V} (h : RelV v e) : ∃ x, RelV x e := ⟨v, h⟩
theorem turn_keysD {P : Program} {w' : World} {K : PySem.W.Frag} {tg : Expr} {es : Array DictEntry} {ep : Nat} (it : Addr) (hod : o.data = .dict es ep) (hv : ∀ e ∈ xs, ∃ x, RelV x e.2.1) : Turn P w' K tg (ItD w d o xs) [it] it (fun i h => h.IsKeyIter it d i xs.length ep) where
  mem := by simp
  obj := fun i h st b hb => by
    have e : b = it := by simpa using hb
    subst e
    obtain ⟨oi, e, c, dd⟩ := st
    exact ⟨oi, e, fun v z => by rw [dd] at z; cases z⟩
  keep := fun i h h' st k => st.at fun oi e => k it (by simp) oi e
  item := by
    intro X hP hw hK hc i pins s σ H E I hf st hg
    subst hP hw hK
    obtain ⟨hd, hi⟩ := hg
    obtain ⟨f0, f1, f2, f3, f4, f5⟩ := hf it (by simp)
    obtain ⟨hs, hgd, hx, es', ep', hdt, hsz, hk⟩ := frzD I hd
    obtain ⟨rfl, rfl⟩ := dict_ep hod hdt
    obtain ⟨en, e1, e2⟩ := hk i xs[i] (List.getElem?_eq_getElem hi)
    obtain ⟨x, rx⟩ := hv xs[i] (List.getElem_mem hi)
    refine next_key_item st hgd hdt hsz e1 fun h' st' sb => ?_
    have I1 : Inv X pins σ H { s with heap := h' } := I.turned (t' := s.toks) (fun b ob hb e => (sb.2 b hb).trans e) f0 f1 f3 f4 f5
    obtain ⟨oi, e, c, dd⟩ := id st'
    exact ⟨en.key, rfl, go_of (s := { s with heap := h' }) e c dd (by decide) ⟨x, H, I1, by rw [e2]; exact rx, ⟨rfl, xs[i], List.getElem?_eq_getElem hi, rx⟩, st', fun b hb => (hf b hb).1⟩⟩
  done := by
    intro X hP hw hK hc i pins s σ H E I hf st hg
    subst hP hw hK
    obtain ⟨hd, hi⟩ := hg
    obtain ⟨f0, f1, f2, f3, f4, f5⟩ := hf it (by simp)
    obtain ⟨hs, hgd, hx, es', ep', hdt, hsz, hk⟩ := frzD I hd
    obtain ⟨rfl, rfl⟩ := dict_ep hod hdt
    exact next_key_end (I.ok.hd hc) st hgd hdt hsz hi fun h' eb => ⟨rfl, I.turned (t' := s.toks) (fun b ob hb e => eb b ob hb e) f0 f1 f3 f4 f5⟩
  self := fun A i s Q E st h => wpAny_pyIter_keyiter st h
def iKeysD (w : World) (td : TE) : TI := fun σ H R => td σ H fun x H1 => ∃ d o xs, x = .ref d ∧ H1 d = some (.frz o (dictO w d xs)) ∧ (∀ e ∈ xs, ∃ x, RelV x e.2.1) ∧ R (ItD w d o xs) H1
theorem pi_keysD {tg e : Expr} {td : TE} (he : PE X e td) : PI X tg e (iKeysD w td) := by
  refine ⟨fun pins s σ H R I h => ?_⟩
  refine thn (he.run pins s σ H _ I h) fun u s1 ⟨x, H1, I1, rx, d, o, xs, ex, hd, hv, q⟩ => ?_
  subst ex
  cases rx
  obtain ⟨hs, hgd, hx, es, ep, hdt, hsz, _⟩ := frzD I1 hd
  refine iter_keys hs hgd hx hdt (pi_one (tk := s1.toks) I1 _ (turn_keysD _ hdt hv) ⟨_, Heap.get?_push_size _ rfl, rfl, ?_⟩ q)
  rw [hsz] <;> rfl
end
/-! ### ways told by choice -/
theorem ps_or {X : Cx} {st : Stmt} {t t' : TS} (h : PS X st t) (h' : PS X st t') : PS X st (fun D σ H => t D σ H ∨ t' D σ H) := ⟨fun pins s σ H D I q => q.elim (h.run pins s σ H D I) (h'.run pins s σ H D I)⟩
theorem pe_or {X : Cx} {e : Expr} {t t' : TE} (h : PE X e t) (h' : PE X e t') : PE X e (fun σ H Q => t σ H Q ∨ t' σ H Q) := ⟨fun pins s σ H Q I q => q.elim (h.run pins s σ H Q I) (h'.run pins s σ H Q I)⟩
/-! ### the lock, on and off -/
section
variable {K : PySem.W.Frag} {CL : CLs} {mu mu' : List Addr} {H H' : Hp} {M M' : Mem} {r : Env} {σ : Sg}
theorem Ro.updM {a Da : Addr} {u0 u : HO} (hD : H Da = some u0) (hm : isMut u0 = true) (na : a ≠ Da) {o : O} (h : Ro K CL mu H o a) : Ro K CL mu (upd H Da u) o a := by
  cases o with
  | lst ds => obtain ⟨vs, e, q⟩ := h; exact ⟨vs, by rw [upd_ne na]; exact e, q.updM hD hm⟩
  | dic fz kvs => obtain ⟨vs, e, q⟩ := h; exact ⟨vs, e.at (upd_ne na), q.updM hD hm⟩
  | ins c fs => obtain ⟨C, dx, fs', c', e, q⟩ := h; exact ⟨C, dx, fs', c', by rw [upd_ne na]; exact e, q.updM hD hm⟩
structure Lock (K : PySem.W.Frag) (CL : CLs) (mu : List Addr) (H : Hp) (M : Mem) (n : Nat) (kvs : List (D × D)) (a : Addr) (xs : List Ent) : Prop where
  at_ : mu[n]? = some a
  mem : M[n]? = some (.dic false kvs)
  ob : H a = some (dictO CL.w a xs)
  rel : Rdt K mu H kvs xs
theorem Rm.lock (R : Rm K CL mu H M) {n : Nat} {a : Addr} {kvs : List (D × D)} (e1 : mu[n]? = some a) (e2 : M[n]? = some (.dic false kvs)) : ∃ xs, Lock K CL mu H M n kvs a xs := by
  obtain ⟨xs, h1, h2⟩ := R.ob n a _ e1 e2
  exact ⟨xs, e1, e2, h1, h2⟩
section
variable {n : Nat} {kvs : List (D × D)} {a : Addr} {xs : List Ent} {od : Obj}
theorem Lock.nf (L : Lock K CL mu H M n kvs a xs) : ∀ o v, H a ≠ some (.frz o v) := fun o v z => by rw [L.ob] at z; cases z
theorem Lock.stp (L : Lock K CL mu H M n kvs a xs) : Stp mu H mu (upd H a (.frz od (dictO CL.w a xs))) := Stp.write L.at_ L.nf
theorem Lock.rm (L : Lock K CL mu H M n kvs a xs) (R : Rm K CL mu H M) : Rm K CL mu (upd H a (.frz od (dictO CL.w a xs))) (M.set n (.dic true kvs)) :=
  R.write L.at_ L.nf ⟨xs, ⟨od, upd_same⟩, L.rel.stp R L.stp⟩
/-- the step from ahead of the lock to behind it -/
theorem Lock.out (L : Lock K CL mu H M n kvs a xs) (s : Stp mu (upd H a (.frz od (dictO CL.w a xs))) mu' H') : H' a = some (.frz od (dictO CL.w a xs)) ∧ Stp mu H mu' (upd H' a (dictO CL.w a xs)) := by
  have ha : H' a = some (.frz od (dictO CL.w a xs)) := s.frz a od _ upd_same
  refine ⟨ha, s.pre, fun b hb => ?_, fun b o e nb => ?_, fun b o v e => ?_⟩
  · rcases s.new b hb with z | z
    · exact .inl z
    · by_cases hba : b = a
      · subst hba; exact .inl (List.mem_of_getElem? L.at_)
      · rw [upd_ne hba] at z; exact .inr z
  · have hba : b ≠ a := fun z => nb (by rw [z]; exact List.mem_of_getElem? L.at_)
    rw [upd_ne hba]
    exact s.keep b o (by rw [upd_ne hba]; exact e) nb
  · have hba : b ≠ a := fun z => L.nf o v (by rw [← z]; exact e)
    rw [upd_ne hba]
    exact s.frz b o v (by rw [upd_ne hba]; exact e)
theorem Lock.rm' (L : Lock K CL mu H M n kvs a xs) (R : Rm K CL mu H M) (s : Stp mu (upd H a (.frz od (dictO CL.w a xs))) mu' H') (R' : Rm K CL mu' H' M') (e : M'[n]? = some (.dic true kvs)) : Rm K CL mu' (upd H' a (dictO CL.w a xs)) (M'.set n (.dic false kvs)) := by
  obtain ⟨ha, _⟩ := L.out s
  have hn : mu'[n]? = some a := s.get L.at_
  refine ⟨by simp [R'.len], R'.nd, fun m b o e1 e2 => ?_⟩
  by_cases hm : n = m
  · subst hm
    rw [hn] at e1; cases e1
    have hl : n < M'.length := (List.getElem?_eq_some_iff.mp e).1
    rw [List.getElem?_set_self hl] at e2
    simp only [Option.some.injEq] at e2
    subst e2
    have h1 : Rdt K mu' H' kvs xs := (L.rel.stp R L.stp).stp (L.rm R) s
    exact ⟨xs, upd_same, h1.updM ha rfl⟩
  · rw [List.getElem?_set_ne hm] at e2
    refine (R'.ob m b o e1 e2).updM ha rfl fun z => hm ?_
    subst z
    obtain ⟨h1, q1⟩ := List.getElem?_eq_some_iff.mp hn
    obtain ⟨h2, q2⟩ := List.getElem?_eq_some_iff.mp e1
    exact (List.getElem_inj R'.nd).mp (q1.trans q2.symm)
theorem Lock.rr (L : Lock K CL mu H M n kvs a xs) (s : Stp mu (upd H a (.frz od (dictO CL.w a xs))) mu' H') {x : RV} {v : V} (h : Rr K CL mu' H' (upd H a (.frz od (dictO CL.w a xs))) x v) : Rr K CL mu' (upd H' a (dictO CL.w a xs)) H x v := by
  obtain ⟨ha, _⟩ := L.out s
  cases x with
  | d d => exact Rv.updM ha rfl h
  | o o =>
    obtain ⟨b, e, h1, h2, h3⟩ := h
    have hn : mu'[n]? = some a := s.get L.at_
    have hba : b ≠ a := fun z => h2 (by rw [z]; exact List.mem_of_getElem? hn)
    exact ⟨b, e, h1.updM ha rfl hba, h2, by rw [upd_ne hba] at h3; exact h3⟩
/-- what is walked in the lock -/
theorem Lock.wk (L : Lock K CL mu H M n kvs a xs) (R : Rm K CL mu H M) : Wk K CL (ItD CL.w a od xs) (kvs.map (·.1)) [(n, .dic true kvs)] mu (upd H a (.frz od (dictO CL.w a xs))) where
  go := fun i d mu2 H2 M2 e st R2 ck => by
    have ha := st.frz a od _ upd_same
    have rel := (L.rel.stp R L.stp).stp (L.rm R) st
    have hi : i < xs.length := by
      rw [← rel.length]
      have := (List.getElem?_eq_some_iff.mp e).1
      simpa using this
    refine ⟨⟨ha, hi⟩, fun x H' ⟨e1, en, e2, rx⟩ => ?_⟩
    subst e1
    obtain ⟨p, kv, v, e3, e4, e5, e6, _⟩ := rel.at e2
    rw [List.getElem?_map, e3] at e
    cases e
    rw [RelV.inj rx e5]
    exact ⟨Stp.refl, R2, e6⟩
  stop := fun mu2 H2 M2 st R2 ck => ⟨st.frz a od _ upd_same, by rw [List.length_map, L.rel.length]; exact Nat.le_refl _⟩
end
end
/-! ### for -/
section
variable {X : Cx} {CL : CLs} {cl : Cl} {W : WX} {a b c : Expr} {sts : List Stmt} {u : SS}
theorem for_go {t : Tg} {xs : List D} {ck : Chk} {D : Ends} {σ : Sg} {mu mu1 : List Addr} {H H1 : Hp} {M1 : Mem} {r : Env} {J : It} (wk : Wk X.K CL J xs ck mu1 H1) (R1 : Rm X.K CL mu1 H1 M1) (S1 : Rst X.K mu1 H1 r σ) (s0 : Stp mu H mu1 H1)
    (Rx : ∃ M0, Rm X.K CL mu H M0) (p1 : PsS X.K CL W mu H (forL (u cl) t ck xs r M1) D) :
    ∃ Wv : Nat → Nat → Sg → Hp → Prop, (∃ m, Wv 0 m σ H1) ∧ ∀ i m σ H, Wv i m σ H →
      (J.stop i H ∧ D.nx σ H) ∨ (J.go i H ∧ ∃ N : Sg → Hp → Prop, (∀ σ' H', N σ' H' → ∃ m', m' < m ∧ Wv (i + 1) m' σ' H') ∧ ∀ x H', J.yld i H x H' → gTg X.K t x σ H' fun σ2 H2 => rS X.K CL W cl u { D with nx := N, ct := N, bk := D.nx } σ2 H2) := by
  obtain ⟨M0, R0⟩ := Rx
  refine ⟨fun i m σ' H' => m = xs.length - i ∧ i ≤ xs.length ∧ ∃ mu' r' M', Rm X.K CL mu' H' M' ∧ Rst X.K mu' H' r' σ' ∧ Stp mu1 H1 mu' H' ∧ PsS X.K CL W mu H (forL (u cl) t ck (xs.drop i) r' M') D, ⟨xs.length, by simp, Nat.zero_le _, mu1, r, M1, R1, S1, Stp.refl, p1⟩, ?_⟩
  rintro i m σ' H' ⟨rfl, hi, mu', r', M', R', S', st, p'⟩
  have st0 := s0.trans st R1
  by_cases hlt : i < xs.length
  · rw [List.drop_eq_getElem_cons hlt] at p'
    unfold forL at p'
    split at p'
    · rename_i hck
      split at p'
      · rename_i r1 ea
        obtain ⟨g1, g2⟩ := wk.go i xs[i] mu' H' M' (List.getElem?_eq_getElem hlt) st R' hck
        refine .inr ⟨g1, fun σ2 H2 => ∃ m', m' < xs.length - i ∧ (m' = xs.length - (i + 1) ∧ i + 1 ≤ xs.length ∧ ∃ mu' r' M', Rm X.K CL mu' H2 M' ∧ Rst X.K mu' H2 r' σ2 ∧ Stp mu1 H1 mu' H2 ∧ PsS X.K CL W mu H (forL (u cl) t ck (xs.drop (i + 1)) r' M') D), fun _ _ z => z, fun y H2 hy => ?_⟩
        obtain ⟨s2, R2, hv⟩ := g2 y H2 hy
        refine gTg_ok t ea hv (S'.stp R' s2) fun σ2 hs2 => ⟨mu', r1, M', R2, hs2, ?_⟩
        cases eb : u cl r1 M' with
        | nx r2 M2 =>
          rw [eb] at p'
          exact fun mu3 H3 σ3 s3 R3 q3 => ⟨xs.length - (i + 1), by omega, rfl, hlt, mu3, r2, M2, R3, q3, (st.trans s2 R').trans s3 R2, p'⟩
        | ret y M2 =>
          rw [eb] at p'
          exact PsS.from (res := .ret y M2) p' (st0.trans s2 R') R2
        | err c M2 =>
          rw [eb] at p'
          exact PsS.from (res := .err c M2 _) p' (st0.trans s2 R') R2
        | bad => rw [eb] at p'; exact p'
      · exact p'.elim
    · exact p'.elim
  · have e : i = xs.length := by omega
    subst e
    rw [List.drop_length] at p'
    unfold forL at p'
    split at p'
    · rename_i hck
      exact .inl ⟨wk.stop mu' H' M' st R' hck, p'.here st0 R' S'⟩
    · exact p'.elim
theorem dicAt_ok {mu : List Addr} {H : Hp} {M : Mem} {r : Env} {σ : Sg} {i n : Nat} {kvs : List (D × D)} (R : Rm X.K CL mu H M) (S : Rst X.K mu H r σ) (e : dicAt r[i]? M = some (n, kvs)) : ∃ a, σ[i]? = some (some (.ref a)) ∧ mu[n]? = some a ∧ M[n]? = some (.dic false kvs) := by
  unfold dicAt at e
  split at e
  · rename_i m er
    split at e
    · rename_i kv em
      cases e
      obtain ⟨v, h1, a, h2, rfl⟩ := S.at_ i _ er
      exact ⟨a, h1, h2, em⟩
    · cases e
  · cases e
theorem stm_forN {tg : Expr} {t : Tg} {i : Nat} {x : Str} {p : Pos} {pos : Pos} (hc : X.calm = true) (hx : PE X (.Name x p) (tVar i)) (hE : SndE X CL cl (.Name x p) (eVar i)) (hg : SndTg X tg t) (hb : SndB X CL cl sts u) : SndS X CL cl (.For tg (.Name x p) sts [] pos) (sForN t i u) := fun W tk po => by
  have A := stm_for hc (snd_seq (tg := tg) hE) hg hb (fun _ => rfl) (pos := pos) W tk po
  have B := ps_lock (ps_for po hc (pi_keysD (w := CL.w) (tg := tg) hx) hg (hb W tk po) (fun _ => rfl) (pos := pos))
  refine ps_imp (ps_or A B) fun D σ H h => ?_
  obtain ⟨mu, r, M, hm, hs, p⟩ := h
  unfold sForN at p
  split at p
  · rename_i n kvs e
    right
    obtain ⟨a, h1, h2, h3⟩ := dicAt_ok hm hs e
    obtain ⟨xs, L⟩ := hm.lock h2 h3
    refine ⟨a, dictO CL.w a xs, L.ob, True.intro, fun od => ?_⟩
    refine ⟨.ref a, h1, a, od, xs, rfl, upd_same, fun en hen => ?_, ?_⟩
    · obtain ⟨_, _, kv, _, _, z, _⟩ := L.rel.mem en hen; exact ⟨kv, z⟩
    · refine for_go (M1 := M.set n (.dic true kvs)) (r := r) (mu := mu) (H := upd H a (.frz od (dictO CL.w a xs))) (L.wk hm) (L.rm hm) (hs.stp hm L.stp) Stp.refl ⟨_, L.rm hm⟩ ?_
      cases eb : forL (u cl) t [(n, .dic true kvs)] (kvs.map (·.1)) r (M.set n (.dic true kvs)) with
      | nx r1 M1 =>
        rw [eb] at p
        simp only at p
        intro mu' H' σ' s' R' S'
        obtain ⟨ha, st⟩ := L.out s'
        refine ⟨ha, ?_⟩
        unfold unlk at p
        split at p
        · rename_i M2 e2
          split at e2
          · rename_i e3
            cases e2
            exact p mu' _ σ' st (L.rm' hm s' R' e3) ⟨S'.len, fun j d hj => let ⟨v, q1, q2⟩ := S'.at_ j d hj; ⟨v, q1, q2.updM ha rfl⟩⟩
          · cases e2
        · exact p.elim
      | ret y M1 =>
        rw [eb] at p
        simp only at p
        intro mu' H' v s' R' hv
        obtain ⟨ha, st⟩ := L.out s'
        refine ⟨ha, ?_⟩
        unfold unlk at p
        split at p
        · rename_i M2 e2
          split at e2
          · rename_i e3
            cases e2
            exact p mu' _ v st (L.rm' hm s' R' e3) (L.rr s' hv)
          · cases e2
        · exact p.elim
      | err c r1 M1 => rw [eb] at p; exact p.elim
      | bad => rw [eb] at p; exact p.elim
  · left
    exact ⟨mu, r, M, hm, hs, p⟩
end
end MI
end
section
set_option Elab.async false
set_option linter.all false
set_option maxRecDepth 100000
set_option maxHeartbeats 4000000
/-! MIh: comprehensions over a name that may hold a dict; while; try without a name; fields, methods, classes -/
namespace MI
open PySem PySem.Spec PyProof.Rows L2
section
variable {X : Cx} {CL : CLs} {cl : Cl} {W : WX}
theorem lc_go {selt : SE} {stst : STt} {t : Tg} {own : List Nat} (hi : ∀ i ∈ t.ix, i ∈ own) {σ : Sg} {H H1 : Hp} {Q : VK} {mu mu1 : List Addr} {M1 : Mem} {r : Env} {J : It} {xs : List D} {c : Chk} (wk : Wk X.K CL J xs c mu1 H1) (R1 : Rm X.K CL mu1 H1 M1) (S1 : Rst X.K mu1 H1 r σ) (st1 : Stp mu H mu1 H1)
    (p1 : Pst X.K CL W σ mu H (compL (selt cl) (stst cl) t c (MI.wipe r own) xs [] M1) fun x _ mu' H' => ∀ v, Rr X.K CL mu' H' H x v → Q v H') (D : Addr) (nD : H1 D = none) :
    ∃ Wv : Nat → Nat → Hp → Prop, (∃ m, Wv 0 m (upd H1 D (.lst []))) ∧ ∀ i m H, Wv i m H →
      (J.stop i H ∧ Q (.ref D) H) ∨ (J.go i H ∧ ∃ Nx : Hp → Prop, (∀ H', Nx H' → ∃ m', m' < m ∧ Wv (i + 1) m' H') ∧ ∀ x H', J.yld i H x H' → gTg X.K t x (L2.wipe σ own) H' fun σ2 H2 => L2.wipe σ2 own = L2.wipe σ own ∧ rT X.K CL Wno cl stst σ2 H2 fun b H3 =>
        if b = true then rE X.K CL Wno cl selt σ2 H3 fun y H4 => ∃ acc, H4 D = some (.lst acc) ∧ acc.length < sizeLine ∧ Nx (upd H4 D (.lst (acc ++ [y]))) else Nx H3) := by
  have dD : D ∉ mu1 := R1.fresh nD
  refine ⟨fun i m H' => m = xs.length - i ∧ i ≤ xs.length ∧ ∃ mu' M' acc av, Rm X.K CL mu' H' M' ∧ Stp mu1 H1 mu' H' ∧ D ∉ mu' ∧ H' D = some (.lst av) ∧ Rvs X.K mu' H' acc av ∧
    Pst X.K CL W σ mu H (compL (selt cl) (stst cl) t c (MI.wipe r own) (xs.drop i) acc M') fun x _ mu' H' => ∀ v, Rr X.K CL mu' H' H x v → Q v H', ⟨xs.length, by simp, Nat.zero_le _, mu1, M1, [], [], R1.laid nD, Stp.laid R1 nD, dD, upd_same, rfl, p1⟩, ?_⟩
  rintro i m H' ⟨rfl, hle, mu', M', acc, av, R', st, nm, hD, ha, p'⟩
  by_cases hlt : i < xs.length
  · rw [List.drop_eq_getElem_cons hlt] at p'
    unfold compL at p'
    split at p'
    · rename_i ck
      split at p'
      · rename_i r1 ea
        obtain ⟨g1, g2⟩ := wk.go i xs[i] mu' H' M' (List.getElem?_eq_getElem hlt) st R' ck
        refine .inr ⟨g1, fun H2 => ∃ m', m' < xs.length - i ∧ (m' = xs.length - (i + 1) ∧ i + 1 ≤ xs.length ∧ ∃ mu' M' acc av, Rm X.K CL mu' H2 M' ∧ Stp mu1 H1 mu' H2 ∧ D ∉ mu' ∧ H2 D = some (.lst av) ∧ Rvs X.K mu' H2 acc av ∧
          Pst X.K CL W σ mu H (compL (selt cl) (stst cl) t c (MI.wipe r own) (xs.drop (i + 1)) acc M') fun x _ mu' H' => ∀ v, Rr X.K CL mu' H' H x v → Q v H'), fun _ z => z, fun y H2 hy => ?_⟩
        obtain ⟨s2, R2, hv⟩ := g2 y H2 hy
        have hD2 : H2 D = some (.lst av) := s2.keep _ _ hD nm
        have ha2 := ha.stp R' s2
        have S2 : Rst X.K mu' H2 (MI.wipe r own) (L2.wipe σ own) := (((S1.stp R1 st).stp R' s2)).wipe own
        refine gTg_wp t hi ea hv S2 fun σ2 S3 hw => ⟨hw.trans (wipe_wipe σ own), ?_⟩
        refine ⟨mu', r1, M', R2, S3, ?_⟩
        cases et : stst cl r1 M' with
        | err c M2 => rw [et] at p'; exact p'.elim
        | bad => rw [et] at p'; exact p'.elim
        | ok b M2 =>
          rw [et] at p'
          intro mu3 H3 s3 R3
          have hD3 : H3 D = some (.lst av) := s3.keep _ _ hD2 nm
          have nm3 : D ∉ mu3 := s3.out hD2 nm
          have ha3 := ha2.stp R2 s3
          have st3 : Stp mu1 H1 mu3 H3 := (st.trans s2 R').trans s3 R2
          cases b with
          | false =>
            simp only [Res.calm, Res.bind, Bool.false_eq_true, if_false] at p' ⊢
            exact ⟨xs.length - (i + 1), by omega, rfl, hlt, mu3, M2, acc, av, R3, st3, nm3, hD3, ha3, p'⟩
          | true =>
            simp only [Res.calm, Res.bind, if_true] at p' ⊢
            refine ⟨mu3, r1, M2, R3, S3.stp R2 s3, ?_⟩
            cases ee : selt cl r1 M2 with
            | err c M4 => rw [ee] at p'; exact p'.elim
            | bad => rw [ee] at p'; exact p'.elim
            | ok y M4 =>
              rw [ee] at p'
              intro mu4 H4 s4 R4 w hw
              have hD4 : H4 D = some (.lst av) := s4.keep _ _ hD3 nm3
              obtain ⟨tt, R5, s5, hb⟩ := R4.box hw s4
              have nm5 : D ∉ mu4 ++ tt := s5.out hD3 nm3
              have ha5 : Rvs X.K (mu4 ++ tt) H4 acc av := ha3.stp R3 s5
              simp only at p'
              split at p'
              · rename_i hl
                refine ⟨av, hD4, by rw [← ha5.length]; exact hl, xs.length - (i + 1), by omega, rfl, hlt, mu4 ++ tt, _, acc ++ [(MI.box y M4).1], av ++ [w], R5.updL hD4 nm5, (st3.trans s5 R3).updL nD, nm5, upd_same, (ha5.append (Rvs.one hb)).updL hD4, p'⟩
              · exact p'.elim
      · exact p'.elim
    · exact p'.elim
  · have e : i = xs.length := by omega
    subst e
    rw [List.drop_length] at p'
    unfold compL at p'
    split at p'
    · rename_i ck
      refine .inl ⟨wk.stop mu' H' M' st R' ck, ?_⟩
      exact p' mu' H' (st1.trans st R1) R' (.ref D) ⟨D, rfl, ⟨av, hD, ha⟩, nm, st1.free R1 nD⟩
    · exact p'.elim
theorem lc_readN {selt : SE} {stst : STt} {t : Tg} {own : List Nat} {i : Nat} (hi : ∀ i ∈ t.ix, i ∈ own) {σ : Sg} {H : Hp} {Q : VK} (h : rE X.K CL W cl (eCompN selt stst t own i) σ H Q) :
    rE X.K CL W cl (eComp selt stst t own (iSeq (eVar i))) σ H Q ∨ tLockE (tLc (iKeysD CL.w (tVar i)) (gTg X.K t) (rT X.K CL Wno cl stst) (rE X.K CL Wno cl selt) own) σ H Q := by
  obtain ⟨mu, r, M, hm, hs, p⟩ := h
  unfold eCompN at p
  split at p
  · rename_i n kvs e
    right
    obtain ⟨a, h1, h2, h3⟩ := dicAt_ok hm hs e
    obtain ⟨xs, L⟩ := hm.lock h2 h3
    refine ⟨a, dictO CL.w a xs, L.ob, True.intro, fun od => ?_⟩
    refine ⟨.ref a, h1, a, od, xs, rfl, upd_same, fun en hen => ?_, fun D nD => ?_⟩
    · obtain ⟨_, _, kv, _, _, z, _⟩ := L.rel.mem en hen; exact ⟨kv, z⟩
    · refine lc_go (Q := fun v H' => H' a = some (.frz od (dictO CL.w a xs)) ∧ Q v (upd H' a (dictO CL.w a xs))) (W := W) (mu := mu) (H := upd H a (.frz od (dictO CL.w a xs))) hi (L.wk hm) (L.rm hm) (hs.stp hm L.stp) Stp.refl ?_ D nD
      cases eb : compL (selt cl) (stst cl) t [(n, .dic true kvs)] (MI.wipe r own) (kvs.map (·.1)) [] (M.set n (.dic true kvs)) with
      | ok x M1 =>
        rw [eb] at p
        simp only at p
        intro mu' H' s' R' v hv
        obtain ⟨ha, st⟩ := L.out s'
        refine ⟨ha, ?_⟩
        unfold unlk at p
        split at p
        · rename_i M2 e2
          split at e2
          · rename_i e3
            cases e2
            exact p mu' _ st (L.rm' hm s' R' e3) v (L.rr s' hv)
          · cases e2
        · exact p.elim
      | err c M1 => rw [eb] at p; exact p.elim
      | bad => rw [eb] at p; exact p.elim
  · left
    exact ⟨mu, r, M, hm, hs, p⟩
variable {elt tg : Expr} {ifs : List Expr} {scope : Scope} {own : List (Str × Nat)} {pos spos p : Pos} {selt : SE} {stst : STt} {t : Tg} {i : Nat} {x : Str}
theorem snd_compN (hc : X.calm = true) (hN : X.N.Nodup) (hx : PE X (.Name x p) (tVar i)) (hE : SndE X CL cl (.Name x p) (eVar i)) (ok : BlkOk X.N X.env.scope scope own) (hix : ∀ i ∈ t.ix, i ∈ own.map (·.2))
    (hg : ∀ s H C cc fp, SndTg (Blk X scope s H C cc fp) tg t) (ht : ∀ s H C cc fp, SndTs (Blk X scope s H C cc fp) CL cl ifs stst) (he : ∀ s H C cc fp, SndE (Blk X scope s H C cc fp) CL cl elt selt) :
    SndE X CL cl (.ListComp elt [⟨tg, .Name x p, ifs, 0⟩] scope pos) (eCompN selt stst t (own.map (·.2)) i) := fun W tk =>
  pe_imp (pe_or (snd_comp hc hN (snd_seq (tg := tg) hE) ok hix hg ht he (fun _ => rfl) W tk)
    (pe_lock (pe_lc (g := gTg X.K t) (tt := rT X.K CL Wno cl stst) (te := rE X.K CL Wno cl selt) hc hN (pi_keysD (w := CL.w) hx) ok hg ht (fun s H C cc fp => he s H C cc fp Wno takes_no) (fun _ => rfl)))) fun σ H Q h => lc_readN hix h
theorem stm_setCompN {spos : Pos} {j : Nat} {y : Str} {py : Pos} (hc : X.calm = true) (hN : X.N.Nodup) (hy : X.N[j]? = some y) (hyl : X.env.scope.names.lookup y = some .local) (hsw : swapsWith (.ListComp elt [⟨tg, .Name x p, ifs, 0⟩] scope pos) (some (.Name y py)) spos.line X.env = pure true)
    (hx : PE X (.Name x p) (tVar i)) (hE : SndE X CL cl (.Name x p) (eVar i)) (ok : BlkOk X.N X.env.scope scope own) (hix : ∀ i ∈ t.ix, i ∈ own.map (·.2))
    (hg : ∀ s H C cc fp, SndTg (Blk X scope s H C cc fp) tg t) (ht : ∀ s H C cc fp, SndTs (Blk X scope s H C cc fp) CL cl ifs stst) (he : ∀ s H C cc fp, SndE (Blk X scope s H C cc fp) CL cl elt selt) :
    SndS X CL cl (.Assign [.Name y py] (.ListComp elt [⟨tg, .Name x p, ifs, 0⟩] scope pos) spos) (sSet j (eCompN selt stst t (own.map (·.2)) i)) := fun W tk po => by
  refine ps_imp (ps_or (ps_setLc (g := gTg X.K t) (tt := rT X.K CL Wno cl stst) (te := rE X.K CL Wno cl selt) hc hN hy hyl hsw (snd_seq (tg := tg) hE W tk) ok hg ht (fun s H C cc fp => he s H C cc fp Wno takes_no) (fun _ => rfl))
    (ps_lock (ps_setLc (g := gTg X.K t) (tt := rT X.K CL Wno cl stst) (te := rE X.K CL Wno cl selt) hc hN hy hyl hsw (pi_keysD (w := CL.w) hx) ok hg ht (fun s H C cc fp => he s H C cc fp Wno takes_no) (fun _ => rfl)))) fun D σ H h => ?_
  obtain ⟨mu, r, M, hm, hs, p⟩ := h
  have z : rE X.K CL W cl (eCompN selt stst t (own.map (·.2)) i) σ H (fun v H1 => D.nx (σ.set j (some v)) H1) := rE_stm hm hs Stp.refl p fun x v M1 mu1 H1 n1 h1 p1 => by
    obtain ⟨tt, R2, s2, hv⟩ := n1.rm.box h1 n1.st
    exact p1.here s2 R2 ((n1.rs.ext tt).set hv)
  rcases lc_readN hix z with z | ⟨d, u, h1, h2, h3⟩
  · exact .inl (lc_read hix z)
  · exact .inr ⟨d, u, h1, h2, h3⟩
end
/-! ### while -/
section
variable {X : Cx} {CL : CLs} {cl : Cl} {c : Expr} {sts : List Stmt} {u : SS} {tc : STt} {pos : Pos}
theorem stm_while (ht : SndT X CL cl c tc) (hb : SndB X CL cl sts u) : SndS X CL cl (.While c sts [] pos) (sWhile tc u) := fun W tk po => by
  refine ps_imp (ps_while po (ht W tk) (hb W tk po)) fun D σ H h => ?_
  obtain ⟨mu, r, M, hm, hs, p⟩ := h
  refine ⟨fun m σ' H' => ∃ mu' r' M', Rm X.K CL mu' H' M' ∧ Rst X.K mu' H' r' σ' ∧ Stp mu H mu' H' ∧ PsS X.K CL W mu H (whileL (tc cl) (u cl) m r' M') D, ⟨100000, mu, r, M, hm, hs, Stp.refl, p⟩, ?_⟩
  rintro m σ' H' ⟨mu', r', M', R', S', st, p'⟩
  cases m with
  | zero => exact p'.elim
  | succ m =>
    refine ⟨mu', r', M', R', S', ?_⟩
    unfold whileL at p'
    cases et : tc cl r' M' with
    | err c M2 =>
      rw [et] at p'
      intro mu3 H3 C hC s3 R3
      exact p' mu3 H3 σ' C hC (st.trans s3 R') R3 (S'.stp R' s3)
    | bad => rw [et] at p'; exact p'.elim
    | ok b M2 =>
      rw [et] at p'
      intro mu3 H3 s3 R3
      have S3 := S'.stp R' s3
      have st3 := st.trans s3 R'
      cases b with
      | false =>
        simp only [Bool.false_eq_true, if_false] at p' ⊢
        exact p'.here st3 R3 S3
      | true =>
        simp only [if_true] at p' ⊢
        refine ⟨fun σ2 H2 => ∃ m', m' < m + 1 ∧ ∃ mu' r' M', Rm X.K CL mu' H2 M' ∧ Rst X.K mu' H2 r' σ2 ∧ Stp mu H mu' H2 ∧ PsS X.K CL W mu H (whileL (tc cl) (u cl) m' r' M') D, fun _ _ z => z, mu3, r', M2, R3, S3, ?_⟩
        cases eb : u cl r' M2 with
        | nx r2 M4 =>
          rw [eb] at p'
          exact fun mu4 H4 σ4 s4 R4 S4 => ⟨m, Nat.lt_succ_self m, mu4, r2, M4, R4, S4, st3.trans s4 R3, p'⟩
        | ret y M4 =>
          rw [eb] at p'
          exact PsS.from (res := .ret y M4) p' st3 R3
        | err c r4 M4 =>
          rw [eb] at p'
          exact PsS.from (res := .err c r4 M4) p' st3 R3
        | bad => rw [eb] at p'; exact p'.elim
theorem stm_pass : SndS X CL cl (.Pass pos) sPass := fun W tk po => by
  refine ps_imp ps_pass fun D σ H h => ?_
  obtain ⟨mu, r, M, hm, hs, p⟩ := h
  exact p.here Stp.refl hm hs
end
/-! ### fields of objects -/
section
variable {X : Cx} {CL : CLs} {cl : Cl} {a b o : Expr} {sa sb so : SE} {pos p1 apos cpos : Pos} {f : Str}
theorem rfs_look {K : PySem.W.Frag} {mu : List Addr} {H : Hp} {f : Str} : ∀ {fs : List (Str × D)} {fv : List (Str × V)}, Rfs K mu H fs fv → (fs.lookup f = none ∧ fv.lookup f = none) ∨ ∃ d v, fs.lookup f = some d ∧ fv.lookup f = some v ∧ Rv K mu H d v
  | [], _, h => by cases (show _ = [] from h); exact .inl ⟨rfl, rfl⟩
  | p :: r, _, ⟨v, fs', e, h, t⟩ => by
    subst e
    rw [List.lookup_cons, List.lookup_cons]
    cases hx : f == p.1 with
    | true => exact .inr ⟨p.2, v, rfl, rfl, h⟩
    | false => exact rfs_look t
theorem rfs_put {K : PySem.W.Frag} {mu : List Addr} {H : Hp} {f : Str} {d : D} {v : V} (hv : Rv K mu H d v) : ∀ {fs : List (Str × D)} {fv : List (Str × V)}, Rfs K mu H fs fv → Rfs K mu H (MI.putF f d fs) (L2.putF f v fv)
  | [], _, h => by cases (show _ = [] from h); exact ⟨v, [], rfl, hv, rfl⟩
  | p :: r, _, ⟨w, fs', e, h, t⟩ => by
    subst e
    unfold MI.putF L2.putF
    by_cases c : p.1 = f
    · rw [if_pos c, if_pos c]
      exact ⟨v, fs', by rw [c], hv, t⟩
    · rw [if_neg c, if_neg c]
      exact ⟨w, _, rfl, h, rfs_put hv t⟩
theorem rfs_len {K : PySem.W.Frag} {mu : List Addr} {H : Hp} : ∀ {fs : List (Str × D)} {fv : List (Str × V)}, Rfs K mu H fs fv → fs.length = fv.length
  | [], _, h => by cases (show _ = [] from h); rfl
  | p :: r, _, ⟨w, fs', e, h, t⟩ => by subst e; simp [rfs_len t]
/-- what is known of the classes: their own objects, none of the fields' names in the class -/
def ClF (X : Cx) (CL : CLs) (f : Str) : Prop := ∀ c C, CL.cls c = some C → Cls X.K C ∧ NoAttr X.K C f
theorem snd_fld (F : ClF X CL f) (ha : SndE X CL cl o so) (hbase : attributeBase o f X.env (eval o X.env) = eval o X.env) : SndE X CL cl (.Attribute o f pos) (eFld so f) := fun W tk => by
  refine pe_imp (pe_fld (ha W tk) hbase) fun σ H Q h => ?_
  obtain ⟨mu, r, M, hm, hs, p⟩ := h
  refine rE_then hm hs p fun x v M1 mu1 H1 n1 h1 p1 => ?_
  split at p1
  · rename_i n
    obtain ⟨q, h2, h3⟩ := h1
    subst h3
    split at p1
    · rename_i c fs e
      split at p1
      · rename_i d ed
        obtain ⟨C, dx, fv, eC, h4, h5⟩ := n1.rm.ob n q _ h2 e
        rcases rfs_look (f := f) h5 with ⟨z, _⟩ | ⟨d', v', z1, z2, z3⟩
        · rw [ed] at z; cases z
        · rw [ed] at z1; cases z1
          exact ⟨q, C, dx, fv, v', rfl, h4, (F c C eC).1, (F c C eC).2, z2, end_d n1.rm (p1.rb n1) z3⟩
      · exact bad_end p1
    · exact bad_end p1
  · exact bad_end p1
end
end MI
end
section
set_option Elab.async false
set_option linter.all false
set_option maxRecDepth 100000
set_option maxHeartbeats 4000000
/-! MIi: list.index, tuple(range(n)) -/
namespace MI
open PySem PySem.Spec PyProof.Rows L2
section
variable {K : PySem.W.Frag} {CL : CLs} {W : WX} {σ : Sg} {mu : List Addr} {H : Hp} {M : Mem}
theorem findIdx_some {p : D → Bool} : ∀ {ds : List D} {j : Nat}, ds.findIdx? p = some j → (∃ d, ds[j]? = some d ∧ p d = true) ∧ ∀ m d, m < j → ds[m]? = some d → p d = false
  | [], j, h => by simp at h
  | a :: ds, j, h => by
    rw [List.findIdx?_cons] at h
    cases hp : p a with
    | true =>
      rw [hp] at h
      simp only [if_true, Option.some.injEq] at h
      subst h
      exact ⟨⟨a, rfl, hp⟩, fun m d hm => absurd hm (Nat.not_lt_zero _)⟩
    | false =>
      rw [hp] at h
      simp only [Bool.false_eq_true, if_false, Option.map_eq_some_iff] at h
      obtain ⟨i, h1, rfl⟩ := h
      obtain ⟨⟨d, e1, e2⟩, h3⟩ := findIdx_some h1
      refine ⟨⟨d, by simpa using e1, e2⟩, fun m x hm hx => ?_⟩
      cases m with
      | zero => simp at hx; rw [← hx]; exact hp
      | succ m => exact h3 m x (by omega) (by simpa using hx)
theorem okM_index : OkM K CL (rIndex K) mIndex := fun W σ mu H M n p d v Q R hp hv h => by
  unfold mIndex at h
  split at h
  · rename_i ds e
    split at h
    · rename_i hf
      rw [Bool.and_eq_true] at hf
      split at h
      · rename_i j hj
        obtain ⟨vs, h1, h2⟩ := R.ob n p _ hp e
        obtain ⟨⟨x, e1, e2⟩, h3⟩ := findIdx_some hj
        obtain ⟨z, e3, e4⟩ := h2.get e1
        obtain ⟨f1, _⟩ := any_v hv hf.1 h2 hf.2
        have fl : ∀ (m : Nat) (y : D), ds[m]? = some y → y.flat = true := fun m y hy => List.all_eq_true.mp hf.2 y (List.mem_of_getElem? hy)
        refine ⟨p, vs, v, j, z, rfl, rfl, .inl (.inl h1), flat_v hv hf.1, f1, e3, ?_, fun m z' hm hz' => ?_, h mu H Stp.refl R (.int j) rfl⟩
        · rw [feq_v e4 hv (fl j x e1) hf.1]; exact e2
        · have hml : m < ds.length := by
            have := (List.getElem?_eq_some_iff.mp hz').1
            rw [h2.length]; exact this
          have ey : ds[m]? = some ds[m] := List.getElem?_eq_getElem hml
          obtain ⟨z2, e5, e6⟩ := h2.get ey
          rw [hz'] at e5
          cases e5
          rw [feq_v e6 hv (fl m _ ey) hf.1]
          exact h3 m _ hm ey
      · exact bad_end h
    · exact bad_end h
  · exact bad_end h
end
section
variable {X : Cx} {CL : CLs} {cl : Cl} {a : Expr} {sa : SE} {p0 p1 p2 pos : Pos}
theorem snd_tupRg (hc : X.calm = true) (ha : SndE X CL cl a sa) (hg : Gl X "tuple") (hm : X.mg "tuple" = none) (hg2 : Gl X "range") (hm2 : X.mg "range" = none) (hst : starEach [a] X.env = [(false, eval a X.env)]) :
    SndE X CL cl (.Call (.Name "tuple" p0) [.Call (.Name "range" p1) [a] [] p2] [] pos) (eTupRg sa) := fun W tk => by
  refine pe_imp (pe_tupRg hc hg hm (prg_1 hg2 hm2 (ha W tk) hst)) fun σ H Q h => ?_
  obtain ⟨mu, r, M, hm, hs, p⟩ := h
  refine rE_then hm hs p fun x v M1 mu1 H1 n1 h1 p1 => ?_
  split at p1
  · rename_i n
    split at p1
    · rename_i hn
      have hv : v = .int n := h1
      subst hv
      refine ⟨n, rfl, RgOk.of_le (Int.le_refl _) hn.2 (by decide) hn.1, ?_⟩
      have e : ∀ k : Nat, Rvs X.K mu1 H1 ((List.range k).map fun (i : Nat) => D.int i) ((List.range k).map fun (i : Nat) => V.int (0 + (i : Nat))) := fun k => by
        have := Rvs.of_ints (K := X.K) (mu := mu1) (H := H1) ((List.range k).map fun (i : Nat) => (i : Int))
        rw [List.map_map, List.map_map] at this
        have e2 : ((List.range k).map fun (i : Nat) => V.int (0 + (i : Nat))) = (List.range k).map (V.int ∘ fun (i : Nat) => (i : Int)) := List.map_congr_left fun i _ => by simp
        rw [e2]; exact this
      have e3 : rgV 0 n = (List.range n.toNat).map fun (i : Nat) => V.int (0 + (i : Nat)) := by unfold rgV; rw [Int.sub_zero]
      rw [e3]
      exact end_tup n1.rm (p1.rb n1) (e n.toNat)
    · exact bad_end p1
  · exact bad_end p1
end
end MI
end
section
set_option Elab.async false
set_option linter.all false
set_option maxRecDepth 100000
set_option maxHeartbeats 4000000
/-! MIj: list.count, texts split and joined -/
namespace MI
open PySem PySem.Spec PyProof.Rows L2
section
variable {X : Cx}
/-- how many flat items are equal to a flat value -/
def rCntF (K : PySem.W.Frag) : V → List V → Hp → VK → Prop := fun x xs H Q => ∃ (a : Addr) (ys : List V) (y : V), x = V.ref a ∧ xs = [y] ∧ SqL K H a ys ∧ flatV y = true ∧ ys.all flatV = true ∧ Q (.int (ys.countP fun z => eqV z y : Nat)) H
theorem eqU_count {y : V} : ∀ {ys : List V} {us : List Value}, Vals ys us → ys.all flatV = true → us.countP (eqU y) = ys.countP fun z => eqV z y
  | _, _, .nil, _ => rfl
  | z :: ys, u :: us, .cons r t, f => by
    rw [List.all_cons, Bool.and_eq_true] at f
    rw [List.countP_cons, List.countP_cons, eqU_count t f.2, eqU_of r f.1]
theorem mt_countF : MtR X "list.count" (rCntF X.K) := by
  intro pins s σ H x xs v us Q I rx rxs h
  obtain ⟨a, ys, y, rfl, rfl, hs, fy, fys, q⟩ := h
  cases rx
  obtain ⟨uy, rfl, ry⟩ := rxs.one
  obtain ⟨its, rv, pt, hlen⟩ := I.list hs
  obtain ⟨⟨cls, dd, data, sl⟩, n, ho, hc, hdn, hd⟩ := pt
  dsimp only at hc hd
  subst hc hd
  have T := SeqAt.list_countAt a its.toArray n dd sl uy (eqU y)
  refine call_meets PySem.F.slot_list_count ⟨_, ho, rfl⟩ PySem.F.entry_list_count (PySem.F.args_list_count_2 _ _) T ⟨ho, fun w hw => mem_eqAt ry fy rv fys w (Array.mem_def.mp hw), ?_⟩
  refine ⟨.int (ys.countP fun z => eqV z y : Nat), H, I.tok _, ⟨s.toks, ?_⟩, q⟩
  rw [show its.toArray.toList = its from rfl, eqU_count rv fys]
end
section
variable {K : PySem.W.Frag} {CL : CLs} {mu : List Addr} {H : Hp}
theorem countP_flat {d : D} {v : V} (hv : Rv K mu H d v) (hd : d.flat = true) : ∀ {ds : List D} {vs : List V}, Rvs K mu H ds vs → ds.all D.flat = true → (vs.countP fun z => eqV z v) = ds.countP fun x => feq x d
  | [], _, h, _ => by cases (show _ = [] from h); rfl
  | x :: ds, _, ⟨w, r, e, h, t⟩, f => by
    subst e
    rw [List.all_cons, Bool.and_eq_true] at f
    rw [List.countP_cons, List.countP_cons, countP_flat hv hd t f.2, feq_v h hv f.1 hd]
theorem okM_count : OkM K CL (rCntF K) mCount := fun W σ mu H M n p d v Q R hp hv h => by
  unfold mCount at h
  split at h
  · rename_i ds e
    split at h
    · rename_i hf
      rw [Bool.and_eq_true] at hf
      obtain ⟨vs, h1, h2⟩ := R.ob n p _ hp e
      obtain ⟨f1, _⟩ := any_v hv hf.1 h2 hf.2
      exact ⟨p, vs, v, rfl, rfl, .inl (.inl h1), flat_v hv hf.1, f1, by rw [countP_flat hv hf.1 h2 hf.2]; exact h mu H Stp.refl R (.int _) rfl⟩
    · exact bad_end h
  · exact bad_end h
end
/-! ### texts -/
theorem splC_spl (s : Nat) : ∀ (l acc : List Nat), splC s acc l = TL.spl [s] 0 acc l
  | [], acc => by rw [TL.spl_nil]; rfl
  | c :: r, acc => by
    by_cases h : c = s
    · rw [TL.spl_hit (by simp [TL.pre, h]), show splC s acc (c :: r) = acc :: splC s [] r from by simp only [splC, if_pos h], splC_spl s r []]
      rfl
    · rw [TL.spl_miss (TL.pre_of_head [] r h), show splC s acc (c :: r) = splC s (acc ++ [c]) r from by simp only [splC, if_neg h], splC_spl s r (acc ++ [c])]
theorem joinC_joinL (S : List Nat) : ∀ l : List (List Nat), joinC S l = TL.joinL S l
  | [] => rfl
  | [p] => rfl
  | p :: q :: r => by simp only [joinC, TL.joinL, joinC_joinL S (q :: r)]
theorem split_splC {a b : Str} {s : Nat} (hb : b.cps.toList = [s]) (hs : s < 256) : Txt.split a b = (splC s [] a.cps.toList).map strL := by
  have hk : ¬ Builtin.Str.strKind a < Builtin.Str.strKind b := TL.kind_ok (by
    rw [← Array.all_toList, hb]; simp [hs])
  have e := TL.split_spl a b (by show b.cps.toList ≠ []; rw [hb]; simp) hk
  refine TL.map_tl_inj ?_
  rw [e, show TL.tl b = [s] from hb, splC_spl, List.map_map]
  have : ((TL.tl ∘ strL) : List Nat → List Nat) = id := by funext l; exact TL.tl_mk l
  rw [this, List.map_id]
theorem join_joinC (a : Str) (ys : List Str) : Txt.join a ys = strL (joinC a.cps.toList (ys.map (·.cps.toList))) := by
  refine TL.ext_tl ?_
  rw [TL.join_eq, TL.tl_join, joinC_joinL]
  all_goals rfl
section
variable {K : PySem.W.Frag} {CL : CLs} {mu : List Addr} {H : Hp}
theorem asStrs_ok : ∀ {ds : List D} {ys : List Str} {vs : List V}, asStrs ds = some ys → Rvs K mu H ds vs → vs = ys.map V.str
  | [], ys, vs, h, r => by cases h; exact r
  | d :: ds, ys, vs, h, ⟨v, q, e, h1, t⟩ => by
    cases d with
    | str s =>
      simp only [asStrs, Option.map_eq_some_iff] at h
      obtain ⟨zs, h2, rfl⟩ := h
      rw [e, asStrs_ok h2 t, show v = V.str s from h1]
      rfl
    | _ => simp [asStrs] at h
theorem rvs_strs : ∀ (ys : List Str), Rvs K mu H (ys.map D.str) (ys.map V.str)
  | [] => rfl
  | y :: ys => ⟨_, _, rfl, rfl, rvs_strs ys⟩
end
section
variable {X : Cx} {CL : CLs} {cl : Cl} {a o : Expr} {sa so : SE} {apos cpos : Pos}
theorem snd_split (ho : SndE X CL cl o so) (ha : SndE X CL cl a sa) (hbase : attributeBase o "split" X.env (eval o X.env) = eval o X.env) (hline : (apos.endLine == cpos.line) = true) (hst : starEach [a] X.env = [(false, eval a X.env)]) :
    SndE X CL cl (.Call (.Attribute o "split" apos) [a] [] cpos) (eT1 tSplit so sa) := fun W tk => by
  refine pe_imp (pe_split (ho W tk) (ha W tk) hst hbase hline) fun σ H Q h => ?_
  obtain ⟨mu, r, M, hm, hs, p⟩ := h
  refine rE_then hm hs p fun x v M1 mu1 H1 n1 h1 p1 => ?_
  split at p1
  · rename_i s
    have hv : v = .str s := h1
    refine ⟨⟨s, hv⟩, ?_⟩
    refine rE_then n1.rm n1.rs p1 fun y u M2 mu2 H2 n2 h2 p2 => ?_
    have p3 : Pst X.K CL W σ mu2 H2 _ (fun z _ mu' H' => ∀ w, Rr X.K CL mu' H' H2 z w → Q w H') := p2.mono fun _ _ _ _ _ _ z w hw => z w (hw.base (n1.st.trans n2.st n1.rm) n2.rm)
    unfold tSplit at p3
    split at p3
    · rename_i b
      split at p3
      · rename_i c hb
        split at p3
        · rename_i hc
          refine ⟨s, b, hv, by rw [show u = V.str b from h2], ?_, by rw [← lim_eq]; exact hc.2, ?_⟩
          · have : b.length = 1 := by rw [TL.len_tl, show TL.tl b = [c] from hb]; rfl
            rw [this]; rfl
          · intro q hq
            have e : (Txt.split s b).map D.str = (splC c [] s.cps.toList).map fun l => D.str (strL l) := by rw [split_splC hb hc.1, List.map_map]; rfl
            rw [← e] at p3
            exact end_lst n2.rm p3 (rvs_strs _) q hq
        · exact bad_end p3
      · exact bad_end p3
    · exact bad_end p3
  · exact bad_end p1
theorem snd_join (ho : SndE X CL cl o so) (ha : SndE X CL cl a sa) (hbase : attributeBase o "join" X.env (eval o X.env) = eval o X.env) (hline : (apos.endLine == cpos.line) = true) (hst : starEach [a] X.env = [(false, eval a X.env)]) :
    SndE X CL cl (.Call (.Attribute o "join" apos) [a] [] cpos) (eT1 tJoin so sa) := fun W tk => by
  refine pe_imp (pe_join (ho W tk) (ha W tk) hst hbase hline) fun σ H Q h => ?_
  obtain ⟨mu, r, M, hm, hs, p⟩ := h
  refine rE_then hm hs p fun x v M1 mu1 H1 n1 h1 p1 => ?_
  split at p1
  · rename_i s
    have hv : v = .str s := h1
    refine ⟨⟨s, hv⟩, ?_⟩
    refine rE_then n1.rm n1.rs p1 fun y u M2 mu2 H2 n2 h2 p2 => ?_
    have p3 : Pst X.K CL W σ mu2 H2 _ (fun z _ mu' H' => ∀ w, Rr X.K CL mu' H' H2 z w → Q w H') := p2.mono fun _ _ _ _ _ _ z w hw => z w (hw.base (n1.st.trans n2.st n1.rm) n2.rm)
    unfold tJoin at p3
    split at p3
    · rename_i ds e
      split at p3
      · rename_i ys ey
        split at p3
        · rename_i hc
          obtain ⟨q, vs, rfl, h3, h4⟩ := seqOf_ok n2.rm h2.w e
          have ev := asStrs_ok ey h4
          subst ev
          refine ⟨s, q, ys, hv, rfl, h3, hc, ?_⟩
          rw [join_joinC]
          exact end_d n2.rm p3 rfl
        · exact bad_end p3
      · exact bad_end p3
    · exact bad_end p3
  · exact bad_end p1
end
end MI
end
section
set_option Elab.async false
set_option linter.all false
set_option maxRecDepth 100000
set_option maxHeartbeats 4000000
/-! MIk: objects: fields stored, methods called, objects made -/
namespace MI
open PySem PySem.Spec PyProof.Rows L2
/-! ### isinstance(x, (A, B)) -/
section
variable {X : Cx} {CL : CLs} {cl : Cl} {a : Expr} {sa : SE} {p0 pos : Pos}
theorem isTy2_ok {K : PySem.W.Frag} {mu : List Addr} {H : Hp} {M : Mem} {d : D} {v : V} (h : Rv K mu H d v) (nh : ∀ n, d ≠ .hdl n) : ∃ n : String, TyX K H v (.type n) ∧ ∀ (t : Ty) (b : Bool), isTy t (.d d) M = some b → kitB n t.nm = some b := by
  cases d with
  | non => rw [show v = V.non from h]; exact ⟨_, .base .non, fun t b e => by cases e; cases t <;> decide +kernel⟩
  | bl x => rw [show v = V.bl _ from h]; exact ⟨_, .base (.bl _), fun t b e => by cases e; cases t <;> decide +kernel⟩
  | int x => rw [show v = V.int _ from h]; exact ⟨_, .base (.int _), fun t b e => by cases e; cases t <;> decide +kernel⟩
  | str x => rw [show v = V.str _ from h]; exact ⟨_, .base (.str _), fun t b e => by cases e; cases t <;> decide +kernel⟩
  | hdl n => exact absurd rfl (nh n)
  | tup ds =>
    obtain ⟨p, vs, rfl, hT, _⟩ := h
    rcases hT with (hT | ⟨o, hT⟩) | ⟨o, its, n, h1, h2, _⟩
    · exact ⟨_, .base (.tup hT), fun t b e => by cases e; cases t <;> decide +kernel⟩
    · exact ⟨_, .fTuple hT, fun t b e => by cases e; cases t <;> decide +kernel⟩
    · exact ⟨_, .kTuple h1 h2, fun t b e => by cases e; cases t <;> decide +kernel⟩
  | ro ds =>
    obtain ⟨p, vs, rfl, hT, _⟩ := h
    rcases hT with ⟨o, hT⟩ | ⟨o, its, n, h1, h2, _⟩
    · exact ⟨_, .base (.frz hT), fun t b e => by cases e; cases t <;> decide +kernel⟩
    · exact ⟨_, .kList h1 h2, fun t b e => by cases e; cases t <;> decide +kernel⟩
theorem snd_isi2 {T U : Str} {q1 q2 q3 : Pos} {j : Nat} {t u : Ty} (ha : SndE X CL cl a sa) (hg : Gl X "isinstance") (hm : X.mg "isinstance" = none) (hgT : Gl X T) (hmT : X.mg T = none) (hvT : bootBuiltins T = some (.type t.nm)) (hnT : T ≠ "__name__") (hdT : (T == ("__debug__" : Str)) = false)
    (hgU : Gl X U) (hmU : X.mg U = none) (hvU : bootBuiltins U = some (.type u.nm)) (hnU : U ≠ "__name__") (hdU : (U == ("__debug__" : Str)) = false)
    (hst : starEach [a, .Tuple [.Name T q1, .Name U q2] j q3] X.env = (false, eval a X.env) :: starEach [.Tuple [.Name T q1, .Name U q2] j q3] X.env) : SndE X CL cl (.Call (.Name "isinstance" p0) [a, .Tuple [.Name T q1, .Name U q2] j q3] [] pos) (e1 (bIsi2 t u) sa) := fun W tk => by
  refine pe_imp (pe_callB call_isiT hg hm PyProof.Rows.boot_isinstance (pa_cons (ha W tk) (pa_cons (pe_tup (pa_cons (pe_bltn (v := .ty t.nm) hgT hmT hvT rfl hnT hdT) (pa_cons (pe_bltn (v := .ty u.nm) hgU hmU hvU rfl hnU hdU) pa_nil rfl) rfl)) pa_nil rfl) hst) (by decide) (by decide) hst rfl) fun σ H Q h => ?_
  obtain ⟨mu, r, M, hm, hs, p⟩ := h
  refine rE_then hm hs p fun x v M1 mu1 H1 n1 h1 p1 => ?_
  unfold bIsi2 at p1
  split at p1
  · exact bad_end p1
  · rename_i d nh
    split at p1
    · rename_i b c e1 e2
      obtain ⟨n, h2, h3⟩ := isTy2_ok (M := M1) (show Rv X.K mu1 H1 d v from h1) (fun n e => nh n e)
      refine ⟨(by show 2 ≤ sizeLine; decide), fun p np => ?_⟩
      have st : Stp mu1 H1 mu1 (upd H1 p (.tup [.ty t.nm, .ty u.nm])) := Stp.laid n1.rm np
      have R2 := n1.rm.laid (u := .tup [.ty t.nm, .ty u.nm]) np
      obtain ⟨n', h2', h3'⟩ := isTy2_ok (M := M1) (Rv.stp n1.rm st (show Rv X.K mu1 H1 d v from h1)) (fun n e => nh n e)
      refine ⟨v, p, [.ty t.nm, .ty u.nm], _, [.type t.nm, .type u.nm], b || c, rfl, upd_same, .cons (.ty _) (.cons (.ty _) .nil), h2', ?_, ?_⟩
      · refine kitAny_cons (kit_ty (h3' t b e1)) (fun hb => ?_) (fun hb => by rw [hb, Bool.true_or])
        rw [hb, Bool.false_or]
        refine kitAny_cons (kit_ty (h3' u c e2)) (fun hc => ?_) (fun hc => hc)
        rw [hc]; rfl
      · exact (p1.from st R2).here R2 _ rfl
    · exact bad_end p1
  · exact bad_end p1
end
/-! ### the rule of a method's call, the class told by the heap -/
section
variable {X : Cx} {k : Nat} {E : L2.St → XK} {m : Str} {pos apos : Pos} {e o : Expr} {es : List Expr} {ta : TE} {t : TA}
theorem meth_eq (hbase : attributeBase o m X.env (eval o X.env) = eval o X.env) (hfew : methodCallForm es.length (backTo pos (starEach es X.env)) [] = true) (hline : (apos.endLine == pos.line) = true) : eval (.Call (.Attribute o m apos) es [] pos) X.env = (do
      let ov ← eval o X.env
      standAt apos.atName
      let (f, first) ← holding [ov] (getMethod ov m (do return (← importBound o X.env).getD true))
      callWith pos f first (backTo pos (starEach es X.env)) (backToKw pos (keywordEach [] X.env))) := by
  show (do
    let ov ← attributeBase o m X.env (eval o X.env)
    standAt apos.atName
    methodCall o m apos pos X.env ov (es.length + 0) (backTo pos (starEach es X.env)) (backToKw pos (keywordEach [] X.env))) = _
  rw [hbase]
  refine congrArg (fun f => eval o X.env >>= f) (funext fun ov => ?_)
  refine congrArg (fun f => standAt apos.atName >>= f) (funext fun _ => ?_)
  have h1 : methodCallForm (es.length + 0) (backTo pos (starEach es X.env)) (backToKw pos (keywordEach [] X.env)) = true := hfew
  unfold methodCall
  rw [h1]
  unfold calleeOf methodCallPos
  rw [hline]
  rfl
/-- what stands where a method is called -/
def MthAt (X : Cx) (m : Str) (k : Nat) (H1 : Hp) (x : V) (a : Addr) (ps : List Str) (fd : FuncData) (sp : Sp) : Prop :=
  ∃ (C dx : Addr) (fs : List (Str × V)) (f : Addr), x = .ref a ∧ H1 a = some (.ins C dx fs) ∧ fs.lookup m = none ∧ Cls X.K C ∧ Meth X.K C m f ∧ FnOk X.prog X.w X.K X.mg X.base (L2.CX X.prog X.w) k f fd ps sp ∧ Binds X.K fd ps []
def tMethA (X : Cx) (m : Str) (k : Nat) (E : L2.St → XK) (ta : TE) (t : TA) : TE := fun σ H Q => ta σ H fun x H1 => ∃ (a : Addr) (ps : List Str) (fd : FuncData) (sp : Sp), MthAt X m k H1 x a ps fd sp ∧ t σ H1 fun vs H2 => sp (.ref a :: vs) H2 Q (E σ)
theorem pe_methA (he : PE X o ta) (hr : Room k X.A) (hx : ∀ σ, PassesAt (L2.CX X.prog X.w) X σ (E σ)) (ha : PA X (e :: es) t) (hbase : attributeBase o m X.env (eval o X.env) = eval o X.env) (hfew : methodCallForm (e :: es).length (backTo pos (starEach (e :: es) X.env)) [] = true) (hline : (apos.endLine == pos.line) = true)
    (hst : starEach (e :: es) X.env = (false, eval e X.env) :: starEach es X.env) (hpl : (backTo pos (starEach es X.env)).any (·.1) = false) : PE X (.Call (.Attribute o m apos) (e :: es) [] pos) (tMethA X m k E ta t) := by
  refine ⟨fun pins s σ H Q I h => PySem.W.methodCall_KW (thn (he.run pins s σ H _ I h) fun u s1 hu => ?_) (meth_eq hbase hfew hline)⟩
  obtain ⟨x, H1, I1, rx, a, ps, fd, sp, ⟨C, dx, fs, f, ex, ea, l, c, hm, F, hb⟩, q⟩ := hu
  subst ex
  cases rx
  refine getmeth_ok I1 ea c hm l ?_
  refine PySem.W.callWith_K (first := [.ref a]) (h₀ := X.base) I.ok.mod.kin hm.kp (thn (ha.run pos pins s1 σ H1 _ I1 q) fun us s2 hu2 => ?_) hst hpl
  obtain ⟨vs, H2, I2, r, q2⟩ := hu2
  exact ⟨I2.kIn, run_fnS (us := .ref a :: us) (vs := .ref a :: vs) F hr hb (hx σ) I2 (.cons rfl r) q2⟩
theorem pe_methA0 (he : PE X o ta) (hr : Room k X.A) (hx : ∀ σ, PassesAt (L2.CX X.prog X.w) X σ (E σ)) (hbase : attributeBase o m X.env (eval o X.env) = eval o X.env) (hline : (apos.endLine == pos.line) = true) : PE X (.Call (.Attribute o m apos) [] [] pos) (tMethA X m k E ta tNil) := by
  refine ⟨fun pins s σ H Q I h => PySem.W.methodCall_KW (thn (he.run pins s σ H _ I h) fun u s1 hu => ?_) (meth_eq hbase rfl hline)⟩
  obtain ⟨x, H1, I1, rx, a, ps, fd, sp, ⟨C, dx, fs, f, ex, ea, l, c, hm, F, hb⟩, q⟩ := hu
  subst ex
  cases rx
  refine getmeth_ok I1 ea c hm l ?_
  exact PySem.W.callWith_K0 (first := [.ref a]) I1.kIn hm.kp (run_fnS (us := [.ref a]) (vs := [.ref a]) F hr hb (hx σ) I1 (.cons rfl .nil) q)
end
theorem calm_out {K : PySem.W.Frag} {CL : CLs} {W : WX} {σ : Sg} {mu : List Addr} {H : Hp} {A B : Type} {res : Res A} {f : A → Mem → Res B} {k : B → Mem → List Addr → Hp → Prop} (h : Pst K CL W σ mu H (res.calm.bind f) k) : Pst K CL W σ mu H (res.bind f) k := by
  cases res with
  | ok a M => exact h
  | err c M => exact h.elim
  | bad => exact h.elim
/-! ### what is known of a class -/
/-- a class's method, and what cl says of it -/
structure MthG (X : Cx) (CL : CLs) (cl : Cl) (k : Nat) (c : Str) (C : Addr) (m : Str) (ar : Nat) : Prop where
  cls : Cls X.K C
  ok : ∃ (f : Addr) (fd : FuncData) (ps : List Str), FnOk X.prog X.w X.K X.mg X.base (CX X.prog X.w) k f fd ps (spOf X.K CL cl (mname c m) ar) ∧ Meth X.K C m f ∧ Binds X.K fd ps []
  bad : ∀ ds M, ds.length ≠ ar → cl (mname c m) ds M = .bad
/-- every class's method of this name, if there is one -/
def MthF (X : Cx) (CL : CLs) (cl : Cl) (k : Nat) (m : Str) : Prop := ∀ c C, CL.cls c = some C → (∃ ar, MthG X CL cl k c C m ar) ∨ ∀ ds M, cl (mname c m) ds M = .bad
section
variable {X : Cx} {CL : CLs} {cl : Cl} {k : Nat} {a b o : Expr} {es : List Expr} {sa sb so : SE} {as : SDs} {pos apos cpos : Pos} {f m : Str}
theorem meth_read {W : WX} {σ : Sg} {H : Hp} {Q : VK} (F : MthF X CL cl k m) (tk : Takes X W) (h : rE X.K CL W cl (eMeth m so as) σ H Q) : tMethA X m k (WE W) (rE X.K CL W cl so) (rDs X.K CL W cl as) σ H Q := by
  obtain ⟨mu, r, M, hm, hs, p⟩ := h
  refine rE_then hm hs p fun x v M1 mu1 H1 n1 h1 p1 => ?_
  split at p1
  · rename_i n
    obtain ⟨q, h2, h3⟩ := h1
    subst h3
    split at p1
    · rename_i c fs e
      split at p1
      · rename_i hn
        obtain ⟨C, dx, fv, eC, h4, h5⟩ := n1.rm.ob n q _ h2 e
        have hl : fv.lookup m = none := by
          rcases rfs_look (f := m) h5 with ⟨_, z⟩ | ⟨d', v', z1, z2, z3⟩
          · exact z
          · rw [z1] at hn; cases hn
        rcases F c C eC with ⟨ar, G⟩ | B
        · obtain ⟨f, fd, ps, ok, hmt, bd⟩ := G.ok
          refine ⟨q, ps, fd, _, ⟨C, dx, fv, f, rfl, h4, hl, G.cls, hmt, ok, bd⟩, ?_⟩
          refine rDs_then n1.rm n1.rs (calm_out p1) fun ds vs M2 mu2 H2 n2 h6 p2 => ?_
          have hlen : (D.hdl n :: ds).length = ar := by
            refine Classical.byContradiction fun hne => ?_
            rw [G.bad _ _ hne] at p2
            exact p2.elim
          refine ⟨?_, mu2, D.hdl n :: ds, M2, n2.rm, ⟨_, _, rfl, ⟨q, n2.st.get h2, rfl⟩, h6⟩, ?_⟩
          · rw [← hlen, List.length_cons, List.length_cons, h6.length]
          · exact (p2.mono fun z M3 mu3 H3 s3 R3 q' w hw => q' w (hw.base (n1.st.trans n2.st n1.rm) n2.rm)).wish fun _ _ _ z => z
        · have z : ∀ r : Res (List D), Pst X.K CL W σ mu1 H1 (r.calm.bind fun ds M => cl (mname c m) (D.hdl n :: ds) M) (fun x _ mu' H' => ∀ v, Rr X.K CL mu' H' H x v → Q v H') → False := fun r p => by
            cases r with
            | ok ds M => simp only [Res.calm, Res.bind, B] at p; exact p
            | err c M => exact p
            | bad => exact p
          exact (z _ p1).elim
      · exact bad_end p1
    · exact bad_end p1
  · exact bad_end p1
theorem passAt_of {W : WX} (tk : Takes X W) (σ : L2.St) : PassesAt (L2.CX X.prog X.w) X σ (WE W σ) := passAt tk σ
theorem snd_meth (F : MthF X CL cl k m) (hr : Room k X.A) (ho : SndE X CL cl o so) (hd : SndDs X CL cl (a :: es) as) (hbase : attributeBase o m X.env (eval o X.env) = eval o X.env) (hfew : methodCallForm (a :: es).length (backTo cpos (starEach (a :: es) X.env)) [] = true) (hline : (apos.endLine == cpos.line) = true)
    (hst : starEach (a :: es) X.env = (false, eval a X.env) :: starEach es X.env) (hpl : (backTo cpos (starEach es X.env)).any (·.1) = false) : SndE X CL cl (.Call (.Attribute o m apos) (a :: es) [] cpos) (eMeth m so as) := fun W tk =>
  pe_imp (pe_methA (ho W tk) hr (fun σ => passAt tk σ) (hd W tk) hbase hfew hline hst hpl) fun σ H Q h => meth_read F tk h
theorem snd_meth0 (F : MthF X CL cl k m) (hr : Room k X.A) (ho : SndE X CL cl o so) (hbase : attributeBase o m X.env (eval o X.env) = eval o X.env) (hline : (apos.endLine == cpos.line) = true) : SndE X CL cl (.Call (.Attribute o m apos) [] [] cpos) (eMeth m so dNil) := fun W tk => by
  refine pe_imp (pe_methA0 (ho W tk) hr (fun σ => passAt tk σ) hbase hline) fun σ H Q h => ?_
  refine (meth_read F tk h).imp fun x H1 h1 => ?_
  obtain ⟨a, ps, fd, sp, h2, mu, r, M, hm, hs, p⟩ := h1
  exact ⟨a, ps, fd, sp, h2, p.here hm [] rfl⟩
/-! ### a field is stored -/
theorem stm_fld {p1 : Pos} (F : ClF X CL f) (ho : SndE X CL cl o so) (ha : SndE X CL cl a sa) (hsw : swapsWith a (some (.Attribute o f p1)) pos.line X.env = pure false) : SndS X CL cl (.Assign [.Attribute o f p1] a pos) (sFld so f sa) := fun W tk po => by
  refine ps_imp (ps_fld (ho W tk) (ha W tk) hsw) fun D σ H h => ?_
  obtain ⟨mu, r, M, hm, hs, p⟩ := h
  refine rE_stm hm hs Stp.refl p fun x v M1 mu1 H1 n1 h1 p1 => ?_
  obtain ⟨t, R2, s2, hv⟩ := n1.rm.box h1 n1.st
  refine rE_stm R2 (n1.rs.ext t) s2 p1 fun y u M3 mu3 H3 n3 h3 p3 => ?_
  split at p3
  · rename_i n
    obtain ⟨q, h2, h4⟩ := h3
    subst h4
    split at p3
    · rename_i c fs e
      split at p3
      · rename_i hl
        obtain ⟨C, dx, fv, eC, h5, h6⟩ := n3.rm.ob n q _ h2 e
        refine ⟨q, C, dx, fv, rfl, h5, (F c C eC).1, (F c C eC).2, by rw [← rfs_len h6]; omega, ?_⟩
        have nf : ∀ od v, H3 q ≠ some (.frz od v) := fun od v z => by rw [h5] at z; cases z
        have st : Stp mu3 H3 mu3 (upd H3 q (.ins C dx (L2.putF f v fv))) := Stp.write h2 nf
        have hv3 := hv.stp R2 n3.st
        have R4 := n3.rm.write (u := .ins C dx (L2.putF f v fv)) (o := .ins c (MI.putF f (MI.box x M1).1 fs)) h2 nf ⟨C, dx, _, eC, upd_same, rfs_put (hv3.stp n3.rm st) (h6.stp n3.rm st)⟩
        exact p3.here ((s2.trans n3.st R2).trans st n3.rm) R4 (n3.rs.stp n3.rm st)
      · exact p3.elim
    · exact p3.elim
  · exact p3.elim
/-! ### an object is made -/
structure MkG (X : Cx) (CL : CLs) (cl : Cl) (k : Nat) (c : Str) (ar : Nat) : Prop where
  ok : ∃ (C f : Addr) (fd : FuncData) (ps : List Str), CL.cls c = some C ∧ X.mg c = some (.ref C) ∧ Mk X.K C f ∧ FnOk X.prog X.w X.K X.mg X.base (CX X.prog X.w) k f fd ps (spOf X.K CL cl (mname c "__init__") ar) ∧ Binds X.K fd ps []
theorem pass_no : Passes (L2.CX X.prog X.w) X fun _ _ _ => False := fun pins σ H s e s' I c => by
  obtain ⟨_, _, _, _, _, _, _, _, _, _, _, _, z⟩ := c
  exact z.elim
theorem make_read {W : WX} {σ : Sg} {H : Hp} {Q : VK} {c : Str} {C : Addr} {ar : Nat} (eC : CL.cls c = some C) (hlen : ∀ r M ds M', as cl r M = .ok ds M' → ds.length + 1 = ar) (h : rE X.K CL W cl (eNew c as) σ H Q) :
    tMake C (spOf X.K CL cl (mname c "__init__") ar) [] (fun _ _ _ => False) (rDs X.K CL W cl as) σ H Q := by
  obtain ⟨mu, r, M, hm, hs, p⟩ := h
  unfold eNew at p
  cases ea : as cl r M with
  | err cc M' => rw [ea] at p; exact ⟨mu, r, M, hm, hs, by rw [ea]; exact p⟩
  | bad => rw [ea] at p; exact p.elim
  | ok ds M1 =>
    have hl := hlen r M ds M1 ea
    rw [ea] at p
    refine ⟨mu, r, M, hm, hs, ?_⟩
    rw [ea]
    simp only [Res.bind] at p
    intro mu1 H1 s1 R1 vs hvs x dx hx hdx hne
    have p1 := p.from s1 R1
    have hx2 : (upd H1 dx (.own x)) x = none := by rw [upd_ne hne.symm]; exact hx
    have R2 : Rm X.K CL mu1 (upd H1 dx (.own x)) M1 := R1.laid hdx
    have R3 : Rm X.K CL mu1 (upd (upd H1 dx (.own x)) x (.ins C dx [])) M1 := R2.laid hx2
    have S2 : Stp mu1 H1 mu1 (upd H1 dx (.own x)) := Stp.laid R1 hdx
    have S3 : Stp mu1 H1 mu1 (upd (upd H1 dx (.own x)) x (.ins C dx [])) := S2.trans (Stp.laid R2 hx2) R2
    have nx : x ∉ mu1 := R1.fresh hx
    have R4 := R3.track (o := .ins c []) (a := x) ⟨C, dx, [], eC, upd_same, rfl⟩ nx
    have S4 : Stp mu1 H1 (mu1 ++ [x]) (upd (upd H1 dx (.own x)) x (.ins C dx [])) := by
      refine ⟨⟨[x], rfl⟩, fun b hb => ?_, S3.keep, S3.frz⟩
      rcases List.mem_append.mp hb with hb | hb
      · exact .inl hb
      · rw [List.mem_singleton.mp hb]; exact .inr hx
    have hat : (mu1 ++ [x])[M1.length]? = some x := by rw [← R1.len, List.getElem?_append_right (Nat.le_refl _), Nat.sub_self]; rfl
    refine ⟨by rw [List.append_nil, List.length_cons, ← hvs.length]; exact hl, mu1 ++ [x], .hdl M1.length :: ds, M1 ++ [.ins c []], R4, ⟨_, _, rfl, ⟨x, hat, rfl⟩, by rw [List.append_nil]; exact (hvs.stp R1 S3).ext [x]⟩, ?_⟩
    cases ec : cl (mname c "__init__") (.hdl M1.length :: ds) (M1 ++ [.ins c []]) with
    | ok z M2 =>
      rw [ec] at p1
      cases z with
      | d z =>
        cases z with
        | non => exact fun mu' H' s' R' v hv => ⟨hv, p1 mu' H' (S4.trans s' R4) R' (.ref x) ⟨x, s'.get hat, rfl⟩⟩
        | _ => exact p1.elim
      | o z => exact p1.elim
    | err cc M2 => rw [ec] at p1; exact p1.elim
    | bad => rw [ec] at p1; exact p1.elim
theorem snd_new {c : Str} {ar : Nat} {p0 : Pos} (F : MkG X CL cl k c ar) (hr : Room (k + 1) X.A) (hg : Gl X c) (hdb : (c == ("__debug__" : Str)) = false) (h : SndDs X CL cl (a :: es) as) (hlen : ∀ r M ds M', as cl r M = .ok ds M' → ds.length + 1 = ar)
    (he : starEach (a :: es) X.env = (false, eval a X.env) :: starEach es X.env) (hpl : (backTo pos (starEach es X.env)).any (·.1) = false) : SndE X CL cl (.Call (.Name c p0) (a :: es) [] pos) (eNew c as) := fun W tk => by
  obtain ⟨C, f, fd, ps, eC, mg, mk, ok, bd⟩ := F.ok
  exact pe_imp (pe_make mk ok hr hg mg bd .nil pass_no (h W tk) hdb he hpl) fun σ H Q h => make_read eC hlen h
theorem snd_new0 {c : Str} {p0 : Pos} (F : MkG X CL cl k c 1) (hr : Room (k + 1) X.A) (hg : Gl X c) (hdb : (c == ("__debug__" : Str)) = false) : SndE X CL cl (.Call (.Name c p0) [] [] pos) (eNew c dNil) := fun W tk => by
  obtain ⟨C, f, fd, ps, eC, mg, mk, ok, bd⟩ := F.ok
  refine pe_imp (pe_make0 mk ok hr hg mg bd .nil pass_no hdb) fun σ H Q h => ?_
  obtain ⟨mu, r, M, hm, hs, p⟩ := make_read eC (fun r M ds M' e => by cases e; rfl) h
  exact p.here hm [] rfl
end
end MI
end
section
set_option Elab.async false
set_option linter.all false
set_option maxRecDepth 100000
set_option maxHeartbeats 4000000
/-! MIl: == and != where dicts stand in a list, a tuple, or alone -/
namespace MI
open PySem PySem.Spec PyProof.Rows L2
/-! ### != of lists and tuples, by what is known of their items in this program -/
section
open PySem.SeqAt PySem.MeetsSeq PySem.MeetsSeq2 PySem.MeetsSeq3 PySem.SeqRoads2
open AutoSeq1 (wpAny_loadPart')
variable {P : Program} {w : World}
abbrev lObj (dx : Option Addr) (us : Array Value) (n : Nat) (sl : Array (Option Value)) : Obj := { cls := .type "list", dict := dx, data := .seq us n, slots := sl }
abbrev tObj (dx : Option Addr) (us : Array Value) (n : Nat) (sl : Array (Option Value)) : Obj := { cls := .type "tuple", dict := dx, data := .seq us n, slots := sl }
theorem neL_loop {p q : Addr} {us ws : Array Value} {n m : Nat} {dp dq : Option Addr} {sp sq : Array (Option Value)} (sz : us.size = ws.size) (f : Nat → Bool) : ∀ (c i : Nat), i + c = us.size →
    MeetsIn P w (Builtin.«list.__eq__.loop» ⟨[.ref p, .ref q, rawInt i, rawInt 3], []⟩) fun A R s => s.heap.get? p = some (lObj dp us n sp) ∧ s.heap.get? q = some (lObj dq ws m sq) ∧
      (∀ j (h1 : j < us.size) (h2 : j < ws.size), EqIn P w A.in1 s us[j] ws[j] (f j)) ∧ R (.ok (.ret (.bool (!(List.range' i c).all f)))) s := by
  intro c
  induction c with
  | zero =>
    rintro i e A R ⟨hp', g', d', t', o'⟩ ⟨x1, x2, _, fin⟩
    have n1 : us[((i : Nat) : Int).toNat]? = none := by simp; omega
    have n2 : ws[((i : Nat) : Int).toNat]? = none := by simp; omega
    wp_walk using wpAny_loadPart' x1, wpAny_loadPart' x2
    rw [n1, n2]
    wp_walk using wpAny_loadPart' x1, wpAny_loadPart' x2
    show R (.ok (.ret (.bool (us.size != ws.size)))) _
    rw [sz, bne_self_eq_false]
    exact fin
  | succ c ih =>
    rintro i e A R ⟨hp', g', d', t', o'⟩ ⟨x1, x2, it, fin⟩
    have l1 : i < us.size := by omega
    have l2 : i < ws.size := by omega
    have n1 : us[((i : Nat) : Int).toNat]? = some us[i] := by simp [l1]
    have n2 : ws[((i : Nat) : Int).toNat]? = some ws[i] := by simp [l2]
    have nx : ((i : Int) + 1) = ((i + 1 : Nat) : Int) := by push_cast; rfl
    rw [List.range'_succ, List.all_cons] at fin
    wp_walk using wpAny_loadPart' x1, wpAny_loadPart' x2
    rw [n1, n2]
    refine wpAny_bind (it i l1 l2 _ _ ?_)
    by_cases fi : f i = true
    · rw [fi, Bool.true_and] at fin
      rw [fi]
      wp_walk
      rw [nx]
      refine ⟨plainId_quiet plain_eq_loop _, codeAny_builtin entry_eq_loop ?_⟩
      rw [Around.under_plainId plain_eq_loop _]
      exact ih (i + 1) (by omega) A R _ ⟨x1, x2, it, fin⟩
    · have fi' : f i = false := by simpa using fi
      rw [fi', Bool.false_and] at fin
      rw [fi']
      wp_walk using wpAny_loadPart' x1, wpAny_loadPart' x2
      rw [n1, n2]
      wp_walk
      exact fin
theorem neL_meets {p q : Addr} {us ws : Array Value} {n m : Nat} {dp dq : Option Addr} {sp sq : Array (Option Value)} (sz : us.size = ws.size) (f : Nat → Bool) :
    MeetsIn P w (Builtin.«list.__ne__» ⟨[.ref p, .ref q], []⟩) fun A R s => s.heap.get? p = some (lObj dp us n sp) ∧ s.heap.get? q = some (lObj dq ws m sq) ∧
      (∀ j (h1 : j < us.size) (h2 : j < ws.size), EqIn P w A.in1 s us[j] ws[j] (f j)) ∧ R (.ok (.ret (.bool (!(List.range us.size).all f)))) s := by
  rintro A R ⟨hp', g', d', t', o'⟩ ⟨x1, x2, it, fin⟩
  have isl := AutoSeq1.sub_list_list
  have no : ¬ (us.size != ws.size) = true := by rw [sz, bne_self_eq_false]; exact Bool.false_ne_true
  rw [List.range_eq_range'] at fin
  wp_walk using wpAny_loadPart' x1, wpAny_loadPart' x2
  refine ⟨plainId_quiet plain_eq_loop _, codeAny_builtin entry_eq_loop ?_⟩
  rw [Around.under_plainId plain_eq_loop _]
  exact neL_loop sz f us.size 0 (Nat.zero_add _) A R _ ⟨x1, x2, it, fin⟩
variable {A : Around} {E : Value → Shared → Prop} {s : Shared}
theorem neL_rich {p q : Addr} {us ws : Array Value} {f : Nat → Bool} {Q : Value → Shared → Prop} (h1 : s.heap.IsList p us) (h2 : s.heap.IsList q ws) (sz : us.size = ws.size) (hu : A.units < cLine)
    (it : ∀ j (h1 : j < us.size) (h2 : j < ws.size), EqIn P w A.in1 s us[j] ws[j] (f j)) (fin : Q (.bool (!(List.range us.size).all f)) s) : wpAny (model P w) A (richCompare .NotEq (.ref p) (.ref q)) Q E s := by
  obtain ⟨⟨c1, d1, a1, s1⟩, o1, e1, n, z1⟩ := h1
  obtain ⟨⟨c2, d2, a2, s2⟩, o2, e2, m, z2⟩ := h2
  dsimp only at e1 z1 e2 z2
  subst e1 z1 e2 z2
  have nn : Value.bool (!(List.range us.size).all f) ≠ Value.notImplemented := fun x => nomatch x
  refine wpAny_richCompare_same_room (T := "list") (op := .NotEq) ⟨_, o1, rfl⟩ ⟨_, o2, rfl⟩ F.slot_list_ne ?_ hu
  exact call_meetsIn F.slot_list_ne ⟨_, o1, rfl⟩ F.entry_list_ne (F.args_list_ne_2 _ _) (neL_meets (n := n) (m := m) (dp := d1) (dq := d2) (sp := s1) (sq := s2) sz f) ⟨o1, o2, it, nn, fin⟩
theorem neT_meets {p q : Addr} {us ws : Array Value} {n m : Nat} {dp dq : Option Addr} {sp sq : Array (Option Value)} (sz : us.size = ws.size) (f : Nat → Bool) :
    MeetsIn P w (Builtin.«tuple.__ne__» ⟨[.ref p, .ref q], []⟩) fun A R s => s.heap.get? p = some (tObj dp us n sp) ∧ s.heap.get? q = some (tObj dq ws m sq) ∧
      (∀ j (h1 : j < us.size) (h2 : j < ws.size), EqIn P w A.in1 s us[j] ws[j] (f j)) ∧ R (.ok (.ret (.bool (!(List.range us.size).all f)))) s := .of_wp fun A R s0 hyp => by
  obtain ⟨hp', g', d', t', o'⟩ := s0
  obtain ⟨x1, x2, it, fin⟩ := hyp
  have ist := AutoSeq1.sub_tuple_tuple
  have zl : (us.toList.zip ws.toList).length = us.size := by simp [sz]
  rw [List.range_eq_range'] at fin
  wp_walk using wpAny_loadPart' x1, wpAny_loadPart' x2, wpAny_forIn_list _ (fun rest st now => st.1 = none ∧ now = ⟨hp', g', d', t', o'⟩ ∧ ∃ i, i ≤ us.size ∧ rest = (us.toList.zip ws.toList).drop i ∧ R (.ok (.ret (.bool (!(List.range' i (us.size - i)).all f)))) ⟨hp', g', d', t', o'⟩) _
  case turn =>
    rintro ⟨va, vb⟩ more st now ⟨_, rfl, i, ile, hz, fin⟩
    have il : i < us.size := by
      refine Nat.lt_of_le_of_ne ile fun e => ?_
      rw [e, List.drop_of_length_le (by omega)] at hz
      cases hz
    have i2 : i < ws.size := by omega
    rw [List.drop_eq_getElem_cons (show i < (us.toList.zip ws.toList).length by omega)] at hz
    injection hz with hv hm
    have e1 : va = us[i] := by simpa using congrArg Prod.fst hv
    have e2 : vb = ws[i] := by simpa using congrArg Prod.snd hv
    have e3 : us.size - i = (us.size - (i + 1)) + 1 := by omega
    rw [e3, List.range'_succ, List.all_cons] at fin
    rw [e1, e2]
    refine wpAny_bind (it i il i2 _ _ ?_)
    by_cases fi : f i = true
    · rw [fi, Bool.true_and] at fin
      rw [fi]
      wp_walk
      exact ⟨rfl, rfl, i + 1, il, hm, fin⟩
    · have fi' : f i = false := by simpa using fi
      rw [fi', Bool.false_and] at fin
      rw [fi']
      wp_walk
      exact ⟨_, rfl, fin⟩
  case fin =>
    rintro ⟨b1, b2⟩ now ⟨hn, rfl, i, ile, hz, fin⟩
    dsimp only at hn
    subst hn
    have ig : i = us.size := by
      refine Nat.le_antisymm ile (Nat.le_of_not_lt fun lt => ?_)
      rw [List.drop_eq_getElem_cons (show i < (us.toList.zip ws.toList).length by omega)] at hz
      cases hz
    rw [ig, Nat.sub_self] at fin
    wp_walk
    refine ⟨_, rfl, ?_⟩
    have bs : (us.size != ws.size) = false := by rw [sz, bne_self_eq_false]
    simpa [Builtin.Tuple.tupleCompareSizes, bs] using fin
  case h => exact ⟨rfl, rfl, 0, Nat.zero_le _, rfl, fin⟩
theorem neT_rich {p q : Addr} {us ws : Array Value} {f : Nat → Bool} {Q : Value → Shared → Prop} (h1 : s.heap.IsTuple p us) (h2 : s.heap.IsTuple q ws) (sz : us.size = ws.size) (hu : A.units < cLine)
    (it : ∀ j (h1 : j < us.size) (h2 : j < ws.size), EqIn P w A.in1 s us[j] ws[j] (f j)) (fin : Q (.bool (!(List.range us.size).all f)) s) : wpAny (model P w) A (richCompare .NotEq (.ref p) (.ref q)) Q E s := by
  obtain ⟨⟨c1, d1, a1, s1⟩, o1, e1, n, z1⟩ := h1
  obtain ⟨⟨c2, d2, a2, s2⟩, o2, e2, m, z2⟩ := h2
  dsimp only at e1 z1 e2 z2
  subst e1 z1 e2 z2
  have nn : Value.bool (!(List.range us.size).all f) ≠ Value.notImplemented := fun x => nomatch x
  refine wpAny_richCompare_same_room (T := "tuple") (op := .NotEq) ⟨_, o1, rfl⟩ ⟨_, o2, rfl⟩ F.slot_tuple_ne ?_ hu
  exact call_meetsIn F.slot_tuple_ne ⟨_, o1, rfl⟩ F.entry_tuple_ne (F.args_tuple_ne_2 _ _) (neT_meets (n := n) (m := m) (dp := d1) (dq := d2) (sp := s1) (sq := s2) sz f) ⟨o1, o2, it, nn, fin⟩
end
/-! ### the small semantics' == -/
section
open PySem.SeqAt (EqIn EqAt)
open PySem.W (KeqHits)
variable {X : Cx} {pins : List (Addr × Obj)} {σ : Sg} {H : Hp} {s : Shared} {mu : List Addr} {CL : CLs} {M : Mem} {A : Around} {E : Value → Shared → Prop}
theorem eqAt_der (I : Inv X pins σ H s) (R : Rm X.K CL mu H M) {a b : D} {x y : V} {u v : Value} {p q : PyData} (hu : A.units + 32 < cLine) (ha : Rv X.K mu H a x) (hb : Rv X.K mu H b y) (ra : RelV x u) (rb : RelV y v) (e1 : der 31 M a = some p) (e2 : der 31 M b = some q) : EqAt A s u v (peq p q) := by
  obtain ⟨d1, c1, n1⟩ := der_ok R 31 a x p ha e1
  obtain ⟨d2, c2, n2⟩ := der_ok R 31 b y q hb e2
  obtain ⟨as, r1⟩ := Dp.reads I p x u d1 ra
  obtain ⟨bs, r2⟩ := Dp.reads I q y v d2 rb
  rw [peq_eqv p q c1 c2]
  exact SeqAt.eqAt_reads p q A s u v as bs r1 r2 c1 c2 (by have := Nat.min_le_left p.depth q.depth; omega)
theorem hits_of (I : Inv X pins σ H s) (R : Rm X.K CL mu H M) (hu : A.units + 32 < cLine) {ls : List (D × D)} {xl : List Ent} (rl : Rdt X.K mu H ls xl) : ∀ {ks : List (D × D)} {xk : List Ent} {b : Bool}, ceqD M ls ks = some b → (ks.all fun p => isSk p.1) = true → Rdt X.K mu H ks xk → KeqHits A s (xsS xl) (xsS xk) b
  | [], xk, b, h, _, r => by
    rw [show xk = [] from r]
    cases h
    exact .nil
  | p :: r, _, b, h, sk, ⟨kv, ku, u, v, xk, e0, _, _, hk, h3, h4, t⟩ => by
    subst e0
    rw [List.all_cons, Bool.and_eq_true] at sk
    have vt := valueAt_eq xl (toNk p.1)
    unfold ceqD at h
    rcases rl.get (k := p.1) (.inl sk.1) with ⟨g1, g2⟩ | ⟨d', u', v', g1, g2, g3, g4⟩
    · rw [g1] at h
      cases h
      exact .miss (by rw [vt, g2])
    · rw [g1] at h
      dsimp only at h
      split at h
      · rename_i a c z q1 q2 q3
        cases h
        exact .hit (by rw [vt, g2]) (eqAt_der I R hu h4 g4 h3 g3 q1 q2) (hits_of I R hu rl q3 sk.2 t)
      · cases h
theorem len_xsS (xs : List Ent) : (xsS xs).length = xs.length := by unfold xsS; rw [List.length_map]
/-- of two dicts -/
theorem dd_eq {neg : Bool} {fz gz : Bool} {p q : Addr} {xk xl : List Ent} {ks ls : List (D × D)} {b : Bool} {Q : Value → Shared → Prop} (hu : A.units + 36 < cLine) (hw : CL.w = X.w) (I : Inv X pins σ H s) (R : Rm X.K CL mu H M) (e1 : Lk fz H p (dictO CL.w p xk)) (r1 : Rdt X.K mu H ks xk) (e2 : Lk gz H q (dictO CL.w q xl)) (r2 : Rdt X.K mu H ls xl) (h : ceqK M ks ls = some b)
    (fin : Q (.bool (if neg then !b else b)) s) : wpAny (model X.prog X.w) A (compareOp (if neg then .NotEq else .Eq) (.ref p) (.ref q)) Q E s := by
  unfold ceqK at h
  split at h
  · rename_i sk
    rw [Bool.and_eq_true] at sk
    have d1 := lk_get I e1
    have d2 := lk_get I e2
    rw [hw] at d1 d2
    have m1 := d1.S (P := X.prog) r1 sk.1
    have m2 := d2.S (P := X.prog) r2 sk.2
    have l1 := r1.length
    have l2 := r2.length
    have hu2 : A.in1.units + 32 < cLine := by
      have h1 : A.in1.units ≤ A.units + 2 := by first | exact Nat.le_refl _ | (simp [Around.in1]) | decide
      omega
    split at h
    · rename_i len
      have hits := hits_of (A := A.in1) I R hu2 r2 h sk.1 r1
      have le : ((xsS xk).length == (xsS xl).length) = true := by rw [len_xsS, len_xsS, beq_iff_eq]; omega
      cases neg with
      | false => exact PySem.W.keq_eq (knd := flatKind X.prog X.w) d1.sy d2.sy m1 m2 (by omega) (fun _ => hits) (by rw [le, Bool.true_and]; exact fin)
      | true => exact PySem.W.keq_ne (knd := flatKind X.prog X.w) d1.sy d2.sy m1 m2 (by omega) (fun _ => hits) (by rw [le, Bool.true_and]; exact fin)
    · rename_i len
      cases h
      have le : ((xsS xk).length == (xsS xl).length) = false := by rw [len_xsS, len_xsS]; exact beq_false_of_ne fun z => len (by omega)
      have no : (xsS xk).length = (xsS xl).length → KeqHits A.in1 s (xsS xl) (xsS xk) true := fun z => by rw [len_xsS, len_xsS] at z; exact absurd (by omega) len
      cases neg with
      | false => exact PySem.W.keq_eq (knd := flatKind X.prog X.w) d1.sy d2.sy m1 m2 (by omega) no (by rw [le, Bool.false_and]; exact fin)
      | true => exact PySem.W.keq_ne (knd := flatKind X.prog X.w) d1.sy d2.sy m1 m2 (by omega) no (by rw [le, Bool.false_and]; exact fin)
  · cases h
theorem eqIn_item (I : Inv X pins σ H s) (R : Rm X.K CL mu H M) (hu : A.units + 36 < cLine) (hw : CL.w = X.w) {a b : D} {x y : V} {u v : Value} {z : Bool} (ha : Rv X.K mu H a x) (hb : Rv X.K mu H b y) (ra : RelV x u) (rb : RelV y v) (e : ceqI M a b = some z) : EqIn X.prog X.w A s u v z := by
  unfold ceqI at e
  split at e
  · rename_i p q e1 e2
    cases e
    exact (eqAt_der I R (by omega) ha hb ra rb e1 e2).inModel _ _
  · cases a with
    | hdl i =>
      cases b with
      | hdl j =>
        obtain ⟨p, hp, rfl⟩ := ha
        obtain ⟨q, hq, rfl⟩ := hb
        cases ra
        cases rb
        dsimp only at e
        split at e
        · cases e
        · rename_i nij
          split at e
          · rename_i f1 ks f2 ls m1 m2
            obtain ⟨xk, k1, k2⟩ := R.ob i p _ hp m1
            obtain ⟨xl, l1, l2⟩ := R.ob j q _ hq m2
            have ne : p ≠ q := fun pq => by
              obtain ⟨b1, c1⟩ := List.getElem?_eq_some_iff.mp hp
              obtain ⟨b2, c2⟩ := List.getElem?_eq_some_iff.mp hq
              exact nij ((List.getElem_inj R.nd).mp (by rw [c1, c2, pq]))
            exact SeqAt.EqIn.of_refs ne fun E Q hQ => dd_eq (neg := false) hu hw I R k1 k2 l1 l2 e hQ
          · cases e
      | _ => cases e
    | _ => cases e
/-- item by item -/
theorem eqIn_items (I : Inv X pins σ H s) (R : Rm X.K CL mu H M) (hu : A.units + 36 < cLine) (hw : CL.w = X.w) : ∀ {as bs : List D} {xs ys : List V} {us ws : List Value} {z : Bool}, Rvs X.K mu H as xs → Rvs X.K mu H bs ys → Vals xs us → Vals ys ws → ceqL M as bs = some z →
    us.length = ws.length ∧ ∃ f : Nat → Bool, (List.range us.length).all f = z ∧ ∀ j (h1 : j < us.length) (h2 : j < ws.length), EqIn X.prog X.w A s us[j] ws[j] (f j)
  | [], [], _, _, us, ws, z, h1, h2, v1, v2, e => by
    rw [show _ = [] from h1] at v1
    rw [show _ = [] from h2] at v2
    cases v1; cases v2; cases e
    exact ⟨rfl, fun _ => true, rfl, fun j h => absurd h (Nat.not_lt_zero _)⟩
  | a :: as, b :: bs, _, _, _, _, z, ⟨x, xr, rfl, ha, t1⟩, ⟨y, yr, rfl, hb, t2⟩, v1, v2, e => by
    cases v1 with
    | cons r1 v1 =>
      cases v2 with
      | cons r2 v2 =>
        unfold ceqL at e
        split at e
        · rename_i p q e1 e2
          cases e
          obtain ⟨ln, f, f1, f2⟩ := eqIn_items I R hu hw t1 t2 v1 v2 e2
          refine ⟨by rw [List.length_cons, List.length_cons, ln], fun j => match j with
            | 0 => p
            | j + 1 => f j, ?_, fun j h1 h2 => ?_⟩
          · rw [List.length_cons, List.range_succ_eq_map, List.all_cons, List.all_map, ← f1]; rfl
          · match j with
            | 0 => exact eqIn_item I R hu hw ha hb r1 r2 e1
            | j + 1 => exact f2 j (by simpa using h1) (by simpa using h2)
        · cases e
  | [], _ :: _, _, _, _, _, _, _, _, _, _, e => by cases e
  | _ :: _, [], _, _, _, _, _, _, _, _, _, e => by cases e
def rCeq (neg : Bool) (K : PySem.W.Frag) (CL : CLs) : R2 := fun x y H Q => ∃ mu M a b z, Rm K CL mu H M ∧ Rw K CL mu H a x ∧ Rw K CL mu H b y ∧ ceqR a b M = some z ∧ Q (.bl (if neg then !z else z)) H
theorem op_ceq (neg : Bool) (hu : X.A.units + 60 < cLine) (hw : CL.w = X.w) : OpR X (compareOp (if neg then .NotEq else .Eq)) (rCeq neg X.K CL) := by
  intro pins s σ H x y u v Q I rx ry h
  obtain ⟨mu, M, a, b, z, R, ha, hb, e, q⟩ := h
  have hu2 : X.A.in1.units + 36 < cLine := by
    have h1 : X.A.in1.units ≤ X.A.units + 2 := by first | exact Nat.le_refl _ | (simp [Around.in1]) | decide
    omega
  unfold ceqR at e
  split at e
  · rename_i xs ys
    obtain ⟨p, vs, rfl, t1, t2⟩ := ha
    obtain ⟨q', ws, rfl, t3, t4⟩ := hb
    cases rx
    cases ry
    obtain ⟨us1, r1, i1, _⟩ := I.tuple t1
    obtain ⟨us2, r2, i2, _⟩ := I.tuple t3
    obtain ⟨ln, f, f1, f2⟩ := eqIn_items (A := X.A.in1) I R hu2 hw t2 t4 r1 r2 e
    cases neg with
    | false => exact SeqAt.rcIn_tuples i1 i2 (by omega) (e := f) (fun j h1 h2 => by simpa using f2 j (by simpa using h1) (by simpa using h2)) (by
        have e3 : ((List.range (min us1.toArray.size us2.toArray.size)).all f && (us1.toArray.size == us2.toArray.size)) = z := by
          rw [List.size_toArray, List.size_toArray, ln, Nat.min_self, beq_self_eq_true, Bool.and_true, ← ln]; exact f1
        rw [e3]; exact ⟨.bl _, H, I, rfl, q⟩)
    | true => exact neT_rich i1 i2 (by simpa using ln) (by omega) (f := f) (fun j h1 h2 => by simpa using f2 j (by simpa using h1) (by simpa using h2)) (by
        have e3 : (List.range us1.toArray.size).all f = z := by rw [List.size_toArray]; exact f1
        rw [e3]; exact ⟨.bl _, H, I, rfl, q⟩)
  · split at e
    · rename_i ks ls e1 e2
      obtain ⟨fz, p, xk, rfl, k1, k2⟩ := dicOf_ok R ha e1
      obtain ⟨gz, q', xl, rfl, l1, l2⟩ := dicOf_ok R hb e2
      cases rx
      cases ry
      exact dd_eq (neg := neg) (by omega) hw I R k1 k2 l1 l2 e ⟨.bl _, H, I, rfl, q⟩
    · split at e
      · rename_i xs ys e1 e2
        obtain ⟨p, vs, rfl, t1, t2⟩ := lstT_ok R ha e1
        obtain ⟨q', ws, rfl, t3, t4⟩ := lstT_ok R hb e2
        cases rx
        cases ry
        obtain ⟨us1, r1, i1, _⟩ := I.list (.inl (.inl t1))
        obtain ⟨us2, r2, i2, _⟩ := I.list (.inl (.inl t3))
        obtain ⟨ln, f, f1, f2⟩ := eqIn_items (A := X.A.in1) I R hu2 hw t2 t4 r1 r2 e
        cases neg with
        | false => exact SeqAt.rcIn_lists i1.isList i2.isList (by simpa using ln) (by omega) (e := f) (fun j h1 h2 => by simpa using f2 j (by simpa using h1) (by simpa using h2)) (by
        have e3 : (List.range us1.toArray.size).all f = z := by rw [List.size_toArray]; exact f1
        rw [e3]; exact ⟨.bl _, H, I, rfl, q⟩)
        | true => exact neL_rich i1.isList i2.isList (by simpa using ln) (by omega) (f := f) (fun j h1 h2 => by simpa using f2 j (by simpa using h1) (by simpa using h2)) (by
        have e3 : (List.range us1.toArray.size).all f = z := by rw [List.size_toArray]; exact f1
        rw [e3]; exact ⟨.bl _, H, I, rfl, q⟩)
      · cases e
end
section
variable {K : PySem.W.Frag} {CL : CLs}
theorem ok2_eqA : Ok2 K CL (fun x y H Q => rEqD K x y H Q ∨ rCeq false K CL x y H Q) oEq := fun W σ mu H M x y v u Q R hx hy p => by
  unfold oEq eqR at p
  split at p
  · rename_i b eb
    split at eb
    · rename_i a c e1 e2
      cases eb
      obtain ⟨h1, h2, h3⟩ := derR_ok R hx e1
      obtain ⟨h4, h5, h6⟩ := derR_ok R hy e2
      exact .inl ⟨a, c, h1, h4, h3, h6, end_d R p (by rw [peq_eqv a c h2 h5]; rfl)⟩
    · exact .inr ⟨mu, M, x, y, b, R, hx, hy, eb, end_d R p rfl⟩
  · exact bad_end p
theorem ok2_neA : Ok2 K CL (fun x y H Q => rNeD K x y H Q ∨ rCeq true K CL x y H Q) oNe := fun W σ mu H M x y v u Q R hx hy p => by
  unfold oNe eqR at p
  split at p
  · rename_i b eb
    split at eb
    · rename_i a c e1 e2
      cases eb
      obtain ⟨h1, h2, h3⟩ := derR_ok R hx e1
      obtain ⟨h4, h5, h6⟩ := derR_ok R hy e2
      exact .inl ⟨a, c, h1, h4, h3, h6, end_d R p (by rw [peq_eqv a c h2 h5]; rfl)⟩
    · exact .inr ⟨mu, M, x, y, b, R, hx, hy, eb, end_d R p rfl⟩
  · exact bad_end p
end
end MI
end
section
set_option Elab.async false
set_option linter.all false
set_option maxRecDepth 100000
set_option maxHeartbeats 4000000
/-! MIn: a tuple, so many times -/
namespace MI
open PySem PySem.Spec PyProof.Rows L2
theorem tuple_mul1 (l : Addr) (items : Array Value) (n : Nat) (dd : Option Addr) (sl : Array (Option Value)) (u : Tok) :
    Meets (Builtin.«tuple.__mul__» ⟨[.ref l, .int 1 u], []⟩) (fun _ R s => (s.heap.get? l = some { cls := .type "tuple", dict := dd, data := .seq items n, slots := sl }) ∧ R (.ok (.ret (Value.ref l))) s) :=
  .of_wp fun prog w A R s h => by
    obtain ⟨hp, g, d, tk, os⟩ := s
    obtain ⟨hl, h⟩ := h
    have f1 := AutoSeq1.idx_int
    wp_walk using wpAny_loadPart' hl
    exact ⟨_, rfl, h⟩
def rRep1T (K : PySem.W.Frag) : R2 := fun x y H Q => ∃ l xs, x = .ref l ∧ y = .int 1 ∧ SqT K H l xs ∧ Q (.ref l) H
theorem op_rep1T {X : Cx} : OpR X (binaryOp .Mult) (rRep1T X.K) := by
  intro pins s σ H x y v u Q I rx ry h
  obtain ⟨l, xs, rfl, rfl, hT, q⟩ := h
  cases rx
  obtain ⟨t, rfl⟩ := ry
  obtain ⟨its, r, ⟨⟨cls, dd, data, sl⟩, ho, hc, n, hd⟩, hs⟩ := I.tuple hT
  simp only at hc hd
  subst hc hd
  exact wpAny_binaryOp_repeat_ref (T := "tuple") (U := "int") (by decide) ⟨_, ho, rfl⟩ (fun s' => typeIs_int s' 1 t) noFill_tuple_mul F.fills_int_mul F.slot_int_rmul repeat_tuple F.slot_int_index.lookup
    (call_meets F.slot_int_rmul (typeIs_int s 1 t) F.entry_int_rmul (F.args_int_rmul_2 _ _) (int_rmul_tuple 1 t l its.toArray n dd sl)
      ⟨ho, rfl, ⟨_, ho, rfl⟩, call_meets F.slot_tuple_mul ⟨_, ho, rfl⟩ F.entry_tuple_mul (F.args_tuple_mul_2 _ _) (tuple_mul1 l its.toArray n dd sl t) ⟨ho, .ref l, H, I, rfl, q⟩⟩)
section
variable {K : PySem.W.Frag} {CL : CLs} {W : WX} {σ : Sg} {mu mu1 : List Addr} {H H0 H1 : Hp} {M M1 : Mem}
theorem Rvs.rep {ds : List D} {vs : List V} (h : Rvs K mu H ds vs) : ∀ n : Nat, Rvs K mu H (List.replicate n ds).flatten (List.replicate n vs).flatten
  | 0 => rfl
  | n + 1 => by
    rw [List.replicate_succ, List.replicate_succ, List.flatten_cons, List.flatten_cons]
    exact Rvs.append h (Rvs.rep h n)
theorem ok2_mulAll : Ok2 K CL (fun x y H Q => (L2.rI CMul (fun i j => .int (i * j)) x y H Q ∨ rMulS x y H Q) ∨ (rRep1T K x y H Q ∨ rRepT K x y H Q)) oMul := fun W σ mu H M x y v u Q R hx hy p => by
  unfold oMul at p
  split at p
  · split at p
    · rename_i c; exact .inl (.inl ⟨_, _, hx, hy, c, end_d R p rfl⟩)
    · exact bad_end p
  · split at p
    · rename_i c
      refine .inl (.inr ⟨_, _, hx, hy, c.1, c.2.1, c.2.2, ?_⟩)
      rw [mul_mulL c.1]
      exact end_d R p rfl
    · exact bad_end p
  · split at p
    · rename_i M ds n c
      obtain ⟨a, vs, rfl, h1, h2⟩ := hx
      have hu : u = .int n := hy
      subst hu
      by_cases e : n = 1
      · subst e
        have e1 : (List.replicate (1 : Int).toNat ds).flatten = ds := by show ([ds] : List (List D)).flatten = ds; simp
        rw [e1] at p
        exact .inr (.inl ⟨a, vs, rfl, rfl, h1, end_d R p ⟨a, vs, rfl, h1, h2⟩⟩)
      · have hl := h2.length
        refine .inr (.inr ⟨a, n, vs, rfl, rfl, h1, ?_, by omega, c.2.2.2, by omega, end_tup R p (h2.rep _)⟩)
        intro z
        subst z
        have : ds = [] := List.eq_nil_of_length_eq_zero (by rw [hl]; rfl)
        exact c.1 this
    · exact bad_end p
  · exact bad_end p
end
end MI
end
section
set_option Elab.async false
set_option linter.all false
set_option maxRecDepth 100000
set_option maxHeartbeats 4000000
/-! MIp: comprehensions that an exception may leave -/
namespace MI
open PySem PySem.Spec PyProof.Rows L2
/-- a block that an exception may leave -/
abbrev Xb (X : Cx) (ce : PySem.Env) : Value → Shared → Prop := notedBy (model X.prog X.w) X.A ce (CompFails (model X.prog X.w) X.A X.xe ce)
abbrev blkX (X : Cx) (s : Shared) (H : Hp) (scope : Scope) (ce : PySem.Env) (fp : List Addr) : Cx := { X.blk s H scope ce fp with xe := Xb X ce }
theorem okX {X : Cx} (f : Value → Shared → Prop) (k : X.Ok) : Cx.Ok { X with xe := f } :=
  ⟨k.mod, k.kind, k.glob, k.blt, k.above, k.inj, k.has, k.cab, k.hd, k.frames, k.stk, k.exf, k.bs, k.bsz, k.noex, k.exfs, k.funs, k.frf⟩
theorem invX {X : Cx} (f : Value → Shared → Prop) {pins : List (Addr × Obj)} {σ : Sg} {H : Hp} {s : Shared} (I : Inv X pins σ H s) : Inv { X with xe := f } pins σ H s :=
  ⟨okX f I.ok, I.os, I.bare, I.base, I.loc, I.cell, I.free, I.freeC, I.pin, I.hok, I.len⟩
theorem invY {X : Cx} (f : Value → Shared → Prop) {pins : List (Addr × Obj)} {σ : Sg} {H : Hp} {s : Shared} (I : Inv { X with xe := f } pins σ H s) : Inv X pins σ H s := invX (X := { X with xe := f }) X.xe I
section
variable {M : Model} {A : Around} {E : Value → Shared → Prop} {s : Shared} {Z : Obj → Prop} {B : Heap} {env : PySem.Env} {outer : List PySem.Env} {L a : Addr}
/-- noted at another frame's number so far -/
theorem note_other {fl : Value} {Q : Unit → Shared → Prop} (hZ : HandSPX.Steady Z) (hfr : A.frames = some (env :: outer)) (hf : env.frame = some L) (k1 : B.StaysIn s.heap) (k2 : B.get? a = none) (k3 : s.heap.FunFrames B (env :: outer))
    (tr : HandSPX.TracedZ s.heap B a Z fl) (hne : (fl == rawInt L) = false) (hQ : ∀ h', HandSPX.HeldZ B (env :: outer) a Z L h' → s.heap.UpToSlots h' → Q () { s with heap := h' }) : wpAny M A (noteFrame (.ref a) env) Q E s := by
  obtain ⟨xo, xv, tb, to, tv, g1, g2, g3, g4, g5, g6, g7, g8, g9⟩ := tr
  unfold noteFrame
  simp only [hf]
  refine wpAny_bind (wpAny_field g1 g3 g4 ?_)
  rw [if_pos (show (Value.ref tb != Value.none) = true from by simp)]
  refine wpAny_bind (wpAny_field g7 g8 g9 ?_)
  rw [if_neg (show ¬ ((fl == rawInt L) = true) from by rw [hne]; decide)]
  have at3 := (Array.getElem?_eq_some_iff.mp g9).1
  refine wpAny_bind (wpAny_setField g7 g8 at3 ?_)
  obtain ⟨h1, eh⟩ : ∃ h1, h1 = s.heap.update tb (Obj.mapFields (·.setIfInBounds 3 Value.none)) := ⟨_, rfl⟩
  have same : ∀ b, ¬ b = tb → h1.get? b = s.heap.get? b := fun b hb => by rw [eh]; exact Heap.get?_update_other _ _ fun e => hb e.symm
  have nrec : ∀ b o, s.heap.get? b = some o → (∀ v, o.data ≠ .fields v) → ¬ b = tb := fun b o hb hn e => by
    subst e
    rw [g7] at hb
    cases hb
    exact hn tv g8
  have stay : B.StaysIn h1 := fun b o hb => (same b fun e => by rw [e, g5] at hb; cases hb).trans (k1 b o hb)
  rw [← eh]
  refine HandSPX.wpAny_entryZ hZ hfr (k3.of_keeps fun b o hb hn => ⟨o, (same b (nrec b o hb hn)).trans hb, rfl⟩) hf ((same a fun e => g6 e.symm).trans g1) stay k2 g3 (Array.getElem?_eq_some_iff.mp g4).1 g2 fun h' hN => ?_
  obtain ⟨n1, n2, n3, n4⟩ := hN
  exact hQ h' ⟨n1, k2, n2, n3⟩ fun b o hb hn => n4 b o ((same b (nrec b o hb hn)).trans hb) hn
end
theorem rawInt_ne {a b : Addr} (h : a ≠ b) : (rawInt a == rawInt b) = false := by
  rw [beq_eq_false_iff_ne]
  intro e
  unfold rawInt at e
  injection e with e
  exact h (by exact_mod_cast e)
section
variable {X : Cx} {pins : List (Addr × Obj)} {σ : Sg} {H : Hp} {s : Shared} {W : WX}
/-- what leaves the block is in the def's air -/
theorem takes_blk (tk : Takes X W) (hstk : X.stack = X.env :: X.outer) (hfr : X.env.frame = some X.env.locals) (I : Inv X pins σ H s) {scope : Scope} {ce : PySem.Env} {fp : List Addr} {C : Addr} (cL : ce.locals = C) (hC : s.heap.objs.size ≤ C) (cf : ce.frame = X.env.frame)
    (f3 : ∀ b ∈ fp, FpOk X pins H b) : Takes (blkX X s H scope ce fp) (fun cls d _ H' => W cls d σ H') := by
  rintro u s' ⟨a, B, sI, pins', σ', H', cls, d, rfl, I', nb, up, sky, na, os, ag, w⟩
  have nC : H' C = none := by have z : H' ce.locals = none := I'.free; rwa [cL] at z
  have I7 : Inv X pins σ H' sI := I.call' (ch := fp) I'.os I'.base I'.hok I'.bare fun b hb => ⟨(f3 b hb).2.2.2.1, (f3 b hb).2.1, (f3 b hb).2.2.2.2.1, (f3 b hb).2.2.2.2.2⟩
  have fC := I.fpOk hC nC
  have hA : X.A.frames = some (X.env :: X.outer) := by rw [I.ok.frames, hstk]
  have neC : C ≠ X.env.locals := fC.2.1
  -- the block's names
  obtain ⟨m, hn, _⟩ := I'.loc
  have hn : sI.heap.Ns ce.locals m := hn
  have nb' : ∀ b o, sI.heap.get? b = some o → b ∉ frs X.stack → B.get? b = some o := nb
  have land : ∀ h1, HandSPX.HeldZ B (X.env :: X.outer) a (Zc cls d) X.env.locals h1 → s'.heap.UpToSlots h1 → CompFails (model X.prog X.w) X.A X.xe ce (.ref a) { s' with heap := h1 } := fun h1 hh up1 => by
    obtain ⟨k1, k2, k3, tr⟩ := hh
    have hn1 : h1.Ns ce.locals m := (hn.upToSlots up).upToSlots up1
    refine ⟨m, hn1, fun h2 m2 hn2 sb => ?_⟩
    rw [cL] at sb hn1 hn2
    have sb2 : ∀ b, b ≠ C → h2.get? b = h1.get? b := fun b hb => sb.2 b hb
    obtain ⟨G, g1, g2⟩ := restrict h2 fun b => (B.get? b).isSome
    have gB : ∀ b o, B.get? b = some o → b ≠ C → G.get? b = some o := fun b o e hb => by
      rw [g1 b (by simp [e]), sb2 b hb]; exact k1 b o e
    have gN : ∀ b, B.get? b = none → G.get? b = none := fun b e => g2 b (by simp [e])
    have gS : G.StaysIn h2 := fun b o e => by
      cases q : (B.get? b).isSome with
      | false => rw [g2 b q] at e; cases e
      | true => rw [g1 b q] at e; exact e
    obtain ⟨oC, es, ep, eC, dC, _⟩ := hn1
    obtain ⟨xo, xv, tb, to, tv, t1, t2, t3, t4, t5, t6, t7, t8, t9⟩ := tr
    have aC : a ≠ C := fun e => by rw [e, eC] at t1; cases t1; rw [dC] at t3; cases t3
    have tC : tb ≠ C := fun e => by rw [e, eC] at t7; cases t7; rw [dC] at t8; cases t8
    have f1 : h2.FunFrames B (X.env :: X.outer) := Heap.FunFrames.sameBut sb hn2 k3
    have f2 : h2.FunFrames G (X.env :: X.outer) := funFrames_none f1 fun b hb => gN b (f1.mem hb).1
    have t1' : h2.get? a = some xo := (sb2 a aC).trans t1
    have t7' : h2.get? tb = some to := (sb2 tb tC).trans t7
    have held : HandSPX.HeldZ G (X.env :: X.outer) a (Zc cls d) X.env.locals h2 := ⟨gS, gN a k2, f2, xo, xv, tb, to, tv, t1', t2, t3, t4, gN tb t5, t6, t7', t8, t9⟩
    unfold PySem.passOn
    refine wpAny_bind (wpAny_field t1' t3 t4 ?_)
    rw [if_neg (show ¬ ((Value.ref tb == Value.none) = true) from by simp), cf, hfr]
    refine wpAny_bind (HandSPX.setFlight_onZ (s := { s' with heap := h2 }) held fun h3 hh3 up3 => wpAny_throw (tk _ _ ?_))
    obtain ⟨l1, l2, l3, l4⟩ := hh3
    obtain ⟨G2, p1, p2⟩ := restrict h3 fun b => (G.get? b).isSome || decide (b ∈ frs X.stack)
    have pG : ∀ b o, G.get? b = some o → G2.get? b = some o := fun b o e => by rw [p1 b (by simp [e])]; exact l1 b o e
    have pF : ∀ b, b ∈ frs X.stack → G2.get? b = h3.get? b := fun b hb => p1 b (by simp [hb])
    have pO : ∀ b o, G2.get? b = some o → h3.get? b = some o ∧ ((G.get? b).isSome = true ∨ b ∈ frs X.stack) := fun b o e => by
      cases q : ((G.get? b).isSome || decide (b ∈ frs X.stack)) with
      | false => rw [p2 b q] at e; cases e
      | true =>
        rw [p1 b q] at e
        exact ⟨e, by simpa [Bool.or_eq_true] using q⟩
    have fr : ∀ b o, sI.heap.get? b = some o → b ∈ frs X.stack → ∃ sl, G2.get? b = some { o with slots := sl } := fun b o e hb => by
      obtain ⟨_, o', e', hd⟩ := I7.stack.mem hb
      rw [e] at e'; cases e'
      obtain ⟨s1, q1⟩ := up b o e hd
      obtain ⟨s2, q2⟩ := up1 b _ q1 hd
      have bC : b ≠ C := fun z => fC.2.2.1 (by
        rcases List.mem_cons.mp (I7.stkSub b hb) with y | y
        · exact absurd (z.symm.trans y) neC
        · rw [← z]; exact y)
      have q3 : h2.get? b = _ := (sb2 b bC).trans q2
      obtain ⟨s4, q4⟩ := up3 b _ q3 hd
      exact ⟨s4, by rw [pF b hb]; exact q4⟩
    have st : ∀ b o, sI.heap.get? b = some o → b ∉ frs X.stack → b ≠ C → G2.get? b = some o := fun b o e hb hc => pG b o (gB b o (nb' b o e hb) hc)
    refine ⟨a, G, { sI with heap := G2, gens := s'.gens, drawn := s'.drawn, toks := s'.toks }, pins, σ, H', cls, d, rfl, ?_, fun b o e hb => ?_, Heap.UpToSlots.of_keeps fun b o e => (pO b o e).1, .inr (.inr (by rw [hstk]; exact ⟨l1, l2, l3, l4⟩)), na, os, ag, w⟩
    · refine I7.call (ch := [C]) ⟨fun b o e _ hb hc => st b o e hb fun z => hc (by simp [z]), fun b o e _ hb _ => fr b o e hb, fun _ _ _ n _ => n, fun b o e hc => ?_, fun _ _ e => e, fun _ _ _ e => e, fun b ps e => ⟨#[], by rw [e]; simp⟩⟩ (fun b o q => ?_) ag fun b hb => ?_
      · by_cases hb : b ∈ frs X.stack
        · obtain ⟨sl, q⟩ := fr b o e hb
          exact ⟨_, q⟩
        · exact ⟨o, st b o e hb fun z => hc (by simp [z])⟩
      · refine (I7.hok b o q).stay (fun c v hc r => st c v r (fun hm => ?_) fun z => ?_) (fun _ r => r) fun _ _ r => r
        · have z := I7.stkFree c hm
          rcases hc with hc | hc
          · rw [hc, q] at z; cases z
          · rw [hc] at z; cases z
        · subst z
          rcases hc with hc | hc
          · rw [hc, q] at nC; cases nC
          · rw [hc] at nC; cases nC
      · have e : b = C := by simpa using hb
        subst e
        exact ⟨fC.2.2.2.1, fC.2.1, fC.2.2.2.2.1, fC.2.2.2.2.2⟩
    · obtain ⟨e', h⟩ := pO b o e
      rcases h with h | h
      · obtain ⟨o', q⟩ := Option.isSome_iff_exists.mp h
        have z := l1 b o' q
        rw [e'] at z; cases z
        exact q
      · exact absurd h hb
  show wpAny _ _ (noteFrame (.ref a) ce) _ _ s'
  rw [noteFrame_env _ cf]
  have sky : Sky B X.stack a (Zc cls d) ce.locals s'.heap := sky
  rw [hstk] at sky
  rcases sky with ⟨hB, hn', hl, oe, vs, he, hz, hd, h1⟩ | fl | ⟨z1, z2, z3, z4⟩
  · exact HandSPX.look_newZ Zc.steady hA hl hfr he hB hn' hd h1 hz land
  · exact HandSPX.looks_onZ Zc.steady hA hfr fl land
  · rw [cL] at z4
    exact note_other Zc.steady hA hfr z1 z2 z3 z4 (rawInt_ne neC) land
end
end MI
end
section
set_option Elab.async false
set_option linter.all false
set_option maxRecDepth 100000
set_option maxHeartbeats 4000000
/-! MIq: [elt for t in it], whose items may raise -/
namespace MI
open PySem PySem.Spec PyProof.Rows L2
section
variable {X : Cx}
/-- a block at the list L; one turn after another -/
def tLx (wi : TI) (g : TG) (te : Sg → TE) (vs : List Nat) : TE := fun σ H Q => wi σ H fun J H1 => ∀ L, H1 L = none → ∃ V : Nat → Nat → Hp → Prop, (∃ m, V 0 m (upd H1 L (.lst []))) ∧ ∀ i m H, V i m H →
  (J.stop i H ∧ Q (.ref L) H) ∨ (J.go i H ∧ ∃ Nx : Hp → Prop, (∀ H', Nx H' → ∃ m', m' < m ∧ V (i + 1) m' H') ∧ ∀ x H', J.yld i H x H' → g x (L2.wipe σ vs) H' fun σ2 H2 => L2.wipe σ2 vs = L2.wipe σ vs ∧
    te σ σ2 H2 fun y H4 => ∃ acc, H4 L = some (.lst acc) ∧ acc.length < sizeLine ∧ Nx (upd H4 L (.lst (acc ++ [y]))))
theorem lcx_core {pins : List (Addr × Obj)} {s : Shared} {σ : Sg} {H : Hp} {Q : VK} {elt tg iter : Expr} {scope : Scope} {own : List (Str × Nat)} {pos pos' : Pos} {wi : TI} {g : TG} {te : Sg → TE} {use : Option (Value → Sem Unit)} {Qf : Value → Shared → Prop} {W : WX}
    (hc : X.calm = true) (hN : X.N.Nodup) (tk : Takes X W) (hstk : X.stack = X.env :: X.outer) (hfr : X.env.frame = some X.env.locals) (I : Inv X pins σ H s) (hi : PI X tg iter wi) (ok : BlkOk X.N X.env.scope scope own)
    (hg : ∀ (s : Shared) (H : Hp) (C : Addr) (cc : List (Str × Addr)) (fp : List Addr), PG (blkX X s H scope (compEnvC scope cc C X.env) fp) tg g)
    (he : ∀ (s : Shared) (H : Hp) (C : Addr) (cc : List (Str × Addr)) (fp : List Addr), Takes (blkX X s H scope (compEnvC scope cc C X.env) fp) (fun cls d _ H' => W cls d σ H') → PE (blkX X s H scope (compEnvC scope cc C X.env) fp) elt (te σ)) (hs : ∀ x, foldedSetIterable iter X.env x = pure x)
    (h : tLx wi g te (own.map (·.2)) σ H Q)
    (hend : ∀ L ce s' m H', Inv X pins σ H' s' → Q (.ref L) H' → s'.heap.Ns ce.locals m → FpOk X pins H' ce.locals → compEnds (model X.prog X.w) X.A X.xe use Qf (.ref L) ce (.ok .next) s') :
    wpAny (model X.prog X.w) X.A (comprehension (.ListComp elt [⟨tg, iter, [], 0⟩] scope pos) scope X.env pos' (newList []) false (eval iter X.env) use) Qf X.xe s := by
  have frees : ∀ y ∈ scope.names, y.2 = .free → ∃ c, X.env.cells.lookup y.1 = some c := fun y hy z => (ok.free y hy z).elim (fun k => I.ok.has _ (.inl k)) fun k => I.ok.has _ (.inr k)
  refine comprehension_at (use := use) rfl hs (closure_ok frees) ok.kind (fun y hy z => by rw [ok.uniq y hy, z]) (thn (hi.run pins s σ H _ I h) fun xv s1 hx => thn hx fun itv s2 h2 => ?_)
  obtain ⟨it, fp, tn, J, H2, e, I2, T, st2, f2, q⟩ := h2
  subst e
  refine wpAny_newObj_type (newEnv_comp ?_) (by show 0 ≤ sizeLine; decide)
  generalize hL : s2.heap.objs.size = L
  have hLn : H2 L = none := I2.hok.fresh (Nat.le_of_eq hL)
  obtain ⟨V, ⟨m0, w0⟩, turn⟩ := q L hLn
  generalize hs3 : ({ s2 with heap := s2.heap.push { cls := Value.type "list", data := Data.seq ([] : List Value).toArray } } : Shared) = s3
  have I3 : Inv X pins σ (upd H2 L (.lst [])) s3 := by
    rw [← hs3]
    refine I2.laid (t' := s2.toks) (fun b o z => Heap.get?_push_of_some _ z) (Nat.le_of_eq hL) ⟨Nat.zero_le _, [], 0, .nil, ?_⟩
    rw [← hL]
    exact Heap.get?_push_size _ rfl
  have h3 : s3.heap = s2.heap.push { cls := .type "list", data := .seq ([] : List Value).toArray } := by rw [← hs3]
  have below : ∀ b ∈ fp, b < s2.heap.objs.size := fun b hb => by
    obtain ⟨o, z, _⟩ := T.obj _ _ st2 b hb
    exact Heap.lt_size z
  have f3 : ∀ b ∈ fp, FpOk X pins (upd H2 L (.lst [])) b ∧ b < s3.heap.objs.size := fun b hb => by
    have lt := below b hb
    refine ⟨⟨?_, (f2 b hb).2⟩, by rw [h3, Heap.size_push]; exact Nat.lt_succ_of_lt lt⟩
    rw [upd_ne (by rw [← hL]; exact Nat.ne_of_lt lt)]
    exact (f2 b hb).1
  have st3 : tn 0 s3.heap := T.keep _ _ _ st2 fun b _ o z => by rw [h3]; exact Heap.get?_push_of_some _ z
  have I4 := block_start I3 ok hN f3
  have pg := hg s3 (upd H2 L (.lst [])) s3.heap.objs.size (cellsFrom (s3.heap.objs.size + 1) scope.names (cloFrom X.env.cells scope.names [])) fp
  have pe0 := he s3 (upd H2 L (.lst [])) s3.heap.objs.size (cellsFrom (s3.heap.objs.size + 1) scope.names (cloFrom X.env.cells scope.names [])) fp
  have tkb := takes_blk tk hstk hfr I3 (scope := scope) (ce := compEnvC scope (cellsFrom (s3.heap.objs.size + 1) scope.names (cloFrom X.env.cells scope.names [])) s3.heap.objs.size X.env) (fp := fp) (C := s3.heap.objs.size) rfl (Nat.le_refl _) rfl fun b hb => (f3 b hb).1
  have pe := pe0 tkb
  clear pe0 tkb
  show codeAny _ _ (.compStart (.ListComp elt [⟨tg, iter, [], 0⟩] scope pos) 0 (.ref it) (.ref L) (compEnvC scope (cellsFrom (s3.heap.objs.size + 1) scope.names (cloFrom X.env.cells scope.names [])) s3.heap.objs.size X.env)) (compEnds (model X.prog X.w) X.A X.xe use Qf (.ref L) (compEnvC scope (cellsFrom (s3.heap.objs.size + 1) scope.names (cloFrom X.env.cells scope.names [])) s3.heap.objs.size X.env)) { s3 with heap := pushCells (s3.heap.push { cls := .type "dict", data := .dict #[] }) scope.names }
  have nfp : ∀ b ∈ fp, (upd H2 L (.lst [])) b = none := fun b hb => (f3 b hb).1.1
  generalize hce : compEnvC scope (cellsFrom (s3.heap.objs.size + 1) scope.names (cloFrom X.env.cells scope.names [])) s3.heap.objs.size X.env = ce at I4 pg pe ⊢
  have cL : ce.locals = s3.heap.objs.size := by subst hce; rfl
  generalize hH3 : upd H2 L (.lst []) = H3 at I3 I4 pg pe w0 nfp f3
  generalize hs4 : ({ s3 with heap := pushCells (s3.heap.push { cls := .type "dict", data := .dict #[] }) scope.names } : Shared) = s4 at I4 ⊢
  have I4' := invX (Xb X ce) I4
  have st4 : tn 0 s4.heap := T.keep _ _ _ st3 fun b _ o z => by rw [← hs4]; exact pushCells_keeps _ _ _ _ (Heap.get?_push_of_some _ z)
  have own_ : ∀ {σ' : Sg} {H' : Hp} {s' : Shared}, Inv (blkX X s3 H3 scope ce fp) [] σ' H' s' → (∀ b ∈ fp, H' b = none) → ∀ b ∈ fp, FpOk (blkX X s3 H3 scope ce fp) [] H' b := fun {σ' H' s'} I' hn b hb =>
    ⟨hn b hb, (I'.ok.exf b hb).1, I'.ok.exfs b hb, .inl hb, fun x c z => (I'.ok.exf b hb).2 x c z, fun p hp => absurd (show p ∈ ([] : List (Addr × Obj)) ++ [] from hp) (by simp)⟩
  have loop : codeAny (model X.prog X.w) X.A (.compLoop (.ListComp elt [⟨tg, iter, [], 0⟩] scope pos) 0 (.ref it) (.ref L) ce) (compEnds (model X.prog X.w) X.A X.xe use Qf (.ref L) ce) s4 := by
    refine compLoop_any (fun n s' => ∃ i H', Inv (blkX X s3 H3 scope ce fp) [] (L2.wipe σ (own.map (·.2))) H' s' ∧ tn i s'.heap ∧ (∀ b ∈ fp, H' b = none) ∧ V i n H') ?_ m0 ⟨0, H3, I4', st4, nfp, w0⟩
    have xe_ : (blkX X s3 H3 scope ce fp).xe = notedBy (model X.prog X.w) X.A ce fun e s' => compEnds (model X.prog X.w) X.A X.xe use Qf (.ref L) ce (.error e) s' := by cases use <;> rfl
    rw [← xe_]
    rintro n s5 ⟨i, H5, I5, st5, n5, w5⟩
    rcases turn i n H5 w5 with ⟨stop, qq⟩ | ⟨go, Nx, hNx, step⟩
    · have td := T.done (blkX X s3 H3 scope ce fp) rfl rfl rfl hc i [] s5 _ H5 (fun _ _ => False) I5 (own_ I5 n5) st5 stop
      refine thnF td fun r s6 ⟨hr, I6⟩ => ?_
      subst hr
      have I7 : Inv X pins σ H5 s6 := I3.call' (ch := fp) I6.os I6.base I6.hok I6.bare fun b hb => ⟨(f3 b hb).1.2.2.2.1, (f3 b hb).1.2.1, (f3 b hb).1.2.2.2.2.1, (f3 b hb).1.2.2.2.2.2⟩
      have nC : H5 ce.locals = none := I6.free
      obtain ⟨m, hn, _⟩ := I6.loc
      have hn : s6.heap.Ns ce.locals m := hn
      exact hend L ce s6 m H5 I7 qq hn (I3.fpOk (by rw [cL]; exact Nat.le_refl _) nC)
    · have ti := T.item (blkX X s3 H3 scope ce fp) rfl rfl rfl hc i [] s5 _ H5 (fun _ _ => False) I5 (own_ I5 n5) st5 go
      refine thnF ti fun r s6 ⟨u, hr, h6⟩ => ?_
      subst hr
      refine thnF h6 fun _ s7 ⟨x, H7, I7, r7, y7, st7, n7⟩ => ?_
      have I7' := I7.pinned (own_ I7 n7) (T.obj _ _ st7)
      refine thn (pg.run _ s7 _ H7 x u _ I7' r7 (step x H7 y7)) fun _ s8 ⟨σ8, H8, I8, hw8, q8⟩ => ?_
      refine wpAny_tests_nil ?_
      rw [if_pos rfl]
      refine thn (pe.run _ s8 σ8 H8 _ I8 q8) fun z s10 ⟨yv, H10, I10, r10, acc, hD10, hz10, nx⟩ => ?_
      refine app_ok (X := blkX X s3 H3 scope ce fp) I10 hD10 hz10 r10 fun s11 I' => ?_
      obtain ⟨m', hm, w'⟩ := hNx _ nx
      have pin' : ∀ b ∈ fp, ∀ o, s7.heap.get? b = some o → s11.heap.get? b = some o ∧ (upd H10 L (.lst (acc ++ [yv]))) b = none := fun b hb o z =>
        have v := I'.pin (b, o) (List.mem_append_right _ (List.mem_append_right _ (mem_pinsAt hb z)))
        ⟨v.1, v.2.1⟩
      have hl : (L2.wipe σ (own.map (·.2))).length = σ8.length := by rw [← hw8, wipe_length]
      refine ⟨m', hm, i + 1, _, (I'.unpinned (pins := [])).weak hl (fun j v z => ?_), T.keep _ _ _ st7 fun b hb o z => (pin' b hb o z).1, fun b hb => ?_, w'⟩
      · rw [← hw8] at z
        exact (wipe_some z).1
      · obtain ⟨o, z, _⟩ := T.obj _ _ st7 b hb
        exact (pin' b hb o z).2
  exact codeAny_compStart_list loop (T.self X.A 0 _ _ _ st4 loop)
end
end MI
end
section
set_option Elab.async false
set_option linter.all false
set_option maxRecDepth 100000
set_option maxHeartbeats 4000000
/-! MIr: .. as a reading -/
namespace MI
open PySem PySem.Spec PyProof.Rows L2
/-- the wish, at the def's slots -/
abbrev Wat (W : WX) (σ : Sg) : WX := fun c d _ H => W c d σ H
section
variable {X : Cx} {CL : CLs} {cl : Cl} {W : WX}
theorem lcx_read {selt : SE} {t : Tg} {own : List Nat} {si : SI} (hi : ∀ i ∈ t.ix, i ∈ own) {σ : Sg} {H : Hp} {Q : VK} (h : rE X.K CL W cl (eCompX selt t own si) σ H Q) :
    tLx (rI X.K CL W cl si) (gTg X.K t) (fun σ => rE X.K CL (Wat W σ) cl selt) own σ H Q := by
  obtain ⟨mu, r, M, hm, hs, p⟩ := h
  unfold tLx
  refine ⟨mu, r, M, hm, hs, ?_⟩
  unfold eCompX at p
  refine p.bindB.mono fun x M1 mu1 H1 st1 R1 p1 J wk D nD => ?_
  obtain ⟨xs, c⟩ := x
  have S1 : Rst X.K mu1 H1 r σ := hs.stp hm st1
  have dD : D ∉ mu1 := R1.fresh nD
  refine ⟨fun i m H' => m = xs.length - i ∧ i ≤ xs.length ∧ ∃ mu' M' acc av, Rm X.K CL mu' H' M' ∧ Stp mu1 H1 mu' H' ∧ D ∉ mu' ∧ H' D = some (.lst av) ∧ Rvs X.K mu' H' acc av ∧
    Pst X.K CL W σ mu H (compLX (selt cl) t c (MI.wipe r own) (xs.drop i) acc M') fun x _ mu' H' => ∀ v, Rr X.K CL mu' H' H x v → Q v H', ⟨xs.length, by simp, Nat.zero_le _, mu1, M1, [], [], R1.laid nD, Stp.laid R1 nD, dD, upd_same, rfl, p1⟩, ?_⟩
  rintro i m H' ⟨rfl, hle, mu', M', acc, av, R', st, nm, hD, ha, p'⟩
  by_cases hlt : i < xs.length
  · rw [List.drop_eq_getElem_cons hlt] at p'
    unfold compLX at p'
    split at p'
    · rename_i ck
      split at p'
      · rename_i r1 ea
        obtain ⟨g1, g2⟩ := wk.go i xs[i] mu' H' M' (List.getElem?_eq_getElem hlt) st R' ck
        refine .inr ⟨g1, fun H2 => ∃ m', m' < xs.length - i ∧ (m' = xs.length - (i + 1) ∧ i + 1 ≤ xs.length ∧ ∃ mu' M' acc av, Rm X.K CL mu' H2 M' ∧ Stp mu1 H1 mu' H2 ∧ D ∉ mu' ∧ H2 D = some (.lst av) ∧ Rvs X.K mu' H2 acc av ∧
          Pst X.K CL W σ mu H (compLX (selt cl) t c (MI.wipe r own) (xs.drop (i + 1)) acc M') fun x _ mu' H' => ∀ v, Rr X.K CL mu' H' H x v → Q v H'), fun _ z => z, fun y H2 hy => ?_⟩
        obtain ⟨s2, R2, hv⟩ := g2 y H2 hy
        have hD2 : H2 D = some (.lst av) := s2.keep _ _ hD nm
        have ha2 := ha.stp R' s2
        have S2 : Rst X.K mu' H2 (MI.wipe r own) (L2.wipe σ own) := (((S1.stp R1 st).stp R' s2)).wipe own
        refine gTg_wp t hi ea hv S2 fun σ2 S3 hw => ⟨hw.trans (wipe_wipe σ own), ?_⟩
        have st3 : Stp mu1 H1 mu' H2 := st.trans s2 R'
        refine ⟨mu', r1, M', R2, S3, ?_⟩
        cases ee : selt cl r1 M' with
        | err c M4 =>
          rw [ee] at p'
          exact fun mu4 H4 C hC s4 R4 => p' mu4 H4 C hC (st1.trans (st3.trans s4 R2) R1) R4
        | bad => rw [ee] at p'; exact p'.elim
        | ok y M4 =>
          rw [ee] at p'
          simp only [Res.bind] at p'
          intro mu4 H4 s4 R4 w hw
          have hD4 : H4 D = some (.lst av) := s4.keep _ _ hD2 nm
          obtain ⟨tt, R5, s5, hb⟩ := R4.box hw s4
          have nm5 : D ∉ mu4 ++ tt := s5.out hD2 nm
          have ha5 : Rvs X.K (mu4 ++ tt) H4 acc av := ha2.stp R2 s5
          split at p'
          · rename_i hl
            refine ⟨av, hD4, by rw [← ha5.length]; exact hl, xs.length - (i + 1), by omega, rfl, hlt, mu4 ++ tt, _, acc ++ [(MI.box y M4).1], av ++ [w], R5.updL hD4 nm5, (st3.trans s5 R2).updL nD, nm5, upd_same, (ha5.append (Rvs.one hb)).updL hD4, p'⟩
          · exact p'.elim
      · exact p'.elim
    · exact p'.elim
  · have e : i = xs.length := by omega
    subst e
    rw [List.drop_length] at p'
    unfold compLX at p'
    split at p'
    · rename_i ck
      refine .inl ⟨wk.stop mu' H' M' st R' ck, ?_⟩
      exact p' mu' H' (st1.trans st R1) R' (.ref D) ⟨D, rfl, ⟨av, hD, ha⟩, nm, st1.free R1 nD⟩
    · exact p'.elim
variable {elt tg iter : Expr} {scope : Scope} {own : List (Str × Nat)} {pos spos : Pos} {selt : SE} {t : Tg} {si : SI}
theorem snd_compX (hc : X.calm = true) (hN : X.N.Nodup) (hstk : X.stack = X.env :: X.outer) (hfr : X.env.frame = some X.env.locals) (hi : SndI X CL cl tg iter si) (ok : BlkOk X.N X.env.scope scope own) (hix : ∀ i ∈ t.ix, i ∈ own.map (·.2))
    (hg : ∀ s H C cc fp, SndTg (blkX X s H scope (compEnvC scope cc C X.env) fp) tg t) (he : ∀ s H C cc fp, SndE (blkX X s H scope (compEnvC scope cc C X.env) fp) CL cl elt selt)
    (hs : ∀ x, foldedSetIterable iter X.env x = pure x) : SndE X CL cl (.ListComp elt [⟨tg, iter, [], 0⟩] scope pos) (eCompX selt t (own.map (·.2)) si) := fun W tk => ⟨fun pins s σ H Q I h => by
  rw [eval_ListComp]
  refine lcx_core (g := gTg X.K t) (te := fun σ => rE X.K CL (Wat W σ) cl selt) hc hN tk hstk hfr I (hi W tk) ok (fun s H C cc fp => hg s H C cc fp) (fun s H C cc fp tb => he s H C cc fp (Wat W σ) tb) hs (lcx_read hix h) fun L ce s' m H' I' q hn f => ⟨m, hn, fun h2 sb => ?_⟩
  obtain ⟨f0, f1, f2, f3, f4, f5⟩ := f
  exact ⟨.ref L, H', I'.turned (t' := s'.toks) (fun b o hb z => (sb.2 b hb).trans z) f0 f1 f3 f4 f5, rfl, q⟩⟩
theorem stm_setCompX {i : Nat} {y : Str} {py : Pos} (hc : X.calm = true) (hN : X.N.Nodup) (hstk : X.stack = X.env :: X.outer) (hfr : X.env.frame = some X.env.locals) (hy : X.N[i]? = some y) (hyl : X.env.scope.names.lookup y = some .local) (hsw : swapsWith (.ListComp elt [⟨tg, iter, [], 0⟩] scope pos) (some (.Name y py)) spos.line X.env = pure true)
    (hi : SndI X CL cl tg iter si) (ok : BlkOk X.N X.env.scope scope own) (hix : ∀ i ∈ t.ix, i ∈ own.map (·.2))
    (hg : ∀ s H C cc fp, SndTg (blkX X s H scope (compEnvC scope cc C X.env) fp) tg t) (he : ∀ s H C cc fp, SndE (blkX X s H scope (compEnvC scope cc C X.env) fp) CL cl elt selt)
    (hs : ∀ x, foldedSetIterable iter X.env x = pure x) : SndS X CL cl (.Assign [.Name y py] (.ListComp elt [⟨tg, iter, [], 0⟩] scope pos) spos) (sSet i (eCompX selt t (own.map (·.2)) si)) := fun W tk po => ⟨fun pins s σ H D I h => by
  have h2 : tLx (rI X.K CL W cl si) (gTg X.K t) (fun σ => rE X.K CL (Wat W σ) cl selt) (own.map (·.2)) σ H (fun x H1 => gName i x σ H1 D.nx) := by
    obtain ⟨mu, r, M, hm, hs, p⟩ := h
    refine lcx_read hix (rE_stm hm hs Stp.refl p fun x v M1 mu1 H1 n1 h1 p1 => ?_)
    obtain ⟨tt, R2, s2, hv⟩ := n1.rm.box h1 n1.st
    exact p1.here s2 R2 ((n1.rs.ext tt).set hv)
  rw [exec_Assign_Name_used _ _ _ _ hsw]
  refine wpAny_bind (wpAny_standAt (wpAny_bind ?_))
  refine wpAny_bind (thn (lcx_core (Qf := fun _ s' => SP X pins D .next s') (g := gTg X.K t) (te := fun σ => rE X.K CL (Wat W σ) cl selt) hc hN tk hstk hfr I (hi W tk) ok (fun s H C cc fp => hg s H C cc fp) (fun s H C cc fp tb => he s H C cc fp (Wat W σ) tb) hs h2 fun L ce s' m H' I' q hn f => ?_) fun _ s' hq => wpAny_pure (wpAny_pure hq))
  show wpAny _ _ (assign (.Name y py) X.env (.ref L)) _ _ _
  refine wpAny_assign_Name (store_ok2 (v := V.ref L) I' hN hy (.inl hyl) rfl (fun s2 I2 ⟨a, sb, ha⟩ => ?_) (.inr hyl))
  obtain ⟨f0, f1, f2, f3, f4, f5⟩ := f
  have apart : ce.locals ≠ a := ha.elim (fun z => by rw [z]; exact f1) fun z e => f4 y a z e.symm
  exact ⟨m, hn.sameBut sb apart, fun h3 sb3 => ⟨_, H', I2.turned (t' := s2.toks) (fun b o hb z => (sb3.2 b hb).trans z) f0 f1 f3 f4 f5, q⟩⟩⟩
end
end MI
end
section
set_option Elab.async false
set_option linter.all false
set_option maxRecDepth 100000
set_option maxHeartbeats 4000000
/-! MIs: f-strings -/
namespace MI
open PySem PySem.Spec PyProof.Rows L2
section
variable {X : Cx} {CL : CLs} {cl : Cl} {W : WX}
/-- a part: written, or a value -/
inductive FsPart (X : Cx) (CL : CLs) (cl : Cl) : Expr → SE → Prop
  | con {e : Expr} {s : Str} (h : PE X e (tC (.str s))) : FsPart X CL cl e (eC (.str s))
  | fmt {e : Expr} {s : SE} {pos : Pos} (h : SndE X CL cl e s) : FsPart X CL cl (.FormattedValue e (-1) none pos) s
inductive FsParts (X : Cx) (CL : CLs) (cl : Cl) : List Expr → List SE → Prop
  | nil : FsParts X CL cl [] []
  | cons {e : Expr} {s : SE} {es : List Expr} {ss : List SE} (h : FsPart X CL cl e s) (r : FsParts X CL cl es ss) : FsParts X CL cl (e :: es) (s :: ss)
theorem lim_size : lim = sizeLine := by rw [sizeLine_eq]; rfl
/-- what the parts mean -/
theorem fs_read (tk : Takes X W) {es : List Expr} {ss : List SE} (h : FsParts X CL cl es ss) : ∃ ts, PJ X es ts ∧ ∀ (σ : Sg) (mu : List Addr) (r : Env) (M : Mem) (H : Hp) (acc : Str) (mu0 : List Addr) (H0 : Hp) (Q : VK), Rm X.K CL mu H M → Rst X.K mu H r σ → Stp mu0 H0 mu H → acc.length ≤ lim →
    Pst X.K CL W σ mu0 H0 (fsGo cl r ss acc M) (fun x _ mu' H' => ∀ v, Rr X.K CL mu' H' H0 x v → Q v H') → tJs ts acc σ H (fun out H1 => Q (.str out) H1) := by
  induction h with
  | nil =>
    refine ⟨[], .nil, fun σ mu r M H acc mu0 H0 Q hm hs st hl p => ?_⟩
    unfold fsGo at p
    exact p mu H st hm (.str acc) rfl
  | @cons e s es ss h r ih =>
    obtain ⟨ts, pj, ih⟩ := ih
    cases h with
    | con h =>
      rename_i y
      refine ⟨tC (.str y) :: ts, .cons h pj, fun σ mu r M H acc mu0 H0 Q hm hs st hl p => ?_⟩
      unfold fsGo eC fmtR at p
      simp only [Res.bind] at p
      split at p
      · rename_i z e
        split at e
        · cases e
          split at p
          · rename_i hl2
            refine ⟨_, rfl, ?_, ih σ mu r M H _ mu0 H0 Q hm hs st ?_ p⟩
            · rw [← lim_size, Str.length_append]; exact hl2
            · rw [Str.length_append]; exact hl2
          · exact p.elim
        · cases e
      · exact p.elim
    | fmt h =>
      rename_i pos
      refine ⟨tFmt (rE X.K CL W cl s) :: ts, .cons (pe_fmt (h W tk)) pj, fun σ mu r M H acc mu0 H0 Q hm hs st hl p => ?_⟩
      unfold fsGo at p
      show rE X.K CL W cl s σ H _
      refine rE_thenB hm hs st p fun x v M1 mu1 H1 n1 h1 p1 => ?_
      have st1 : Stp mu0 H0 mu1 H1 := st.trans n1.st hm
      split at p1
      · rename_i y e
        split at p1
        · rename_i hl2
          have hz : (acc ++ y).length ≤ lim := by rw [Str.length_append]; exact hl2
          have fin : ∃ y' : Str, V.str y = V.str y' ∧ (acc ++ y').length ≤ sizeLine ∧ tJs ts (acc ++ y') σ H1 fun out H1 => Q (.str out) H1 := ⟨y, rfl, by rw [← lim_size]; exact hz, ih σ mu1 r M1 H1 _ mu0 H0 Q n1.rm n1.rs st1 hz p1⟩
          unfold fmtR at e
          split at e
          · rename_i z
            split at e
            · rename_i hz2
              cases e
              have hv : v = .str y := h1
              exact .inl ⟨y, hv, by rw [← lim_size]; exact hz2, fin⟩
            · cases e
          · rename_i i
            split at e
            · rename_i hi
              cases e
              have hv : v = .int i := h1
              exact .inr ⟨i, hv, hi, fin⟩
            · cases e
          · cases e
        · exact p1.elim
      · exact p1.elim
theorem snd_fs {v1 v2 : Expr} {rest : List Expr} {ss : List SE} {pos : Pos} (h : FsParts X CL cl (v1 :: v2 :: rest) ss) : SndE X CL cl (.JoinedStr (v1 :: v2 :: rest) pos) (eFs ss) := fun W tk => by
  obtain ⟨ts, pj, rd⟩ := fs_read tk h
  refine pe_imp (pe_joined pj) fun σ H Q ⟨mu, r, M, hm, hs, p⟩ => ?_
  exact rd σ mu r M H Str.empty mu H Q hm hs Stp.refl (Nat.zero_le _) p
end
end MI
end
section
set_option Elab.async false
set_option linter.all false
set_option maxRecDepth 100000
set_option maxHeartbeats 4000000
/-! MI15: the text, read into the small semantics -/
namespace MI
open PySem PySem.Spec PyProof.Rows L2
/-- what is known of a def's names -/
structure Ct where
  N : List Str
  sc : Scope
  fns : List (Str × Nat)
  bl : List Str
  kon : List (Str × D)
  calm : Bool
  /-- names that may hold a dict that is walked -/
  dn : List Str
  /-- classes, with how many arguments __init__ takes -/
  cls : List (Str × Nat) := []
  /-- names of fields, of methods -/
  flds : List Str := []
  mts : List Str := []
  /-- items of its comprehensions may raise -/
  cx : Bool := false
  deriving Inhabited
def Ct.lk (c : Ct) (x : Str) : Option NameKind := c.sc.names.lookup x
def Ct.vis (c : Ct) (x : Str) : Bool := match c.lk x with
  | some .local => true
  | some .cell => true
  | some .free => true
  | _ => false
def Ct.gl (c : Ct) (x : Str) : Bool := match c.lk x with
  | some .globalImplicit => true
  | _ => false
def Ct.loc (c : Ct) (x : Str) : Bool := match c.lk x with
  | some .local => true
  | _ => false
def Ct.cel (c : Ct) (x : Str) : Bool := match c.lk x with
  | some .cell => true
  | _ => false
def idx (x : Str) : List Str → Option Nat
  | [] => none
  | y :: r => if y = x then some 0 else match idx x r with
    | some i => some (i + 1)
    | none => none
theorem idx_ok {x : Str} : ∀ {l : List Str} {i : Nat}, idx x l = some i → l[i]? = some x
  | [], i, h => by simp [idx] at h
  | y :: r, i, h => by
    unfold idx at h
    split at h
    · rename_i e; cases h; subst e; rfl
    · split at h
      · rename_i j e; cases h; simpa using idx_ok e
      · cases h
/-- a name that stands for itself -/
def nmOk (x : Str) : Bool := !(x == ("__debug__" : Str)) && (!(x == ("__classdict__" : Str)) && !decide (x = "__name__"))
theorem nmOk_d {x : Str} (h : nmOk x = true) : (x == ("__debug__" : Str)) = false := by
  unfold nmOk at h; simp only [Bool.and_eq_true, Bool.not_eq_true'] at h; exact h.1
theorem nmOk_c {x : Str} (h : nmOk x = true) : (x == ("__classdict__" : Str)) = false := by
  unfold nmOk at h; simp only [Bool.and_eq_true, Bool.not_eq_true'] at h; exact h.2.1
theorem nmOk_n {x : Str} (h : nmOk x = true) : x ≠ "__name__" := by
  unfold nmOk at h; simp only [Bool.and_eq_true, Bool.not_eq_true', decide_eq_false_iff_not] at h; exact h.2.2
def Ct.bi (c : Ct) (x : Str) : Bool := c.gl x && (decide (x ∈ c.bl) && nmOk x)
/-- what stands around -/
structure Good (X : Cx) (CL : CLs) (cl : Cl) (k : Nat) (c : Ct) : Prop where
  N : X.N = c.N
  nd : c.N.Nodup
  vis : ∀ x, c.vis x = true → Vis X.env.scope x
  gl : ∀ x, c.gl x = true → Gl X x
  loc : ∀ x, c.loc x = true → X.env.scope.names.lookup x = some .local
  cel : ∀ x, c.cel x = true → X.env.scope.names.lookup x = some .cell ∧ X.fn x = true
  cf : ∀ x, (c.lk x = some .cell ∨ c.lk x = some .free) → X.env.scope.names.lookup x = some .cell ∨ X.env.scope.names.lookup x = some .free
  knd : X.env.scope.kind = .function
  bl : ∀ x, x ∈ c.bl → X.mg x = none
  kon : ∀ x d, c.kon.lookup x = some d → ∃ u v, X.mg x = some u ∧ RelV v u ∧ ∀ mu H, Rv X.K mu H d v
  fns : ∀ x ar, c.fns.lookup x = some ar → FnG X CL cl k x ar
  un5 : X.A.units + 65 < cLine
  w : CL.w = X.w
  calm : c.calm = true → X.calm = true ∧ Room (k + 1) X.A
  new : ∀ x ar, c.cls.lookup x = some ar → MkG X CL cl k x ar
  fld : ∀ f, f ∈ c.flds → ClF X CL f
  mth : ∀ m, m ∈ c.mts → MthF X CL cl k m
  cx : c.cx = true → X.stack = X.env :: X.outer ∧ X.env.frame = some X.env.locals

theorem Good.un {X : Cx} {CL : CLs} {cl : Cl} {k : Nat} {c : Ct} (G : Good X CL cl k c) : X.A.units + 64 < cLine := by have := G.un5; omega
/-! ### shapes of the text -/
def notStar : Expr → Bool
  | .Starred _ _ => false
  | _ => true
def notComp : Expr → Bool
  | .ListComp _ _ _ _ => false
  | .SetComp _ _ _ _ => false
  | .DictComp _ _ _ _ _ => false
  | _ => true
def notSlice : Expr → Bool
  | .Slice _ _ _ _ => false
  | _ => true
def notSet : Expr → Bool
  | .Set _ _ _ => false
  | _ => true
/-- a test that is asked for its truth -/
def plainT : Expr → Bool
  | .UnaryOp .Not _ _ => false
  | .BoolOp _ _ _ => false
  | .IfExp _ _ _ _ => false
  | .Compare _ _ _ _ => false
  | _ => true
def notCall : Expr → Bool
  | .Call _ _ _ _ => false
  | _ => true
theorem star1 {a : Expr} {es : List Expr} {env : PySem.Env} (h : notStar a = true) : starEach (a :: es) env = (false, eval a env) :: starEach es env := by
  cases a <;> first | rfl | cases h
theorem starAll {env : PySem.Env} {pos : Pos} : ∀ {es : List Expr}, es.all notStar = true → (backTo pos (starEach es env)).any (·.1) = false
  | [], _ => rfl
  | a :: es, h => by
    rw [List.all_cons, Bool.and_eq_true] at h
    rw [star1 h.1]
    have := starAll (env := env) (pos := pos) h.2
    simp only [backTo, List.map_cons, List.any_cons, Bool.false_or] at this ⊢
    exact this
theorem swaps0 {a : Expr} {t : Option Expr} {l : Nat} {env : PySem.Env} (h : notComp a = true) : swapsWith a t l env = pure false := by
  cases a <;> first | rfl | cases h
theorem plainIx_b {b : Expr} (h : notSlice b = true) : PlainIx b := plainIx_of fun l u q p e => by subst e; cases h
theorem mark0 {op : CmpOp} {b : Expr} (h : notSet b = true) : behindInMarks op b = false := by
  cases b <;> first | rfl | cases h
theorem fold0 {b : Expr} {env : PySem.Env} (h : notSet b = true) : ∀ x, foldedSetIterable b env x = pure x := fun x => by
  cases b <;> first | rfl | cases h
theorem plainT_ok {a : Expr} {env : PySem.Env} (h : plainT a = true) : ∀ whole, isTrue a env whole = (do let v ← whole; standAt a.pos; holding [v] (truthy v)) := fun whole => by
  cases a with
  | UnaryOp op x p => cases op <;> first | (simp only [isTrue]; done) | rfl | cases h
  | _ => first | rfl | (simp only [isTrue]; done) | cases h
theorem attr0 {o : Expr} {m : Str} {env : PySem.Env} (h : notCall o = true) : attributeBase o m env (eval o env) = eval o env := by
  cases o <;> first | rfl | cases h

/-! ### operators -/
def opB : Operator → Option Op2
  | .Add => some oAdd
  | .Sub => some oSub
  | .Mult => some oMul
  | .FloorDiv => some oDiv
  | .Mod => some oMod
  | .Pow => some oPow
  | _ => none
def opC : CmpOp → Option Op2
  | .Eq => some oEq
  | .NotEq => some oNe
  | .Lt => some oLt
  | .LtE => some oLe
  | .Gt => some oGt
  | .GtE => some oGe
  | .Is => some oIs
  | .IsNot => some oIsNot
  | .In => some oIn
  | .NotIn => some oNotIn
theorem opB_ok {X : Cx} {CL : CLs} {op : Operator} {o : Op2} (h : opB op = some o) : ∃ rr, OpR X (binaryOp op) rr ∧ Ok2 X.K CL rr o := by
  cases op <;> simp only [opB] at h <;> cases h
  · exact ⟨_, op_addAll, ok2_add⟩
  · exact ⟨_, op_sub, ok2_sub⟩
  · exact ⟨_, (op_mul.or op_mulStr).or (op_rep1T.or op_repT), ok2_mulAll⟩
  · exact ⟨_, op_mod, ok2_mod⟩
  · exact ⟨_, op_pow, ok2_pow⟩
  · exact ⟨_, op_fdivW, ok2_div⟩
theorem opC_ok {X : Cx} {CL : CLs} {op : CmpOp} {o : Op2} (hu5 : X.A.units + 65 < cLine) (hw : CL.w = X.w) (h : opC op = some o) : ∃ rr, OpR X (compareOp op) rr ∧ Ok2 X.K CL rr o := by
  have hu : X.A.units + 64 < cLine := by omega
  have h1 : X.A.units + 1 < cLine := by omega
  cases op <;> simp only [opC] at h <;> cases h
  · exact ⟨_, (op_eqD hu).or (op_ceq false (by omega) hw), ok2_eqA⟩
  · exact ⟨_, (op_neD hu).or (op_ceq true (by omega) hw), ok2_neA⟩
  · exact ⟨_, op_lt.or (op_ltT (by omega)), ok2_lt⟩
  · exact ⟨_, op_le.or (op_leT (by omega)), ok2_le⟩
  · exact ⟨_, op_gt.or (op_gtT (by omega)), ok2_gt⟩
  · exact ⟨_, op_ge.or (op_geT (by omega)), ok2_ge⟩
  · exact ⟨_, op_isAll, ok2_is⟩
  · exact ⟨_, op_isNotAll, ok2_isNot⟩
  · exact ⟨_, op_inAll hu5 hw, ok2_in⟩
  · exact ⟨_, op_notInAll hu5 hw, ok2_notIn⟩
/-- built-ins of one argument -/
def bi1 (x : Str) : Option Op1 :=
  if x = "len" then some bLen else if x = "list" then some bList else if x = "tuple" then some bTuple else if x = "int" then some bInt
  else if x = "abs" then some bAbs else if x = "sorted" then some bSorted else if x = "max" then some bMax1 else if x = "min" then some bMin1
  else if x = "all" then some bAll else if x = "str" then some bStr else if x = "dict" then some bDict else none
def bi2 (x : Str) : Option Op2 := if x = "min" then some bMin2 else if x = "max" then some bMax2 else none
def tyOf (x : Str) : Option Ty :=
  if x = "tuple" then some .tuple else if x = "bool" then some .bool else if x = "int" then some .int else if x = "list" then some .list
  else if x = "str" then some .str else if x = "dict" then some .dict else none
theorem tyOf_ok {x : Str} {t : Ty} (h : tyOf x = some t) : bootBuiltins x = some (.type t.nm) := by
  unfold tyOf at h
  repeat' split at h
  all_goals first | (cases h; done) | (rename_i e; cases h; subst e; decide +kernel)
def mt1 (m : Str) : Option (Nat → D → Mem → Res RV) := if m = "append" then some mAppend else if m = "pop" then some mPopAt else if m = "index" then some mIndex else if m = "count" then some mCount else none
theorem snd_bi1 {X : Cx} {CL : CLs} {cl : Cl} {a : Expr} {sa : SE} {x : Str} {o : Op1} {p0 pos : Pos} (hc : X.calm = true) (hu : X.A.units + 64 < cLine) (hw : CL.w = X.w) (h : bi1 x = some o) (ha : SndE X CL cl a sa) (hg : Gl X x) (hm : X.mg x = none) (hn : x ≠ "__name__") (hdb : (x == ("__debug__" : Str)) = false)
    (hst : starEach [a] X.env = [(false, eval a X.env)]) : SndE X CL cl (.Call (.Name x p0) [a] [] pos) (e1 o sa) := by
  unfold bi1 at h
  split at h
  · rename_i e; cases h; subst e; exact snd_b1 call_len ok1_len ha hg hm (by decide +kernel) hn hdb hst
  split at h
  · rename_i e; cases h; subst e; exact snd_t1 (call_listAll hc) ok1_list ha hg hm (by decide +kernel) hn hdb hst
  split at h
  · rename_i e; cases h; subst e; exact snd_t1 call_tuple_of ok1_tuple ha hg hm (by decide +kernel) hn hdb hst
  split at h
  · rename_i e; cases h; subst e; exact snd_t1 call_intAll ok1_int ha hg hm (by decide +kernel) hn hdb hst
  split at h
  · rename_i e; cases h; subst e; exact snd_b1 call_abs ok1_abs ha hg hm (by decide +kernel) hn hdb hst
  split at h
  · rename_i e; cases h; subst e; exact snd_b1 (call_sortedAll hc) ok1_sorted ha hg hm (by decide +kernel) hn hdb hst
  split at h
  · rename_i e; cases h; subst e; exact snd_b1 (cr_max hc) ok1_max1 ha hg hm (by decide +kernel) hn hdb hst
  split at h
  · rename_i e; cases h; subst e; exact snd_b1 (cr_minQ hc) ok1_minQ ha hg hm (by decide +kernel) hn hdb hst
  split at h
  · rename_i e; cases h; subst e; exact snd_b1 (cr_all hc) ok1_all ha hg hm (by decide +kernel) hn hdb hst
  split at h
  · rename_i e; cases h; subst e; exact snd_t1 (rr := fun xs H Q => ∃ i, xs = [V.int i] ∧ i.natAbs.log2 < 1920 ∧ Q (.str (toString i)) H) call_str_int ok1_str ha hg hm (by decide +kernel) hn hdb hst
  split at h
  · rename_i e; cases h; subst e; exact snd_t1 (call_dictT hc hu hw) ok1_dict ha hg hm (by decide +kernel) hn hdb hst
  · cases h
theorem snd_bi2 {X : Cx} {CL : CLs} {cl : Cl} {a b : Expr} {sa sb : SE} {x : Str} {o : Op2} {p0 pos : Pos} (hc : X.calm = true) (h : bi2 x = some o) (ha : SndE X CL cl a sa) (hb : SndE X CL cl b sb) (hg : Gl X x) (hm : X.mg x = none) (hn : x ≠ "__name__") (hdb : (x == ("__debug__" : Str)) = false)
    (hst : starEach [a, b] X.env = (false, eval a X.env) :: starEach [b] X.env) (hst2 : starEach [b] X.env = [(false, eval b X.env)]) : SndE X CL cl (.Call (.Name x p0) [a, b] [] pos) (e2 o sa sb) := by
  unfold bi2 at h
  split at h
  · rename_i e; cases h; subst e; exact snd_b2 (rr := fun xs H Q => ∃ i j, xs = [V.int i, .int j] ∧ Q (.int (if j < i then j else i)) H) (call_min2 hc) ok2_min ha hb hg hm (by decide +kernel) hn hdb hst hst2
  split at h
  · rename_i e; cases h; subst e; exact snd_b2 (rr := fun xs H Q => ∃ i j, xs = [V.int i, .int j] ∧ Q (.int (if j > i then j else i)) H) (call_max2 hc) ok2_max ha hb hg hm (by decide +kernel) hn hdb hst hst2
  · cases h
theorem snd_mt1 {X : Cx} {CL : CLs} {cl : Cl} {a o : Expr} {sa so : SE} {m : Str} {mm : Nat → D → Mem → Res RV} {apos cpos : Pos} (h : mt1 m = some mm) (ho : SndE X CL cl o so) (ha : SndE X CL cl a sa)
    (hbase : attributeBase o m X.env (eval o X.env) = eval o X.env) (hline : (apos.endLine == cpos.line) = true) (hst : starEach [a] X.env = [(false, eval a X.env)]) : SndE X CL cl (.Call (.Attribute o m apos) [a] [] cpos) (eM1 mm so sa) := by
  unfold mt1 at h
  split at h
  · rename_i e; cases h; subst e
    exact snd_m1 PySem.F.slot_list_append PySem.F.type_list_append mt_append okM_append ho ha hbase hline hst
  split at h
  · rename_i e; cases h; subst e
    exact snd_m1 PySem.F.slot_list_pop PySem.F.type_list_pop mt_popAt okM_popAt ho ha hbase hline hst
  split at h
  · rename_i e; cases h; subst e
    exact snd_m1 PySem.F.slot_list_index PySem.F.type_list_index mt_index okM_index ho ha hbase hline hst
  split at h
  · rename_i e; cases h; subst e
    exact snd_m1 PySem.F.slot_list_count PySem.F.type_list_count mt_countF okM_count ho ha hbase hline hst
  · cases h
def mt0 (m : Str) : Option (Nat → Mem → Res RV) := if m = "clear" then some mClear else if m = "pop" then some mPop else none
def mt2 (m : Str) : Option (Nat → D → D → Mem → Res RV) := if m = "insert" then some mInsert else none
section
variable {X : Cx} {CL : CLs} {cl : Cl} {a b o : Expr} {sa sb so : SE} {m : Str} {apos cpos : Pos}
theorem snd_mt0 {mm : Nat → Mem → Res RV} (h : mt0 m = some mm) (ho : SndE X CL cl o so)
    (hbase : attributeBase o m X.env (eval o X.env) = eval o X.env) (hline : (apos.endLine == cpos.line) = true) : SndE X CL cl (.Call (.Attribute o m apos) [] [] cpos) (eM0 mm so) := by
  unfold mt0 at h
  split at h
  · rename_i e; cases h; subst e
    exact snd_m0 PySem.F.slot_list_clear PySem.F.type_list_clear mt_clear okM0_clear ho hbase hline
  split at h
  · rename_i e; cases h; subst e
    exact snd_m0 PySem.F.slot_list_pop PySem.F.type_list_pop mt_pop okM0_pop ho hbase hline
  · cases h
theorem snd_nt0 {mm : Nat → Mem → Res RV} (h : mt0 m = some mm) (ho : SndE X CL cl o so)
    (hbase : attributeBase o m X.env (eval o X.env) = eval o X.env) (hline : (apos.endLine == cpos.line) = true) : SndE X CL cl (.Call (.Attribute o m apos) [] [] cpos) (eN0 mm so) := by
  unfold mt0 at h
  split at h
  · rename_i e; cases h; subst e
    exact snd_n0 PySem.F.slot_list_clear PySem.F.type_list_clear mt_clear okM0_clear ho hbase hline
  split at h
  · rename_i e; cases h; subst e
    exact snd_n0 PySem.F.slot_list_pop PySem.F.type_list_pop mt_pop okM0_pop ho hbase hline
  · cases h
theorem snd_nt1 {mm : Nat → D → Mem → Res RV} (h : mt1 m = some mm) (ho : SndE X CL cl o so) (ha : SndE X CL cl a sa)
    (hbase : attributeBase o m X.env (eval o X.env) = eval o X.env) (hline : (apos.endLine == cpos.line) = true) (hst : starEach [a] X.env = [(false, eval a X.env)]) : SndE X CL cl (.Call (.Attribute o m apos) [a] [] cpos) (eN1 mm so sa) := by
  unfold mt1 at h
  split at h
  · rename_i e; cases h; subst e
    exact snd_n1 PySem.F.slot_list_append PySem.F.type_list_append mt_append okM_append ho ha hbase hline hst
  split at h
  · rename_i e; cases h; subst e
    exact snd_n1 PySem.F.slot_list_pop PySem.F.type_list_pop mt_popAt okM_popAt ho ha hbase hline hst
  split at h
  · rename_i e; cases h; subst e
    exact snd_n1 PySem.F.slot_list_index PySem.F.type_list_index mt_index okM_index ho ha hbase hline hst
  split at h
  · rename_i e; cases h; subst e
    exact snd_n1 PySem.F.slot_list_count PySem.F.type_list_count mt_countF okM_count ho ha hbase hline hst
  · cases h
def mtd2 (m : Str) : Option (Nat → D → D → Mem → Res RV) := if m = "get" then some mGet else if m = "setdefault" then some mSetd else if m = "pop" then some mDpop else none
theorem m2_of (hbase : attributeBase o m X.env (eval o X.env) = eval o X.env) (hline : (apos.endLine == cpos.line) = true) (hst : starEach [a, b] X.env = (false, eval a X.env) :: starEach [b] X.env) (hst2 : starEach [b] X.env = [(false, eval b X.env)]) : M2 X o m apos a b cpos :=
  ⟨hbase, by rw [hst, hst2]; rfl, hline, by rw [hst, hst2]; rfl⟩
theorem snd_mtd2 {mm : Nat → D → D → Mem → Res RV} (hu : X.A.units + 64 < cLine) (hw : CL.w = X.w) (h : mtd2 m = some mm) (ho : SndE X CL cl o so) (ha : SndE X CL cl a sa) (hb : SndE X CL cl b sb)
    (hbase : attributeBase o m X.env (eval o X.env) = eval o X.env) (hline : (apos.endLine == cpos.line) = true) (hst : starEach [a, b] X.env = (false, eval a X.env) :: starEach [b] X.env) (hst2 : starEach [b] X.env = [(false, eval b X.env)]) : SndE X CL cl (.Call (.Attribute o m apos) [a, b] [] cpos) (eD2 mm so sa sb) := by
  unfold mtd2 at h
  split at h
  · rename_i e; cases h; subst e
    exact snd_d2 rfl PySem.F.slot_dict_get PySem.F.type_dict_get (mt_getD hu hw) okD_get ho ha hb (m2_of hbase hline hst hst2)
  split at h
  · rename_i e; cases h; subst e
    exact snd_d2 rfl PySem.F.slot_dict_setdefault PySem.F.type_dict_setdefault (mt_setdD hu hw) okD_setd ho ha hb (m2_of hbase hline hst hst2)
  split at h
  · rename_i e; cases h; subst e
    exact snd_d2 rfl PySem.F.slot_dict_pop PySem.F.type_dict_pop (mt_popD hu hw) okD_pop ho ha hb (m2_of hbase hline hst hst2)
  · cases h
theorem snd_mt2 {mm : Nat → D → D → Mem → Res RV} (h : mt2 m = some mm) (ho : SndE X CL cl o so) (ha : SndE X CL cl a sa) (hb : SndE X CL cl b sb)
    (hbase : attributeBase o m X.env (eval o X.env) = eval o X.env) (hline : (apos.endLine == cpos.line) = true) (hst : starEach [a, b] X.env = (false, eval a X.env) :: starEach [b] X.env) (hst2 : starEach [b] X.env = [(false, eval b X.env)]) : SndE X CL cl (.Call (.Attribute o m apos) [a, b] [] cpos) (eM2 mm so sa sb) := by
  unfold mt2 at h
  split at h
  · rename_i e; cases h; subst e
    exact snd_m2 PySem.F.slot_list_insert PySem.F.type_list_insert mt_insert okM2_insert ho ha hb hbase hline hst hst2
  · cases h
end
end MI
end
section
set_option Elab.async false
set_option linter.all false
set_option maxRecDepth 100000
set_option maxHeartbeats 4000000
/-! MIm: list(d.values()), sorted(d.values()) -/
namespace MI
open PySem PySem.Spec PyProof.Rows L2
/-- a view of a dict's values -/
def viewO (d p : Addr) : HO := .ext fun h => h.IsValuesView p d
section
variable {X : Cx} {CL : CLs} {cl : Cl} {o : Expr} {so : SE} {apos cpos p0 p1 pos : Pos}
def tDV (w : World) (to : TE) : TE := fun σ H Q => to σ H fun x H1 => ∃ fz a xs, x = .ref a ∧ Lk fz H1 a (dictO w a xs) ∧ ∀ p, H1 p = none → Q (.ref p) (upd H1 p (viewO a p))
theorem pe_dvals {w : World} {to : TE} (ho : PE X o to) (hbase : attributeBase o "values" X.env (eval o X.env) = eval o X.env) (hline : (apos.endLine == cpos.line) = true) : PE X (.Call (.Attribute o "values" apos) [] [] cpos) (tDV w to) := by
  refine ⟨fun pins s σ H Q I h => ?_⟩
  refine wpAny_Call_method0_late hbase hline (thn (ho.run pins s σ H _ I h) fun v s1 ⟨x, H1, I1, r1, fz, a, xs, ex, lk, q1⟩ => ?_)
  subst ex
  cases r1
  obtain ⟨⟨ob, en, ep, h1, h2, h3, h4⟩, nd, sy, len⟩ := lk_get I1 lk
  refine ⟨"dict", "dict.values", PySem.F.plainAttrs_dict, PySem.F.slot_dict_values, PySem.F.type_dict_values, ⟨ob, h1, h2.1⟩, fun c q => by cases q; exact ⟨ob, h1, h2.2.1⟩, Calls.callWith_builtin rfl (PySem.evalArgs_none ?_)⟩
  refine call_meetsIn PySem.F.slot_dict_values ⟨ob, h1, h2.1⟩ PySem.F.entry_dict_values (PySem.F.args_dict_values_1 _) (meets_dict_values_raw a sy) ⟨⟨en, ep, ob, h1, h2, h3⟩, ?_⟩
  have hv : (s1.heap.push { cls := .type "dict_values", data := .fields #[.ref a] }).IsValuesView s1.heap.objs.size a := ⟨_, Heap.get?_push_size _ rfl, rfl, rfl⟩
  refine ⟨.ref s1.heap.objs.size, _, I1.laid (o := viewO a s1.heap.objs.size) (t' := s1.toks) (fun b u e => Heap.get?_push_of_some _ e) (Nat.le_refl _) ⟨hv, ?_, ?_⟩, rfl, q1 _ (I1.hok.fresh (Nat.le_refl _))⟩
  · obtain ⟨o', e, _⟩ := hv; exact ⟨o', e⟩
  · rintro g1 g2 ⟨o', e, r⟩ k; exact ⟨o', k o' e, r⟩
theorem items_vals {xs : List Ent} {es : Array DictEntry} {acc : Array Value} {w : World} (h : es.toList = xs.map fun x => ⟨x.1.hash w, x.2.1, x.2.2⟩) (hacc : ItemsOf (fun i v => ∃ hi : i < es.size, v = es[i].val) acc es.size) : acc.toList = xs.map (·.2.2) := by
  have hz : es.size = xs.length := by rw [← Array.length_toList, h, List.length_map]
  refine List.ext_getElem? fun i => ?_
  by_cases hi : i < xs.length
  · have h1 : i < acc.size := by rw [hacc.1, hz]; exact hi
    obtain ⟨hi2, e⟩ := hacc.2 i acc[i] (Array.getElem?_eq_getElem h1)
    rw [Array.getElem?_toList, Array.getElem?_eq_getElem h1, e, List.getElem?_map, List.getElem?_eq_getElem hi]
    have z : es[i]? = some ⟨xs[i].1.hash w, xs[i].2.1, xs[i].2.2⟩ := by rw [← Array.getElem?_toList, h, List.getElem?_map, List.getElem?_eq_getElem hi]; rfl
    rw [Array.getElem?_eq_getElem hi2] at z
    rw [Option.some.inj z]; rfl
  · have h1 : acc.toList.length ≤ i := by rw [Array.length_toList, hacc.1, hz]; omega
    have h2 : (xs.map (·.2.2)).length ≤ i := by rw [List.length_map]; omega
    rw [List.getElem?_eq_none h1, List.getElem?_eq_none h2]
def rListV (K : PySem.W.Frag) (w : World) : List V → Hp → VK → Prop := fun xs H Q => ∃ mu fz a p es ds, xs = [.ref p] ∧ H p = some (viewO a p) ∧ Lk fz H a (dictO w a es) ∧ Rdt K mu H ds es ∧ ∀ vs q, Rvs K mu H (ds.map (·.2)) vs → H q = none → Q (.ref q) (upd H q (.lst vs))
theorem call_listV {w : World} (hc : X.calm = true) : CallR X (.type "list") (rListV X.K w) := fun pins s σ H xs us Q I r ⟨mu, fz, a, p, es, ds, ex, hp, e, rd, q⟩ => by
  subst ex
  obtain ⟨u, rfl, rx⟩ := vals1 r
  cases rx
  have hv : s.heap.IsValuesView p a := (I.hok p _ hp).1
  obtain ⟨⟨o, en, ep, h1, h2, h3, h4⟩, nd, sy, len⟩ := lk_get I e
  obtain ⟨vs, z1, z2⟩ := rdt_vals rd
  have hz : en.size = es.length := by rw [← Array.length_toList, h4, List.length_map]
  refine PySem.W.kdl_call (KdlSrc.rawValues (es := en) (ep := ep)) (I.ok.hd hc) ⟨hv, o, h1, h2, h3⟩ (by omega) fun h' tk acc' c' keep hS hacc => ?_
  refine ⟨.ref s.heap.objs.size, _, I.laid (o := .lst vs) (t' := tk) keep (Nat.le_refl _) ⟨?_, acc'.toList, c', ?_, hS⟩, rfl, q vs _ z2 (I.hok.fresh (Nat.le_refl _))⟩
  · rw [z1.length, List.length_map]; exact len
  · rw [items_vals h4 hacc]; exact z1
def rSortV (K : PySem.W.Frag) (w : World) : List V → Hp → VK → Prop := fun xs H Q => ∃ mu fz a p es ds, ∃ rs : List (List Int), xs = [.ref p] ∧ H p = some (viewO a p) ∧ Lk fz H a (dictO w a es) ∧ Rdt K mu H ds es ∧ ds.map (·.2) = rs.map rowD ∧ rowsOk rs = true ∧
  ∀ (L : List AR) (p : Addr), L.map (·.2) = sortR rs → (∀ p ∈ L, SqT K H p.1 (p.2.map V.int)) → H p = none → Q (.ref p) (upd H p (.lst (L.map fun p => V.ref p.1)))
theorem call_sortV {w : World} (hc : X.calm = true) : CallR X (.builtin "sorted") (rSortV X.K w) := fun pins s σ H xs us Q I r ⟨mu, fz, a, p, es, ds, rs, ex, hp, e, rd, ek, hok, q⟩ => by
  subst ex
  obtain ⟨u, rfl, rx⟩ := vals1 r
  cases rx
  have hv : s.heap.IsValuesView p a := (I.hok p _ hp).1
  obtain ⟨⟨o, en, ep, h1, h2, h3, h4⟩, nd, sy, len⟩ := lk_get I e
  obtain ⟨vs, z1, z2⟩ := rdt_vals rd
  rw [ek] at z2
  obtain ⟨L0, e1, e2, e3⟩ := rows_v z2
  subst e1
  have hl : rs.length = es.length := by
    have := z1.length
    have h3 := congrArg List.length e3
    simp only [List.length_map] at this h3
    omega
  have hz : en.size = es.length := by rw [← Array.length_toList, h4, List.length_map]
  refine sortedR_any (ks := rs) (by rw [hl]; exact len) hok (fun R hR => ?_) q
  refine PySem.W.kdu_collect (A := X.A.in1) (KdlSrc.rawValues (es := en) (ep := ep)) (I.ok.hd hc) ⟨hv, o, h1, h2, h3⟩ (by omega) fun h' tk acc keep hacc => ?_
  rw [items_vals h4 hacc, refs_of_vals z1]
  exact hR L0 _ (I.kept keep) e2 (by rw [e3])
theorem lk_upd {fz : Bool} {H : Hp} {a p : Addr} {u v : HO} (h : Lk fz H a u) (n : H p = none) : Lk fz (upd H p v) a u := by
  have ne : ∀ x, H a = some x → a ≠ p := fun x e z => by rw [z, n] at e; cases e
  cases fz with
  | false =>
    have h' : H a = some u := h
    show upd H p v a = some u
    unfold upd
    rw [if_neg (ne _ h')]; exact h'
  | true =>
    obtain ⟨od, h'⟩ := h
    refine ⟨od, ?_⟩
    unfold upd
    rw [if_neg (ne _ h')]; exact h'
theorem snd_listVals (hc : X.calm = true) (hw : CL.w = X.w) (ho : SndE X CL cl o so) (hbase : attributeBase o "values" X.env (eval o X.env) = eval o X.env) (hline : (apos.endLine == cpos.line) = true) (hg : Gl X "list") (hm : X.mg "list" = none) :
    SndE X CL cl (.Call (.Name "list" p0) [.Call (.Attribute o "values" apos) [] [] cpos] [] pos) (e1 bListVals so) := fun W tk => by
  refine pe_imp (pe_callTy (call_listV (w := CL.w) hc) hg hm (by decide +kernel) (pa_cons (pe_dvals (w := CL.w) (ho W tk) hbase hline) pa_nil rfl) (by decide) (by decide) rfl rfl) fun σ H Q h => ?_
  obtain ⟨mu, r, M, hm, hs, p⟩ := h
  refine rE_then hm hs p fun x v M1 mu1 H1 n1 h1 p1 => ?_
  have p2 := p1.rb n1
  unfold bListVals at p2
  split at p2
  · rename_i kvs e
    obtain ⟨fz, a, xs, rfl, h2, h3⟩ := dicOf_ok n1.rm h1.w e
    refine ⟨fz, a, xs, rfl, h2, fun p nf => ⟨mu1, fz, a, p, xs, kvs, rfl, upd_same, lk_upd h2 nf, h3.stp n1.rm (Stp.laid n1.rm nf), fun vs q hv nq => ?_⟩⟩
    exact end_lst (n1.rm.laid nf) (p2.from (Stp.laid n1.rm nf) (n1.rm.laid nf) |>.mono fun _ _ _ _ _ _ z w hw => z w (hw.base (Stp.laid n1.rm nf) (n1.rm.laid nf))) hv q nq
  · exact bad_end p2
theorem snd_sortVals (hc : X.calm = true) (hw : CL.w = X.w) (ho : SndE X CL cl o so) (hbase : attributeBase o "values" X.env (eval o X.env) = eval o X.env) (hline : (apos.endLine == cpos.line) = true) (hg : Gl X "sorted") (hm : X.mg "sorted" = none) :
    SndE X CL cl (.Call (.Name "sorted" p0) [.Call (.Attribute o "values" apos) [] [] cpos] [] pos) (e1 bSortVals so) := fun W tk => by
  refine pe_imp (pe_callB (call_sortV (w := CL.w) hc) hg hm PyProof.Rows.boot_sorted (pa_cons (pe_dvals (w := CL.w) (ho W tk) hbase hline) pa_nil rfl) (by decide) (by decide) rfl rfl) fun σ H Q h => ?_
  obtain ⟨mu, r, M, hm, hs, p⟩ := h
  refine rE_then hm hs p fun x v M1 mu1 H1 n1 h1 p1 => ?_
  have p2 := p1.rb n1
  unfold bSortVals at p2
  split at p2
  · rename_i kvs e
    obtain ⟨fz, a, xs, rfl, h2, h3⟩ := dicOf_ok n1.rm h1.w e
    split at p2
    · rename_i rs e2
      split at p2
      · rename_i hok
        refine ⟨fz, a, xs, rfl, h2, fun p nf => ⟨mu1, fz, a, p, xs, kvs, rs, rfl, upd_same, lk_upd h2 nf, h3.stp n1.rm (Stp.laid n1.rm nf), asRows_eq e2, hok, fun L q eL hT nq => ?_⟩⟩
        have rb := rows_back (mu := mu1) L hT
        rw [eL] at rb
        exact end_lst (n1.rm.laid nf) (p2.from (Stp.laid n1.rm nf) (n1.rm.laid nf) |>.mono fun _ _ _ _ _ _ z w hw => z w (hw.base (Stp.laid n1.rm nf) (n1.rm.laid nf))) rb q nq
      · exact bad_end p2
    · exact bad_end p2
  · exact bad_end p2
end
/-! ### d.pop(k) -/
section
variable {X : Cx} {pins : List (Addr × Obj)} {σ : Sg} {H : Hp} {s : Shared} {mu : List Addr} {a : Addr} {xs : List Ent} {ds : List (D × D)} {A : Around} {E : Value → Shared → Prop} {k : D} {kv : V} {ku : Value} {w : World}
theorem dd_pop1 {d : D} {Q : Value → Shared → Prop} (hu : A.units + 64 < cLine) (I : Inv X pins σ H s) (hw : w = X.w) (e : H a = some (dictO w a xs)) (r : Rdt X.K mu H ds xs) (ok : okK ds k = true) (hk : Rv X.K mu H k kv) (rk : RelV kv ku) (hd : dget ds k = some d)
    (h1 : ∀ u' v' zs s', Rdt X.K mu H (ddel ds k) zs → Inv X pins σ (upd H a (dictO w a zs)) s' → RelV v' u' → Rv X.K mu H d v' → Q u' s') : wpAny (model X.prog X.w) A (call (.builtin "dict.pop") [.ref a, ku]) Q E s := by
  have d0 := lk_get (fz := false) I e
  have rp := r.del (okK_isK ok)
  have hz : (eDel xs (toNk k)).length ≤ sizeLine := Nat.le_trans (List.length_filter_le _ _) d0.len
  have pk : argsOk "dict.pop" ⟨[.ref a, ku], []⟩ := PySem.F.args_dict_pop_2 _ _
  rcases r.get (okK_isK ok) with ⟨e1, e2⟩ | ⟨d', u', v', e1, e2, e3, e4⟩
  · rw [hd] at e1; cases e1
  rw [hd] at e1
  cases e1
  rcases okK_ways ok with ⟨hs1, all⟩ | ⟨ht1, all⟩
  · subst hw
    have m0 := d0.S (P := X.prog) r all
    refine call_meetsIn PySem.F.slot_dict_pop m0.typeIs PySem.F.entry_dict_pop pk (meets_dict_pop_there (flatKind X.prog X.w) a (sk_is hs1 hk rk) [] (.inl rfl) (part_S hs1 hk rk))
      ⟨_, u', m0, by unfold xsS; rw [List.length_map]; exact d0.len, by rw [valueAt_eq]; exact e2, fun h' m hs => ?_⟩
    obtain ⟨zs, q1, q2⟩ := left_S (t' := s.toks + 1) I e d0.sy m hs (S_del xs (toNk k)) rp (ddel_all all) hz
    exact h1 u' v' zs _ q1 q2 e3 e4
  · obtain ⟨b, rfl⟩ := tk_ref ht1 hk
    cases rk
    subst hw
    have m0 := d0.T I rfl r all
    have hsz : (xsT xs).length ≤ sizeLine := by unfold xsT; rw [List.length_map]; exact d0.len
    have z := atKey_eq xs (toNk k)
    rw [e2] at z
    obtain ⟨p, z1, z2⟩ := Option.map_eq_some_iff.mp z
    refine call_pop_heap (hsz := hsz) (.inl rfl) pk (room1 hu) (key_is I ht1 hk) d0.sy m0 z1 fun h' m hs => ?_
    obtain ⟨zs, q1, q2⟩ := left_T (t' := s.toks + (nestedKind X.prog X.w).draws (toNk k)) I e d0.sy m hs (bk_del (refs_of r all) _) rp hz
    rw [z2]
    exact h1 u' v' zs _ q1 q2 e3 e4
end
section
variable {X : Cx} {CL : CLs} {cl : Cl} {a o : Expr} {sa so : SE} {apos cpos : Pos}
def rPop1D (K : PySem.W.Frag) (w : World) : V → V → Hp → VK → Prop := fun x y H Q => ∃ mu a xs ds k d, x = .ref a ∧ H a = some (dictO w a xs) ∧ Rdt K mu H ds xs ∧ okK ds k = true ∧ Rv K mu H k y ∧ dget ds k = some d ∧
  ∀ v zs, Rv K mu H d v → Rdt K mu H (ddel ds k) zs → Q v (upd H a (dictO w a zs))
def tD1 (K : PySem.W.Frag) (w : World) (to ta : TE) : TE := fun σ H Q => to σ H fun x H1 => IsDi w H1 x ∧ ta σ H1 fun y H2 => rPop1D K w x y H2 Q
theorem pe_dpop1' {w : World} {to ta : TE} (hu : X.A.units + 64 < cLine) (hw : w = X.w) (ho : PE X o to) (ha : PE X a ta) (m : M1 X o "pop" apos a cpos) : PE X (.Call (.Attribute o "pop" apos) [a] [] cpos) (tD1 X.K w to ta) := by
  refine ⟨fun pins s σ H Q I h => ?_⟩
  refine wpAny_Call_method m.base m.few m.line PySem.F.plainAttrs_dict PySem.F.slot_dict_pop PySem.F.type_dict_pop (thn (ho.run pins s σ H _ I h) fun u s1 ⟨x, H1, I1, rx, ⟨fz, p, xs, ex, lk⟩, q1⟩ => ?_)
  subst ex
  cases rx
  obtain ⟨⟨ob, en, ep, h1, h2, _⟩, _⟩ := lk_get I1 lk
  refine ⟨⟨ob, h1, h2.1⟩, fun c q => by cases q; exact ⟨ob, h1, h2.2.1⟩, ?_⟩
  rw [m.trees]
  refine Calls.callWith_builtin rfl (Calls.evalArgs_plain (Calls.spliced_cons (thn (ha.run pins s1 σ H1 _ I1 q1) fun iv s2 ⟨y, H2, I2, ry, mu, a', xs', ds, k, d, ea, e, r, ok, hk, hd, q2⟩ => Calls.spliced_nil ?_)))
  cases ea
  exact dd_pop1 hu I2 hw e r ok hk ry hd fun u' v' zs s' rp I' ru rv => ⟨v', _, I', ru, q2 v' zs rv rp⟩
theorem m1_of {m : Str} (hbase : attributeBase o m X.env (eval o X.env) = eval o X.env) (hline : (apos.endLine == cpos.line) = true) (hst : starEach [a] X.env = [(false, eval a X.env)]) : M1 X o m apos a cpos := by
  refine ⟨hbase, ?_, hline, ?_⟩
  · rw [hst]; rfl
  · rw [hst]; rfl
theorem snd_dpop1 (hu : X.A.units + 64 < cLine) (hw : CL.w = X.w) (ho : SndE X CL cl o so) (ha : SndE X CL cl a sa) (hbase : attributeBase o "pop" X.env (eval o X.env) = eval o X.env) (hline : (apos.endLine == cpos.line) = true) (hst : starEach [a] X.env = [(false, eval a X.env)]) :
    SndE X CL cl (.Call (.Attribute o "pop" apos) [a] [] cpos) (eD1 mDpop1 so sa) := fun W tk => by
  refine pe_imp (pe_dpop1' (w := CL.w) hu hw (ho W tk) (ha W tk) (m1_of hbase hline hst)) fun σ H Q h => ?_
  obtain ⟨mu, r, M, hm, hs, p⟩ := h
  refine rE_then hm hs p fun x v M1 mu1 H1 n1 h1 p1 => ?_
  split at p1
  · rename_i n
    split at p1
    · rename_i e
      obtain ⟨ds, e⟩ := Option.isSome_iff_exists.mp e
      obtain ⟨fz, p', xs, hv, h2, h3⟩ := dicOf_ok n1.rm h1.w e
      obtain ⟨q, h4, h5⟩ := h1
      refine ⟨⟨fz, p', xs, hv, h2⟩, ?_⟩
      refine rE_thenB n1.rm n1.rs Stp.refl p1 fun y u M2 mu2 H2 n2 h6 p2 => ?_
      obtain ⟨t, R3, s3, hu⟩ := n2.rm.box h6 n2.st
      rw [h5]
      have hq : (mu2 ++ t)[n]? = some q := s3.get h4
      have p3 : Pst X.K CL W σ (mu2 ++ t) H2 (mDpop1 n (box y M2).1 (box y M2).2) (fun z _ mu' H' => ∀ w, Rr X.K CL mu' H' H2 z w → Q w H') :=
        (p2.from s3 R3).mono fun _ _ _ _ _ _ z w hw => z w ((hw.base s3 R3).base n1.st n1.rm)
      unfold mDpop1 at p3
      split at p3
      · rename_i kvs e1
        split at p3
        · rename_i c
          split at p3
          · rename_i d ed
            obtain ⟨xs2, g1, g2⟩ := R3.ob n q _ hq e1
            have g1' : H2 q = some (dictO CL.w q xs2) := g1
            have nf : ∀ od v, H2 q ≠ some (.frz od v) := fun _ _ z => by rw [g1'] at z; cases z
            refine ⟨mu2 ++ t, q, xs2, kvs, _, d, rfl, g1', g2, c, hu, ed, fun v' zs rv rz => ?_⟩
            have st : Stp (mu2 ++ t) H2 (mu2 ++ t) (upd H2 q (dictO CL.w q zs)) := Stp.write hq nf
            exact p3 (mu2 ++ t) _ st (R3.write (u := dictO CL.w q zs) (o := .dic false (ddel kvs (box y M2).1)) hq nf ⟨zs, upd_same, rz.stp R3 st⟩) v' (Rv.stp R3 st rv)
          · exact bad_end p3
        · exact bad_end p3
      · exact bad_end p3
    · exact bad_end p1
  · exact bad_end p1
end
end MI
end
section
set_option Elab.async false
set_option linter.all false
set_option maxRecDepth 100000
set_option maxHeartbeats 4000000
/-! MI16: expressions of the text -/
namespace MI
open PySem PySem.Spec PyProof.Rows L2
structure Cmp where
  e : Ct → Expr → Option SE
  t : Ct → Expr → Option STt
def dsOf (f : Expr → Option SE) : List Expr → Option SDs
  | [] => some dNil
  | a :: r => if notStar a = true then match f a, dsOf f r with
      | some sa, some as => some (dCons sa as)
      | _, _ => none
    else none
def psOf (f : Expr → Option SE) : List (Option Expr) → List Expr → Option (List (SE × SE))
  | [], [] => some []
  | some k :: ks, v :: vs => match f k, f v, psOf f ks vs with
    | some sk, some sv, some ps => some ((sk, sv) :: ps)
    | _, _, _ => none
  | _, _ => none
def boE (f : Expr → Option SE) (op : BoolOp) : List Expr → Option SE
  | [] => none
  | [a] => f a
  | a :: b :: r => match f a, boE f op (b :: r) with
    | some sa, some sr => match op with
      | .And => some (eAnd sa sr)
      | .Or => some (eOr sa sr)
    | _, _ => none
def boT (f : Expr → Option STt) (op : BoolOp) : List Expr → Option STt
  | [] => none
  | [a] => f a
  | a :: b :: r => match f a, boT f op (b :: r) with
    | some sa, some sr => match op with
      | .And => some (MI.tAnd sa sr)
      | .Or => some (MI.tOr sa sr)
    | _, _ => none
/-- a name that may be stored -/
def Ct.st (c : Ct) (x : Str) : Bool := c.loc x || c.cel x
def tgNames (c : Ct) : List Expr → Option (List Nat)
  | [] => some []
  | .Name x _ :: r => if c.st x = true then match idx x c.N, tgNames c r with
      | some i, some is => some (i :: is)
      | _, _ => none
    else none
  | _ => none
def tgOf (c : Ct) : Expr → Option Tg
  | .Name x _ => if c.st x = true then match idx x c.N with
      | some i => some (.nm i)
      | none => none
    else none
  | .Tuple es _ _ => match tgNames c es with
    | some is => some (.tp is)
    | none => none
  | _ => none
def ownGo (names : List (Str × NameKind)) : Nat → List Str → List (Str × Nat)
  | _, [] => []
  | i, y :: r => match names.lookup y with
    | some .local => (y, i) :: ownGo names (i + 1) r
    | some .cell => (y, i) :: ownGo names (i + 1) r
    | _ => ownGo names (i + 1) r
def ownOf (N : List Str) (names : List (Str × NameKind)) : List (Str × Nat) := ownGo names 0 N
def isRange (c : Ct) : Expr → Option (List Expr)
  | .Call (.Name x _) as [] _ => if x = "range" ∧ c.bi "range" = true ∧ as.all notStar = true then some as else none
  | _ => none
def rgOf (r : Cmp) (c : Ct) : List Expr → Option SI
  | [a] => match r.e c a with
    | some sa => some (iRange1 sa)
    | none => none
  | [a, b] => match r.e c a, r.e c b with
    | some sa, some sb => some (iRange2 sa sb)
    | _, _ => none
  | [a, b, d] => match r.e c a, r.e c b, r.e c d with
    | some sa, some sb, some sd => some (iRange3 sa sb sd)
    | _, _, _ => none
  | _ => none
/-- zip(a, b), its items taken apart at once -/
def isZip (c : Ct) : Expr → Expr → Option (Expr × Expr)
  | .Tuple _ _ _, .Call (.Name x _) [a, b] [] _ => if x = "zip" ∧ c.bi "zip" = true ∧ notStar a = true ∧ notStar b = true then some (a, b) else none
  | _, _ => none
def itOf (r : Cmp) (c : Ct) (tg e : Expr) : Option SI := match isRange c e with
  | some as => rgOf r c as
  | none => match isZip c tg e with
    | some (a, b) => match r.e c a, r.e c b with
      | some sa, some sb => some (MI.iZip sa sb)
      | _, _ => none
    | none => match r.e c e with
      | some sa => some (iSeq sa)
      | none => none
/-- a name whose dict may be walked -/
def isDn (c : Ct) : Expr → Option (Nat × Str)
  | .Name x _ => if x ∈ c.dn ∧ c.vis x = true ∧ nmOk x = true then match idx x c.N with
      | some i => some (i, x)
      | none => none
    else none
  | _ => none
def Ct.blk (c : Ct) (scope : Scope) : Ct := { c with sc := scope, cx := false }
def tstOf (r : Cmp) (c : Ct) : List Expr → Option STt
  | [] => some MI.tYes
  | [a] => r.t c a
  | _ => none
def cmpComp (r : Cmp) (c : Ct) (elt tg iter : Expr) (ifs : List Expr) (scope : Scope) : Option SE :=
  if c.calm = true ∧ blkC c.N c.sc scope (ownOf c.N scope.names) = true ∧ notSet iter = true then
    match itOf r c tg iter, tgOf (c.blk scope) tg, tstOf r (c.blk scope) ifs, r.e (c.blk scope) elt with
    | some si, some t, some st, some se => if t.ix.all (fun i => decide (i ∈ (ownOf c.N scope.names).map (·.2))) = true then match isDn c iter with
        | some (i, _) => some (eCompN se st t ((ownOf c.N scope.names).map (·.2)) i)
        | none => if c.cx = true ∧ ifs = [] then some (eCompX se t ((ownOf c.N scope.names).map (·.2)) si) else some (eComp se st t ((ownOf c.N scope.names).map (·.2)) si)
      else none
    | _, _, _, _ => none
  else none
def cmpName (c : Ct) (x : Str) : Option SE :=
  if nmOk x = true then
    if c.vis x = true then match idx x c.N with
      | some i => some (eVar i)
      | none => none
    else if c.gl x = true then match c.kon.lookup x with
      | some d => some (eC d)
      | none => none
    else none
  else none
/-- sorted(set(a)) -/
def isSortedSet (c : Ct) (x : Str) : Expr → Option Expr
  | .Call (.Name y _) [a] [] _ => if x = "sorted" ∧ y = "set" ∧ c.bi "set" = true ∧ notStar a = true then some a else none
  | _ => none
/-- tuple(range(a)) -/
def isTupRg (c : Ct) (x : Str) : Expr → Option Expr
  | .Call (.Name y _) [a] [] _ => if x = "tuple" ∧ y = "range" ∧ c.bi "range" = true ∧ notStar a = true then some a else none
  | _ => none
/-- d.values() -/
def isVals : Expr → Option Expr
  | .Call (.Attribute o m apos) [] [] cpos => if m = "values" ∧ okRecv o = true ∧ (apos.endLine == cpos.line) = true then some o else none
  | _ => none
def valsOp (x : Str) : Option Op1 := if x = "list" then some bListVals else if x = "sorted" then some bSortVals else none
def cmpCall1 (r : Cmp) (c : Ct) (x : Str) (a : Expr) : Option SE :=
  match isSortedSet c x a with
  | some b => match r.e c b with
    | some sb => some (e1 bSortedSet sb)
    | none => none
  | none => match isTupRg c x a with
    | some b => match r.e c b with
      | some sb => some (eTupRg sb)
      | none => none
    | none => match isVals a with
      | some b => match valsOp x, r.e c b with
        | some o, some sb => some (e1 o sb)
        | _, _ => none
      | none => match bi1 x, r.e c a with
        | some o, some sa => some (e1 o sa)
        | _, _ => none
def nameOf : Expr → Option Str
  | .Name x _ => some x
  | _ => none
/-- (A, B) -/
def twoOf : Expr → Option (Str × Str)
  | .Tuple [.Name x _, .Name y _] _ _ => some (x, y)
  | _ => none
def cmpIsi2 (r : Cmp) (c : Ct) (a b : Expr) : Option SE :=
  match twoOf b with
  | some (T, U) => if c.bi T = true ∧ c.bi U = true then match tyOf T, tyOf U, r.e c a with
      | some t, some u, some sa => some (e1 (bIsi2 t u) sa)
      | _, _, _ => none
    else none
  | none => none
def cmpIsi (r : Cmp) (c : Ct) (a b : Expr) : Option SE :=
  match nameOf b with
  | some T => if c.bi T = true then match tyOf T, r.e c a with
      | some t, some sa => some (e1 (bIsi t) sa)
      | _, _ => none
    else none
  | none => cmpIsi2 r c a b
def cmpBi (r : Cmp) (c : Ct) (x : Str) (args : List Expr) : Option SE :=
  if c.calm = true ∧ c.bi x = true ∧ args.all notStar = true then match args with
    | [a] => cmpCall1 r c x a
    | [a, b] => if x = "isinstance" then cmpIsi r c a b else match bi2 x, r.e c a, r.e c b with
      | some o, some sa, some sb => some (e2 o sa sb)
      | _, _, _ => none
    | _ => none
  else none
def cmpCall (r : Cmp) (c : Ct) (x : Str) (args : List Expr) : Option SE :=
  match c.fns.lookup x with
  | some ar => if c.calm = true ∧ c.gl x = true ∧ nmOk x = true ∧ args.length = ar ∧ args ≠ [] ∧ args.all notStar = true then match dsOf (r.e c) args with
      | some as => some (eCall x as)
      | none => none
    else none
  | none => match c.cls.lookup x with
    | some ar => if c.calm = true ∧ c.gl x = true ∧ nmOk x = true ∧ args.length + 1 = ar ∧ args.all notStar = true then match dsOf (r.e c) args with
        | some as => some (eNew x as)
        | none => none
      else none
    | none => cmpBi r c x args
/-- no call, no display -/
def notNew : Expr → Bool
  | .Call (.Attribute _ m _) _ _ _ => m == ("setdefault" : Str)
  | .Call _ _ _ _ => false
  | .List _ _ => false
  | _ => true
def cmpMeth (r : Cmp) (c : Ct) (o : Expr) (m : Str) (args : List Expr) (ln : Bool) : Option SE :=
  if okRecv o = true ∧ ln = true ∧ args.all notStar = true then match args with
    | [] => match mt0 m, r.e c o with
      | some mm, some so => if notCall o = true then some (eM0 mm so) else some (eN0 mm so)
      | _, _ => none
    | [a] => if (isDn c o).isSome = true ∧ m = "pop" then match r.e c o, r.e c a with
        | some so, some sa => some (eD1 mDpop1 so sa)
        | _, _ => none
      else match mt1 m, r.e c o, r.e c a with
      | some mm, some so, some sa => if notNew o = true then some (eM1 mm so sa) else some (eN1 mm so sa)
      | _, _, _ => none
    | [a, b] => match mt2 m, mtd2 m, r.e c o, r.e c a, r.e c b with
      | some mm, _, some so, some sa, some sb => some (eM2 mm so sa sb)
      | none, some mm, some so, some sa, some sb => some (eD2 mm so sa sb)
      | _, _, _, _, _ => none
    | _ => none
  else none
/-- a method of a text -/
def cmpTxt (r : Cmp) (c : Ct) (o : Expr) (m : Str) (args : List Expr) (ln : Bool) : Option SE :=
  if okRecv o = true ∧ ln = true ∧ args.all notStar = true then match args with
    | [a] => match r.e c o, r.e c a with
      | some so, some sa => if m = "split" then some (eT1 tSplit so sa) else if m = "join" then some (eT1 tJoin so sa) else none
      | _, _ => none
    | _ => none
  else none
/-- a method of an object -/
def cmpObj (r : Cmp) (c : Ct) (o : Expr) (m : Str) (args : List Expr) (ln : Bool) : Option SE :=
  if c.calm = true ∧ m ∈ c.mts ∧ okRecv o = true ∧ ln = true ∧ args.all notStar = true ∧ args.length < 25 then match r.e c o, dsOf (r.e c) args with
    | some so, some as => some (eMeth m so as)
    | _, _ => none
  else none
def cmpAny (r : Cmp) (c : Ct) (o : Expr) (m : Str) (args : List Expr) (ln : Bool) : Option SE :=
  match cmpMeth r c o m args ln with
  | some s => some s
  | none => match cmpTxt r c o m args ln with
    | some s => some s
    | none => cmpObj r c o m args ln
def cmpConst : Const → Option SE
  | .int i => some (eC (.int i))
  | .bool b => some (eC (.bl b))
  | .none => some (eC .non)
  | .str x => some (eC (.str x))
  | _ => none
def cmpO (r : Cmp) (c : Ct) : Option Expr → Option SO
  | none => some oNone
  | some a => match r.e c a with
    | some sa => some (oSome sa)
    | none => none
/-- an f-string's part -/
def fsPart (r : Cmp) (c : Ct) : Expr → Option SE
  | .Constant (.str x) _ _ => some (eC (.str x))
  | .FormattedValue e k none _ => if k = -1 then r.e c e else none
  | _ => none
def fsParts (r : Cmp) (c : Ct) : List Expr → Option (List SE)
  | [] => some []
  | e :: es => match fsPart r c e, fsParts r c es with
    | some s, some ss => some (s :: ss)
    | _, _ => none
def cmpFs (r : Cmp) (c : Ct) (vs : List Expr) : Option SE := match vs with
  | v1 :: v2 :: rest => match fsParts r c (v1 :: v2 :: rest) with
    | some ss => some (eFs ss)
    | none => none
  | _ => none
def stepE (r : Cmp) (c : Ct) : Expr → Option SE
  | .Name x _ => cmpName c x
  | .Constant k _ _ => cmpConst k
  | .BinOp a op b _ => match opB op, r.e c a, r.e c b with
    | some o, some sa, some sb => some (e2 o sa sb)
    | _, _, _ => none
  | .UnaryOp .Not a _ => match r.e c a with
    | some sa => some (eNot sa)
    | none => none
  | .UnaryOp .USub a _ => match r.e c a with
    | some sa => some (e1 oNeg sa)
    | none => none
  | .BoolOp op vs _ => boE (r.e c) op vs
  | .Compare a [op] [b] _ => if notSet b = true then match opC op, r.e c a, r.e c b with
      | some o, some sa, some sb => some (e2 o sa sb)
      | _, _, _ => none
    else none
  | .IfExp t a b _ => match r.t c t, r.e c a, r.e c b with
    | some st, some sa, some sb => some (eIf st sa sb)
    | _, _, _ => none
  | .Tuple es _ _ => match dsOf (r.e c) es with
    | some as => some (eTup as)
    | none => none
  | .List es _ => match dsOf (r.e c) es with
    | some as => some (eLst as)
    | none => none
  | .Dict [] [] _ => some eDic0
  | .Dict ks vs _ => if ks ≠ [] ∧ ks.length ≤ 15 then match psOf (r.e c) ks vs with
      | some ps => some (eDic (dPairs ps))
      | none => none
    else none
  | .Subscript a (.Slice lo hi none _) _ => match r.e c a, cmpO r c lo, cmpO r c hi with
    | some sa, some sl, some sh => some (eSlice sa sl sh)
    | _, _, _ => none
  | .Subscript a (.Slice none none (some (.UnaryOp .USub (.Constant (.int 1) _ _) _)) _) _ => match r.e c a with
    | some sa => some (eRev sa)
    | none => none
  | .Subscript a (.Slice lo hi (some (.Constant (.int k) _ _)) _) _ => if 0 < k then match r.e c a, cmpO r c lo, cmpO r c hi with
    | some sa, some sl, some sh => some (eStep sa sl sh k.toNat)
    | _, _, _ => none
    else none
  | .Subscript a b _ => if notSlice b = true then match r.e c a, r.e c b with
      | some sa, some sb => some (e2 oIx sa sb)
      | _, _ => none
    else none
  | .ListComp elt [⟨tg, iter, ifs, ia⟩] scope _ => if ia = 0 then cmpComp r c elt tg iter ifs scope else none
  | .JoinedStr vs _ => cmpFs r c vs
  | .Call (.Name x _) args [] _ => cmpCall r c x args
  | .Call (.Attribute o m apos) args [] cpos => cmpAny r c o m args (apos.endLine == cpos.line)
  | .Attribute o f _ => if okRecv o = true ∧ f ∈ c.flds then match r.e c o with
      | some so => some (eFld so f)
      | none => none
    else none
  | _ => none
def stepT (r : Cmp) (c : Ct) : Expr → Option STt
  | .UnaryOp .Not a _ => match r.t c a with
    | some ta => some (MI.tNot ta)
    | none => none
  | .BoolOp op vs _ => boT (r.t c) op vs
  | .Compare a [op] [b] _ => if notSet b = true then match opC op, r.e c a, r.e c b with
      | some o, some sa, some sb => some (tB (e2 o sa sb))
      | _, _, _ => none
    else none
  | e => if plainT e = true then match r.e c e with
      | some s => some (tTru s)
      | none => none
    else none
def cmp : Nat → Cmp
  | 0 => ⟨fun _ _ => none, fun _ _ => none⟩
  | n + 1 => ⟨stepE (cmp n), stepT (cmp n)⟩

/-! ### it is sound -/
structure SndC (P : Program) (w : World) (K : PySem.W.Frag) (mg : Str → Option Value) (base : Heap) (CL : CLs) (cl : Cl) (k : Nat) (r : Cmp) : Prop where
  e : ∀ (X : Cx) (c : Ct) e s, X.prog = P → X.w = w → X.K = K → X.mg = mg → X.base = base → Good X CL cl k c → r.e c e = some s → SndE X CL cl e s
  t : ∀ (X : Cx) (c : Ct) e s, X.prog = P → X.w = w → X.K = K → X.mg = mg → X.base = base → Good X CL cl k c → r.t c e = some s → SndT X CL cl e s
section
variable {X : Cx} {CL : CLs} {cl : Cl} {k : Nat} {c : Ct}
theorem Good.mgn (G : Good X CL cl k c) {x : Str} (h : c.bi x = true) : Gl X x ∧ X.mg x = none ∧ nmOk x = true := by
  unfold Ct.bi at h
  simp only [Bool.and_eq_true, decide_eq_true_eq] at h
  exact ⟨G.gl x h.1, G.bl x h.2.1, h.2.2⟩
theorem Good.st (G : Good X CL cl k c) {x : Str} (h : c.st x = true) : Loc X.env.scope x ∧ (X.fn x = true ∨ X.env.scope.names.lookup x = some .local) := by
  unfold Ct.st at h
  rcases Bool.or_eq_true_iff.mp h with h | h
  · have := G.loc x h
    exact ⟨.inl this, .inr this⟩
  · have := G.cel x h
    exact ⟨.inr this.1, .inl this.2⟩
theorem dsOf_ok {f : Expr → Option SE} (hf : ∀ e s, f e = some s → SndE X CL cl e s) : ∀ (es : List Expr) (as : SDs), dsOf f es = some as → SndDs X CL cl es as ∧ es.all notStar = true ∧ ∀ r M ds M', as cl r M = .ok ds M' → ds.length = es.length
  | [], as, h => by
    simp only [dsOf] at h; cases h
    exact ⟨dnd_nil, rfl, fun r M ds M' e => by simp only [dNil] at e; cases e; rfl⟩
  | a :: es, as, h => by
    unfold dsOf at h
    split at h
    · rename_i hs
      split at h
      · rename_i sa as' h1 h2
        cases h
        obtain ⟨q1, q2, q3⟩ := dsOf_ok hf es as' h2
        refine ⟨dnd_cons (hf _ _ h1) q1 (star1 hs), by rw [List.all_cons, hs, q2]; rfl, fun r M ds M' e => ?_⟩
        unfold dCons at e
        cases e1 : sa cl r M with
        | ok x M1 =>
          rw [e1] at e
          simp only [Res.bind] at e
          cases e2 : as' cl r (box x M1).2 with
          | ok ds' M2 =>
            rw [e2] at e
            simp only [Res.bind] at e
            cases e
            rw [List.length_cons, List.length_cons, q3 _ _ _ _ e2]
          | err _ _ => rw [e2] at e; simp only [Res.bind] at e; cases e
          | bad => rw [e2] at e; simp only [Res.bind] at e; cases e
        | err _ _ => rw [e1] at e; simp only [Res.bind] at e; cases e
        | bad => rw [e1] at e; simp only [Res.bind] at e; cases e
      · cases h
    · cases h
theorem psOf_ok {f : Expr → Option SE} (hf : ∀ e s, f e = some s → SndE X CL cl e s) : ∀ (ks : List (Option Expr)) (vs : List Expr) (ps : List (SE × SE)), psOf f ks vs = some ps → SndPs X CL cl ks vs ps
  | [], [], ps, h => by simp only [psOf] at h; cases h; exact .nil
  | some k :: ks, v :: vs, ps, h => by
    unfold psOf at h
    split at h
    · rename_i sk sv ps' h1 h2 h3
      cases h
      exact .cons (hf _ _ h1) (hf _ _ h2) (psOf_ok hf ks vs ps' h3)
    · cases h
  | [], _ :: _, ps, h => by simp [psOf] at h
  | none :: _, _, ps, h => by simp [psOf] at h
  | some _ :: _, [], ps, h => by simp [psOf] at h
theorem boE_ok {f : Expr → Option SE} {op : BoolOp} {pos : Pos} (hf : ∀ e s, f e = some s → SndE X CL cl e s) : ∀ (es : List Expr) (s : SE), boE f op es = some s → SndE X CL cl (.BoolOp op es pos) s
  | [], s, h => by simp [boE] at h
  | [a], s, h => by
    simp only [boE] at h
    exact snd_one (hf _ _ h)
  | a :: b :: r, s, h => by
    unfold boE at h
    split at h
    · rename_i sa sr h1 h2
      have q := boE_ok (pos := pos) hf (b :: r) sr h2
      cases op <;> (simp only at h; cases h)
      · exact snd_and (hf _ _ h1) q
      · exact snd_or (hf _ _ h1) q
    · cases h
theorem boT_ok {f : Expr → Option STt} {op : BoolOp} {pos : Pos} (hf : ∀ e s, f e = some s → SndT X CL cl e s) : ∀ (es : List Expr) (s : STt), boT f op es = some s → SndW X CL cl (.BoolOp op es pos) s
  | [], s, h => by simp [boT] at h
  | [a], s, h => by
    simp only [boT] at h
    cases op
    · exact wnd_and1 (hf _ _ h)
    · exact wnd_or1 (hf _ _ h)
  | a :: b :: r, s, h => by
    unfold boT at h
    split at h
    · rename_i sa sr h1 h2
      have q := boT_ok (pos := pos) hf (b :: r) sr h2
      cases op <;> (simp only at h; cases h)
      · exact wnd_and (hf _ _ h1) q
      · exact wnd_or (hf _ _ h1) q
    · cases h
theorem tgNames_ok (G : Good X CL cl k c) : ∀ (es : List Expr) (is : List Nat), tgNames c es = some is → PGs X es (gNames is) ∧ (assignEach es X.env).length = is.length ∧ (assignEach es X.env).findIdx? (·.1) = none
  | [], is, h => by
    simp only [tgNames] at h; cases h
    exact ⟨pgs_nil, rfl, rfl⟩
  | e :: r, is, h => by
    cases e with
    | Name x p =>
      simp only [tgNames] at h
      split at h
      · rename_i hx
        split at h
        · rename_i i is' h1 h2
          cases h
          obtain ⟨q1, q2, q3⟩ := tgNames_ok G r is' h2
          obtain ⟨l1, l2⟩ := G.st hx
          refine ⟨pgs_cons (pg_name (by rw [G.N]; exact G.nd) (by rw [G.N]; exact idx_ok h1) l1 l2) q1 rfl, ?_, ?_⟩
          · show (assignEach r X.env).length + 1 = _
            rw [q2]; rfl
          · simp only [assignEach, List.findIdx?_cons, q3]
            rfl
        · cases h
      · cases h
    | _ => simp [tgNames] at h
theorem tgOf_ok (G : Good X CL cl k c) (hc : X.calm = true) {e : Expr} {t : Tg} (h : tgOf c e = some t) : SndTg X e t := by
  cases e with
  | Name x p =>
    simp only [tgOf] at h
    split at h
    · rename_i hx
      split at h
      · rename_i i h1
        cases h
        obtain ⟨l1, l2⟩ := G.st hx
        exact pg_name (by rw [G.N]; exact G.nd) (by rw [G.N]; exact idx_ok h1) l1 l2
      · cases h
    · cases h
  | Tuple es p q =>
    simp only [tgOf] at h
    split at h
    · rename_i is h1
      cases h
      obtain ⟨q1, q2, q3⟩ := tgNames_ok G es is h1
      exact pg_tup hc q1 q2 q3
    · cases h
  | _ => simp [tgOf] at h
theorem blk_lookup {env : PySem.Env} {x : Str} {κ : NameKind} (hk : κ ≠ .free) : ∀ {names : List (Str × NameKind)}, names.lookup x = some κ →
    (names.map fun (n, k) => if (k == NameKind.free && env.scope.kind == .function && env.kindOf n == some .cell) then (n, NameKind.cell) else (n, k)).lookup x = some κ
  | [], h => by simp at h
  | (n, κ') :: r, h => by
    have ih := @blk_lookup env x κ hk r
    show List.lookup x ((if (κ' == NameKind.free && env.scope.kind == .function && env.kindOf n == some .cell) = true then (n, NameKind.cell) else (n, κ')) :: _) = _
    cases hx : x == n with
    | true =>
      simp only [List.lookup_cons, hx] at h
      cases h
      have : (κ == NameKind.free) = false := by cases κ <;> first | rfl | exact absurd rfl hk
      simp [List.lookup_cons, hx, this]
    | false =>
      simp only [List.lookup_cons, hx] at h
      split <;> simp only [List.lookup_cons, hx] <;> exact ih h
theorem blk_free {env : PySem.Env} {x : Str} : ∀ {names : List (Str × NameKind)}, names.lookup x = some .free →
    (names.map fun (n, k) => if (k == NameKind.free && env.scope.kind == .function && env.kindOf n == some .cell) then (n, NameKind.cell) else (n, k)).lookup x = some .cell ∨
    (names.map fun (n, k) => if (k == NameKind.free && env.scope.kind == .function && env.kindOf n == some .cell) then (n, NameKind.cell) else (n, k)).lookup x = some .free
  | [], h => by simp at h
  | (n, κ') :: r, h => by
    have ih := @blk_free env x r
    show List.lookup x ((if (κ' == NameKind.free && env.scope.kind == .function && env.kindOf n == some .cell) = true then (n, NameKind.cell) else (n, κ')) :: _) = _ ∨ List.lookup x ((if (κ' == NameKind.free && env.scope.kind == .function && env.kindOf n == some .cell) = true then (n, NameKind.cell) else (n, κ')) :: _) = _
    cases hx : x == n with
    | true =>
      simp only [List.lookup_cons, hx] at h
      cases h
      split <;> simp [List.lookup_cons, hx]
    | false =>
      simp only [List.lookup_cons, hx] at h
      split <;> simp only [List.lookup_cons, hx] <;> exact ih h
theorem Good.blk (G : Good X CL cl k c) {scope : Scope} (hk : scope.kind = .function) (s : Shared) (H : Hp) (C : Addr) (cc : List (Str × Addr)) (fp : List Addr) : Good (Blk X scope s H C cc fp) CL cl k (c.blk scope) := by
  have key : ∀ x κ, κ ≠ NameKind.free → scope.names.lookup x = some κ → (Blk X scope s H C cc fp).env.scope.names.lookup x = some κ := fun x κ h1 h2 => blk_lookup (env := X.env) h1 h2
  have keyf : ∀ x, scope.names.lookup x = some .free → (Blk X scope s H C cc fp).env.scope.names.lookup x = some .cell ∨ (Blk X scope s H C cc fp).env.scope.names.lookup x = some .free := fun x h2 => blk_free (env := X.env) h2
  refine ⟨G.N, G.nd, fun x h => ?_, fun x h => ?_, fun x h => ?_, fun x h => ?_, fun x h => ?_, hk, G.bl, G.kon, fun x ar h => ⟨(G.fns x ar h).ok⟩, G.un5, G.w, G.calm, fun x ar h => ⟨(G.new x ar h).ok⟩, fun f h c C e => G.fld f h c C e, fun m h c C e => (G.mth m h c C e).imp (fun ⟨ar, g⟩ => ⟨ar, ⟨g.cls, g.ok, g.bad⟩⟩) id, nofun⟩
  · simp only [Ct.vis, Ct.lk, Ct.blk] at h
    split at h
    · rename_i e; exact .inl (key x _ nofun e)
    · rename_i e; exact .inr (.inl (key x _ nofun e))
    · rename_i e; exact .inr (keyf x e)
    · cases h
  · simp only [Ct.gl, Ct.lk, Ct.blk] at h
    split at h
    · rename_i e; exact key x _ nofun e
    · cases h
  · simp only [Ct.loc, Ct.lk, Ct.blk] at h
    split at h
    · rename_i e; exact key x _ nofun e
    · cases h
  · simp only [Ct.cel, Ct.lk, Ct.blk] at h
    split at h
    · rename_i e; exact ⟨key x _ nofun e, by show (scope.names.lookup x == some .cell) = true; rw [e]; rfl⟩
    · cases h
  · rcases h with h | h
    · exact .inl (key x _ nofun h)
    · exact keyf x h
theorem Good.setX {f : Value → Shared → Prop} (G : Good X CL cl k c) : Good { X with xe := f } CL cl k c :=
  ⟨G.N, G.nd, G.vis, G.gl, G.loc, G.cel, G.cf, G.knd, G.bl, G.kon, fun x ar h => ⟨(G.fns x ar h).ok⟩, G.un5, G.w, G.calm, fun x ar h => ⟨(G.new x ar h).ok⟩, fun f h c C e => G.fld f h c C e, fun m h c C e => (G.mth m h c C e).imp (fun ⟨ar, g⟩ => ⟨ar, ⟨g.cls, g.ok, g.bad⟩⟩) id, G.cx⟩
theorem Good.blkXG (G : Good X CL cl k c) {scope : Scope} (hk : scope.kind = .function) (s : Shared) (H : Hp) (C : Addr) (cc : List (Str × Addr)) (fp : List Addr) : Good (blkX X s H scope (compEnvC scope cc C X.env) fp) CL cl k (c.blk scope) :=
  (G.blk hk s H C cc fp).setX
theorem Good.blkOk (G : Good X CL cl k c) {scope : Scope} {own : List (Str × Nat)} (h : blkC c.N c.sc scope own = true) : BlkOk X.N X.env.scope scope own := by
  have q := blkOk_by h
  rw [G.N]
  exact ⟨q.kind, q.uniq, q.ix, fun y hy e => G.cf _ (q.free y hy e), q.own⟩
theorem cmpName_ok (G : Good X CL cl k c) {x : Str} {s : SE} {pos : Pos} (h : cmpName c x = some s) : SndE X CL cl (.Name x pos) s := by
  unfold cmpName at h
  split at h
  · rename_i hn
    split at h
    · rename_i hv
      split at h
      · rename_i i hi
        cases h
        exact snd_var (by rw [G.N]; exact idx_ok hi) (G.vis x hv) (nmOk_d hn) (nmOk_c hn)
      · cases h
    · split at h
      · rename_i hg
        split at h
        · rename_i d hd
          cases h
          obtain ⟨u, v, h1, h2, h3⟩ := G.kon x d hd
          exact snd_const (pe_glob (G.gl x hg) h1 h2 (nmOk_d hn)) h3
        · cases h
      · cases h
  · cases h
end
section
variable {P : Program} {w : World} {K : PySem.W.Frag} {mg : Str → Option Value} {base : Heap} {CL : CLs} {cl : Cl} {k : Nat} {r : Cmp}
theorem isRange_ok {c : Ct} {e : Expr} {as : List Expr} (h : isRange c e = some as) : ∃ p q, e = .Call (.Name "range" p) as [] q ∧ c.bi "range" = true ∧ as.all notStar = true := by
  unfold isRange at h
  split at h
  · split at h
    · rename_i x p b q hh
      obtain ⟨h1, h2, h3⟩ := hh
      cases h
      subst h1
      exact ⟨_, _, rfl, h2, h3⟩
    · cases h
  · cases h
theorem isZip_ok {c : Ct} {tg e a b : Expr} (h : isZip c tg e = some (a, b)) : ∃ elts kk tpos p q, tg = .Tuple elts kk tpos ∧ e = .Call (.Name "zip" p) [a, b] [] q ∧ c.bi "zip" = true ∧ notStar a = true ∧ notStar b = true := by
  unfold isZip at h
  split at h
  · split at h
    · rename_i es kk tpos x p a' b' q hh
      obtain ⟨h1, h2, h3, h4⟩ := hh
      cases h
      subst h1
      exact ⟨_, _, _, _, _, rfl, rfl, h2, h3, h4⟩
    · cases h
  · cases h
theorem itOf_ok (S : SndC P w K mg base CL cl k r) {X : Cx} {c : Ct} (hP : X.prog = P) (hw : X.w = w) (hK : X.K = K) (hm : X.mg = mg) (hb : X.base = base) (G : Good X CL cl k c) {tg e : Expr} {s : SI} (h : itOf r c tg e = some s) : SndI X CL cl tg e s := by
  unfold itOf at h
  split at h
  · rename_i as ha
    obtain ⟨p, q, rfl, h1, h2⟩ := isRange_ok ha
    obtain ⟨g1, g2, g3⟩ := G.mgn h1
    unfold rgOf at h
    split at h
    · rename_i a
      split at h
      · rename_i sa hs
        cases h
        exact snd_range1 (S.e X c _ _ hP hw hK hm hb G hs) g1 g2 (star1 (by simpa using h2))
      · cases h
    · rename_i a b
      have sab : notStar a = true ∧ notStar b = true := by simpa using h2
      split at h
      · rename_i sa sb hs1 hs2
        cases h
        exact snd_range2 (S.e X c _ _ hP hw hK hm hb G hs1) (S.e X c _ _ hP hw hK hm hb G hs2) g1 g2 ((star1 sab.1).trans (by rw [star1 sab.2]; rfl)) (star1 sab.2)
      · cases h
    · rename_i a b d
      have sab : notStar a = true ∧ notStar b = true ∧ notStar d = true := by simpa using h2
      split at h
      · rename_i sa sb sd hs1 hs2 hs3
        cases h
        exact snd_range3 (S.e X c _ _ hP hw hK hm hb G hs1) (S.e X c _ _ hP hw hK hm hb G hs2) (S.e X c _ _ hP hw hK hm hb G hs3) g1 g2 (star1 sab.1) (star1 sab.2.1) (star1 sab.2.2)
      · cases h
    · cases h
  · split at h
    · rename_i a b hz
      obtain ⟨elts, kk, tpos, p, q, rfl, rfl, h1, h2, h3⟩ := isZip_ok hz
      obtain ⟨g1, g2, g3⟩ := G.mgn h1
      split at h
      · rename_i sa sb hs1 hs2
        cases h
        exact snd_zip (S.e X c _ _ hP hw hK hm hb G hs1) (S.e X c _ _ hP hw hK hm hb G hs2) g1 g2 (star1 h2) (star1 h3)
      · cases h
    · split at h
      · rename_i sa hs
        cases h
        exact snd_seq (S.e X c _ _ hP hw hK hm hb G hs)
      · cases h
theorem isDn_ok {c : Ct} {e : Expr} {i : Nat} {x : Str} (h : isDn c e = some (i, x)) : ∃ p, e = .Name x p ∧ c.vis x = true ∧ nmOk x = true ∧ idx x c.N = some i := by
  unfold isDn at h
  split at h
  · split at h
    · rename_i y p hh
      split at h
      · rename_i j hj
        cases h
        exact ⟨_, rfl, hh.2.1, hh.2.2, hj⟩
      · cases h
    · cases h
  · cases h
theorem dn_var {X : Cx} {c : Ct} (G : Good X CL cl k c) {i : Nat} {x : Str} {p : Pos} (h1 : c.vis x = true) (h2 : nmOk x = true) (h3 : idx x c.N = some i) : PE X (.Name x p) (tVar i) ∧ SndE X CL cl (.Name x p) (eVar i) :=
  ⟨pe_var (by rw [G.N]; exact idx_ok h3) (G.vis x h1) (nmOk_d h2) (nmOk_c h2), snd_var (by rw [G.N]; exact idx_ok h3) (G.vis x h1) (nmOk_d h2) (nmOk_c h2)⟩
theorem tstOf_ok (S : SndC P w K mg base CL cl k r) {X : Cx} {c : Ct} (hP : X.prog = P) (hw : X.w = w) (hK : X.K = K) (hm : X.mg = mg) (hb : X.base = base) (G : Good X CL cl k c) {es : List Expr} {s : STt} (h : tstOf r c es = some s) : SndTs X CL cl es s := by
  unfold tstOf at h
  split at h
  · cases h; exact tsnd_nil
  · exact tsnd_one (S.t X c _ _ hP hw hK hm hb G h)
  · cases h
structure CompOk (r : Cmp) (c : Ct) (elt tg iter : Expr) (ifs : List Expr) (scope : Scope) (s : SE) where
  si : SI
  t : Tg
  st : STt
  se : SE
  calm : c.calm = true
  blk : blkC c.N c.sc scope (ownOf c.N scope.names) = true
  ns : notSet iter = true
  i1 : itOf r c tg iter = some si
  i2 : tgOf (c.blk scope) tg = some t
  i3 : tstOf r (c.blk scope) ifs = some st
  i4 : r.e (c.blk scope) elt = some se
  ix : ∀ i ∈ t.ix, i ∈ (ownOf c.N scope.names).map (·.2)
  eq : (s = eComp se st t ((ownOf c.N scope.names).map (·.2)) si) ∨ (c.cx = true ∧ ifs = [] ∧ s = eCompX se t ((ownOf c.N scope.names).map (·.2)) si) ∨ ∃ i x, isDn c iter = some (i, x) ∧ s = eCompN se st t ((ownOf c.N scope.names).map (·.2)) i
theorem cmpComp_inv {c : Ct} {elt tg iter : Expr} {ifs : List Expr} {scope : Scope} {s : SE} (h : cmpComp r c elt tg iter ifs scope = some s) : Nonempty (CompOk r c elt tg iter ifs scope s) := by
  unfold cmpComp at h
  split at h
  · rename_i hh
    split at h
    · rename_i si t st se h1 h2 h3 h4
      split at h
      · rename_i h5
        split at h
        · rename_i i x hd
          cases h
          exact ⟨⟨si, t, st, se, hh.1, hh.2.1, hh.2.2, h1, h2, h3, h4, fun i hi => by simpa using List.all_eq_true.mp h5 i hi, .inr (.inr ⟨i, x, hd, rfl⟩)⟩⟩
        · split at h
          · rename_i hx
            cases h
            exact ⟨⟨si, t, st, se, hh.1, hh.2.1, hh.2.2, h1, h2, h3, h4, fun i hi => by simpa using List.all_eq_true.mp h5 i hi, .inr (.inl ⟨hx.1, hx.2, rfl⟩)⟩⟩
          · cases h
            exact ⟨⟨si, t, st, se, hh.1, hh.2.1, hh.2.2, h1, h2, h3, h4, fun i hi => by simpa using List.all_eq_true.mp h5 i hi, .inl rfl⟩⟩
      · cases h
    · cases h
  · cases h
theorem snd_cmpComp (S : SndC P w K mg base CL cl k r) {X : Cx} {c : Ct} (hP : X.prog = P) (hw : X.w = w) (hK : X.K = K) (hm : X.mg = mg) (hb : X.base = base) (G : Good X CL cl k c) {elt tg iter : Expr} {ifs : List Expr} {scope : Scope} {pos : Pos} {s : SE} (h : cmpComp r c elt tg iter ifs scope = some s) :
    SndE X CL cl (.ListComp elt [⟨tg, iter, ifs, 0⟩] scope pos) s := by
  obtain ⟨q⟩ := cmpComp_inv h
  have hc := (G.calm q.calm).1
  have kb := (G.blkOk q.blk).kind
  rcases q.eq with eq | ⟨hx, rfl, eq⟩ | ⟨i, x, hd, eq⟩
  rotate_left
  · rw [eq]
    obtain ⟨k1, k2⟩ := G.cx hx
    exact snd_compX hc (by rw [G.N]; exact G.nd) k1 k2 (itOf_ok S hP hw hK hm hb G q.i1) (G.blkOk q.blk) q.ix (fun s H C cc fp => tgOf_ok (G.blkXG kb s H C cc fp) hc q.i2)
      (fun s H C cc fp => S.e _ _ _ _ hP hw hK hm hb (G.blkXG kb s H C cc fp) q.i4) (fold0 q.ns)
  · obtain ⟨p, rfl, v1, v2, v3⟩ := isDn_ok hd
    rw [eq]
    obtain ⟨w1, w2⟩ := dn_var G v1 v2 v3 (p := p)
    exact snd_compN hc (by rw [G.N]; exact G.nd) w1 w2 (G.blkOk q.blk) q.ix (fun s H C cc fp => tgOf_ok (G.blk kb s H C cc fp) hc q.i2)
      (fun s H C cc fp => tstOf_ok (X := Blk X scope s H C cc fp) S hP hw hK hm hb (G.blk kb s H C cc fp) q.i3) (fun s H C cc fp => S.e _ _ _ _ hP hw hK hm hb (G.blk kb s H C cc fp) q.i4)
  rw [eq]
  exact snd_comp hc (by rw [G.N]; exact G.nd) (itOf_ok S hP hw hK hm hb G q.i1) (G.blkOk q.blk) q.ix (fun s H C cc fp => tgOf_ok (G.blk kb s H C cc fp) hc q.i2)
    (fun s H C cc fp => tstOf_ok (X := Blk X scope s H C cc fp) S hP hw hK hm hb (G.blk kb s H C cc fp) q.i3) (fun s H C cc fp => S.e _ _ _ _ hP hw hK hm hb (G.blk kb s H C cc fp) q.i4) (fold0 q.ns)
theorem stm_cmpComp (S : SndC P w K mg base CL cl k r) {X : Cx} {c : Ct} (hP : X.prog = P) (hw : X.w = w) (hK : X.K = K) (hm : X.mg = mg) (hb : X.base = base) (G : Good X CL cl k c) {elt tg iter : Expr} {ifs : List Expr} {scope : Scope} {pos spos py : Pos} {s : SE} (h : cmpComp r c elt tg iter ifs scope = some s)
    {i : Nat} {y : Str} (hy : X.N[i]? = some y) (hyl : X.env.scope.names.lookup y = some .local) (hsw : swapsWith (.ListComp elt [⟨tg, iter, ifs, 0⟩] scope pos) (some (.Name y py)) spos.line X.env = pure true) :
    SndS X CL cl (.Assign [.Name y py] (.ListComp elt [⟨tg, iter, ifs, 0⟩] scope pos) spos) (sSet i s) := by
  obtain ⟨q⟩ := cmpComp_inv h
  have hc := (G.calm q.calm).1
  have kb := (G.blkOk q.blk).kind
  rcases q.eq with eq | ⟨hx, rfl, eq⟩ | ⟨i, x, hd, eq⟩
  rotate_left
  · rw [eq]
    obtain ⟨k1, k2⟩ := G.cx hx
    exact stm_setCompX hc (by rw [G.N]; exact G.nd) k1 k2 hy hyl hsw (itOf_ok S hP hw hK hm hb G q.i1) (G.blkOk q.blk) q.ix (fun s H C cc fp => tgOf_ok (G.blkXG kb s H C cc fp) hc q.i2)
      (fun s H C cc fp => S.e _ _ _ _ hP hw hK hm hb (G.blkXG kb s H C cc fp) q.i4) (fold0 q.ns)
  · obtain ⟨p, rfl, v1, v2, v3⟩ := isDn_ok hd
    rw [eq]
    obtain ⟨w1, w2⟩ := dn_var G v1 v2 v3 (p := p)
    exact stm_setCompN hc (by rw [G.N]; exact G.nd) hy hyl hsw w1 w2 (G.blkOk q.blk) q.ix (fun s H C cc fp => tgOf_ok (G.blk kb s H C cc fp) hc q.i2)
      (fun s H C cc fp => tstOf_ok (X := Blk X scope s H C cc fp) S hP hw hK hm hb (G.blk kb s H C cc fp) q.i3) (fun s H C cc fp => S.e _ _ _ _ hP hw hK hm hb (G.blk kb s H C cc fp) q.i4)
  rw [eq]
  exact stm_setComp hc (by rw [G.N]; exact G.nd) hy hyl hsw (itOf_ok S hP hw hK hm hb G q.i1) (G.blkOk q.blk) q.ix (fun s H C cc fp => tgOf_ok (G.blk kb s H C cc fp) hc q.i2)
    (fun s H C cc fp => tstOf_ok (X := Blk X scope s H C cc fp) S hP hw hK hm hb (G.blk kb s H C cc fp) q.i3) (fun s H C cc fp => S.e _ _ _ _ hP hw hK hm hb (G.blk kb s H C cc fp) q.i4) (fold0 q.ns)
theorem nameOf_ok {e : Expr} {x : Str} (h : nameOf e = some x) : ∃ p, e = .Name x p := by
  unfold nameOf at h
  split at h
  · cases h; exact ⟨_, rfl⟩
  · cases h
theorem twoOf_ok {e : Expr} {x y : Str} (h : twoOf e = some (x, y)) : ∃ q1 q2 q3 j, e = .Tuple [.Name x q1, .Name y q2] j q3 := by
  unfold twoOf at h
  split at h
  · cases h; exact ⟨_, _, _, _, rfl⟩
  · cases h
theorem isSortedSet_ok {c : Ct} {x : Str} {e a : Expr} (h : isSortedSet c x e = some a) : ∃ p q, x = "sorted" ∧ e = .Call (.Name "set" p) [a] [] q ∧ c.bi "set" = true ∧ notStar a = true := by
  unfold isSortedSet at h
  split at h
  · split at h
    · rename_i y p b q hh
      obtain ⟨h1, h2, h3, h4⟩ := hh
      cases h
      subst h2
      exact ⟨_, _, h1, rfl, h3, h4⟩
    · cases h
  · cases h
theorem isTupRg_ok {c : Ct} {x : Str} {e a : Expr} (h : isTupRg c x e = some a) : ∃ p q, x = "tuple" ∧ e = .Call (.Name "range" p) [a] [] q ∧ c.bi "range" = true ∧ notStar a = true := by
  unfold isTupRg at h
  split at h
  · split at h
    · rename_i y p b q hh
      obtain ⟨h1, h2, h3, h4⟩ := hh
      cases h
      subst h2
      exact ⟨_, _, h1, rfl, h3, h4⟩
    · cases h
  · cases h
theorem isVals_ok {e o : Expr} (h : isVals e = some o) : ∃ ap cp, e = .Call (.Attribute o "values" ap) [] [] cp ∧ okRecv o = true ∧ (ap.endLine == cp.line) = true := by
  unfold isVals at h
  split at h
  · split at h
    · rename_i o' m ap cp hh
      obtain ⟨h1, h2, h3⟩ := hh
      cases h
      subst h1
      exact ⟨_, _, rfl, h2, h3⟩
    · cases h
  · cases h
theorem cmpBi_ok (S : SndC P w K mg base CL cl k r) {X : Cx} {c : Ct} (hP : X.prog = P) (hw : X.w = w) (hK : X.K = K) (hm : X.mg = mg) (hb : X.base = base) (G : Good X CL cl k c) {x : Str} {args : List Expr} {s : SE} {p0 pos : Pos} (h : cmpBi r c x args = some s) :
    SndE X CL cl (.Call (.Name x p0) args [] pos) s := by
  unfold cmpBi at h
  split at h
  · rename_i hh
    obtain ⟨h0, h1, h2⟩ := hh
    have hc := (G.calm h0).1
    obtain ⟨g1, g2, g3⟩ := G.mgn h1
    split at h
    · rename_i a
      have sa : notStar a = true := by simpa using h2
      unfold cmpCall1 at h
      split at h
      · rename_i b hb2
        obtain ⟨p, q, rfl, rfl, h3, h4⟩ := isSortedSet_ok hb2
        split at h
        · rename_i sb hs
          cases h
          obtain ⟨g4, g5, g6⟩ := G.mgn h3
          exact snd_sortedSet hc G.un (S.e X c _ _ hP hw hK hm hb G hs) g1 g2 g4 g5 (star1 h4)
        · cases h
      split at h
      · rename_i b hb2
        obtain ⟨p, q, rfl, rfl, h3, h4⟩ := isTupRg_ok hb2
        split at h
        · rename_i sb hs
          cases h
          obtain ⟨g4, g5, g6⟩ := G.mgn h3
          exact snd_tupRg hc (S.e X c _ _ hP hw hK hm hb G hs) g1 g2 g4 g5 (star1 h4)
        · cases h
      split at h
      · rename_i b hb2
        obtain ⟨ap, cp, rfl, h3, h4⟩ := isVals_ok hb2
        split at h
        · rename_i o sb ho hs
          cases h
          unfold valsOp at ho
          split at ho
          · rename_i e; cases ho; subst e
            exact snd_listVals hc G.w (S.e X c _ _ hP hw hK hm hb G hs) (abase_ok h3) h4 g1 g2
          split at ho
          · rename_i e; cases ho; subst e
            exact snd_sortVals hc G.w (S.e X c _ _ hP hw hK hm hb G hs) (abase_ok h3) h4 g1 g2
          · cases ho
        · cases h
      · split at h
        · rename_i o sa' ho hs
          cases h
          exact snd_bi1 hc G.un G.w ho (S.e X c _ _ hP hw hK hm hb G hs) g1 g2 (nmOk_n g3) (nmOk_d g3) (star1 sa)
        · cases h
    · rename_i a b
      have sab : notStar a = true ∧ notStar b = true := by simpa using h2
      split at h
      · rename_i hi
        subst hi
        unfold cmpIsi at h
        split at h
        · rename_i T hT
          obtain ⟨p, rfl⟩ := nameOf_ok hT
          split at h
          · rename_i hbT
            split at h
            · rename_i t sa' ht hs
              cases h
              obtain ⟨g4, g5, g6⟩ := G.mgn hbT
              exact snd_isi (S.e X c _ _ hP hw hK hm hb G hs) g1 g2 g4 g5 (tyOf_ok ht) (nmOk_n g6) (nmOk_d g6) (star1 sab.1)
            · cases h
          · cases h
        · unfold cmpIsi2 at h
          split at h
          · rename_i T U hT
            obtain ⟨q1, q2, q3, j, rfl⟩ := twoOf_ok hT
            split at h
            · rename_i hbT
              split at h
              · rename_i t u sa' ht hu hs
                cases h
                obtain ⟨g4, g5, g6⟩ := G.mgn hbT.1
                obtain ⟨g7, g8, g9⟩ := G.mgn hbT.2
                exact snd_isi2 (S.e X c _ _ hP hw hK hm hb G hs) g1 g2 g4 g5 (tyOf_ok ht) (nmOk_n g6) (nmOk_d g6) g7 g8 (tyOf_ok hu) (nmOk_n g9) (nmOk_d g9) (star1 sab.1)
              · cases h
            · cases h
          · cases h
      · split at h
        · rename_i o sa' sb' ho hs1 hs2
          cases h
          exact snd_bi2 hc ho (S.e X c _ _ hP hw hK hm hb G hs1) (S.e X c _ _ hP hw hK hm hb G hs2) g1 g2 (nmOk_n g3) (nmOk_d g3) (star1 sab.1) (star1 sab.2)
        · cases h
    · cases h
  · cases h
theorem cmpCall_ok (S : SndC P w K mg base CL cl k r) {X : Cx} {c : Ct} (hP : X.prog = P) (hw : X.w = w) (hK : X.K = K) (hm : X.mg = mg) (hb : X.base = base) (G : Good X CL cl k c) {x : Str} {args : List Expr} {s : SE} {p0 pos : Pos} (h : cmpCall r c x args = some s) :
    SndE X CL cl (.Call (.Name x p0) args [] pos) s := by
  unfold cmpCall at h
  split at h
  · rename_i ar hf
    split at h
    · rename_i hh
      obtain ⟨h0, h1, h2, h3, h4, h5⟩ := hh
      split at h
      · rename_i as hs
        cases h
        obtain ⟨q1, q2, q3⟩ := dsOf_ok (fun e s z => S.e X c e s hP hw hK hm hb G z) _ _ hs
        cases args with
        | nil => exact absurd rfl h4
        | cons a es =>
          rw [List.all_cons, Bool.and_eq_true] at h5
          exact snd_call (G.fns x ar hf) ((G.calm h0).2.mono (Nat.le_succ k)) (G.gl x h1) (nmOk_d h2) q1 h3 (fun r M ds M' e => (q3 r M ds M' e).trans h3) (star1 h5.1) (starAll h5.2)
      · cases h
    · cases h
  · split at h
    · rename_i ar hf
      split at h
      · rename_i hh
        obtain ⟨h0, h1, h2, h3, h5⟩ := hh
        split at h
        · rename_i as hs
          cases h
          obtain ⟨q1, q2, q3⟩ := dsOf_ok (fun e s z => S.e X c e s hP hw hK hm hb G z) _ _ hs
          cases args with
          | nil =>
            simp only [dsOf] at hs; cases hs
            subst h3
            exact snd_new0 (G.new x _ hf) (G.calm h0).2 (G.gl x h1) (nmOk_d h2)
          | cons a es =>
            rw [List.all_cons, Bool.and_eq_true] at h5
            exact snd_new (G.new x ar hf) (G.calm h0).2 (G.gl x h1) (nmOk_d h2) q1 (fun r M ds M' e => by rw [q3 r M ds M' e]; exact h3) (star1 h5.1) (starAll h5.2)
        · cases h
      · cases h
    · exact cmpBi_ok S hP hw hK hm hb G h
theorem cmpO_ok (S : SndC P w K mg base CL cl k r) {X : Cx} {c : Ct} (hP : X.prog = P) (hw : X.w = w) (hK : X.K = K) (hm : X.mg = mg) (hb : X.base = base) (G : Good X CL cl k c) {o : Option Expr} {s : SO} (h : cmpO r c o = some s) : SndO X CL cl o s := by
  cases o with
  | none => simp only [cmpO] at h; cases h; exact ond_none
  | some a =>
    simp only [cmpO] at h
    split at h
    · rename_i sa hs
      cases h
      exact ond_some (S.e X c _ _ hP hw hK hm hb G hs)
    · cases h
theorem cmpMeth_ok (S : SndC P w K mg base CL cl k r) {X : Cx} {c : Ct} (hP : X.prog = P) (hw : X.w = w) (hK : X.K = K) (hm : X.mg = mg) (hb : X.base = base) (G : Good X CL cl k c) {o : Expr} {m : Str} {args : List Expr} {ln : Bool} {s : SE} {apos cpos : Pos} (h : cmpMeth r c o m args ln = some s) (hl : ln = (apos.endLine == cpos.line)) :
    SndE X CL cl (.Call (.Attribute o m apos) args [] cpos) s := by
  have ev : ∀ e s, r.e c e = some s → SndE X CL cl e s := fun e s z => S.e X c e s hP hw hK hm hb G z
  unfold cmpMeth at h
  split at h
  · rename_i hh
    obtain ⟨h0, h1, h2⟩ := hh
    rw [hl] at h1
    split at h
    · split at h
      · rename_i mm so e1 e2
        split at h
        · cases h; exact snd_mt0 e1 (ev _ _ e2) (abase_ok h0) h1
        · cases h; exact snd_nt0 e1 (ev _ _ e2) (abase_ok h0) h1
      · cases h
    · split at h
      · rename_i hp
        obtain ⟨_, rfl⟩ := hp
        have sa' := star1 (es := []) (env := X.env) (by simpa using h2)
        split at h
        · rename_i so sa e2 e3
          cases h
          exact snd_dpop1 G.un G.w (ev _ _ e2) (ev _ _ e3) (abase_ok h0) h1 sa'
        · cases h
      split at h
      · rename_i mm so sa e1 e2 e3
        have sa' := star1 (es := []) (env := X.env) (by simpa using h2)
        split at h
        · cases h; exact snd_mt1 e1 (ev _ _ e2) (ev _ _ e3) (abase_ok h0) h1 sa'
        · cases h; exact snd_nt1 e1 (ev _ _ e2) (ev _ _ e3) (abase_ok h0) h1 sa'
      · cases h
    · rename_i a b
      have sab : notStar a = true ∧ notStar b = true := by simpa using h2
      split at h
      · rename_i mm _ so sa sb e1 e2 e3 e4
        cases h
        exact snd_mt2 e1 (ev _ _ e2) (ev _ _ e3) (ev _ _ e4) (abase_ok h0) h1 (star1 sab.1) (star1 sab.2)
      · rename_i mm so sa sb e0 e1 e2 e3 e4
        cases h
        exact snd_mtd2 G.un G.w e1 (ev _ _ e2) (ev _ _ e3) (ev _ _ e4) (abase_ok h0) h1 (star1 sab.1) (star1 sab.2)
      · cases h
    · cases h
  · cases h
theorem cmpTxt_ok (S : SndC P w K mg base CL cl k r) {X : Cx} {c : Ct} (hP : X.prog = P) (hw : X.w = w) (hK : X.K = K) (hm : X.mg = mg) (hb : X.base = base) (G : Good X CL cl k c) {o : Expr} {m : Str} {args : List Expr} {ln : Bool} {s : SE} {apos cpos : Pos} (h : cmpTxt r c o m args ln = some s) (hl : ln = (apos.endLine == cpos.line)) :
    SndE X CL cl (.Call (.Attribute o m apos) args [] cpos) s := by
  have ev : ∀ e s, r.e c e = some s → SndE X CL cl e s := fun e s z => S.e X c e s hP hw hK hm hb G z
  unfold cmpTxt at h
  split at h
  · rename_i hh
    obtain ⟨h0, h1, h2⟩ := hh
    rw [hl] at h1
    split at h
    · rename_i a
      have sa' := star1 (es := []) (env := X.env) (by simpa using h2 : notStar a = true)
      split at h
      · rename_i so sa e1 e2
        split at h
        · rename_i e; cases h; subst e; exact snd_split (ev _ _ e1) (ev _ _ e2) (abase_ok h0) h1 sa'
        split at h
        · rename_i e; cases h; subst e; exact snd_join (ev _ _ e1) (ev _ _ e2) (abase_ok h0) h1 sa'
        · cases h
      · cases h
    · cases h
  · cases h
theorem few_ok {env : PySem.Env} {pos : Pos} : ∀ {es : List Expr}, es.all notStar = true → (backTo pos (starEach es env)).all (!·.1) = true
  | [], _ => rfl
  | a :: es, h => by
    rw [List.all_cons, Bool.and_eq_true] at h
    rw [star1 h.1]
    have := few_ok (env := env) (pos := pos) h.2
    simp only [backTo, List.map_cons, List.all_cons, Bool.not_false, Bool.true_and] at this ⊢
    exact this
theorem cmpObj_ok (S : SndC P w K mg base CL cl k r) {X : Cx} {c : Ct} (hP : X.prog = P) (hw : X.w = w) (hK : X.K = K) (hm : X.mg = mg) (hb : X.base = base) (G : Good X CL cl k c) {o : Expr} {m : Str} {args : List Expr} {ln : Bool} {s : SE} {apos cpos : Pos} (h : cmpObj r c o m args ln = some s) (hl : ln = (apos.endLine == cpos.line)) :
    SndE X CL cl (.Call (.Attribute o m apos) args [] cpos) s := by
  have ev : ∀ e s, r.e c e = some s → SndE X CL cl e s := fun e s z => S.e X c e s hP hw hK hm hb G z
  unfold cmpObj at h
  split at h
  · rename_i hh
    obtain ⟨h00, hmt, h0, h1, h2, h3⟩ := hh
    rw [hl] at h1
    split at h
    · rename_i so as e1 e2
      cases h
      have hr := (G.calm h00).2.mono (Nat.le_succ k)
      cases args with
      | nil =>
        simp only [dsOf] at e2; cases e2
        exact snd_meth0 (G.mth m hmt) hr (ev _ _ e1) (abase_ok h0) h1
      | cons a es =>
        have h2' := h2
        rw [List.all_cons, Bool.and_eq_true] at h2'
        refine snd_meth (G.mth m hmt) hr (ev _ _ e1) (dsOf_ok ev _ _ e2).1 (abase_ok h0) ?_ h1 (star1 h2'.1) (starAll h2'.2)
        unfold methodCallForm
        rw [few_ok h2]
        simp only [List.all_nil, List.isEmpty_nil, if_true, Bool.and_self, Bool.true_and]
        exact decide_eq_true (by omega)
    · cases h
  · cases h
theorem cmpAny_ok (S : SndC P w K mg base CL cl k r) {X : Cx} {c : Ct} (hP : X.prog = P) (hw : X.w = w) (hK : X.K = K) (hm : X.mg = mg) (hb : X.base = base) (G : Good X CL cl k c) {o : Expr} {m : Str} {args : List Expr} {ln : Bool} {s : SE} {apos cpos : Pos} (h : cmpAny r c o m args ln = some s) (hl : ln = (apos.endLine == cpos.line)) :
    SndE X CL cl (.Call (.Attribute o m apos) args [] cpos) s := by
  unfold cmpAny at h
  split at h
  · rename_i e; cases h; exact cmpMeth_ok S hP hw hK hm hb G e hl
  split at h
  · rename_i e; cases h; exact cmpTxt_ok S hP hw hK hm hb G e hl
  · exact cmpObj_ok S hP hw hK hm hb G h hl
theorem fsParts_ok (S : SndC P w K mg base CL cl k r) {X : Cx} {c : Ct} (hP : X.prog = P) (hw : X.w = w) (hK : X.K = K) (hm : X.mg = mg) (hb : X.base = base) (G : Good X CL cl k c) : ∀ (es : List Expr) (ss : List SE), fsParts r c es = some ss → FsParts X CL cl es ss
  | [], ss, h => by simp only [fsParts] at h; cases h; exact .nil
  | e :: es, ss, h => by
    unfold fsParts at h
    split at h
    · rename_i s ss' h1 h2
      cases h
      refine .cons ?_ (fsParts_ok S hP hw hK hm hb G es ss' h2)
      unfold fsPart at h1
      split at h1
      · cases h1; exact .con pe_str
      · split at h1
        · rename_i hk
          subst hk
          exact .fmt (S.e X c _ _ hP hw hK hm hb G h1)
        · cases h1
      · cases h1
    · cases h
theorem cmpFs_ok (S : SndC P w K mg base CL cl k r) {X : Cx} {c : Ct} (hP : X.prog = P) (hw : X.w = w) (hK : X.K = K) (hm : X.mg = mg) (hb : X.base = base) (G : Good X CL cl k c) {vs : List Expr} {s : SE} {pos : Pos} (h : cmpFs r c vs = some s) : SndE X CL cl (.JoinedStr vs pos) s := by
  unfold cmpFs at h
  split at h
  · split at h
    · rename_i ss h1
      cases h
      exact snd_fs (fsParts_ok S hP hw hK hm hb G _ _ h1)
    · cases h
  · cases h
theorem stepE_ok (S : SndC P w K mg base CL cl k r) {X : Cx} {c : Ct} (hP : X.prog = P) (hw : X.w = w) (hK : X.K = K) (hm : X.mg = mg) (hb : X.base = base) (G : Good X CL cl k c) {e : Expr} {s : SE} (h : stepE r c e = some s) : SndE X CL cl e s := by
  have ev : ∀ e s, r.e c e = some s → SndE X CL cl e s := fun e s z => S.e X c e s hP hw hK hm hb G z
  have tv : ∀ e s, r.t c e = some s → SndT X CL cl e s := fun e s z => S.t X c e s hP hw hK hm hb G z
  unfold stepE at h
  split at h
  · exact cmpName_ok G h
  · rename_i kk _ _
    cases kk <;> simp only [cmpConst] at h <;> cases h
    · exact snd_non
    · exact snd_bl
    · exact snd_int
    · exact snd_str
  · split at h
    · rename_i o sa sb h1 h2 h3
      cases h
      obtain ⟨rr, q1, q2⟩ := opB_ok (X := X) (CL := CL) h1
      exact snd_op2 q1 q2 (ev _ _ h2) (ev _ _ h3)
    · cases h
  · split at h
    · rename_i sa h1; cases h; exact snd_not (ev _ _ h1)
    · cases h
  · split at h
    · rename_i sa h1; cases h; exact snd_neg (ev _ _ h1)
    · cases h
  · exact boE_ok ev _ _ h
  · split at h
    · rename_i hs
      split at h
      · rename_i o sa sb h1 h2 h3
        cases h
        obtain ⟨rr, q1, q2⟩ := opC_ok (X := X) (CL := CL) G.un5 G.w h1
        exact snd_cmp2 q1 q2 (ev _ _ h2) (ev _ _ h3) (mark0 hs)
      · cases h
    · cases h
  · split at h
    · rename_i st sa sb h1 h2 h3
      cases h
      exact snd_if (tv _ _ h1) (ev _ _ h2) (ev _ _ h3)
    · cases h
  · split at h
    · rename_i as h1; cases h; exact snd_tup (dsOf_ok ev _ _ h1).1
    · cases h
  · split at h
    · rename_i as h1; cases h; exact snd_lst (dsOf_ok ev _ _ h1).1
    · cases h
  · cases h; exact snd_dic0
  · split at h
    · rename_i hk
      split at h
      · rename_i ps h1
        cases h
        exact snd_dic G.w (psOf_ok ev _ _ _ h1) hk.1 hk.2
      · cases h
    · cases h
  · split at h
    · rename_i sa sl sh h1 h2 h3
      cases h
      exact snd_slice (ev _ _ h1) (cmpO_ok S hP hw hK hm hb G h2) (cmpO_ok S hP hw hK hm hb G h3)
    · cases h
  · split at h
    · rename_i sa h1; cases h; exact snd_rev (ev _ _ h1)
    · cases h
  · split at h
    · rename_i hk
      split at h
      · rename_i sa sl sh h1 h2 h3
        cases h
        exact snd_stepI hk (ev _ _ h1) (cmpO_ok S hP hw hK hm hb G h2) (cmpO_ok S hP hw hK hm hb G h3)
      · cases h
    · cases h
  · split at h
    · rename_i hs
      split at h
      · rename_i sa sb h1 h2
        cases h
        exact snd_ix G.un G.w (ev _ _ h1) (ev _ _ h2) (plainIx_b hs)
      · cases h
    · cases h
  · split at h
    · rename_i hi
      subst hi
      exact snd_cmpComp S hP hw hK hm hb G h
    · cases h
  · exact cmpFs_ok S hP hw hK hm hb G h
  · exact cmpCall_ok S hP hw hK hm hb G h
  · exact cmpAny_ok S hP hw hK hm hb G h rfl
  · split at h
    · rename_i hk
      split at h
      · rename_i so h1; cases h; exact snd_fld (G.fld _ hk.2) (ev _ _ h1) (abase_ok hk.1)
      · cases h
    · cases h
  · cases h
theorem stepT_ok (S : SndC P w K mg base CL cl k r) {X : Cx} {c : Ct} (hP : X.prog = P) (hw : X.w = w) (hK : X.K = K) (hm : X.mg = mg) (hb : X.base = base) (G : Good X CL cl k c) {e : Expr} {s : STt} (h : stepT r c e = some s) : SndT X CL cl e s := by
  have ev : ∀ e s, r.e c e = some s → SndE X CL cl e s := fun e s z => S.e X c e s hP hw hK hm hb G z
  have tv : ∀ e s, r.t c e = some s → SndT X CL cl e s := fun e s z => S.t X c e s hP hw hK hm hb G z
  unfold stepT at h
  split at h
  · split at h
    · rename_i sa h1; cases h; exact tnd_not (tv _ _ h1)
    · cases h
  · exact wnd_t (boT_ok tv _ _ h)
  · split at h
    · rename_i hs
      split at h
      · rename_i o sa sb h1 h2 h3
        cases h
        obtain ⟨rr, q1, q2⟩ := opC_ok (X := X) (CL := CL) G.un5 G.w h1
        exact tnd_tB q1 q2 (ev _ _ h2) (ev _ _ h3) (mark0 hs)
      · cases h
    · cases h
  · split at h
    · rename_i hp
      split at h
      · rename_i sa h1; cases h; exact tnd_tru (ev _ _ h1) (plainT_ok hp)
      · cases h
    · cases h
theorem cmp_ok : ∀ n, SndC P w K mg base CL cl k (cmp n)
  | 0 => ⟨fun X c e s _ _ _ _ _ _ h => by simp [cmp] at h, fun X c e s _ _ _ _ _ _ h => by simp [cmp] at h⟩
  | n + 1 => ⟨fun X c e s hP hw hK hm hb G h => stepE_ok (cmp_ok n) hP hw hK hm hb G h, fun X c e s hP hw hK hm hb G h => stepT_ok (cmp_ok n) hP hw hK hm hb G h⟩
end
end MI
end
section
set_option Elab.async false
set_option linter.all false
set_option maxRecDepth 100000
set_option maxHeartbeats 4000000
/-! MI17: exceptions: what is raised, what a suite asks of it -/
namespace MI
open PySem PySem.Spec PyProof.Rows L2
/-- what is known of the classes -/
structure ExF (X : Cx) (CL : CLs) (exs : List Str) : Prop where
  made : ∀ x ∈ exs, ∃ C, CL x = some C ∧ X.mg x = some (.ref C) ∧ PySem.W.excIn X.K C [.type "ValueError", .type "Exception", .type "BaseException", .type "object"] "ValueError.__new__" = true ∧ PySem.W.keepIn X.K (.ref C) = true ∧
    PySem.W.subIn X.K (.ref C) (.type "BaseException") = some true ∧ PySem.W.typeIn X.K (.ref C) = some (.type "type") ∧ ExcC X.K C
  kit : ∀ x ∈ exs, ∀ y ∈ exs, ∀ C D, CL x = some C → CL y = some D → PySem.W.kitOne X.K (.ref C) (.ref D) = some (subX x y)
  kitV : ∀ x ∈ exs, ∀ C, CL x = some C → PySem.W.kitOne X.K (.ref C) (.type "ValueError") = some true
  exm : ∀ x, ∀ y ∈ exs, ∀ C D, CL x = some C → CL y = some D → PySem.W.exmOne X.K (.ref C) (.ref D) = some (catX exs y x)
  own : ("ValueError" : Str) ∉ exs

/-! ### reading a suite -/
def clsNames (c : Ct) (exs : List Str) : List Expr → Option (List Str)
  | [] => some []
  | .Name d _ :: r => if d ∈ exs ∧ c.gl d = true ∧ nmOk d = true then match clsNames c exs r with
      | some ds => some (d :: ds)
      | none => none
    else none
  | _ => none
def clsOf (c : Ct) (exs : List Str) : Expr → Option (List Str)
  | .Name d _ => if (d ∈ exs ∧ c.gl d = true ∧ nmOk d = true) ∨ (d = "ValueError" ∧ c.bi d = true) then some [d] else none
  | .Tuple es _ _ => if es.length ≤ 100 then clsNames c exs es else none
  | _ => none
def suIsi (c : Ct) (exs : List Str) (n : Str) : Expr → Option (List Str)
  | .Call (.Name f _) [.Name y _, cls] [] _ => if f = "isinstance" ∧ y = n ∧ c.bi f = true ∧ nmOk n = true ∧ c.vis n = true ∧ notStar cls = true then clsOf c exs cls else none
  | _ => none
def suN (c : Ct) (exs : List Str) (n : Str) (e : Expr) : Option (Bool × List Str) :=
  match e with
  | .UnaryOp .Not a _ => match suIsi c exs n a with
    | some cs => some (true, cs)
    | none => none
  | e => match suIsi c exs n e with
    | some cs => some (false, cs)
    | none => none
def suI (c : Ct) (exs : List Str) (n : Str) (e : Expr) : Option SuI :=
  match e with
  | .BoolOp .Or [a, b] _ => match suN c exs n a, suN c exs n b with
    | some (n1, cs1), some (n2, cs2) => some (.or2 n1 cs1 n2 cs2)
    | _, _ => none
  | .Name x _ => if nmOk x = true ∧ c.vis x = true then match idx x c.N with
      | some j => some (.var j)
      | none => none
    else none
  | .UnaryOp .Not a _ => match suIsi c exs n a with
    | some cs => some (.isi true cs)
    | none => none
  | e => match suIsi c exs n e with
    | some cs => some (.isi false cs)
    | none => none
def suIs (c : Ct) (exs : List Str) (n : Str) : List Expr → Option (List SuI)
  | [] => some []
  | e :: r => if notStar e = true then match suI c exs n e, suIs c exs n r with
      | some s, some q => some (s :: q)
      | _, _ => none
    else none
def suS (c : Ct) (exs : List Str) (n : Str) (i : Nat) : Stmt → Option SuS
  | .Assign [.Name x _] (.List es _) _ => if c.st x = true ∧ es.length ≤ 100 then match idx x c.N, suIs c exs n es with
      | some j, some its => if j = i then none else some (.lst j false its)
      | _, _ => none
    else none
  | .Assign [.Name x _] (.BinOp (.Name y _) .Add (.List es _) _) _ => if c.st x = true ∧ y = x ∧ nmOk x = true ∧ es.length ≤ 100 then match idx x c.N, suIs c exs n es with
      | some j, some its => if j = i then none else some (.lst j true its)
      | _, _ => none
    else none
  | .Assign [.Name x _] (.Constant (.bool b) _ _) _ => if c.st x = true then match idx x c.N with
      | some j => if j = i then none else some (.con j b)
      | none => none
    else none
  | .Assign [.Name x _] e _ => if c.st x = true ∧ notComp e = true then match idx x c.N, suI c exs n e with
      | some j, some it => if j = i then none else some (.one j it)
      | _, _ => none
    else none
  | _ => none
def suSs (c : Ct) (exs : List Str) (n : Str) (i : Nat) : List Stmt → Option (List SuS)
  | [] => some []
  | s :: r => match suS c exs n i s, suSs c exs n i r with
    | some s, some q => some (s :: q)
    | _, _ => none

/-- a suite that asks nothing of the exception -/
def suO (c : Ct) : List Stmt → Option (List SuS)
  | [] => some []
  | .Assign [.Name x _] (.Constant (.bool b) _ _) _ :: r => if c.st x = true then match idx x c.N, suO c r with
      | some j, some q => some (.con j b :: q)
      | _, _ => none
    else none
  | .Return (some (.Constant .none _ _)) _ :: r => match suO c r with
    | some q => some (.rnn :: q)
    | none => none
  | _ => none

section
variable {X : Cx} {CL : CLs} {cl : Cl} {k : Nat} {c : Ct} {exs : List Str}
/-- isinstance(e, (A, B, ..)), e the exception that the suite holds -/
def rIsET (K : PySem.W.Frag) (D a : Addr) : List V → Hp → VK → Prop := fun xs H Q => ∃ (tp : Addr) (cs : List V) (us : List Value) (b : Bool), xs = [.ref a, .ref tp] ∧ H tp = some (.tup cs) ∧ (∀ ws, Vals cs ws → ws = us) ∧ PySem.W.kitAny K (.ref D) us = some b ∧ Q (.bl b) H
theorem call_isET {X : Cx} {a D : Addr} {oe : Obj} {pn : List (Addr × Obj)} (C : ExcC X.K D) (hz : Zc (.ref D) none oe) (hf : ∃ vs, oe.data = .fields vs) : CallR (X.suite a ((a, oe) :: pn)) (.builtin "isinstance") (rIsET X.K D a) := by
  intro pins s σ H xs us Q I r h
  obtain ⟨tp, cs, ws, b, rfl, hT, hcv, e, q⟩ := h
  cases r with
  | cons rx rr =>
    cases rr with
    | cons rt rr =>
      cases rr
      cases rx
      cases rt
      obtain ⟨hget, _⟩ := I.pin (a, oe) (List.mem_append.mpr (.inl List.mem_cons_self))
      obtain ⟨vs, hv⟩ := hf
      have J : PySem.W.InstAt s.heap a oe D none := by
        obtain ⟨oc, od, oda, osl⟩ := oe
        obtain ⟨h1, h2⟩ := hz
        dsimp only at h1 h2 hv
        subst h1 h2 hv
        exact ⟨hget, rfl, rfl, trivial⟩
      obtain ⟨_, its, rv, o, h1, h2, n, h3⟩ := (show ObjOk X.prog X.w H s.heap tp (.tup cs) from I.hok tp _ hT)
      have e3 := hcv _ rv
      subst e3
      obtain ⟨oc, od, dt, sl⟩ := o
      simp only at h2 h3
      subst h2 h3
      exact PySem.W.kia_tup (PySem.W.handS_kitx_exc C.hg C.hk C.hs C.hd C.ha C.hn C.ht C.hm) I.kIn J h1 e (fun z => nomatch z) fun tk => ⟨.bl b, H, I.kept (t' := tk) fun _ _ z => z, rfl, q⟩
/-- an expression in a suite: where the exception's slot holds it -/
def ESu (X : Cx) (i : Nat) (a : Addr) (e : Expr) (b : Bool) : Prop := PE X e fun σ H Q => σ[i]? = some (some (.ref a)) ∧ ∀ H', (∀ p o, H p = some o → H' p = some o) → (∀ p, H' p = none → H p = none) → Q (.bl b) H'
theorem clsNames_ok (G : Good X CL cl k c) (F : ExF X CL exs) : ∀ (es : List Expr) (ds : List Str), clsNames c exs es = some ds → ∃ (Cs : List Addr), PA X es (fun σ H Q => Q (Cs.map V.ref) H) ∧ Cs.length = es.length ∧ ds.length = es.length ∧ es.all notStar = true ∧
    (∀ (j : Nat) d C, ds[j]? = some d → Cs[j]? = some C → d ∈ exs ∧ CL d = some C)
  | [], ds, h => by
    simp only [clsNames] at h; cases h
    exact ⟨[], pa_imp pa_nil fun _ _ _ z => z, rfl, rfl, rfl, fun j d C e => by simp at e⟩
  | e :: r, ds, h => by
    cases e with
    | Name d p =>
      simp only [clsNames] at h
      split at h
      · rename_i hd
        split at h
        · rename_i ds' h1
          cases h
          obtain ⟨Cs, q1, q2, q3, q4, q5⟩ := clsNames_ok G F r ds' h1
          obtain ⟨C, z1, z2, _⟩ := F.made d hd.1
          refine ⟨C :: Cs, pa_imp (pa_cons (pe_glob (v := .ref C) (G.gl d hd.2.1) z2 rfl (nmOk_d hd.2.2)) q1 rfl) fun _ _ _ z => z, by simp [q2], by simp [q3], by simp [q4, notStar], fun j d' C' e1 e2 => ?_⟩
          cases j with
          | zero => simp at e1 e2; subst e1; subst e2; exact ⟨hd.1, z1⟩
          | succ j => exact q5 j d' C' (by simpa using e1) (by simpa using e2)
        · cases h
      · cases h
    | _ => simp [clsNames] at h
theorem kitAny_sub (F : ExF X CL exs) {y : Str} {C : Addr} (hy : y ∈ exs) (hC : CL y = some C) : ∀ (ds : List Str) (Cs : List Addr), ds.length = Cs.length → (∀ (j : Nat) d C, ds[j]? = some d → Cs[j]? = some C → d ∈ exs ∧ CL d = some C) →
    PySem.W.kitAny X.K (.ref C) (Cs.map Value.ref) = some (ds.any (subX y))
  | [], [], _, _ => rfl
  | d :: ds, D :: Cs, hl, h => by
    obtain ⟨h1, h2⟩ := h 0 d D rfl rfl
    have ih := kitAny_sub F hy hC ds Cs (by simpa using hl) fun j d' C' e1 e2 => h (j + 1) d' C' (by simpa using e1) (by simpa using e2)
    have q := F.kit y hy d h1 C D hC h2
    rw [List.map_cons, List.any_cons]
    refine kitAny_cons q (fun e => ?_) (fun e => ?_)
    · rw [e, Bool.false_or]; exact ih
    · rw [e, Bool.true_or]
  | [], _ :: _, hl, _ => by simp at hl
  | _ :: _, [], hl, _ => by simp at hl
theorem vals_refs : ∀ {Cs : List Addr} {ws : List Value}, Vals (Cs.map V.ref) ws → ws = Cs.map Value.ref
  | [], ws, h => by cases h; rfl
  | C :: Cs, ws, h => by
    cases h with
    | cons r t => cases r; rw [vals_refs t]; rfl
theorem clsNames_calm (c : Ct) (exs : List Str) (b : Bool) : ∀ es, clsNames { c with calm := b } exs es = clsNames c exs es
  | [] => rfl
  | e :: r => by
    cases e with
    | Name d p => simp only [clsNames, clsNames_calm c exs b r]; rfl
    | _ => rfl
variable {a : Addr} {oe : Obj} {pn : List (Addr × Obj)} {y n : Str} {C : Addr} {i : Nat}
/-- the suite's context -/
abbrev Su (X : Cx) (a : Addr) (oe : Obj) (pn : List (Addr × Obj)) : Cx := X.suite a ((a, oe) :: pn)
theorem Good.suite (G : Good X CL cl k c) : Good (Su X a oe pn) CL cl k { c with calm := false } :=
  ⟨G.N, G.nd, G.vis, G.gl, G.loc, G.cel, G.cf, G.knd, G.bl, G.kon, fun x ar h => ⟨(G.fns x ar h).ok⟩, G.un5, G.w, fun h => (by cases h), fun x ar h => ⟨(G.new x ar h).ok⟩, fun f h c C e => G.fld f h c C e, fun m h c C e => (G.mth m h c C e).imp (fun ⟨ar, g⟩ => ⟨ar, ⟨g.cls, g.ok, g.bad⟩⟩) id, G.cx⟩
theorem ExF.suite (F : ExF X CL exs) : ExF (Su X a oe pn) CL exs := ⟨F.made, F.kit, F.kitV, F.exm, F.own⟩
theorem suIsi_ok (G : Good X CL cl k c) (F : ExF X CL exs) (hi : idx n c.N = some i) (hy : y ∈ exs) (hC : CL y = some C) (hz : Zc (.ref C) none oe) (hf : ∃ vs, oe.data = .fields vs) {e : Expr} {cs : List Str} (h : suIsi c exs n e = some cs) : ESu (Su X a oe pn) i a e (cs.any (subX y)) := by
  obtain ⟨C', w1, _, _, _, _, _, EC⟩ := F.made y hy
  rw [hC] at w1; cases w1
  have G' : Good (Su X a oe pn) CL cl k { c with calm := false } := G.suite
  unfold suIsi at h
  split at h
  · rename_i f p y' p' cls pos
    split at h
    · rename_i hh
      obtain ⟨rfl, rfl, h1, h2, h3, h4⟩ := hh
      obtain ⟨g1, g2, g3⟩ := G.mgn h1
      have var : PE (Su X a oe pn) (.Name y' p') (tVar i) := pe_var (by rw [G'.N]; exact idx_ok hi) (G'.vis y' h3) (nmOk_d h2) (nmOk_c h2)
      unfold clsOf at h
      split at h
      · rename_i d pd
        split at h
        · rename_i hd
          cases h
          rcases hd with ⟨hd, hg, hn⟩ | ⟨rfl, hb⟩
          · obtain ⟨D, z1, z2, _⟩ := F.made d hd
            refine pe_imp (pe_callB (call_isE EC hz hf) (G'.gl _ (by unfold Ct.bi at h1; simp only [Bool.and_eq_true] at h1; exact h1.1)) g2 PyProof.Rows.boot_isinstance (pa_cons var (pa_cons (pe_glob (v := .ref D) (G'.gl d hg) z2 rfl (nmOk_d hn)) pa_nil rfl) rfl) (by decide) (by decide) rfl rfl) fun σ H Q h => ?_
            refine ⟨_, h.1, .ref D, .ref D, _, rfl, fun u hu => hu, F.kit y hy d hd C D hC z1, ?_⟩
            rw [show ([d].any (subX y)) = subX y d by simp] at h
            exact h.2 H (fun _ _ z => z) fun _ z => z
          · obtain ⟨g4, g5, g6⟩ := G.mgn hb
            refine pe_imp (pe_callB (call_isE EC hz hf) (G'.gl _ (by unfold Ct.bi at h1; simp only [Bool.and_eq_true] at h1; exact h1.1)) g2 PyProof.Rows.boot_isinstance (pa_cons var (pa_cons (pe_bltn (v := .ty "ValueError") (G'.gl _ (by unfold Ct.bi at hb; simp only [Bool.and_eq_true] at hb; exact hb.1)) g5 (by decide +kernel) rfl (nmOk_n g6) (nmOk_d g6)) pa_nil rfl) rfl) (by decide) (by decide) rfl rfl) fun σ H Q h => ?_
            refine ⟨_, h.1, .ty "ValueError", _, true, rfl, fun u hu => hu, F.kitV y hy C hC, ?_⟩
            have e : ([("ValueError" : Str)].any (subX y)) = true := by simp [subX]
            rw [e] at h
            exact h.2 H (fun _ _ z => z) fun _ z => z
        · cases h
      · rename_i es q1 q2
        split at h
        · rename_i hl
          obtain ⟨Cs, z1, z2, z3, z4, z5⟩ := clsNames_ok G'  (exs := exs) (F.suite) es cs (by rw [clsNames_calm]; exact h)
          refine pe_imp (pe_callB (call_isET EC hz hf) (G'.gl _ (by unfold Ct.bi at h1; simp only [Bool.and_eq_true] at h1; exact h1.1)) g2 PyProof.Rows.boot_isinstance (pa_cons var (pa_cons (pe_tup z1) pa_nil rfl) rfl) (by decide) (by decide) rfl rfl) fun σ H Q h => ?_
          refine ⟨_, h.1, ?_⟩
          refine ⟨by rw [List.length_map, z2]; exact Nat.le_trans hl (by decide), fun p np => ?_⟩
          refine ⟨p, _, _, _, rfl, upd_same, fun ws hw => vals_refs hw, kitAny_sub F hy hC cs Cs (by omega) z5, h.2 _ (fun b o e => ?_) fun b e => ?_⟩
          · rw [upd_ne (ne_of_none e np)]; exact e
          · by_cases hb : b = p
            · subst hb; rw [upd_same] at e; cases e
            · rw [upd_ne hb] at e; exact e
        · cases h
      · cases h
    · cases h
  · cases h
theorem suN_ok (G : Good X CL cl k c) (F : ExF X CL exs) (hi : idx n c.N = some i) (hy : y ∈ exs) (hC : CL y = some C) (hz : Zc (.ref C) none oe) (hf : ∃ vs, oe.data = .fields vs) {e : Expr} {q : Bool × List Str} (h : suN c exs n e = some q) : ESu (Su X a oe pn) i a e (isiV y q.1 q.2) := by
  unfold suN at h
  split at h
  · split at h
    · rename_i cs h1
      cases h
      refine pe_imp (pe_notT (suIsi_ok G F hi hy hC hz hf h1)) fun σ H Q h => ⟨h.1, fun H' k1 k2 => ⟨_, (show cs.any (subX y) = cs.any (subX y) from rfl), ?_⟩⟩
      have := h.2 H' k1 k2
      simpa only [isiV, if_true] using this
    · cases h
  · split at h
    · rename_i cs h1
      cases h
      refine pe_imp (suIsi_ok G F hi hy hC hz hf h1) fun σ H Q h => ?_
      simpa only [isiV, Bool.false_eq_true, if_false] using h
    · cases h
theorem su_or {X : Cx} {i : Nat} {a : Addr} {e1 e2 : Expr} {b1 b2 : Bool} {pos : Pos} (h1 : ESu X i a e1 b1) (h2 : ESu X i a e2 b2) : ESu X i a (.BoolOp .Or [e1, e2] pos) (b1 || b2) := by
  refine pe_imp (pe_orT h1 (pe_one h2)) fun σ H Q h => ⟨h.1, fun H' k1 k2 => ⟨b1, rfl, ?_⟩⟩
  cases b1 with
  | true => exact h.2 H' k1 k2
  | false => exact ⟨h.1, fun H2 j1 j2 => h.2 H2 (fun p o e => j1 p o (k1 p o e)) fun p e => k2 p (j2 p e)⟩
end
end MI
end
section
set_option Elab.async false
set_option linter.all false
set_option maxRecDepth 100000
set_option maxHeartbeats 4000000
/-! MI18: suites, try -/
namespace MI
open PySem PySem.Spec PyProof.Rows L2
section
variable (K : PySem.W.Frag) (CL : CLs) (W : WX)
/-- .. where slot i holds the exception -/
def rES (i : Nat) (a : Addr) (cl : Cl) (s : SE) : TE := fun σ H Q => σ[i]? = some (some (V.ref a)) ∧ rE K CL W cl s σ H Q
def rSu (i : Nat) (a : Addr) (cl : Cl) (s : SS) : TS := fun D σ H => σ[i]? = some (some (V.ref a)) ∧ rS K CL W cl s D σ H
end
section
variable {X : Cx} {CL : CLs} {cl : Cl} {k : Nat} {c : Ct} {exs : List Str} {a : Addr} {oe : Obj} {pn : List (Addr × Obj)} {y n : Str} {C : Addr} {i : Nat}
theorem rES_of {b : Bool} {e : Expr} (h : ESu (Su X a oe pn) i a e b) : PE (Su X a oe pn) e (rES X.K CL Wno i a cl (eC (.bl b))) := by
  refine pe_imp h fun σ H Q ⟨hs, mu, r, M, hm, hr, p⟩ => ⟨hs, fun H' k1 k2 => ?_⟩
  have st : Stp mu H mu H' := ⟨⟨[], by simp⟩, fun a h => .inl h, fun a o e _ => k1 a o e, fun a od u e => k1 a _ e⟩
  have R' : Rm X.K CL mu H' M := hm.stp st fun b hb => by
    obtain ⟨u, e, _⟩ := hm.ho hb
    rw [e, k1 b u e]
  exact p mu H' st R' _ rfl
theorem suI_ok (G : Good X CL cl k c) (F : ExF X CL exs) (hi : idx n c.N = some i) (hy : y ∈ exs) (hC : CL y = some C) (hz : Zc (.ref C) none oe) (hf : ∃ vs, oe.data = .fields vs) {e : Expr} {s : SuI} (h : suI c exs n e = some s) : PE (Su X a oe pn) e (rES X.K CL Wno i a cl (s.sem y)) := by
  have G' : Good (Su X a oe pn) CL cl k { c with calm := false } := G.suite
  unfold suI at h
  split at h
  · split at h
    · rename_i n1 cs1 n2 cs2 h1 h2
      cases h
      exact rES_of (b := SuI.val y (.or2 n1 cs1 n2 cs2)) (su_or (suN_ok G F hi hy hC hz hf h1) (suN_ok G F hi hy hC hz hf h2))
    · cases h
  · split at h
    · rename_i hx
      split at h
      · rename_i j hj
        cases h
        exact pe_imp ((snd_var (X := Su X a oe pn) (CL := CL) (cl := cl) (by rw [G'.N]; exact idx_ok hj) (G'.vis _ hx.2) (nmOk_d hx.1) (nmOk_c hx.1)) Wno takes_no) fun σ H Q h => h.2
      · cases h
    · cases h
  · split at h
    · rename_i cs h1
      cases h
      refine rES_of (b := SuI.val y (.isi true cs)) (pe_imp (pe_notT (suIsi_ok G F hi hy hC hz hf h1)) fun σ H Q h => ⟨h.1, fun H' k1 k2 => ⟨_, (show cs.any (subX y) = cs.any (subX y) from rfl), ?_⟩⟩)
      have := h.2 H' k1 k2
      simpa only [SuI.val, if_true] using this
    · cases h
  · split at h
    · rename_i cs h1
      cases h
      refine rES_of (b := SuI.val y (.isi false cs)) (pe_imp (suIsi_ok G F hi hy hC hz hf h1) fun σ H Q h => ?_)
      simpa only [SuI.val, Bool.false_eq_true, if_false] using h
    · cases h
def rDsES (K : PySem.W.Frag) (CL : CLs) (i : Nat) (a : Addr) (cl : Cl) (s : SDs) : TA := fun σ H Q => σ[i]? = some (some (V.ref a)) ∧ rDs K CL Wno cl s σ H Q
theorem suIs_ok (G : Good X CL cl k c) (F : ExF X CL exs) (hi : idx n c.N = some i) (hy : y ∈ exs) (hC : CL y = some C) (hz : Zc (.ref C) none oe) (hf : ∃ vs, oe.data = .fields vs) : ∀ {es : List Expr} {its : List SuI}, suIs c exs n es = some its →
    PA (Su X a oe pn) es (rDsES X.K CL i a cl (suLst y its)) ∧ its.length = es.length
  | [], its, h => by
    simp only [suIs] at h; cases h
    refine ⟨pa_imp pa_nil fun σ H Q ⟨hs, mu, r, M, hm, hr, p⟩ => ?_, rfl⟩
    exact p.here hm [] rfl
  | e :: r, its, h => by
    unfold suIs at h
    split at h
    · rename_i hst
      split at h
      · rename_i s q h1 h2
        cases h
        obtain ⟨z1, z2⟩ := suIs_ok G F hi hy hC hz hf h2
        refine ⟨pa_imp (pa_cons (suI_ok G F hi hy hC hz hf h1) z1 (star1 hst)) fun σ H Q ⟨hs, mu, r, M, hm, hr, p⟩ => ⟨hs, ?_⟩, by simp [z2]⟩
        refine rE_thenB hm hr Stp.refl p fun x v M1 mu1 H1 n1 h1 p1 => ⟨hs, ?_⟩
        obtain ⟨t, R2, s2, hv⟩ := n1.rm.box h1 n1.st
        refine rDs_thenB R2 (n1.rs.ext t) s2 p1 fun ds vs M3 mu3 H3 n3 h3 p3 => ?_
        exact p3 mu3 H3 (s2.trans n3.st R2) n3.rm (v :: vs) ⟨v, vs, rfl, hv.stp R2 n3.st, h3⟩
      · cases h
    · cases h
theorem suLst_len (y : Str) (cl : Cl) : ∀ (its : List SuI) (r : Env) (M : Mem) (ds : List D) (M' : Mem), suLst y its cl r M = .ok ds M' → ds.length = its.length
  | [], r, M, ds, M', h => by simp only [suLst, dNil] at h; cases h; rfl
  | s :: q, r, M, ds, M', h => by
    simp only [suLst, dCons] at h
    cases e1 : s.sem y cl r M with
    | ok x M1 =>
      rw [e1] at h
      simp only [Res.bind] at h
      cases e2 : suLst y q cl r (box x M1).2 with
      | ok ds' M2 =>
        rw [e2] at h
        simp only [Res.bind] at h
        cases h
        rw [List.length_cons, List.length_cons, suLst_len y cl q _ _ _ _ e2]
      | err _ _ => rw [e2] at h; simp only [Res.bind] at h; cases h
      | bad => rw [e2] at h; simp only [Res.bind] at h; cases h
    | err _ _ => rw [e1] at h; simp only [Res.bind] at h; cases h
    | bad => rw [e1] at h; simp only [Res.bind] at h; cases h
theorem suLst_ok (G : Good X CL cl k c) (F : ExF X CL exs) (hi : idx n c.N = some i) (hy : y ∈ exs) (hC : CL y = some C) (hz : Zc (.ref C) none oe) (hf : ∃ vs, oe.data = .fields vs) {es : List Expr} {its : List SuI} {pos : Pos} (hl : es.length ≤ 100) (h : suIs c exs n es = some its) :
    PE (Su X a oe pn) (.List es pos) (rES X.K CL Wno i a cl (eLst (suLst y its))) := by
  obtain ⟨z1, z2⟩ := suIs_ok (a := a) (pn := pn) (cl := cl) G F hi hy hC hz hf h
  refine pe_imp (pe_lst z1) fun σ H Q ⟨hs, mu, r, M, hm, hr, p⟩ => ⟨hs, ?_⟩
  refine rDs_then hm hr p fun ds vs M1 mu1 H1 n1 h1 p1 => ?_
  split at p1
  · rename_i c
    exact ⟨by rw [← h1.length]; exact c, end_lst n1.rm (p1.rb n1) h1⟩
  · exact bad_end p1
theorem suSet_ok (G : Good X CL cl k c) {j : Nat} {x : Str} {p1 pos : Pos} {e : Expr} {se : SE} {rest : List Stmt} {u : SS} (hx : c.st x = true) (hj : idx x c.N = some j) (hji : ¬ j = i) (hcp : notComp e = true) (he : PE (Su X a oe pn) e (rES X.K CL Wno i a cl se))
    (hr : PSs (Su X a oe pn) rest (rSu X.K CL Wno i a cl u)) : PSs (Su X a oe pn) (.Assign [.Name x p1] e pos :: rest) (rSu X.K CL Wno i a cl (sSeq (sSet j se) u)) := by
  obtain ⟨l1, l2⟩ := G.st hx
  refine pss_imp (pss_cons (ps_set (X := Su X a oe pn) (i := j) (by rw [show (Su X a oe pn).N = c.N from G.N]; exact G.nd) (by rw [show (Su X a oe pn).N = c.N from G.N]; exact idx_ok hj) l1 he (swaps0 hcp) l2) hr) fun D σ H ⟨hs, mu, r, M, hm, hrs, p⟩ => ?_
  refine ⟨hs, mu, r, M, hm, hrs, ?_⟩
  unfold sSeq sSet at p
  cases e1 : se cl r M with
  | ok x M1 =>
    rw [e1] at p
    simp only [ofE] at p
    intro mu' H' s' R' v hv
    obtain ⟨t, R2, s2, hb⟩ := R'.box hv s'
    refine ⟨?_, mu' ++ t, _, _, R2, ((hrs.stp hm s').ext t).set hb, p.from s2 R2⟩
    rw [List.getElem?_set_ne hji]; exact hs
  | err c M1 =>
    rw [e1] at p
    simp only [ofE] at p
    intro mu' H' C hC s' R'
    exact (p mu' H' σ C hC s' R' (hrs.stp hm s')).elim
  | bad => rw [e1] at p; exact p.elim
theorem suSs_ok (G : Good X CL cl k c) (F : ExF X CL exs) (hi : idx n c.N = some i) (hy : y ∈ exs) (hC : CL y = some C) (hz : Zc (.ref C) none oe) (hf : ∃ vs, oe.data = .fields vs) : ∀ {ss : List Stmt} {spec : List SuS}, suSs c exs n i ss = some spec →
    PSs (Su X a oe pn) ss (rSu X.K CL Wno i a cl (suBody y spec))
  | [], spec, h => by
    simp only [suSs] at h; cases h
    refine pss_imp pss_nil fun D σ H ⟨hs, mu, r, M, hm, hr, p⟩ => ?_
    exact p.here Stp.refl hm hr
  | st :: r, spec, h => by
    unfold suSs at h
    split at h
    · rename_i s q h1 h2
      cases h
      have ih := suSs_ok G F hi hy hC hz hf h2
      have G' : Good (Su X a oe pn) CL cl k { c with calm := false } := G.suite
      unfold suS at h1
      split at h1
      · split at h1
        · rename_i hx
          split at h1
          · rename_i j its hj hs
            split at h1
            · cases h1
            · rename_i hji
              cases h1
              exact suSet_ok G hx.1 hj hji rfl (suLst_ok G F hi hy hC hz hf hx.2 hs) ih
          · cases h1
        · cases h1
      · split at h1
        · rename_i hx
          obtain ⟨hx1, rfl, hx3, hx4⟩ := hx
          split at h1
          · rename_i j its hj hs
            split at h1
            · cases h1
            · rename_i hji
              cases h1
              refine suSet_ok G hx1 hj hji rfl ?_ ih
              have var : ∀ vp : Pos, SndE (Su X a oe pn) CL cl (.Name _ vp) (eVar j) := fun vp => snd_var (by rw [G'.N]; exact idx_ok hj) ((G.st hx1).1.elim .inl fun z => .inr (.inl z)) (nmOk_d hx3) (nmOk_c hx3)
              refine pe_imp (pe_op op_addAll (var _ Wno takes_no) (suLst_ok G F hi hy hC hz hf hx4 hs)) fun σ H Q ⟨hs, mu, r, M, hm, hrs, p⟩ => ?_
              refine rE_then hm hrs p fun x v M1 mu1 H1 n1 h1 p1 => ⟨hs, ?_⟩
              refine rE_then n1.rm n1.rs p1 fun y u M2 mu2 H2 n2 h2 p2 => ?_
              refine ok2_add Wno σ mu2 H2 M2 x y v u Q n2.rm (h1.w.stp n1.rm n2.st) h2.w ?_
              exact p2.mono fun z M3 mu3 H3 s3 R3 q w hw => q w (hw.base (n1.st.trans n2.st n1.rm) n2.rm)
          · cases h1
        · cases h1
      · split at h1
        · rename_i hx
          split at h1
          · rename_i j hj
            split at h1
            · cases h1
            · rename_i hji
              cases h1
              exact suSet_ok G hx hj hji rfl (pe_imp ((snd_bl (X := Su X a oe pn) (CL := CL) (cl := cl)) Wno takes_no) fun σ H Q h => h.2) ih
          · cases h1
        · cases h1
      · split at h1
        · rename_i hx
          split at h1
          · rename_i j it hj hit
            split at h1
            · cases h1
            · rename_i hji
              cases h1
              exact suSet_ok G hx.1 hj hji hx.2 (suI_ok G F hi hy hC hz hf hit) ih
          · cases h1
        · cases h1
      · cases h1
    · cases h
/-! ### try -/
theorem stm_tryAs {x : Str} {b0 : Stmt} {sts stt : List Stmt} {u : SS} {spec : List SuS} {np pos' pos : Pos} (G : Good X CL cl k c) (F : ExF X CL exs) (hs : X.stack = X.env :: X.outer) (hf : X.env.frame = some X.env.locals) (hi : idx n c.N = some i) (hln : X.env.kindOf n = some .local)
    (hx : x ∈ exs) (hgx : c.gl x = true) (hnx : nmOk x = true)
    (hb : ∀ (pn : List (Addr × Obj)) (xe : Value → Shared → Prop), SndB (X.tr pn xe) CL cl sts u) (hsp : suSs c exs n i (b0 :: stt) = some spec) :
    SndS X CL cl (.Try sts [.ExceptHandler (some (.Name x np)) (some n) (b0 :: stt) pos'] [] [] pos) (sTry (some i) u (catX exs x) (suSem exs spec)) := fun W tk po => by
  obtain ⟨Cx', w1, w2, w3, w4, w5, w6, EC⟩ := F.made x hx
  have hc : Names X x (.ref Cx') := ⟨G.gl x hgx, nmOk_d hnx, .inl w2⟩
  refine ps_imp (ps_try_as (i := i) (ts := fun a cls d => fun D σ H => ∃ y : Str, (∃ C, CL y = some C ∧ cls = .ref C) ∧ d = none ∧ y ∈ exs ∧ (i < σ.length → σ[i]? = some (some (V.ref a))) ∧ rS X.K CL Wno cl (suBody y spec) D σ H) (tb := fun W' => rS X.K CL W' cl u) hs hf (by rw [G.N]; exact G.nd) (by rw [G.N]; exact idx_ok hi) hln hc tk (fun W' pn xe tk' po' => hb pn xe W' tk' po') fun a oe cls d pn hz hd => pss_some fun y hy => ?_) fun D σ H h => ?_
  · obtain ⟨C, h1, rfl⟩ := hy
    refine ⟨fun pins s σ H D I ⟨hd0, hye, q0, q⟩ => ?_⟩
    subst hd0
    refine (suSs_ok G F hi hye h1 hz hd hsp).run pins s σ H D I ⟨q0 ?_, q⟩
    rw [I.len, show (Su X a oe pn).N = c.N from G.N]
    exact (List.getElem?_eq_some_iff.mp (idx_ok hi)).1
  · obtain ⟨mu, r, M, hm, hs, p⟩ := h
    refine ⟨mu, r, M, hm, hs, ?_⟩
    unfold sTry at p
    cases e : u cl r M with
    | nx r1 M1 => rw [e] at p; exact p
    | ret y M1 => rw [e] at p; exact p
    | bad => rw [e] at p; exact p
    | err c r1 M1 =>
      rw [e] at p
      intro mu' H' σ' C hC st R' S'
      refine ⟨catX exs x c, F.exm c x hx C Cx' hC w1, fun hb2 a na => ?_, fun hb2 => ?_⟩
      · simp only [hb2, if_true] at p
        have hce : c ∈ exs := by
          unfold catX at hb2
          simp only [Bool.and_eq_true, decide_eq_true_eq] at hb2
          exact hb2.1
        refine ⟨c, ⟨C, hC, rfl⟩, rfl, hce, ?_, mu', gone (some i) r1, M1, R', ?_, ?_⟩
        · intro hl
          rw [List.length_set] at hl
          rw [List.getElem?_set_self hl]
        · exact S'.gone i
        · simp only [suSem, if_pos hce] at p
          cases e2 : suBody c spec cl (gone (some i) r1) M1 with
          | nx r2 M2 =>
            rw [e2] at p
            exact fun mu3 H3 σ3 s3 R3 q3 => p mu3 H3 _ (st.trans s3 R') R3 (q3.gone i)
          | ret y M2 => rw [e2] at p; exact PsS.from (res := .ret y M2) p st R'
          | err c2 r2 M2 => rw [e2] at p; exact p.elim
          | bad => rw [e2] at p; exact p
      · simp only [hb2, Bool.false_eq_true, if_false] at p
        exact p mu' H' σ' C hC st R' S'
/-! ### try without a name -/
theorem suO_same (y : Str) {c : Ct} : ∀ {ss : List Stmt} {spec : List SuS}, suO c ss = some spec → suBody y spec = suBody "" spec
  | [], spec, h => by simp only [suO] at h; cases h; rfl
  | st :: r, spec, h => by
    unfold suO at h
    split at h
    · rename_i heq; cases heq
    · rename_i x p1 b kd p2 pos rest heq
      split at h
      · split at h
        · rename_i j q hj h2
          cases h
          cases heq
          show sSeq (sSet j (eC (.bl b))) (suBody y q) = sSeq (sSet j (eC (.bl b))) (suBody "" q)
          rw [suO_same y h2]
        · cases h
      · cases h
    · rename_i kd p2 pos rest heq
      split at h
      · rename_i q h2
        cases h
        cases heq
        show sSeq (sRet (eC .non)) (suBody y q) = sSeq (sRet (eC .non)) (suBody "" q)
        rw [suO_same y h2]
      · cases h
    · cases h
theorem suO_ok (G : Good X CL cl k c) : ∀ {ss : List Stmt} {spec : List SuS}, suO c ss = some spec → PSs (Su X a oe pn) ss (rS X.K CL Wno cl (suBody y spec))
  | [], spec, h => by
    simp only [suO] at h; cases h
    refine pss_imp pss_nil fun D σ H ⟨mu, r, M, hm, hr, p⟩ => ?_
    exact p.here Stp.refl hm hr
  | st :: r, spec, h => by
    have nd : (Su X a oe pn).N.Nodup := by rw [show (Su X a oe pn).N = c.N from G.N]; exact G.nd
    unfold suO at h
    split at h
    · rename_i heq; cases heq
    · rename_i x p1 b kd p2 pos rest heq
      split at h
      · rename_i hx
        split at h
        · rename_i j q hj h2
          cases h
          cases heq
          have ih := suO_ok G h2
          obtain ⟨l1, l2⟩ := G.st hx
          refine pss_imp (pss_cons (ps_set (X := Su X a oe pn) (i := j) nd (by rw [show (Su X a oe pn).N = c.N from G.N]; exact idx_ok hj) l1 ((snd_bl (X := Su X a oe pn) (CL := CL) (cl := cl)) Wno takes_no) (swaps0 rfl) l2) ih) fun D σ H ⟨mu, r, M, hm, hrs, p⟩ => ?_
          refine ⟨mu, r, M, hm, hrs, ?_⟩
          have p : PsS X.K CL Wno mu H (suBody y q cl (r.set j (some (.bl b))) M) D := p
          intro mu' H' s' R' v hv
          exact ⟨mu', r.set j (some (.bl b)), M, R', (hrs.stp hm s').set hv, p.from s' R'⟩
        · cases h
      · cases h
    · rename_i kd p2 pos rest heq
      split at h
      · rename_i q h2
        cases h
        cases heq
        have ih := suO_ok G h2
        refine pss_imp (pss_cons (ps_ret ((snd_non (X := Su X a oe pn) (CL := CL) (cl := cl)) Wno takes_no)) ih) fun D σ H ⟨mu, r, M, hm, hrs, p⟩ => ?_
        refine ⟨mu, r, M, hm, hrs, ?_⟩
        have p : PsS X.K CL Wno mu H (.ret (.d .non) M) D := p
        exact fun mu' H' s' R' v hv => p mu' H' v s' R' hv
      · cases h
    · cases h
theorem stm_tryOnly {x : Str} {b0 : Stmt} {sts stt : List Stmt} {u : SS} {spec : List SuS} {np pos' pos : Pos} (G : Good X CL cl k c) (F : ExF X CL exs) (hs : X.stack = X.env :: X.outer) (hf : X.env.frame = some X.env.locals)
    (hx : x ∈ exs) (hgx : c.gl x = true) (hnx : nmOk x = true)
    (hb : ∀ (pn : List (Addr × Obj)) (xe : Value → Shared → Prop), SndB (X.tr pn xe) CL cl sts u) (hsp : suO c (b0 :: stt) = some spec) :
    SndS X CL cl (.Try sts [.ExceptHandler (some (.Name x np)) none (b0 :: stt) pos'] [] [] pos) (sTry none u (catX exs x) (suSem exs spec)) := fun W tk po => by
  obtain ⟨Cx', w1, w2, _⟩ := F.made x hx
  have hc : Names X x (.ref Cx') := ⟨G.gl x hgx, nmOk_d hnx, .inl w2⟩
  refine ps_imp (ps_try_only (ts := fun a cls d => fun D σ H => rS X.K CL Wno cl (suBody "" spec) D σ H) (tb := fun W' => rS X.K CL W' cl u) hs hf hc tk (fun W' pn xe tk' po' => hb pn xe W' tk' po') fun a oe cls d pn hz hd => suO_ok (y := "") G hsp) fun D σ H h => ?_
  obtain ⟨mu, r, M, hm, hs, p⟩ := h
  refine ⟨mu, r, M, hm, hs, ?_⟩
  unfold sTry at p
  cases e : u cl r M with
  | nx r1 M1 => rw [e] at p; exact p
  | ret y M1 => rw [e] at p; exact p
  | bad => rw [e] at p; exact p
  | err c r1 M1 =>
    rw [e] at p
    intro mu' H' σ' C hC st R' S'
    refine ⟨catX exs x c, F.exm c x hx C Cx' hC w1, fun hb2 a na => ?_, fun hb2 => ?_⟩
    · simp only [hb2, if_true] at p
      have hce : c ∈ exs := by
        unfold catX at hb2
        simp only [Bool.and_eq_true, decide_eq_true_eq] at hb2
        exact hb2.1
      refine ⟨mu', r1, M1, R', S', ?_⟩
      simp only [suSem, if_pos hce, suO_same c hsp] at p
      have p : PsS X.K CL W mu H (match suBody "" spec cl r1 M1 with
        | .nx r2 M2 => .nx r2 M2
        | .ret x M2 => .ret x M2
        | _ => .bad) D := p
      cases e2 : suBody "" spec cl r1 M1 with
      | nx r2 M2 =>
        rw [e2] at p
        exact fun mu3 H3 σ3 s3 R3 q3 => p mu3 H3 _ (st.trans s3 R') R3 q3
      | ret y M2 => rw [e2] at p; exact PsS.from (res := .ret y M2) p st R'
      | err c2 r2 M2 => rw [e2] at p; exact p.elim
      | bad => rw [e2] at p; exact p
    · simp only [hb2, Bool.false_eq_true, if_false] at p
      exact p mu' H' σ' C hC st R' S'
end
end MI
end
section
set_option Elab.async false
set_option linter.all false
set_option maxRecDepth 100000
set_option maxHeartbeats 4000000
/-! MI19: statements of the text; the table of the defs -/
namespace MI
open PySem PySem.Spec PyProof.Rows L2
def notTup : Expr → Bool
  | .Tuple _ _ _ => false
  | _ => true
/-- a comprehension that is given to a name swaps -/
def swB (c : Ct) (x : Str) (p1 : Pos) : Expr → Bool
  | .ListComp _ _ scope vp => c.loc x && ((p1.line == vp.line) && !(scope.names.any fun (n, k) => n == x && (k == .local || k == .cell)))
  | _ => false
def notOther : Expr → Bool
  | .SetComp _ _ _ _ => false
  | .DictComp _ _ _ _ _ => false
  | _ => true
def bodyOf (f : Stmt → Option SS) : List Stmt → Option SS
  | [] => some sNil
  | [s] => f s
  | s :: t :: r => match f s, bodyOf f (t :: r) with
    | some u, some v => some (sSeq u v)
    | _, _ => none
def cmpAsg (r : Cmp) (c : Ct) (x : Str) (a : Expr) : Option SS :=
  if c.st x = true ∧ notOther a = true then match idx x c.N, r.e c a with
    | some i, some sa => some (sSet i sa)
    | _, _ => none
  else none
def cmpUnp (r : Cmp) (c : Ct) (tg a : Expr) : Option SS :=
  if notComp a = true ∧ notTup a = true then match tgOf c tg, r.e c a with
    | some (.tp is), some sa => some (sUnp is sa)
    | _, _ => none
  else none
def cmpSetIx (r : Cmp) (c : Ct) (o k a : Expr) : Option SS :=
  if notComp a = true ∧ notSlice k = true then match r.e c o, r.e c k, r.e c a with
    | some so, some sk, some sa => some (sSetIx so sk sa)
    | _, _, _ => none
  else none
def raised : Expr → Option Str
  | .Call (.Name x _) [.Constant (.str _) _ _] [] _ => some x
  | _ => none
def stepS (r : Cmp) (exs : List Str) (f : List Stmt → Option SS) (c : Ct) : Stmt → Option SS
  | .Expr a _ => if notComp a = true then match r.e c a with
      | some sa => some (sExpr sa)
      | none => none
    else none
  | .Return none _ => some sRetN
  | .Return (some a) _ => match r.e c a with
    | some sa => some (sRet sa)
    | none => none
  | .If t a b _ => match r.t c t, f a, f b with
    | some st, some sa, some sb => some (sIf st sa sb)
    | _, _, _ => none
  | .For tg it body [] _ => if notSet it = true then match itOf r c tg it, tgOf c tg, f body with
      | some si, some t, some sb => match isDn c it with
        | some (i, _) => some (sForN t i sb)
        | none => some (sFor t si sb)
      | _, _, _ => none
    else none
  | .While t body [] _ => match r.t c t, f body with
    | some st, some sb => some (sWhile st sb)
    | _, _ => none
  | .Pass _ => some sPass
  | .Assign [.Name x _] a _ => cmpAsg r c x a
  | .Assign [.Subscript o k _] a _ => cmpSetIx r c o k a
  | .Assign [.Attribute o f _] a _ => if f ∈ c.flds then match r.e c o, r.e c a with
      | some so, some sa => some (sFld so f sa)
      | _, _ => none
    else none
  | .Assign [.Tuple es j p] a _ => cmpUnp r c (.Tuple es j p) a
  | .Raise (some e) none _ => match raised e with
    | some x => if x ∈ exs ∧ c.gl x = true ∧ nmOk x = true then some (sRaise x) else none
    | none => none
  | .Try sts [.ExceptHandler (some (.Name x _)) (some n) (b0 :: stt) _] [] [] _ =>
    if x ∈ exs ∧ c.gl x = true ∧ nmOk x = true ∧ c.loc n = true then match f sts, idx n c.N with
      | some u, some i => match suSs c exs n i (b0 :: stt) with
        | some spec => some (sTry (some i) u (catX exs x) (suSem exs spec))
        | none => none
      | _, _ => none
    else none
  | .Try sts [.ExceptHandler (some (.Name x _)) none (b0 :: stt) _] [] [] _ =>
    if x ∈ exs ∧ c.gl x = true ∧ nmOk x = true then match f sts, suO c (b0 :: stt) with
      | some u, some spec => some (sTry none u (catX exs x) (suSem exs spec))
      | _, _ => none
    else none
  | _ => none
def cmpS (r : Cmp) (exs : List Str) : Nat → Ct → List Stmt → Option SS
  | 0, _, _ => none
  | n + 1, c, ss => bodyOf (stepS r exs (cmpS r exs n c) c) ss
structure GoodS (X : Cx) (CL : CLs) (cl : Cl) (k : Nat) (c : Ct) (exs : List Str) : Prop where
  g : Good X CL cl k c
  ex : ExF X CL exs
  stk : X.stack = X.env :: X.outer
  frm : X.env.frame = some X.env.locals
  sc : X.env.scope = c.sc
  clm : c.calm = true
section
variable {P : Program} {w : World} {K : PySem.W.Frag} {mg : Str → Option Value} {base : Heap} {CL : CLs} {cl : Cl} {k : Nat} {r : Cmp} {exs : List Str}
theorem GoodS.tr {X : Cx} {c : Ct} (G : GoodS X CL cl k c exs) (pn : List (Addr × Obj)) (xe : Value → Shared → Prop) : GoodS (X.tr pn xe) CL cl k c exs :=
  ⟨⟨G.g.N, G.g.nd, G.g.vis, G.g.gl, G.g.loc, G.g.cel, G.g.cf, G.g.knd, G.g.bl, G.g.kon, fun x ar h => ⟨(G.g.fns x ar h).ok⟩, G.g.un5, G.g.w, G.g.calm, fun x ar h => ⟨(G.g.new x ar h).ok⟩, fun f h c C e => G.g.fld f h c C e, fun m h c C e => (G.g.mth m h c C e).imp (fun ⟨ar, g⟩ => ⟨ar, ⟨g.cls, g.ok, g.bad⟩⟩) id, G.g.cx⟩, ⟨G.ex.made, G.ex.kit, G.ex.kitV, G.ex.exm, G.ex.own⟩, G.stk, G.frm, G.sc, G.clm⟩
structure SndP (P : Program) (w : World) (K : PySem.W.Frag) (mg : Str → Option Value) (base : Heap) (CL : CLs) (cl : Cl) (k : Nat) (exs : List Str) (c : Ct) (f : List Stmt → Option SS) : Prop where
  b : ∀ (X : Cx) ss s, X.prog = P → X.w = w → X.K = K → X.mg = mg → X.base = base → GoodS X CL cl k c exs → f ss = some s → SndB X CL cl ss s
theorem bodyOf_ok {X : Cx} {f : Stmt → Option SS} (hf : ∀ st s, f st = some s → SndS X CL cl st s) : ∀ (ss : List Stmt) (s : SS), bodyOf f ss = some s → SndB X CL cl ss s
  | [], s, h => by simp only [bodyOf] at h; cases h; exact bnd_nil
  | [a], s, h => by simp only [bodyOf] at h; exact bnd_one (hf _ _ h)
  | a :: b :: q, s, h => by
    unfold bodyOf at h
    split at h
    · rename_i u v h1 h2
      cases h
      exact bnd_cons (hf _ _ h1) (bodyOf_ok hf (b :: q) v h2)
    · cases h
theorem swap_ok {X : Cx} {c : Ct} (G : GoodS X CL cl k c exs) {x : Str} {p1 : Pos} {a : Expr} {l : Nat} (ho : notOther a = true) : swapsWith a (some (.Name x p1)) l X.env = pure (swB c x p1 a) := by
  have hk := G.g.knd
  have hb : X.env.blockKind = .function := by unfold Env.blockKind; rw [hk]; rfl
  cases a with
  | ListComp elt gs scope vp =>
    unfold swapsWith swB Ct.loc Ct.lk
    have e : X.env.kindOf x = c.sc.names.lookup x := by unfold Env.kindOf; rw [G.sc]
    simp only [hb, e, Expr.pos]
    cases h : c.sc.names.lookup x with
    | none => rfl
    | some κ => cases κ <;> first | rfl | (simp; done)
  | SetComp _ _ _ _ => cases ho
  | DictComp _ _ _ _ _ => cases ho
  | _ => rfl
/-- a comprehension given to a name -/
structure SwC (P : Program) (w : World) (K : PySem.W.Frag) (mg : Str → Option Value) (base : Heap) (CL : CLs) (cl : Cl) (k : Nat) (r : Cmp) : Prop where
  s : ∀ (X : Cx) (c : Ct) elt gs scope vp s, X.prog = P → X.w = w → X.K = K → X.mg = mg → X.base = base → Good X CL cl k c → r.e c (.ListComp elt gs scope vp) = some s →
    ∀ (i : Nat) (y : Str) (py spos : Pos), X.N[i]? = some y → X.env.scope.names.lookup y = some .local → swapsWith (.ListComp elt gs scope vp) (some (.Name y py)) spos.line X.env = pure true → SndS X CL cl (.Assign [.Name y py] (.ListComp elt gs scope vp) spos) (sSet i s)
theorem cmp_sw : ∀ n, SwC P w K mg base CL cl k (cmp n)
  | 0 => ⟨fun X c elt gs scope vp s _ _ _ _ _ _ h => by simp [cmp] at h⟩
  | n + 1 => ⟨fun X c elt gs scope vp s hP hw hK hm hb G h i y py spos h1 h2 h3 => by
    have h' : stepE (cmp n) c (.ListComp elt gs scope vp) = some s := h
    unfold stepE at h'
    cases gs with
    | nil => cases h'
    | cons g gs =>
      obtain ⟨tg, iter, ifs, ia⟩ := g
      cases gs with
      | nil =>
        simp only at h'
        split at h'
        · rename_i hi
          subst hi
          exact stm_cmpComp (cmp_ok n) hP hw hK hm hb G h' h1 h2 h3
        · cases h'
      | cons g2 gs => cases h'⟩
theorem stepS_ok (C : SndC P w K mg base CL cl k r) (CW : SwC P w K mg base CL cl k r) {f : List Stmt → Option SS} {c : Ct} (S : SndP P w K mg base CL cl k exs c f) {X : Cx} (hP : X.prog = P) (hw : X.w = w) (hK : X.K = K) (hm : X.mg = mg) (hb : X.base = base) (G : GoodS X CL cl k c exs) {st : Stmt} {s : SS} (h : stepS r exs f c st = some s) : SndS X CL cl st s := by
  have ev : ∀ e s, r.e c e = some s → SndE X CL cl e s := fun e s z => C.e X c e s hP hw hK hm hb G.g z
  have tv : ∀ e s, r.t c e = some s → SndT X CL cl e s := fun e s z => C.t X c e s hP hw hK hm hb G.g z
  have bv : ∀ e s, f e = some s → SndB X CL cl e s := fun e s z => S.b X e s hP hw hK hm hb G z
  have hc := (G.g.calm G.clm).1
  unfold stepS at h
  split at h
  · split at h
    · rename_i hn
      split at h
      · rename_i sa h1; cases h; exact stm_expr (ev _ _ h1) (swaps0 hn)
      · cases h
    · cases h
  · cases h; exact stm_retN
  · split at h
    · rename_i sa h1; cases h; exact stm_ret (ev _ _ h1)
    · cases h
  · split at h
    · rename_i s1 s2 s3 h1 h2 h3; cases h; exact stm_if (tv _ _ h1) (bv _ _ h2) (bv _ _ h3)
    · cases h
  · split at h
    · rename_i hn
      split at h
      · rename_i s1 s2 s3 h1 h2 h3
        split at h
        · rename_i i x hd
          cases h
          obtain ⟨p, rfl, v1, v2, v3⟩ := isDn_ok hd
          obtain ⟨w1, w2⟩ := dn_var G.g v1 v2 v3 (p := p)
          exact stm_forN hc w1 w2 (tgOf_ok G.g hc h2) (bv _ _ h3)
        · cases h; exact stm_for hc (itOf_ok C hP hw hK hm hb G.g h1) (tgOf_ok G.g hc h2) (bv _ _ h3) (fold0 hn)
      · cases h
    · cases h
  · split at h
    · rename_i st sb h1 h2; cases h; exact stm_while (tv _ _ h1) (bv _ _ h2)
    · cases h
  · cases h; exact stm_pass
  · rename_i x p1 a pos
    unfold cmpAsg at h
    split at h
    · rename_i hh
      split at h
      · rename_i i sa h1 h2
        cases h
        obtain ⟨l1, l2⟩ := G.g.st hh.1
        have hN : X.N[i]? = some x := by rw [G.g.N]; exact idx_ok h1
        have hnd : X.N.Nodup := by rw [G.g.N]; exact G.g.nd
        cases hsw : swB c x p1 a with
        | false => exact stm_set hnd hN l1 l2 (ev _ _ h2) (by rw [swap_ok G hh.2, hsw])
        | true =>
          have hsw' := swap_ok (l := pos.line) G (x := x) (p1 := p1) hh.2
          rw [hsw] at hsw'
          cases a with
          | ListComp elt gs scope vp =>
            have hl : c.loc x = true := by unfold swB at hsw; simp only [Bool.and_eq_true] at hsw; exact hsw.1
            exact CW.s X c elt gs scope vp sa hP hw hK hm hb G.g h2 i x p1 pos hN (G.g.loc x hl) hsw'
          | _ => cases hsw
      · cases h
    · cases h
  · rename_i o kk p1 a pos
    unfold cmpSetIx at h
    split at h
    · rename_i hh
      split at h
      · rename_i so sk sa h1 h2 h3
        cases h
        refine stm_setIx (ev _ _ h1) (ev _ _ h2) (ev _ _ h3) (set_all G.g.un G.g.w) setIx_ok ?_ ?_ rfl ?_
        · unfold swapsWithSole; exact swaps0 hh.1
        · rfl
        · have h2 := hh.2
          cases kk <;> first | (intro v; rfl) | cases h2
      · cases h
    · cases h
  · rename_i o f1 p1 a pos
    split at h
    · rename_i hf
      split at h
      · rename_i so sa h1 h2
        cases h
        refine stm_fld (G.g.fld f1 hf) (ev _ _ h1) (ev _ _ h2) ?_
        cases a <;> rfl
      · cases h
    · cases h
  · rename_i es jj p1 a pos
    unfold cmpUnp at h
    split at h
    · rename_i hh
      split at h
      · rename_i is sa h1 h2
        cases h
        have h3 := hh.2
        have sw : swapsWithSole [Expr.Tuple es jj p1] a pos.line X.env = pure false := by unfold swapsWithSole; exact swaps0 hh.1
        refine stm_unp (tgOf_ok G.g hc h1) (ev _ _ h2) sw ?_ rfl
        cases a <;> first | rfl | cases h3
      · cases h
    · cases h
  · split at h
    · rename_i e pos x hx
      split at h
      · rename_i hh
        cases h
        obtain ⟨C', w1, w2, w3, w4, w5, w6, EC⟩ := G.ex.made x hh.1
        unfold raised at hx
        split at hx
        · cases hx
          exact stm_raise hc w3 w2 w4 w5 w6 (G.g.gl x hh.2.1) (nmOk_d hh.2.2) w1
        · cases hx
      · cases h
    · cases h
  · split at h
    · rename_i hh
      split at h
      · rename_i u i h1 h2
        split at h
        · rename_i spec h3
          cases h
          refine stm_tryAs G.g G.ex G.stk G.frm h2 (G.g.loc _ hh.2.2.2) hh.1 hh.2.1 hh.2.2.1 (fun pn xe => ?_) h3
          exact S.b (X.tr pn xe) _ _ hP hw hK hm hb (G.tr pn xe) h1
        · cases h
      · cases h
    · cases h
  · split at h
    · rename_i hh
      split at h
      · rename_i u spec h1 h3
        cases h
        refine stm_tryOnly G.g G.ex G.stk G.frm hh.1 hh.2.1 hh.2.2 (fun pn xe => ?_) h3
        exact S.b (X.tr pn xe) _ _ hP hw hK hm hb (G.tr pn xe) h1
      · cases h
    · cases h
  · cases h
theorem cmpS_ok (C : SndC P w K mg base CL cl k r) (CW : SwC P w K mg base CL cl k r) (c : Ct) : ∀ n, SndP P w K mg base CL cl k exs c (cmpS r exs n c)
  | 0 => ⟨fun X ss s _ _ _ _ _ _ h => by simp [cmpS] at h⟩
  | n + 1 => ⟨fun X ss s hP hw hK hm hb G h => bodyOf_ok (fun st s h => stepS_ok C CW (cmpS_ok C CW c n) hP hw hK hm hb G h) ss s h⟩
end
end MI
end
section
set_option Elab.async false
set_option linter.all false
set_option maxRecDepth 100000
set_option maxHeartbeats 4000000
/-! MI20: the program's top, the table, the law's end -/
namespace MI
open PySem PySem.Spec PyProof.Rows L2 He
/-! ### facts of the top -/
mutual
def dB (K : PySem.W.Frag) : D → Value → Bool
  | .non, .none => true
  | .bl b, .bool c => b == c
  | .int i, .int j _ => decide (i = j)
  | .str x, .str y _ => decide (x = y)
  | .tup ds, .ref a => match K.lookup a with
    | some ⟨.type c, _, .seq its _, _⟩ => decide (c = "tuple") && (decide (its.size ≤ sizeLine) && dBs K ds its.toList)
    | _ => false
  | _, _ => false
def dBs (K : PySem.W.Frag) : List D → List Value → Bool
  | [], [] => true
  | d :: ds, u :: us => dB K d u && dBs K ds us
  | _, _ => false
end
mutual
theorem dB_ok {K : PySem.W.Frag} : ∀ {d : D} {u : Value}, dB K d u = true → ∃ v, RelV v u ∧ ∀ mu H, Rv K mu H d v
  | .non, u, h => by
    cases u <;> simp [dB] at h
    exact ⟨.non, rfl, fun _ _ => rfl⟩
  | .bl b, u, h => by
    cases u <;> simp [dB] at h
    subst h
    exact ⟨.bl _, rfl, fun _ _ => rfl⟩
  | .int i, u, h => by
    cases u <;> simp [dB] at h
    subst h
    exact ⟨.int _, ⟨_, rfl⟩, fun _ _ => rfl⟩
  | .str i, u, h => by
    cases u <;> simp [dB] at h
    subst h
    exact ⟨.str _, ⟨_, rfl⟩, fun _ _ => rfl⟩
  | .tup ds, u, h => by
    cases u with
    | ref a =>
      simp only [dB] at h
      cases q : K.lookup a with
      | none => rw [q] at h; cases h
      | some o =>
        obtain ⟨oc, od, dt, osl⟩ := o
        rw [q] at h
        cases oc with
        | type c =>
          cases dt with
          | seq its n =>
            simp only [Bool.and_eq_true, decide_eq_true_eq] at h
            obtain ⟨h1, h2, h3⟩ := h
            obtain ⟨vs, z1, z2⟩ := dBs_ok h3
            exact ⟨.ref a, rfl, fun mu H => ⟨a, vs, rfl, .inr ⟨_, its, n, q, congrArg Value.type h1, rfl, h2, z1⟩, z2 mu H⟩⟩
          | _ => cases h
        | _ => cases dt <;> cases h
    | _ => simp [dB] at h
  | .hdl _, u, h => by simp [dB] at h
  | .ro _, u, h => by simp [dB] at h
theorem dBs_ok {K : PySem.W.Frag} : ∀ {ds : List D} {us : List Value}, dBs K ds us = true → ∃ vs, Vals vs us ∧ ∀ mu H, Rvs K mu H ds vs
  | [], [], _ => ⟨[], .nil, fun _ _ => rfl⟩
  | [], _ :: _, h => by simp [dBs] at h
  | _ :: _, [], h => by simp [dBs] at h
  | d :: ds, u :: us, h => by
    simp only [dBs, Bool.and_eq_true] at h
    obtain ⟨v, z1, z2⟩ := dB_ok h.1
    obtain ⟨vs, z3, z4⟩ := dBs_ok h.2
    exact ⟨v :: vs, .cons z1 z3, fun mu H => ⟨v, vs, rfl, z2 mu H, z4 mu H⟩⟩
end
def konB (K : PySem.W.Frag) (p : Str × D) : Bool := match PySem.W.nsIn K mainGlobals p.1 with
  | some (some u) => dB K p.2 u
  | _ => false
def exB (K : PySem.W.Frag) (exs : List Str) (x : Str) : Bool :=
  eqO (PySem.W.findIn K (.ref (ga K x)) "__getattribute__") (some (some (.builtin "BaseException.__getattribute__"))) && (eqO (PySem.W.findIn K (.ref (ga K x)) "__getattr__") (some none) && (PySem.W.hasDictIn K (ga K x) &&
  (eqO (PySem.W.findIn K (.ref (ga K x)) "__class__") (some (some (.builtin "object.__class__"))) && (eqO (PySem.W.specialIn K (.builtin "object.__class__") "__get__") (some (some (.builtin "getset_descriptor.__get__"))) &&
  (decide (PySem.W.takesIn K (.builtin "object.__class__") = some true) && (decide (PySem.W.mroIn K (ga K x) (.type "object") = some true) && (decide (PySem.W.kitOne K (.ref (ga K x)) (.type "ValueError") = some true) &&
  exs.all fun y => decide (PySem.W.kitOne K (.ref (ga K x)) (.ref (ga K y)) = some (subX x y)) && decide (PySem.W.exmOne K (.ref (ga K x)) (.ref (ga K y)) = some (catX exs y x)))))))))
structure Cfg where
  fns : List (Str × Nat)
  bl : List Str
  kon : List (Str × D)
  exs : List Str
  /-- classes, with how many arguments __init__ takes; their methods; fields -/
  cls : List (Str × Nat) := []
  ms : List (Str × Str) := []
  flds : List Str := []
def Cfg.cn (g : Cfg) : List Str := g.cls.map (·.1)
def Cfg.clsFa (g : Cfg) : List Fa := g.cn.map Fa.glo ++ (g.cn.map Fa.cls ++ (g.cn.map Fa.mkr ++ (g.cn.flatMap (fun c => g.flds.map (Fa.noat c)) ++ g.ms.map fun p => Fa.meth p.1 p.2)))
def Cfg.more (g : Cfg) (K : PySem.W.Frag) : Bool := g.kon.all (konB K) && (g.exs.all (exB K g.exs) && decide (("ValueError" : Str) ∉ g.exs))
def Cfg.fa (g : Cfg) : List Fa := g.fns.map (fun p => Fa.glo p.1) ++ (g.bl.map Fa.free ++ (g.exs.map Fa.glo ++ (g.exs.map Fa.exc ++ g.clsFa)))
/-- a def of the text -/
structure Df where
  d : DefD
  N : List Str
  ps : List Str
  fn : Fn
  dn : List Str := []
def Df.name (t : Df) : Str := match t.d.at_.2 with
  | none => t.d.at_.1
  | some m => mname t.d.at_.1 m
/-- a method of a class -/
def Df.glob (t : Df) : Bool := t.d.at_.2.isNone
/-! ### the hook -/
abbrev AlM : Type := AlD × Bool
def obsM (g : Cfg) (fn : List DefD) (K : PySem.W.Frag) : AlM := (obsD g.fa fn K, g.more K)
/-! the addresses that are looked at: a mask of those met -/
def bitN (m a : Nat) : Bool := Nat.beq (Nat.land (Nat.shiftRight m a) 1) 1
def addAs {α : Type} (k : Nat → List Addr → α) : List Addr → Nat → List Addr → α
  | [], m, new => k m new
  | a :: r, m, new => HandSHeadRun.frNat a fun a => match bitN m a with
    | true => addAs k r m new
    | false => HandSHeadRun.frNat (Nat.lor m (Nat.shiftLeft 1 a)) fun m => addAs k r m (a :: new)
def levAs {α : Type} (g : Addr → Option Obj) (k : Nat → List Addr → α) : List Addr → Nat → List Addr → α
  | [], m, new => k m new
  | a :: r, m, new => match g a with
    | some o => addAs (fun m new => levAs g k r m new) (refsD o) m new
    | none => levAs g k r m new
def bfsAs (g : Addr → Option Obj) : Nat → List Addr → Nat → List Addr → List Addr
  | 0, _, _, acc => acc
  | n + 1, fr, m, acc => levAs g (fun m new => bfsAs g n new m (new ++ acc)) fr m []
def asM (g : Addr → Option Obj) (n : Nat) : List Addr := bfsAs g n [mainGlobals] (Nat.shiftLeft 1 mainGlobals) [mainGlobals]
def obsMG (n : Nat) (c : Cfg) (fn : List DefD) (g : Addr → Option Obj) : AlM := obsM c fn (frG g (asM g n))
def hookM (n : Nat) (c : Cfg) (fn : List DefD) : PySem.W.Hook where
  α := AlM
  obs := fun s => obsMG n c fn s.heap.get?
  val := fun _ => (valD fn, true)
  says := fun _ h => ∃ K : PySem.W.Frag, K.In h ∧ SaysD c.fa fn K ∧ c.more K = true
  of := fun _ _ e => ⟨_, frG_in, congrArg (fun z : AlM => z.1) e, congrArg (fun z : AlM => z.2) e⟩
  keeps := fun _ _ _ ⟨K, hK, a, b⟩ k => ⟨K, PySem.W.Frag.In.keeps hK k, a, b⟩
theorem obsMG_eq {n : Nat} {c : Cfg} {fn : List DefD} {g : Addr → Option Obj} {s : Shared} (h : ∀ a, g a = s.heap.get? a) : obsMG n c fn g = (hookM n c fn).obs s := by
  have e : g = s.heap.get? := funext h
  rw [e] <;> rfl

/-! ### the table -/
def tabOf (ts : List Df) : Tab := ts.map fun t => (t.name, t.fn)
structure DfOk (g : Cfg) (ts : List Df) (t : Df) : Prop where
  cmp : cmpS (cmp 60) g.exs 60 ⟨t.N, t.d.scope, g.fns, g.bl, g.kon, true, t.dn, g.cls, g.flds, g.ms.map (·.2), decide (("*" : Str) ∈ t.dn)⟩ t.d.body = some t.fn.body
  sc : FnScope t.N t.ps t.d.scope
  ar : t.fn.ar = t.ps.length
  ns : t.N.length = t.fn.ns
  dfl : t.d.dfl = []
  kwd : t.d.kwd = []
  look : (tabOf ts).lookup t.name = some t.fn
  bnd : ∀ (kV doc pm : Value) (an : Option Addr) (cdv ct : Value) (us : List Value), us.length = t.ps.length → bindArgs (PySem.W.fnOf t.d.name t.d.qual t.d.params t.d.body t.d.scope .none kV doc pm an cdv ct) ⟨us, []⟩ = pure (t.ps.zip us)
theorem lookup_mem' {A : Type} {x : Str} {d : A} : ∀ {l : List (Str × A)}, l.lookup x = some d → (x, d) ∈ l
  | [], h => by simp at h
  | (y, e) :: r, h => by
    rw [List.lookup_cons] at h
    split at h
    · rename_i q
      simp only [Option.some.injEq] at h
      rw [beq_iff_eq.mp q, h]; exact List.mem_cons_self
    · exact List.mem_cons_of_mem _ (lookup_mem' h)
/-- the table's methods are those that the configuration names -/
def msOk (g : Cfg) (ts : List Df) : Bool :=
  (g.ms.all fun p => ts.all fun t => !decide (t.name = mname p.1 p.2) || decide (t.d.at_ = (p.1, some p.2))) &&
  ((g.cn.all fun c => (g.ms.map (·.2)).all fun m => decide ((c, m) ∈ g.ms) || ts.all fun t => !decide (t.name = mname c m)) &&
  g.cls.all fun p => ts.any fun t => decide (t.d.at_ = (p.1, some ("__init__" : Str))) && (decide (t.ps.length = p.2)))
structure Facts (g : Cfg) (ts : List Df) (K : PySem.W.Frag) (mg : Str → Option Value) : Prop where
  ok : ∀ t ∈ ts, DfOk g ts t
  fns : g.fns = (ts.filter Df.glob).map fun t => (t.name, t.ps.length)
  mso : msOk g ts = true
  says : SaysD g.fa (ts.map Df.d) K
  more : g.more K = true
  glo : ∀ x, Fa.glo x ∈ g.fa → mg x = some (.ref (ga K x))
  free : ∀ x ∈ g.bl, mg x = none
  kon : ∀ p ∈ g.kon, ∃ u, mg p.1 = some u ∧ dB K p.2 u = true
theorem facts_mk {g : Cfg} {ts : List Df} {K : PySem.W.Frag} {mg : Str → Option Value} {h : Heap} (ok : ∀ t ∈ ts, DfOk g ts t) (fns : g.fns = (ts.filter Df.glob).map fun t => (t.name, t.ps.length)) (mso : msOk g ts = true) (X : K.In h) (G : h.Ns mainGlobals mg) (s : SaysD g.fa (ts.map Df.d) K) (m : g.more K = true) : Facts g ts K mg where
  ok := ok
  fns := fns
  mso := mso
  says := s
  more := m
  glo := fun x hx => glo_ok X G (s.facts hx)
  free := fun x hx => free_ok X G (s.facts (show Fa.free x ∈ g.fa from List.mem_append_right _ (List.mem_append_left _ (List.mem_map.mpr ⟨x, hx, rfl⟩))))
  kon := fun p hp => by
    unfold Cfg.more at m
    have h1 := List.all_eq_true.mp (ba m).1 p hp
    unfold konB at h1
    split at h1
    · rename_i u e; exact ⟨u, PySem.W.mg_of X G e, h1⟩
    · cases h1
def Cfg.of (g : Cfg) (K : PySem.W.Frag) (x : Str) : Option Addr := if x ∈ g.exs then some (ga K x) else none
def Cfg.CL (g : Cfg) (K : PySem.W.Frag) (w : World) : CLs := ⟨g.of K, fun c => if c ∈ g.cn then some (ga K c) else none, w⟩
theorem CL_eq {g : Cfg} {K : PySem.W.Frag} {w : World} {x : Str} {C : Addr} (h : g.CL K w x = some C) : x ∈ g.exs ∧ C = ga K x := by
  replace h : g.of K x = some C := h
  unfold Cfg.of at h
  split at h
  · rename_i hx; cases h; exact ⟨hx, rfl⟩
  · cases h
theorem exF_of {w : World} {g : Cfg} {ts : List Df} {K : PySem.W.Frag} {mg : Str → Option Value} (F : Facts g ts K mg) {X : Cx} (hK : X.K = K) (hm : X.mg = mg) : ExF X (g.CL K w) g.exs := by
  subst hK; subst hm
  have m := F.more
  unfold Cfg.more at m
  obtain ⟨_, m⟩ := ba m
  obtain ⟨m1, m2⟩ := ba m
  have key : ∀ x ∈ g.exs, exB X.K g.exs x = true := fun x hx => List.all_eq_true.mp m1 x hx
  have cl : ∀ x ∈ g.exs, g.CL X.K w x = some (ga X.K x) := fun x hx => by show g.of X.K x = _; unfold Cfg.of; rw [if_pos hx]
  have ex : ∀ x ∈ g.exs, (Fa.exc x).ok X.K = true := fun x hx => F.says.facts (List.mem_append_right _ (List.mem_append_right _ (List.mem_append_right _ (List.mem_append_left _ (List.mem_map.mpr ⟨x, hx, rfl⟩)))))
  have gl : ∀ x ∈ g.exs, X.mg x = some (.ref (ga X.K x)) := fun x hx => F.glo x (List.mem_append_right _ (List.mem_append_right _ (List.mem_append_left _ (List.mem_map.mpr ⟨x, hx, rfl⟩))))
  have all : ∀ x ∈ g.exs, ∀ y ∈ g.exs, PySem.W.kitOne X.K (.ref (ga X.K x)) (.ref (ga X.K y)) = some (subX x y) ∧ PySem.W.exmOne X.K (.ref (ga X.K x)) (.ref (ga X.K y)) = some (catX g.exs y x) := fun x hx y hy => by
    have := key x hx
    unfold exB at this
    simp only [Bool.and_eq_true, List.all_eq_true, decide_eq_true_eq] at this
    exact this.2.2.2.2.2.2.2.2 y hy
  refine ⟨fun x hx => ?_, fun x hx y hy C D hC hD => ?_, fun x hx C hC => ?_, fun x y hy C D hC hD => ?_, of_decide_eq_true m2⟩
  · obtain ⟨e1, e2, e3, e4⟩ := exc_ok (ex x hx)
    have := key x hx
    unfold exB at this
    simp only [Bool.and_eq_true, decide_eq_true_eq] at this
    obtain ⟨a1, a2, a3, a4, a5, a6, a7, _⟩ := this
    exact ⟨_, cl x hx, gl x hx, e1, e2, e3, e4, ⟨eqO_ok a1, eqO_ok a2, e3, a3, eqO_ok a4, eqO_ok a5, a6, a7⟩⟩
  · rw [(CL_eq hC).2, (CL_eq hD).2]; exact (all x hx y hy).1
  · have := key x hx
    unfold exB at this
    simp only [Bool.and_eq_true, decide_eq_true_eq] at this
    rw [(CL_eq hC).2]; exact this.2.2.2.2.2.2.2.1
  · rw [(CL_eq hC).2, (CL_eq hD).2]; exact (all x (CL_eq hC).1 y hy).2
section
variable {P : Program} {w : World} {K : PySem.W.Frag} {mg : Str → Option Value} {base : Heap}
theorem fn_okD {CL : CLs} {T : Tab} {n : Nat} {x name qual : Str} {params : Arguments} {body : List Stmt} {scope : Scope} {F : Fn} {f : Addr} {fd : FuncData} {N ps : List Str} {kws : List (Str × V)} (FF : FunD K name qual params body scope [] kws f fd) (S : FnScope N ps scope) (hT : T.lookup x = some F) (har : F.ar = ps.length) (hns : N.length = F.ns)
    (snd : ∀ (cdv : Value) (A : Around) (outer : List PySem.Env) (s : Shared) (H : Hp) (E : XK), Room (2 * n + 1) (A.deeper (envOfC qual scope s.heap.objs.size f cdv)) →
      SndB (CxF P w K mg base N qual scope f cdv A outer s H E) CL (run T n) body F.body) :
    FnOk P w K mg base (CX P w) (2 * n + 2) f fd ps (spOf K CL (run T (n + 1)) x F.ar) := by
  refine FF.ok S (fun vs H Q E h => by rw [← har]; exact h.1) fun cdv A outer s H vs Q E hr hsp => ?_
  obtain ⟨hl, mu, ds, M, R, q, h⟩ := hsp
  refine ⟨rS K CL (fun c d _ H' => E c d H') (run T n) F.body, snd cdv A outer s H E hr _ (takes_of rfl rfl rfl rfl) (passes_of rfl), mu, _, M, R, Rst.start q hns, ?_⟩
  refine body_ok (σ := []) (m := F.mode) R ?_
  have hl2 : ds.length = F.ar := by have := q.length; have hh : vs.length = F.ar := hl; omega
  simp only [run, hT, Fn.run, if_pos hl2] at h
  exact h
theorem defs_ok {g : Cfg} {ts : List Df} (F : Facts g ts K mg) : ∀ (n : Nat) (t : Df), t ∈ ts → ∀ fd, FunD K t.d.name t.d.qual t.d.params t.d.body t.d.scope [] [] (fAd K t.d.at_) fd → FnOk P w K mg base (CX P w) (2 * n) (fAd K t.d.at_) fd t.ps (spOf K (g.CL K w) (run (tabOf ts) n) t.name t.fn.ar)
  | 0, t, ht, fd, FF => by
    have no : ∀ vs H Q E, ¬ spOf K (g.CL K w) (run (tabOf ts) 0) t.name t.fn.ar vs H Q E := fun vs H Q E ⟨_, _, _, _, _, _, h⟩ => h
    exact ⟨fun vs H Q E h => (no _ _ _ _ h).elim, fun A outer s H args us vs Q E _ _ _ _ h => (no _ _ _ _ h).elim⟩
  | n + 1, t, ht, fd, FF => by
    have O := F.ok t ht
    refine fn_okD FF O.sc O.look O.ar O.ns fun cdv A outer s H E hr => ?_
    have ok' : ∀ t' ∈ ts, ∃ fd', FnOk P w K mg base (CX P w) (2 * n) (fAd K t'.d.at_) fd' t'.ps (spOf K (g.CL K w) (run (tabOf ts) n) t'.name t'.ps.length) ∧ PySem.W.keepIn K (.ref (fAd K t'.d.at_)) = true ∧ Binds K fd' t'.ps [] := fun t' ht' => by
      have O' := F.ok t' ht'
      obtain ⟨fd', FF'⟩ := F.says.defs (d := t'.d) (List.mem_map.mpr ⟨t', ht', rfl⟩)
      have FF2 : FunD K t'.d.name t'.d.qual t'.d.params t'.d.body t'.d.scope [] [] (fAd K t'.d.at_) fd' := by
        unfold DefD.dvs DefD.kws at FF'
        rw [O'.dfl, O'.kwd] at FF'
        exact FF'
      refine ⟨fd', ?_, FF2.kp, FF2.bindsN O'.bnd⟩
      rw [← O'.ar]
      exact defs_ok F n t' ht' fd' FF2
    have gfn : ∀ x ar, g.fns.lookup x = some ar → FnG (CxF P w K mg base t.N t.d.qual t.d.scope (fAd K t.d.at_) cdv A outer s H E) (g.CL K w) (run (tabOf ts) n) (2 * n) x ar := fun x ar h => by
      have h0 := h
      rw [F.fns] at h
      have hmem : ∃ t' ∈ ts, t'.name = x ∧ t'.ps.length = ar ∧ t'.d.at_.2 = none := by
        have hm := lookup_mem' h
        obtain ⟨t', z1, z2⟩ := List.mem_map.mp hm
        obtain ⟨z3, z4⟩ := List.mem_filter.mp z1
        cases z2
        exact ⟨t', z3, rfl, rfl, Option.isNone_iff_eq_none.mp z4⟩
      obtain ⟨t', ht', rfl, rfl, hnone⟩ := hmem
      obtain ⟨fd', q1, q2, q3⟩ := ok' t' ht'
      have ea : fAd K t'.d.at_ = ga K t'.name := by
        unfold fAd Df.name
        rw [hnone]
      refine ⟨fAd K t'.d.at_, fd', t'.ps, q1, ?_, q2, q3⟩
      rw [ea]
      exact F.glo _ (List.mem_append_left _ (List.mem_map.mpr ⟨(t'.name, t'.ps.length), lookup_mem' h0, rfl⟩))
    have cfa : ∀ f, f ∈ g.clsFa → Fa.ok K f = true := fun f hf => F.says.facts (List.mem_append_right _ (List.mem_append_right _ (List.mem_append_right _ (List.mem_append_right _ hf))))
    have clm : ∀ c C, (g.CL K w).cls c = some C → c ∈ g.cn ∧ C = ga K c := fun c C e => by
      have e' : (if c ∈ g.cn then some (ga K c) else none) = some C := e
      split at e'
      · rename_i hc; cases e'; exact ⟨hc, rfl⟩
      · cases e'
    have clk : ∀ c ∈ g.cn, Cls K (ga K c) := fun c hc => cls_ok (cfa _ (List.mem_append_right _ (List.mem_append_left _ (List.mem_map.mpr ⟨c, hc, rfl⟩))))
    have mso := F.mso
    unfold msOk at mso
    simp only [Bool.and_eq_true] at mso
    obtain ⟨ms1, ms2, ms3⟩ := mso
    have gmth : ∀ m, m ∈ g.ms.map (·.2) → MthF (CxF P w K mg base t.N t.d.qual t.d.scope (fAd K t.d.at_) cdv A outer s H E) (g.CL K w) (run (tabOf ts) n) (2 * n) m := fun m hm c C e => by
      obtain ⟨hc, rfl⟩ := clm c C e
      have bad0 : (tabOf ts).lookup (mname c m) = none → ∀ ds M, run (tabOf ts) n (mname c m) ds M = .bad := fun hl ds M => by
        cases n with
        | zero => rfl
        | succ n => simp only [run, hl]
      cases hl : (tabOf ts).lookup (mname c m) with
      | none => exact .inr (bad0 hl)
      | some F' =>
        have hmt := lookup_mem' hl
        obtain ⟨t', ht', z2⟩ := List.mem_map.mp hmt
        have zn : t'.name = mname c m := congrArg Prod.fst z2
        have hcm : (c, m) ∈ g.ms := by
          have q := List.all_eq_true.mp (List.all_eq_true.mp ms2 c hc) m hm
          simp only [Bool.or_eq_true, decide_eq_true_eq, List.all_eq_true, Bool.not_eq_true', decide_eq_false_iff_not] at q
          rcases q with q | q
          · exact q
          · exact absurd zn (q t' ht')
        have hat : t'.d.at_ = (c, some m) := by
          have q := List.all_eq_true.mp (List.all_eq_true.mp ms1 (c, m) hcm) t' ht'
          simp only [Bool.or_eq_true, decide_eq_true_eq, Bool.not_eq_true', decide_eq_false_iff_not] at q
          rcases q with q | q
          · exact absurd zn q
          · exact q
        obtain ⟨fd', q1, q2, q3⟩ := ok' t' ht'
        have O' := F.ok t' ht'
        have hmk : Meth K (ga K c) m (fAd K t'.d.at_) := by
          rw [hat]
          exact meth_ok (cfa _ (List.mem_append_right _ (List.mem_append_right _ (List.mem_append_right _ (List.mem_append_right _ (List.mem_map.mpr ⟨(c, m), hcm, rfl⟩))))))
        refine .inl ⟨t'.ps.length, clk c hc, ⟨fAd K t'.d.at_, fd', t'.ps, by rw [← zn]; exact q1, hmk, q3⟩, fun ds M hne => ?_⟩
        cases n with
        | zero => rfl
        | succ n =>
          have hlt : (tabOf ts).lookup (mname c m) = some t'.fn := by rw [← zn]; exact O'.look
          simp only [run, hlt, Fn.run]
          rw [if_neg (by rw [O'.ar]; exact hne)]
    have gnew : ∀ x ar, g.cls.lookup x = some ar → MkG (CxF P w K mg base t.N t.d.qual t.d.scope (fAd K t.d.at_) cdv A outer s H E) (g.CL K w) (run (tabOf ts) n) (2 * n) x ar := fun x ar h => by
      have hm := lookup_mem' h
      have hc : x ∈ g.cn := List.mem_map.mpr ⟨(x, ar), hm, rfl⟩
      have q := List.all_eq_true.mp ms3 (x, ar) hm
      obtain ⟨t', ht', q⟩ := List.any_eq_true.mp q
      simp only [Bool.and_eq_true, decide_eq_true_eq] at q
      obtain ⟨hat, har⟩ := q
      obtain ⟨fd', q1, q2, q3⟩ := ok' t' ht'
      have zn : t'.name = mname x "__init__" := by unfold Df.name; rw [hat]
      rw [har, zn] at q1
      have mk : Mk K (ga K x) (fAd K t'.d.at_) := by
        rw [hat]
        exact mkr_ok (cfa _ (List.mem_append_right _ (List.mem_append_right _ (List.mem_append_left _ (List.mem_map.mpr ⟨x, hc, rfl⟩)))))
      refine ⟨ga K x, _, fd', t'.ps, if_pos hc, ?_, mk, q1, q3⟩
      exact F.glo x (List.mem_append_right _ (List.mem_append_right _ (List.mem_append_right _ (List.mem_append_right _ (List.mem_append_left _ (List.mem_map.mpr ⟨x, hc, rfl⟩))))))
    have gfld : ∀ f, f ∈ g.flds → ClF (CxF P w K mg base t.N t.d.qual t.d.scope (fAd K t.d.at_) cdv A outer s H E) (g.CL K w) f := fun f hf c C e => by
      obtain ⟨hc, rfl⟩ := clm c C e
      exact ⟨clk c hc, noat_ok (cfa _ (List.mem_append_right _ (List.mem_append_right _ (List.mem_append_right _ (List.mem_append_left _ (List.mem_flatMap.mpr ⟨c, hc, List.mem_map.mpr ⟨f, hf, rfl⟩⟩))))))⟩
    have G : Good (CxF P w K mg base t.N t.d.qual t.d.scope (fAd K t.d.at_) cdv A outer s H E) (g.CL K w) (run (tabOf ts) n) (2 * n) ⟨t.N, t.d.scope, g.fns, g.bl, g.kon, true, t.dn, g.cls, g.flds, g.ms.map (·.2), decide (("*" : Str) ∈ t.dn)⟩ := by
      refine ⟨rfl, O.sc.nd, fun x h => ?_, fun x h => ?_, fun x h => ?_, fun x h => ?_, fun x h => h, O.sc.kind, F.free, fun x d h => ?_, gfn, ?_, rfl, fun _ => ⟨rfl, hr⟩, gnew, gfld, gmth, fun _ => ⟨rfl, rfl⟩⟩
      · unfold Ct.vis Ct.lk at h
        split at h
        · rename_i e; exact .inl e
        · rename_i e; exact .inr (.inl e)
        · rename_i e; exact .inr (.inr e)
        · cases h
      · unfold Ct.gl Ct.lk at h
        split at h
        · rename_i e; exact e
        · cases h
      · unfold Ct.loc Ct.lk at h
        split at h
        · rename_i e; exact e
        · cases h
      · unfold Ct.cel Ct.lk at h
        split at h
        · rename_i e; exact ⟨e, rfl⟩
        · cases h
      · have hmem : (x, d) ∈ g.kon := lookup_mem' h
        obtain ⟨u, z1, z2⟩ := F.kon _ hmem
        obtain ⟨v, z3, z4⟩ := dB_ok z2
        exact ⟨u, v, z1, z3, z4⟩
      · have := hr.un
        show (A.deeper (envOfC t.d.qual t.d.scope s.heap.objs.size (fAd K t.d.at_) cdv)).units + 65 < cLine
        omega
    exact (cmpS_ok (cmp_ok 60) (cmp_sw 60) _ 60).b _ _ _ rfl rfl rfl rfl rfl ⟨G, exF_of F rfl rfl, rfl, rfl, rfl, rfl⟩ O.cmp
/-- the law's def, as walk_ofE wants it -/
theorem law_end {g : Cfg} {ts : List Df} {n m : Nat} {x : Str} {t : Df} {h : Heap} (ok : ∀ t ∈ ts, DfOk g ts t) (fns : g.fns = (ts.filter Df.glob).map fun t => (t.name, t.ps.length)) (mso : msOk g ts = true) (hno : t.d.at_.2 = none) (ht : t ∈ ts) (hps : t.ps = [x]) {fa : Addr} (hfa : mg t.name = some (.ref fa))
    (KX : K.In h) (G : h.Ns mainGlobals mg) (c1 : SaysD g.fa (ts.map Df.d) K) (c2 : g.more K = true)
    (hrun : ∀ ns : List Int, ns.length ≤ m → ∃ M, run (tabOf ts) n t.name [.ro (ns.map D.int)] [] = .ok (.d (.bl true)) M) :
    ∃ (fd : FuncData) (sp : Sp), (∀ (s : Shared) (u : Value), BindsTo s fd ⟨[u], []⟩ [(x, u)]) ∧
        (∀ (H : Hp) (a : Addr) (ns : List Int), ns.length ≤ m → Only H → SqL K H a (ns.map V.int) → sp [.ref a] H (fun v _ => v = .bl true) fun _ _ _ => False) ∧
        ∀ base : Heap, K.In base → base.Ns mainGlobals mg → FnOk P w K mg base (CX P w) (2 * n) fa fd [x] sp := by
  have F : Facts g ts K mg := facts_mk ok fns mso KX G c1 c2
  have O := ok t ht
  obtain ⟨fd', FF'⟩ := c1.defs (d := t.d) (List.mem_map.mpr ⟨t, ht, rfl⟩)
  have FF2 : FunD K t.d.name t.d.qual t.d.params t.d.body t.d.scope [] [] (fAd K t.d.at_) fd' := by
    unfold DefD.dvs DefD.kws at FF'
    rw [O.dfl, O.kwd] at FF'
    exact FF'
  have ea : fAd K t.d.at_ = ga K t.name := by
    unfold fAd Df.name
    rw [hno]
  have e0 := F.glo t.name (List.mem_append_left _ (by rw [fns]; exact List.mem_map.mpr ⟨(t.name, t.ps.length), List.mem_map.mpr ⟨t, List.mem_filter.mpr ⟨ht, by unfold Df.glob; rw [hno]; rfl⟩, rfl⟩, rfl⟩))
  rw [hfa] at e0
  cases e0
  refine ⟨fd', spOf K (g.CL K w) (run (tabOf ts) n) t.name t.fn.ar, fun s u => ?_, fun H a ns hl hO hq => ?_, fun base _ _ => ?_⟩
  · have := FF2.bindsA O.bnd s [u] (by rw [hps]; rfl)
    rw [hps] at this
    exact this
  · refine ⟨by rw [O.ar, hps]; rfl, [], [.ro (ns.map D.int)], [], ⟨rfl, List.nodup_nil, fun n a o e => by simp at e⟩, ⟨.ref a, [], rfl, ⟨a, _, rfl, ?_, Rvs.of_ints ns⟩, rfl⟩, ?_⟩
    · rcases hq with (hq | hq) | hq
      · rcases hO a with e | ⟨o, xs, e⟩
        · rw [hq] at e; cases e
        · rw [hq] at e; cases e
      · exact .inl hq
      · exact .inr hq
    · obtain ⟨M, e⟩ := hrun ns hl
      rw [e]
      exact fun mu' H' _ _ v hv => hv
  · rw [← ea]
    have := defs_ok (P := P) (w := w) (base := base) F n t ht fd' FF2
    rw [hps] at this
    exact this
end
/-- the end of a law whose defs may raise -/
theorem walk_M {l : PySem.W.OpenLaw} {n k : Nat} {q : Program} {loose : List Str} {XP : (Str → Option Value) → Heap → Prop} {YP : World → Heap → Prop} {d : DefRec} {x : Str}
    (hn : l.most = some n) (hn2 : n ≤ sizeLine) (hdf : d.params.defaults = []) (hr : Room k callerA)
    (F : ∀ (w : World) (mg : Str → Option Value) (fa : Addr) (h : Heap), YP w h → h.Ns mainGlobals mg → mg d.name = some (.ref fa) →
      ∃ (K : PySem.W.Frag) (fd : FuncData) (sp : Sp), K.In h ∧ (∀ (s : Shared) (u : Value), BindsTo s fd ⟨[u], []⟩ [(x, u)]) ∧
        (∀ (H : Hp) (a : Addr) (ns : List Int), ns.length ≤ n → Only H → SqL K H a (ns.map V.int) → sp [.ref a] H (fun v _ => v = .bl true) fun _ _ _ => False) ∧
        ∀ base : Heap, K.In base → base.Ns mainGlobals mg → FnOk l.prog w K mg base (L2.CX l.prog w) k fa fd [x] sp) :
    PySem.W.WalkO q loose XP YP l.row.toRowW d [] (fun f vs => PySem.call f vs) := by
  refine Att.attach_call hn hdf fun w s₀ s₁ mg mb fa o pm cd doc a vs ns G Y ho hd hcd hmg hobj hints hlen hg => ?_
  obtain ⟨K, fd, sp, KX, hb, hsp, hF⟩ := F w mg fa _ Y G.T.g hmg
  refine law_call KX G.T.g G.T.b G.T.builtins G.T.nolimit hg hobj hints (Nat.le_trans hlen hn2) hr hF hb (fun H hO hS => hsp H a ns hlen hO hS) fun H e s' z => ?_
  obtain ⟨_, _, _, _, _, _, _, _, _, _, _, _, z⟩ := z
  exact z.elim
/-- the law's end, by the facts of the head -/
theorem end_M {l : PySem.W.OpenLaw} {g : Cfg} {ts : List Df} {n : Nat} {x : Str} {t : Df} {d : DefRec} (hps : t.ps = [x]) (hd : d.name = t.name) (ok : ∀ t ∈ ts, DfOk g ts t) (fns : g.fns = (ts.filter Df.glob).map fun t => (t.name, t.ps.length)) (mso : msOk g ts = true) (hno : t.d.at_.2 = none) (ht : t ∈ ts)
    (hrun : ∀ ns : List Int, ns.length ≤ 63 → ∃ M, run (tabOf ts) n t.name [.ro (ns.map D.int)] [] = .ok (.d (.bl true)) M)
    (w : World) (mg : Str → Option Value) (fa : Addr) (h : Heap) (Y : (hookM 5 g (ts.map Df.d)).says w h) (G : h.Ns mainGlobals mg) (hmg : mg d.name = some (.ref fa)) :
      ∃ (K : PySem.W.Frag) (fd : FuncData) (sp : Sp), K.In h ∧ (∀ (s : Shared) (u : Value), BindsTo s fd ⟨[u], []⟩ [(x, u)]) ∧
        (∀ (H : Hp) (a : Addr) (ns : List Int), ns.length ≤ 63 → Only H → SqL K H a (ns.map V.int) → sp [.ref a] H (fun v _ => v = .bl true) fun _ _ _ => False) ∧
        ∀ base : Heap, K.In base → base.Ns mainGlobals mg → FnOk l.prog w K mg base (L2.CX l.prog w) (2 * n) fa fd [x] sp := by
  obtain ⟨K, KX, c1, c2⟩ := Y
  rw [hd] at hmg
  obtain ⟨fd, sp, h1, h2, h3⟩ := law_end (P := l.prog) (w := w) (n := n) (m := 63) (x := x) ok fns mso hno ht hps hmg KX G c1 c2 hrun
  exact ⟨K, fd, sp, KX, h1, h2, h3⟩
end MI
end
section
set_option linter.all false
set_option maxRecDepth 100000
namespace HW
open PySem MI
def exsAll : List Str := ["HeldError", "NoWord", "NoTable", "NoWidth", "NoStretch", "NoColumn", "NoTurn", "NoText"]
def b__law_draw : SS := sSeq (sIf (tB (e2 oEq (e1 bLen (eVar 0)) (eC (.int 0)))) (sRet (eC (.int 0))) (sNil)) (sSeq (sSet 3 (e2 oMod (e2 oIx (eVar 0) (e2 oMod (eVar 1) (e1 bLen (eVar 0)))) (eC (.int
    1000000007)))) (sSeq (sSet 4 (e2 oMod (e2 oMul (e2 oAdd (eVar 3) (eC (.int 5))) (e2 oAdd (eC (.int 40692)) (e2 oMul (eC (.int 977)) (eVar 1)))) (eC (.int 2147483629)))) (sSeq (sSet 4 (e2 oMod (e2
    oMul (e2 oAdd (eVar 4) (eVar 1)) (e2 oAdd (eVar 4) (eC (.int 3)))) (eC (.int 2147483647)))) (sRet (e2 oMod (e2 oDiv (eVar 4) (eC (.int 13))) (eVar 2))))))
def F__law_draw : Fn := ⟨3, 5, .pure, b__law_draw⟩
def b__law_far : SS := sSeq (sIf (tB (e2 oEq (e1 bLen (eVar 0)) (eC (.int 0)))) (sRet (eC (.int 0))) (sNil)) (sSeq (sSet 2 (e2 oAdd (eCall "_law_draw" (dCons (eVar 0) (dCons (eVar 1) (dCons (eC (.int
    100000000)) (dNil))))) (eC (.int 1)))) (sRet (e2 oMod (e2 oAdd (e2 oMul (e2 oMod (e2 oIx (eVar 0) (e2 oMod (eVar 1) (e1 bLen (eVar 0)))) (e2 oPow (eC (.int 10)) (eC (.int 50)))) (eVar 2)) (e2 oPow
    (eVar 2) (eC (.int 5)))) (e2 oPow (eC (.int 10)) (eC (.int 50))))))
def F__law_far : Fn := ⟨2, 3, .pure, b__law_far⟩
def b__law_whole_k03 : SS := sRet (eAnd (e1 (bIsi .int) (eVar 0)) (eNot (e1 (bIsi .bool) (eVar 0))))
def F__law_whole_k03 : Fn := ⟨1, 1, .pure, b__law_whole_k03⟩
def b_read_number : SS := sSeq (sIf (tNot (tTru (e1 (bIsi .str) (eVar 0)))) (sRaise "NoText") (sNil)) (sSeq (sSet 1 (eVar 0)) (sSeq (sIf (tB (e2 oEq (eSlice (eVar 0) (oNone) (oSome (eC (.int 1)))) (eC
    (.str "-")))) (sSet 1 (eSlice (eVar 0) (oSome (eC (.int 1))) (oNone))) (sNil)) (sSeq (sIf (tOr (tB (e2 oLt (e1 bLen (eVar 1)) (eC (.int 1)))) (tB (e2 oGt (e1 bLen (eVar 1)) (eC (.int 60)))))
    (sRaise "NoText") (sNil)) (sSeq (sFor (.nm 2) (iSeq (eVar 1)) (sIf (tB (e2 oNotIn (eVar 2) (eC (.str "0123456789")))) (sRaise "NoText") (sNil))) (sSeq (sIf (tAnd (tB (e2 oEq (e2 oIx (eVar 1) (eC
    (.int 0))) (eC (.str "0")))) (tB (e2 oNe (eVar 0) (eC (.str "0"))))) (sRaise "NoText") (sNil)) (sRet (e1 bInt (eVar 0))))))))
def F_read_number : Fn := ⟨1, 3, .pure, b_read_number⟩
def b__law_read : SS := sSeq (sSet 1 (eVar 0)) (sSeq (sIf (tB (e2 oEq (eSlice (eVar 0) (oNone) (oSome (eC (.int 1)))) (eC (.str "-")))) (sSet 1 (eSlice (eVar 0) (oSome (eC (.int 1))) (oNone))) (sNil))
    (sSeq (sIf (tOr (tB (e2 oLt (e1 bLen (eVar 1)) (eC (.int 1)))) (tOr (tB (e2 oGt (e1 bLen (eVar 1)) (eC (.int 60)))) (tB (e2 oNe (eComp (eVar 2) (tB (e2 oNotIn (eVar 2) (eC (.str "0123456789"))))
    (.nm 2) [2] (iSeq (eVar 1))) (eLst (dNil)))))) (sRet (eC (.non))) (sNil)) (sSeq (sIf (tAnd (tB (e2 oEq (e2 oIx (eVar 1) (eC (.int 0))) (eC (.str "0")))) (tB (e2 oNe (eVar 0) (eC (.str "0")))))
    (sRet (eC (.non))) (sNil)) (sRet (e1 bInt (eVar 0))))))
def F__law_read : Fn := ⟨1, 3, .pure, b__law_read⟩
def b_words_of : SS := sSeq (sIf (tNot (tTru (e1 (bIsi .str) (eVar 0)))) (sRaise "NoText") (sNil)) (sRet (eT1 tSplit (eVar 0) (eC (.str " "))))
def F_words_of : Fn := ⟨1, 1, .pure, b_words_of⟩
def b_word_at : SS := sSeq (sIf (tB (e2 oGe (eVar 1) (e1 bLen (eVar 0)))) (sRaise "NoText") (sNil)) (sRet (e2 oIx (eVar 0) (eVar 1)))
def F_word_at : Fn := ⟨2, 2, .pure, b_word_at⟩
def b_number_at : SS := sRet (eCall "read_number" (dCons (eCall "word_at" (dCons (eVar 0) (dCons (eVar 1) (dNil)))) (dNil)))
def F_number_at : Fn := ⟨2, 2, .pure, b_number_at⟩
def b_name_at : SS := sSeq (sSet 2 (eCall "word_at" (dCons (eVar 0) (dCons (eVar 1) (dNil))))) (sSeq (sIf (tOr (tB (e2 oLt (e1 bLen (eVar 2)) (eC (.int 1)))) (tB (e2 oGt (e1 bLen (eVar 2)) (eC (.int
    8))))) (sRaise "NoText") (sNil)) (sSeq (sFor (.nm 3) (iSeq (eVar 2)) (sIf (tB (e2 oNotIn (eVar 3) (eC (.str "abcdefghijklmnopqrstuvwxyz")))) (sRaise "NoText") (sNil))) (sRet (eVar 2))))
def F_name_at : Fn := ⟨2, 4, .pure, b_name_at⟩
def b_so_many_at : SS := sSeq (sIf (tOr (tB (e2 oLt (eVar 2) (eC (.int 0)))) (tB (e2 oGt (e2 oAdd (eVar 1) (eVar 2)) (e1 bLen (eVar 0))))) (sRaise "NoText") (sNil)) (sRet (e1 bTuple (eCompX (eCall
    "read_number" (dCons (eVar 3) (dNil))) (.nm 3) [3] (iSeq (eSlice (eVar 0) (oSome (eVar 1)) (oSome (e2 oAdd (eVar 1) (eVar 2))))))))
def F_so_many_at : Fn := ⟨3, 4, .pure, b_so_many_at⟩
def b_end_at : SS := sSeq (sIf (tB (e2 oEq (eCall "word_at" (dCons (eVar 0) (dCons (eVar 1) (dNil)))) (eC (.str "-")))) (sRet (eC (.non))) (sNil)) (sRet (eCall "number_at" (dCons (eVar 0) (dCons (eVar
    1) (dNil)))))
def F_end_at : Fn := ⟨2, 2, .pure, b_end_at⟩
def b_read_telling : SS := sSeq (sSet 1 (eCall "words_of" (dCons (eVar 0) (dNil)))) (sSeq (sIf (tOr (tB (e2 oNotIn (e2 oIx (eVar 1) (eC (.int 0))) (eTup (dCons (eC (.str "tell")) (dCons (eC (.str
    "strike")) (dNil)))))) (tOr (tB (e2 oLt (e1 bLen (eVar 1)) (eC (.int 6)))) (tB (e2 oNe (e2 oIx (eVar 1) (e1 oNeg (eC (.int 1)))) (eC (.str ".")))))) (sRaise "NoText") (sNil)) (sSeq (sSet 2 (eCall
    "number_at" (dCons (eVar 1) (dCons (eC (.int 1)) (dNil))))) (sSeq (sSet 3 (eCall "name_at" (dCons (eVar 1) (dCons (eC (.int 2)) (dNil))))) (sSeq (sSet 4 (eCall "end_at" (dCons (eVar 1) (dCons (eC
    (.int 3)) (dNil))))) (sSeq (sSet 5 (eCall "end_at" (dCons (eVar 1) (dCons (eC (.int 4)) (dNil))))) (sSeq (sSet 6 (eCall "so_many_at" (dCons (eVar 1) (dCons (eC (.int 5)) (dCons (e2 oSub (e1 bLen
    (eVar 1)) (eC (.int 6))) (dNil)))))) (sSeq (sIf (tOr (tB (e2 oLt (eVar 2) (eC (.int 1)))) (tAnd (tB (e2 oIsNot (eVar 4) (eC (.non)))) (tAnd (tB (e2 oIsNot (eVar 5) (eC (.non)))) (tB (e2 oLe (eVar
    5) (eVar 4)))))) (sRaise "NoText") (sNil)) (sRet (eTup (dCons (eVar 2) (dCons (eTup (dCons (e2 oIx (eVar 1) (eC (.int 0))) (dCons (eVar 3) (dCons (eVar 6) (dCons (eVar 4) (dCons (eVar 5)
    (dNil))))))) (dNil))))))))))))
def F_read_telling : Fn := ⟨1, 7, .pure, b_read_telling⟩
def b__law_name : SS := sSeq (sSet 2 (eC (.str ""))) (sSeq (sFor (.nm 3) (iRange1 (e2 oAdd (eC (.int 1)) (eCall "_law_draw" (dCons (eVar 0) (dCons (eVar 1) (dCons (eC (.int 8)) (dNil))))))) (sSet 2
    (e2 oAdd (eVar 2) (e2 oIx (eC (.str "abcdefghijklmnopqrstuvwxyz")) (eCall "_law_draw" (dCons (eVar 0) (dCons (e2 oAdd (e2 oAdd (eVar 1) (eC (.int 1))) (eVar 3)) (dCons (eC (.int 26))
    (dNil))))))))) (sRet (eVar 2)))
def F__law_name : Fn := ⟨2, 4, .pure, b__law_name⟩
def b__law_number : SS := sSeq (sSet 2 (eCall "_law_draw" (dCons (eVar 0) (dCons (eVar 1) (dCons (eC (.int 5)) (dNil)))))) (sSeq (sIf (tB (e2 oLt (eVar 2) (eC (.int 2)))) (sRet (e2 oSub (eCall
    "_law_draw" (dCons (eVar 0) (dCons (e2 oAdd (eVar 1) (eC (.int 1))) (dCons (eC (.int 25)) (dNil))))) (eC (.int 12)))) (sNil)) (sSeq (sIf (tB (e2 oEq (eVar 2) (eC (.int 2)))) (sRet (e2 oSub (e2
    oSub (e2 oPow (eC (.int 10)) (eC (.int 60))) (eC (.int 1))) (eCall "_law_draw" (dCons (eVar 0) (dCons (e2 oAdd (eVar 1) (eC (.int 1))) (dCons (eC (.int 3)) (dNil))))))) (sNil)) (sSeq (sIf (tB (e2
    oEq (eVar 2) (eC (.int 3)))) (sRet (e2 oAdd (e2 oSub (eC (.int 1)) (e2 oPow (eC (.int 10)) (eC (.int 60)))) (eCall "_law_draw" (dCons (eVar 0) (dCons (e2 oAdd (eVar 1) (eC (.int 1))) (dCons (eC
    (.int 3)) (dNil))))))) (sNil)) (sRet (e2 oSub (eCall "_law_far" (dCons (eVar 0) (dCons (e2 oAdd (eVar 1) (eC (.int 1))) (dNil)))) (e2 oMul (eC (.int 5)) (e2 oPow (eC (.int 10)) (eC (.int
    49)))))))))
def F__law_number : Fn := ⟨2, 3, .pure, b__law_number⟩
def b__law_tuple : SS := sSeq (sIf (tOr (tNot (tTru (e1 (bIsi .tuple) (eVar 0)))) (tB (e2 oNe (e1 bLen (eVar 0)) (e1 bLen (eVar 1))))) (sRet (eC (.bl false))) (sNil)) (sSeq (sFor (.nm 2) (iSeq (eVar
    0)) (sIf (tNot (tTru (eCall "_law_whole" (dCons (eVar 2) (dNil))))) (sRet (eC (.bl false))) (sNil))) (sRet (e2 oEq (eVar 0) (eVar 1))))
def F__law_tuple : Fn := ⟨2, 3, .pure, b__law_tuple⟩
def b__law_telling_k45 : SS := sSeq (sSet 2 (e2 oSub (eCall "_law_draw" (dCons (eVar 0) (dCons (eVar 1) (dCons (eC (.int 30)) (dNil))))) (eC (.int 15)))) (sSeq (sSet 3 (e2 oAdd (e2 oAdd (eVar 2) (eC
    (.int 1))) (eCall "_law_draw" (dCons (eVar 0) (dCons (e2 oAdd (eVar 1) (eC (.int 1))) (dCons (eC (.int 9)) (dNil))))))) (sSeq (sSet 4 (eCall "_law_draw" (dCons (eVar 0) (dCons (e2 oAdd (eVar 1)
    (eC (.int 2))) (dCons (eC (.int 8)) (dNil)))))) (sSeq (sIf (tB (e2 oEq (e2 oMod (eVar 4) (eC (.int 2))) (eC (.int 1)))) (sSeq (sSet 2 (e2 oSub (eVar 2) (eCall "_law_far" (dCons (eVar 0) (dCons (e2
    oAdd (eVar 1) (eC (.int 3))) (dNil)))))) (sSet 3 (e2 oAdd (eVar 3) (eCall "_law_far" (dCons (eVar 0) (dCons (e2 oAdd (eVar 1) (eC (.int 4))) (dNil))))))) (sNil)) (sSeq (sIf (tOr (tB (e2 oEq (eVar
    4) (eC (.int 0)))) (tB (e2 oEq (eVar 4) (eC (.int 2))))) (sSet 2 (eC (.non))) (sNil)) (sSeq (sIf (tOr (tB (e2 oEq (eVar 4) (eC (.int 0)))) (tB (e2 oEq (eVar 4) (eC (.int 4))))) (sSet 3 (eC
    (.non))) (sNil)) (sSeq (sSet 5 (e1 bTuple (eComp (eCall "_law_number" (dCons (eVar 0) (dCons (e2 oAdd (e2 oAdd (eVar 1) (eC (.int 20))) (e2 oMul (eC (.int 3)) (eVar 7))) (dNil)))) (tYes) (.nm 7)
    [7] (iRange1 (eCall "_law_draw" (dCons (eVar 0) (dCons (e2 oAdd (eVar 1) (eC (.int 5))) (dCons (eC (.int 9)) (dNil))))))))) (sSeq (sSet 6 (e2 oIx (eLst (dCons (eC (.str "tell")) (dCons (eC (.str
    "strike")) (dNil)))) (eCall "_law_draw" (dCons (eVar 0) (dCons (e2 oAdd (eVar 1) (eC (.int 6))) (dCons (eC (.int 2)) (dNil))))))) (sRet (eTup (dCons (eVar 6) (dCons (eCall "_law_name" (dCons (eVar
    0) (dCons (e2 oAdd (eVar 1) (eC (.int 7))) (dNil)))) (dCons (eVar 5) (dCons (eVar 2) (dCons (eVar 3) (dNil)))))))))))))))
def F__law_telling_k45 : Fn := ⟨2, 8, .pure, b__law_telling_k45⟩
def b__law_end : SS := sSeq (sIf (tB (e2 oIs (eVar 0) (eC (.non)))) (sRet (eC (.str "-"))) (sNil)) (sRet (e1 bStr (eVar 0)))
def F__law_end : Fn := ⟨1, 1, .pure, b__law_end⟩
def b__law_written : SS := sSeq (sSet 2 (eLst (dCons (e2 oIx (eVar 1) (eC (.int 0))) (dCons (e1 bStr (eVar 0)) (dCons (e2 oIx (eVar 1) (eC (.int 1))) (dCons (eCall "_law_end" (dCons (e2 oIx (eVar 1)
    (eC (.int 3))) (dNil))) (dCons (eCall "_law_end" (dCons (e2 oIx (eVar 1) (eC (.int 4))) (dNil))) (dNil)))))))) (sSeq (sFor (.nm 3) (iSeq (e2 oIx (eVar 1) (eC (.int 2)))) (sExpr (eM1 mAppend (eVar
    2) (e1 bStr (eVar 3))))) (sRet (eT1 tJoin (eC (.str " ")) (e2 oAdd (eVar 2) (eLst (dCons (eC (.str ".")) (dNil)))))))
def F__law_written : Fn := ⟨2, 4, .pure, b__law_written⟩
def b__law_alike : SS := sSeq (sIf (tOr (tNot (tTru (e1 (bIsi .tuple) (eVar 0)))) (tOr (tB (e2 oNe (e1 bLen (eVar 0)) (eC (.int 2)))) (tOr (tNot (tTru (eCall "_law_whole" (dCons (e2 oIx (eVar 0) (eC
    (.int 0))) (dNil))))) (tB (e2 oNe (e2 oIx (eVar 0) (eC (.int 0))) (eVar 1)))))) (sRet (eC (.bl false))) (sNil)) (sSeq (sSet 3 (e2 oIx (eVar 0) (eC (.int 1)))) (sSeq (sIf (tOr (tNot (tTru (e1 (bIsi
    .tuple) (eVar 3)))) (tOr (tB (e2 oNe (e1 bLen (eVar 3)) (eC (.int 5)))) (tB (e2 oNe (eSlice (eVar 3) (oNone) (oSome (eC (.int 2)))) (eSlice (eVar 2) (oNone) (oSome (eC (.int 2)))))))) (sRet (eC
    (.bl false))) (sNil)) (sSeq (sIf (tNot (tTru (eCall "_law_tuple" (dCons (e2 oIx (eVar 3) (eC (.int 2))) (dCons (e2 oIx (eVar 2) (eC (.int 2))) (dNil)))))) (sRet (eC (.bl false))) (sNil)) (sSeq
    (sFor (.nm 4) (iSeq (eSlice (eVar 3) (oSome (eC (.int 3))) (oNone))) (sIf (tAnd (tB (e2 oIsNot (eVar 4) (eC (.non)))) (tNot (tTru (eCall "_law_whole" (dCons (eVar 4) (dNil)))))) (sRet (eC (.bl
    false))) (sNil))) (sRet (e2 oEq (eSlice (eVar 3) (oSome (eC (.int 3))) (oNone)) (eSlice (eVar 2) (oSome (eC (.int 3))) (oNone))))))))
def F__law_alike : Fn := ⟨3, 5, .pure, b__law_alike⟩
def b__law_due_k46 : SS := sSeq (sSet 1 (eT1 tSplit (eVar 0) (eC (.str " ")))) (sSeq (sIf (tOr (tB (e2 oLt (e1 bLen (eVar 1)) (eC (.int 6)))) (tOr (tB (e2 oNotIn (e2 oIx (eVar 1) (eC (.int 0))) (eTup
    (dCons (eC (.str "tell")) (dCons (eC (.str "strike")) (dNil)))))) (tB (e2 oNe (e2 oIx (eVar 1) (e1 oNeg (eC (.int 1)))) (eC (.str ".")))))) (sRet (eC (.non))) (sNil)) (sSeq (sSet 2 (e2 oIx (eVar
    1) (eC (.int 2)))) (sSeq (sIf (tOr (tB (e2 oLt (e1 bLen (eVar 2)) (eC (.int 1)))) (tB (e2 oGt (e1 bLen (eVar 2)) (eC (.int 8))))) (sRet (eC (.non))) (sNil)) (sSeq (sIf (tB (e2 oNe (eComp (eVar 5)
    (tB (e2 oNotIn (eVar 5) (eC (.str "abcdefghijklmnopqrstuvwxyz")))) (.nm 5) [5] (iSeq (eVar 2))) (eLst (dNil)))) (sRet (eC (.non))) (sNil)) (sSeq (sSet 3 (eComp (eCall "_law_read" (dCons (eVar 6)
    (dNil))) (tYes) (.nm 6) [6] (iSeq (e2 oAdd (eSlice (eVar 1) (oSome (eC (.int 1))) (oSome (eC (.int 2)))) (eSlice (eVar 1) (oSome (eC (.int 5))) (oSome (e1 oNeg (eC (.int 1))))))))) (sSeq (sSet 4
    (eComp (eCall "_law_read" (dCons (eVar 6) (dNil))) (tB (e2 oNe (eVar 6) (eC (.str "-")))) (.nm 6) [6] (iSeq (eSlice (eVar 1) (oSome (eC (.int 3))) (oSome (eC (.int 5))))))) (sSeq (sIf (tOr (tB (e2
    oIn (eC (.non)) (eVar 3))) (tOr (tB (e2 oIn (eC (.non)) (eVar 4))) (tB (e2 oLt (e2 oIx (eVar 3) (eC (.int 0))) (eC (.int 1)))))) (sRet (eC (.non))) (sNil)) (sSeq (sIf (tAnd (tB (e2 oEq (e1 bLen
    (eVar 4)) (eC (.int 2)))) (tB (e2 oGe (e2 oIx (eVar 4) (eC (.int 0))) (e2 oIx (eVar 4) (eC (.int 1)))))) (sRet (eC (.non))) (sNil)) (sSeq (sSet 4 (eComp (eIf (tB (e2 oEq (eVar 6) (eC (.str "-"))))
    (eC (.non)) (eCall "_law_read" (dCons (eVar 6) (dNil)))) (tYes) (.nm 6) [6] (iSeq (eSlice (eVar 1) (oSome (eC (.int 3))) (oSome (eC (.int 5))))))) (sRet (eTup (dCons (e2 oIx (eVar 3) (eC (.int
    0))) (dCons (eTup (dCons (e2 oIx (eVar 1) (eC (.int 0))) (dCons (eVar 2) (dCons (e1 bTuple (eSlice (eVar 3) (oSome (eC (.int 1))) (oNone))) (dCons (e2 oIx (eVar 4) (eC (.int 0))) (dCons (e2 oIx
    (eVar 4) (eC (.int 1))) (dNil))))))) (dNil))))))))))))))
def F__law_due_k46 : Fn := ⟨1, 7, .pure, b__law_due_k46⟩
def b__law_changed : SS := sSeq (sSet 3 (eT1 tSplit (eVar 2) (eC (.str " ")))) (sSeq (sSet 4 (eCall "_law_draw" (dCons (eVar 0) (dCons (eVar 1) (dCons (eC (.int 6)) (dNil)))))) (sSeq (sSet 5 (eCall
    "_law_draw" (dCons (eVar 0) (dCons (e2 oAdd (eVar 1) (eC (.int 63))) (dCons (e1 bLen (eVar 3)) (dNil)))))) (sSeq (sSet 6 (eLst (dCons (eC (.str "")) (dCons (eC (.str "-")) (dCons (eC (.str "."))
    (dCons (eC (.str "0")) (dCons (eC (.str "-0")) (dCons (eC (.str "7")) (dCons (eC (.str "-12")) (dCons (eC (.str "tell")) (dCons (eC (.str "strike")) (dCons (eC (.str "ab")) (dCons (eC (.str "Ab"))
    (dCons (eC (.str "abcdefghi")) (dCons (eC (.str "1_0")) (dCons (eC (.str "+3")) (dCons (eC (.str "01")) (dCons (eC (.str "--")) (dNil))))))))))))))))))) (sSeq (sSet 7 (e2 oIx (eVar 6) (eCall
    "_law_draw" (dCons (eVar 0) (dCons (e2 oAdd (eVar 1) (eC (.int 126))) (dCons (eC (.int 16)) (dNil))))))) (sSeq (sIf (tB (e2 oLt (eVar 4) (eC (.int 2)))) (sRet (eT1 tJoin (eC (.str " ")) (e2 oAdd
    (e2 oAdd (eSlice (eVar 3) (oNone) (oSome (eVar 5))) (eLst (dCons (eVar 7) (dNil)))) (eSlice (eVar 3) (oSome (e2 oAdd (eVar 5) (eC (.int 1)))) (oNone))))) (sNil)) (sSeq (sIf (tB (e2 oEq (eVar 4)
    (eC (.int 2)))) (sRet (eT1 tJoin (eC (.str " ")) (e2 oAdd (e2 oAdd (eSlice (eVar 3) (oNone) (oSome (eVar 5))) (eLst (dCons (eVar 7) (dNil)))) (eSlice (eVar 3) (oSome (eVar 5)) (oNone))))) (sNil))
    (sSeq (sIf (tB (e2 oEq (eVar 4) (eC (.int 3)))) (sRet (eT1 tJoin (eC (.str " ")) (e2 oAdd (eSlice (eVar 3) (oNone) (oSome (eVar 5))) (eSlice (eVar 3) (oSome (e2 oAdd (eVar 5) (eC (.int 1))))
    (oNone))))) (sNil)) (sSeq (sSet 5 (eCall "_law_draw" (dCons (eVar 0) (dCons (e2 oAdd (eVar 1) (eC (.int 189))) (dCons (e2 oAdd (e1 bLen (eVar 2)) (eC (.int 1))) (dNil)))))) (sRet (e2 oAdd (e2 oAdd
    (eSlice (eVar 2) (oNone) (oSome (eVar 5))) (e2 oIx (eC (.str "_+ .-0a\n\t7")) (eCall "_law_draw" (dCons (eVar 0) (dCons (e2 oAdd (eVar 1) (eC (.int 252))) (dCons (eC (.int 10)) (dNil)))))))
    (eSlice (eVar 2) (oSome (eVar 5)) (oNone))))))))))))
def F__law_changed : Fn := ⟨3, 8, .pure, b__law_changed⟩
def b__law_good_k46 : SS := sSeq (sSet 2 (eLst (dNil))) (sSeq (sSet 3 (eC (.non))) (sSeq (sTry (some 4) (sSet 3 (eCall "read_telling" (dCons (eVar 0) (dNil)))) (catX exsAll "HeldError") (suSem exsAll
    [.lst 2 false [.isi false ["NoText"], .isi false ["ValueError"]], .lst 2 true [.isi false ["NoColumn", "NoStretch", "NoTable", "NoTurn", "NoWidth", "NoWord"]]])) (sSeq (sIf (tB (e2 oIs (eVar 1)
    (eC (.non)))) (sRet (e2 oEq (eVar 2) (eLst (dCons (eC (.bl true)) (dCons (eC (.bl true)) (dCons (eC (.bl false)) (dNil))))))) (sNil)) (sRet (eAnd (e2 oEq (eVar 2) (eLst (dNil))) (eCall
    "_law_alike" (dCons (eVar 3) (dCons (e2 oIx (eVar 1) (eC (.int 0))) (dCons (e2 oIx (eVar 1) (eC (.int 1))) (dNil))))))))))
def F__law_good_k46 : Fn := ⟨2, 5, .pure, b__law_good_k46⟩
def b_law_k46 : SS := sSeq (sIf (tNot (tTru (eCall "_law_good" (dCons (e2 oIx (eLst (dCons (eC (.non)) (dCons (eC (.int 7)) (dCons (eLst (dCons (eC (.str "tell")) (dNil))) (dCons (eTup (dCons (eC
    (.str "tell")) (dNil))) (dCons (eC (.bl true)) (dCons (eDic0) (dNil)))))))) (eCall "_law_draw" (dCons (eVar 0) (dCons (eC (.int 400)) (dCons (eC (.int 6)) (dNil)))))) (dCons (eC (.non))
    (dNil)))))) (sRet (eC (.bl false))) (sNil)) (sSeq (sSet 1 (eCall "_law_telling" (dCons (eVar 0) (dCons (eC (.int 0)) (dNil))))) (sSeq (sSet 2 (e2 oAdd (eC (.int 1)) (eCall "_law_draw" (dCons (eVar
    0) (dCons (eC (.int 401)) (dCons (eC (.int 200)) (dNil))))))) (sSeq (sSet 3 (eCall "_law_written" (dCons (eVar 2) (dCons (eVar 1) (dNil))))) (sSeq (sFor (.nm 4) (iRange1 (e2 bMin2 (e1 bLen (eVar
    3)) (eC (.int 150)))) (sIf (tOr (tNot (tTru (eCall "_law_good" (dCons (eSlice (eVar 3) (oNone) (oSome (eVar 4))) (dCons (eC (.non)) (dNil)))))) (tNot (tTru (eCall "_law_good" (dCons (eSlice (eVar
    3) (oNone) (oSome (e2 oSub (e2 oSub (e1 bLen (eVar 3)) (eC (.int 1))) (eVar 4)))) (dCons (eC (.non)) (dNil))))))) (sRet (eC (.bl false))) (sNil))) (sSeq (sFor (.nm 5) (iRange1 (e2 bMin2 (e1 bLen
    (eVar 0)) (eC (.int 12)))) (sSeq (sSet 6 (eCall "_law_changed" (dCons (eVar 0) (dCons (eVar 5) (dCons (eVar 3) (dNil)))))) (sIf (tNot (tTru (eCall "_law_good" (dCons (eVar 6) (dCons (eCall
    "_law_due" (dCons (eVar 6) (dNil))) (dNil)))))) (sRet (eC (.bl false))) (sNil)))) (sRet (eCall "_law_good" (dCons (eVar 3) (dCons (eTup (dCons (eVar 2) (dCons (eVar 1) (dNil)))) (dNil))))))))))
def F_law_k46 : Fn := ⟨1, 7, .pure, b_law_k46⟩
end HW
end
section
namespace HWL
open HW
open PySem PySem.Spec PyProof.Rows L2 He MI
def topS (i : Nat) : Stmt := PySem.Challenge.pw_heldwhen_k46_torn_rows.main.body.getD i (.Pass ⟨0, 0, 0, 0⟩)
def t_read_number : Df := { d := ⟨("read_number", none), "read_number", "read_number", defArgs (topS 12), defBody (topS 12), defScope (topS 12), [], []⟩, N := ["text", "figures", "sign"], ps := ["text"], fn := F_read_number }
def t_words_of : Df := { d := ⟨("words_of", none), "words_of", "words_of", defArgs (topS 13), defBody (topS 13), defScope (topS 13), [], []⟩, N := ["text"], ps := ["text"], fn := F_words_of }
def t_word_at : Df := { d := ⟨("word_at", none), "word_at", "word_at", defArgs (topS 14), defBody (topS 14), defScope (topS 14), [], []⟩, N := ["words", "at"], ps := ["words", "at"], fn := F_word_at }
def t_number_at : Df := { d := ⟨("number_at", none), "number_at", "number_at", defArgs (topS 15), defBody (topS 15), defScope (topS 15), [], []⟩, N := ["words", "at"], ps := ["words", "at"], fn := F_number_at }
def t_name_at : Df := { d := ⟨("name_at", none), "name_at", "name_at", defArgs (topS 16), defBody (topS 16), defScope (topS 16), [], []⟩, N := ["words", "at", "word", "sign"], ps := ["words", "at"], fn := F_name_at }
def t_so_many_at : Df := { d := ⟨("so_many_at", none), "so_many_at", "so_many_at", defArgs (topS 17), defBody (topS 17), defScope (topS 17), [], []⟩, N := ["words", "at", "many", "word"], ps := ["words", "at", "many"], fn := F_so_many_at, dn := ["*"] }
def t_end_at : Df := { d := ⟨("end_at", none), "end_at", "end_at", defArgs (topS 18), defBody (topS 18), defScope (topS 18), [], []⟩, N := ["words", "at"], ps := ["words", "at"], fn := F_end_at }
def t_read_telling : Df := { d := ⟨("read_telling", none), "read_telling", "read_telling", defArgs (topS 19), defBody (topS 19), defScope (topS 19), [], []⟩, N := ["text", "words", "turn", "name", "low", "high", "row"], ps := ["text"], fn := F_read_telling }
def t__law_draw : Df := { d := ⟨("_law_draw", none), "_law_draw", "_law_draw", defArgs (topS 21), defBody (topS 21), defScope (topS 21), [], []⟩, N := ["script", "k", "many", "cell", "number"], ps := ["script", "k", "many"], fn := F__law_draw }
def t__law_far : Df := { d := ⟨("_law_far", none), "_law_far", "_law_far", defArgs (topS 22), defBody (topS 22), defScope (topS 22), [], []⟩, N := ["script", "k", "number"], ps := ["script", "k"], fn := F__law_far }
def t__law_name : Df := { d := ⟨("_law_name", none), "_law_name", "_law_name", defArgs (topS 23), defBody (topS 23), defScope (topS 23), [], []⟩, N := ["script", "k", "name", "j"], ps := ["script", "k"], fn := F__law_name }
def t__law_number : Df := { d := ⟨("_law_number", none), "_law_number", "_law_number", defArgs (topS 24), defBody (topS 24), defScope (topS 24), [], []⟩, N := ["script", "k", "way"], ps := ["script", "k"], fn := F__law_number }
def t__law_whole : Df := { d := ⟨("_law_whole", none), "_law_whole", "_law_whole", defArgs (topS 25), defBody (topS 25), defScope (topS 25), [], []⟩, N := ["some"], ps := ["some"], fn := F__law_whole_k03 }
def t__law_tuple : Df := { d := ⟨("_law_tuple", none), "_law_tuple", "_law_tuple", defArgs (topS 26), defBody (topS 26), defScope (topS 26), [], []⟩, N := ["told", "due", "number"], ps := ["told", "due"], fn := F__law_tuple }
def t__law_telling : Df := { d := ⟨("_law_telling", none), "_law_telling", "_law_telling", defArgs (topS 27), defBody (topS 27), defScope (topS 27), [], []⟩, N := ["script", "k", "low", "high", "way", "row", "kind", "j"], ps := ["script", "k"], fn := F__law_telling_k45 }
def t__law_end : Df := { d := ⟨("_law_end", none), "_law_end", "_law_end", defArgs (topS 28), defBody (topS 28), defScope (topS 28), [], []⟩, N := ["end"], ps := ["end"], fn := F__law_end }
def t__law_written : Df := { d := ⟨("_law_written", none), "_law_written", "_law_written", defArgs (topS 29), defBody (topS 29), defScope (topS 29), [], []⟩, N := ["turn", "telling", "words", "number"], ps := ["turn", "telling"], fn := F__law_written }
def t__law_alike : Df := { d := ⟨("_law_alike", none), "_law_alike", "_law_alike", defArgs (topS 30), defBody (topS 30), defScope (topS 30), [], []⟩, N := ["told", "turn", "telling", "some", "end"], ps := ["told", "turn", "telling"], fn := F__law_alike }
def t__law_read : Df := { d := ⟨("_law_read", none), "_law_read", "_law_read", defArgs (topS 31), defBody (topS 31), defScope (topS 31), [], []⟩, N := ["word", "figures", "sign"], ps := ["word"], fn := F__law_read }
def t__law_due : Df := { d := ⟨("_law_due", none), "_law_due", "_law_due", defArgs (topS 32), defBody (topS 32), defScope (topS 32), [], []⟩, N := ["text", "words", "name", "numbers", "ends", "sign", "word"], ps := ["text"], fn := F__law_due_k46 }
def t__law_changed : Df := { d := ⟨("_law_changed", none), "_law_changed", "_law_changed", defArgs (topS 33), defBody (topS 33), defScope (topS 33), [], []⟩, N := ["script", "k", "text", "words", "way", "at", "some", "word"], ps := ["script", "k", "text"], fn := F__law_changed }
def t__law_good : Df := { d := ⟨("_law_good", none), "_law_good", "_law_good", defArgs (topS 34), defBody (topS 34), defScope (topS 34), [], []⟩, N := ["text", "due", "kinds", "told", "e"], ps := ["text", "due"], fn := F__law_good_k46 }
def t_law : Df := { d := ⟨("law", none), "law", "law", defArgs (topS 35), defBody (topS 35), defScope (topS 35), [], []⟩, N := ["script", "telling", "turn", "text", "size", "k", "other"], ps := ["script"], fn := F_law_k46 }
def cfg : Cfg := { fns := [(("read_number" : Str), 1), (("words_of" : Str), 1), (("word_at" : Str), 2), (("number_at" : Str), 2), (("name_at" : Str), 2), (("so_many_at" : Str), 3), (("end_at" : Str), 2), (("read_telling" : Str), 1), (("_law_draw" : Str), 3), (("_law_far" : Str), 2), (("_law_name" : Str), 2), (("_law_number" : Str), 2), (("_law_whole" : Str), 1), (("_law_tuple" : Str), 2), (("_law_telling" : Str), 2), (("_law_end" : Str), 1), (("_law_written" : Str), 2), (("_law_alike" : Str), 3), (("_law_read" : Str), 1), (("_law_due" : Str), 1), (("_law_changed" : Str), 3), (("_law_good" : Str), 2), (("law" : Str), 1)], bl := ["ValueError", "bool", "int", "isinstance", "len", "min", "range", "str", "tuple"], kon := [("FIGURES", .str "0123456789"), ("LETTERS", .str "abcdefghijklmnopqrstuvwxyz")], exs := ["HeldError", "NoWord", "NoTable", "NoWidth", "NoStretch", "NoColumn", "NoTurn", "NoText"], cls := [], ms := [], flds := [] }
def tab : List Df := [t_read_number, t_words_of, t_word_at, t_number_at, t_name_at, t_so_many_at, t_end_at, t_read_telling, t__law_draw, t__law_far, t__law_name, t__law_number, t__law_whole, t__law_tuple, t__law_telling, t__law_end, t__law_written, t__law_alike, t__law_read, t__law_due, t__law_changed, t__law_good, t_law]
abbrev T : MI.Tab := tabOf tab
theorem ok_read_number : DfOk cfg tab t_read_number := ⟨by kernel_rfl, ⟨rfl, rfl, rfl, by decide +kernel, rfl, by decide +kernel, by decide +kernel⟩, rfl, rfl, rfl, rfl, by kernel_rfl, fun _ _ _ _ _ _ us hl => match us, hl with | [_], _ => rfl⟩
theorem ok_words_of : DfOk cfg tab t_words_of := ⟨by kernel_rfl, ⟨rfl, rfl, rfl, by decide +kernel, rfl, by decide +kernel, by decide +kernel⟩, rfl, rfl, rfl, rfl, by kernel_rfl, fun _ _ _ _ _ _ us hl => match us, hl with | [_], _ => rfl⟩
theorem ok_word_at : DfOk cfg tab t_word_at := ⟨by kernel_rfl, ⟨rfl, rfl, rfl, by decide +kernel, rfl, by decide +kernel, by decide +kernel⟩, rfl, rfl, rfl, rfl, by kernel_rfl, fun _ _ _ _ _ _ us hl => match us, hl with | [_, _], _ => rfl⟩
theorem ok_number_at : DfOk cfg tab t_number_at := ⟨by kernel_rfl, ⟨rfl, rfl, rfl, by decide +kernel, rfl, by decide +kernel, by decide +kernel⟩, rfl, rfl, rfl, rfl, by kernel_rfl, fun _ _ _ _ _ _ us hl => match us, hl with | [_, _], _ => rfl⟩
theorem ok_name_at : DfOk cfg tab t_name_at := ⟨by kernel_rfl, ⟨rfl, rfl, rfl, by decide +kernel, rfl, by decide +kernel, by decide +kernel⟩, rfl, rfl, rfl, rfl, by kernel_rfl, fun _ _ _ _ _ _ us hl => match us, hl with | [_, _], _ => rfl⟩
theorem ok_so_many_at : DfOk cfg tab t_so_many_at := ⟨by kernel_rfl, ⟨rfl, rfl, rfl, by decide +kernel, rfl, by decide +kernel, by decide +kernel⟩, rfl, rfl, rfl, rfl, by kernel_rfl, fun _ _ _ _ _ _ us hl => match us, hl with | [_, _, _], _ => rfl⟩
theorem ok_end_at : DfOk cfg tab t_end_at := ⟨by kernel_rfl, ⟨rfl, rfl, rfl, by decide +kernel, rfl, by decide +kernel, by decide +kernel⟩, rfl, rfl, rfl, rfl, by kernel_rfl, fun _ _ _ _ _ _ us hl => match us, hl with | [_, _], _ => rfl⟩
theorem ok_read_telling : DfOk cfg tab t_read_telling := ⟨by kernel_rfl, ⟨rfl, rfl, rfl, by decide +kernel, rfl, by decide +kernel, by decide +kernel⟩, rfl, rfl, rfl, rfl, by kernel_rfl, fun _ _ _ _ _ _ us hl => match us, hl with | [_], _ => rfl⟩
theorem ok__law_draw : DfOk cfg tab t__law_draw := ⟨by kernel_rfl, ⟨rfl, rfl, rfl, by decide +kernel, rfl, by decide +kernel, by decide +kernel⟩, rfl, rfl, rfl, rfl, by kernel_rfl, fun _ _ _ _ _ _ us hl => match us, hl with | [_, _, _], _ => rfl⟩
theorem ok__law_far : DfOk cfg tab t__law_far := ⟨by kernel_rfl, ⟨rfl, rfl, rfl, by decide +kernel, rfl, by decide +kernel, by decide +kernel⟩, rfl, rfl, rfl, rfl, by kernel_rfl, fun _ _ _ _ _ _ us hl => match us, hl with | [_, _], _ => rfl⟩
theorem ok__law_name : DfOk cfg tab t__law_name := ⟨by kernel_rfl, ⟨rfl, rfl, rfl, by decide +kernel, rfl, by decide +kernel, by decide +kernel⟩, rfl, rfl, rfl, rfl, by kernel_rfl, fun _ _ _ _ _ _ us hl => match us, hl with | [_, _], _ => rfl⟩
theorem ok__law_number : DfOk cfg tab t__law_number := ⟨by kernel_rfl, ⟨rfl, rfl, rfl, by decide +kernel, rfl, by decide +kernel, by decide +kernel⟩, rfl, rfl, rfl, rfl, by kernel_rfl, fun _ _ _ _ _ _ us hl => match us, hl with | [_, _], _ => rfl⟩
theorem ok__law_whole : DfOk cfg tab t__law_whole := ⟨by kernel_rfl, ⟨rfl, rfl, rfl, by decide +kernel, rfl, by decide +kernel, by decide +kernel⟩, rfl, rfl, rfl, rfl, by kernel_rfl, fun _ _ _ _ _ _ us hl => match us, hl with | [_], _ => rfl⟩
theorem ok__law_tuple : DfOk cfg tab t__law_tuple := ⟨by kernel_rfl, ⟨rfl, rfl, rfl, by decide +kernel, rfl, by decide +kernel, by decide +kernel⟩, rfl, rfl, rfl, rfl, by kernel_rfl, fun _ _ _ _ _ _ us hl => match us, hl with | [_, _], _ => rfl⟩
theorem ok__law_telling : DfOk cfg tab t__law_telling := ⟨by kernel_rfl, ⟨rfl, rfl, rfl, by decide +kernel, rfl, by decide +kernel, by decide +kernel⟩, rfl, rfl, rfl, rfl, by kernel_rfl, fun _ _ _ _ _ _ us hl => match us, hl with | [_, _], _ => rfl⟩
theorem ok__law_end : DfOk cfg tab t__law_end := ⟨by kernel_rfl, ⟨rfl, rfl, rfl, by decide +kernel, rfl, by decide +kernel, by decide +kernel⟩, rfl, rfl, rfl, rfl, by kernel_rfl, fun _ _ _ _ _ _ us hl => match us, hl with | [_], _ => rfl⟩
theorem ok__law_written : DfOk cfg tab t__law_written := ⟨by kernel_rfl, ⟨rfl, rfl, rfl, by decide +kernel, rfl, by decide +kernel, by decide +kernel⟩, rfl, rfl, rfl, rfl, by kernel_rfl, fun _ _ _ _ _ _ us hl => match us, hl with | [_, _], _ => rfl⟩
theorem ok__law_alike : DfOk cfg tab t__law_alike := ⟨by kernel_rfl, ⟨rfl, rfl, rfl, by decide +kernel, rfl, by decide +kernel, by decide +kernel⟩, rfl, rfl, rfl, rfl, by kernel_rfl, fun _ _ _ _ _ _ us hl => match us, hl with | [_, _, _], _ => rfl⟩
theorem ok__law_read : DfOk cfg tab t__law_read := ⟨by kernel_rfl, ⟨rfl, rfl, rfl, by decide +kernel, rfl, by decide +kernel, by decide +kernel⟩, rfl, rfl, rfl, rfl, by kernel_rfl, fun _ _ _ _ _ _ us hl => match us, hl with | [_], _ => rfl⟩
theorem ok__law_due : DfOk cfg tab t__law_due := ⟨by kernel_rfl, ⟨rfl, rfl, rfl, by decide +kernel, rfl, by decide +kernel, by decide +kernel⟩, rfl, rfl, rfl, rfl, by kernel_rfl, fun _ _ _ _ _ _ us hl => match us, hl with | [_], _ => rfl⟩
theorem ok__law_changed : DfOk cfg tab t__law_changed := ⟨by kernel_rfl, ⟨rfl, rfl, rfl, by decide +kernel, rfl, by decide +kernel, by decide +kernel⟩, rfl, rfl, rfl, rfl, by kernel_rfl, fun _ _ _ _ _ _ us hl => match us, hl with | [_, _, _], _ => rfl⟩
theorem ok__law_good : DfOk cfg tab t__law_good := ⟨by kernel_rfl, ⟨rfl, rfl, rfl, by decide +kernel, rfl, by decide +kernel, by decide +kernel⟩, rfl, rfl, rfl, rfl, by kernel_rfl, fun _ _ _ _ _ _ us hl => match us, hl with | [_, _], _ => rfl⟩
theorem ok_law : DfOk cfg tab t_law := ⟨by kernel_rfl, ⟨rfl, rfl, rfl, by decide +kernel, rfl, by decide +kernel, by decide +kernel⟩, rfl, rfl, rfl, rfl, by kernel_rfl, fun _ _ _ _ _ _ us hl => match us, hl with | [_], _ => rfl⟩
theorem ok_all : ∀ t ∈ tab, DfOk cfg tab t := by
  intro t ht
  simp only [tab, List.mem_cons, List.not_mem_nil, or_false] at ht
  rcases ht with rfl | rfl | rfl | rfl | rfl | rfl | rfl | rfl | rfl | rfl | rfl | rfl | rfl | rfl | rfl | rfl | rfl | rfl | rfl | rfl | rfl | rfl | rfl
  · exact ok_read_number
  · exact ok_words_of
  · exact ok_word_at
  · exact ok_number_at
  · exact ok_name_at
  · exact ok_so_many_at
  · exact ok_end_at
  · exact ok_read_telling
  · exact ok__law_draw
  · exact ok__law_far
  · exact ok__law_name
  · exact ok__law_number
  · exact ok__law_whole
  · exact ok__law_tuple
  · exact ok__law_telling
  · exact ok__law_end
  · exact ok__law_written
  · exact ok__law_alike
  · exact ok__law_read
  · exact ok__law_due
  · exact ok__law_changed
  · exact ok__law_good
  · exact ok_law
def loose0 : List PySem.Str := ["__name__", "HeldError", "NoWord", "NoTable", "NoWidth", "NoStretch", "NoColumn", "NoTurn", "NoText", "FIGURES", "LETTERS", "read_number", "words_of", "word_at", "number_at", "name_at", "so_many_at", "end_at", "read_telling", "_law_draw"]
def loose1 : List PySem.Str := ["_law_far", "_law_name", "_law_number", "_law_whole", "_law_tuple", "_law_telling", "_law_end", "_law_written", "_law_alike", "_law_read", "_law_due", "_law_changed", "_law_good"]
abbrev loose : List PySem.Str := loose0 ++ loose1
abbrev R : PySem.W.OpenRow := PySem.W.OpenLaw.row PySem.Challenge.rw_heldwhen_k46_torn_rows
abbrev hk : PySem.W.Hook := hookM 5 cfg (tab.map Df.d)
def ob (s : PySem.W.SharedT) : AlM := obsMG 5 cfg (tab.map Df.d) (HandSHeadRun.getT s)
theorem ob_eq (s : PySem.W.SharedT) : ob s = hk.obs s.abs := obsMG_eq (HandSHeadRun.getT_eq s)
theorem run0 (w : World) : HandSHeadRun.RunEq R (PySem.W.view R.prog [35]) hk ob 9000 loose w := by
  intro os
  kernel_rfl
end HWL
end
section
set_option linter.all false
set_option autoImplicit false
namespace MI
open PySem (Str PyData)
/-- an equation that simp shall write down -/
theorem nrfl {α : Sort _} {a b : α} (h : a = b) : a = b := h
/-- what simp is not to look into -/
structure Hid {α : Type} (a : α) : Type where
  mk ::
/-- what simp is to leave as it stands -/
def Kp (P : Prop) (_ : Hid P := .mk) : Prop := P
def Res.wp {A : Type} (r : Res A) (Q : A → Mem → Prop) (_ : Hid Q := .mk) : Prop := match r with
  | .ok a M => Q a M
  | _ => False
def SR.wp (r : SR) (N : Env → Mem → Prop) (R : RV → Mem → Prop) (_ : Hid N := .mk) (_ : Hid R := .mk) : Prop := match r with
  | .nx r M => N r M
  | .ret x M => R x M
  | _ => False
theorem wp_ext {A : Type} {r : Res A} {Q Q' : A → Mem → Prop} (h : ∀ a M, Q a M = Q' a M) : r.wp Q = r.wp Q' := by
  have e : Q = Q' := by funext a M; exact h a M
  rw [e]
theorem Res.wp_eq {A : Type} {r : Res A} {a : A} {M : Mem} : r.wp (fun x M' => x = a ∧ M' = M) ↔ r = .ok a M := by
  cases r with
  | ok b M' => simp [Res.wp]
  | err => simp [Res.wp]
  | bad => simp [Res.wp]
theorem Res.wp_ex {A : Type} {r : Res A} {Q : A → Mem → Prop} (h : r.wp Q) : ∃ a M, r = .ok a M ∧ Q a M := by
  cases r with
  | ok b M' => exact ⟨b, M', rfl, h⟩
  | err => exact h.elim
  | bad => exact h.elim
section
variable {A B : Type} {cl : Cl} {r : Env} {M : Mem}
@[simp] theorem wp_ok (a : A) (M : Mem) (Q : A → Mem → Prop) : (Res.ok a M).wp Q = Q a M := nrfl rfl
@[simp] theorem wp_nx (r : Env) (M : Mem) (N : Env → Mem → Prop) (R : RV → Mem → Prop) : (SR.nx r M).wp N R = N r M := nrfl rfl
@[simp] theorem wp_ret (x : RV) (M : Mem) (N : Env → Mem → Prop) (R : RV → Mem → Prop) : (SR.ret x M).wp N R = R x M := nrfl rfl
@[simp] theorem wp_bind (x : Res A) (f : A → Mem → Res B) (Q : B → Mem → Prop) : (x.bind f).wp Q = x.wp fun a M => (f a M).wp Q := by
  cases x <;> rfl
@[simp] theorem wp_ite {c : Prop} [Decidable c] (a b : Res A) (Q : A → Mem → Prop) : (if c then a else b).wp Q = if c then a.wp Q else b.wp Q := by
  split <;> rfl
@[simp] theorem wp_iteS {c : Prop} [Decidable c] (a b : SR) (N : Env → Mem → Prop) (R : RV → Mem → Prop) : (if c then a else b).wp N R = if c then a.wp N R else b.wp N R := by
  split <;> rfl
def getV (o : Option (Option D)) (Q : RV → Prop) (_ : Hid Q := .mk) : Prop := match o with
  | some (some d) => Q (.d d)
  | _ => False
@[simp] theorem getV_some (d : D) (Q : RV → Prop) : getV (some (some d)) Q = Q (.d d) := nrfl rfl
@[simp] theorem wp_eVar (i : Nat) (Q : RV → Mem → Prop) : (eVar i cl r M).wp Q = getV r[i]? fun x => Q x M := by
  unfold eVar getV
  cases r[i]? with
  | none => rfl
  | some o => cases o <;> rfl
@[simp] theorem wp_eC (d : D) (Q : RV → Mem → Prop) : (eC d cl r M).wp Q = Q (.d d) M := nrfl rfl
@[simp] theorem wp_e1 (op : Op1) (a : SE) (Q : RV → Mem → Prop) : (e1 op a cl r M).wp Q = (a cl r M).wp fun x M => (op x M).wp Q := wp_bind _ _ _
@[simp] theorem wp_e2 (op : Op2) (a b : SE) (Q : RV → Mem → Prop) : (e2 op a b cl r M).wp Q = (a cl r M).wp fun x M => (b cl r M).wp fun y M => (op x y M).wp Q := by
  unfold e2; rw [wp_bind]; refine wp_ext fun x M => ?_; rw [wp_bind]
/-- by truth -/
def truV (o : Option Bool) (Q : Bool → Prop) (_ : Hid Q := .mk) : Prop := match o with
  | some b => Q b
  | none => False
@[simp] theorem truV_some (b : Bool) (Q : Bool → Prop) : truV (some b) Q = Q b := nrfl rfl
@[simp] theorem wp_eNot (a : SE) (Q : RV → Mem → Prop) : (eNot a cl r M).wp Q = (a cl r M).wp fun x M => truV (truR x M) fun b => Q (.d (.bl !b)) M := by
  unfold eNot; rw [wp_bind]; refine wp_ext fun x M => ?_
  cases truR x M <;> rfl
@[simp] theorem wp_eAnd (a b : SE) (Q : RV → Mem → Prop) : (eAnd a b cl r M).wp Q = (a cl r M).wp fun x M => truV (truR x M) fun t => if t = true then (b cl r M).wp Q else Q x M := by
  unfold eAnd; rw [wp_bind]; refine wp_ext fun x M => ?_
  cases truR x M with
  | none => rfl
  | some t => cases t <;> simp [truV, Res.wp]
@[simp] theorem wp_eOr (a b : SE) (Q : RV → Mem → Prop) : (eOr a b cl r M).wp Q = (a cl r M).wp fun x M => truV (truR x M) fun t => if t = true then Q x M else (b cl r M).wp Q := by
  unfold eOr; rw [wp_bind]; refine wp_ext fun x M => ?_
  cases truR x M with
  | none => rfl
  | some t => cases t <;> simp [truV, Res.wp]
@[simp] theorem wp_tAnd (a b : STt) (Q : Bool → Mem → Prop) : (tAnd a b cl r M).wp Q = (a cl r M).wp fun x M => if x = true then (b cl r M).wp Q else Q false M := by
  unfold tAnd; rw [wp_bind]; refine wp_ext fun x M => ?_; rw [wp_ite]; rfl
@[simp] theorem wp_tOr (a b : STt) (Q : Bool → Mem → Prop) : (tOr a b cl r M).wp Q = (a cl r M).wp fun x M => if x = true then Q true M else (b cl r M).wp Q := by
  unfold tOr; rw [wp_bind]; refine wp_ext fun x M => ?_; rw [wp_ite]; rfl
@[simp] theorem wp_tNot (a : STt) (Q : Bool → Mem → Prop) : (tNot a cl r M).wp Q = (a cl r M).wp fun x M => Q (!x) M := by
  unfold tNot; rw [wp_bind]; rfl
@[simp] theorem wp_tTru (a : SE) (Q : Bool → Mem → Prop) : (tTru a cl r M).wp Q = (a cl r M).wp fun x M => truV (truR x M) fun b => Q b M := by
  unfold tTru; rw [wp_bind]; refine wp_ext fun x M => ?_
  cases truR x M <;> rfl
def blV (x : RV) (Q : Bool → Prop) (_ : Hid Q := .mk) : Prop := match x with
  | .d (.bl b) => Q b
  | _ => False
@[simp] theorem blV_bl (b : Bool) (Q : Bool → Prop) : blV (.d (.bl b)) Q = Q b := nrfl rfl
@[simp] theorem wp_tB (a : SE) (Q : Bool → Mem → Prop) : (tB a cl r M).wp Q = (a cl r M).wp fun x M => blV x fun b => Q b M := by
  unfold tB; rw [wp_bind]; refine wp_ext fun x M => ?_
  unfold blV
  split
  · rfl
  · first | rfl | (split <;> first | rfl | simp_all)
@[simp] theorem wp_eIf (t : STt) (a b : SE) (Q : RV → Mem → Prop) : (eIf t a b cl r M).wp Q = (t cl r M).wp fun x M => if x = true then (a cl r M).wp Q else (b cl r M).wp Q := by
  unfold eIf; rw [wp_bind]; refine wp_ext fun x M => ?_; rw [wp_ite]
@[simp] theorem wp_dNil (Q : List D → Mem → Prop) : (dNil cl r M).wp Q = Q [] M := nrfl rfl
@[simp] theorem wp_dCons (a : SE) (as : SDs) (Q : List D → Mem → Prop) : (dCons a as cl r M).wp Q = (a cl r M).wp fun x M => (as cl r (box x M).2).wp fun ds M' => Q ((box x M).1 :: ds) M' := by
  unfold dCons; rw [wp_bind]; refine wp_ext fun x M => ?_; rw [wp_bind]; rfl
@[simp] theorem wp_eTup (as : SDs) (Q : RV → Mem → Prop) : (eTup as cl r M).wp Q = (as cl r M).wp fun ds M => ds.length ≤ lim ∧ Q (.d (.tup ds)) M := by
  unfold eTup; rw [wp_bind]; refine wp_ext fun x M => ?_; rw [wp_ite]; simp [Res.wp]
@[simp] theorem wp_eLst (as : SDs) (Q : RV → Mem → Prop) : (eLst as cl r M).wp Q = (as cl r M).wp fun ds M => ds.length ≤ lim ∧ Q (.o (.lst ds)) M := by
  unfold eLst; rw [wp_bind]; refine wp_ext fun x M => ?_; rw [wp_ite]; simp [Res.wp]
@[simp] theorem wp_eDic0 (Q : RV → Mem → Prop) : (eDic0 cl r M).wp Q = Q (.o (.dic false [])) M := nrfl rfl
@[simp] theorem wp_eDic (as : SDs) (Q : RV → Mem → Prop) : (eDic as cl r M).wp Q = (as cl r M).wp fun ds M => ∃ kvs, pairUp ds [] = some kvs ∧ ds.length ≤ 30 ∧ Q (.o (.dic false kvs)) M := by
  unfold eDic; rw [wp_bind]; refine wp_ext fun x M => ?_
  cases pairUp x [] with
  | none => simp [Res.wp]
  | some kvs => simp only [wp_ite]; simp [Res.wp]
@[simp] theorem dPairs_nil : dPairs [] = dNil := nrfl rfl
@[simp] theorem dPairs_cons (p : SE × SE) (l : List (SE × SE)) : dPairs (p :: l) = dCons p.1 (dCons p.2 (dPairs l)) := nrfl rfl
@[simp] theorem wp_eCall (f : Str) (as : SDs) (Q : RV → Mem → Prop) : (eCall f as cl r M).wp Q = (as cl r M).wp fun ds M => (cl f ds M).wp Q := by
  unfold eCall; rw [wp_bind]
@[simp] theorem wp_oNone (Q : Option Int → Mem → Prop) : (oNone cl r M).wp Q = Q none M := nrfl rfl
def intV (x : RV) (Q : Int → Prop) (_ : Hid Q := .mk) : Prop := match x with
  | .d (.int b) => Q b
  | _ => False
@[simp] theorem intV_int (b : Int) (Q : Int → Prop) : intV (.d (.int b)) Q = Q b := nrfl rfl
@[simp] theorem wp_oSome (a : SE) (Q : Option Int → Mem → Prop) : (oSome a cl r M).wp Q = (a cl r M).wp fun x M => intV x fun i => Q (some i) M := by
  unfold oSome; rw [wp_bind]; refine wp_ext fun x M => ?_
  unfold intV
  split
  · rfl
  · first | rfl | (split <;> first | rfl | simp_all)
@[simp] theorem wp_eSlice (a : SE) (lo hi : SO) (Q : RV → Mem → Prop) : (eSlice a lo hi cl r M).wp Q = (a cl r M).wp fun x M => (lo cl r M).wp fun l M => (hi cl r M).wp fun h M => (oSlice x l h M).wp Q := by
  unfold eSlice; rw [wp_bind]; refine wp_ext fun x M => ?_; rw [wp_bind]; refine wp_ext fun y M => ?_; rw [wp_bind]
def hdlV (x : RV) (Q : Nat → Prop) (_ : Hid Q := .mk) : Prop := match x with
  | .d (.hdl n) => Q n
  | _ => False
@[simp] theorem hdlV_hdl (n : Nat) (Q : Nat → Prop) : hdlV (.d (.hdl n)) Q = Q n := nrfl rfl
@[simp] theorem wp_eM1 (m : Nat → D → Mem → Res RV) (o a : SE) (Q : RV → Mem → Prop) : (eM1 m o a cl r M).wp Q = (o cl r M).wp fun x M => hdlV x fun n => (lstT (.d (.hdl n)) M).isSome = true ∧ (a cl r M).wp fun y M => (m n (box y M).1 (box y M).2).wp Q := by
  unfold eM1; rw [wp_bind]; refine wp_ext fun x M => ?_
  unfold hdlV
  split
  · rw [wp_ite, wp_bind]; simp [Res.wp]
  · first | rfl | (split <;> first | rfl | simp_all)
/-- the items of a sequence or a text -/
def seqX (x : RV) (M : Mem) : Option (List D) := match seqOf x M with
  | some ds => some ds
  | none => match x with
    | .d (.str t) => some (strD t)
    | _ => none
@[simp] theorem seqX_tup (ds : List D) (M : Mem) : seqX (.d (.tup ds)) M = some ds := nrfl rfl
@[simp] theorem seqX_ro (ds : List D) (M : Mem) : seqX (.d (.ro ds)) M = some ds := nrfl rfl
@[simp] theorem seqX_lst (ds : List D) (M : Mem) : seqX (.o (.lst ds)) M = some ds := nrfl rfl
@[simp] theorem seqX_str (t : Str) (M : Mem) : seqX (.d (.str t)) M = some (strD t) := nrfl rfl
@[simp] theorem seqX_hdl (n : Nat) (M : Mem) : seqX (.d (.hdl n)) M = match M[n]? with
    | some (.lst ds) => some ds
    | _ => none := by
  unfold seqX
  show (match (match M[n]? with | some (.lst ds) => some ds | _ => none) with | some ds => some ds | none => (none : Option (List D))) = _
  cases M[n]? with
  | none => rfl
  | some o => cases o <;> rfl
@[simp] theorem wp_iSeq (a : SE) (Q : List D × Chk → Mem → Prop) : (iSeq a cl r M).wp Q = (a cl r M).wp fun x M => ∃ ds, seqX x M = some ds ∧ Q (ds, chkR x M) M := by
  unfold iSeq; rw [wp_bind]; refine wp_ext fun x M => ?_
  unfold seqX
  cases h : seqOf x M with
  | none =>
    simp only
    split
    · simp [Res.wp, chkR]
    · rename_i h2
      simp only [Res.wp]
      refine eq_comm.mp (propext ⟨fun ⟨ds, e, _⟩ => ?_, False.elim⟩)
      cases e
  | some ds => simp [Res.wp]
@[simp] theorem wp_iRange1 (a : SE) (Q : List D × Chk → Mem → Prop) : (iRange1 a cl r M).wp Q = (a cl r M).wp fun x M => intV x fun n => (n < 2 ^ 62 ∧ -(2 ^ 62) ≤ n) ∧ Q (rngD 0 n.toNat, []) M := by
  unfold iRange1; rw [wp_bind]; refine wp_ext fun x M => ?_
  unfold intV
  split
  · rw [wp_ite]; simp [Res.wp]
  · first | rfl | (split <;> first | rfl | simp_all)
variable {N : Env → Mem → Prop} {R : RV → Mem → Prop}
theorem wp_ofE (s : Res RV) (f : RV → Mem → SR) : (ofE s r f).wp N R = s.wp fun x M => (f x M).wp N R := by cases s <;> rfl
theorem wp_ofT (s : Res Bool) (f : Bool → Mem → SR) : (ofT s r f).wp N R = s.wp fun x M => (f x M).wp N R := by cases s <;> rfl
theorem wp_ofI (s : Res (List D × Chk)) (f : List D × Chk → Mem → SR) : (ofI s r f).wp N R = s.wp fun x M => (f x M).wp N R := by cases s <;> rfl
@[simp] theorem wp_sNil : (sNil cl r M).wp N R = N r M := nrfl rfl
@[simp] theorem wp_sSeq (a b : SS) : (sSeq a b cl r M).wp N R = (a cl r M).wp (fun r M => (b cl r M).wp N R) R := by
  unfold sSeq; cases a cl r M <;> rfl
@[simp] theorem wp_sSet (i : Nat) (e : SE) : (sSet i e cl r M).wp N R = (e cl r M).wp fun x M => N (r.set i (some (box x M).1)) (box x M).2 := by
  unfold sSet; rw [wp_ofE]; rfl
def tupV (x : RV) (Q : List D → Prop) (_ : Hid Q := .mk) : Prop := match x with
  | .d (.tup n) => Q n
  | _ => False
@[simp] theorem tupV_tup (n : List D) (Q : List D → Prop) : tupV (.d (.tup n)) Q = Q n := nrfl rfl
def envV (x : Option Env) (Q : Env → Prop) (_ : Hid Q := .mk) : Prop := match x with
  | some n => Q n
  | _ => False
@[simp] theorem envV_some (n : Env) (Q : Env → Prop) : envV (some n) Q = Q n := nrfl rfl
@[simp] theorem wp_sUnp (is : List Nat) (e : SE) : (sUnp is e cl r M).wp N R = (e cl r M).wp fun x M => tupV x fun ds => envV (setAll is ds r) fun r => N r M := by
  unfold sUnp; rw [wp_ofE]; refine wp_ext fun x M => ?_
  unfold tupV
  split
  · unfold envV
    split <;> rename_i h <;> simp [h, SR.wp]
  · first | rfl | (split <;> first | rfl | simp_all)
def memV (x : Option Mem) (Q : Mem → Prop) (_ : Hid Q := .mk) : Prop := match x with
  | some n => Q n
  | _ => False
@[simp] theorem memV_some (n : Mem) (Q : Mem → Prop) : memV (some n) Q = Q n := nrfl rfl
def datV (x : RV) (Q : D → Prop) (_ : Hid Q := .mk) : Prop := match x with
  | .d n => Q n
  | _ => False
@[simp] theorem datV_d (n : D) (Q : D → Prop) : datV (.d n) Q = Q n := nrfl rfl
@[simp] theorem wp_sSetIx (o k e : SE) : (sSetIx o k e cl r M).wp N R = (e cl r M).wp fun x M => (o cl r (box x M).2).wp fun y M1 => (k cl r M1).wp fun z M2 => datV y fun y => datV z fun z => memV (setIx y z (box x M).1 M2) fun M => N r M := by
  unfold sSetIx; rw [wp_ofE]; refine wp_ext fun x M => ?_; rw [wp_ofE]; refine wp_ext fun y M1 => ?_; rw [wp_ofE]; refine wp_ext fun z M2 => ?_
  unfold datV
  cases y <;> cases z <;> simp only [] <;> try rfl
  unfold memV
  split <;> rename_i h <;> simp [h, SR.wp]
@[simp] theorem wp_sExpr (e : SE) : (sExpr e cl r M).wp N R = (e cl r M).wp fun _ M => N r M := by
  unfold sExpr; rw [wp_ofE]; rfl
@[simp] theorem wp_sRet (e : SE) : (sRet e cl r M).wp N R = (e cl r M).wp fun x M => R x M := by
  unfold sRet; rw [wp_ofE]; rfl
@[simp] theorem wp_sRetN : (sRetN cl r M).wp N R = R (.d .non) M := nrfl rfl
@[simp] theorem wp_sIf (t : STt) (a b : SS) : (sIf t a b cl r M).wp N R = (t cl r M).wp fun x M => if x = true then (a cl r M).wp N R else (b cl r M).wp N R := by
  unfold sIf; rw [wp_ofT]; refine wp_ext fun x M => ?_; rw [wp_iteS]
@[simp] theorem wp_sFor (tg : Tg) (it : SI) (body : SS) : (sFor tg it body cl r M).wp N R = (it cl r M).wp fun p M => (forL (body cl) tg p.2 p.1 r M).wp N R := by
  unfold sFor; rw [wp_ofI]
class HasF (T : Tab) (f : Str) (F : Fn) : Prop where
  look : T.lookup f = some F
theorem run_has {T : Tab} {f : Str} {F : Fn} (i : HasF T f F) (n : Nat) (ds : List D) (M : Mem) : run T (n + 1) f ds M = F.run (run T n) ds M := by
  simp only [run, i.look]
theorem wp_run {F : Fn} {cl : Cl} {ds : List D} {M : Mem} {Q : RV → Mem → Prop} (hl : ds.length = F.ar)
    (h : (F.body cl (ds.map some ++ List.replicate (F.ns - ds.length) none) M).wp (fun _ M' => (fin F.mode M (.d .non) M').wp Q) (fun x M' => (fin F.mode M x M').wp Q)) : (F.run cl ds M).wp Q := by
  unfold Fn.run
  rw [if_pos hl]
  cases e : F.body cl (ds.map some ++ List.replicate (F.ns - ds.length) none) M with
  | nx r M' => rw [e] at h; exact h
  | ret x M' => rw [e] at h; exact h
  | err => rw [e] at h; exact h.elim
  | bad => rw [e] at h; exact h.elim
theorem fin_d {M : Mem} {x : D} {l : Mem} (h : x.bel M.length = true) (hn : ∀ n, x ≠ .hdl n) : fin .pure M (.d x) (M ++ l) = .ok (.d x) M := by
  unfold fin
  simp only [List.take_left, if_true]
  cases x with
  | hdl n => exact absurd rfl (hn n)
  | _ => simp only [h, if_true]
theorem fin_d0 {M : Mem} {x : D} (h : x.bel M.length = true) (hn : ∀ n, x ≠ .hdl n) : fin .pure M (.d x) M = .ok (.d x) M := by
  have := fin_d (l := []) h hn
  rwa [List.append_nil] at this
end
theorem forL_wp {A : Type} (enc : A → D) {body : Env → Mem → SR} {tg : Tg} {c : Chk} {N : Env → Mem → Prop} {R : RV → Mem → Prop} (I : List A → Env → Mem → Prop)
    (h0 : ∀ r M, I [] r M → chkOk c M = true ∧ N r M)
    (hs : ∀ a l r M, I (a :: l) r M → chkOk c M = true ∧ envV (asg tg (enc a) r) fun r1 => (body r1 M).wp (fun r2 M2 => Kp (I l r2 M2)) R) :
    ∀ (l : List A) r M, I l r M → (forL body tg c (l.map enc) r M).wp N R
  | [], r, M, h => by
    obtain ⟨h1, h2⟩ := h0 r M h
    simp only [List.map_nil, forL, h1, if_true, SR.wp]
    exact h2
  | a :: l, r, M, h => by
    obtain ⟨h1, h2⟩ := hs a l r M h
    simp only [List.map_cons, forL, h1, if_true]
    cases e : asg tg (enc a) r with
    | none => rw [e] at h2; exact h2.elim
    | some r1 =>
      rw [e] at h2
      simp only [envV] at h2
      simp only
      cases e2 : body r1 M with
      | nx r2 M2 => rw [e2] at h2; exact forL_wp enc I h0 hs l r2 M2 h2
      | ret x M2 => rw [e2] at h2; exact h2
      | err => rw [e2] at h2; exact h2.elim
      | bad => rw [e2] at h2; exact h2.elim
@[simp] theorem chk_nil (M : Mem) : chkOk [] M = true := nrfl rfl
/-- a comprehension -/
theorem compL_map {A : Type} (enc : A → D) {elt : Env → Mem → Res RV} {tst : Env → Mem → Res Bool} {tg : Tg} {r : Env} {M : Mem} {c : Chk} (hc : chkOk c M = true) (p : A → Bool) (g : A → D)
    (h : ∀ a, envV (asg tg (enc a) r) fun r1 => tst r1 M = .ok (p a) M ∧ (p a = true → elt r1 M = .ok (.d (g a)) M)) : ∀ (l : List A) (acc : List D), acc.length + l.length ≤ lim →
    compL elt tst tg c r (l.map enc) acc M = .ok (.o (.lst (acc ++ (l.filter p).map g))) M
  | [], acc, _ => by simp [compL, hc]
  | a :: l, acc, hl => by
    have h1 := h a
    simp only [List.map_cons, compL, hc, if_true]
    simp only [List.length_cons] at hl
    cases e : asg tg (enc a) r with
    | none => rw [e] at h1; exact h1.elim
    | some r1 =>
      rw [e] at h1
      simp only [envV] at h1
      obtain ⟨h2, h3⟩ := h1
      simp only [h2, Res.calm, Res.bind]
      cases hp : p a with
      | false =>
        simp only [Bool.false_eq_true, if_false, List.filter_cons, hp]
        exact compL_map enc hc p g h l acc (by omega)
      | true =>
        simp only [if_true, h3 hp, Res.calm, Res.bind, List.filter_cons, hp]
        rw [if_pos (by omega)]
        simp only [box]
        rw [compL_map enc hc p g h l _ (by simp; omega)]
        simp
@[simp] theorem wp_eComp {elt : SE} {tst : STt} {tg : Tg} {own : List Nat} {it : SI} {cl : Cl} {r : Env} {M : Mem} {Q : RV → Mem → Prop} :
    (eComp elt tst tg own it cl r M).wp Q = (it cl r M).wp fun p M => (compL (elt cl) (tst cl) tg p.2 (wipe r own) p.1 [] M).wp Q := by
  unfold eComp; rw [wp_bind]
end MI
namespace MI
/-- a loop over range(n) -/
theorem forL_range {body : Env → Mem → SR} {tg : Tg} {N : Env → Mem → Prop} {R : RV → Mem → Prop} {lo : Int} {n : Nat} (I : Nat → Env → Mem → Prop)
    (h0 : ∀ r M, I n r M → N r M)
    (hs : ∀ j r M, j < n → I j r M → envV (asg tg (.int (lo + (j : Int))) r) fun r1 => (body r1 M).wp (fun r2 M2 => Kp (I (j + 1) r2 M2)) R) :
    ∀ r M, I 0 r M → (forL body tg [] (rngD lo n) r M).wp N R := by
  have key : ∀ (m j : Nat) r M, j + m = n → I j r M → (forL body tg [] ((List.range' j m).map fun k : Nat => D.int (lo + (k : Int))) r M).wp N R := by
    intro m
    induction m with
    | zero =>
      intro j r M e h
      have e' : j = n := by omega
      subst e'
      simp only [List.range'_zero, List.map_nil, forL, chk_nil, if_true, SR.wp]
      exact h0 r M h
    | succ m ih =>
      intro j r M e h
      have h2 := hs j r M (by omega) h
      simp only [List.range'_succ, List.map_cons, forL, chk_nil, if_true]
      cases e1 : asg tg (.int (lo + (j : Int))) r with
      | none => rw [e1] at h2; exact h2.elim
      | some r1 =>
        rw [e1] at h2
        simp only [envV] at h2
        simp only
        cases e2 : body r1 M with
        | nx r2 M2 => rw [e2] at h2; exact ih (j + 1) r2 M2 (by omega) h2
        | ret x M2 => rw [e2] at h2; exact h2
        | err => rw [e2] at h2; exact h2.elim
        | bad => rw [e2] at h2; exact h2.elim
  intro r M h
  have := key n 0 r M (by omega) h
  rwa [← List.range_eq_range'] at this
end MI
namespace MI
end MI
namespace MI
open PySem (Str PyData)
section
variable {A B : Type} {cl : Cl} {r : Env} {M : Mem}
@[simp] theorem wp_eM0 (m : Nat → Mem → Res RV) (o : SE) (Q : RV → Mem → Prop) : (eM0 m o cl r M).wp Q = (o cl r M).wp fun x M => hdlV x fun n => (lstT (.d (.hdl n)) M).isSome = true ∧ (m n M).wp Q := by
  unfold eM0; rw [wp_bind]; refine wp_ext fun x M => ?_
  unfold hdlV
  split
  · rw [wp_ite]; simp [Res.wp]
  · first | rfl | (split <;> first | rfl | simp_all)
theorem wp_if_bad {c : Prop} [Decidable c] (x : Res A) (Q : A → Mem → Prop) : (if c then x else .bad).wp Q = (c ∧ x.wp Q) := by
  split <;> rename_i h <;> simp [h, Res.wp]
@[simp] theorem wp_eM2 (m : Nat → D → D → Mem → Res RV) (o a b : SE) (Q : RV → Mem → Prop) : (eM2 m o a b cl r M).wp Q = (o cl r M).wp fun x M => hdlV x fun n => (lstT (.d (.hdl n)) M).isSome = true ∧ (a cl r M).wp fun y M => (b cl r (box y M).2).wp fun z M2 => (m n (box y M).1 (box z M2).1 (box z M2).2).wp Q := by
  unfold eM2; rw [wp_bind]; refine wp_ext fun x M => ?_
  unfold hdlV
  split
  · rw [wp_if_bad, wp_bind]; congr 1; refine wp_ext fun y M => ?_; rw [wp_bind]
  · first | rfl | (split <;> first | rfl | simp_all)
def newV (x : RV) (Q : List D → Prop) (_ : Hid Q := .mk) : Prop := match x with
  | .o (.lst ds) => Q ds
  | _ => False
@[simp] theorem newV_lst (ds : List D) (Q : List D → Prop) : newV (.o (.lst ds)) Q = Q ds := nrfl rfl
@[simp] theorem wp_eN1 (m : Nat → D → Mem → Res RV) (o a : SE) (Q : RV → Mem → Prop) : (eN1 m o a cl r M).wp Q = (o cl r M).wp fun x M => newV x fun ds => (a cl r (M ++ [.lst ds])).wp fun y M2 => (m M.length (box y M2).1 (box y M2).2).wp Q := by
  unfold eN1; rw [wp_bind]; refine wp_ext fun x M => ?_
  unfold newV
  split
  · rw [wp_bind]
  · first | rfl | (split <;> first | rfl | simp_all)
@[simp] theorem wp_eN0 (m : Nat → Mem → Res RV) (o : SE) (Q : RV → Mem → Prop) : (eN0 m o cl r M).wp Q = (o cl r M).wp fun x M => newV x fun ds => (m M.length (M ++ [.lst ds])).wp Q := by
  unfold eN0; rw [wp_bind]; refine wp_ext fun x M => ?_
  unfold newV
  split
  · rfl
  · first | rfl | (split <;> first | rfl | simp_all)
def lstV (x : RV) (M : Mem) (Q : List D → Prop) (_ : Hid Q := .mk) : Prop := match lstOf x M with
  | some ds => Q ds
  | _ => False
@[simp] theorem lstV_o (ds : List D) (Q : List D → Prop) : lstV (.o (.lst ds)) M Q = Q ds := nrfl rfl
@[simp] theorem lstV_ro (ds : List D) (Q : List D → Prop) : lstV (.d (.ro ds)) M Q = Q ds := nrfl rfl
@[simp] theorem wp_eStep (a : SE) (lo hi : SO) (k : Nat) (Q : RV → Mem → Prop) : (eStep a lo hi k cl r M).wp Q = (a cl r M).wp fun x M => (lo cl r M).wp fun l M => (hi cl r M).wp fun h M => lstV x M fun ds => Q (.o (.lst (pickS (sIx ds.length 0 l) k (ds.take (sIx ds.length ds.length h))))) M := by
  unfold eStep; rw [wp_bind]; refine wp_ext fun x M => ?_; rw [wp_bind]; refine wp_ext fun y M => ?_; rw [wp_bind]; refine wp_ext fun z M => ?_
  unfold lstV
  cases lstOf x M <;> rfl
@[simp] theorem wp_eRev (a : SE) (Q : RV → Mem → Prop) : (eRev a cl r M).wp Q = (a cl r M).wp fun x M => lstV x M fun ds => Q (.o (.lst ds.reverse)) M := by
  unfold eRev; rw [wp_bind]; refine wp_ext fun x M => ?_
  unfold lstV
  cases lstOf x M <;> rfl
@[simp] theorem wp_iRange2 (a b : SE) (Q : List D × Chk → Mem → Prop) : (iRange2 a b cl r M).wp Q = (a cl r M).wp fun x M => (b cl r M).wp fun y M => intV x fun i => intV y fun j => ((-(2 ^ 62) ≤ i ∧ i < 2 ^ 62) ∧ -(2 ^ 62) ≤ j ∧ j < 2 ^ 62) ∧ Q (rngD i (j - i).toNat, []) M := by
  unfold iRange2; rw [wp_bind]; refine wp_ext fun x M => ?_; rw [wp_bind]; refine wp_ext fun y M => ?_
  rcases x with (_ | _ | i | _ | _ | _ | _) | _ <;> rcases y with (_ | _ | j | _ | _ | _ | _) | _ <;> first | rfl | skip
  simp only [intV]
  rw [wp_if_bad]; rfl
@[simp] theorem wp_iRange3 (a b c : SE) (Q : List D × Chk → Mem → Prop) : (iRange3 a b c cl r M).wp Q = (a cl r M).wp fun x M => (b cl r M).wp fun y M => (c cl r M).wp fun z M => intV x fun i => intV y fun j => intV z fun c => (c ≠ 0 ∧ c.natAbs < 1000000) ∧ Q (rngC i c (rgN i j c), []) M := by
  unfold iRange3; rw [wp_bind]; refine wp_ext fun x M => ?_; rw [wp_bind]; refine wp_ext fun y M => ?_; rw [wp_bind]; refine wp_ext fun z M => ?_
  rcases x with (_ | _ | i | _ | _ | _ | _) | _ <;> rcases y with (_ | _ | j | _ | _ | _ | _) | _ <;> rcases z with (_ | _ | j | _ | _ | _ | _) | _ <;> first | rfl | skip
  simp only [intV]
  rw [wp_if_bad]; rfl
end
end MI
namespace MI
end MI
namespace MI
/-- a comprehension, by what its items are -/
theorem compL_mapM {A : Type} (enc : A → D) {elt : Env → Mem → Res RV} {tst : Env → Mem → Res Bool} {tg : Tg} {r : Env} {M : Mem} {c : Chk} (hc : chkOk c M = true) (p : A → Bool) (g : A → D) :
    ∀ (l : List A), (∀ a ∈ l, envV (asg tg (enc a) r) fun r1 => tst r1 M = .ok (p a) M ∧ (p a = true → elt r1 M = .ok (.d (g a)) M)) → ∀ (acc : List D), acc.length + l.length ≤ lim →
    compL elt tst tg c r (l.map enc) acc M = .ok (.o (.lst (acc ++ (l.filter p).map g))) M
  | [], _, acc, _ => by simp [compL, hc]
  | a :: l, h, acc, hl => by
    have h1 := h a List.mem_cons_self
    have h' := fun x hx => h x (List.mem_cons_of_mem _ hx)
    simp only [List.map_cons, compL, hc, if_true]
    simp only [List.length_cons] at hl
    cases e : asg tg (enc a) r with
    | none => rw [e] at h1; exact h1.elim
    | some r1 =>
      rw [e] at h1
      simp only [envV] at h1
      obtain ⟨h2, h3⟩ := h1
      simp only [h2, Res.calm, Res.bind]
      cases hp : p a with
      | false =>
        simp only [Bool.false_eq_true, if_false, List.filter_cons, hp]
        exact compL_mapM enc hc p g l h' acc (by omega)
      | true =>
        simp only [if_true, h3 hp, Res.calm, Res.bind, List.filter_cons, hp]
        rw [if_pos (by omega)]
        simp only [box]
        rw [compL_mapM enc hc p g l h' _ (by simp; omega)]
        simp
theorem compL_allM {A : Type} (enc : A → D) {elt : Env → Mem → Res RV} {cl : Cl} {tg : Tg} {r : Env} {M : Mem} {c : Chk} (hc : chkOk c M = true) (g : A → D) (l : List A)
    (h : ∀ a ∈ l, envV (asg tg (enc a) r) fun r1 => elt r1 M = .ok (.d (g a)) M) (hl : l.length ≤ lim) :
    compL elt (tYes cl) tg c r (l.map enc) [] M = .ok (.o (.lst (l.map g))) M := by
  rw [compL_mapM enc hc (fun _ => true) g l (fun a ha => ?_) [] (by simpa using hl)]
  · simp only [List.nil_append]
    congr 3
    rw [show (l.filter fun _ => true) = l from List.filter_eq_self.mpr fun _ _ => rfl]
  · have := h a ha
    cases e : asg tg (enc a) r with
    | none => rw [e] at this; exact this.elim
    | some r1 => rw [e] at this; exact ⟨rfl, fun _ => this⟩
end MI
end
section
set_option linter.all false
set_option autoImplicit false
namespace MI
open PySem (Str PyData)
@[simp] theorem wp_bad {A : Type} (Q : A → Mem → Prop) : (Res.bad : Res A).wp Q = False := nrfl rfl
section
variable {M : Mem} {i j : Int} {b c : Bool}
@[simp] theorem oAdd_int : oAdd (.d (.int i)) (.d (.int j)) M = .ok (.d (.int (i + j))) M := nrfl rfl
@[simp] theorem oSub_int : oSub (.d (.int i)) (.d (.int j)) M = .ok (.d (.int (i - j))) M := nrfl rfl
@[simp] theorem oNeg_int : oNeg (.d (.int i)) M = .ok (.d (.int (-i))) M := nrfl rfl
@[simp] theorem oMul_int : oMul (.d (.int i)) (.d (.int j)) M = if (-(2 ^ 64) < i ∧ i < 2 ^ 64) ∨ (-(2 ^ 64) < j ∧ j < 2 ^ 64) then .ok (.d (.int (i * j))) M else .bad := nrfl rfl
@[simp] theorem oDiv_int : oDiv (.d (.int i)) (.d (.int j)) M = if 0 < j ∧ j < 1267650600228229401496703205376 then .ok (.d (.int (i / j))) M else .bad := nrfl rfl
@[simp] theorem oMod_int : oMod (.d (.int i)) (.d (.int j)) M = if 0 < j then .ok (.d (.int (i % j))) M else .bad := nrfl rfl
@[simp] theorem oPow_int : oPow (.d (.int i)) (.d (.int j)) M = if 0 ≤ j ∧ j ≤ 1000000 ∧ i.natAbs < 2 ^ 64 then .ok (.d (.int (i ^ j.toNat))) M else .bad := nrfl rfl
@[simp] theorem oLt_int : oLt (.d (.int i)) (.d (.int j)) M = .ok (.d (.bl (decide (i < j)))) M := nrfl rfl
@[simp] theorem oLe_int : oLe (.d (.int i)) (.d (.int j)) M = .ok (.d (.bl (decide (i ≤ j)))) M := nrfl rfl
@[simp] theorem oGt_int : oGt (.d (.int i)) (.d (.int j)) M = .ok (.d (.bl (decide (j < i)))) M := nrfl rfl
@[simp] theorem oGe_int : oGe (.d (.int i)) (.d (.int j)) M = .ok (.d (.bl (decide (j ≤ i)))) M := nrfl rfl
@[simp] theorem derR_int : derR (.d (.int i)) M = some (.int i) := nrfl rfl
@[simp] theorem derR_bl : derR (.d (.bl b)) M = some (.bool b) := nrfl rfl
@[simp] theorem derR_non : derR (.d .non) M = some .none := nrfl rfl
theorem oEq_of {x y : RV} {p q : PyData} (h1 : derR x M = some p) (h2 : derR y M = some q) : oEq x y M = .ok (.d (.bl (peq p q))) M := by unfold oEq eqR; rw [h1, h2]; rfl
theorem oNe_of {x y : RV} {p q : PyData} (h1 : derR x M = some p) (h2 : derR y M = some q) : oNe x y M = .ok (.d (.bl (!peq p q))) M := by unfold oNe eqR; rw [h1, h2]; rfl
@[simp] theorem oEq_int : oEq (.d (.int i)) (.d (.int j)) M = .ok (.d (.bl (decide (i = j)))) M := by rw [oEq_of derR_int derR_int]; rfl
@[simp] theorem oNe_int : oNe (.d (.int i)) (.d (.int j)) M = .ok (.d (.bl (!decide (i = j)))) M := by rw [oNe_of derR_int derR_int]; rfl
@[simp] theorem oEq_bl : oEq (.d (.bl b)) (.d (.bl c)) M = .ok (.d (.bl (b == c))) M := by rw [oEq_of derR_bl derR_bl]; rfl
@[simp] theorem oNe_bl : oNe (.d (.bl b)) (.d (.bl c)) M = .ok (.d (.bl (b != c))) M := by rw [oNe_of derR_bl derR_bl]; rfl
@[simp] theorem oIs_non (x : RV) : oIs x (.d .non) M = .ok (.d (.bl (decide (x = .d .non)))) M := by
  cases x with
  | d d => cases d <;> rfl
  | o o => rfl
@[simp] theorem oIsNot_non (x : RV) : oIsNot x (.d .non) M = .ok (.d (.bl (!decide (x = .d .non)))) M := by
  cases x with
  | d d => cases d <;> rfl
  | o o => rfl
@[simp] theorem truR_bl : truR (.d (.bl b)) M = some b := nrfl rfl
@[simp] theorem truR_int : truR (.d (.int i)) M = some (i != 0) := nrfl rfl
@[simp] theorem truR_non : truR (.d .non) M = some false := nrfl rfl
/-- the item of a sequence -/
theorem oIx_seq {x : RV} {ds : List D} {k : Nat} {d : D} (h : seqOf x M = some ds) (h1 : ixN ds.length i = some k) (h2 : ds[k]? = some d) : oIx x (.d (.int i)) M = .ok (.d d) M := by
  unfold oIx
  simp only [h, h1, h2]
theorem ixN_pos {n : Nat} {i : Int} (h0 : 0 ≤ i) (h1 : i < n) : ixN n i = some i.toNat := by
  unfold ixN; rw [if_pos h0, if_pos h1]
@[simp] theorem seqOf_tup (ds : List D) : seqOf (.d (.tup ds)) M = some ds := nrfl rfl
@[simp] theorem seqOf_ro (ds : List D) : seqOf (.d (.ro ds)) M = some ds := nrfl rfl
@[simp] theorem seqOf_lst (ds : List D) : seqOf (.o (.lst ds)) M = some ds := nrfl rfl
@[simp] theorem chkR_tup (ds : List D) : chkR (.d (.tup ds)) M = [] := nrfl rfl
@[simp] theorem chkR_ro (ds : List D) : chkR (.d (.ro ds)) M = [] := nrfl rfl
@[simp] theorem chkR_o (o : O) : chkR (.o o) M = [] := nrfl rfl
@[simp] theorem oIx_t0 (a : D) (r : List D) : oIx (.d (.tup (a :: r))) (.d (.int 0)) M = .ok (.d a) M := by
  refine oIx_seq rfl (ixN_pos (by omega) (by simp)) rfl
@[simp] theorem oIx_t1 (a b : D) (r : List D) : oIx (.d (.tup (a :: b :: r))) (.d (.int 1)) M = .ok (.d b) M := by
  refine oIx_seq rfl (ixN_pos (by omega) (by simp; omega)) rfl
@[simp] theorem oIx_t2 (a b c : D) (r : List D) : oIx (.d (.tup (a :: b :: c :: r))) (.d (.int 2)) M = .ok (.d c) M := by
  refine oIx_seq rfl (ixN_pos (by omega) (by simp; omega)) rfl
@[simp] theorem bLen_tup (ds : List D) : bLen (.d (.tup ds)) M = .ok (.d (.int ds.length)) M := nrfl rfl
@[simp] theorem bLen_ro (ds : List D) : bLen (.d (.ro ds)) M = .ok (.d (.int ds.length)) M := nrfl rfl
@[simp] theorem bLen_lst (ds : List D) : bLen (.o (.lst ds)) M = .ok (.d (.int ds.length)) M := nrfl rfl
@[simp] theorem box_d (d : D) : box (.d d) M = (d, M) := nrfl rfl
@[simp] theorem box_o (o : O) : box (.o o) M = (.hdl M.length, M ++ [o]) := nrfl rfl
@[simp] theorem asg_nm (k : Nat) (d : D) (r : Env) : asg (.nm k) d r = some (r.set k (some d)) := nrfl rfl
@[simp] theorem asg_tp (is : List Nat) (ds : List D) (r : Env) : asg (.tp is) (.tup ds) r = setAll is ds r := nrfl rfl
@[simp] theorem setAll_nil (r : Env) : setAll [] [] r = some r := nrfl rfl
@[simp] theorem setAll_cons (k : Nat) (is : List Nat) (d : D) (ds : List D) (r : Env) : setAll (k :: is) (d :: ds) r = setAll is ds (r.set k (some d)) := nrfl rfl
@[simp] theorem wipe_nil (r : Env) : wipe r [] = r := nrfl rfl
@[simp] theorem wipe_cons (k : Nat) (is : List Nat) (r : Env) : wipe r (k :: is) = (wipe r is).set k none := nrfl rfl
@[simp] theorem get_last (o : O) : (M ++ [o])[M.length]? = some o := by simp
@[simp] theorem set_last (o o' : O) : (M ++ [o]).set M.length o' = M ++ [o'] := by
  rw [List.set_append_right _ _ (Nat.le_refl _), Nat.sub_self]; rfl
end
end MI
namespace MI
open PySem (Str PyData)
theorem ofString_inj {a b : String} : Str.ofString a = Str.ofString b ↔ a = b := by
  refine ⟨fun h => ?_, fun h => by rw [h]⟩
  rw [Str.ofString_eq_toList, Str.ofString_eq_toList] at h
  injection h with h
  have h2 : a.toList.map Char.toNat = b.toList.map Char.toNat := by simpa using h
  have h3 : a.toList = b.toList := by
    generalize a.toList = xs at h2
    generalize b.toList = ys at h2
    induction xs generalizing ys with
    | nil => cases ys with
      | nil => rfl
      | cons => simp at h2
    | cons x xs ih => cases ys with
      | nil => simp at h2
      | cons y ys =>
        simp only [List.map_cons, List.cons.injEq] at h2
        rw [Char.toNat_inj.mp h2.1, ih ys h2.2]
  exact String.toList_inj.mp h3
@[simp] theorem ofString_eq_iff (a b : String) : (Str.ofString a = Str.ofString b) = (a = b) := propext ofString_inj
def okS (s : Str) : Bool := s.cps.all (· < 0x110000)
@[simp] theorem okS_lit (a : String) : okS (Str.ofString a) = true := by
  rw [Str.ofString_eq_toList]
  unfold okS
  rw [List.all_toArray, List.all_eq_true]
  intro x hx
  obtain ⟨c, _, rfl⟩ := List.mem_map.mp hx
  have := c.valid
  have h2 : c.toNat = c.val.toNat := rfl
  simp only [UInt32.isValidChar, Nat.isValidChar] at this
  rw [decide_eq_true_eq, h2]
  omega
section
variable {M : Mem} {s t : Str}
theorem derR_str (h : okS s = true) : derR (.d (.str s)) M = some (.str s) := by
  show (if s.cps.all (· < 0x110000) then some (PyData.str s) else none) = _
  exact if_pos h
@[simp] theorem oEq_str : oEq (.d (.str s)) (.d (.str t)) M = if okS s = true ∧ okS t = true then .ok (.d (.bl (decide (s = t)))) M else .bad := by
  split
  · rename_i h
    rw [oEq_of (derR_str h.1) (derR_str h.2)]
    rfl
  · rename_i h
    unfold oEq eqR
    have e : ∀ s : Str, derR (.d (.str s)) M = if okS s = true then some (.str s) else none := fun s => rfl
    rw [e, e]
    by_cases h1 : okS s = true
    · have h2 : ¬ okS t = true := fun z => h ⟨h1, z⟩
      rw [if_neg h2]; cases (if okS s = true then some (PyData.str s) else none) <;> rfl
    · rw [if_neg h1]; generalize (if okS t = true then some (PyData.str t) else none) = z; cases z <;> rfl
end
end MI
namespace MI
open PySem (Str PyData)
section
variable {M : Mem} {i j : Int} {b c : Bool}
@[simp] theorem get_off (M l : Mem) (k : Nat) : (M ++ l)[M.length + k]? = l[k]? := by
  rw [List.getElem?_append_right (Nat.le_add_right _ _), Nat.add_sub_cancel_left]
@[simp] theorem get_off0 (M l : Mem) : (M ++ l)[M.length]? = l[0]? := get_off M l 0
@[simp] theorem set_off (M l : Mem) (k : Nat) (o : O) : (M ++ l).set (M.length + k) o = M ++ l.set k o := by
  rw [List.set_append_right _ _ (Nat.le_add_right _ _), Nat.add_sub_cancel_left]
@[simp] theorem set_off0 (M l : Mem) (o : O) : (M ++ l).set M.length o = M ++ l.set 0 o := set_off M l 0 o
@[simp] theorem setIx_hdl (n : Nat) (k v : D) : setIx (.hdl n) k v M = match M[n]? with
    | some (.lst ds) => match k with
      | .int i => match ixN ds.length i with
        | some j => some (M.set n (.lst (ds.set j v)))
        | none => none
      | _ => none
    | some (.dic false kvs) => if okK kvs k = true ∧ kvs.length < lim then some (M.set n (.dic false (dput kvs k v))) else none
    | _ => none := nrfl rfl
@[simp] theorem isSk_int (i : Int) : isSk (.int i) = true := nrfl rfl
@[simp] theorem isSk_str (i : Str) : isSk (.str i) = true := nrfl rfl
@[simp] theorem isSk_non : isSk .non = true := nrfl rfl
def skAll (kvs : List (D × D)) : Bool := kvs.all fun p => isSk p.1
def tkAll (kvs : List (D × D)) : Bool := kvs.all fun p => isTk p.1
@[simp] theorem skAll_nil : skAll [] = true := nrfl rfl
@[simp] theorem tkAll_nil : tkAll [] = true := nrfl rfl
theorem okK_sk {kvs : List (D × D)} {k : D} (hk : isSk k = true) : okK kvs k = skAll kvs := by
  unfold okK skAll
  have : isTk k = false := by cases k <;> first | rfl | cases hk
  rw [hk, this]; simp
@[simp] theorem okK_int {kvs : List (D × D)} (i : Int) : okK kvs (.int i) = skAll kvs := okK_sk rfl
@[simp] theorem okK_str {kvs : List (D × D)} (i : Str) : okK kvs (.str i) = skAll kvs := okK_sk rfl
@[simp] theorem okK_non {kvs : List (D × D)} : okK kvs .non = skAll kvs := okK_sk rfl
@[simp] theorem dicOf_hdl (n : Nat) : dicOf (.d (.hdl n)) M = match M[n]? with
    | some (.dic _ kvs) => some kvs
    | _ => none := nrfl rfl
@[simp] theorem fin_hdl (k : Nat) (l : Mem) : fin .pure M (.d (.hdl (M.length + k))) (M ++ l) = match l[k]? with
    | some o => if o.bel M.length = true then .ok (.o o) M else .bad
    | none => .bad := by
  unfold fin
  simp only [List.take_left, if_true, get_off]
  rw [if_neg (by omega)]
  all_goals (cases l[k]? <;> rfl)
@[simp] theorem fin_hdl0 (l : Mem) : fin .pure M (.d (.hdl M.length)) (M ++ l) = match l[0]? with
    | some o => if o.bel M.length = true then .ok (.o o) M else .bad
    | none => .bad := fin_hdl 0 l
@[simp] theorem fin_o' (o : O) (l : Mem) : fin .pure M (.o o) (M ++ l) = if o.bel M.length = true then .ok (.o o) M else .bad := by
  unfold fin; simp only [List.take_left, if_true]
@[simp] theorem fin_o0' (o : O) : fin .pure M (.o o) M = if o.bel M.length = true then .ok (.o o) M else .bad := by
  unfold fin; simp only [List.take_length, if_true]
@[simp] theorem mAppend_def (n : Nat) (d : D) : mAppend n d M = match M[n]? with
    | some (.lst ds) => if ds.length < lim then .ok (.d .non) (M.set n (.lst (ds ++ [d]))) else .bad
    | _ => .bad := nrfl rfl
@[simp] theorem lstT_hdl (n : Nat) : lstT (.d (.hdl n)) M = match M[n]? with
    | some (.lst ds) => some ds
    | _ => none := nrfl rfl
@[simp] theorem lstT_o (ds : List D) : lstT (.o (.lst ds)) M = some ds := nrfl rfl
@[simp] theorem lstOf_hdl (n : Nat) : lstOf (.d (.hdl n)) M = match M[n]? with
    | some (.lst ds) => some ds
    | _ => none := nrfl rfl
@[simp] theorem lstOf_o (ds : List D) : lstOf (.o (.lst ds)) M = some ds := nrfl rfl
@[simp] theorem lstOf_ro (ds : List D) : lstOf (.d (.ro ds)) M = some ds := nrfl rfl
@[simp] theorem seqOf_hdl (n : Nat) : seqOf (.d (.hdl n)) M = match M[n]? with
    | some (.lst ds) => some ds
    | _ => none := nrfl rfl
@[simp] theorem chkR_hdl (n : Nat) : chkR (.d (.hdl n)) M = match M[n]? with
    | some (.lst ds) => [(n, .lst ds)]
    | _ => [] := nrfl rfl
/-- in a list, by what stands in it -/
def inDeep (neg : Bool) (k : D) (r : RV) (M : Mem) : Res RV := match derR (.d k) M, derR r M with
  | some p, some (.list qs) => .ok (.d (.bl (if neg then !(qs.any fun z => peq z p) else qs.any fun z => peq z p))) M
  | _, _ => .bad
@[simp] theorem oIn_hdl (n : Nat) (k : D) : oIn (.d k) (.d (.hdl n)) M = match M[n]? with
    | some (.dic _ kvs) => if okK kvs k = true then .ok (.d (.bl (dget kvs k).isSome)) M else .bad
    | some (.lst ds) => if (k.flat && ds.all D.flat) = true then .ok (.d (.bl (ds.any fun d => feq d k))) M else inDeep false k (.d (.hdl n)) M
    | _ => .bad := by
  unfold oIn inR inDeep
  simp only [dicOf_hdl, seqOf_hdl]
  cases M[n]? with
  | none => rfl
  | some o =>
    cases o with
    | lst ds =>
      simp only
      by_cases h : (k.flat && ds.all D.flat) = true
      · simp only [h, if_true]; rfl
      · simp only [h, if_false]
        cases derR (.d k) M with
        | none => rfl
        | some p =>
          cases derR (.d (.hdl n)) M with
          | none => rfl
          | some q => cases q <;> rfl
    | dic fz kvs => simp only; by_cases h : okK kvs k = true <;> simp [h, vB]
    | ins => rfl
@[simp] theorem oNotIn_hdl (n : Nat) (k : D) : oNotIn (.d k) (.d (.hdl n)) M = match M[n]? with
    | some (.dic _ kvs) => if okK kvs k = true then .ok (.d (.bl (!(dget kvs k).isSome))) M else .bad
    | some (.lst ds) => if (k.flat && ds.all D.flat) = true then .ok (.d (.bl (!(ds.any fun d => feq d k)))) M else inDeep true k (.d (.hdl n)) M
    | _ => .bad := by
  unfold oNotIn inR inDeep
  simp only [dicOf_hdl, seqOf_hdl]
  cases M[n]? with
  | none => rfl
  | some o =>
    cases o with
    | lst ds =>
      simp only
      by_cases h : (k.flat && ds.all D.flat) = true
      · simp only [h, if_true]; rfl
      · simp only [h, if_false]
        cases derR (.d k) M with
        | none => rfl
        | some p =>
          cases derR (.d (.hdl n)) M with
          | none => rfl
          | some q => cases q <;> rfl
    | dic fz kvs => simp only; by_cases h : okK kvs k = true <;> simp [h, vB]
    | ins => rfl
@[simp] theorem bTuple_hdl (n : Nat) : bTuple (.d (.hdl n)) M = match M[n]? with
    | some (.lst ds) => .ok (.d (.tup ds)) M
    | _ => .bad := by
  unfold bTuple; rw [seqOf_hdl]; cases M[n]? with
  | none => rfl
  | some o => cases o <;> rfl
@[simp] theorem bTuple_o (ds : List D) : bTuple (.o (.lst ds)) M = .ok (.d (.tup ds)) M := nrfl rfl
@[simp] theorem bTuple_tup (ds : List D) : bTuple (.d (.tup ds)) M = .ok (.d (.tup ds)) M := nrfl rfl
@[simp] theorem bList_hdl (n : Nat) : bList (.d (.hdl n)) M = match M[n]? with
    | some (.lst ds) => .ok (.o (.lst ds)) M
    | some (.dic _ kvs) => .ok (.o (.lst (kvs.map (·.1)))) M
    | _ => .bad := by
  unfold bList; rw [seqOf_hdl, dicOf_hdl]; cases M[n]? with
  | none => rfl
  | some o => cases o <;> rfl
@[simp] theorem bList_o (ds : List D) : bList (.o (.lst ds)) M = .ok (.o (.lst ds)) M := nrfl rfl
@[simp] theorem bList_tup (ds : List D) : bList (.d (.tup ds)) M = .ok (.o (.lst ds)) M := nrfl rfl
@[simp] theorem bLen_hdl (n : Nat) : bLen (.d (.hdl n)) M = match M[n]? with
    | some (.lst ds) => .ok (.d (.int ds.length)) M
    | _ => .bad := by
  show (match seqOf (.d (.hdl n)) M with | some ds => vI ds.length M | none => .bad) = _
  rw [seqOf_hdl]; cases M[n]? with
  | none => rfl
  | some o => cases o <;> rfl
@[simp] theorem oAdd_tup (xs ys : List D) : oAdd (.d (.tup xs)) (.d (.tup ys)) M = if xs.length + ys.length ≤ lim then .ok (.d (.tup (xs ++ ys))) M else .bad := nrfl rfl
@[simp] theorem asInts_map (l : List Int) : asInts (l.map D.int) = some l := by
  induction l with
  | nil => rfl
  | cons a l ih => simp [asInts, ih]
@[simp] theorem bSortedSet_tup (ds : List D) : bSortedSet (.d (.tup ds)) M = match asInts ds with
    | some ns => if ns.length < 4000 then .ok (.o (.lst ((sortI (dedI ns)).map D.int))) M else .bad
    | none => .bad := by
  unfold bSortedSet
  simp only [seqOf_tup]
  cases asInts ds with
  | some ns => rfl
  | none => rfl
/-- sorted(set(..)) of a list that is none of numbers -/
def bSetRw (ds : List D) (M : Mem) : Res RV := match asRows ds with
  | some rs => if rs.length < 4000 ∧ rowsOk (dedR rs) = true then .ok (.o (.lst ((sortR (dedR rs)).map rowD))) M else .bad
  | none => .bad
/-- sorted(..) of things that are none of numbers -/
def bSortRw (ds : List D) (M : Mem) : Res RV := match asRows ds with
  | some rs => if rowsOk rs = true then .ok (.o (.lst ((sortR rs).map rowD))) M else .bad
  | none => .bad
@[simp] theorem bSortedSet_o (ds : List D) : bSortedSet (.o (.lst ds)) M = match asInts ds with
    | some ns => if ns.length < 4000 then .ok (.o (.lst ((sortI (dedI ns)).map D.int))) M else .bad
    | none => bSetRw ds M := by
  unfold bSortedSet bSetRw
  simp only [seqOf_lst, lstOf_o]
  cases asInts ds with
  | some ns => rfl
  | none => cases asRows ds <;> rfl
@[simp] theorem asInts_app (l l' : List Int) : asInts (l.map D.int ++ l'.map D.int) = some (l ++ l') := by
  rw [← List.map_append]; exact asInts_map _
@[simp] theorem pairUp_nil (acc : List (D × D)) : pairUp [] acc = some acc := nrfl rfl
@[simp] theorem pairUp_cons (k v : D) (r : List D) (acc : List (D × D)) : pairUp (k :: v :: r) acc = if isSk k = true then pairUp r (dput acc k v) else none := nrfl rfl
/-- a dict whose keys are whole numbers -/
def IK (kvs : List (D × D)) : Prop := ∃ ks : List Int, kvs.map (·.1) = ks.map D.int
theorem IK.nil : IK [] := ⟨[], rfl⟩
theorem IK.sk {kvs : List (D × D)} (h : IK kvs) : skAll kvs = true := by
  obtain ⟨ks, h⟩ := h
  have : (kvs.map (·.1)).all isSk = true := by rw [h, List.all_map, List.all_eq_true]; intro x _; rfl
  rw [List.all_map] at this
  exact this
theorem IK.put {kvs : List (D × D)} (h : IK kvs) (e : Int) (v : D) : IK (dput kvs (.int e) v) := by
  obtain ⟨ks, h⟩ := h
  unfold dput
  split
  · refine ⟨ks, ?_⟩
    rw [← h, List.map_map]
    refine List.map_congr_left fun kv _ => ?_
    simp only [Function.comp]
    split <;> rfl
  · exact ⟨ks ++ [e], by simp [h]⟩
@[simp] theorem bSorted_hdl (n : Nat) : bSorted (.d (.hdl n)) M = match M[n]? with
    | some (.dic _ kvs) => match asInts (kvs.map (·.1)) with
      | some ns => .ok (.o (.lst ((sortI ns).map D.int))) M
      | none => bSortRw (kvs.map (·.1)) M
    | some (.lst ds) => match asInts ds with
      | some ns => .ok (.o (.lst ((sortI ns).map D.int))) M
      | none => bSortRw ds M
    | _ => .bad := by
  unfold bSorted
  simp only [dicOf_hdl, lstOf_hdl]
  cases M[n]? with
  | none => rfl
  | some o => cases o <;> rfl
@[simp] theorem chkOk_cons (n : Nat) (ds : O) (c : Chk) : chkOk ((n, ds) :: c) M = (decide (M[n]? = some ds) && chkOk c M) := nrfl rfl
@[simp] theorem chkOk_nil : chkOk [] M = true := nrfl rfl
/-- what stood ahead stands -/
theorem get_ahead {l : Mem} {n : Nat} {o : O} (h : M[n]? = some o) : (M ++ l)[n]? = some o := by
  rw [List.getElem?_append_left (List.getElem?_eq_some_iff.mp h).1]; exact h
@[simp] theorem bMin2_int : bMin2 (.d (.int i)) (.d (.int j)) M = .ok (.d (.int (min i j))) M := by
  show vI (if j < i then j else i) M = _
  have : (if j < i then j else i) = min i j := by split <;> omega
  rw [this]; rfl
@[simp] theorem bMax2_int : bMax2 (.d (.int i)) (.d (.int j)) M = .ok (.d (.int (max i j))) M := by
  show vI (if j > i then j else i) M = _
  have : (if j > i then j else i) = max i j := by split <;> omega
  rw [this]; rfl
@[simp] theorem bIsi_bl (t : Ty) : bIsi t (.d (.bl b)) M = .ok (.d (.bl (decide (t = .bool) || decide (t = .int)))) M := nrfl rfl
@[simp] theorem bIsi_int (t : Ty) : bIsi t (.d (.int i)) M = .ok (.d (.bl (decide (t = .int)))) M := nrfl rfl
@[simp] theorem bIsi_non (t : Ty) : bIsi t (.d .non) M = .ok (.d (.bl false)) M := nrfl rfl
@[simp] theorem bIsi_str (t : Ty) (s : Str) : bIsi t (.d (.str s)) M = .ok (.d (.bl (decide (t = .str)))) M := nrfl rfl
@[simp] theorem bIsi_tup (t : Ty) (ds : List D) : bIsi t (.d (.tup ds)) M = .ok (.d (.bl (decide (t = .tuple)))) M := nrfl rfl
@[simp] theorem bIsi_ro (t : Ty) (ds : List D) : bIsi t (.d (.ro ds)) M = .ok (.d (.bl (decide (t = .list)))) M := nrfl rfl
@[simp] theorem bIsi_o (t : Ty) (ds : List D) : bIsi t (.o (.lst ds)) M = .ok (.d (.bl (decide (t = .list)))) M := nrfl rfl
@[simp] theorem lim_1 : 1 ≤ lim := by decide
@[simp] theorem lim_2 : 2 ≤ lim := by decide
@[simp] theorem lim_3 : 3 ≤ lim := by decide
@[simp] theorem lim_4 : 4 ≤ lim := by decide
@[simp] theorem lim_5 : 5 ≤ lim := by decide
@[simp] theorem lim_6 : 6 ≤ lim := by decide
@[simp] theorem lim_7 : 7 ≤ lim := by decide
@[simp] theorem lim_8 : 8 ≤ lim := by decide
@[simp] theorem lim_9 : 9 ≤ lim := by decide
@[simp] theorem lim_10 : 10 ≤ lim := by decide
@[simp] theorem lim_11 : 11 ≤ lim := by decide
@[simp] theorem lim_12 : 12 ≤ lim := by decide
@[simp] theorem lim_13 : 13 ≤ lim := by decide
@[simp] theorem lim_14 : 14 ≤ lim := by decide
@[simp] theorem lim_15 : 15 ≤ lim := by decide
@[simp] theorem lim_16 : 16 ≤ lim := by decide
@[simp] theorem lim_17 : 17 ≤ lim := by decide
@[simp] theorem lim_18 : 18 ≤ lim := by decide
@[simp] theorem lim_19 : 19 ≤ lim := by decide
@[simp] theorem lim_20 : 20 ≤ lim := by decide
@[simp] theorem oAdd_ho (n : Nat) (ys : List D) : oAdd (.d (.hdl n)) (.o (.lst ys)) M = match M[n]? with
    | some (.lst xs) => if xs.length + ys.length ≤ lim then .ok (.o (.lst (xs ++ ys))) M else .bad
    | _ => .bad := by
  show (match lstOf (.d (.hdl n)) M, lstOf (.o (.lst ys)) M with | some xs, some ys => if xs.length + ys.length ≤ lim then Res.ok (RV.o (.lst (xs ++ ys))) M else Res.bad | _, _ => Res.bad) = _
  rw [lstOf_hdl, lstOf_o]; cases M[n]? with
  | none => rfl
  | some o => cases o <;> rfl
@[simp] theorem oAdd_or (xs ys : List D) : oAdd (.o (.lst xs)) (.d (.ro ys)) M = if xs.length + ys.length ≤ lim then .ok (.o (.lst (xs ++ ys))) M else .bad := nrfl rfl
@[simp] theorem oAdd_hr (n : Nat) (ys : List D) : oAdd (.d (.hdl n)) (.d (.ro ys)) M = match M[n]? with
    | some (.lst xs) => if xs.length + ys.length ≤ lim then .ok (.o (.lst (xs ++ ys))) M else .bad
    | _ => .bad := by
  show (match lstOf (.d (.hdl n)) M, lstOf (.d (.ro ys)) M with | some xs, some ys => if xs.length + ys.length ≤ lim then Res.ok (RV.o (.lst (xs ++ ys))) M else Res.bad | _, _ => Res.bad) = _
  rw [lstOf_hdl, lstOf_ro]; cases M[n]? with
  | none => rfl
  | some o => cases o <;> rfl
@[simp] theorem oAdd_oo (xs ys : List D) : oAdd (.o (.lst xs)) (.o (.lst ys)) M = if xs.length + ys.length ≤ lim then .ok (.o (.lst (xs ++ ys))) M else .bad := nrfl rfl
@[simp] theorem oAdd_oh (n : Nat) (xs : List D) : oAdd (.o (.lst xs)) (.d (.hdl n)) M = match M[n]? with
    | some (.lst ys) => if xs.length + ys.length ≤ lim then .ok (.o (.lst (xs ++ ys))) M else .bad
    | _ => .bad := by
  show (match lstOf (.o (.lst xs)) M, lstOf (.d (.hdl n)) M with | some xs, some ys => if xs.length + ys.length ≤ lim then Res.ok (RV.o (.lst (xs ++ ys))) M else Res.bad | _, _ => Res.bad) = _
  rw [lstOf_hdl, lstOf_o]; cases M[n]? with
  | none => rfl
  | some o => cases o <;> rfl
@[simp] theorem oAdd_hh (n m : Nat) : oAdd (.d (.hdl n)) (.d (.hdl m)) M = match M[n]?, M[m]? with
    | some (.lst xs), some (.lst ys) => if xs.length + ys.length ≤ lim then .ok (.o (.lst (xs ++ ys))) M else .bad
    | _, _ => .bad := by
  show (match lstOf (.d (.hdl n)) M, lstOf (.d (.hdl m)) M with | some xs, some ys => if xs.length + ys.length ≤ lim then Res.ok (RV.o (.lst (xs ++ ys))) M else Res.bad | _, _ => Res.bad) = _
  rw [lstOf_hdl, lstOf_hdl]
  rcases M[n]? with _ | (_ | _ | _) <;> rcases M[m]? with _ | (_ | _ | _) <;> rfl
end
end MI

namespace MI
section
variable {M : Mem} {b c : Bool}
@[simp] theorem oIs_bl : oIs (.d (.bl b)) (.d (.bl c)) M = .ok (.d (.bl (decide (b = c)))) M := nrfl rfl
@[simp] theorem oIsNot_bl : oIsNot (.d (.bl b)) (.d (.bl c)) M = .ok (.d (.bl (!decide (b = c)))) M := nrfl rfl
end
end MI
end
section
set_option linter.all false
set_option autoImplicit false
namespace HW
open MI (sortI insI dedI)
abbrev Reach := Bool × List Int
def Rising (l : List Int) : Prop := l.Pairwise (· < ·)
theorem Rising.cons {e : Int} {l : List Int} : Rising (e :: l) ↔ (∀ x ∈ l, e < x) ∧ Rising l := List.pairwise_cons
theorem dedI_mem (k : Int) : ∀ l : List Int, k ∈ dedI l ↔ k ∈ l
  | [] => .rfl
  | i :: r => by
    unfold dedI
    split
    · rename_i c
      rw [dedI_mem k r, List.mem_cons]
      refine ⟨.inr, fun h => h.elim (fun e => ?_) id⟩
      rw [e]; simpa using c
    · rw [List.mem_cons, List.mem_cons, dedI_mem k r]
theorem dedI_nodup : ∀ l : List Int, (dedI l).Nodup
  | [] => .nil
  | i :: r => by
    unfold dedI
    split
    · exact dedI_nodup r
    · rename_i c
      refine List.nodup_cons.mpr ⟨fun h => c ?_, dedI_nodup r⟩
      simpa using (dedI_mem i r).mp h
def ss (l : List Int) : List Int := sortI (dedI l)
inductive W4 where
  | both | either | less | just
  deriving DecidableEq
def W4.tb : W4 → Bool → Bool → Bool
  | .both, a, b => a && b
  | .either, a, b => a || b
  | .less, a, b => a && !b
  | .just, a, b => a != b
theorem Rising.snoc {l : List Int} {e : Int} (h : Rising l) (h2 : ∀ x ∈ l, x < e) : Rising (l ++ [e]) := by
  unfold Rising
  rw [List.pairwise_append]
  exact ⟨h, List.pairwise_singleton _ _, fun a ha b hb => by rw [List.mem_singleton.mp hb]; exact h2 a ha⟩
end HW
end
section
set_option linter.all false
set_option autoImplicit false
namespace HW
open MI PySem
def encR (r : Reach) : D := .tup [.bl r.1, .tup (r.2.map D.int)]
def W4.s : W4 → Str
  | .both => "both"
  | .either => "either"
  | .less => "less"
  | .just => "just"
@[simp] theorem bels_ints (n : Nat) (l : List Int) : D.bels n (l.map D.int) = true := by
  induction l with
  | nil => rfl
  | cons a l ih => simp [D.bels, D.bel, ih]
@[simp] theorem oIx_encR0 (r : Reach) (M : Mem) : oIx (.d (encR r)) (.d (.int 0)) M = .ok (.d (.bl r.1)) M := oIx_t0 _ _
@[simp] theorem oIx_encR1 (r : Reach) (M : Mem) : oIx (.d (encR r)) (.d (.int 1)) M = .ok (.d (.tup (r.2.map D.int))) M := oIx_t1 _ _ _
@[simp] theorem bel_encR (n : Nat) (r : Reach) : D.bel n (encR r) = true := by simp [encR, D.bel, D.bels]
@[simp] theorem fin_tup (M l : Mem) (ds : List D) : fin .pure M (.d (.tup ds)) (M ++ l) = if D.bels M.length ds = true then .ok (.d (.tup ds)) M else .bad := by
  unfold fin; simp only [List.take_left, List.take_length, if_true]; rfl
@[simp] theorem fin_tup0 (M : Mem) (ds : List D) : fin .pure M (.d (.tup ds)) M = if D.bels M.length ds = true then .ok (.d (.tup ds)) M else .bad := by
  unfold fin; simp only [List.take_left, List.take_length, if_true]; rfl
@[simp] theorem fin_int (M l : Mem) (b : Int) : fin .pure M (.d (.int b)) (M ++ l) = .ok (.d (.int b)) M := by simp [fin, D.bel]
@[simp] theorem fin_int0 (M : Mem) (b : Int) : fin .pure M (.d (.int b)) M = .ok (.d (.int b)) M := by simp [fin, D.bel]
@[simp] theorem fin_bl (M l : Mem) (b : Bool) : fin .pure M (.d (.bl b)) (M ++ l) = .ok (.d (.bl b)) M := by simp [fin, D.bel]
@[simp] theorem fin_bl0 (M : Mem) (b : Bool) : fin .pure M (.d (.bl b)) M = .ok (.d (.bl b)) M := by simp [fin, D.bel]
@[simp] theorem fin_bl_nil (M : Mem) (b : Bool) : fin .pure [] (.d (.bl b)) M = .ok (.d (.bl b)) [] := by simp [fin, D.bel]
@[simp] theorem fin_non (M l : Mem) : fin .pure M (.d .non) (M ++ l) = .ok (.d .non) M := by simp [fin, D.bel]
@[simp] theorem fin_non0 (M : Mem) : fin .pure M (.d .non) M = .ok (.d .non) M := by simp [fin, D.bel]
@[simp] theorem bels_nil (n : Nat) : D.bels n [] = true := nrfl rfl
@[simp] theorem bels_cons (n : Nat) (d : D) (r : List D) : D.bels n (d :: r) = (D.bel n d && D.bels n r) := nrfl rfl
@[simp] theorem bel_int (n : Nat) (i : Int) : D.bel n (.int i) = true := nrfl rfl
@[simp] theorem bel_bl (n : Nat) (i : Bool) : D.bel n (.bl i) = true := nrfl rfl
@[simp] theorem bel_non (n : Nat) : D.bel n .non = true := nrfl rfl
@[simp] theorem bel_str (n : Nat) (s : Str) : D.bel n (.str s) = true := nrfl rfl
@[simp] theorem bel_tup (n : Nat) (ds : List D) : D.bel n (.tup ds) = D.bels n ds := nrfl rfl
@[simp] theorem obel_lst (n : Nat) (ds : List D) : O.bel n (.lst ds) = D.bels n ds := nrfl rfl
@[simp] theorem fin_R (M l : Mem) (r : Reach) : fin .pure M (.d (encR r)) (M ++ l) = .ok (.d (encR r)) M := by
  show fin .pure M (.d (.tup _)) (M ++ l) = _
  rw [fin_tup]; simp [encR]
@[simp] theorem fin_R0 (M : Mem) (r : Reach) : fin .pure M (.d (encR r)) M = .ok (.d (encR r)) M := by
  have := fin_R M [] r
  rwa [List.append_nil] at this
section
variable {T : Tab}
/-- a dict of True by some numbers -/
def marks (l : List Int) : List (D × D) := l.foldl (fun kvs e => dput kvs (.int e) (.bl true)) []
end
end HW
namespace HW
open MI PySem
section
variable {T : Tab}
@[simp] theorem obel_dic (n : Nat) (fz : Bool) (kvs : List (D × D)) : O.bel n (.dic fz kvs) = kvs.all fun kv => kv.1.bel n && kv.2.bel n := nrfl rfl
theorem marks_ik (l : List Int) : IK (marks l) := by
  have : ∀ kvs, IK kvs → IK (l.foldl (fun kvs e => dput kvs (.int e) (.bl true)) kvs) := by
    induction l with
    | nil => exact fun kvs h => h
    | cons a l ih => exact fun kvs h => ih _ (h.put _ _)
  exact this _ IK.nil
@[simp] theorem marks_sk (l : List Int) : skAll (marks l) = true := (marks_ik l).sk
end
end HW
end
section
set_option linter.all false
set_option autoImplicit false
namespace HW
open MI PySem
section
variable {T : Tab}
theorem lim_big : 1000000 ≤ lim := by decide
end
end HW
end
section
set_option linter.all false
set_option autoImplicit false
namespace HW
open MI PySem
abbrev scr (ns : List Int) : D := .ro (ns.map D.int)
section
variable {T : Tab}
def lawDraw (ns : List Int) (k many : Int) : Int :=
  if ns = [] then 0 else
    ((ns.getD (k % ns.length).toNat 0 % 1000000007 + 5) * (40692 + 977 * k) % 2147483629 + k) * ((ns.getD (k % ns.length).toNat 0 % 1000000007 + 5) * (40692 + 977 * k) % 2147483629 + 3) % 2147483647 / 13 % many
theorem lawDraw_nn (ns : List Int) (k : Int) {many : Int} (h : 0 < many) : 0 ≤ lawDraw ns k many := by
  unfold lawDraw
  split
  · exact Int.le_refl _
  · exact Int.emod_nonneg _ (by omega)
theorem lawDraw_lt (ns : List Int) (k : Int) {many : Int} (h : 0 < many) : lawDraw ns k many < many := by
  unfold lawDraw
  split
  · exact h
  · exact Int.emod_lt_of_pos _ h
theorem oIx_ro_mod {M : Mem} {ns : List Int} (h : ns ≠ []) (k : Int) : oIx (.d (.ro (ns.map D.int))) (.d (.int (k % ns.length))) M = .ok (.d (.int (ns.getD (k % ns.length).toNat 0))) M := by
  have hl : 0 < (ns.length : Int) := by cases ns with
    | nil => exact absurd rfl h
    | cons => simp
  have h0 := Int.emod_nonneg k (show (ns.length : Int) ≠ 0 by omega)
  have h1 := Int.emod_lt_of_pos k hl
  refine oIx_seq rfl (ixN_pos h0 (by simpa using h1)) ?_
  rw [List.getElem?_map]
  have h2 : (k % ns.length).toNat < ns.length := by omega
  rw [List.getElem?_eq_getElem h2]
  simp [List.getD_eq_getElem?_getD, List.getElem?_eq_getElem h2]
theorem law_draw_run [i : HasF T "_law_draw" F__law_draw] (n : Nat) (ns : List Int) (k many : Int) (hm : 0 < many) (M : Mem) : run T (n + 1) "_law_draw" [scr ns, .int k, .int many] M = .ok (.d (.int (lawDraw ns k many))) M := by
  rw [run_has i, ← Res.wp_eq]
  refine wp_run rfl ?_
  simp [F__law_draw, b__law_draw]
  split
  · rename_i h
    simp [h, lawDraw]
  · rename_i h
    have hl : 0 < ns.length := List.length_pos_iff.mpr h
    refine ⟨hl, ?_⟩
    rw [oIx_ro_mod h]
    simp
    have h1 := Int.emod_nonneg (ns.getD (k % ns.length).toNat 0) (show (1000000007 : Int) ≠ 0 by omega)
    have h2 := Int.emod_lt_of_pos (ns.getD (k % ns.length).toNat 0) (show (0 : Int) < 1000000007 by omega)
    have h3 := Int.emod_nonneg ((ns.getD (k % ns.length).toNat 0 % 1000000007 + 5) * (40692 + 977 * k)) (show (2147483629 : Int) ≠ 0 by omega)
    have h4 := Int.emod_lt_of_pos ((ns.getD (k % ns.length).toNat 0 % 1000000007 + 5) * (40692 + 977 * k)) (show (0 : Int) < 2147483629 by omega)
    simp only [List.getD_eq_getElem?_getD] at h1 h2 h3 h4
    refine ⟨.inl ⟨by omega, by omega⟩, .inr ⟨by omega, by omega⟩, hm, ?_⟩
    rw [lawDraw, if_neg h]
    simp only [List.getD_eq_getElem?_getD]
theorem law_far_ex [HasF T "_law_draw" F__law_draw] [i : HasF T "_law_far" F__law_far] (ns : List Int) (k : Int) : ∃ v : Int, 0 ≤ v ∧ v < 10 ^ 50 ∧ ∀ n M, run T (n + 2) "_law_far" [scr ns, .int k] M = .ok (.d (.int v)) M := by
  by_cases h : ns = []
  · subst h
    refine ⟨0, by decide, by decide, fun n M => ?_⟩
    rw [run_has i, ← Res.wp_eq]
    refine wp_run rfl ?_
    simp [F__law_far, b__law_far]
  · refine ⟨(ns.getD (k % ns.length).toNat 0 % 10 ^ 50 * (lawDraw ns k 100000000 + 1) + (lawDraw ns k 100000000 + 1) ^ 5) % 10 ^ 50, Int.emod_nonneg _ (by decide), Int.emod_lt_of_pos _ (by decide), fun n M => ?_⟩
    rw [run_has i, ← Res.wp_eq]
    refine wp_run rfl ?_
    have hl : 0 < ns.length := List.length_pos_iff.mpr h
    have h1 := lawDraw_nn ns k (show (0 : Int) < 100000000 by decide)
    have h2 := lawDraw_lt ns k (show (0 : Int) < 100000000 by decide)
    simp [F__law_far, b__law_far, h]
    rw [law_draw_run _ _ _ _ (by decide)]
    simp [hl]
    rw [oIx_ro_mod h]
    simp
    refine ⟨.inr ⟨by omega, by omega⟩, by omega⟩
/-- edges within sight -/
def Bd (l : List Int) : Prop := ∀ e ∈ l, -10 ^ 52 < e ∧ e < 10 ^ 52
theorem Bd.snoc {l : List Int} {e : Int} (h : Bd l) (h2 : -10 ^ 52 < e ∧ e < 10 ^ 52) : Bd (l ++ [e]) := fun x hx => by
  rcases List.mem_append.mp hx with q | q
  · exact h x q
  · rw [List.mem_singleton.mp q]; exact h2
theorem Bd.nil : Bd [] := fun _ h => nomatch h
end
end HW
end
section
set_option linter.all false
set_option autoImplicit false
namespace HW
open MI PySem
section
variable {T : Tab}
theorem oIx_litO {P : D → Prop} {ds : List D} {i : Int} (h0 : 0 ≤ i) (h1 : i < ds.length) (hP : ∀ d ∈ ds, P d) : ∃ d, P d ∧ ∀ M, oIx (.o (.lst ds)) (.d (.int i)) M = .ok (.d d) M := by
  have hl : i.toNat < ds.length := by omega
  exact ⟨ds[i.toNat], hP _ (List.getElem_mem hl), fun M => oIx_seq rfl (ixN_pos h0 h1) (List.getElem?_eq_getElem hl)⟩
end
end HW
end
section
set_option linter.all false
set_option autoImplicit false
namespace MI
open PySem (Str PyData)
mutual
/-- plain data, not deeper than n -/
def pl : Nat → D → Bool
  | _, .non => true
  | _, .bl _ => true
  | _, .int _ => true
  | _, .str s => okS s
  | 0, .tup _ => false
  | n + 1, .tup ds => pls n ds
  | _, .hdl _ => false
  | _, .ro _ => false
def pls : Nat → List D → Bool
  | _, [] => true
  | n, d :: ds => pl n d && pls n ds
end
mutual
def py : D → PyData
  | .non => .none
  | .bl b => .bool b
  | .int i => .int i
  | .str s => .str s
  | .tup ds => .tuple (pys ds)
  | .hdl _ => .none
  | .ro ds => .list (pys ds)
def pys : List D → List PyData
  | [] => []
  | d :: ds => py d :: pys ds
end
mutual
theorem der_pl (M : Mem) : ∀ (n : Nat) (d : D), pl n d = true → der n M d = some (py d)
  | n, .non, _ => by cases n <;> simp [der, py]
  | n, .bl _, _ => by cases n <;> simp [der, py]
  | n, .int _, _ => by cases n <;> simp [der, py]
  | n, .str s, h => by
    have h' : okS s = true := by cases n <;> simpa only [pl] using h
    unfold okS at h'
    cases n <;> simp only [der, if_pos h', py]
  | 0, .tup _, h => by simp [pl] at h
  | n + 1, .tup ds, h => by
    have h' : pls n ds = true := by simpa only [pl] using h
    simp only [der, ders_pl M n ds h', py, Option.map_some]
  | n, .hdl _, h => by cases n <;> simp [pl] at h
  | n, .ro _, h => by cases n <;> simp [pl] at h
theorem ders_pl (M : Mem) : ∀ (n : Nat) (ds : List D), pls n ds = true → ds.mapM (fun d => der n M d) = some (pys ds)
  | _, [], _ => rfl
  | n, d :: ds, h => by
    have h' : pl n d = true ∧ pls n ds = true := by simpa only [pls, Bool.and_eq_true] using h
    rw [List.mapM_cons, der_pl M n d h'.1, ders_pl M n ds h'.2]
    rfl
end
mutual
theorem pl_mono : ∀ (n : Nat) (d : D), pl n d = true → ∀ m, n ≤ m → pl m d = true
  | n, .non, _, m, _ => by cases m <;> simp [pl]
  | n, .bl _, _, m, _ => by cases m <;> simp [pl]
  | n, .int _, _, m, _ => by cases m <;> simp [pl]
  | n, .str s, h, m, _ => by
    have h' : okS s = true := by cases n <;> simpa only [pl] using h
    cases m <;> simpa only [pl] using h'
  | 0, .tup _, h, _, _ => by simp [pl] at h
  | n + 1, .tup ds, h, 0, hm => by omega
  | n + 1, .tup ds, h, m + 1, hm => by
    have h' : pls n ds = true := by simpa only [pl] using h
    simpa only [pl] using pls_mono n ds h' m (by omega)
  | n, .hdl _, h, _, _ => by cases n <;> simp [pl] at h
  | n, .ro _, h, _, _ => by cases n <;> simp [pl] at h
theorem pls_mono : ∀ (n : Nat) (ds : List D), pls n ds = true → ∀ m, n ≤ m → pls m ds = true
  | _, [], _, _, _ => by simp [pls]
  | n, d :: ds, h, m, hm => by
    have h' : pl n d = true ∧ pls n ds = true := by simpa only [pls, Bool.and_eq_true] using h
    simp only [pls, pl_mono n d h'.1 m hm, pls_mono n ds h'.2 m hm, Bool.and_self]
end
/-- == -/
def deq (a b : D) : Bool := peq (py a) (py b)
def deqs (a b : List D) : Bool := peqs (pys a) (pys b)
section
variable {M : Mem}
theorem oEq_d32 {a b : D} (ha : pl 32 a = true) (hb : pl 32 b = true) : oEq (.d a) (.d b) M = .ok (.d (.bl (deq a b))) M := oEq_of (der_pl M 32 a ha) (der_pl M 32 b hb)
theorem oNe_d32 {a b : D} (ha : pl 32 a = true) (hb : pl 32 b = true) : oNe (.d a) (.d b) M = .ok (.d (.bl (!deq a b))) M := oNe_of (der_pl M 32 a ha) (der_pl M 32 b hb)
theorem oEq_d {a b : D} (ha : pl 16 a = true) (hb : pl 16 b = true) : oEq (.d a) (.d b) M = .ok (.d (.bl (deq a b))) M := oEq_d32 (pl_mono 16 a ha 32 (by decide)) (pl_mono 16 b hb 32 (by decide))
theorem oNe_d {a b : D} (ha : pl 16 a = true) (hb : pl 16 b = true) : oNe (.d a) (.d b) M = .ok (.d (.bl (!deq a b))) M := oNe_d32 (pl_mono 16 a ha 32 (by decide)) (pl_mono 16 b hb 32 (by decide))
theorem derR_l31 {x : RV} {ds : List D} (h : lstT x M = some ds) (hp : pls 31 ds = true) : derR x M = some (.list (pys ds)) := by
  cases x with
  | o o =>
    cases o with
    | lst es =>
      simp only [lstT, Option.some.injEq] at h
      subst h
      simp only [derR, ders_pl M 31 es hp, Option.map_some]
    | _ => simp [lstT] at h
  | d d =>
    cases d with
    | hdl n =>
      simp only [lstT] at h
      split at h
      · rename_i es e
        cases h
        simp only [derR, der, e, ders_pl M 31 _ hp, Option.map_some]
      · cases h
    | _ => simp [lstT] at h
theorem derR_l {x : RV} {ds : List D} (h : lstT x M = some ds) (hp : pls 15 ds = true) : derR x M = some (.list (pys ds)) := derR_l31 h (pls_mono 15 ds hp 31 (by decide))
theorem oEq_l {x y : RV} {as bs : List D} (h1 : lstT x M = some as) (h2 : lstT y M = some bs) (ha : pls 15 as = true) (hb : pls 15 bs = true) : oEq x y M = .ok (.d (.bl (deqs as bs))) M := oEq_of (derR_l h1 ha) (derR_l h2 hb)
theorem oNe_l {x y : RV} {as bs : List D} (h1 : lstT x M = some as) (h2 : lstT y M = some bs) (ha : pls 15 as = true) (hb : pls 15 bs = true) : oNe x y M = .ok (.d (.bl (!deqs as bs))) M := oNe_of (derR_l h1 ha) (derR_l h2 hb)
end
@[simp] theorem deq_tup (a b : List D) : deq (.tup a) (.tup b) = deqs a b := nrfl rfl
@[simp] theorem deq_int (a b : Int) : deq (.int a) (.int b) = decide (a = b) := nrfl rfl
@[simp] theorem deq_bl (a b : Bool) : deq (.bl a) (.bl b) = (a == b) := nrfl rfl
@[simp] theorem deq_str (a b : Str) : deq (.str a) (.str b) = decide (a = b) := nrfl rfl
@[simp] theorem deq_non : deq .non .non = true := nrfl rfl
@[simp] theorem deq_non_tup (a : List D) : deq .non (.tup a) = false := nrfl rfl
@[simp] theorem deq_tup_non (a : List D) : deq (.tup a) .non = false := nrfl rfl
@[simp] theorem deq_int_non (a : Int) : deq (.int a) .non = false := nrfl rfl
@[simp] theorem deq_non_int (a : Int) : deq .non (.int a) = false := nrfl rfl
@[simp] theorem deqs_nil : deqs [] [] = true := nrfl rfl
@[simp] theorem deqs_cons (a b : D) (as bs : List D) : deqs (a :: as) (b :: bs) = (deq a b && deqs as bs) := nrfl rfl
@[simp] theorem deqs_nc (b : D) (bs : List D) : deqs [] (b :: bs) = false := nrfl rfl
@[simp] theorem deqs_cn (b : D) (bs : List D) : deqs (b :: bs) [] = false := nrfl rfl
/-- lists of data of one kind -/
theorem deqs_map {A : Type} [DecidableEq A] {enc : A → D} (h : ∀ a b, deq (enc a) (enc b) = decide (a = b)) : ∀ as bs : List A, deqs (as.map enc) (bs.map enc) = decide (as = bs)
  | [], [] => by simp
  | [], _ :: _ => by simp
  | _ :: _, [] => by simp
  | a :: as, b :: bs => by
    simp only [List.map_cons, deqs_cons, h, deqs_map h as bs, List.cons.injEq]
    by_cases h1 : a = b <;> by_cases h2 : as = bs <;> simp [h1, h2]
theorem pls_map {A : Type} {enc : A → D} {n : Nat} : ∀ {as : List A}, (∀ a ∈ as, pl n (enc a) = true) → pls n (as.map enc) = true
  | [], _ => rfl
  | a :: as, h => by
    simp only [List.map_cons, pls, h a List.mem_cons_self, Bool.true_and]
    exact pls_map fun x hx => h x (List.mem_cons_of_mem _ hx)
@[simp] theorem deqs_ints (as bs : List Int) : deqs (as.map D.int) (bs.map D.int) = decide (as = bs) := deqs_map deq_int as bs
@[simp] theorem pl_non (n : Nat) : pl n .non = true := by cases n <;> simp [pl]
@[simp] theorem pl_bl (n : Nat) (b : Bool) : pl n (.bl b) = true := by cases n <;> simp [pl]
@[simp] theorem pl_int (n : Nat) (b : Int) : pl n (.int b) = true := by cases n <;> simp [pl]
@[simp] theorem pl_str (n : Nat) (b : Str) : pl n (.str b) = okS b := by cases n <;> simp [pl]
@[simp] theorem pl_tup (n : Nat) (ds : List D) : pl (n + 1) (.tup ds) = pls n ds := by simp [pl]
@[simp] theorem pls_nil (n : Nat) : pls n [] = true := by simp [pls]
@[simp] theorem pls_cons (n : Nat) (d : D) (ds : List D) : pls n (d :: ds) = (pl n d && pls n ds) := by simp [pls]
@[simp] theorem pls_ints (n : Nat) (l : List Int) : pls n (l.map D.int) = true := pls_map fun _ _ => pl_int _ _
end MI
namespace HW
open MI PySem
@[simp] theorem deq_R (a b : Reach) : deq (encR a) (encR b) = decide (a = b) := by
  obtain ⟨f, A⟩ := a
  obtain ⟨g, B⟩ := b
  simp only [encR, deq_tup, deqs_cons, deq_bl, deqs_ints, deqs_nil, Bool.and_true, Prod.mk.injEq]
  by_cases h1 : f = g <;> by_cases h2 : A = B <;> simp [h1, h2]
theorem pl_R (n : Nat) (r : Reach) : pl (n + 2) (encR r) = true := by simp [encR]
@[simp] theorem oEq_R (a b : Reach) (M : Mem) : oEq (.d (encR a)) (.d (encR b)) M = .ok (.d (.bl (decide (a = b)))) M := by rw [oEq_d (pl_R 14 a) (pl_R 14 b), deq_R]
@[simp] theorem oNe_R (a b : Reach) (M : Mem) : oNe (.d (encR a)) (.d (encR b)) M = .ok (.d (.bl (!decide (a = b)))) M := by rw [oNe_d (pl_R 14 a) (pl_R 14 b), deq_R]
@[simp] theorem oEq_ints (a b : List Int) (M : Mem) : oEq (.o (.lst (a.map D.int))) (.o (.lst (b.map D.int))) M = .ok (.d (.bl (decide (a = b)))) M := by
  rw [oEq_l rfl rfl (pls_ints _ _) (pls_ints _ _), deqs_ints]
@[simp] theorem bIsi_R (t : Ty) (r : Reach) (M : Mem) : bIsi t (.d (encR r)) M = .ok (.d (.bl (decide (t = .tuple)))) M := bIsi_tup t _
@[simp] theorem bLen_R (r : Reach) (M : Mem) : bLen (.d (encR r)) M = .ok (.d (.int 2)) M := bLen_tup _
section
variable {T : Tab}
theorem law_whole_run [i : HasF T "_law_whole" F__law_whole_k03] (n : Nat) (k : Int) (M : Mem) : run T (n + 1) "_law_whole" [.int k] M = .ok (.d (.bl true)) M := by
  rw [run_has i, ← Res.wp_eq]
  refine wp_run rfl ?_
  simp [F__law_whole_k03, b__law_whole_k03]
end
end HW
end
section
set_option linter.all false
set_option autoImplicit false
namespace HW
open MI PySem
def encO : Option Int → D
  | none => .non
  | some i => .int i
section
variable {T : Tab}
end
end HW
end
section
set_option linter.all false
set_option autoImplicit false
namespace HW
open MI (sortI insI dedI)
end HW
end
section
set_option linter.all false
set_option autoImplicit false
namespace MI
section
variable {M : Mem}
@[simp] theorem bSorted_o (ds : List D) : bSorted (.o (.lst ds)) M = match asInts ds with
    | some ns => .ok (.o (.lst ((sortI ns).map D.int))) M
    | none => bSortRw ds M := by
  unfold bSorted
  simp only [show dicOf (.o (.lst ds)) M = none from rfl, lstOf_o]
  cases asInts ds <;> rfl
@[simp] theorem mPopAt_def (n : Nat) (i : Int) : mPopAt n (.int i) M = match M[n]? with
    | some (.lst ds) => if 0 ≤ i ∧ i < ds.length ∧ i < 2 ^ 62 then match ds[i.toNat]? with
        | some d => .ok (.d d) (M.set n (.lst (ds.eraseIdx i.toNat)))
        | none => .bad
      else .bad
    | _ => .bad := nrfl rfl
end
end MI
namespace HW
open MI PySem
section
variable {T : Tab}
@[simp] theorem encO_some (k : Int) : encO (some k) = .int k := nrfl rfl
@[simp] theorem encO_none : encO none = .non := nrfl rfl
end
end HW
end
section
set_option linter.all false
set_option autoImplicit false
namespace HW
open MI PySem
section
variable {T : Tab}
end
end HW
end
section
set_option linter.all false
set_option autoImplicit false
namespace MI
section
variable {M : Mem}
theorem sIx_none (n d : Nat) : sIx n d none = d := nrfl rfl
theorem sIx_some {n d : Nat} {v : Int} (h : 0 ≤ v) : sIx n d (some v) = min v.toNat n := by show (if v < 0 then (v + (n : Int)).toNat else min v.toNat n) = _; rw [if_neg (by omega)]
@[simp] theorem oSlice_tup (ds : List D) (lo hi : Option Int) : oSlice (.d (.tup ds)) lo hi M = .ok (.d (.tup (cut ds lo hi))) M := nrfl rfl
theorem cut_to {A : Type} (xs : List A) {i : Int} (h : 0 ≤ i) : cut xs none (some i) = xs.take i.toNat := by
  unfold cut
  rw [sIx_none, sIx_some h]
  simp only [List.drop_zero, Nat.sub_zero]
  rw [List.take_eq_take_iff]; omega
theorem cut_from {A : Type} (xs : List A) {i : Int} (h : 0 ≤ i) : cut xs (some i) none = xs.drop i.toNat := by
  unfold cut
  rw [sIx_none, sIx_some h]
  by_cases c : i.toNat ≤ xs.length
  · rw [Nat.min_eq_left c]
    refine List.take_of_length_le (by simp)
  · have c2 : xs.length ≤ i.toNat := by omega
    rw [Nat.min_eq_right c2, List.drop_of_length_le (Nat.le_refl _), List.drop_of_length_le c2]; simp
end
end MI
namespace HW
open MI PySem
section
variable {T : Tab}
end
end HW
end
section
set_option linter.all false
set_option autoImplicit false
namespace HW
open MI PySem
section
variable {T : Tab}
end
end HW
end
section
set_option linter.all false
set_option autoImplicit false
namespace MI
open PySem (Str PyData)
def Res.wpx {A : Type} (r : Res A) (E : Str → Mem → Prop) (Q : A → Mem → Prop) (_ : Hid E := .mk) (_ : Hid Q := .mk) : Prop := match r with
  | .ok a M => Q a M
  | .err c M => E c M
  | .bad => False
def SR.wpx (r : SR) (F : Str → Env → Mem → Prop) (N : Env → Mem → Prop) (R : RV → Mem → Prop) (_ : Hid F := .mk) (_ : Hid N := .mk) (_ : Hid R := .mk) : Prop := match r with
  | .nx r M => N r M
  | .ret x M => R x M
  | .err c r M => F c r M
  | .bad => False
theorem wpx_ext {A : Type} {r : Res A} {E : Str → Mem → Prop} {Q Q' : A → Mem → Prop} (h : ∀ a M, Q a M = Q' a M) : r.wpx E Q = r.wpx E Q' := by
  have e : Q = Q' := by funext a M; exact h a M
  rw [e]
theorem Res.wpx_err {A : Type} {r : Res A} {c : Str} {M : Mem} : r.wpx (fun c' M' => c' = c ∧ M' = M) (fun _ _ => False) ↔ r = .err c M := by
  cases r with
  | ok b M' => simp [Res.wpx]
  | err => simp [Res.wpx]
  | bad => simp [Res.wpx]
theorem Res.wpx_ex {A : Type} {r : Res A} {E : Str → Mem → Prop} {Q : A → Mem → Prop} (h : r.wpx E Q) : (∃ a M, r = .ok a M ∧ Q a M) ∨ ∃ c M, r = .err c M ∧ E c M := by
  cases r with
  | ok b M' => exact .inl ⟨b, M', rfl, h⟩
  | err c M' => exact .inr ⟨c, M', rfl, h⟩
  | bad => exact h.elim
@[simp] theorem wpx_bad {A : Type} (E : Str → Mem → Prop) (Q : A → Mem → Prop) : (Res.bad : Res A).wpx E Q = False := nrfl rfl
@[simp] theorem wpx_rerr {A : Type} (c : Str) (M : Mem) (E : Str → Mem → Prop) (Q : A → Mem → Prop) : (Res.err c M : Res A).wpx E Q = E c M := nrfl rfl
section
variable {A B : Type} {cl : Cl} {r : Env} {M : Mem} {E : Str → Mem → Prop} {F : Str → Env → Mem → Prop}
@[simp] theorem wpx_ok (a : A) (M : Mem) (Q : A → Mem → Prop) : (Res.ok a M).wpx E Q = Q a M := nrfl rfl
@[simp] theorem wpx_nx (r : Env) (M : Mem) (N : Env → Mem → Prop) (R : RV → Mem → Prop) : (SR.nx r M).wpx F N R = N r M := nrfl rfl
@[simp] theorem wpx_ret (x : RV) (M : Mem) (N : Env → Mem → Prop) (R : RV → Mem → Prop) : (SR.ret x M).wpx F N R = R x M := nrfl rfl
@[simp] theorem wpx_bind (x : Res A) (f : A → Mem → Res B) (Q : B → Mem → Prop) : (x.bind f).wpx E Q = x.wpx E fun a M => (f a M).wpx E Q := by
  cases x <;> rfl
@[simp] theorem wpx_ite {c : Prop} [Decidable c] (a b : Res A) (Q : A → Mem → Prop) : (if c then a else b).wpx E Q = if c then a.wpx E Q else b.wpx E Q := by
  split <;> rfl
@[simp] theorem wpx_iteS {c : Prop} [Decidable c] (a b : SR) (N : Env → Mem → Prop) (R : RV → Mem → Prop) : (if c then a else b).wpx F N R = if c then a.wpx F N R else b.wpx F N R := by
  split <;> rfl
@[simp] theorem wpx_eVar (i : Nat) (Q : RV → Mem → Prop) : (eVar i cl r M).wpx E Q = getV r[i]? fun x => Q x M := by
  unfold eVar getV
  cases r[i]? with
  | none => rfl
  | some o => cases o <;> rfl
@[simp] theorem wpx_eC (d : D) (Q : RV → Mem → Prop) : (eC d cl r M).wpx E Q = Q (.d d) M := nrfl rfl
@[simp] theorem wpx_e1 (op : Op1) (a : SE) (Q : RV → Mem → Prop) : (e1 op a cl r M).wpx E Q = (a cl r M).wpx E fun x M => (op x M).wpx E Q := wpx_bind _ _ _
@[simp] theorem wpx_e2 (op : Op2) (a b : SE) (Q : RV → Mem → Prop) : (e2 op a b cl r M).wpx E Q = (a cl r M).wpx E fun x M => (b cl r M).wpx E fun y M => (op x y M).wpx E Q := by
  unfold e2; rw [wpx_bind]; refine wpx_ext fun x M => ?_; rw [wpx_bind]
@[simp] theorem wpx_eNot (a : SE) (Q : RV → Mem → Prop) : (eNot a cl r M).wpx E Q = (a cl r M).wpx E fun x M => truV (truR x M) fun b => Q (.d (.bl !b)) M := by
  unfold eNot; rw [wpx_bind]; refine wpx_ext fun x M => ?_
  cases truR x M <;> rfl
@[simp] theorem wpx_eAnd (a b : SE) (Q : RV → Mem → Prop) : (eAnd a b cl r M).wpx E Q = (a cl r M).wpx E fun x M => truV (truR x M) fun t => if t = true then (b cl r M).wpx E Q else Q x M := by
  unfold eAnd; rw [wpx_bind]; refine wpx_ext fun x M => ?_
  cases truR x M with
  | none => rfl
  | some t => cases t <;> simp [truV, Res.wpx]
@[simp] theorem wpx_eOr (a b : SE) (Q : RV → Mem → Prop) : (eOr a b cl r M).wpx E Q = (a cl r M).wpx E fun x M => truV (truR x M) fun t => if t = true then Q x M else (b cl r M).wpx E Q := by
  unfold eOr; rw [wpx_bind]; refine wpx_ext fun x M => ?_
  cases truR x M with
  | none => rfl
  | some t => cases t <;> simp [truV, Res.wpx]
@[simp] theorem wpx_tAnd (a b : STt) (Q : Bool → Mem → Prop) : (tAnd a b cl r M).wpx E Q = (a cl r M).wpx E fun x M => if x = true then (b cl r M).wpx E Q else Q false M := by
  unfold tAnd; rw [wpx_bind]; refine wpx_ext fun x M => ?_; rw [wpx_ite]; rfl
@[simp] theorem wpx_tOr (a b : STt) (Q : Bool → Mem → Prop) : (tOr a b cl r M).wpx E Q = (a cl r M).wpx E fun x M => if x = true then Q true M else (b cl r M).wpx E Q := by
  unfold tOr; rw [wpx_bind]; refine wpx_ext fun x M => ?_; rw [wpx_ite]; rfl
@[simp] theorem wpx_tNot (a : STt) (Q : Bool → Mem → Prop) : (tNot a cl r M).wpx E Q = (a cl r M).wpx E fun x M => Q (!x) M := by
  unfold tNot; rw [wpx_bind]; rfl
@[simp] theorem wpx_tTru (a : SE) (Q : Bool → Mem → Prop) : (tTru a cl r M).wpx E Q = (a cl r M).wpx E fun x M => truV (truR x M) fun b => Q b M := by
  unfold tTru; rw [wpx_bind]; refine wpx_ext fun x M => ?_
  cases truR x M <;> rfl
@[simp] theorem wpx_tB (a : SE) (Q : Bool → Mem → Prop) : (tB a cl r M).wpx E Q = (a cl r M).wpx E fun x M => blV x fun b => Q b M := by
  unfold tB; rw [wpx_bind]; refine wpx_ext fun x M => ?_
  unfold blV
  split
  · rfl
  · first | rfl | (split <;> first | rfl | simp_all)
@[simp] theorem wpx_eIf (t : STt) (a b : SE) (Q : RV → Mem → Prop) : (eIf t a b cl r M).wpx E Q = (t cl r M).wpx E fun x M => if x = true then (a cl r M).wpx E Q else (b cl r M).wpx E Q := by
  unfold eIf; rw [wpx_bind]; refine wpx_ext fun x M => ?_; rw [wpx_ite]
@[simp] theorem wpx_dNil (Q : List D → Mem → Prop) : (dNil cl r M).wpx E Q = Q [] M := nrfl rfl
@[simp] theorem wpx_dCons (a : SE) (as : SDs) (Q : List D → Mem → Prop) : (dCons a as cl r M).wpx E Q = (a cl r M).wpx E fun x M => (as cl r (box x M).2).wpx E fun ds M' => Q ((box x M).1 :: ds) M' := by
  unfold dCons; rw [wpx_bind]; refine wpx_ext fun x M => ?_; rw [wpx_bind]; rfl
@[simp] theorem wpx_eTup (as : SDs) (Q : RV → Mem → Prop) : (eTup as cl r M).wpx E Q = (as cl r M).wpx E fun ds M => ds.length ≤ lim ∧ Q (.d (.tup ds)) M := by
  unfold eTup; rw [wpx_bind]; refine wpx_ext fun x M => ?_; rw [wpx_ite]; simp [Res.wpx]
@[simp] theorem wpx_eLst (as : SDs) (Q : RV → Mem → Prop) : (eLst as cl r M).wpx E Q = (as cl r M).wpx E fun ds M => ds.length ≤ lim ∧ Q (.o (.lst ds)) M := by
  unfold eLst; rw [wpx_bind]; refine wpx_ext fun x M => ?_; rw [wpx_ite]; simp [Res.wpx]
@[simp] theorem wpx_eDic0 (Q : RV → Mem → Prop) : (eDic0 cl r M).wpx E Q = Q (.o (.dic false [])) M := nrfl rfl
@[simp] theorem wpx_eDic (as : SDs) (Q : RV → Mem → Prop) : (eDic as cl r M).wpx E Q = (as cl r M).wpx E fun ds M => ∃ kvs, pairUp ds [] = some kvs ∧ ds.length ≤ 30 ∧ Q (.o (.dic false kvs)) M := by
  unfold eDic; rw [wpx_bind]; refine wpx_ext fun x M => ?_
  cases pairUp x [] with
  | none => simp [Res.wpx]
  | some kvs => simp only [wpx_ite]; simp [Res.wpx]
@[simp] theorem wpx_eCall (f : Str) (as : SDs) (Q : RV → Mem → Prop) : (eCall f as cl r M).wpx E Q = (as cl r M).wpx E fun ds M => (cl f ds M).wpx E Q := by
  unfold eCall; rw [wpx_bind]
@[simp] theorem wpx_oNone (Q : Option Int → Mem → Prop) : (oNone cl r M).wpx E Q = Q none M := nrfl rfl
@[simp] theorem wpx_oSome (a : SE) (Q : Option Int → Mem → Prop) : (oSome a cl r M).wpx E Q = (a cl r M).wpx E fun x M => intV x fun i => Q (some i) M := by
  unfold oSome; rw [wpx_bind]; refine wpx_ext fun x M => ?_
  unfold intV
  split
  · rfl
  · first | rfl | (split <;> first | rfl | simp_all)
@[simp] theorem wpx_eSlice (a : SE) (lo hi : SO) (Q : RV → Mem → Prop) : (eSlice a lo hi cl r M).wpx E Q = (a cl r M).wpx E fun x M => (lo cl r M).wpx E fun l M => (hi cl r M).wpx E fun h M => (oSlice x l h M).wpx E Q := by
  unfold eSlice; rw [wpx_bind]; refine wpx_ext fun x M => ?_; rw [wpx_bind]; refine wpx_ext fun y M => ?_; rw [wpx_bind]
@[simp] theorem wpx_eM1 (m : Nat → D → Mem → Res RV) (o a : SE) (Q : RV → Mem → Prop) : (eM1 m o a cl r M).wpx E Q = (o cl r M).wpx E fun x M => hdlV x fun n => (lstT (.d (.hdl n)) M).isSome = true ∧ (a cl r M).wpx E fun y M => (m n (box y M).1 (box y M).2).wpx E Q := by
  unfold eM1; rw [wpx_bind]; refine wpx_ext fun x M => ?_
  unfold hdlV
  split
  · rw [wpx_ite, wpx_bind]; simp [Res.wpx]
  · first | rfl | (split <;> first | rfl | simp_all)
@[simp] theorem wpx_iSeq (a : SE) (Q : List D × Chk → Mem → Prop) : (iSeq a cl r M).wpx E Q = (a cl r M).wpx E fun x M => ∃ ds, seqX x M = some ds ∧ Q (ds, chkR x M) M := by
  unfold iSeq; rw [wpx_bind]; refine wpx_ext fun x M => ?_
  unfold seqX
  cases h : seqOf x M with
  | none =>
    simp only
    split
    · simp [Res.wpx, chkR]
    · rename_i h2
      simp only [Res.wpx]
      refine eq_comm.mp (propext ⟨fun ⟨ds, e, _⟩ => ?_, False.elim⟩)
      cases e
  | some ds => simp [Res.wpx]
@[simp] theorem wpx_iRange1 (a : SE) (Q : List D × Chk → Mem → Prop) : (iRange1 a cl r M).wpx E Q = (a cl r M).wpx E fun x M => intV x fun n => (n < 2 ^ 62 ∧ -(2 ^ 62) ≤ n) ∧ Q (rngD 0 n.toNat, []) M := by
  unfold iRange1; rw [wpx_bind]; refine wpx_ext fun x M => ?_
  unfold intV
  split
  · rw [wpx_ite]; simp [Res.wpx]
  · first | rfl | (split <;> first | rfl | simp_all)
variable {N : Env → Mem → Prop} {R : RV → Mem → Prop}
theorem wpx_ofE (s : Res RV) (f : RV → Mem → SR) : (ofE s r f).wpx F N R = s.wpx (fun c M => F c r M) fun x M => (f x M).wpx F N R := by cases s <;> rfl
theorem wpx_ofT (s : Res Bool) (f : Bool → Mem → SR) : (ofT s r f).wpx F N R = s.wpx (fun c M => F c r M) fun x M => (f x M).wpx F N R := by cases s <;> rfl
theorem wpx_ofI (s : Res (List D × Chk)) (f : List D × Chk → Mem → SR) : (ofI s r f).wpx F N R = s.wpx (fun c M => F c r M) fun x M => (f x M).wpx F N R := by cases s <;> rfl
@[simp] theorem wpx_sNil : (sNil cl r M).wpx F N R = N r M := nrfl rfl
@[simp] theorem wpx_sSeq (a b : SS) : (sSeq a b cl r M).wpx F N R = (a cl r M).wpx F (fun r M => (b cl r M).wpx F N R) R := by
  unfold sSeq; cases a cl r M <;> rfl
@[simp] theorem wpx_sSet (i : Nat) (e : SE) : (sSet i e cl r M).wpx F N R = (e cl r M).wpx (fun c M => F c r M) fun x M => N (r.set i (some (box x M).1)) (box x M).2 := by
  unfold sSet; rw [wpx_ofE]; rfl
@[simp] theorem wpx_sUnp (is : List Nat) (e : SE) : (sUnp is e cl r M).wpx F N R = (e cl r M).wpx (fun c M => F c r M) fun x M => tupV x fun ds => envV (setAll is ds r) fun r => N r M := by
  unfold sUnp; rw [wpx_ofE]; refine wpx_ext fun x M => ?_
  unfold tupV
  split
  · unfold envV
    split <;> rename_i h <;> simp [h, SR.wpx]
  · first | rfl | (split <;> first | rfl | simp_all)
@[simp] theorem wpx_sSetIx (o k e : SE) : (sSetIx o k e cl r M).wpx F N R = (e cl r M).wpx (fun c M => F c r M) fun x M => (o cl r (box x M).2).wpx (fun c M => F c r M) fun y M1 => (k cl r M1).wpx (fun c M => F c r M) fun z M2 => datV y fun y => datV z fun z => memV (setIx y z (box x M).1 M2) fun M => N r M := by
  unfold sSetIx; rw [wpx_ofE]; refine wpx_ext fun x M => ?_; rw [wpx_ofE]; refine wpx_ext fun y M1 => ?_; rw [wpx_ofE]; refine wpx_ext fun z M2 => ?_
  unfold datV
  cases y <;> cases z <;> simp only [] <;> try rfl
  unfold memV
  split <;> rename_i h <;> simp [h, SR.wpx]
@[simp] theorem wpx_sExpr (e : SE) : (sExpr e cl r M).wpx F N R = (e cl r M).wpx (fun c M => F c r M) fun _ M => N r M := by
  unfold sExpr; rw [wpx_ofE]; rfl
@[simp] theorem wpx_sRet (e : SE) : (sRet e cl r M).wpx F N R = (e cl r M).wpx (fun c M => F c r M) fun x M => R x M := by
  unfold sRet; rw [wpx_ofE]; rfl
@[simp] theorem wpx_sRetN : (sRetN cl r M).wpx F N R = R (.d .non) M := nrfl rfl
@[simp] theorem wpx_sIf (t : STt) (a b : SS) : (sIf t a b cl r M).wpx F N R = (t cl r M).wpx (fun c M => F c r M) fun x M => if x = true then (a cl r M).wpx F N R else (b cl r M).wpx F N R := by
  unfold sIf; rw [wpx_ofT]; refine wpx_ext fun x M => ?_; rw [wpx_iteS]
@[simp] theorem wpx_sFor (tg : Tg) (it : SI) (body : SS) : (sFor tg it body cl r M).wpx F N R = (it cl r M).wpx (fun c M => F c r M) fun p M => (forL (body cl) tg p.2 p.1 r M).wpx F N R := by
  unfold sFor; rw [wpx_ofI]

end
section
variable {A B : Type} {cl : Cl} {r : Env} {M : Mem} {E : Str → Mem → Prop} {F : Str → Env → Mem → Prop}
@[simp] theorem wpx_eM0 (m : Nat → Mem → Res RV) (o : SE) (Q : RV → Mem → Prop) : (eM0 m o cl r M).wpx E Q = (o cl r M).wpx E fun x M => hdlV x fun n => (lstT (.d (.hdl n)) M).isSome = true ∧ (m n M).wpx E Q := by
  unfold eM0; rw [wpx_bind]; refine wpx_ext fun x M => ?_
  unfold hdlV
  split
  · rw [wpx_ite]; simp [Res.wpx]
  · first | rfl | (split <;> first | rfl | simp_all)
theorem wpx_if_bad {c : Prop} [Decidable c] (x : Res A) (Q : A → Mem → Prop) : (if c then x else .bad).wpx E Q = (c ∧ x.wpx E Q) := by
  split <;> rename_i h <;> simp [h, Res.wpx]
@[simp] theorem wpx_eM2 (m : Nat → D → D → Mem → Res RV) (o a b : SE) (Q : RV → Mem → Prop) : (eM2 m o a b cl r M).wpx E Q = (o cl r M).wpx E fun x M => hdlV x fun n => (lstT (.d (.hdl n)) M).isSome = true ∧ (a cl r M).wpx E fun y M => (b cl r (box y M).2).wpx E fun z M2 => (m n (box y M).1 (box z M2).1 (box z M2).2).wpx E Q := by
  unfold eM2; rw [wpx_bind]; refine wpx_ext fun x M => ?_
  unfold hdlV
  split
  · rw [wpx_if_bad, wpx_bind]; congr 1; refine wpx_ext fun y M => ?_; rw [wpx_bind]
  · first | rfl | (split <;> first | rfl | simp_all)
@[simp] theorem wpx_eN1 (m : Nat → D → Mem → Res RV) (o a : SE) (Q : RV → Mem → Prop) : (eN1 m o a cl r M).wpx E Q = (o cl r M).wpx E fun x M => newV x fun ds => (a cl r (M ++ [.lst ds])).wpx E fun y M2 => (m M.length (box y M2).1 (box y M2).2).wpx E Q := by
  unfold eN1; rw [wpx_bind]; refine wpx_ext fun x M => ?_
  unfold newV
  split
  · rw [wpx_bind]
  · first | rfl | (split <;> first | rfl | simp_all)
@[simp] theorem wpx_eN0 (m : Nat → Mem → Res RV) (o : SE) (Q : RV → Mem → Prop) : (eN0 m o cl r M).wpx E Q = (o cl r M).wpx E fun x M => newV x fun ds => (m M.length (M ++ [.lst ds])).wpx E Q := by
  unfold eN0; rw [wpx_bind]; refine wpx_ext fun x M => ?_
  unfold newV
  split
  · rfl
  · first | rfl | (split <;> first | rfl | simp_all)
@[simp] theorem wpx_eStep (a : SE) (lo hi : SO) (k : Nat) (Q : RV → Mem → Prop) : (eStep a lo hi k cl r M).wpx E Q = (a cl r M).wpx E fun x M => (lo cl r M).wpx E fun l M => (hi cl r M).wpx E fun h M => lstV x M fun ds => Q (.o (.lst (pickS (sIx ds.length 0 l) k (ds.take (sIx ds.length ds.length h))))) M := by
  unfold eStep; rw [wpx_bind]; refine wpx_ext fun x M => ?_; rw [wpx_bind]; refine wpx_ext fun y M => ?_; rw [wpx_bind]; refine wpx_ext fun z M => ?_
  unfold lstV
  cases lstOf x M <;> rfl
@[simp] theorem wpx_eRev (a : SE) (Q : RV → Mem → Prop) : (eRev a cl r M).wpx E Q = (a cl r M).wpx E fun x M => lstV x M fun ds => Q (.o (.lst ds.reverse)) M := by
  unfold eRev; rw [wpx_bind]; refine wpx_ext fun x M => ?_
  unfold lstV
  cases lstOf x M <;> rfl
@[simp] theorem wpx_iRange2 (a b : SE) (Q : List D × Chk → Mem → Prop) : (iRange2 a b cl r M).wpx E Q = (a cl r M).wpx E fun x M => (b cl r M).wpx E fun y M => intV x fun i => intV y fun j => ((-(2 ^ 62) ≤ i ∧ i < 2 ^ 62) ∧ -(2 ^ 62) ≤ j ∧ j < 2 ^ 62) ∧ Q (rngD i (j - i).toNat, []) M := by
  unfold iRange2; rw [wpx_bind]; refine wpx_ext fun x M => ?_; rw [wpx_bind]; refine wpx_ext fun y M => ?_
  rcases x with (_ | _ | i | _ | _ | _ | _) | _ <;> rcases y with (_ | _ | j | _ | _ | _ | _) | _ <;> first | rfl | skip
  simp only [intV]
  rw [wpx_if_bad]; rfl
@[simp] theorem wpx_iRange3 (a b c : SE) (Q : List D × Chk → Mem → Prop) : (iRange3 a b c cl r M).wpx E Q = (a cl r M).wpx E fun x M => (b cl r M).wpx E fun y M => (c cl r M).wpx E fun z M => intV x fun i => intV y fun j => intV z fun c => (c ≠ 0 ∧ c.natAbs < 1000000) ∧ Q (rngC i c (rgN i j c), []) M := by
  unfold iRange3; rw [wpx_bind]; refine wpx_ext fun x M => ?_; rw [wpx_bind]; refine wpx_ext fun y M => ?_; rw [wpx_bind]; refine wpx_ext fun z M => ?_
  rcases x with (_ | _ | i | _ | _ | _ | _) | _ <;> rcases y with (_ | _ | j | _ | _ | _ | _) | _ <;> rcases z with (_ | _ | j | _ | _ | _ | _) | _ <;> first | rfl | skip
  simp only [intV]
  rw [wpx_if_bad]; rfl
end
end MI

namespace MI
open PySem (Str PyData)
section
variable {A B : Type} {cl : Cl} {r : Env} {M : Mem} {E : Str → Mem → Prop} {F : Str → Env → Mem → Prop} {N : Env → Mem → Prop} {R : RV → Mem → Prop}
@[simp] theorem wpx_sRaise (c : Str) : (sRaise c cl r M).wpx F N R = F c r M := nrfl rfl
@[simp] theorem wpx_eComp {elt : SE} {tst : STt} {tg : Tg} {own : List Nat} {it : SI} {Q : RV → Mem → Prop} :
    (eComp elt tst tg own it cl r M).wpx E Q = (it cl r M).wpx E fun p M => (compL (elt cl) (tst cl) tg p.2 (wipe r own) p.1 [] M).wpx E Q := by
  unfold eComp; rw [wpx_bind]
theorem wpx_run {F : Fn} {cl : Cl} {ds : List D} {M : Mem} {E : Str → Mem → Prop} {Q : RV → Mem → Prop} (hl : ds.length = F.ar)
    (h : (F.body cl (ds.map some ++ List.replicate (F.ns - ds.length) none) M).wpx (fun c r M' => (finS F.mode M (.err c r M')).wpx E Q) (fun _ M' => (fin F.mode M (.d .non) M').wpx E Q) (fun x M' => (fin F.mode M x M').wpx E Q)) : (F.run cl ds M).wpx E Q := by
  unfold Fn.run
  rw [if_pos hl]
  cases e : F.body cl (ds.map some ++ List.replicate (F.ns - ds.length) none) M with
  | nx r M' => rw [e] at h; exact h
  | ret x M' => rw [e] at h; exact h
  | err => rw [e] at h; exact h
  | bad => rw [e] at h; exact h.elim
@[simp] theorem finS_err (M l : Mem) (c : Str) (r : Env) : finS .pure M (.err c r (M ++ l)) = .err c M := by
  unfold finS; simp only [List.take_left, if_true]
@[simp] theorem finS_err0 (M : Mem) (c : Str) (r : Env) : finS .pure M (.err c r M) = .err c M := by
  unfold finS; simp only [List.take_length, if_true]
@[simp] theorem finS_errN (M : Mem) (c : Str) (r : Env) : finS .pure [] (.err c r M) = .err c [] := by
  unfold finS; simp
@[simp] theorem finS_errK (M M' : Mem) (c : Str) (r : Env) : finS .keep M (.err c r M') = .err c M' := nrfl rfl
/-- try: .. except .. as ..: -/
@[simp] theorem wp_sTry (i : Option Nat) (body : SS) (cat : Str → Bool) (suite : Str → SS) : (sTry i body cat suite cl r M).wp N R =
    (body cl r M).wpx (fun c r1 M1 => cat c = true ∧ (suite c cl (gone i r1) M1).wp (fun r2 M2 => N (gone i r2) M2) R) N R := by
  unfold sTry
  cases e : body cl r M with
  | err c r1 M1 =>
    simp only [SR.wpx]
    by_cases h : cat c = true
    · simp only [h, if_true, true_and]
      cases e2 : suite c cl (gone i r1) M1 <;> rfl
    · simp [h, SR.wp]
  | _ => rfl
/-- a loop that may raise -/
theorem forL_wpx {A : Type} (enc : A → D) {body : Env → Mem → SR} {tg : Tg} {c : Chk} (I : List A → Env → Mem → Prop)
    (h0 : ∀ r M, I [] r M → chkOk c M = true ∧ N r M)
    (hs : ∀ a l r M, I (a :: l) r M → chkOk c M = true ∧ envV (asg tg (enc a) r) fun r1 => (body r1 M).wpx F (fun r2 M2 => Kp (I l r2 M2)) R) :
    ∀ (l : List A) r M, I l r M → (forL body tg c (l.map enc) r M).wpx F N R
  | [], r, M, h => by
    obtain ⟨h1, h2⟩ := h0 r M h
    simp only [List.map_nil, forL, h1, if_true, SR.wpx]
    exact h2
  | a :: l, r, M, h => by
    obtain ⟨h1, h2⟩ := hs a l r M h
    simp only [List.map_cons, forL, h1, if_true]
    cases e : asg tg (enc a) r with
    | none => rw [e] at h2; exact h2.elim
    | some r1 =>
      rw [e] at h2
      simp only [envV] at h2
      simp only
      cases e2 : body r1 M with
      | nx r2 M2 => rw [e2] at h2; exact forL_wpx enc I h0 hs l r2 M2 h2
      | ret x M2 => rw [e2] at h2; exact h2
      | err => rw [e2] at h2; exact h2
      | bad => rw [e2] at h2; exact h2.elim
end
@[simp] theorem catX_def (exs : List Str) (x c : Str) : catX exs x c = (decide (c ∈ exs) && subX c x) := nrfl rfl
@[simp] theorem subX_def (c d : Str) : subX c d = (decide (c = d) || (decide (d = "HeldError") || decide (d = "ValueError"))) := nrfl rfl
theorem suSem_in {exs : List Str} {spec : List SuS} {c : Str} (h : c ∈ exs) : suSem exs spec c = suBody c spec := by unfold suSem; rw [if_pos h]
@[simp] theorem suBody_nil (c : Str) : suBody c [] = sNil := nrfl rfl
@[simp] theorem suBody_cons (c : Str) (s : SuS) (r : List SuS) : suBody c (s :: r) = sSeq (s.sem c) (suBody c r) := nrfl rfl
@[simp] theorem suS_lst (c : Str) (j : Nat) (its : List SuI) : (SuS.lst j false its).sem c = sSet j (eLst (suLst c its)) := nrfl rfl
@[simp] theorem suS_add (c : Str) (j : Nat) (its : List SuI) : (SuS.lst j true its).sem c = sSet j (e2 oAdd (eVar j) (eLst (suLst c its))) := nrfl rfl
@[simp] theorem suS_con (c : Str) (j : Nat) (b : Bool) : (SuS.con j b).sem c = sSet j (eC (.bl b)) := nrfl rfl
@[simp] theorem suS_one (c : Str) (j : Nat) (it : SuI) : (SuS.one j it).sem c = sSet j (it.sem c) := nrfl rfl
@[simp] theorem suLst_nil (c : Str) : suLst c [] = dNil := nrfl rfl
@[simp] theorem suLst_cons (c : Str) (s : SuI) (r : List SuI) : suLst c (s :: r) = dCons (s.sem c) (suLst c r) := nrfl rfl
@[simp] theorem suI_var (c : Str) (j : Nat) : (SuI.var j).sem c = eVar j := nrfl rfl
@[simp] theorem suI_isi (c : Str) (cs : List Str) : (SuI.isi false cs).sem c = eC (.bl (cs.any (subX c))) := nrfl rfl
@[simp] theorem suI_isn (c : Str) (cs : List Str) : (SuI.isi true cs).sem c = eC (.bl (!cs.any (subX c))) := nrfl rfl
@[simp] theorem gone_some (i : Nat) (r : Env) : gone (some i) r = r.set i none := nrfl rfl
@[simp] theorem gone_none (r : Env) : gone none r = r := nrfl rfl
end MI
end
section
set_option linter.all false
set_option autoImplicit false
namespace HW
open MI PySem
section
variable {T : Tab}
end
end HW
end
section
set_option linter.all false
set_option autoImplicit false
namespace HW
open MI PySem
section
variable {T : Tab}
end
end HW
end
section
set_option linter.all false
set_option autoImplicit false
namespace HW
abbrev Run := Option Int × Option Int
def ends : Bool → Option Int → List Int → List (Option Int)
  | true, low, l => low :: (l.map some ++ if l.length % 2 = 0 then [none] else [])
  | false, _, l => l.map some ++ if l.length % 2 = 1 then [none] else []
end HW
end
section
set_option linter.all false
set_option autoImplicit false
namespace MI
section
variable {M : Mem}
@[simp] theorem oSlice_o (ds : List D) (lo hi : Option Int) : oSlice (.o (.lst ds)) lo hi M = .ok (.o (.lst (cut ds lo hi))) M := nrfl rfl
@[simp] theorem mInsert_def (n : Nat) (i : Int) (d : D) : mInsert n (.int i) d M = match M[n]? with
    | some (.lst ds) => if 0 ≤ i ∧ i < 2 ^ 62 ∧ ds.length < lim then .ok (.d .non) (M.set n (.lst (ds.take i.toNat ++ [d] ++ ds.drop i.toNat))) else .bad
    | _ => .bad := nrfl rfl
@[simp] theorem oSlice_ro (ds : List D) (lo hi : Option Int) : oSlice (.d (.ro ds)) lo hi M = .ok (.o (.lst (cut ds lo hi))) M := nrfl rfl
@[simp] theorem oSlice_hdl (n : Nat) (lo hi : Option Int) : oSlice (.d (.hdl n)) lo hi M = match M[n]? with
    | some (.lst ds) => .ok (.o (.lst (cut ds lo hi))) M
    | _ => .bad := by
  show (match lstOf (.d (.hdl n)) M with | some ds => Res.ok (RV.o (.lst (cut ds lo hi))) M | none => .bad) = _
  rw [lstOf_hdl]; cases M[n]? with
  | none => rfl
  | some o => cases o <;> rfl
theorem isTy_hdl (t : Ty) (n : Nat) : isTy t (.d (.hdl n)) M = match M[n]? with
    | some (.lst _) => some (decide (t = .list))
    | some (.dic _ _) => some (decide (t = .dict))
    | _ => none := by cases t <;> rfl
@[simp] theorem bIsi_hdl (t : Ty) (n : Nat) : bIsi t (.d (.hdl n)) M = match M[n]? with
    | some (.lst _) => .ok (.d (.bl (decide (t = .list)))) M
    | some (.dic _ _) => .ok (.d (.bl (decide (t = .dict)))) M
    | _ => .bad := by
  unfold bIsi
  rw [isTy_hdl]
  cases M[n]? with
  | none => rfl
  | some o => cases o <;> rfl
end
end MI
namespace HW
open MI PySem
def encRun (r : Run) : D := .tup [encO r.1, encO r.2]
section
variable {T : Tab}
@[simp] theorem bels_runs (n : Nat) (rs : List Run) : D.bels n (rs.map encRun) = true := by
  induction rs with
  | nil => rfl
  | cons a rs ih =>
    obtain ⟨a, b⟩ := a
    cases a <;> cases b <;> simp [encRun, encO, ih]
@[simp] theorem deq_O (a b : Option Int) : deq (encO a) (encO b) = decide (a = b) := by
  cases a <;> cases b <;> simp [encO]
@[simp] theorem pl_O (n : Nat) (a : Option Int) : pl n (encO a) = true := by cases a <;> simp [encO]
end
end HW
end
section
set_option linter.all false
set_option autoImplicit false
namespace HW
open MI (sortI insI dedI)
abbrev Step := Int × Reach
abbrev Plot := Reach × List Step
def stp (t : Int) (here : Reach) (s : Step) : Reach := if s.1 ≤ t then s.2 else here
def atL (g : Reach) (ss : List Step) (t : Int) : Reach := ss.foldl (stp t) g
def atP (p : Plot) (t : Int) : Reach := atL p.1 p.2 t
def turnsOf (p : Plot) : List Int := p.2.map (·.1)
def Alt : Reach → List Step → Prop
  | _, [] => True
  | g, s :: r => s.2 ≠ g ∧ Alt s.2 r
structure POk (p : Plot) : Prop where
  g : Rising p.1.2
  ts : Rising (turnsOf p)
  rs : ∀ s ∈ p.2, Rising s.2.2
  alt : Alt p.1 p.2
theorem atL_cons (g : Reach) (s : Step) (r : List Step) (t : Int) : atL g (s :: r) t = if s.1 ≤ t then atL s.2 r t else atL g r t := by
  simp only [atL, List.foldl_cons, stp]; split <;> rfl
theorem atL_mem (g : Reach) (t : Int) : ∀ (ss : List Step), atL g ss t = g ∨ ∃ s ∈ ss, s.1 ≤ t ∧ atL g ss t = s.2
  | [] => .inl rfl
  | s :: r => by
    rw [atL_cons]
    split
    · rename_i h
      rcases atL_mem s.2 t r with q | ⟨x, hx, h1, q⟩
      · exact .inr ⟨s, List.mem_cons_self, h, q⟩
      · exact .inr ⟨x, List.mem_cons_of_mem _ hx, h1, q⟩
    · rcases atL_mem g t r with q | ⟨x, hx, h1, q⟩
      · exact .inl q
      · exact .inr ⟨x, List.mem_cons_of_mem _ hx, h1, q⟩
theorem atL_all {P : Reach → Prop} {g : Reach} {ss : List Step} (hg : P g) (h : ∀ s ∈ ss, P s.2) (t : Int) : P (atL g ss t) := by
  rcases atL_mem g t ss with q | ⟨s, hs, _, q⟩
  · rw [q]; exact hg
  · rw [q]; exact h s hs
def Sub (L : List Int) (r : Reach) : Prop := ∀ e ∈ r.2, e ∈ L
structure PSub (L : List Int) (p : Plot) : Prop where
  g : Sub L p.1
  rs : ∀ s ∈ p.2, Sub L s.2
theorem PSub.at {L : List Int} {p : Plot} (h : PSub L p) (t : Int) : Sub L (atP p t) := atL_all (P := Sub L) h.g h.rs t
end HW
end
section
set_option linter.all false
set_option autoImplicit false
namespace HW
open MI PySem
def encS (s : Step) : D := .tup [.int s.1, encR s.2]
def encP (p : Plot) : D := .tup [encR p.1, .tup (p.2.map encS)]
@[simp] theorem asg_S (is : List Nat) (s : Step) (r : MI.Env) : asg (.tp is) (encS s) r = setAll is [.int s.1, encR s.2] r := nrfl rfl
@[simp] theorem oIx_S0 (s : Step) (M : Mem) : oIx (.d (encS s)) (.d (.int 0)) M = .ok (.d (.int s.1)) M := oIx_t0 _ _
@[simp] theorem oIx_S1 (s : Step) (M : Mem) : oIx (.d (encS s)) (.d (.int 1)) M = .ok (.d (encR s.2)) M := oIx_t1 _ _ _
@[simp] theorem oIx_P0 (p : Plot) (M : Mem) : oIx (.d (encP p)) (.d (.int 0)) M = .ok (.d (encR p.1)) M := oIx_t0 _ _
@[simp] theorem oIx_P1 (p : Plot) (M : Mem) : oIx (.d (encP p)) (.d (.int 1)) M = .ok (.d (.tup (p.2.map encS))) M := oIx_t1 _ _ _
@[simp] theorem bel_S (n : Nat) (s : Step) : D.bel n (encS s) = true := by simp [encS]
theorem bels_mapT {A : Type} {enc : A → D} (n : Nat) (l : List A) (h : ∀ a, D.bel n (enc a) = true) : D.bels n (l.map enc) = true := by
  induction l with
  | nil => rfl
  | cons a l ih => simp [h, ih]
@[simp] theorem bels_S (n : Nat) (l : List Step) : D.bels n (l.map encS) = true := bels_mapT n l fun _ => bel_S _ _
@[simp] theorem bels_R (n : Nat) (l : List Reach) : D.bels n (l.map encR) = true := bels_mapT n l fun _ => bel_encR _ _
@[simp] theorem bel_P (n : Nat) (p : Plot) : D.bel n (encP p) = true := by simp [encP]
@[simp] theorem bels_P (n : Nat) (l : List Plot) : D.bels n (l.map encP) = true := bels_mapT n l fun _ => bel_P _ _
@[simp] theorem fin_P (M l : Mem) (p : Plot) : fin .pure M (.d (encP p)) (M ++ l) = .ok (.d (encP p)) M := by
  show fin .pure M (.d (.tup _)) (M ++ l) = _
  rw [fin_tup]; simp [encP]
@[simp] theorem fin_P0 (M : Mem) (p : Plot) : fin .pure M (.d (encP p)) M = .ok (.d (encP p)) M := by
  have := fin_P M [] p
  rwa [List.append_nil] at this
@[simp] theorem deq_S (a b : Step) : deq (encS a) (encS b) = decide (a = b) := by
  obtain ⟨a1, a2⟩ := a
  obtain ⟨b1, b2⟩ := b
  simp only [encS, deq_tup, deqs_cons, deq_int, deq_R, deqs_nil, Bool.and_true, Prod.mk.injEq, Bool.decide_and]
theorem pl_S (n : Nat) (s : Step) : pl (n + 3) (encS s) = true := by simp [encS, pl_R]
@[simp] theorem deqs_S (a b : List Step) : deqs (a.map encS) (b.map encS) = decide (a = b) := deqs_map deq_S a b
@[simp] theorem deq_P (a b : Plot) : deq (encP a) (encP b) = decide (a = b) := by
  obtain ⟨a1, a2⟩ := a
  obtain ⟨b1, b2⟩ := b
  simp only [encP, deq_tup, deqs_cons, deq_R, deqs_S, deqs_nil, Bool.and_true, Prod.mk.injEq, Bool.decide_and]
theorem pl_P (n : Nat) (p : Plot) : pl (n + 5) (encP p) = true := by
  have : pls (n + 3) (p.2.map encS) = true := pls_map fun _ _ => pl_S _ _
  simp [encP, pl_R, this]
@[simp] theorem oEq_P (a b : Plot) (M : Mem) : oEq (.d (encP a)) (.d (encP b)) M = .ok (.d (.bl (decide (a = b)))) M := by rw [oEq_d (pl_P 11 a) (pl_P 11 b), deq_P]
@[simp] theorem oNe_P (a b : Plot) (M : Mem) : oNe (.d (encP a)) (.d (encP b)) M = .ok (.d (.bl (!decide (a = b)))) M := by rw [oNe_d (pl_P 11 a) (pl_P 11 b), deq_P]
@[simp] theorem bIsi_P (t : Ty) (r : Plot) (M : Mem) : bIsi t (.d (encP r)) M = .ok (.d (.bl (decide (t = .tuple)))) M := bIsi_tup t _
@[simp] theorem bIsi_S (t : Ty) (r : Step) (M : Mem) : bIsi t (.d (encS r)) M = .ok (.d (.bl (decide (t = .tuple)))) M := bIsi_tup t _
@[simp] theorem bLen_P (r : Plot) (M : Mem) : bLen (.d (encP r)) M = .ok (.d (.int 2)) M := bLen_tup _
@[simp] theorem bLen_S (r : Step) (M : Mem) : bLen (.d (encS r)) M = .ok (.d (.int 2)) M := bLen_tup _
section
variable {T : Tab}
end
end HW
end
section
set_option linter.all false
set_option autoImplicit false
namespace HW
open MI PySem
def line (spread low : Int) : List Int := (List.range 6).map fun k : Nat => low + ((k : Int) - 2) * spread
@[simp] theorem pickSlice {ns : List Int} (lo hi : Option Int) : cut (ns.map D.int) lo hi = (cut ns lo hi).map D.int := by
  unfold cut; simp [List.map_drop, List.map_take]
section
variable {T : Tab}
end
end HW
end
section
set_option linter.all false
set_option autoImplicit false
namespace MI
section
variable {M : Mem}
@[simp] theorem bMax1_hdl (n : Nat) : bMax1 (.d (.hdl n)) M = match M[n]? with
    | some (.lst ds) => match asInts ds with
      | some (n :: ns) => .ok (.d (.int (maxL n ns))) M
      | _ => .bad
    | _ => .bad := by
  unfold bMax1; rw [lstOf_hdl]; cases M[n]? with
  | none => rfl
  | some o => cases o <;> rfl
@[simp] theorem bMin1_hdl (n : Nat) : bMin1 (.d (.hdl n)) M = match M[n]? with
    | some (.lst ds) => match asInts ds with
      | some (n :: ns) => .ok (.d (.int (minL n ns))) M
      | _ => .bad
    | _ => .bad := by
  unfold bMin1; rw [show seqOf (.d (.hdl n)) M = lstOf (.d (.hdl n)) M from rfl, lstOf_hdl]; cases M[n]? with
  | none => rfl
  | some o => cases o <;> rfl
end
end MI
namespace HW
open MI PySem
section
variable {T : Tab}
end
end HW
end
section
set_option linter.all false
set_option autoImplicit false
namespace HW
open MI PySem
section
variable {T : Tab}
end
end HW
end
section
set_option linter.all false
set_option autoImplicit false
namespace HW
open MI PySem
section
variable {T : Tab}
end
end HW
end
section
set_option linter.all false
set_option autoImplicit false
namespace HW
open MI PySem
section
variable {T : Tab}
end
end HW
end
section
set_option linter.all false
set_option autoImplicit false
namespace MI
@[simp] theorem mClear_def (n : Nat) (M : Mem) : mClear n M = match M[n]? with
    | some (.lst _) => .ok (.d .non) (M.set n (.lst []))
    | _ => .bad := nrfl rfl
end MI
namespace HW
open MI PySem
section
variable {T : Tab}
end
end HW
end
section
set_option linter.all false
set_option autoImplicit false
namespace MI
section
variable {M : Mem}
@[simp] theorem lstV_hdl (n : Nat) (Q : List D → Prop) : lstV (.d (.hdl n)) M Q = match M[n]? with
    | some (.lst ds) => Q ds
    | _ => False := by
  unfold lstV; rw [lstOf_hdl]; cases M[n]? with
  | none => rfl
  | some o => cases o <;> rfl
end
end MI
namespace HW
open MI PySem
section
variable {T : Tab}
end
end HW
end
section
set_option linter.all false
set_option autoImplicit false
namespace HW
open MI PySem
section
variable {T : Tab}
end
end HW
end
section
set_option linter.all false
set_option autoImplicit false
namespace HW
open MI PySem
mutual
/-- every handle within is of a list or a dict -/
def kAll (M : Mem) : D → Prop
  | .hdl n => (∃ ds, M[n]? = some (.lst ds)) ∨ ∃ kvs, M[n]? = some (.dic false kvs)
  | .tup ds => kAlls M ds
  | _ => True
def kAlls (M : Mem) : List D → Prop
  | [] => True
  | d :: ds => kAll M d ∧ kAlls M ds
end
mutual
theorem kAll_mono {M : Mem} (l : Mem) : ∀ {d : D}, kAll M d → kAll (M ++ l) d
  | .non, _ => by simp [kAll]
  | .bl _, _ => by simp [kAll]
  | .int _, _ => by simp [kAll]
  | .str _, _ => by simp [kAll]
  | .ro _, _ => by simp [kAll]
  | .hdl n, h => by
    simp only [kAll] at h ⊢
    rcases h with ⟨ds, h⟩ | ⟨ds, h⟩
    · exact .inl ⟨ds, get_ahead h⟩
    · exact .inr ⟨ds, get_ahead h⟩
  | .tup ds, h => by
    simp only [kAll] at h ⊢
    exact kAlls_mono l h
theorem kAlls_mono {M : Mem} (l : Mem) : ∀ {ds : List D}, kAlls M ds → kAlls (M ++ l) ds
  | [], _ => by simp [kAlls]
  | d :: ds, h => by
    simp only [kAlls] at h ⊢
    exact ⟨kAll_mono l h.1, kAlls_mono l h.2⟩
end
section
variable {T : Tab}
end
end HW
end
section
set_option linter.all false
set_option autoImplicit false
namespace HW
open MI PySem
mutual
/-- no tuple within is too long -/
def shortD : D → Prop
  | .tup ds => ds.length ≤ 1000000 ∧ shortDs ds
  | _ => True
def shortDs : List D → Prop
  | [] => True
  | d :: ds => shortD d ∧ shortDs ds
end
section
variable {T : Tab}
end
end HW
end
section
set_option linter.all false
set_option autoImplicit false
namespace MI
@[simp] theorem fin_keep (M0 M : Mem) (x : RV) : fin .keep M0 x M = .ok x M := nrfl rfl
section
variable {M : Mem} {b : Bool}
@[simp] theorem bInt_bl : bInt (.d (.bl b)) M = .ok (.d (.int (if b then 1 else 0))) M := nrfl rfl
@[simp] theorem bInt_int (i : Int) : bInt (.d (.int i)) M = .ok (.d (.int i)) M := nrfl rfl
@[simp] theorem bStr_int (i : Int) : bStr (.d (.int i)) M = if i.natAbs.log2 < 1920 then .ok (.d (.str (PySem.Str.ofString (toString i)))) M else .bad := nrfl rfl
end
end MI
namespace HW
open MI PySem
def vldH (M : Mem) (n : Nat) : Prop := (∃ ds, M[n]? = some (.lst ds)) ∨ ∃ kvs, M[n]? = some (.dic false kvs)
mutual
theorem kAll_to {M M' : Mem} (hv : ∀ n, vldH M n → vldH M' n) : ∀ {d : D}, kAll M d → kAll M' d
  | .non, _ => by simp [kAll]
  | .bl _, _ => by simp [kAll]
  | .int _, _ => by simp [kAll]
  | .str _, _ => by simp [kAll]
  | .ro _, _ => by simp [kAll]
  | .hdl n, h => by
    simp only [kAll] at h ⊢
    exact hv n h
  | .tup ds, h => by
    simp only [kAll] at h ⊢
    exact kAlls_to hv h
theorem kAlls_to {M M' : Mem} (hv : ∀ n, vldH M n → vldH M' n) : ∀ {ds : List D}, kAlls M ds → kAlls M' ds
  | [], _ => by simp [kAlls]
  | d :: ds, h => by
    simp only [kAlls] at h ⊢
    exact ⟨kAll_to hv h.1, kAlls_to hv h.2⟩
end
section
variable {T : Tab}
end
end HW
end
section
set_option linter.all false
set_option autoImplicit false
namespace MI
open PySem (Str PyData)
@[simp] theorem strL_tl (l : List Nat) : (strL l).cps.toList = l := nrfl rfl
@[simp] theorem strL_size (l : List Nat) : (strL l).cps.size = l.length := by simp [strL]
@[simp] theorem strL_len (l : List Nat) : (strL l).length = l.length := by simp [strL, Str.length]
theorem strL_of (s : Str) : s = strL s.cps.toList := by cases s; simp [strL]
theorem strL_inj {a b : List Nat} : strL a = strL b ↔ a = b := ⟨fun h => by rw [← strL_tl a, h, strL_tl], fun h => by rw [h]⟩
@[simp] theorem strL_eq_iff (a b : List Nat) : (strL a = strL b) = (a = b) := propext strL_inj
theorem lit (s : String) : Str.ofString s = strL (s.toList.map Char.toNat) := by rw [Str.ofString_eq_toList]; rfl
def okL (l : List Nat) : Bool := l.all (· < 0x110000)
@[simp] theorem okS_strL (l : List Nat) : okS (strL l) = okL l := by unfold okS okL strL; simp
@[simp] theorem okL_nil : okL [] = true := nrfl rfl
@[simp] theorem okL_cons (c : Nat) (l : List Nat) : okL (c :: l) = (decide (c < 0x110000) && okL l) := nrfl rfl
@[simp] theorem okL_app (a b : List Nat) : okL (a ++ b) = (okL a && okL b) := by unfold okL; rw [List.all_append]
theorem okL_of {l : List Nat} (h : ∀ c ∈ l, c < 0x110000) : okL l = true := List.all_eq_true.mpr fun c hc => decide_eq_true (h c hc)
section
variable {M : Mem}
theorem strD_strL (l : List Nat) : strD (strL l) = l.map fun c => D.str (strL [c]) := nrfl rfl
@[simp] theorem bLen_strL (l : List Nat) : bLen (.d (.str (strL l))) M = if l.length ≤ lim then .ok (.d (.int l.length)) M else .bad := by
  show (if (strL l).length ≤ lim then vI (strL l).length M else .bad) = _
  rw [strL_len]; rfl
@[simp] theorem oAdd_strL (a b : List Nat) : oAdd (.d (.str (strL a))) (.d (.str (strL b))) M = if a.length + b.length ≤ lim then .ok (.d (.str (strL (a ++ b)))) M else .bad := by
  show (if (strL a).length + (strL b).length ≤ lim then Res.ok (RV.d (.str (strL a ++ strL b))) M else .bad) = _
  rw [strL_len, strL_len]
  have : strL a ++ strL b = strL (a ++ b) := by
    rw [strL_of (strL a ++ strL b)]
    congr 1
    show ((strL a).cps ++ (strL b).cps).toList = _
    simp
  rw [this]
@[simp] theorem oSlice_strL (l : List Nat) (lo hi : Option Int) : oSlice (.d (.str (strL l))) lo hi M = if l.length ≤ lim then .ok (.d (.str (strL (cut l lo hi)))) M else .bad := by
  show (if (strL l).length ≤ lim then Res.ok (RV.d (.str ⟨(cut (strL l).cps.toList lo hi).toArray⟩)) M else .bad) = _
  rw [strL_len, strL_tl]; rfl
theorem oIx_strL {l : List Nat} {i : Int} {j : Nat} {c : Nat} (hl : l.length ≤ lim) (h : ixN l.length i = some j) (hc : l[j]? = some c) : oIx (.d (.str (strL l))) (.d (.int i)) M = .ok (.d (.str (strL [c]))) M := by
  show (if (strL l).length ≤ lim then match ixN (strL l).cps.size i with
      | some j => match (strL l).cps[j]? with
        | some c => Res.ok (RV.d (.str ⟨#[c]⟩)) M
        | none => .bad
      | none => .bad
    else .bad) = _
  rw [strL_len, strL_size, if_pos hl, h]
  have : (strL l).cps[j]? = some c := by rw [← Array.getElem?_toList, strL_tl]; exact hc
  simp only [this]
  rfl
theorem oEq_strL {a b : List Nat} (ha : okL a = true) (hb : okL b = true) : oEq (.d (.str (strL a))) (.d (.str (strL b))) M = .ok (.d (.bl (decide (a = b)))) M := by
  rw [oEq_str, okS_strL, okS_strL, if_pos ⟨ha, hb⟩]; simp
theorem oNe_strL {a b : List Nat} (ha : okL a = true) (hb : okL b = true) : oNe (.d (.str (strL a))) (.d (.str (strL b))) M = .ok (.d (.bl (!decide (a = b)))) M := by
  have e : ∀ s : Str, derR (.d (.str s)) M = if okS s = true then some (.str s) else none := fun s => rfl
  rw [oNe_of (by rw [e, okS_strL, if_pos ha]) (by rw [e, okS_strL, if_pos hb])]
  show Res.ok (RV.d (.bl (!(strL a == strL b)))) M = _
  congr 4
  rw [Bool.eq_iff_iff, beq_iff_eq, decide_eq_true_eq, strL_inj]
@[simp] theorem oIn_sign (c : Nat) (l : List Nat) : oIn (.d (.str (strL [c]))) (.d (.str (strL l))) M = .ok (.d (.bl (decide (c ∈ l)))) M := nrfl rfl
@[simp] theorem oNotIn_sign (c : Nat) (l : List Nat) : oNotIn (.d (.str (strL [c]))) (.d (.str (strL l))) M = .ok (.d (.bl (!decide (c ∈ l)))) M := nrfl rfl
theorem bInt_strL {l : List Nat} {n : Int} (hl : l.length ≤ 640) (h : intL l = some n) : bInt (.d (.str (strL l))) M = .ok (.d (.int n)) M := by
  show (if (strL l).length ≤ 640 then match intL (strL l).cps.toList with
    | some n => vI n M
    | none => .bad else .bad) = _
  rw [strL_len, if_pos hl, strL_tl, h]; rfl
@[simp] theorem truR_strL (l : List Nat) : truR (.d (.str (strL l))) M = if l.length ≤ lim then some (!l.isEmpty) else none := by
  show (if (strL l).length ≤ lim then some (((strL l).length : Int) != 0) else none) = _
  rw [strL_len]
  cases l with
  | nil => rfl
  | cons c r =>
    have : (((c :: r).length : Int) != 0) = true := by rw [bne_iff_ne, List.length_cons]; omega
    rw [this]; rfl
end
theorem intL_c (c : Nat) (r : List Nat) : intL (c :: r) = if c = 45 then (if allFig r = true then some (-(figs r : Int)) else none) else if allFig (c :: r) = true then some (figs (c :: r) : Int) else none := rfl
end MI
end
section
set_option linter.all false
set_option autoImplicit false
namespace HW
open MI PySem
def FIG : List Nat := [48, 49, 50, 51, 52, 53, 54, 55, 56, 57]
theorem mem_FIG (c : Nat) : c ∈ FIG ↔ 48 ≤ c ∧ c ≤ 57 := by simp [FIG]; omega
/-- a whole number's signs -/
def numZ (n : Int) : List Nat := if n < 0 then 45 :: TL.numL n.natAbs else TL.numL n.natAbs
theorem numZ_nat (n : Nat) : numZ (n : Int) = TL.numL n := by unfold numZ; rw [if_neg (by omega)]; rfl
theorem str_numZ (n : Int) : Str.ofString (toString n) = strL (numZ n) := by
  cases n with
  | ofNat m =>
    have h := TL.tl_num m
    show Str.ofString (toString ((m : Nat) : Int)) = strL (numZ ((m : Nat) : Int))
    rw [numZ_nat, ← h]
    exact strL_of _
  | negSucc m =>
    have h := TL.tl_num (m + 1)
    have e : toString (Int.negSucc m) = "-" ++ toString ((m + 1 : Nat) : Int) := rfl
    unfold numZ
    rw [if_pos (Int.negSucc_lt_zero m), e, lit, String.toList_append, List.map_append]
    congr 1
    have h2 := TL.tl_ofString (toString ((m + 1 : Nat) : Int))
    rw [← h2, h]
    rfl
theorem numL_fig {n c : Nat} (h : c ∈ TL.numL n) : 48 ≤ c ∧ c ≤ 57 := TL.numL_digits n c h
theorem numL_okL (n : Nat) : okL (TL.numL n) = true := okL_of fun c hc => by have := numL_fig hc; omega
theorem numZ_okL (n : Int) : okL (numZ n) = true := by
  unfold numZ
  split
  · simp [numL_okL]
  · exact numL_okL _
theorem numL_pos (n : Nat) : 0 < (TL.numL n).length := List.length_pos_iff.mpr (TL.numL_ne n)
theorem numL_head {n : Nat} (h : 0 < n) : (TL.numL n).head? ≠ some 48 := by
  induction n using Nat.strongRecOn with
  | ind n ih =>
    by_cases h1 : n < 10
    · rw [TL.numL_lt h1]; simp; omega
    · rw [TL.numL_step (by omega), List.head?_append]
      have := ih (n / 10) (by omega) (by omega)
      cases e : (TL.numL (n / 10)).head? with
      | none => rw [List.head?_eq_none_iff] at e; exact absurd e (TL.numL_ne _)
      | some c => rw [e] at this; simpa using this
theorem natAbs_lt {n : Int} {m : Nat} (h : n.natAbs < 10 ^ m) (hm : 0 < m) : (TL.numL n.natAbs).length ≤ m := TL.numL_len hm h
theorem figs_numL (n : Nat) : figs (TL.numL n) = n := TL.numL_val n
theorem allFig_numL (n : Nat) : allFig (TL.numL n) = true := by
  unfold allFig
  rw [Bool.and_eq_true]
  refine ⟨by have := TL.numL_ne n; cases e : TL.numL n with
    | nil => exact absurd e this
    | cons => rfl, List.all_eq_true.mpr fun c hc => decide_eq_true (numL_fig hc)⟩
def figP (l : List Nat) : List Nat := if l.take 1 = [45] then l.drop 1 else l
def readL (l : List Nat) : Option Int :=
  if (figP l).length < 1 ∨ 60 < (figP l).length then none
  else if (figP l).all (fun c => decide (c ∈ FIG)) = false then none
  else if (figP l).head? = some 48 ∧ l ≠ [48] then none
  else intL l
theorem intL_figP {l : List Nat} (h : allFig (figP l) = true) : ∃ v, intL l = some v := by
  cases l with
  | nil => exact absurd h (by decide)
  | cons c r =>
    unfold figP at h
    by_cases hc : c = 45
    · subst hc
      simp at h
      exact ⟨_, by rw [intL_c, if_pos rfl, if_pos h]⟩
    · simp [hc] at h
      exact ⟨_, by rw [intL_c, if_neg hc, if_pos h]⟩
theorem readL_numZ {n : Int} (h : n.natAbs < 10 ^ 60) : readL (numZ n) = some n := by
  have hlen := natAbs_lt h (by decide)
  have hpos := numL_pos n.natAbs
  have hf : figP (numZ n) = TL.numL n.natAbs := by
    unfold figP numZ
    split
    · simp
    · rw [if_neg]
      intro e
      cases e2 : TL.numL n.natAbs with
      | nil => exact TL.numL_ne _ e2
      | cons c r =>
        rw [e2] at e
        simp at e
        have := numL_fig (n := n.natAbs) (c := c) (by rw [e2]; exact List.mem_cons_self)
        omega
  unfold readL
  rw [hf, if_neg (by omega), if_neg (by
    rw [Bool.not_eq_false, List.all_eq_true]
    exact fun c hc => decide_eq_true ((mem_FIG c).mpr (numL_fig hc)))]
  rw [if_neg (by
    rintro ⟨h1, h2⟩
    by_cases h0 : n = 0
    · subst h0; exact h2 (by decide)
    · exact numL_head (by omega) h1)]
  unfold numZ
  split
  · rename_i hn
    rw [intL_c, if_pos rfl, if_pos (allFig_numL _), figs_numL]
    congr 1; omega
  · rename_i hn
    cases e2 : TL.numL n.natAbs with
    | nil => exact absurd e2 (TL.numL_ne _)
    | cons c r =>
      have hc := numL_fig (n := n.natAbs) (c := c) (by rw [e2]; exact List.mem_cons_self)
      rw [intL_c, if_neg (by omega), ← e2, if_pos (allFig_numL _), figs_numL]
      congr 1; omega
section
variable {T : Tab}
theorem read_number_run [i : HasF T "read_number" F_read_number] (n : Nat) (l : List Nat) (h : okL l = true) (hl : l.length ≤ lim) (M : Mem) : run T (n + 1) "read_number" [.str (strL l)] M = match readL l with
    | some v => .ok (.d (.int v)) M
    | none => .err "NoText" M := by
  have e45 : Str.ofString "-" = strL [45] := by rw [lit]; rfl
  have e48 : Str.ofString "0" = strL [48] := by rw [lit]; rfl
  have eF : Str.ofString "0123456789" = strL FIG := by rw [lit]; rfl
  have key : (run T (n + 1) "read_number" [.str (strL l)] M).wpx (fun c M' => readL l = none ∧ c = "NoText" ∧ M' = M) (fun x M' => ∃ v, readL l = some v ∧ x = .d (.int v) ∧ M' = M) := by
    rw [run_has i]
    refine wpx_run rfl ?_
    simp [F_read_number, b_read_number, hl]
    rw [e45, cut_to l (by decide), cut_from l (by decide), show (1 : Int).toNat = 1 from rfl]
    have ok1 : okL (l.take 1) = true := List.all_eq_true.mpr fun c hc => List.all_eq_true.mp h c (List.mem_of_mem_take hc)
    refine ⟨ok1, ?_⟩
    have fin0 : ∀ (x : RV), fin .pure M x M = fin .pure M x (M ++ []) := fun x => by rw [List.append_nil]
    -- the figures
    have rest : ∀ f : List Nat, f = figP l → okL f = true → f.length ≤ lim → (if (f.length : Int) < 1 then readL l = none
        else f.length ≤ lim ∧ if (60 : Int) < (f.length : Int) then readL l = none else
          (forL (sIf (tB (MI.e2 oNotIn (eVar 2) (eC (D.str (Str.ofString "0123456789"))))) (sRaise (Str.ofString "NoText")) sNil (run T n)) (Tg.nm 2) (chkR (RV.d (D.str (strL f))) M) (strD (strL f)) [some (D.str (strL l)), some (D.str (strL f)), none] M).wpx
            (fun c r M' => (finS Mode.pure M (SR.err c r M')).wpx (fun c M' => readL l = none ∧ c = Str.ofString "NoText" ∧ M' = M) fun x M' => ∃ v, readL l = some v ∧ x = RV.d (D.int v) ∧ M' = M)
            (fun r M_1 => (sSeq (sIf (tAnd (tB (MI.e2 oEq (MI.e2 oIx (eVar 1) (eC (D.int 0))) (eC (D.str (Str.ofString "0"))))) (tB (MI.e2 oNe (eVar 0) (eC (D.str (Str.ofString "0")))))) (sRaise (Str.ofString "NoText")) sNil) (sRet (e1 bInt (eVar 0))) (run T n) r M_1).wpx
                (fun c r M' => (finS Mode.pure M (SR.err c r M')).wpx (fun c M' => readL l = none ∧ c = Str.ofString "NoText" ∧ M' = M) fun x M' => ∃ v, readL l = some v ∧ x = RV.d (D.int v) ∧ M' = M)
                (fun x M' => (fin Mode.pure M (RV.d D.non) M').wpx (fun c M' => readL l = none ∧ c = Str.ofString "NoText" ∧ M' = M) fun x M' => ∃ v, readL l = some v ∧ x = RV.d (D.int v) ∧ M' = M)
                fun x M' => (fin Mode.pure M x M').wpx (fun c M' => readL l = none ∧ c = Str.ofString "NoText" ∧ M' = M) fun x M' => ∃ v, readL l = some v ∧ x = RV.d (D.int v) ∧ M' = M)
            fun x M' => (fin Mode.pure M x M').wpx (fun c M' => readL l = none ∧ c = Str.ofString "NoText" ∧ M' = M) fun x M' => ∃ v, readL l = some v ∧ x = RV.d (D.int v) ∧ M' = M) := fun f hf ok hfl => by
      split
      · unfold readL; rw [← hf, if_pos (.inl (by omega))]
      · rename_i h1
        refine ⟨hfl, ?_⟩
        split
        · unfold readL; rw [← hf, if_pos (.inr (by omega))]
        · rename_i h2
          rw [strD_strL]
          have no : ∀ c, c ∈ f → c ∉ FIG → readL l = none := fun c hc hn => by
            unfold readL
            rw [← hf, if_neg (by omega), if_pos]
            rw [List.all_eq_false]
            exact ⟨c, hc, by simpa using hn⟩
          refine forL_wpx (fun c => D.str (strL [c])) (I := fun (rest : List Nat) r M' => M' = M ∧ (∃ x, r = [some (D.str (strL l)), some (D.str (strL f)), x]) ∧ ∃ pre, f = pre ++ rest ∧ ∀ c ∈ pre, c ∈ FIG) ?_ ?_ f _ _ ⟨rfl, ⟨none, rfl⟩, [], rfl, fun _ h => nomatch h⟩
          · rintro r M' ⟨rfl, ⟨x, rfl⟩, pre, e, hp⟩
            rw [List.append_nil] at e
            subst e
            refine ⟨rfl, ?_⟩
            cases f with
            | nil => exact absurd (show ((0 : Nat) : Int) < 1 by decide) h1
            | cons c r =>
              have ix : oIx (.d (.str (strL (c :: r)))) (.d (.int 0)) M' = .ok (.d (.str (strL [c]))) M' := oIx_strL hfl (ixN_pos (Int.le_refl 0) (by simp)) rfl
              have okc : okL [c] = true := by
                have := List.all_eq_true.mp ok c List.mem_cons_self
                simpa using this
              have hall : (c :: r).all (fun c => decide (c ∈ FIG)) = true := List.all_eq_true.mpr fun c hc => decide_eq_true (hp c hc)
              have q1 := oEq_strL (M := M') okc (show okL [48] = true by decide)
              have q2 := oNe_strL (M := M') h (show okL [48] = true by decide)
              have hr : readL l = if (c = 48 ∧ l ≠ [48]) then none else intL l := by
                unfold readL
                rw [← hf, if_neg (by omega), if_neg (by rw [hall]; decide)]
                simp
              have alf : allFig (figP l) = true := by
                rw [← hf]; unfold allFig
                rw [Bool.and_eq_true]
                exact ⟨rfl, List.all_eq_true.mpr fun c hc => decide_eq_true ((mem_FIG c).mp (hp c hc))⟩
              obtain ⟨v, hv⟩ := intL_figP alf
              have l640 : l.length ≤ 640 := by
                have : l.length ≤ (figP l).length + 1 := by unfold figP; split <;> simp <;> omega
                rw [← hf] at this
                simp at h2 this ⊢ <;> omega
              simp [ix]
              rw [e48]
              refine ⟨by simpa using okc, ?_⟩
              rw [q2]
              by_cases hc : c = 48
              · rw [if_pos (by rw [hc])]
                by_cases hl48 : l = [48]
                · simp [hl48]
                  rw [hl48] at hv hr l640
                  rw [bInt_strL l640 hv]
                  have hv' : readL [48] = some v := by rw [hr, if_neg (by simp), hv]
                  simp [fin_d0 (M := M') (x := .int v) rfl nofun]
                  rw [hl48]; exact hv'
                · have : readL l = none := by rw [hr, if_pos ⟨hc, hl48⟩]
                  simp [hl48, this]
              · rw [if_neg (by simpa using hc)]
                have : readL l = some v := by rw [hr, if_neg (by simp [hc]), hv]
                rw [bInt_strL l640 hv]
                simp [fin_d0 (M := M') (x := .int v) rfl nofun]
                exact this
          · rintro c rr r M' ⟨rfl, ⟨x, rfl⟩, pre, e, hp⟩
            refine ⟨rfl, ?_⟩
            simp
            rw [eF]
            simp
            by_cases hc : c ∈ FIG
            · rw [if_pos hc]
              exact ⟨rfl, ⟨_, rfl⟩, pre ++ [c], by rw [e]; simp, fun y hy => by
                rcases List.mem_append.mp hy with hy | hy
                · exact hp y hy
                · rw [List.mem_singleton.mp hy]; exact hc⟩
            · rw [if_neg hc]
              exact no c (by rw [e]; simp) hc
    by_cases hm : l.take 1 = [45]
    · rw [hm, if_pos rfl]
      have hf : l.drop 1 = figP l := by unfold figP; rw [if_pos hm]
      have okd : okL (l.drop 1) = true := List.all_eq_true.mpr fun c hc => List.all_eq_true.mp h c (List.mem_of_mem_drop hc)
      have hdl : (l.drop 1).length ≤ lim := by rw [List.length_drop]; omega
      refine ⟨hdl, ?_⟩
      exact rest _ hf okd hdl
    · rw [if_neg (by simpa using hm)]
      have hf : l = figP l := by unfold figP; rw [if_neg hm]
      have := rest l hf h hl
      simpa [hl] using this
  rcases Res.wpx_ex key with ⟨a, M', e, v, h1, rfl, rfl⟩ | ⟨c, M', e, h1, rfl, rfl⟩
  · rw [e, h1]
  · rw [e, h1]
end
end HW
end
section
set_option linter.all false
set_option autoImplicit false
namespace HW
open MI PySem
theorem e_nil : Str.ofString "" = strL [] := by rw [lit]; rfl
theorem e_minus : Str.ofString "-" = strL [45] := by rw [lit]; rfl
theorem e_zero : Str.ofString "0" = strL [48] := by rw [lit]; rfl
theorem e_FIG : Str.ofString "0123456789" = strL FIG := by rw [lit]; rfl
theorem bStr_60 {M : Mem} {z : Int} (h : z.natAbs < 10 ^ 60) : bStr (.d (.int z)) M = .ok (.d (.str (strL (numZ z)))) M := by
  have hl : z.natAbs.log2 < 1920 := by
    by_cases h0 : z.natAbs = 0
    · rw [h0]; decide
    · exact (Nat.log2_lt h0).mpr (Nat.lt_of_lt_of_le h (Nat.le_trans (show 10 ^ 60 ≤ 2 ^ 250 by decide) (Nat.pow_le_pow_right (by decide) (by decide))))
  show (if z.natAbs.log2 < 1920 then Res.ok (RV.d (.str (Str.ofString (toString z)))) M else .bad) = _
  rw [if_pos hl, str_numZ]
section
variable {T : Tab}
end
end HW
end
section
set_option linter.all false
set_option autoImplicit false
namespace HW
open MI PySem
theorem okL_take {l : List Nat} (h : okL l = true) (n : Nat) : okL (l.take n) = true := List.all_eq_true.mpr fun c hc => List.all_eq_true.mp h c (List.mem_of_mem_take hc)
theorem okL_drop {l : List Nat} (h : okL l = true) (n : Nat) : okL (l.drop n) = true := List.all_eq_true.mpr fun c hc => List.all_eq_true.mp h c (List.mem_of_mem_drop hc)
theorem readL_some {l : List Nat} (h : ¬((figP l).length < 1 ∨ 60 < (figP l).length)) (h2 : (figP l).all (fun c => decide (c ∈ FIG)) = true) (h3 : ¬((figP l).head? = some 48 ∧ l ≠ [48])) : ∃ v, intL l = some v ∧ readL l = some v ∧ l.length ≤ 640 := by
  have alf : allFig (figP l) = true := by
    unfold allFig
    rw [Bool.and_eq_true]
    refine ⟨by cases e : figP l with
      | nil => rw [e] at h; exact absurd (.inl (by decide)) h
      | cons => rfl, List.all_eq_true.mpr fun c hc => decide_eq_true ((mem_FIG c).mp (of_decide_eq_true (List.all_eq_true.mp h2 c hc)))⟩
  obtain ⟨v, hv⟩ := intL_figP alf
  refine ⟨v, hv, ?_, ?_⟩
  · unfold readL; rw [if_neg h, if_neg (by rw [h2]; decide), if_neg h3, hv]
  · have : l.length ≤ (figP l).length + 1 := by unfold figP; split <;> simp <;> omega
    omega
/-- what the law reads -/
def encN (o : Option Int) : D := match o with
  | some v => .int v
  | none => .non
section
variable {T : Tab}
theorem law_read_run [i : HasF T "_law_read" F__law_read] (n : Nat) (l : List Nat) (h : okL l = true) (hl : l.length ≤ 1000000) (M : Mem) : run T (n + 1) "_law_read" [.str (strL l)] M = .ok (.d (encN (readL l))) M := by
  have hlim := lim_big
  have hl' : l.length ≤ lim := by omega
  rw [run_has i, ← Res.wp_eq]
  refine wp_run rfl ?_
  obtain ⟨tl, htl⟩ : ∃ s : SS, s = sSeq (sIf (tOr (tB (MI.e2 oLt (e1 bLen (eVar 1)) (eC (D.int 1)))) (tOr (tB (MI.e2 oGt (e1 bLen (eVar 1)) (eC (D.int 60)))) (tB (MI.e2 oNe (eComp (eVar 2) (tB (MI.e2 oNotIn (eVar 2) (eC (D.str (Str.ofString "0123456789"))))) (Tg.nm 2) [2] (iSeq (eVar 1))) (eLst dNil))))) (sRet (eC D.non)) sNil)
      (sSeq (sIf (tAnd (tB (MI.e2 oEq (MI.e2 oIx (eVar 1) (eC (D.int 0))) (eC (D.str (Str.ofString "0"))))) (tB (MI.e2 oNe (eVar 0) (eC (D.str (Str.ofString "0")))))) (sRet (eC D.non)) sNil) (sRet (e1 bInt (eVar 0)))) := ⟨_, rfl⟩
  simp only [F__law_read, b__law_read]
  rw [← htl]
  simp [hl']
  rw [e_minus, cut_to l (by decide), cut_from l (by decide), show (1 : Int).toNat = 1 from rfl]
  refine ⟨okL_take h 1, ?_⟩
  have rest : ∀ f : List Nat, f = figP l → f.length ≤ lim → ∀ M', M' = M → (tl (run T n) [some (.str (strL l)), some (.str (strL f)), none] M').wp
      (fun x M' => (fin .pure M (.d .non) M').wp fun x M' => x = .d (encN (readL l)) ∧ M' = M) (fun x M' => (fin .pure M x M').wp fun x M' => x = .d (encN (readL l)) ∧ M' = M) := by
    rintro f rfl hf M' rfl
    rw [htl]
    have okf : okL (figP l) = true := by unfold figP; split; exact okL_drop h 1; exact h
    simp [hf, strD_strL]
    have f0 : ∀ o, fin .pure M' (.d (encN o)) M' = .ok (.d (encN o)) M' := fun o => by cases o <;> exact fin_d0 rfl nofun
    by_cases h1 : (figP l).length < 1 ∨ 60 < (figP l).length
    · have hr : readL l = none := by unfold readL; rw [if_pos h1]
      rcases h1 with h1 | h1
      · rw [if_pos (by omega), hr]
        simp [encN]
      · rw [if_neg (by omega), if_pos (by omega), hr]
        simp [encN]
    · rw [if_neg (by omega), if_neg (by omega)]
      have cm := compL_map (fun c => D.str (strL [c])) (M := M') (c := chkR (.d (.str (strL (figP l)))) M') (r := [some (D.str (strL l)), some (.str (strL (figP l))), none]) (tg := .nm 2) (elt := eVar 2 (run T n)) (tst := tB (MI.e2 oNotIn (eVar 2) (eC (D.str (Str.ofString "0123456789")))) (run T n)) rfl (fun c => !decide (c ∈ FIG)) (fun c => D.str (strL [c])) (fun c => by
        rw [e_FIG]; exact ⟨rfl, fun _ => rfl⟩) (figP l) [] (by simpa using hf)
      rw [cm]
      simp
      have hne : oNe (.o (.lst (((figP l).filter fun c => !decide (c ∈ FIG)).map fun c => D.str (strL [c])))) (.o (.lst [])) M' = .ok (.d (.bl (!decide ((figP l).filter (fun c => !decide (c ∈ FIG)) = [])))) M' := by
        rw [oNe_l (as := ((figP l).filter fun c => !decide (c ∈ FIG)).map fun c => D.str (strL [c])) (bs := []) rfl rfl (pls_map fun c hc => by
          have := List.all_eq_true.mp okf c (List.mem_filter.mp hc).1
          simpa using this) rfl]
        cases (figP l).filter fun c => !decide (c ∈ FIG) <;> rfl
      rw [hne]
      simp
      by_cases h2 : (figP l).all (fun c => decide (c ∈ FIG)) = true
      · have h2' : ∀ a ∈ figP l, a ∈ FIG := fun a ha => of_decide_eq_true (List.all_eq_true.mp h2 a ha)
        rw [if_neg (by simpa using h2')]
        cases e : figP l with
        | nil => rw [e] at h1; exact absurd (.inl (by decide)) h1
        | cons c r =>
          have okc : okL [c] = true := by
            have := List.all_eq_true.mp okf c (by rw [e]; exact List.mem_cons_self)
            simpa using this
          rw [e] at hf
          have ix : oIx (.d (.str (strL (c :: r)))) (.d (.int 0)) M' = .ok (.d (.str (strL [c]))) M' := oIx_strL hf (ixN_pos (Int.le_refl 0) (by simp)) rfl
          rw [ix, e_zero]
          simp
          refine ⟨by simpa using okc, ?_⟩
          rw [oNe_strL h (show okL [48] = true by decide)]
          by_cases h3 : (figP l).head? = some 48 ∧ l ≠ [48]
          · have hr : readL l = none := by unfold readL; rw [if_neg h1, if_neg (by rw [h2]; decide), if_pos h3]
            have hc : c = 48 := by have := h3.1; rw [e] at this; simpa using this
            simp [hc, h3.2]
            rw [hr]
            simp [encN]
          · obtain ⟨v, v1, v2, v3⟩ := readL_some h1 h2 h3
            have hfin : fin .pure M' (.d (.int v)) M' = .ok (.d (.int v)) M' := fin_d0 rfl nofun
            have go : (bInt (.d (.str (strL l))) M').wp fun x M => (fin .pure M' x M).wp fun x M'_1 => x = .d (encN (readL l)) ∧ M'_1 = M' := by
              rw [bInt_strL v3 v1]
              simp
              rw [v2]; rfl
            by_cases hc : c = 48
            · have hl48 : l = [48] := Classical.byContradiction fun hn => h3 ⟨by rw [e]; simp [hc], hn⟩
              rw [if_pos (by rw [hc])]
              simp [hl48]
              rw [← hl48]; exact go
            · rw [if_neg (by simpa using hc)]
              simpa using go
      · have hr : readL l = none := by unfold readL; rw [if_neg h1, if_pos (by simpa using h2)]
        have h2' : ∃ a, a ∈ figP l ∧ a ∉ FIG := by
          obtain ⟨a, ha, hb⟩ := List.all_eq_false.mp (Bool.eq_false_iff.mpr h2)
          exact ⟨a, ha, by simpa using hb⟩
        rw [if_pos (by obtain ⟨a, ha, hb⟩ := h2'; exact ⟨a, ha, hb⟩), hr]
        simp [encN]
  by_cases hm : l.take 1 = [45]
  · rw [hm, if_pos rfl]
    have hf : l.drop 1 = figP l := by unfold figP; rw [if_pos hm]
    exact rest _ hf (by rw [List.length_drop]; omega) M rfl
  · rw [if_neg (by simpa using hm)]
    have hf : l = figP l := by unfold figP; rw [if_neg hm]
    exact rest l hf hl' M rfl
theorem okL_cut {l : List Nat} (h : okL l = true) (lo hi : Option Int) : okL (cut l lo hi) = true := okL_take (okL_drop h _) _
theorem len_cut {A : Type} (l : List A) (lo hi : Option Int) : (cut l lo hi).length ≤ l.length := by unfold cut; simp; omega
end
theorem numZ_len {z : Int} (h : z.natAbs < 10 ^ 60) : (numZ z).length ≤ 61 := by
  have := natAbs_lt h (by decide)
  unfold numZ; split <;> simp <;> omega
end HW
end
section
set_option linter.all false
set_option autoImplicit false
namespace MI
open PySem (Str PyData)
def strV (x : RV) (Q : Str → Prop) (_ : Hid Q := .mk) : Prop := match x with
  | .d (.str n) => Q n
  | _ => False
@[simp] theorem strV_str (n : Str) (Q : Str → Prop) : strV (.d (.str n)) Q = Q n := nrfl rfl
section
variable {cl : Cl} {r : Env} {M : Mem} {E : Str → Mem → Prop}
@[simp] theorem wp_eT1 (m : Str → RV → Mem → Res RV) (o a : SE) (Q : RV → Mem → Prop) : (eT1 m o a cl r M).wp Q = (o cl r M).wp fun x M => strV x fun s => (a cl r M).wp fun y M => (m s y M).wp Q := by
  unfold eT1; rw [wp_bind]; refine wp_ext fun x M => ?_
  unfold strV
  split
  · rw [wp_bind]
  · first | rfl | (split <;> first | rfl | simp_all)
@[simp] theorem wpx_eT1 (m : Str → RV → Mem → Res RV) (o a : SE) (Q : RV → Mem → Prop) : (eT1 m o a cl r M).wpx E Q = (o cl r M).wpx E fun x M => strV x fun s => (a cl r M).wpx E fun y M => (m s y M).wpx E Q := by
  unfold eT1; rw [wpx_bind]; refine wpx_ext fun x M => ?_
  unfold strV
  split
  · rw [wpx_bind]
  · first | rfl | (split <;> first | rfl | simp_all)
/-- words, as data -/
def wD (w : List Nat) : D := .str (strL w)
def encW (ws : List (List Nat)) : List D := ws.map wD
@[simp] theorem encW_len (ws : List (List Nat)) : (encW ws).length = ws.length := by simp [encW]
theorem encW_at {ws : List (List Nat)} {j : Nat} {w : List Nat} (h : ws[j]? = some w) : (encW ws)[j]? = some (wD w) := by unfold encW; rw [List.getElem?_map, h]; rfl
theorem encW_app (a b : List (List Nat)) : encW (a ++ b) = encW a ++ encW b := by unfold encW; rw [List.map_append]
theorem encW_cons (a : List Nat) (b : List (List Nat)) : encW (a :: b) = wD a :: encW b := rfl
theorem asStrs_encW : ∀ ws : List (List Nat), asStrs (encW ws) = some (ws.map strL)
  | [] => rfl
  | w :: ws => by rw [encW_cons]; show (asStrs (encW ws)).map _ = _; rw [asStrs_encW ws]; rfl
theorem tSplit_sp (l : List Nat) (hl : l.length + 2 ≤ lim) : tSplit (strL l) (.d (.str (strL [32]))) M = .ok (.o (.lst (encW (splC 32 [] l)))) M := by
  show (if 32 < 256 ∧ (strL l).length + 2 ≤ lim then Res.ok (RV.o (.lst ((splC 32 [] (strL l).cps.toList).map fun l => D.str (strL l)))) M else .bad) = _
  rw [strL_len, if_pos ⟨by decide, hl⟩, strL_tl]; rfl
def sizeW (ws : List (List Nat)) : Nat := (ws.map (·.length)).sum + ws.length
theorem tJoin_of {x : RV} {ws : List (List Nat)} (h : seqOf x M = some (encW ws)) (hl : sizeW ws ≤ lim) : tJoin (strL [32]) x M = .ok (.d (.str (strL (joinC [32] ws)))) M := by
  unfold tJoin
  rw [h]
  simp only [asStrs_encW, List.map_map]
  have e1 : (((fun x : Str => x.length) ∘ strL) : List Nat → Nat) = fun l => l.length := by funext l; exact strL_len l
  have e2 : (((fun x : Str => x.cps.toList) ∘ strL) : List Nat → List Nat) = id := by funext l; exact strL_tl l
  rw [e1, e2, List.map_id, strL_tl, strL_len, List.length_map]
  unfold sizeW at hl
  rw [if_pos (by simpa using hl)]
end
theorem splC_free {s : Nat} : ∀ (p acc r : List Nat), s ∉ p → splC s acc (p ++ s :: r) = (acc ++ p) :: splC s [] r
  | [], acc, r, _ => by simp [splC]
  | c :: p, acc, r, h => by
    have hc : c ≠ s := fun e => h (by rw [e]; exact List.mem_cons_self)
    rw [List.cons_append, splC, if_neg hc, splC_free p (acc ++ [c]) r (fun hm => h (List.mem_cons_of_mem _ hm)), List.append_assoc]; rfl
theorem splC_end {s : Nat} : ∀ (p acc : List Nat), s ∉ p → splC s acc p = [acc ++ p]
  | [], acc, _ => by simp [splC]
  | c :: p, acc, h => by
    have hc : c ≠ s := fun e => h (by rw [e]; exact List.mem_cons_self)
    rw [splC, if_neg hc, splC_end p (acc ++ [c]) (fun hm => h (List.mem_cons_of_mem _ hm)), List.append_assoc]; rfl
theorem splC_joinC {s : Nat} : ∀ (ws : List (List Nat)), ws ≠ [] → (∀ w ∈ ws, s ∉ w) → splC s [] (joinC [s] ws) = ws
  | [], h, _ => absurd rfl h
  | [p], _, h => by simp only [joinC]; exact splC_end p [] (h p List.mem_cons_self)
  | p :: q :: r, _, h => by
    simp only [joinC, List.singleton_append]
    rw [splC_free p [] _ (h p List.mem_cons_self), splC_joinC (q :: r) (List.cons_ne_nil _ _) fun w hw => h w (List.mem_cons_of_mem _ hw)]; rfl
theorem okL_join : ∀ {ws : List (List Nat)}, (∀ w ∈ ws, okL w = true) → okL (joinC [32] ws) = true
  | [], _ => rfl
  | [p], h => h p List.mem_cons_self
  | p :: q :: r, h => by
    simp only [joinC, okL_app, h p List.mem_cons_self, okL_join (ws := q :: r) fun w hw => h w (List.mem_cons_of_mem _ hw)]; rfl
theorem len_join : ∀ (ws : List (List Nat)), (joinC [32] ws).length ≤ sizeW ws
  | [] => Nat.zero_le _
  | [p] => by simp [joinC, sizeW]
  | p :: q :: r => by
    have := len_join (q :: r)
    simp only [joinC, sizeW, List.length_append, List.map_cons, List.sum_cons, List.length_cons, List.length_nil] at this ⊢
    omega
theorem sizeW_le {ws : List (List Nat)} {k : Nat} (h : ∀ w ∈ ws, w.length ≤ k) : sizeW ws ≤ ws.length * (k + 1) := by
  unfold sizeW
  induction ws with
  | nil => simp
  | cons w ws ih =>
    have h1 := h w List.mem_cons_self
    have h2 := ih fun x hx => h x (List.mem_cons_of_mem _ hx)
    simp only [List.map_cons, List.sum_cons, List.length_cons]
    rw [Nat.add_mul]
    omega
end MI
end
section
set_option linter.all false
set_option autoImplicit false
namespace HW
open MI PySem
@[simp] theorem bels_encW (n : Nat) (ws : List (List Nat)) : D.bels n (encW ws) = true := by
  induction ws with
  | nil => rfl
  | cons w ws ih => rw [encW_cons]; simp [D.bels, ih, wD, D.bel]
theorem e_blank : Str.ofString " " = strL [32] := by rw [lit]; rfl
theorem e_point : Str.ofString "." = strL [46] := by rw [lit]; rfl
def LET : List Nat := [97, 98, 99, 100, 101, 102, 103, 104, 105, 106, 107, 108, 109, 110, 111, 112, 113, 114, 115, 116, 117, 118, 119, 120, 121, 122]
theorem e_LET : Str.ofString "abcdefghijklmnopqrstuvwxyz" = strL LET := by rw [lit]; rfl
/-- words of a text of no great size -/
def WsOk (ws : List (List Nat)) : Prop := ws.length ≤ 100000 ∧ ∀ w ∈ ws, okL w = true ∧ w.length ≤ 100000
def nameL (w : List Nat) : Bool := decide (1 ≤ w.length) && (decide (w.length ≤ 8) && w.all fun c => decide (c ∈ LET))
/-- an end of days, read -/
def readE (w : List Nat) : Option (Option Int) := if w = [45] then some none else (readL w).map some
/-- what is handed back, or NoText -/
def orNo {A : Type} (enc : A → D) (M : Mem) (o : Option A) : Res RV := match o with
  | some a => .ok (.d (enc a)) M
  | none => .err "NoText" M
section
variable {T : Tab}
theorem words_of_run [i : HasF T "words_of" F_words_of] (n : Nat) (l : List Nat) (hl : l.length ≤ 10000000) (M : Mem) : run T (n + 1) "words_of" [.str (strL l)] M = .ok (.o (.lst (encW (splC 32 [] l)))) M := by
  rw [run_has i, ← Res.wp_eq]
  refine wp_run rfl ?_
  have hlim : 16777216 ≤ lim := Nat.le_refl _
  simp [F_words_of, b_words_of]
  rw [e_blank, tSplit_sp l (by omega)]
  simp
theorem words_of_odd [i : HasF T "words_of" F_words_of] (n : Nat) (d : D) (M : Mem) (h : bIsi .str (.d d) M = .ok (.d (.bl false)) M) : run T (n + 1) "words_of" [d] M = .err "NoText" M := by
  rw [run_has i, ← Res.wpx_err]
  refine wpx_run rfl ?_
  simp [F_words_of, b_words_of, h]
variable {ws : List (List Nat)} {h : Nat}
theorem word_at_run [i : HasF T "word_at" F_word_at] (n : Nat) (k : Nat) (M : Mem) (hM : M[h]? = some (.lst (encW ws))) : run T (n + 1) "word_at" [.hdl h, .int (k : Int)] M = orNo wD M ws[k]? := by
  have key : (run T (n + 1) "word_at" [.hdl h, .int (k : Int)] M).wpx (fun c M' => ws[k]? = none ∧ c = "NoText" ∧ M' = M) (fun x M' => ∃ w, ws[k]? = some w ∧ x = .d (wD w) ∧ M' = M) := by
    rw [run_has i]
    refine wpx_run rfl ?_
    simp [F_word_at, b_word_at, hM]
    intro hk
    have ix : oIx (.d (.hdl h)) (.d (.int (k : Int))) M = .ok (.d (wD ws[k])) M := oIx_seq (ds := encW ws) (k := k) (by simp [hM]) (by rw [ixN_pos (by omega) (by simp; omega)]; simp) (encW_at (List.getElem?_eq_getElem hk))
    rw [ix]
    simp
    rw [fin_d0 (x := wD _) rfl nofun]
    simp
    exact ⟨_, List.getElem?_eq_getElem hk, rfl⟩
  rcases Res.wpx_ex key with ⟨a, M', e, w, h1, rfl, rfl⟩ | ⟨c, M', e, h1, rfl, rfl⟩
  · rw [e, h1]; rfl
  · rw [e, h1]; rfl
theorem number_at_run [HasF T "word_at" F_word_at] [HasF T "read_number" F_read_number] [i : HasF T "number_at" F_number_at] (n : Nat) (k : Nat) (M : Mem) (hM : M[h]? = some (.lst (encW ws))) (ok : WsOk ws) : run T (n + 2) "number_at" [.hdl h, .int (k : Int)] M = orNo D.int M (ws[k]?.bind readL) := by
  have hlim : 16777216 ≤ lim := Nat.le_refl _
  have key : (run T (n + 2) "number_at" [.hdl h, .int (k : Int)] M).wpx (fun c M' => ws[k]?.bind readL = none ∧ c = "NoText" ∧ M' = M) (fun x M' => ∃ w, ws[k]?.bind readL = some w ∧ x = .d (.int w) ∧ M' = M) := by
    rw [run_has i]
    refine wpx_run rfl ?_
    simp [F_number_at, b_number_at]
    rw [word_at_run n k M hM]
    cases e : ws[k]? with
    | none => simp [orNo]
    | some w =>
      have := ok.2 w (List.mem_of_getElem? e)
      simp [orNo, wD]
      rw [read_number_run n w this.1 (by omega)]
      cases readL w <;> simp
  rcases Res.wpx_ex key with ⟨a, M', e, w, h1, rfl, rfl⟩ | ⟨c, M', e, h1, rfl, rfl⟩
  · rw [e, h1]; rfl
  · rw [e, h1]; rfl
theorem end_at_run [HasF T "word_at" F_word_at] [HasF T "read_number" F_read_number] [HasF T "number_at" F_number_at] [i : HasF T "end_at" F_end_at] (n : Nat) (k : Nat) (M : Mem) (hM : M[h]? = some (.lst (encW ws))) (ok : WsOk ws) : run T (n + 3) "end_at" [.hdl h, .int (k : Int)] M = orNo encO M (ws[k]?.bind readE) := by
  have key : (run T (n + 3) "end_at" [.hdl h, .int (k : Int)] M).wpx (fun c M' => ws[k]?.bind readE = none ∧ c = "NoText" ∧ M' = M) (fun x M' => ∃ w, ws[k]?.bind readE = some w ∧ x = .d (encO w) ∧ M' = M) := by
    rw [run_has i]
    refine wpx_run rfl ?_
    simp [F_end_at, b_end_at]
    rw [word_at_run (n + 1) k M hM]
    cases e : ws[k]? with
    | none => simp [orNo]
    | some w =>
      have := ok.2 w (List.mem_of_getElem? e)
      simp [orNo, wD]
      rw [e_minus]
      refine ⟨this.1, ?_⟩
      by_cases hw : w = [45]
      · simp [hw, readE, encO]
      · rw [if_neg (by simpa using hw)]
        rw [number_at_run n k M hM ok, e]
        have hr : readE w = (readL w).map some := by unfold readE; rw [if_neg hw]
        simp only [Option.bind_some, orNo]
        cases hv : readL w with
        | none => rw [hv] at hr; simp; exact hr
        | some v => rw [hv] at hr; simp; exact ⟨some v, hr, rfl⟩
  rcases Res.wpx_ex key with ⟨a, M', e, w, h1, rfl, rfl⟩ | ⟨c, M', e, h1, rfl, rfl⟩
  · rw [e, h1]; rfl
  · rw [e, h1]; rfl
theorem name_at_run [HasF T "word_at" F_word_at] [i : HasF T "name_at" F_name_at] (n : Nat) (k : Nat) (M : Mem) (hM : M[h]? = some (.lst (encW ws))) (ok : WsOk ws) : run T (n + 2) "name_at" [.hdl h, .int (k : Int)] M = orNo wD M (ws[k]?.bind fun w => if nameL w = true then some w else none) := by
  have hlim : 16777216 ≤ lim := Nat.le_refl _
  have key : (run T (n + 2) "name_at" [.hdl h, .int (k : Int)] M).wpx (fun c M' => (ws[k]?.bind fun w => if nameL w = true then some w else none) = none ∧ c = "NoText" ∧ M' = M) (fun x M' => ∃ w, (ws[k]?.bind fun w => if nameL w = true then some w else none) = some w ∧ x = .d (wD w) ∧ M' = M) := by
    rw [run_has i]
    refine wpx_run rfl ?_
    simp [F_name_at, b_name_at]
    rw [word_at_run n k M hM]
    cases e : ws[k]? with
    | none => simp [orNo]
    | some w =>
      obtain ⟨o1, o2⟩ := ok.2 w (List.mem_of_getElem? e)
      have hwl : w.length ≤ lim := by omega
      simp [orNo, wD, hwl, strD_strL]
      by_cases h1 : w.length < 1
      · rw [if_pos (by omega)]
        unfold nameL; simp; omega
      rw [if_neg (by omega)]
      by_cases h2 : 8 < w.length
      · rw [if_pos (by omega)]
        unfold nameL; simp; omega
      rw [if_neg (by omega)]
      have hn : nameL w = w.all fun c => decide (c ∈ LET) := by
        unfold nameL
        rw [decide_eq_true (show 1 ≤ w.length by omega), decide_eq_true (show w.length ≤ 8 by omega), Bool.true_and, Bool.true_and]
      rw [hn]
      refine forL_wpx (fun c => D.str (strL [c])) (I := fun (rest : List Nat) r M' => M' = M ∧ (∃ x, r = [some (.hdl h), some (.int (k : Int)), some (D.str (strL w)), x]) ∧ ∃ pre, w = pre ++ rest ∧ ∀ c ∈ pre, c ∈ LET) ?_ ?_ w _ _ ⟨rfl, ⟨none, rfl⟩, [], rfl, fun _ h => nomatch h⟩
      · rintro r M' ⟨rfl, ⟨x, rfl⟩, pre, e, hp⟩
        rw [List.append_nil] at e
        subst e
        have hall : w.all (fun c => decide (c ∈ LET)) = true := List.all_eq_true.mpr fun c hc => decide_eq_true (hp c hc)
        refine ⟨by simp [chkR], ?_⟩
        simp
        rw [fin_d0 (x := .str _) rfl nofun]
        exact ⟨w, if_pos hall, rfl, rfl⟩
      · rintro c rr r M' ⟨rfl, ⟨x, rfl⟩, pre, e, hp⟩
        refine ⟨by simp [chkR], ?_⟩
        simp
        rw [e_LET]
        simp
        by_cases hc : c ∈ LET
        · rw [if_pos hc]
          exact ⟨rfl, ⟨_, rfl⟩, pre ++ [c], by rw [e]; simp, fun y hy => by
            rcases List.mem_append.mp hy with hy | hy
            · exact hp y hy
            · rw [List.mem_singleton.mp hy]; exact hc⟩
        · rw [if_neg hc]
          exact ⟨c, by rw [e]; simp, hc⟩
  rcases Res.wpx_ex key with ⟨a, M', e, w, h1, rfl, rfl⟩ | ⟨c, M', e, h1, rfl, rfl⟩
  · rw [e, h1]; rfl
  · rw [e, h1]; rfl
theorem wpx_eCompX (elt : SE) (tg : Tg) (own : List Nat) (it : SI) {cl : Cl} {r : MI.Env} {M : Mem} {E : Str → Mem → Prop} (Q : RV → Mem → Prop) : (eCompX elt tg own it cl r M).wpx E Q = (it cl r M).wpx E fun p M => (compLX (elt cl) tg p.2 (wipe r own) p.1 [] M).wpx E Q := by
  unfold eCompX; rw [wpx_bind]
/-- items that are told, or NoText -/
theorem compLX_orNo {A B : Type} (enc : A → D) (encB : B → D) {elt : MI.Env → Mem → Res RV} {tg : Tg} {r : MI.Env} {M : Mem} {c : Chk} (hc : chkOk c M = true) (f : A → Option B) :
    ∀ (l : List A), (∀ a ∈ l, envV (asg tg (enc a) r) fun r1 => elt r1 M = orNo encB M (f a)) → ∀ (acc : List D), acc.length + l.length ≤ lim →
    compLX elt tg c r (l.map enc) acc M = match l.mapM f with
      | some bs => .ok (.o (.lst (acc ++ bs.map encB))) M
      | none => .err "NoText" M
  | [], _, acc, _ => by simp [compLX, hc]
  | a :: l, h, acc, hl => by
    have h1 := h a List.mem_cons_self
    rw [List.map_cons]
    unfold compLX
    simp only [hc, if_true]
    cases e : asg tg (enc a) r with
    | none => rw [e] at h1; exact h1.elim
    | some r1 =>
      rw [e] at h1
      have h2 : elt r1 M = orNo encB M (f a) := h1
      simp only [h2]
      rw [List.mapM_cons]
      cases ef : f a with
      | none => rfl
      | some b =>
        simp only [orNo, Res.bind]
        rw [List.length_cons] at hl
        rw [if_pos (by omega)]
        show compLX elt tg c r (l.map enc) (acc ++ [encB b]) M = _
        rw [compLX_orNo enc encB hc f l (fun x hx => h x (List.mem_cons_of_mem _ hx)) (acc ++ [encB b]) (by simp; omega)]
        show _ = match (do let r ← some b; let rs ← l.mapM f; pure (r :: rs)) with
          | some bs => Res.ok (RV.o (.lst (acc ++ bs.map encB))) M
          | none => .err "NoText" M
        cases l.mapM f with
        | none => rfl
        | some bs => simp
/-- so many numbers from a place on -/
def soMany (ws : List (List Nat)) (a : Nat) (m : Int) : Option (List Int) := if m < 0 ∨ (ws.length : Int) < a + m then none else ((ws.drop a).take m.toNat).mapM readL
theorem so_many_run [HasF T "read_number" F_read_number] [i : HasF T "so_many_at" F_so_many_at] (n : Nat) (a : Nat) (m : Int) (M : Mem) (hM : M[h]? = some (.lst (encW ws))) (ok : WsOk ws) :
    run T (n + 2) "so_many_at" [.hdl h, .int (a : Int), .int m] M = orNo rowD M (soMany ws a m) := by
  have hlim : 16777216 ≤ lim := Nat.le_refl _
  have hl0 := ok.1
  have key : (run T (n + 2) "so_many_at" [.hdl h, .int (a : Int), .int m] M).wpx (fun c M' => soMany ws a m = none ∧ c = "NoText" ∧ M' = M) (fun x M' => ∃ w, soMany ws a m = some w ∧ x = .d (rowD w) ∧ M' = M) := by
    rw [run_has i]
    refine wpx_run rfl ?_
    simp [F_so_many_at, b_so_many_at, hM]
    by_cases h1 : m < 0
    · rw [if_pos h1]
      unfold soMany; rw [if_pos (.inl h1)]
    rw [if_neg h1]
    by_cases h2 : (ws.length : Int) < (a : Int) + m
    · rw [if_pos h2]
      unfold soMany; rw [if_pos (.inr h2)]
    rw [if_neg h2, wpx_eCompX]
    simp [hM]
    have hc : ((ws.drop a).take m.toNat).length = m.toNat := by rw [List.length_take, List.length_drop]; omega
    have cu : cut (encW ws) (some (a : Int)) (some ((a : Int) + m)) = encW ((ws.drop a).take m.toNat) := by
      have : ((a : Int) + m) = ((a + m.toNat : Nat) : Int) := by omega
      rw [this]
      unfold cut sIx
      simp only [encW_len]
      rw [if_neg (by omega), if_neg (by omega), Int.toNat_natCast, Int.toNat_natCast, Nat.min_eq_left (by omega), Nat.min_eq_left (by omega), Nat.add_sub_cancel_left]
      unfold encW
      rw [List.map_take, List.map_drop]
    rw [cu]
    have es : soMany ws a m = ((ws.drop a).take m.toNat).mapM readL := by unfold soMany; rw [if_neg (by omega)]
    have cx := compLX_orNo wD D.int (M := M) (c := []) rfl readL ((ws.drop a).take m.toNat) (elt := eCall "read_number" (dCons (eVar 3) dNil) (run T (n + 1))) (tg := .nm 3) (r := [some (.hdl h), some (.int (a : Int)), some (.int m), none]) (fun w hw => by
      have hw' : w ∈ ws := List.mem_of_mem_drop (List.mem_of_mem_take hw)
      obtain ⟨o1, o2⟩ := ok.2 w hw'
      show eCall "read_number" (dCons (eVar 3) dNil) (run T (n + 1)) [some (.hdl h), some (.int (a : Int)), some (.int m), some (wD w)] M = _
      have := read_number_run (T := T) n w o1 (by omega) M
      unfold eCall dCons dNil eVar
      simp only [Res.bind, List.getElem?_cons_succ, List.getElem?_cons_zero, box]
      show run T (n + 1) "read_number" [wD w] M = _
      rw [show wD w = D.str (strL w) from rfl, this]
      cases readL w <;> rfl) [] (by simp; omega)
    have cx' : compLX (eCall "read_number" (dCons (eVar 3) dNil) (run T (n + 1))) (.nm 3) [] [some (.hdl h), some (.int (a : Int)), some (.int m), none] (encW ((ws.drop a).take m.toNat)) [] M = _ := cx
    rw [cx', es]
    cases ((ws.drop a).take m.toNat).mapM readL with
    | none => simp
    | some vs =>
      simp
      rfl
  rcases Res.wpx_ex key with ⟨a, M', e, w, h1, rfl, rfl⟩ | ⟨c, M', e, h1, rfl, rfl⟩
  · rw [e, h1]; rfl
  · rw [e, h1]; rfl
theorem mapM_some {A B : Type} {f : A → Option B} : ∀ {l : List A} {vs : List B}, l.length = vs.length → (∀ (j : Nat) a v, l[j]? = some a → vs[j]? = some v → f a = some v) → l.mapM f = some vs
  | [], [], _, _ => rfl
  | [], _ :: _, h, _ => by cases h
  | _ :: _, [], h, _ => by cases h
  | a :: l, v :: vs, h, hf => by
    rw [List.mapM_cons, hf 0 a v rfl rfl, mapM_some (f := f) (l := l) (vs := vs) (by simpa using h) (fun j x y h1 h2 => hf (j + 1) x y (by simpa using h1) (by simpa using h2))]
    rfl
end
end HW
end
section
set_option linter.all false
set_option autoImplicit false
namespace HW
open MI PySem
structure TelN where
  kind : Bool
  name : List Nat
  row : List Int
  low : Option Int
  high : Option Int
def kindL (b : Bool) : List Nat := if b = true then [116, 101, 108, 108] else [115, 116, 114, 105, 107, 101]
theorem e_tell : Str.ofString "tell" = strL (kindL true) := by rw [lit]; rfl
theorem e_strike : Str.ofString "strike" = strL (kindL false) := by rw [lit]; rfl
def endL : Option Int → List Nat
  | none => [45]
  | some v => numZ v
def encTN (t : TelN) : D := .tup [wD (kindL t.kind), wD t.name, rowD t.row, encO t.low, encO t.high]
def wordsT (turn : Int) (t : TelN) : List (List Nat) := [kindL t.kind, numZ turn, t.name, endL t.low, endL t.high] ++ (t.row.map numZ ++ [[46]])
def small60 (o : Option Int) : Prop := ∀ v, o = some v → v.natAbs < 10 ^ 60
structure TelOk (turn : Int) (t : TelN) : Prop where
  name : nameL t.name = true
  len : t.row.length ≤ 300
  row : ∀ v ∈ t.row, v.natAbs < 10 ^ 60
  low : small60 t.low
  high : small60 t.high
  ends : ∀ a b, t.low = some a → t.high = some b → a < b
  t0 : 1 ≤ turn
  t1 : turn < 10 ^ 60
theorem numZ_free (z : Int) : 32 ∉ numZ z := fun h => by
  unfold numZ at h
  split at h
  · rcases List.mem_cons.mp h with h | h
    · cases h
    · have := numL_fig h; omega
  · have := numL_fig h; omega
theorem numZ_ne (z : Int) : numZ z ≠ [45] := fun h => by
  unfold numZ at h
  split at h
  · injection h with _ h; exact TL.numL_ne _ h
  · have := numL_fig (n := z.natAbs) (c := 45) (by rw [h]; exact List.mem_cons_self); omega
theorem nameL_mem {w : List Nat} (h : nameL w = true) {c : Nat} (hc : c ∈ w) : 97 ≤ c ∧ c ≤ 122 := by
  unfold nameL at h
  simp only [Bool.and_eq_true, decide_eq_true_eq] at h
  have := of_decide_eq_true (List.all_eq_true.mp h.2.2 c hc)
  simp [LET] at this; omega
theorem nameL_len {w : List Nat} (h : nameL w = true) : 1 ≤ w.length ∧ w.length ≤ 8 := by
  unfold nameL at h
  simp only [Bool.and_eq_true, decide_eq_true_eq] at h
  exact ⟨h.1, h.2.1⟩
theorem nameL_okL {w : List Nat} (h : nameL w = true) : okL w = true := okL_of fun c hc => by have := nameL_mem h hc; omega
theorem endL_ok {o : Option Int} (h : small60 o) : okL (endL o) = true ∧ (endL o).length ≤ 61 ∧ 32 ∉ endL o ∧ readE (endL o) = some o := by
  cases o with
  | none => exact ⟨rfl, by decide, by decide, by simp [endL, readE]⟩
  | some v =>
    have hv := h v rfl
    refine ⟨numZ_okL v, numZ_len hv, numZ_free v, ?_⟩
    unfold readE endL
    rw [if_neg (numZ_ne v), readL_numZ hv]; rfl
/-- what is known of each word of a telling -/
theorem wordsT_ok {turn : Int} {t : TelN} (h : TelOk turn t) : ∀ w ∈ wordsT turn t, okL w = true ∧ w.length ≤ 61 ∧ 32 ∉ w := by
  intro w hw
  have hk : okL (kindL t.kind) = true ∧ (kindL t.kind).length ≤ 61 ∧ 32 ∉ kindL t.kind := by cases t.kind <;> simp [kindL]
  have ht : turn.natAbs < 10 ^ 60 := by have := h.t0; have := h.t1; omega
  simp only [wordsT, List.mem_append, List.mem_cons, List.not_mem_nil, or_false, List.mem_map] at hw
  rcases hw with (rfl | rfl | rfl | rfl | rfl) | ⟨v, hv, rfl⟩ | rfl
  · exact hk
  · exact ⟨numZ_okL _, numZ_len ht, numZ_free _⟩
  · have := nameL_len h.name
    exact ⟨nameL_okL h.name, by omega, fun hm => by have := nameL_mem h.name hm; omega⟩
  · have := endL_ok h.low; exact ⟨this.1, this.2.1, this.2.2.1⟩
  · have := endL_ok h.high; exact ⟨this.1, this.2.1, this.2.2.1⟩
  · have := h.row v hv
    exact ⟨numZ_okL _, numZ_len this, numZ_free _⟩
  · exact ⟨rfl, by decide, by decide⟩
theorem wordsT_len (turn : Int) (t : TelN) : (wordsT turn t).length = t.row.length + 6 := by simp [wordsT]
theorem wordsT_ne (turn : Int) (t : TelN) : wordsT turn t ≠ [] := by simp [wordsT]
theorem wordsT_size {turn : Int} {t : TelN} (h : TelOk turn t) : sizeW (wordsT turn t) ≤ 19000 := by
  have := sizeW_le (ws := wordsT turn t) (k := 61) fun w hw => (wordsT_ok h w hw).2.1
  rw [wordsT_len] at this
  have := h.len
  omega
def textT (turn : Int) (t : TelN) : List Nat := joinC [32] (wordsT turn t)
theorem split_textT {turn : Int} {t : TelN} (h : TelOk turn t) : splC 32 [] (textT turn t) = wordsT turn t := splC_joinC _ (wordsT_ne turn t) fun w hw => (wordsT_ok h w hw).2.2
section
variable {T : Tab}
theorem law_end45_run [i : HasF T "_law_end" F__law_end] (n : Nat) (o : Option Int) (h : small60 o) (M : Mem) : run T (n + 1) "_law_end" [encO o] M = .ok (.d (wD (endL o))) M := by
  rw [run_has i, ← Res.wp_eq]
  refine wp_run rfl ?_
  cases o with
  | none =>
    simp [F__law_end, b__law_end, encO]
    rw [e_minus, fin_d0 (x := .str _) rfl nofun]
    simp [endL, wD]
  | some v =>
    have hb := bStr_60 (M := M) (h v rfl)
    simp only [F__law_end, b__law_end, encO]
    simp [-bStr_int, hb, endL, wD]
    rw [fin_d0 (x := .str _) rfl nofun]
    simp
theorem law_written_run [HasF T "_law_end" F__law_end] [i : HasF T "_law_written" F__law_written] (n : Nat) {turn : Int} {t : TelN} (h : TelOk turn t) (M : Mem) : run T (n + 2) "_law_written" [.int turn, encTN t] M = .ok (.d (wD (textT turn t))) M := by
  have hlim : 16777216 ≤ lim := Nat.le_refl _
  have ht : turn.natAbs < 10 ^ 60 := by have := h.t0; have := h.t1; omega
  rw [run_has i, ← Res.wp_eq]
  refine wp_run rfl ?_
  have i3 : ∀ M, oIx (.d (.tup [wD (kindL t.kind), wD t.name, rowD t.row, encO t.low, encO t.high])) (.d (.int 3)) M = .ok (.d (encO t.low)) M := fun M => oIx_seq rfl (ixN_pos (by omega) (by simp)) rfl
  have i4 : ∀ M, oIx (.d (.tup [wD (kindL t.kind), wD t.name, rowD t.row, encO t.low, encO t.high])) (.d (.int 4)) M = .ok (.d (encO t.high)) M := fun M => oIx_seq rfl (ixN_pos (by omega) (by simp)) rfl
  have bt := fun M => bStr_60 (M := M) ht
  simp [-bStr_int, F__law_written, b__law_written, encTN, bt, i3, i4]
  rw [law_end45_run n t.low h.low]
  simp [-bStr_int, i4]
  rw [law_end45_run n t.high h.high]
  simp [-bStr_int, rowD]
  have hl := h.len
  have hsz := wordsT_size h
  refine forL_wp D.int (fun rest env M' => ∃ (j3 : Option D) (pre : List Int), env = [some (.int turn), some (encTN t), some (.hdl M.length), j3] ∧ t.row = pre ++ rest ∧ M' = M ++ [.lst (encW ([kindL t.kind, numZ turn, t.name, endL t.low, endL t.high] ++ pre.map numZ))]) ?_ ?_ t.row _ _ ⟨none, [], rfl, rfl, by simp [encW, wD]⟩
  · rintro env M' ⟨j3, pre, rfl, e, rfl⟩
    rw [List.append_nil] at e
    refine ⟨rfl, ?_⟩
    simp
    refine ⟨by rw [← e]; omega, ?_⟩
    rw [e_blank, e_point]
    rw [tJoin_of (ws := wordsT turn t) (by simp [wordsT, encW, wD, Function.comp_def, e]) (by omega)]
    simp
    rw [fin_d (x := .str _) rfl nofun]
    exact ⟨rfl, rfl⟩
  · rintro v rest env M' ⟨j3, pre, rfl, e, rfl⟩
    refine ⟨rfl, ?_⟩
    have bv := fun M => bStr_60 (M := M) (h.row v (by rw [e]; simp))
    have hpl : pre.length ≤ 300 := by have : t.row.length = pre.length + (rest.length + 1) := by rw [e]; simp
                                      omega
    simp [-bStr_int, bv]
    exact ⟨by omega, _, pre ++ [v], rfl, by rw [e]; simp, by simp [encW, wD]⟩
theorem in_words {M : Mem} (w : List Nat) (ws : List (List Nat)) : oIn (.d (wD w)) (.d (.tup (encW ws))) M = .ok (.d (.bl (decide (w ∈ ws)))) M := by
  have hall : (encW ws).all D.flat = true := by
    refine List.all_eq_true.mpr fun d hd => ?_
    obtain ⟨x, _, rfl⟩ := List.mem_map.mp hd
    rfl
  have e : inR (.d (wD w)) (.d (.tup (encW ws))) M = some ((encW ws).any fun d => feq d (wD w)) := by
    show (match dicOf (.d (.tup (encW ws))) M with
      | some kvs => if okK kvs (wD w) then some (dget kvs (wD w)).isSome else none
      | none => if (wD w).flat && (encW ws).all D.flat then some ((encW ws).any fun d => feq d (wD w)) else _) = _
    rw [hall]; rfl
  unfold oIn
  rw [e]
  show Res.ok (RV.d (.bl ((encW ws).any fun d => feq d (wD w)))) M = _
  congr 3
  rw [Bool.eq_iff_iff, List.any_eq_true, decide_eq_true_eq]
  constructor
  · rintro ⟨d, hd, hf⟩
    obtain ⟨x, hx, rfl⟩ := List.mem_map.mp hd
    have : strL x = strL w := by simpa [feq, wD] using hf
    rw [← strL_inj.mp this]; exact hx
  · intro h
    exact ⟨wD w, List.mem_map.mpr ⟨w, h, rfl⟩, by simp [feq, wD]⟩
theorem notin_words {M : Mem} (w : List Nat) (ws : List (List Nat)) : oNotIn (.d (wD w)) (.d (.tup (encW ws))) M = .ok (.d (.bl (!decide (w ∈ ws)))) M := by
  have h := in_words (M := M) w ws
  unfold oIn at h
  unfold oNotIn
  cases e : inR (.d (wD w)) (.d (.tup (encW ws))) M with
  | none => rw [e] at h; cases h
  | some b =>
    rw [e] at h
    simp only [vB, Res.ok.injEq, RV.d.injEq, D.bl.injEq, and_true] at h
    rw [h]; rfl
end
end HW
end
section
set_option linter.all false
set_option autoImplicit false
namespace HW
open MI PySem
def nmL (w : List Nat) : Option (List Nat) := if nameL w = true then some w else none
def kindOf (w : List Nat) : Option Bool := if w = kindL true then some true else if w = kindL false then some false else none
def badE (lo hi : Option Int) : Bool := match lo, hi with
  | some a, some b => decide (b ≤ a)
  | _, _ => false
/-- the telling that words write -/
def readT (ws : List (List Nat)) : Option (Int × TelN) :=
  (ws[0]?.bind kindOf).bind fun k => if ws.length < 6 ∨ ws.getLast? ≠ some [46] then none else
  (ws[1]?.bind readL).bind fun turn => (ws[2]?.bind nmL).bind fun nm => (ws[3]?.bind readE).bind fun lo => (ws[4]?.bind readE).bind fun hi =>
  (soMany ws 5 ((ws.length : Int) - 6)).bind fun row => if turn < 1 ∨ badE lo hi = true then none else some (turn, ⟨k, nm, row, lo, hi⟩)
def encTT (p : Int × TelN) : D := .tup [.int p.1, encTN p.2]
theorem splC_ne (s : Nat) : ∀ (l acc : List Nat), splC s acc l ≠ []
  | [], acc => by simp [splC]
  | c :: l, acc => by
    unfold splC
    split
    · simp
    · exact splC_ne s l _
theorem splC_mem {s : Nat} : ∀ (l acc : List Nat) (w : List Nat), w ∈ splC s acc l → (∀ c ∈ w, c ∈ acc ∨ c ∈ l) ∧ w.length ≤ acc.length + l.length
  | [], acc, w, h => by
    simp only [splC, List.mem_singleton] at h
    subst h
    exact ⟨fun c hc => .inl hc, by simp⟩
  | c :: l, acc, w, h => by
    unfold splC at h
    split at h
    · rcases List.mem_cons.mp h with rfl | h
      · exact ⟨fun c hc => .inl hc, by simp⟩
      · obtain ⟨h1, h2⟩ := splC_mem l [] w h
        exact ⟨fun x hx => (h1 x hx).elim (fun z => nomatch z) fun z => .inr (List.mem_cons_of_mem _ z), by simp at h2 ⊢; omega⟩
    · obtain ⟨h1, h2⟩ := splC_mem l (acc ++ [c]) w h
      refine ⟨fun x hx => (h1 x hx).elim (fun z => ?_) fun z => .inr (List.mem_cons_of_mem _ z), by simp at h2 ⊢; omega⟩
      rcases List.mem_append.mp z with z | z
      · exact .inl z
      · rw [List.mem_singleton.mp z]; exact .inr List.mem_cons_self
theorem splC_len {s : Nat} : ∀ (l acc : List Nat), (splC s acc l).length ≤ l.length + 1
  | [], acc => by simp [splC]
  | c :: l, acc => by
    unfold splC
    split
    · have := splC_len (s := s) l []
      simp; omega
    · have := splC_len (s := s) l (acc ++ [c])
      simp; omega
theorem WsOk_of {l : List Nat} (h : okL l = true) (hl : l.length ≤ 90000) : WsOk (splC 32 [] l) := by
  refine ⟨by have := splC_len (s := 32) l []; omega, fun w hw => ?_⟩
  obtain ⟨h1, h2⟩ := splC_mem l [] w hw
  refine ⟨okL_of fun c hc => ?_, by simp at h2; omega⟩
  rcases h1 c hc with z | z
  · cases z
  · exact of_decide_eq_true (List.all_eq_true.mp h c z)
section
variable {T : Tab}
theorem bel_encTN (n : Nat) (t : TelN) : D.bel n (encTN t) = true := by
  simp [D.bel, encTN, wD, rowD]
  cases t.low <;> cases t.high <;> simp [encO, D.bel]
theorem read_telling_run [HasF T "words_of" F_words_of] [HasF T "word_at" F_word_at] [HasF T "read_number" F_read_number] [HasF T "number_at" F_number_at] [HasF T "name_at" F_name_at] [HasF T "end_at" F_end_at] [HasF T "so_many_at" F_so_many_at] [i : HasF T "read_telling" F_read_telling] (n : Nat) {l : List Nat} (ho : okL l = true) (hl : l.length ≤ 90000) (M : Mem) :
    run T (n + 4) "read_telling" [wD l] M = orNo encTT M (readT (splC 32 [] l)) := by
  have hlim : 16777216 ≤ lim := Nat.le_refl _
  obtain ⟨ws, hws⟩ : ∃ ws, ws = splC 32 [] l := ⟨_, rfl⟩
  have wok : WsOk ws := by rw [hws]; exact WsOk_of ho hl
  have wne : ws ≠ [] := by rw [hws]; exact splC_ne _ _ _
  have wpos : 0 < ws.length := List.length_pos_iff.mpr wne
  have key : (run T (n + 4) "read_telling" [wD l] M).wpx (fun c M' => readT ws = none ∧ c = "NoText" ∧ M' = M) (fun x M' => ∃ p, readT ws = some p ∧ x = .d (encTT p) ∧ M' = M) := by
    rw [run_has i]
    refine wpx_run rfl ?_
    simp only [F_read_telling, b_read_telling]
    obtain ⟨tl, htl⟩ : ∃ s : SS, s = sSeq (sSet 2 (eCall "number_at" (dCons (eVar 1) (dCons (eC (.int 1)) (dNil))))) (sSeq (sSet 3 (eCall "name_at" (dCons (eVar 1) (dCons (eC (.int 2)) (dNil))))) (sSeq (sSet 4 (eCall "end_at" (dCons (eVar 1) (dCons (eC (.int 3)) (dNil))))) (sSeq (sSet 5 (eCall "end_at" (dCons (eVar 1) (dCons (eC
    (.int 4)) (dNil))))) (sSeq (sSet 6 (eCall "so_many_at" (dCons (eVar 1) (dCons (eC (.int 5)) (dCons (MI.e2 oSub (MI.e1 bLen (eVar 1)) (eC (.int 6))) (dNil)))))) (sSeq (sIf (tOr (tB (MI.e2 oLt (eVar 2) (eC (.int 1)))) (tAnd (tB (MI.e2 oIsNot (eVar 4) (eC (.non)))) (tAnd (tB (MI.e2 oIsNot (eVar 5) (eC (.non)))) (tB (MI.e2 oLe (eVar
    5) (eVar 4)))))) (sRaise "NoText") (sNil)) (sRet (eTup (dCons (eVar 2) (dCons (eTup (dCons (MI.e2 oIx (eVar 1) (eC (.int 0))) (dCons (eVar 3) (dCons (eVar 6) (dCons (eVar 4) (dCons (eVar 5)
    (dNil))))))) (dNil)))))))))) := ⟨_, rfl⟩
    rw [← htl]
    simp
    rw [show wD l = .str (strL l) from rfl, words_of_run (n + 2) _ (by omega), ← hws]
    simp
    obtain ⟨M1, hM1⟩ : ∃ M1, M1 = M ++ [O.lst (encW ws)] := ⟨_, rfl⟩
    have hM : M1[M.length]? = some (.lst (encW ws)) := by rw [hM1]; simp
    rw [← hM1]
    obtain ⟨w0, e0⟩ : ∃ w, ws[0]? = some w := ⟨_, List.getElem?_eq_getElem wpos⟩
    obtain ⟨wl, el⟩ : ∃ w, ws[ws.length - 1]? = some w := ⟨_, List.getElem?_eq_getElem (by omega)⟩
    have ix0 : oIx (.d (.hdl M.length)) (.d (.int 0)) M1 = .ok (.d (wD w0)) M1 := oIx_seq (ds := encW ws) (k := 0) (by simp [hM]) (ixN_pos (by omega) (by simp; omega)) (encW_at e0)
    have ixm : oIx (.d (.hdl M.length)) (.d (.int (-1))) M1 = .ok (.d (wD wl)) M1 := by
      refine oIx_seq (ds := encW ws) (k := ws.length - 1) (by simp [hM]) ?_ (encW_at el)
      unfold ixN; rw [if_neg (by omega), if_pos (by simp; omega), encW_len]; congr 1; omega
    have elast : ws.getLast? = some wl := by rw [List.getLast?_eq_getElem?, el]
    have hk : oNotIn (.d (wD w0)) (.d (.tup [.str (Str.ofString "tell"), .str (Str.ofString "strike")])) M1 = .ok (.d (.bl (!decide (w0 ∈ [kindL true, kindL false])))) M1 := by
      have := notin_words (M := M1) w0 [kindL true, kindL false]
      rw [e_tell, e_strike]
      exact this
    have okl : okL wl = true := (wok.2 wl (List.mem_of_getElem? el)).1
    have ek : ws[0]?.bind kindOf = kindOf w0 := by rw [e0]; rfl
    have kd : kindOf w0 = none ↔ ¬ (w0 = kindL true ∨ w0 = kindL false) := by
      unfold kindOf
      split
      · simp [*]
      · split <;> simp [*]
    have er1 : ∀ c, (finS Mode.pure M (SR.err c ([] : MI.Env) M1)) = .err c M := fun c => by
      show (if M1.take M.length = M then Res.err c M else .bad) = _
      rw [hM1]; simp
    have er2 : ∀ c (r : MI.Env), (finS Mode.pure M (SR.err c r M1)) = .err c M := fun c r => er1 c
    rw [ix0]
    by_cases h0 : w0 = kindL true ∨ w0 = kindL false
    rotate_left
    · have hf : decide (w0 ∈ [kindL true, kindL false]) = false := by simpa using h0
      rw [hf] at hk
      simp [hk, er2]
      have : readT ws = none := by unfold readT; rw [ek, kd.mpr h0]; rfl
      simpa using this
    have hf : decide (w0 ∈ [kindL true, kindL false]) = true := by simpa using h0
    rw [hf] at hk
    simp [hk]
    obtain ⟨k, hkk⟩ : ∃ k, kindOf w0 = some k := by
      cases e : kindOf w0 with
      | none => exact absurd h0 (kd.mp e)
      | some k => exact ⟨k, rfl⟩
    have ew0 : w0 = kindL k := by
      unfold kindOf at hkk
      split at hkk
      · cases hkk; assumption
      · split at hkk
        · cases hkk; assumption
        · cases hkk
    simp [hM, ixm]
    by_cases h6 : ws.length < 6
    · rw [if_pos (by omega), er2]
      have : readT ws = none := by unfold readT; rw [ek, hkk]; simp [h6]
      simpa using this
    rw [if_neg (by omega), e_point]
    rw [show oNe (.d (wD wl)) (.d (.str (strL [46]))) M1 = .ok (.d (.bl (!decide (wl = [46])))) M1 from oNe_strL okl rfl]
    simp
    by_cases h46 : wl = [46]
    rotate_left
    · rw [if_neg h46, er2]
      have : readT ws = none := by unfold readT; rw [ek, hkk, elast]; simp [h46]
      simpa using this
    rw [if_pos h46]
    have er : readT ws = ((ws[1]?.bind readL).bind fun turn => (ws[2]?.bind nmL).bind fun nm => (ws[3]?.bind readE).bind fun lo => (ws[4]?.bind readE).bind fun hi =>
        (soMany ws 5 ((ws.length : Int) - 6)).bind fun row => if turn < 1 ∨ badE lo hi = true then none else some (turn, ⟨k, nm, row, lo, hi⟩)) := by
      unfold readT
      rw [ek, hkk, elast, h46]
      simp only [Option.bind_some]
      rw [if_neg (by simp; omega)]
    rw [er]
    have q1 := number_at_run (T := T) (h := M.length) (n + 1) 1 M1 hM wok
    have q2 := name_at_run (T := T) (h := M.length) (n + 1) 2 M1 hM wok
    have q3 := end_at_run (T := T) (h := M.length) n 3 M1 hM wok
    have q4 := end_at_run (T := T) (h := M.length) n 4 M1 hM wok
    have q5 := so_many_run (T := T) (h := M.length) (n + 1) 5 ((ws.length : Int) - 6) M1 hM wok
    rw [show (fun w => if nameL w = true then some w else none) = nmL from rfl] at q2
    simp only [show ((1 : Nat) : Int) = 1 from rfl, show ((2 : Nat) : Int) = 2 from rfl, show ((3 : Nat) : Int) = 3 from rfl, show ((4 : Nat) : Int) = 4 from rfl, show ((5 : Nat) : Int) = 5 from rfl] at q1 q2 q3 q4 q5
    rw [htl]
    cases v1 : ws[1]?.bind readL with
    | none => simp [q1, v1, orNo, er2]
    | some turn =>
      simp [q1, v1, orNo]
      cases v2 : ws[2]?.bind nmL with
      | none => simp [q2, v2, orNo, er2]
      | some nm =>
        simp [q2, v2, orNo]
        cases v3 : ws[3]?.bind readE with
        | none => simp [q3, v3, orNo, er2]
        | some lo =>
          simp [q3, v3, orNo]
          cases v4 : ws[4]?.bind readE with
          | none => simp [q4, v4, orNo, er2]
          | some hi =>
            simp [q4, v4, orNo, hM]
            cases v5 : soMany ws 5 ((ws.length : Int) - 6) with
            | none => simp [q5, v5, orNo, er2]
            | some row =>
              simp [q5, v5, orNo]
              have bel : D.bel M.length (encTT (turn, ⟨k, nm, row, lo, hi⟩)) = true := by
                have := bel_encTN M.length ⟨k, nm, row, lo, hi⟩
                simp [encTT, D.bel, this]
              have fn : fin .pure M (.d (encTT (turn, ⟨k, nm, row, lo, hi⟩))) M1 = .ok (.d (encTT (turn, ⟨k, nm, row, lo, hi⟩))) M := by rw [hM1, fin_d bel nofun]
              have fn2 : ∀ d, encTT (turn, ⟨k, nm, row, lo, hi⟩) = d → fin .pure M (.d d) M1 = .ok (.d d) M := fun d e => by rw [← e]; exact fn
              by_cases ht : turn < 1
              · rw [if_pos ht, er2]; simp [ht]
              rw [if_neg ht]
              cases lo with
              | none =>
                simp [encO, ix0, ht, badE]
                have e2 : encTT (turn, ⟨k, nm, row, none, hi⟩) = .tup [.int turn, .tup [wD w0, wD nm, rowD row, .non, encO hi]] := by rw [ew0]; rfl
                rw [e2] at fn
                cases hi with
                | none => simp only [encO] at fn e2; simp [fn]; exact ⟨_, _, ⟨by omega, rfl, rfl⟩, e2.symm⟩
                | some b => simp only [encO] at fn e2; simp [fn]; exact ⟨_, _, ⟨by omega, rfl, rfl⟩, e2.symm⟩
              | some a =>
                cases hi with
                | none =>
                  simp [encO, ix0, ht, badE]
                  have e2 : encTT (turn, ⟨k, nm, row, some a, none⟩) = .tup [.int turn, .tup [wD w0, wD nm, rowD row, .int a, .non]] := by rw [ew0]; rfl
                  rw [e2] at fn
                  simp [fn]
                  exact ⟨_, _, ⟨by omega, rfl, rfl⟩, e2.symm⟩
                | some b =>
                  simp [encO, badE]
                  by_cases hab : b ≤ a
                  · rw [if_pos hab, er2]; simp [hab]
                  · rw [if_neg hab]
                    simp [ix0, ht, hab]
                    have e2 : encTT (turn, ⟨k, nm, row, some a, some b⟩) = .tup [.int turn, .tup [wD w0, wD nm, rowD row, .int a, .int b]] := by rw [ew0]; rfl
                    rw [e2] at fn
                    simp [fn]
                    exact ⟨_, _, ⟨⟨by omega, by omega⟩, rfl, rfl⟩, e2.symm⟩
  rw [← hws]
  rcases Res.wpx_ex key with ⟨a, M', e, w, h1, rfl, rfl⟩ | ⟨c, M', e, h1, rfl, rfl⟩
  · rw [e, h1]; rfl
  · rw [e, h1]; rfl
end
end HW
end
section
set_option linter.all false
set_option autoImplicit false
namespace HW
open MI PySem
def encDue (o : Option (Int × TelN)) : D := match o with
  | some p => encTT p
  | none => .non
theorem in_none {M : Mem} {j : Nat} (A : List (Option Int)) (h : M[j]? = some (.lst (A.map encN))) : oIn (.d .non) (.d (.hdl j)) M = .ok (.d (.bl (decide (none ∈ A)))) M := by
  have hall : (A.map encN).all D.flat = true := by
    rw [List.all_map, List.all_eq_true]
    intro o _
    cases o <;> rfl
  have hany : ((A.map encN).any fun d => feq d .non) = decide (none ∈ A) := by
    rw [List.any_map, Bool.eq_iff_iff, List.any_eq_true, decide_eq_true_eq]
    constructor
    · rintro ⟨o, ho, e⟩
      cases o with
      | none => exact ho
      | some v => simp [encN, feq] at e
    · intro ho
      exact ⟨none, ho, rfl⟩
  have fl : D.flat .non = true := rfl
  simp only [oIn, inR, dicOf, seqOf, lstOf, h, hall, hany, fl, Bool.and_self, if_true, vB]
theorem mapM_none {A B : Type} {f : A → Option B} : ∀ {l : List A}, none ∈ l.map f → l.mapM f = none
  | a :: l, h => by
    rw [List.mapM_cons]
    cases e : f a with
    | none => rfl
    | some b =>
      rw [List.map_cons, e] at h
      have h2 : none ∈ l.map f := by simpa using h
      show (do let r ← some b; let rs ← l.mapM f; pure (r :: rs)) = none
      rw [mapM_none h2]; rfl
theorem mapM_all {A B : Type} {f : A → Option B} : ∀ {l : List A}, ¬ none ∈ l.map f → ∃ bs, l.mapM f = some bs ∧ l.map f = bs.map some
  | [], _ => ⟨[], rfl, rfl⟩
  | a :: l, h => by
    rw [List.map_cons] at h
    simp only [List.mem_cons, not_or] at h
    obtain ⟨bs, e1, e2⟩ := mapM_all (f := f) (l := l) h.2
    cases e : f a with
    | none => exact absurd e.symm h.1
    | some b =>
      refine ⟨b :: bs, ?_, by rw [List.map_cons, e, e2]; rfl⟩
      rw [List.mapM_cons, e, e1]; rfl
theorem cut_lt {A : Type} (l : List A) (i : Nat) (j : Nat) (h : j ≤ l.length) : cut l (some (i : Int)) (some (-(j : Int))) = (l.drop i).take (l.length - j - i) ∨ j = 0 := by
  by_cases hj : j = 0
  · exact .inr hj
  refine .inl ?_
  have a1 : sIx l.length 0 (some (i : Int)) = min i l.length := by unfold sIx; simp only []; rw [if_neg (by omega)]; omega
  have a2 : sIx l.length l.length (some (-(j : Int))) = l.length - j := by unfold sIx; simp only []; rw [if_pos (by omega)]; omega
  unfold cut
  rw [a1, a2]
  by_cases hi : i ≤ l.length
  · rw [Nat.min_eq_left hi]
  · rw [Nat.min_eq_right (by omega), List.drop_of_length_le (Nat.le_refl _), List.drop_of_length_le (by omega)]; simp
section
variable {T : Tab}
theorem law_due46_run [HasF T "_law_read" F__law_read] [i : HasF T "_law_due" F__law_due_k46] (n : Nat) {l : List Nat} (ho : okL l = true) (hl : l.length ≤ 90000) (M : Mem) :
    run T (n + 2) "_law_due" [wD l] M = .ok (.d (encDue (readT (splC 32 [] l)))) M := by
  have hlim : 16777216 ≤ lim := Nat.le_refl _
  obtain ⟨ws, hws⟩ : ∃ ws, ws = splC 32 [] l := ⟨_, rfl⟩
  have wok : WsOk ws := by rw [hws]; exact WsOk_of ho hl
  have wne : ws ≠ [] := by rw [hws]; exact splC_ne _ _ _
  have wpos : 0 < ws.length := List.length_pos_iff.mpr wne
  rw [← hws, run_has i, ← Res.wp_eq]
  refine wp_run rfl ?_
  simp only [F__law_due_k46, b__law_due_k46]
  obtain ⟨tl2, htl2⟩ : ∃ s : SS, s = sSeq (sSet 4 (eComp (eIf (tB (MI.e2 oEq (eVar 6) (eC (.str "-"))))
    (eC (.non)) (eCall "_law_read" (dCons (eVar 6) (dNil)))) (tYes) (.nm 6) [6] (iSeq (eSlice (eVar 1) (oSome (eC (.int 3))) (oSome (eC (.int 5))))))) (sRet (eTup (dCons (MI.e2 oIx (eVar 3) (eC (.int
    0))) (dCons (eTup (dCons (MI.e2 oIx (eVar 1) (eC (.int 0))) (dCons (eVar 2) (dCons (MI.e1 bTuple (eSlice (eVar 3) (oSome (eC (.int 1))) (oNone))) (dCons (MI.e2 oIx (eVar 4) (eC (.int 0))) (dCons (MI.e2 oIx
    (eVar 4) (eC (.int 1))) (dNil))))))) (dNil))))) := ⟨_, rfl⟩
  obtain ⟨tl, htl⟩ : ∃ s : SS, s = sSeq (sSet 3 (eComp (eCall "_law_read" (dCons (eVar 6)
    (dNil))) (tYes) (.nm 6) [6] (iSeq (MI.e2 oAdd (eSlice (eVar 1) (oSome (eC (.int 1))) (oSome (eC (.int 2)))) (eSlice (eVar 1) (oSome (eC (.int 5))) (oSome (MI.e1 oNeg (eC (.int 1))))))))) (sSeq (sSet 4
    (eComp (eCall "_law_read" (dCons (eVar 6) (dNil))) (tB (MI.e2 oNe (eVar 6) (eC (.str "-")))) (.nm 6) [6] (iSeq (eSlice (eVar 1) (oSome (eC (.int 3))) (oSome (eC (.int 5))))))) (sSeq (sIf (tOr (tB (MI.e2
    oIn (eC (.non)) (eVar 3))) (tOr (tB (MI.e2 oIn (eC (.non)) (eVar 4))) (tB (MI.e2 oLt (MI.e2 oIx (eVar 3) (eC (.int 0))) (eC (.int 1)))))) (sRet (eC (.non))) (sNil)) (sSeq (sIf (tAnd (tB (MI.e2 oEq (MI.e1 bLen
    (eVar 4)) (eC (.int 2)))) (tB (MI.e2 oGe (MI.e2 oIx (eVar 4) (eC (.int 0))) (MI.e2 oIx (eVar 4) (eC (.int 1)))))) (sRet (eC (.non))) (sNil)) tl2))) := ⟨_, rfl⟩
  rw [← htl2, ← htl]
  simp
  rw [show wD l = .str (strL l) from rfl, e_blank]
  simp
  rw [tSplit_sp l (by omega), ← hws]
  simp
  obtain ⟨M1, hM1⟩ : ∃ M1, M1 = M ++ [O.lst (encW ws)] := ⟨_, rfl⟩
  have hM : M1[M.length]? = some (.lst (encW ws)) := by rw [hM1]; simp
  rw [← hM1]
  have fn0 : (fin .pure M (.d .non) M1) = .ok (.d .non) M := by rw [hM1, fin_d (x := .non) rfl nofun]
  by_cases h6 : ws.length < 6
  · rw [if_pos (by omega)]
    have : readT ws = none := by
      unfold readT
      cases ws[0]?.bind kindOf with
      | none => rfl
      | some k => simp [h6]
    rw [this]; first | exact ⟨rfl, rfl⟩ | rfl | (rw [fn0]; exact ⟨rfl, rfl⟩)
  rw [if_neg (by omega)]
  obtain ⟨w0, e0⟩ : ∃ w, ws[0]? = some w := ⟨_, List.getElem?_eq_getElem wpos⟩
  obtain ⟨w1, e1⟩ : ∃ w, ws[1]? = some w := ⟨_, List.getElem?_eq_getElem (by omega)⟩
  obtain ⟨w2, e2⟩ : ∃ w, ws[2]? = some w := ⟨_, List.getElem?_eq_getElem (by omega)⟩
  obtain ⟨w3, e3⟩ : ∃ w, ws[3]? = some w := ⟨_, List.getElem?_eq_getElem (by omega)⟩
  obtain ⟨w4, e4⟩ : ∃ w, ws[4]? = some w := ⟨_, List.getElem?_eq_getElem (by omega)⟩
  obtain ⟨wl, el⟩ : ∃ w, ws[ws.length - 1]? = some w := ⟨_, List.getElem?_eq_getElem (by omega)⟩
  have okw : ∀ {j w}, ws[j]? = some w → okL w = true ∧ w.length ≤ 100000 := fun h => wok.2 _ (List.mem_of_getElem? h)
  have ix : ∀ (k : Nat) (w : List Nat) (m : Mem), ws[k]? = some w → oIx (.d (.hdl M.length)) (.d (.int (k : Int))) (M1 ++ m) = .ok (.d (wD w)) (M1 ++ m) := fun k w m h => by
    have hk : k < ws.length := (List.getElem?_eq_some_iff.mp h).1
    exact oIx_seq (ds := encW ws) (k := k) (by simp [get_ahead hM]) (by rw [ixN_pos (by omega) (by simp; omega)]; simp) (encW_at h)
  have ix0 := fun m => ix 0 w0 m e0
  have ix2 := fun m => ix 2 w2 m e2
  simp only [show ((0 : Nat) : Int) = 0 from rfl, show ((2 : Nat) : Int) = 2 from rfl] at ix0 ix2
  have ix0' := ix0 []
  have ix2' := ix2 []
  rw [List.append_nil] at ix0' ix2'
  have ixm : oIx (.d (.hdl M.length)) (.d (.int (-1))) M1 = .ok (.d (wD wl)) M1 := by
    refine oIx_seq (ds := encW ws) (k := ws.length - 1) (by simp [hM]) ?_ (encW_at el)
    unfold ixN; rw [if_neg (by omega), if_pos (by simp; omega), encW_len]; congr 1; omega
  have elast : ws.getLast? = some wl := by rw [List.getLast?_eq_getElem?, el]
  have hk : oNotIn (.d (wD w0)) (.d (.tup [.str (Str.ofString "tell"), .str (Str.ofString "strike")])) M1 = .ok (.d (.bl (!decide (w0 ∈ [kindL true, kindL false])))) M1 := by
    have := notin_words (M := M1) w0 [kindL true, kindL false]
    rw [e_tell, e_strike]
    exact this
  have ek : ws[0]?.bind kindOf = kindOf w0 := by rw [e0]; rfl
  have kd : kindOf w0 = none ↔ ¬ (w0 = kindL true ∨ w0 = kindL false) := by
    unfold kindOf
    split
    · simp [*]
    · split <;> simp [*]
  rw [ix0']
  by_cases h0 : w0 = kindL true ∨ w0 = kindL false
  rotate_left
  · have hf : decide (w0 ∈ [kindL true, kindL false]) = false := by simpa using h0
    rw [hf] at hk
    simp [hk]
    have : readT ws = none := by unfold readT; rw [ek, kd.mpr h0]; rfl
    rw [this]; first | exact ⟨rfl, rfl⟩ | rfl | (rw [fn0]; exact ⟨rfl, rfl⟩)
  have hf : decide (w0 ∈ [kindL true, kindL false]) = true := by simpa using h0
  rw [hf] at hk
  simp [hk]
  obtain ⟨k, hkk⟩ : ∃ k, kindOf w0 = some k := by
    cases e : kindOf w0 with
    | none => exact absurd h0 (kd.mp e)
    | some k => exact ⟨k, rfl⟩
  have ew0 : w0 = kindL k := by
    unfold kindOf at hkk
    split at hkk
    · cases hkk; assumption
    · split at hkk
      · cases hkk; assumption
      · cases hkk
  rw [ixm]
  simp
  rw [e_point, show oNe (.d (wD wl)) (.d (.str (strL [46]))) M1 = .ok (.d (.bl (!decide (wl = [46])))) M1 from oNe_strL (okw el).1 rfl]
  simp
  by_cases h46 : wl = [46]
  rotate_left
  · rw [if_neg h46]
    have : readT ws = none := by unfold readT; rw [ek, hkk, elast]; simp [h46]
    rw [this]; first | exact ⟨rfl, rfl⟩ | rfl | (rw [fn0]; exact ⟨rfl, rfl⟩)
  rw [if_pos h46]
  have er : readT ws = ((readL w1).bind fun turn => (nmL w2).bind fun nm => (readE w3).bind fun lo => (readE w4).bind fun hi =>
      (soMany ws 5 ((ws.length : Int) - 6)).bind fun row => if turn < 1 ∨ badE lo hi = true then none else some (turn, ⟨k, nm, row, lo, hi⟩)) := by
    unfold readT
    rw [ek, hkk, elast, h46, e1, e2, e3, e4]
    simp only [Option.bind_some]
    rw [if_neg (by simp; omega)]
  have o2 := okw e2
  have hwl : w2.length ≤ lim := by omega
  simp [ix2', wD, hwl, strD_strL]
  have nmN : nameL w2 = false → readT ws = none := fun h => by
    have : nmL w2 = none := by unfold nmL; rw [if_neg (by rw [h]; decide)]
    rw [er, this]
    cases readL w1 <;> rfl
  by_cases n1 : w2.length < 1
  · rw [if_pos (by omega), nmN (by unfold nameL; simp; omega)]; first | exact ⟨rfl, rfl⟩ | rfl | (rw [fn0]; exact ⟨rfl, rfl⟩)
  rw [if_neg (by omega)]
  by_cases n2 : 8 < w2.length
  · rw [if_pos (by omega), nmN (by unfold nameL; simp; omega)]; first | exact ⟨rfl, rfl⟩ | rfl | (rw [fn0]; exact ⟨rfl, rfl⟩)
  rw [if_neg (by omega)]
  have hn : nameL w2 = w2.all fun c => decide (c ∈ LET) := by
    unfold nameL
    rw [decide_eq_true (show 1 ≤ w2.length by omega), decide_eq_true (show w2.length ≤ 8 by omega), Bool.true_and, Bool.true_and]
  have cm := compL_map (fun c => D.str (strL [c])) (M := M1) (c := chkR (.d (.str (strL w2))) M1) (r := MI.wipe [some (D.str (strL l)), some (.hdl M.length), some (.str (strL w2)), none, none, none, none] [5]) (tg := .nm 5) (elt := eVar 5 (run T (n + 1))) (tst := tB (MI.e2 oNotIn (eVar 5) (eC (D.str (Str.ofString "abcdefghijklmnopqrstuvwxyz")))) (run T (n + 1))) rfl (fun c => !decide (c ∈ LET)) (fun c => D.str (strL [c])) (fun c => by
    rw [e_LET]; exact ⟨rfl, fun _ => rfl⟩) w2 [] (by simp; omega)
  (try simp only [MI.wipe, List.set] at cm)
  (try simp at cm)
  rw [cm]
  simp
  have hne : oNe (.o (.lst ((w2.filter fun c => !decide (c ∈ LET)).map fun c => D.str (strL [c])))) (.o (.lst [])) M1 = .ok (.d (.bl (!decide (w2.filter (fun c => !decide (c ∈ LET)) = [])))) M1 := by
    rw [oNe_l (as := (w2.filter fun c => !decide (c ∈ LET)).map fun c => D.str (strL [c])) (bs := []) rfl rfl (pls_map fun c hc => by
      have := List.all_eq_true.mp o2.1 c (List.mem_filter.mp hc).1
      simpa using this) rfl]
    cases w2.filter fun c => !decide (c ∈ LET) <;> rfl
  rw [hne]
  simp
  by_cases ha : w2.all (fun c => decide (c ∈ LET)) = true
  rotate_left
  · obtain ⟨a, h1, h2⟩ := List.all_eq_false.mp (Bool.eq_false_iff.mpr ha)
    rw [if_pos ⟨a, h1, by simpa using h2⟩, nmN (by rw [hn]; exact Bool.eq_false_iff.mpr ha)]; first | exact ⟨rfl, rfl⟩ | rfl | (rw [fn0]; exact ⟨rfl, rfl⟩)
  have h2' : ∀ a ∈ w2, a ∈ LET := fun a h => of_decide_eq_true (List.all_eq_true.mp ha a h)
  rw [if_neg (by rintro ⟨a, h1, h2⟩; exact h2 (h2' a h1))]
  have en : nmL w2 = some w2 := by unfold nmL; rw [if_pos (by rw [hn]; exact ha)]
  rw [en] at er
  simp only [Option.bind_some] at er
  -- the numbers
  obtain ⟨rs, hrs⟩ : ∃ rs, rs = (ws.drop 5).take (ws.length - 6) := ⟨_, rfl⟩
  have rin : ∀ w ∈ rs, w ∈ ws := fun w hw => by rw [hrs] at hw; exact List.mem_of_mem_drop (List.mem_of_mem_take hw)
  have rl : rs.length ≤ 100000 := by have := wok.1; rw [hrs, List.length_take, List.length_drop]; omega
  have es : soMany ws 5 ((ws.length : Int) - 6) = rs.mapM readL := by
    unfold soMany
    rw [if_neg (by omega), hrs, show ((ws.length : Int) - 6).toNat = ws.length - 6 by omega]
  have dr1 : ws.drop 1 = w1 :: ws.drop 2 := by
    have h1 : 1 < ws.length := by omega
    rw [List.drop_eq_getElem_cons h1, (List.getElem?_eq_some_iff.mp e1).2]
  have dr3 : ws.drop 3 = w3 :: w4 :: ws.drop 5 := by
    have h3 : 3 < ws.length := by omega
    have h4 : 4 < ws.length := by omega
    rw [List.drop_eq_getElem_cons h3, (List.getElem?_eq_some_iff.mp e3).2, List.drop_eq_getElem_cons h4, (List.getElem?_eq_some_iff.mp e4).2]
  have c12 : cut (encW ws) (some 1) (some 2) = [wD w1] := by
    unfold cut sIx
    simp only [encW_len]
    rw [if_neg (by decide), if_neg (by decide), Nat.min_eq_left (by omega), Nat.min_eq_left (by omega)]
    unfold encW
    rw [← List.map_drop, show (1 : Int).toNat = 1 from rfl, dr1]
    rfl
  have c35 : cut (encW ws) (some 3) (some 5) = [wD w3, wD w4] := by
    unfold cut sIx
    simp only [encW_len]
    rw [if_neg (by decide), if_neg (by decide), Nat.min_eq_left (by omega), Nat.min_eq_left (by omega)]
    unfold encW
    rw [← List.map_drop, show (3 : Int).toNat = 3 from rfl, dr3]
    rfl
  have c5 : cut (encW ws) (some 5) (some (-1)) = encW rs := by
    have := (cut_lt (encW ws) 5 1 (by simp; omega)).resolve_right (by decide)
    rw [show ((5 : Nat) : Int) = 5 from rfl, show (-((1 : Nat) : Int)) = -1 from rfl] at this
    rw [this, encW_len, hrs]
    unfold encW
    rw [List.map_take, List.map_drop]
    congr 1
  have rd : ∀ (w : List Nat) (m : Mem), w ∈ ws → run T (n + 1) "_law_read" [wD w] m = .ok (.d (encN (readL w))) m := fun w m hw => by
    have := wok.2 w hw
    exact law_read_run n w this.1 (by omega) m
  obtain ⟨A, hA⟩ : ∃ A, A = (w1 :: rs).map readL := ⟨_, rfl⟩
  obtain ⟨Ee, hE⟩ : ∃ Ee, Ee = (([w3, w4].filter fun w => !decide (w = [45])).map readL) := ⟨_, rfl⟩
  have m1 := List.mem_of_getElem? e1
  have m3 := List.mem_of_getElem? e3
  have m4 := List.mem_of_getElem? e4
  have k1 : ∀ (r : MI.Env), r.length = 7 → compL (eCall "_law_read" (dCons (eVar 6) dNil) (run T (n + 1))) (tYes (run T (n + 1))) (.nm 6) [] r (wD w1 :: encW rs) [] M1 = .ok (.o (.lst (A.map encN))) M1 := fun r hr => by
    have := compL_allM wD (elt := eCall "_law_read" (dCons (eVar 6) dNil) (run T (n + 1))) (cl := run T (n + 1)) (tg := .nm 6) (r := r) (M := M1) (c := []) rfl (fun w => encN (readL w)) (w1 :: rs) (fun w hw => by
      have hw' : w ∈ ws := by
        rcases List.mem_cons.mp hw with rfl | hw
        · exact m1
        · exact rin w hw
      match r, hr with
      | [a, b, c, d, e, f, g], _ =>
        simp
        rw [← Res.wp_eq]
        simp
        rw [rd w M1 hw']
        simp) (by simp; omega)
    rw [hA, List.map_map]
    exact this
  obtain ⟨M2, hM2⟩ : ∃ M2 : Mem, M2 = M1 ++ [O.lst (A.map encN)] := ⟨_, rfl⟩
  have g2 : M2[M.length]? = some (.lst (encW ws)) := by rw [hM2]; exact get_ahead hM
  have k2 : ∀ (r : MI.Env), r.length = 7 → compL (eCall "_law_read" (dCons (eVar 6) dNil) (run T (n + 1))) (tB (MI.e2 oNe (eVar 6) (eC (.str "-"))) (run T (n + 1))) (.nm 6) [] r [wD w3, wD w4] [] M2 = .ok (.o (.lst (Ee.map encN))) M2 := fun r hr => by
    have := compL_mapM wD (elt := eCall "_law_read" (dCons (eVar 6) dNil) (run T (n + 1))) (tst := tB (MI.e2 oNe (eVar 6) (eC (.str "-"))) (run T (n + 1))) (tg := .nm 6) (r := r) (M := M2) (c := []) rfl (fun w => !decide (w = [45])) (fun w => encN (readL w)) [w3, w4] (fun w hw => by
      have hw' : w ∈ ws := by
        simp only [List.mem_cons, List.not_mem_nil, or_false] at hw
        rcases hw with rfl | rfl
        · exact m3
        · exact m4
      have okw' := (wok.2 w hw').1
      match r, hr with
      | [a, b, c, d, e, f, g], _ =>
        refine ⟨?_, fun _ => ?_⟩
        · rw [← Res.wp_eq]
          simp
          rw [e_minus, show oNe (.d (wD w)) (.d (.str (strL [45]))) M2 = .ok (.d (.bl (!decide (w = [45])))) M2 from oNe_strL okw' rfl]
          simp
        · rw [← Res.wp_eq]
          simp
          rw [rd w M2 hw']
          exact ⟨rfl, rfl⟩) [] (by simp)
    rw [hE, List.map_map]
    exact this
  obtain ⟨M3, hM3⟩ : ∃ M3 : Mem, M3 = M2 ++ [O.lst (Ee.map encN)] := ⟨_, rfl⟩
  have g3 : M3[M.length]? = some (.lst (encW ws)) := by rw [hM3]; exact get_ahead g2
  have ga3 : M3[M1.length]? = some (.lst (A.map encN)) := by rw [hM3, hM2]; simp
  have ge3 : M3[M2.length]? = some (.lst (Ee.map encN)) := by rw [hM3]; simp
  have iA := in_none A ga3
  have iE := in_none Ee ge3
  have l1 : (1 : Nat) + rs.length ≤ lim := by omega
  have fn3 : fin .pure M (.d .non) M3 = .ok (.d .non) M := by rw [hM3, hM2, hM1, List.append_assoc, List.append_assoc, fin_d (x := .non) rfl nofun]
  rw [htl]
  simp [hM, c12, c5]
  refine ⟨l1, ?_⟩
  rw [k1 _ rfl]
  simp
  rw [← hM2]
  simp [g2, c35]
  rw [k2 _ rfl]
  simp [-oIn_hdl]
  rw [← hM3]
  rw [iA]
  simp [-oIn_hdl]
  by_cases a0 : none ∈ A
  · rw [if_pos a0]
    have : readT ws = none := by
      rw [er]
      cases v1 : readL w1 with
      | none => rfl
      | some turn =>
        simp only [Option.bind_some]
        have : none ∈ rs.map readL := by rw [hA, List.map_cons, v1] at a0; simpa using a0
        rw [es, mapM_none this]
        cases readE w3 with
        | none => rfl
        | some lo => cases readE w4 <;> rfl
    rw [this]; first | exact ⟨rfl, rfl⟩ | rfl | (rw [fn3]; exact ⟨rfl, rfl⟩)
  rw [if_neg a0]
  rw [iE]
  simp
  have rE : ∀ w, readE w = if w = [45] then some none else (readL w).map some := fun w => rfl
  by_cases b0 : none ∈ Ee
  · rw [if_pos b0]
    have : readT ws = none := by
      have : readE w3 = none ∨ readE w4 = none := by
        rw [hE] at b0
        obtain ⟨w, hw, e⟩ := List.mem_map.mp b0
        obtain ⟨hw1, hw2⟩ := List.mem_filter.mp hw
        have hn : readE w = none := by rw [rE, if_neg (by simpa using hw2), e]; rfl
        simp only [List.mem_cons, List.not_mem_nil, or_false] at hw1
        rcases hw1 with rfl | rfl
        · exact .inl hn
        · exact .inr hn
      rw [er]
      cases readL w1 with
      | none => rfl
      | some turn =>
        rcases this with h | h
        · rw [h]; rfl
        · rw [h]; cases readE w3 <;> rfl
    rw [this]; first | exact ⟨rfl, rfl⟩ | rfl | (rw [fn3]; exact ⟨rfl, rfl⟩)
  rw [if_neg b0]
  -- all are read
  rw [hA] at a0
  obtain ⟨turn, v1⟩ : ∃ v, readL w1 = some v := by
    cases v1 : readL w1 with
    | none => exact absurd (by rw [List.map_cons, v1]; simp) a0
    | some v => exact ⟨v, rfl⟩
  obtain ⟨row, v5, v5'⟩ := mapM_all (f := readL) (l := rs) fun z => a0 (by rw [List.map_cons]; exact List.mem_cons_of_mem _ z)
  have eA : A.map encN = D.int turn :: row.map D.int := by rw [hA, List.map_cons, v1, v5']; simp [encN, Function.comp_def]
  have xA : oIx (.d (.hdl M1.length)) (.d (.int 0)) M3 = .ok (.d (.int turn)) M3 := oIx_seq (ds := A.map encN) (k := 0) (by simp [ga3]) (ixN_pos (by omega) (by rw [eA]; simp)) (by rw [eA]; rfl)
  rw [xA]
  simp
  rw [v1, es, v5] at er
  simp only [Option.bind_some] at er
  have ends : ∀ w ∈ [w3, w4], ∃ o, readE w = some o ∧ (w = [45] → o = none) ∧ (w ≠ [45] → ∃ v, o = some v ∧ readL w = some v) := fun w hw => by
    by_cases h : w = [45]
    · exact ⟨none, by rw [rE, if_pos h], fun _ => rfl, fun z => absurd h z⟩
    · cases v : readL w with
      | none => exact absurd (by rw [hE]; exact List.mem_map.mpr ⟨w, List.mem_filter.mpr ⟨hw, by simpa using h⟩, v⟩) b0
      | some x => exact ⟨some x, by rw [rE, if_neg h, v]; rfl, fun z => absurd z h, fun _ => ⟨x, rfl, rfl⟩⟩
  obtain ⟨lo, v3, p3, q3⟩ := ends w3 (by simp)
  obtain ⟨hi, v4, p4, q4⟩ := ends w4 (by simp)
  rw [v3, v4] at er
  simp only [Option.bind_some] at er
  by_cases ht : turn < 1
  · rw [if_pos ht]
    rw [if_pos (.inl ht)] at er
    rw [er]; first | exact ⟨rfl, rfl⟩ | rfl | (rw [fn3]; exact ⟨rfl, rfl⟩)
  rw [if_neg ht]
  simp [ge3]
  -- the last comprehension
  obtain ⟨M4, hM4⟩ : ∃ M4 : Mem, M4 = M3 ++ [O.lst [encN lo, encN hi]] := ⟨_, rfl⟩
  have k3 : ∀ (r : MI.Env), r.length = 7 → compL (eIf (tB (MI.e2 oEq (eVar 6) (eC (.str "-")))) (eC (.non)) (eCall "_law_read" (dCons (eVar 6) dNil)) (run T (n + 1))) (tYes (run T (n + 1))) (.nm 6) [] r [wD w3, wD w4] [] M3 = .ok (.o (.lst [encN lo, encN hi])) M3 := fun r hr => by
    have := compL_allM wD (elt := eIf (tB (MI.e2 oEq (eVar 6) (eC (.str "-")))) (eC (.non)) (eCall "_law_read" (dCons (eVar 6) dNil)) (run T (n + 1))) (cl := run T (n + 1)) (tg := .nm 6) (r := r) (M := M3) (c := []) rfl (fun w => encN ((readE w).bind id)) [w3, w4] (fun w hw => by
      obtain ⟨o, h1, h2, h3⟩ := ends w hw
      have hw' : w ∈ ws := by
        simp only [List.mem_cons, List.not_mem_nil, or_false] at hw
        rcases hw with rfl | rfl
        · exact m3
        · exact m4
      have okw' := (wok.2 w hw').1
      match r, hr with
      | [a, b, c, d, e, f, g], _ =>
        simp
        rw [← Res.wp_eq]
        simp
        rw [e_minus, show oEq (.d (wD w)) (.d (.str (strL [45]))) M3 = .ok (.d (.bl (decide (w = [45])))) M3 from oEq_strL okw' rfl]
        simp
        rw [h1]
        by_cases h : w = [45]
        · rw [if_pos h, h2 h]; rfl
        · obtain ⟨v, rfl, e⟩ := h3 h
          rw [if_neg h, rd w M3 hw', e]; exact ⟨rfl, rfl⟩) (by simp)
    rw [show ([w3, w4].map fun w => encN ((readE w).bind id)) = [encN lo, encN hi] by simp [v3, v4]] at this
    exact this
  have g4 : M4[M.length]? = some (.lst (encW ws)) := by rw [hM4]; exact get_ahead g3
  have ga4 : M4[M1.length]? = some (.lst (A.map encN)) := by rw [hM4]; exact get_ahead ga3
  have gl4 : M4[M3.length]? = some (.lst [encN lo, encN hi]) := by rw [hM4]; simp
  have eM4 : M4 = M ++ [.lst (encW ws), .lst (A.map encN), .lst (Ee.map encN), .lst [encN lo, encN hi]] := by rw [hM4, hM3, hM2, hM1]; simp
  have rest : badE lo hi = false → (tl2 (run T (n + 1)) [some (.str (strL l)), some (.hdl M.length), some (.str (strL w2)), some (.hdl M1.length), some (.hdl M2.length), none, none] M3).wp (fun x M' => (fin .pure M (.d .non) M').wp fun x M' => x = .d (encDue (readT ws)) ∧ M' = M) fun x M' => (fin .pure M x M').wp fun x M' => x = .d (encDue (readT ws)) ∧ M' = M := fun hb => by
    rw [if_neg (by rw [hb]; simp [ht])] at er
    rw [htl2]
    simp [g3, c35]
    rw [k3 _ rfl]
    simp
    rw [← hM4]
    have y0 : oIx (.d (.hdl M1.length)) (.d (.int 0)) M4 = .ok (.d (.int turn)) M4 := oIx_seq (ds := A.map encN) (k := 0) (by simp [ga4]) (ixN_pos (by omega) (by rw [eA]; simp)) (by rw [eA]; rfl)
    have y1 : oIx (.d (.hdl M.length)) (.d (.int 0)) M4 = .ok (.d (wD w0)) M4 := oIx_seq (ds := encW ws) (k := 0) (by simp [g4]) (ixN_pos (by omega) (by simp; omega)) (encW_at e0)
    have y2 : oIx (.d (.hdl M3.length)) (.d (.int 0)) M4 = .ok (.d (encN lo)) M4 := oIx_seq (ds := [encN lo, encN hi]) (k := 0) (by simp [gl4]) (ixN_pos (by omega) (by simp)) rfl
    have y3 : oIx (.d (.hdl M3.length)) (.d (.int 1)) M4 = .ok (.d (encN hi)) M4 := oIx_seq (ds := [encN lo, encN hi]) (k := 1) (by simp [gl4]) (ixN_pos (by omega) (by simp)) rfl
    have cA : cut (A.map encN) (some 1) none = row.map D.int := by rw [cut_from _ (by decide), eA]; rfl
    rw [y0]
    simp
    rw [y1]
    simp [ga4, cA]
    rw [y2]
    simp
    rw [y3]
    simp
    have eq : D.tup [D.int turn, D.tup [wD w0, D.str (strL w2), D.tup (row.map D.int), encN lo, encN hi]] = encDue (readT ws) := by
      rw [er, ew0]
      cases lo <;> cases hi <;> rfl
    rw [eq, eM4, fin_d (by
      rw [er]
      have := bel_encTN M.length ⟨k, w2, row, lo, hi⟩
      simp [encDue, encTT, D.bel, this]) (by rw [er]; intro n h; cases h)]
    exact ⟨rfl, rfl⟩
  by_cases h3 : w3 = [45]
  · have z3 := p3 h3
    have hb : badE lo hi = false := by rw [z3]; rfl
    have el : Ee.length ≠ 2 := by rw [hE, h3]; by_cases h4 : w4 = [45] <;> simp [h4]
    rw [if_neg (by omega)]
    exact rest hb
  obtain ⟨a, ya, ra⟩ := q3 h3
  by_cases h4 : w4 = [45]
  · have z4 := p4 h4
    have hb : badE lo hi = false := by rw [z4, ya]; rfl
    have el : Ee.length ≠ 2 := by rw [hE, h4]; simp [h3]
    rw [if_neg (by omega)]
    exact rest hb
  obtain ⟨b, yb, rb⟩ := q4 h4
  have eE : Ee.map encN = [.int a, .int b] := by rw [hE]; simp [h3, h4, ra, rb, encN]
  have el : Ee.length = 2 := by have := congrArg List.length eE; simpa using this
  rw [if_pos (by omega)]
  have x0 : oIx (.d (.hdl M2.length)) (.d (.int 0)) M3 = .ok (.d (.int a)) M3 := oIx_seq (ds := Ee.map encN) (k := 0) (by simp [ge3]) (ixN_pos (by omega) (by rw [eE]; simp)) (by rw [eE]; rfl)
  have x1 : oIx (.d (.hdl M2.length)) (.d (.int 1)) M3 = .ok (.d (.int b)) M3 := oIx_seq (ds := Ee.map encN) (k := 1) (by simp [ge3]) (ixN_pos (by omega) (by rw [eE]; simp)) (by rw [eE]; rfl)
  rw [x0]
  simp
  rw [x1]
  simp
  by_cases hab : b ≤ a
  · rw [if_pos hab]
    have hb : badE lo hi = true := by rw [ya, yb]; simp [badE, hab]
    rw [if_pos (.inr hb)] at er
    rw [er]; first | exact ⟨rfl, rfl⟩ | rfl | (rw [fn3]; exact ⟨rfl, rfl⟩)
  · rw [if_neg hab]
    exact rest (by rw [ya, yb]; simp [badE]; omega)
end
end HW
end
section
set_option linter.all false
set_option autoImplicit false
namespace HW
open MI PySem
section
variable {T : Tab}
theorem LET_at {j : Nat} (h : j < 26) : ∃ c, LET[j]? = some c ∧ c ∈ LET := ⟨_, List.getElem?_eq_getElem (show j < LET.length from h), List.getElem_mem _⟩
theorem law_name_ex [HasF T "_law_draw" F__law_draw] [i : HasF T "_law_name" F__law_name] (ns : List Int) (k : Int) (n : Nat) (M : Mem) : ∃ w : List Nat, nameL w = true ∧ run T (n + 2) "_law_name" [scr ns, .int k] M = .ok (.d (wD w)) M := by
  have : (run T (n + 2) "_law_name" [scr ns, .int k] M).wp fun x M' => ∃ w : List Nat, nameL w = true ∧ x = .d (wD w) ∧ M' = M := by
    have hlim := lim_big
    rw [run_has i]
    refine wp_run rfl ?_
    have dr : ∀ (k many : Int) M, 0 < many → run T (n + 1) "_law_draw" [scr ns, .int k, .int many] M = .ok (.d (.int (lawDraw ns k many))) M := fun k many M hm => law_draw_run n ns k many hm M
    have d0 := lawDraw_nn ns k (show (0 : Int) < 8 by decide)
    have d1 := lawDraw_lt ns k (show (0 : Int) < 8 by decide)
    simp [F__law_name, b__law_name, dr]
    refine ⟨by omega, ?_⟩
    refine forL_range (fun j env M' => M' = M ∧ ∃ (w : List Nat) (j3 : Option D), env = [some (scr ns), some (.int k), some (wD w), j3] ∧ w.length = j ∧ ∀ c ∈ w, c ∈ LET) ?_ ?_ _ _ ⟨rfl, [], none, by rw [e_nil]; rfl, rfl, fun _ h => nomatch h⟩
    · rintro env M' ⟨rfl, w, j3, rfl, hw, hc⟩
      simp
      rw [fin_d0 (x := wD w) rfl nofun]
      refine ⟨w, ?_, rfl, rfl⟩
      unfold nameL
      rw [decide_eq_true (show 1 ≤ w.length by omega), decide_eq_true (show w.length ≤ 8 by omega), Bool.true_and, Bool.true_and]
      exact List.all_eq_true.mpr fun c h => decide_eq_true (hc c h)
    · rintro j env M' hj ⟨rfl, w, j3, rfl, hw, hc⟩
      have a0 := lawDraw_nn ns (k + 1 + (j : Int)) (show (0 : Int) < 26 by decide)
      have a1 := lawDraw_lt ns (k + 1 + (j : Int)) (show (0 : Int) < 26 by decide)
      obtain ⟨c, c1, c2⟩ := LET_at (j := (lawDraw ns (k + 1 + (j : Int)) 26).toNat) (by omega)
      have ix : oIx (.d (.str (strL LET))) (.d (.int (lawDraw ns (k + 1 + (j : Int)) 26))) M' = .ok (.d (.str (strL [c]))) M' := oIx_strL (by decide) (ixN_pos a0 (by show _ < ((26 : Nat) : Int); omega)) c1
      simp [dr, wD]
      rw [e_LET, ix]
      simp
      exact ⟨by omega, rfl, w ++ [c], _, rfl, by simp [hw], fun x hx => by
        rcases List.mem_append.mp hx with hx | hx
        · exact hc x hx
        · rw [List.mem_singleton.mp hx]; exact c2⟩
  obtain ⟨x, M', e, w, h1, rfl, rfl⟩ := Res.wp_ex this
  exact ⟨w, h1, e⟩
theorem law_number_ex [HasF T "_law_draw" F__law_draw] [HasF T "_law_far" F__law_far] [i : HasF T "_law_number" F__law_number] (ns : List Int) (k : Int) (n : Nat) (M : Mem) : ∃ v : Int, v.natAbs < 10 ^ 60 ∧ run T (n + 3) "_law_number" [scr ns, .int k] M = .ok (.d (.int v)) M := by
  have : (run T (n + 3) "_law_number" [scr ns, .int k] M).wp fun x M' => ∃ v : Int, x = .d (.int v) ∧ v.natAbs < 10 ^ 60 ∧ M' = M := by
    rw [run_has i]
    refine wp_run rfl ?_
    have dr : ∀ (k many : Int) M, 0 < many → run T (n + 2) "_law_draw" [scr ns, .int k, .int many] M = .ok (.d (.int (lawDraw ns k many))) M := fun k many M hm => law_draw_run (n + 1) ns k many hm M
    obtain ⟨v, v0, v1, hv⟩ := law_far_ex (T := T) ns (k + 1)
    have a0 := lawDraw_nn ns (k + 1) (show (0 : Int) < 25 by decide)
    have a1 := lawDraw_lt ns (k + 1) (show (0 : Int) < 25 by decide)
    have b0 := lawDraw_nn ns (k + 1) (show (0 : Int) < 3 by decide)
    have b1 := lawDraw_lt ns (k + 1) (show (0 : Int) < 3 by decide)
    simp [F__law_number, b__law_number, dr, hv]
    simp at v1
    split
    · omega
    split
    · omega
    split
    · omega
    · omega
  obtain ⟨x, M', e, v, rfl, h1, rfl⟩ := Res.wp_ex this
  exact ⟨v, h1, e⟩
theorem tup_eq {M : Mem} {a b : List D} (ha : pls 15 a = true) (hb : pls 15 b = true) : oEq (.d (.tup a)) (.d (.tup b)) M = .ok (.d (.bl (deqs a b))) M := by
  rw [oEq_d (by rw [pl_tup]; exact ha) (by rw [pl_tup]; exact hb), deq_tup]
theorem tup_ne {M : Mem} {a b : List D} (ha : pls 15 a = true) (hb : pls 15 b = true) : oNe (.d (.tup a)) (.d (.tup b)) M = .ok (.d (.bl (!deqs a b))) M := by
  rw [oNe_d (by rw [pl_tup]; exact ha) (by rw [pl_tup]; exact hb), deq_tup]
theorem law_telling45_ex [HasF T "_law_draw" F__law_draw] [HasF T "_law_far" F__law_far] [HasF T "_law_number" F__law_number] [HasF T "_law_name" F__law_name] [i : HasF T "_law_telling" F__law_telling_k45] (ns : List Int) (k : Int) (n : Nat) (M : Mem) :
    ∃ t : TelN, (∀ turn, 1 ≤ turn → turn < 10 ^ 60 → TelOk turn t) ∧ t.row.length ≤ 8 ∧ run T (n + 4) "_law_telling" [scr ns, .int k] M = .ok (.d (encTN t)) M := by
  have : (run T (n + 4) "_law_telling" [scr ns, .int k] M).wp fun x M' => ∃ t : TelN, x = .d (encTN t) ∧ (∀ turn, 1 ≤ turn → turn < 10 ^ 60 → TelOk turn t) ∧ t.row.length ≤ 8 ∧ M' = M := by
    have hlim := lim_big
    rw [run_has i]
    refine wp_run rfl ?_
    have dr : ∀ (k many : Int) M, 0 < many → run T (n + 3) "_law_draw" [scr ns, .int k, .int many] M = .ok (.d (.int (lawDraw ns k many))) M := fun k many M hm => law_draw_run (n + 2) ns k many hm M
    obtain ⟨f3, a0, a1, h3⟩ := law_far_ex (T := T) ns (k + 3)
    obtain ⟨f4, b0, b1, h4⟩ := law_far_ex (T := T) ns (k + 4)
    obtain ⟨nm, hnm, hname⟩ := law_name_ex (T := T) ns (k + 7) (n + 1) M
    obtain ⟨g, hg⟩ := Classical.axiomOfChoice (fun j : Nat => law_number_ex (T := T) ns (k + 20 + 3 * (j : Int)) n M)
    have d0 := lawDraw_nn ns k (show (0 : Int) < 30 by decide)
    have d1 := lawDraw_lt ns k (show (0 : Int) < 30 by decide)
    have g0 := lawDraw_nn ns (k + 1) (show (0 : Int) < 9 by decide)
    have g1 := lawDraw_lt ns (k + 1) (show (0 : Int) < 9 by decide)
    have r0 := lawDraw_nn ns (k + 5) (show (0 : Int) < 9 by decide)
    have r1 := lawDraw_lt ns (k + 5) (show (0 : Int) < 9 by decide)
    have q0 := lawDraw_nn ns (k + 6) (show (0 : Int) < 2 by decide)
    have q1 := lawDraw_lt ns (k + 6) (show (0 : Int) < 2 by decide)
    -- behind the ends
    obtain ⟨tl, htl⟩ : ∃ s : SS, s = sSeq (sSet 5 (e1 bTuple (eComp (eCall "_law_number" (dCons (eVar 0) (dCons (MI.e2 oAdd (MI.e2 oAdd (eVar 1) (eC (.int 20))) (MI.e2 oMul (eC (.int 3)) (eVar 7))) dNil))) tYes (.nm 7) [7] (iRange1 (eCall "_law_draw" (dCons (eVar 0) (dCons (MI.e2 oAdd (eVar 1) (eC (.int 5))) (dCons (eC (.int 9)) dNil))))))))
        (sSeq (sSet 6 (MI.e2 oIx (eLst (dCons (eC (.str "tell")) (dCons (eC (.str "strike")) dNil))) (eCall "_law_draw" (dCons (eVar 0) (dCons (MI.e2 oAdd (eVar 1) (eC (.int 6))) (dCons (eC (.int 2)) dNil)))))) (sRet (eTup (dCons (eVar 6) (dCons (eCall "_law_name" (dCons (eVar 0) (dCons (MI.e2 oAdd (eVar 1) (eC (.int 7))) dNil))) (dCons (eVar 5) (dCons (eVar 2) (dCons (eVar 3) dNil)))))))) := ⟨_, rfl⟩
    have rest : ∀ (lo hi : Option Int) (j4 : D), small60 lo → small60 hi → (∀ a b, lo = some a → hi = some b → a < b) → (tl (run T (n + 3)) [some (scr ns), some (.int k), some (encO lo), some (encO hi), some j4, none, none, none] M).wp (fun _ M' => (fin .pure M (.d .non) M').wp fun x M' => ∃ t : TelN, x = .d (encTN t) ∧ (∀ turn, 1 ≤ turn → turn < 10 ^ 60 → TelOk turn t) ∧ t.row.length ≤ 8 ∧ M' = M)
        (fun x M' => (fin .pure M x M').wp fun x M' => ∃ t : TelN, x = .d (encTN t) ∧ (∀ turn, 1 ≤ turn → turn < 10 ^ 60 → TelOk turn t) ∧ t.row.length ≤ 8 ∧ M' = M) := fun lo hi j4 hlo hhi hab => by
      rw [htl]
      simp [dr]
      refine ⟨⟨by omega, by omega⟩, ?_⟩
      obtain ⟨m, hm⟩ : ∃ m, m = (lawDraw ns (k + 5) 9).toNat := ⟨_, rfl⟩
      rw [← hm, show rngD 0 m = (List.range m).map (fun j : Nat => D.int (0 + (j : Int))) from rfl]
      rw [compL_allM (fun j : Nat => D.int (0 + (j : Int))) (M := M) rfl (fun j => D.int (g j)) (List.range m) (fun j _ => by
        simp
        rw [← Res.wp_eq]
        simp
        rw [(hg j).2]
        simp) (by simp; omega)]
      obtain ⟨d, ⟨kd, rfl⟩, eo⟩ := oIx_litO (ds := [.str "tell", .str "strike"]) (i := lawDraw ns (k + 6) 2) (P := fun d => ∃ b, d = wD (kindL b)) q0 (by simpa using q1) (by
        simp only [List.forall_mem_cons]
        exact ⟨⟨true, by rw [e_tell]; rfl⟩, ⟨false, by rw [e_strike]; rfl⟩, fun _ h => nomatch h⟩)
      simp [dr, eo]
      rw [show run T (n + 3) "_law_name" [scr ns, .int (k + 7)] M = .ok (.d (wD nm)) M from hname]
      simp
      refine ⟨by simp [wD, D.bel, encO, bels_mapT (enc := fun j : Nat => D.int (g j)) M.length (List.range m) fun _ => rfl]; cases lo <;> cases hi <;> simp [D.bel], ⟨kd, nm, (List.range m).map g, lo, hi⟩, by simp [encTN, rowD, Function.comp_def], fun turn t0 t1 => ⟨hnm, by simp; omega, fun v hv => ?_, hlo, hhi, hab, t0, t1⟩, by simp; omega⟩
      obtain ⟨j, _, rfl⟩ := List.mem_map.mp hv
      exact (hg j).1
    simp only [F__law_telling_k45, b__law_telling_k45]
    rw [← htl]
    have sm : ∀ v : Int, v.natAbs < 10 ^ 60 → small60 (some v) := fun v h w e => by cases e; exact h
    have sn : small60 none := fun w e => by cases e
    have no1 : ∀ (hi : Option Int) (a b : Int), (none : Option Int) = some a → hi = some b → a < b := fun _ _ _ h => by cases h
    have no2 : ∀ (lo : Option Int) (a b : Int), lo = some a → (none : Option Int) = some b → a < b := fun _ _ _ _ h => by cases h
    simp at a1 b1
    obtain ⟨lo0, hlo0⟩ : ∃ x, x = lawDraw ns k 30 - 15 := ⟨_, rfl⟩
    obtain ⟨hi0, hhi0⟩ : ∃ x, x = lawDraw ns k 30 - 15 + 1 + lawDraw ns (k + 1) 9 := ⟨_, rfl⟩
    have yes : ∀ (x y : Int), x < y → ∀ a b, some x = some a → some y = some b → a < b := fun x y h a b h1 h2 => by cases h1; cases h2; exact h
    simp [dr, h3, h4]
    have w0 : ∀ x : Int, x % 2 = 1 → x ≠ 0 ∧ x ≠ 2 ∧ x ≠ 4 := fun x h => by omega
    by_cases p : lawDraw ns (k + 2) 8 % 2 = 1
    · obtain ⟨z0, z2, z4⟩ := w0 _ p
      simp [p, z0, z2, z4, h3, h4]
      exact rest (some _) (some _) _ (sm _ (by simp; omega)) (sm _ (by simp; omega)) (yes _ _ (by omega))
    · simp [p]
      by_cases p0 : lawDraw ns (k + 2) 8 = 0
      · simp [p0]
        exact rest none none _ sn sn (no1 _)
      · by_cases p2 : lawDraw ns (k + 2) 8 = 2
        · simp [p2]
          exact rest none (some _) _ sn (sm _ (by simp; omega)) (no1 _)
        · by_cases p4 : lawDraw ns (k + 2) 8 = 4
          · simp [p4]
            exact rest (some _) none _ (sm _ (by simp; omega)) sn (no2 _)
          · simp [p0, p2, p4]
            exact rest (some _) (some _) _ (sm _ (by simp; omega)) (sm _ (by simp; omega)) (yes _ _ (by omega))
  obtain ⟨x, M', e, t, rfl, h1, h2, rfl⟩ := Res.wp_ex this
  exact ⟨t, h1, h2, e⟩
end
end HW
end
section
set_option linter.all false
set_option autoImplicit false
namespace HW
open MI PySem
mutual
theorem peq_self : ∀ p : PyData, (∀ q, p ≠ q → True) → ∀ d : D, py d = p → deq d d = true
  | _, _, .non, _ => rfl
  | _, _, .bl b, _ => by simp
  | _, _, .int b, _ => by simp
  | _, _, .str b, _ => by simp
  | _, _, .tup ds, _ => by rw [deq_tup]; exact deqs_self ds
  | _, _, .hdl n, _ => rfl
  | _, _, .ro ds, _ => deqs_self ds
theorem deqs_self : ∀ ds : List D, deqs ds ds = true
  | [] => rfl
  | d :: ds => by rw [deqs_cons, peq_self (py d) (fun _ _ => True.intro) d rfl, deqs_self ds]; rfl
end
end HW
end
section
set_option linter.all false
set_option autoImplicit false
namespace HW
open MI PySem
section
variable {T : Tab}
theorem law_tuple_run [HasF T "_law_whole" F__law_whole_k03] [i : HasF T "_law_tuple" F__law_tuple] (n : Nat) (r : List Int) (M : Mem) : run T (n + 2) "_law_tuple" [rowD r, rowD r] M = .ok (.d (.bl true)) M := by
  rw [run_has i, ← Res.wp_eq]
  refine wp_run rfl ?_
  simp [F__law_tuple, b__law_tuple, rowD]
  refine forL_wp D.int (fun l env M' => M' = M ∧ ∃ j : Option D, env = [some (rowD r), some (rowD r), j]) ?_ ?_ r _ _ ⟨rfl, none, rfl⟩
  · rintro env M' ⟨rfl, j, rfl⟩
    refine ⟨rfl, ?_⟩
    simp [rowD]
    rw [tup_eq (pls_ints _ _) (pls_ints _ _)]
    simp
  · rintro v l env M' ⟨rfl, j, rfl⟩
    refine ⟨rfl, ?_⟩
    simp
    rw [law_whole_run]
    simp
    exact ⟨rfl, _, rfl⟩
end
end HW
end
section
set_option linter.all false
set_option autoImplicit false
namespace HW
open MI PySem
theorem last_prefix : ∀ (ws : List (List Nat)) (s : Nat), (∀ w ∈ ws, 32 ∉ w) → s < (joinC [32] ws).length →
    ∃ (k : Nat) (w v : List Nat), ws[k]? = some w ∧ (splC 32 [] ((joinC [32] ws).take s)).getLast? = some v ∧ v <+: w ∧ (k + 1 = ws.length → v.length < w.length)
  | [], s, _, h => by simp [joinC] at h
  | [p], s, hf, h => by
    simp only [joinC] at h ⊢
    have hp := hf p List.mem_cons_self
    rw [splC_end _ _ fun hm => hp (List.mem_of_mem_take hm)]
    exact ⟨0, p, p.take s, rfl, rfl, List.take_prefix _ _, fun _ => by rw [List.length_take]; omega⟩
  | p :: q :: r, s, hf, h => by
    have hp := hf p List.mem_cons_self
    simp only [joinC, List.singleton_append] at h ⊢
    by_cases hs : s ≤ p.length
    · rw [List.take_append_of_le_length hs, splC_end _ _ fun hm => hp (List.mem_of_mem_take hm)]
      exact ⟨0, p, p.take s, rfl, rfl, List.take_prefix _ _, fun e => by simp at e⟩
    · obtain ⟨k, w, v, h1, h2, h3, h4⟩ := last_prefix (q :: r) (s - p.length - 1) (fun w hw => hf w (List.mem_cons_of_mem _ hw)) (by simp at h; omega)
      have e : (p ++ 32 :: joinC [32] (q :: r)).take s = p ++ 32 :: (joinC [32] (q :: r)).take (s - p.length - 1) := by
        rw [List.take_append, List.take_of_length_le (by omega), show s - p.length = (s - p.length - 1) + 1 by omega, List.take_succ_cons, Nat.add_sub_cancel]
      rw [e, splC_free p [] _ hp]
      refine ⟨k + 1, w, v, by simpa using h1, ?_, h3, fun z => h4 (by simpa using z)⟩
      rw [List.getLast?_cons, h2]; rfl
theorem wordsT_head {turn : Int} {t : TelN} (h : nameL t.name = true) {k : Nat} {w : List Nat} (hk : (wordsT turn t)[k]? = some w) (hl : k + 1 < (wordsT turn t).length) : w.head? ≠ some 46 := by
  have nz : ∀ z : Int, (numZ z).head? ≠ some 46 := fun z e => by
    unfold numZ at e
    split at e
    · simp at e
    · cases q : TL.numL z.natAbs with
      | nil => exact TL.numL_ne _ q
      | cons c r =>
        rw [q] at e
        have := numL_fig (n := z.natAbs) (c := c) (by rw [q]; exact List.mem_cons_self)
        simp at e
        omega
  have nd : ∀ o : Option Int, (endL o).head? ≠ some 46 := fun o => by
    cases o with
    | none => simp [endL]
    | some v => exact nz v
  rw [wordsT_len] at hl
  have e : wordsT turn t = ([kindL t.kind, numZ turn, t.name, endL t.low, endL t.high] ++ t.row.map numZ) ++ [[46]] := by simp [wordsT]
  rw [e, List.getElem?_append_left (by simp; omega)] at hk
  have hm := List.mem_of_getElem? hk
  simp only [List.mem_append, List.mem_cons, List.not_mem_nil, or_false, List.mem_map] at hm
  rcases hm with (rfl | rfl | rfl | rfl | rfl) | ⟨v, _, rfl⟩
  · cases t.kind <;> simp [kindL]
  · exact nz _
  · intro e
    cases q : t.name with
    | nil => rw [q] at e; cases e
    | cons c r =>
      have := nameL_mem h (c := c) (by rw [q]; exact List.mem_cons_self)
      rw [q] at e
      simp at e
      omega
  · exact nd _
  · exact nd _
  · exact nz _
/-- a beginning of a telling's text is none -/
theorem readT_torn {turn : Int} {t : TelN} (h : TelOk turn t) {s : Nat} (hs : s < (textT turn t).length) : readT (splC 32 [] ((textT turn t).take s)) = none := by
  obtain ⟨k, w, v, h1, h2, h3, h4⟩ := last_prefix (wordsT turn t) s (fun w hw => (wordsT_ok h w hw).2.2) hs
  have h2' : (splC 32 [] ((textT turn t).take s)).getLast? = some v := h2
  have ne : v ≠ [46] := by
    rintro rfl
    obtain ⟨r, e⟩ := h3
    have hk : k < (wordsT turn t).length := (List.getElem?_eq_some_iff.mp h1).1
    by_cases hl : k + 1 = (wordsT turn t).length
    · have := h4 hl
      have hw : w = [46] := by
        rw [wordsT_len] at hl
        have e : wordsT turn t = ([kindL t.kind, numZ turn, t.name, endL t.low, endL t.high] ++ t.row.map numZ) ++ [[46]] := by simp [wordsT]
        rw [e, List.getElem?_append_right (by simp; omega)] at h1
        have : k - ([kindL t.kind, numZ turn, t.name, endL t.low, endL t.high] ++ t.row.map numZ).length = 0 := by simp; omega
        rw [this] at h1
        simpa using h1.symm
      rw [hw] at this
      simp at this
    · exact wordsT_head h.name h1 (by omega) (by rw [← e]; rfl)
  unfold readT
  cases (splC 32 [] ((textT turn t).take s))[0]?.bind kindOf with
  | none => rfl
  | some k =>
    simp only [Option.bind_some]
    rw [if_pos (.inr (by rw [h2']; intro z; exact ne (Option.some.inj z)))]
theorem readT_name {ws : List (List Nat)} {p : Int × TelN} (h : readT ws = some p) : nameL p.2.name = true := by
  unfold readT at h
  simp only [Option.bind_eq_some_iff] at h
  obtain ⟨k, _, h⟩ := h
  split at h
  · cases h
  · simp only [Option.bind_eq_some_iff] at h
    obtain ⟨turn, _, nm, h2, lo, _, hi, _, row, _, h⟩ := h
    split at h
    · cases h
    · cases h
      obtain ⟨w, _, e⟩ := h2
      unfold nmL at e
      split at e
      · cases e; assumption
      · cases e
theorem readT_text {turn : Int} {t : TelN} (h : TelOk turn t) : readT (splC 32 [] (textT turn t)) = some (turn, t) := by
  rw [split_textT h]
  have ht : turn.natAbs < 10 ^ 60 := by have := h.t0; have := h.t1; omega
  have wl := wordsT_len turn t
  unfold readT
  rw [show (wordsT turn t)[0]?.bind kindOf = some t.kind by show kindOf (kindL t.kind) = _; cases t.kind <;> rfl]
  simp only [Option.bind_some]
  have e : wordsT turn t = ([kindL t.kind, numZ turn, t.name, endL t.low, endL t.high] ++ t.row.map numZ) ++ [[46]] := by simp [wordsT]
  rw [if_neg (by rw [wl]; rintro (z | z); omega; exact z (by rw [e, List.getLast?_concat]))]
  rw [show (wordsT turn t)[1]?.bind readL = some turn from readL_numZ ht, show (wordsT turn t)[2]?.bind nmL = some t.name from if_pos h.name, show (wordsT turn t)[3]?.bind readE = some t.low from (endL_ok h.low).2.2.2, show (wordsT turn t)[4]?.bind readE = some t.high from (endL_ok h.high).2.2.2]
  simp only [Option.bind_some]
  have es : soMany (wordsT turn t) 5 (((wordsT turn t).length : Int) - 6) = some t.row := by
    unfold soMany
    rw [wl, if_neg (by omega), show (((t.row.length + 6 : Nat) : Int) - 6).toNat = t.row.length by omega]
    refine mapM_some (by rw [List.length_take, List.length_drop, wl]; omega) fun j w v h1 h2 => ?_
    have hj : j < t.row.length := (List.getElem?_eq_some_iff.mp h2).1
    rw [List.getElem?_take, if_pos hj, List.getElem?_drop] at h1
    have e2 : wordsT turn t = [kindL t.kind, numZ turn, t.name, endL t.low, endL t.high] ++ (t.row.map numZ ++ [[46]]) := rfl
    rw [e2, List.getElem?_append_right (by simp), List.getElem?_append_left (by simp; omega), List.getElem?_map] at h1
    simp [h2] at h1
    rw [← h1]
    exact readL_numZ (h.row v (List.mem_of_getElem? h2))
  rw [es]
  simp only [Option.bind_some]
  have hb : badE t.low t.high = false := by
    unfold badE
    split
    · rename_i a b e1 e2
      have := h.ends a b e1 e2
      simp; omega
    · rfl
  have h0 := h.t0
  rw [if_neg (by rw [hb]; simp; omega)]
theorem splC_size (s : Nat) : ∀ (l acc : List Nat), sizeW (splC s acc l) = acc.length + l.length + 1
  | [], acc => by simp [splC, sizeW]
  | c :: l, acc => by
    unfold splC
    split
    · have := splC_size s l []
      simp [sizeW] at this ⊢; omega
    · have := splC_size s l (acc ++ [c])
      simp at this ⊢; omega
theorem sizeW_app (a b : List (List Nat)) : sizeW (a ++ b) = sizeW a + sizeW b := by simp [sizeW]; omega
theorem sizeW_sub {a b : List (List Nat)} (h : a.Sublist b) : sizeW a ≤ sizeW b := by
  induction h with
  | slnil => exact Nat.le_refl _
  | cons x _ ih => simp [sizeW] at ih ⊢; omega
  | cons_cons x _ ih => simp [sizeW] at ih ⊢; omega
theorem cut_sub {A : Type} (l : List A) (lo hi : Option Int) : (cut l lo hi).Sublist l := (List.take_sublist _ _).trans (List.drop_sublist _ _)
theorem cut_encW (ws : List (List Nat)) (lo hi : Option Int) : cut (encW ws) lo hi = encW (cut ws lo hi) := by
  unfold cut encW
  rw [List.map_take, List.map_drop, List.length_map]
section
variable {T : Tab}
theorem law_alike46_run [HasF T "_law_whole" F__law_whole_k03] [HasF T "_law_tuple" F__law_tuple] [i : HasF T "_law_alike" F__law_alike] (n : Nat) {turn : Int} {t : TelN} (h : nameL t.name = true) (M : Mem) : run T (n + 3) "_law_alike" [.tup [.int turn, encTN t], .int turn, encTN t] M = .ok (.d (.bl true)) M := by
  have hlim := lim_big
  have on := nameL_okL h
  have ok : okL (kindL t.kind) = true := by cases t.kind <;> rfl
  rw [run_has i, ← Res.wp_eq]
  refine wp_run rfl ?_
  simp [F__law_alike, b__law_alike]
  rw [law_whole_run]
  simp [encTN]
  have p2 : pls 15 (cut [wD (kindL t.kind), wD t.name, rowD t.row, encO t.low, encO t.high] none (some 2)) = true := by
    rw [cut_to _ (by decide)]
    simp [wD, on, ok]
  have p3 : pls 15 (cut [wD (kindL t.kind), wD t.name, rowD t.row, encO t.low, encO t.high] (some 3) none) = true := by
    rw [cut_from _ (by decide)]
    simp [encO]
    cases t.low <;> cases t.high <;> simp
  rw [tup_ne p2 p2, deqs_self]
  simp
  rw [law_tuple_run]
  simp
  rw [cut_from _ (by decide)]
  simp
  refine forL_wp (A := Option Int) encO (fun l env M' => M' = M ∧ ∃ j : Option D, env = [some (.tup [.int turn, encTN t]), some (.int turn), some (encTN t), some (encTN t), j]) ?_ ?_ [t.low, t.high] _ _ ⟨rfl, none, rfl⟩
  · rintro env M' ⟨rfl, j, rfl⟩
    refine ⟨rfl, ?_⟩
    simp [encTN]
    rw [tup_eq p3 p3, deqs_self]
    simp
  · rintro v l env M' ⟨rfl, j, rfl⟩
    refine ⟨rfl, ?_⟩
    cases v with
    | none =>
      simp [encO]
      exact ⟨rfl, _, rfl⟩
    | some v =>
      simp [encO]
      rw [law_whole_run]
      simp
      exact ⟨rfl, _, rfl⟩
variable [HasF T "words_of" F_words_of] [HasF T "word_at" F_word_at] [HasF T "read_number" F_read_number] [HasF T "number_at" F_number_at] [HasF T "name_at" F_name_at] [HasF T "end_at" F_end_at] [HasF T "so_many_at" F_so_many_at] [HasF T "read_telling" F_read_telling] [HasF T "_law_whole" F__law_whole_k03] [HasF T "_law_tuple" F__law_tuple] [HasF T "_law_alike" F__law_alike]
theorem read_telling_odd (n : Nat) (d : D) (M : Mem) (h : bIsi .str (.d d) M = .ok (.d (.bl false)) M) [i : HasF T "read_telling" F_read_telling] : run T (n + 2) "read_telling" [d] M = .err "NoText" M := by
  rw [run_has i, ← Res.wpx_err]
  refine wpx_run rfl ?_
  simp [F_read_telling, b_read_telling]
  rw [words_of_odd n d M h]
  simp [finS]
theorem law_good46_run [i : HasF T "_law_good" F__law_good_k46] (n : Nat) (l : List Nat) (ol : okL l = true) (hl : l.length ≤ 90000) (M : Mem) : run T (n + 5) "_law_good" [wD l, encDue (readT (splC 32 [] l))] M = .ok (.d (.bl true)) M := by
  have hlim := lim_big
  have hin : ("NoText" : Str) ∈ exsAll := by decide
  rw [run_has i, ← Res.wp_eq]
  refine wp_run rfl ?_
  simp [F__law_good_k46, b__law_good_k46]
  rw [read_telling_run n ol hl]
  cases e : readT (splC 32 [] l) with
  | some p =>
    have al := fun M => law_alike46_run (T := T) (n + 1) (turn := p.1) (t := p.2) (readT_name e) M
    simp [encDue, encTT, orNo]
    rw [oEq_l (as := []) (bs := []) (by simp) rfl rfl rfl]
    simp [al]
  | none =>
    simp [encDue, orNo, hin, suSem_in hin]
    rw [oEq_l (as := [D.bl true, D.bl true, D.bl false]) (bs := [D.bl true, D.bl true, D.bl false]) (by simp) rfl (by simp) (by simp)]
    simp
theorem law_good46_odd [i : HasF T "_law_good" F__law_good_k46] (n : Nat) (d : D) (M : Mem) (hb : d.bel M.length = true) (h : ∀ l, bIsi .str (.d d) (M ++ l) = .ok (.d (.bl false)) (M ++ l)) : run T (n + 3) "_law_good" [d, .non] M = .ok (.d (.bl true)) M := by
  have hlim := lim_big
  have hin : ("NoText" : Str) ∈ exsAll := by decide
  rw [run_has i, ← Res.wp_eq]
  refine wp_run rfl ?_
  simp [F__law_good_k46, b__law_good_k46]
  rw [read_telling_odd n d _ (h _)]
  simp [hin, suSem_in hin]
  rw [oEq_l (as := [D.bl true, D.bl true, D.bl false]) (bs := [D.bl true, D.bl true, D.bl false]) (by simp) rfl (by simp) (by simp)]
  simp
end
end HW
end
section
set_option linter.all false
set_option autoImplicit false
namespace HW
open MI PySem
def chg46_t9 : SS := sRet (MI.e2 oAdd (MI.e2 oAdd (eSlice (eVar 2) (oNone) (oSome (eVar 5))) (MI.e2 oIx (eC (.str "_+ .-0a\n\t7")) (eCall "_law_draw" (dCons (eVar 0) (dCons (MI.e2 oAdd (eVar 1) (eC (.int 252))) (dCons (eC (.int 10)) (dNil))))))) (eSlice (eVar 2) (oSome (eVar 5)) (oNone)))
def chg46_t8 : SS := sSeq (sSet 5 (eCall "_law_draw" (dCons (eVar 0) (dCons (MI.e2 oAdd (eVar 1) (eC (.int 189))) (dCons (MI.e2 oAdd (MI.e1 bLen (eVar 2)) (eC (.int 1))) (dNil)))))) chg46_t9
def chg46_t7 : SS := sSeq (sIf (tB (MI.e2 oEq (eVar 4) (eC (.int 3)))) (sRet (eT1 tJoin (eC (.str " ")) (MI.e2 oAdd (eSlice (eVar 3) (oNone) (oSome (eVar 5))) (eSlice (eVar 3) (oSome (MI.e2 oAdd (eVar 5) (eC (.int 1)))) (oNone))))) (sNil)) chg46_t8
def chg46_t6 : SS := sSeq (sIf (tB (MI.e2 oEq (eVar 4) (eC (.int 2)))) (sRet (eT1 tJoin (eC (.str " ")) (MI.e2 oAdd (MI.e2 oAdd (eSlice (eVar 3) (oNone) (oSome (eVar 5))) (eLst (dCons (eVar 7) (dNil)))) (eSlice (eVar 3) (oSome (eVar 5)) (oNone))))) (sNil)) chg46_t7
def chg46_t5 : SS := sSeq (sIf (tB (MI.e2 oLt (eVar 4) (eC (.int 2)))) (sRet (eT1 tJoin (eC (.str " ")) (MI.e2 oAdd (MI.e2 oAdd (eSlice (eVar 3) (oNone) (oSome (eVar 5))) (eLst (dCons (eVar 7) (dNil)))) (eSlice (eVar 3) (oSome (MI.e2 oAdd (eVar 5) (eC (.int 1)))) (oNone))))) (sNil)) chg46_t6
def chg46_t4 : SS := sSeq (sSet 7 (MI.e2 oIx (eVar 6) (eCall "_law_draw" (dCons (eVar 0) (dCons (MI.e2 oAdd (eVar 1) (eC (.int 126))) (dCons (eC (.int 16)) (dNil))))))) chg46_t5
def chg46_t3 : SS := sSeq (sSet 6 (eLst (dCons (eC (.str "")) (dCons (eC (.str "-")) (dCons (eC (.str ".")) (dCons (eC (.str "0")) (dCons (eC (.str "-0")) (dCons (eC (.str "7")) (dCons (eC (.str "-12")) (dCons (eC (.str "tell")) (dCons (eC (.str "strike")) (dCons (eC (.str "ab")) (dCons (eC (.str "Ab")) (dCons (eC (.str "abcdefghi")) (dCons (eC (.str "1_0")) (dCons (eC (.str "+3")) (dCons (eC (.str "01")) (dCons (eC (.str "--")) (dNil))))))))))))))))))) chg46_t4
def chg46_t2 : SS := sSeq (sSet 5 (eCall "_law_draw" (dCons (eVar 0) (dCons (MI.e2 oAdd (eVar 1) (eC (.int 63))) (dCons (MI.e1 bLen (eVar 3)) (dNil)))))) chg46_t3
def chg46_t1 : SS := sSeq (sSet 4 (eCall "_law_draw" (dCons (eVar 0) (dCons (eVar 1) (dCons (eC (.int 6)) (dNil)))))) chg46_t2
theorem chg46_body : b__law_changed = sSeq (sSet 3 (eT1 tSplit (eVar 2) (eC (.str " ")))) chg46_t1 := rfl
def k46_B1 : SS := sIf (tOr (tNot (tTru (eCall "_law_good" (dCons (eSlice (eVar 3) (oNone) (oSome (eVar 4))) (dCons (eC (.non)) (dNil)))))) (tNot (tTru (eCall "_law_good" (dCons (eSlice (eVar 3) (oNone) (oSome (MI.e2 oSub (MI.e2 oSub (MI.e1 bLen (eVar 3)) (eC (.int 1))) (eVar 4)))) (dCons (eC (.non)) (dNil))))))) (sRet (eC (.bl false))) (sNil)
def k46_B2_t1 : SS := sIf (tNot (tTru (eCall "_law_good" (dCons (eVar 6) (dCons (eCall "_law_due" (dCons (eVar 6) (dNil))) (dNil)))))) (sRet (eC (.bl false))) (sNil)
def k46_B2 : SS := sSeq (sSet 6 (eCall "_law_changed" (dCons (eVar 0) (dCons (eVar 5) (dCons (eVar 3) (dNil)))))) k46_B2_t1
def k46_t6 : SS := sRet (eCall "_law_good" (dCons (eVar 3) (dCons (eTup (dCons (eVar 2) (dCons (eVar 1) (dNil)))) (dNil))))
def k46_t5 : SS := sSeq (sFor (.nm 5) (iRange1 (MI.e2 bMin2 (MI.e1 bLen (eVar 0)) (eC (.int 12)))) k46_B2) k46_t6
def k46_t4 : SS := sSeq (sFor (.nm 4) (iRange1 (MI.e2 bMin2 (MI.e1 bLen (eVar 3)) (eC (.int 150)))) k46_B1) k46_t5
def k46_t3 : SS := sSeq (sSet 3 (eCall "_law_written" (dCons (eVar 2) (dCons (eVar 1) (dNil))))) k46_t4
def k46_t2 : SS := sSeq (sSet 2 (MI.e2 oAdd (eC (.int 1)) (eCall "_law_draw" (dCons (eVar 0) (dCons (eC (.int 401)) (dCons (eC (.int 200)) (dNil))))))) k46_t3
def k46_t1 : SS := sSeq (sSet 1 (eCall "_law_telling" (dCons (eVar 0) (dCons (eC (.int 0)) (dNil))))) k46_t2
theorem k46_body : b_law_k46 = sSeq (sIf (tNot (tTru (eCall "_law_good" (dCons (MI.e2 oIx (eLst (dCons (eC (.non)) (dCons (eC (.int 7)) (dCons (eLst (dCons (eC (.str "tell")) (dNil))) (dCons (eTup (dCons (eC (.str "tell")) (dNil))) (dCons (eC (.bl true)) (dCons (eDic0) (dNil)))))))) (eCall "_law_draw" (dCons (eVar 0) (dCons (eC (.int 400)) (dCons (eC (.int 6)) (dNil)))))) (dCons (eC (.non)) (dNil)))))) (sRet (eC (.bl false))) (sNil)) k46_t1 := rfl
/-- a short word, as it is written in a law -/
def WX9 (d : D) : Prop := ∃ w : List Nat, d = wD w ∧ okL w = true ∧ w.length ≤ 9
theorem wx_lit {s : String} (o : okL (s.toList.map Char.toNat) = true) (hl : (s.toList.map Char.toNat).length ≤ 9) : WX9 (.str (Str.ofString s)) := ⟨s.toList.map Char.toNat, by rw [lit]; rfl, o, hl⟩
theorem oIx_litH {P : D → Prop} {ds : List D} {i : Int} {j : Nat} {M : Mem} (hM : M[j]? = some (.lst ds)) (h0 : 0 ≤ i) (h1 : i < ds.length) (hP : ∀ d ∈ ds, P d) : ∃ d, P d ∧ oIx (.d (.hdl j)) (.d (.int i)) M = .ok (.d d) M := by
  obtain ⟨d, hd⟩ : ∃ d, ds[i.toNat]? = some d := ⟨_, List.getElem?_eq_getElem (by omega)⟩
  exact ⟨d, hP d (List.mem_of_getElem? hd), oIx_seq (by simp [hM]) (ixN_pos h0 h1) hd⟩
section
variable {T : Tab}
theorem law_changed46_ex [HasF T "_law_draw" F__law_draw] [i : HasF T "_law_changed" F__law_changed] (ns : List Int) (k : Int) (n : Nat) (l : List Nat) (ol : okL l = true) (hl : l.length ≤ 20000) (M : Mem) : ∃ l' : List Nat, okL l' = true ∧ l'.length ≤ 90000 ∧ run T (n + 2) "_law_changed" [scr ns, .int k, wD l] M = .ok (.d (wD l')) M := by
  have : (run T (n + 2) "_law_changed" [scr ns, .int k, wD l] M).wp fun x M' => ∃ l' : List Nat, x = .d (wD l') ∧ okL l' = true ∧ l'.length ≤ 90000 ∧ M' = M := by
    have hlim : 16777216 ≤ lim := Nat.le_refl _
    rw [run_has i]
    refine wp_run rfl ?_
    have dr : ∀ (k many : Int) M, 0 < many → run T (n + 1) "_law_draw" [scr ns, .int k, .int many] M = .ok (.d (.int (lawDraw ns k many))) M := fun k many M hm => law_draw_run n ns k many hm M
    obtain ⟨ws, hws⟩ : ∃ ws, ws = splC 32 [] l := ⟨_, rfl⟩
    have wok : WsOk ws := by rw [hws]; exact WsOk_of ol (by omega)
    have wne : ws ≠ [] := by rw [hws]; exact splC_ne _ _ _
    have wpos : 0 < ws.length := List.length_pos_iff.mpr wne
    have wsz : sizeW ws ≤ 20001 := by rw [hws, splC_size]; simp; omega
    have wl : ws.length ≤ 20001 := by rw [hws]; have := splC_len (s := 32) l []; omega
    simp only [F__law_changed, chg46_body]
    simp
    rw [show wD l = .str (strL l) from rfl, e_blank]
    simp
    rw [tSplit_sp l (by omega), ← hws]
    obtain ⟨M1, hM1⟩ : ∃ M1, M1 = M ++ [O.lst (encW ws)] := ⟨_, rfl⟩
    have hM : M1[M.length]? = some (.lst (encW ws)) := by rw [hM1]; simp
    simp
    rw [← hM1]
    unfold chg46_t1 chg46_t2 chg46_t3
    simp [dr, hM]
    rw [dr _ _ _ (by omega)]
    simp
    generalize lawDraw ns (k + 63) (ws.length : Int) = at_
    generalize lawDraw ns k 6 = way
    obtain ⟨lits, hlits⟩ : ∃ lits : List D, lits = [.str "", .str "-", .str ".", .str "0", .str "-0", .str "7", .str "-12", .str "tell", .str "strike", .str "ab", .str "Ab", .str "abcdefghi", .str "1_0", .str "+3", .str "01", .str "--"] := ⟨_, rfl⟩
    have l16 : (16 : Nat) ≤ lim := by omega
    rw [← hlits]
    have s0 := lawDraw_nn ns (k + 126) (show (0 : Int) < 16 by decide)
    have s1 := lawDraw_lt ns (k + 126) (show (0 : Int) < 16 by decide)
    obtain ⟨M2, hM2⟩ : ∃ M2, M2 = M1 ++ [O.lst lits] := ⟨_, rfl⟩
    have g2 : M2[M.length]? = some (.lst (encW ws)) := by rw [hM2]; exact get_ahead hM
    have gl : M2[M1.length]? = some (.lst lits) := by rw [hM2]; simp
    have eM2 : M2 = M ++ [.lst (encW ws), .lst lits] := by rw [hM2, hM1]; simp
    obtain ⟨d, ⟨w, rfl, ow, wl9⟩, eo⟩ := oIx_litH (i := lawDraw ns (k + 126) 16) (P := WX9) gl s0 (by rw [hlits]; simpa using s1) (by
      rw [hlits]
      simp only [List.forall_mem_cons]
      exact ⟨wx_lit rfl (by decide), wx_lit rfl (by decide), wx_lit rfl (by decide), wx_lit rfl (by decide), wx_lit rfl (by decide), wx_lit rfl (by decide), wx_lit rfl (by decide), wx_lit rfl (by decide), wx_lit rfl (by decide), wx_lit rfl (by decide), wx_lit rfl (by decide), wx_lit rfl (by decide), wx_lit rfl (by decide), wx_lit rfl (by decide), wx_lit rfl (by decide), wx_lit rfl (by decide), fun _ h => nomatch h⟩)
    rw [← hM2]
    unfold chg46_t4
    simp [dr]
    rw [eo]
    simp
    -- words joined
    have fj : ∀ vs : List (List Nat), (∀ v ∈ vs, okL v = true) → sizeW vs ≤ 90000 → (tJoin (strL [32]) (.o (.lst (encW vs))) M2).wp fun x M' => (fin .pure M x M').wp fun x M' => ∃ l' : List Nat, x = .d (wD l') ∧ okL l' = true ∧ l'.length ≤ 90000 ∧ M' = M := fun vs hv hs => by
      rw [tJoin_of (ws := vs) rfl (by omega)]
      have fn : fin .pure M (.d (wD (joinC [32] vs))) M2 = .ok (.d (wD (joinC [32] vs))) M := by rw [eM2, fin_d (x := wD _) rfl nofun]
      show (fin .pure M (.d (wD (joinC [32] vs))) M2).wp _
      rw [fn]
      exact ⟨_, rfl, okL_join hv, Nat.le_trans (len_join vs) hs, rfl⟩
    have ok_ : ∀ lo hi, ∀ v ∈ cut ws lo hi, okL v = true := fun lo hi v hv => (wok.2 v ((cut_sub ws lo hi).subset hv)).1
    have sz_ : ∀ lo hi, sizeW (cut ws lo hi) ≤ 20001 := fun lo hi => Nat.le_trans (sizeW_sub (cut_sub ws lo hi)) wsz
    have ln_ : ∀ lo hi, (cut ws lo hi).length ≤ 20001 := fun lo hi => Nat.le_trans (cut_sub ws lo hi).length_le wl
    have szw : sizeW [w] ≤ 10 := by simp [sizeW]; omega
    have sub3 : ∀ (a b : List (List Nat)), (∀ v ∈ a, okL v = true) → (∀ v ∈ b, okL v = true) → ∀ v ∈ a ++ [w] ++ b, okL v = true := fun a b ha hb v hv => by
      simp only [List.mem_append, List.mem_singleton] at hv
      rcases hv with (hv | rfl) | hv
      · exact ha v hv
      · exact ow
      · exact hb v hv
    have enc3 : ∀ (a b : List (List Nat)), encW a ++ wD w :: encW b = encW (a ++ [w] ++ b) := fun a b => by simp [encW]
    unfold chg46_t5
    simp [g2, cut_encW]
    by_cases c1 : way < 2
    · rw [if_pos c1]
      have z1 := ln_ none (some at_)
      have z2 := ln_ (some (at_ + 1)) none
      have y1 := sz_ none (some at_)
      have y2 := sz_ (some (at_ + 1)) none
      refine ⟨by omega, by omega, ?_⟩
      rw [e_blank, enc3]
      exact fj _ (sub3 _ _ (ok_ _ _) (ok_ _ _)) (by rw [sizeW_app, sizeW_app]; omega)
    rw [if_neg c1]
    unfold chg46_t6
    simp [g2, cut_encW]
    by_cases c2 : way = 2
    · rw [if_pos c2]
      have z1 := ln_ none (some at_)
      have z2 := ln_ (some at_) none
      have y1 := sz_ none (some at_)
      have y2 := sz_ (some at_) none
      refine ⟨by omega, by omega, ?_⟩
      rw [e_blank, enc3]
      exact fj _ (sub3 _ _ (ok_ _ _) (ok_ _ _)) (by rw [sizeW_app, sizeW_app]; omega)
    rw [if_neg c2]
    unfold chg46_t7
    simp [g2, cut_encW]
    by_cases c3 : way = 3
    · rw [if_pos c3]
      have z1 := ln_ none (some at_)
      have z2 := ln_ (some (at_ + 1)) none
      have y1 := sz_ none (some at_)
      have y2 := sz_ (some (at_ + 1)) none
      refine ⟨by omega, ?_⟩
      rw [e_blank, ← encW_app]
      exact fj _ (fun v hv => (List.mem_append.mp hv).elim (ok_ _ _ v) (ok_ _ _ v)) (by rw [sizeW_app]; omega)
    rw [if_neg c3]
    unfold chg46_t8 chg46_t9
    simp [dr]
    refine ⟨by omega, ?_⟩
    generalize lawDraw ns (k + 189) ((l.length : Int) + 1) = p
    have q0 := lawDraw_nn ns (k + 252) (show (0 : Int) < 10 by decide)
    have q1 := lawDraw_lt ns (k + 252) (show (0 : Int) < 10 by decide)
    have e10 : Str.ofString "_+ .-0a
	7" = strL [95, 43, 32, 46, 45, 48, 97, 10, 9, 55] := by rw [lit]; rfl
    obtain ⟨c, hc⟩ : ∃ c, ([95, 43, 32, 46, 45, 48, 97, 10, 9, 55] : List Nat)[(lawDraw ns (k + 252) 10).toNat]? = some c := ⟨_, List.getElem?_eq_getElem (by simp; omega)⟩
    have okc : c < 1114112 := by
      have := List.mem_of_getElem? hc
      simp at this; omega
    have ixs : oIx (.d (.str (strL [95, 43, 32, 46, 45, 48, 97, 10, 9, 55]))) (.d (.int (lawDraw ns (k + 252) 10))) M2 = .ok (.d (.str (strL [c]))) M2 := oIx_strL (by simp) (ixN_pos q0 (by simp; omega)) hc
    rw [e10, ixs]
    have c1 := len_cut l none (some p)
    have c2 := len_cut l (some p) none
    have o1 := okL_cut ol none (some p)
    have o2 := okL_cut ol (some p) none
    have hl' : l.length ≤ lim := by omega
    simp [hl']
    refine ⟨by omega, by omega, ?_⟩
    have fn : ∀ l' : List Nat, okL l' = true → l'.length ≤ 90000 → (fin .pure M (.d (.str (strL l'))) M2).wp fun x M' => ∃ l' : List Nat, x = .d (wD l') ∧ okL l' = true ∧ l'.length ≤ 90000 ∧ M' = M := fun l' h1 h2 => by
      rw [eM2, fin_d (x := .str _) rfl nofun]
      exact ⟨l', rfl, h1, h2, rfl⟩
    exact fn _ (by simp [o1, o2, okc]) (by simp; omega)
  obtain ⟨x, M', e, l', rfl, h1, h2, rfl⟩ := Res.wp_ex this
  exact ⟨l', h1, h2, e⟩
theorem law_k46_run [HasF T "words_of" F_words_of] [HasF T "word_at" F_word_at] [HasF T "read_number" F_read_number] [HasF T "number_at" F_number_at] [HasF T "name_at" F_name_at] [HasF T "end_at" F_end_at] [HasF T "so_many_at" F_so_many_at] [HasF T "read_telling" F_read_telling] [HasF T "_law_whole" F__law_whole_k03] [HasF T "_law_tuple" F__law_tuple] [HasF T "_law_alike" F__law_alike]
    [HasF T "_law_draw" F__law_draw] [HasF T "_law_far" F__law_far] [HasF T "_law_name" F__law_name] [HasF T "_law_number" F__law_number] [HasF T "_law_telling" F__law_telling_k45] [HasF T "_law_end" F__law_end] [HasF T "_law_written" F__law_written] [HasF T "_law_read" F__law_read] [HasF T "_law_due" F__law_due_k46] [HasF T "_law_changed" F__law_changed] [HasF T "_law_good" F__law_good_k46] [i : HasF T "law" F_law_k46] (ns : List Int) (hns : ns.length ≤ 63) (n : Nat) :
    ∃ M, run T (n + 6) "law" [scr ns] [] = .ok (.d (.bl true)) M := by
  have : (run T (n + 6) "law" [scr ns] []).wp fun x M' => Kp (x = .d (.bl true)) := by
    have hlim := lim_big
    rw [run_has i]
    refine wp_run rfl ?_
    have dr : ∀ (k many : Int) M, 0 < many → run T (n + 5) "_law_draw" [scr ns, .int k, .int many] M = .ok (.d (.int (lawDraw ns k many))) M := fun k many M hm => law_draw_run (n + 4) ns k many hm M
    have d0 := lawDraw_nn ns 400 (show (0 : Int) < 6 by decide)
    have d1 := lawDraw_lt ns 400 (show (0 : Int) < 6 by decide)
    have t0 := lawDraw_nn ns 401 (show (0 : Int) < 200 by decide)
    have t1 := lawDraw_lt ns 401 (show (0 : Int) < 200 by decide)
    simp only [F_law_k46, k46_body]
    simp [dr]
    obtain ⟨M0, hM0⟩ : ∃ M0 : Mem, M0 = [O.lst [D.str (Str.ofString "tell")], O.dic false []] := ⟨_, rfl⟩
    rw [← hM0]
    obtain ⟨d, ⟨b1, b2⟩, eo⟩ := oIx_litO (ds := [.non, .int 7, .hdl 0, .tup [.str (Str.ofString "tell")], .bl true, .hdl 1]) (i := lawDraw ns 400 6) (P := fun d => d.bel M0.length = true ∧ ∀ l, bIsi .str (.d d) (M0 ++ l) = .ok (.d (.bl false)) (M0 ++ l)) d0 (by simpa using d1) (by
      subst hM0
      simp only [List.forall_mem_cons]
      exact ⟨⟨rfl, fun _ => rfl⟩, ⟨rfl, fun _ => rfl⟩, ⟨rfl, fun _ => rfl⟩, ⟨rfl, fun _ => rfl⟩, ⟨rfl, fun _ => rfl⟩, ⟨rfl, fun _ => rfl⟩, fun _ h => nomatch h⟩)
    rw [eo]
    simp
    rw [law_good46_odd (n + 2) d M0 b1 b2]
    simp
    obtain ⟨t, ht, hl8, et⟩ := law_telling45_ex (T := T) ns 0 (n + 1) M0
    have h1 := ht (1 + lawDraw ns 401 200) (by omega) (by omega)
    obtain ⟨turn, hturn⟩ : ∃ turn, turn = 1 + lawDraw ns 401 200 := ⟨_, rfl⟩
    rw [← hturn] at h1
    unfold k46_t1 k46_t2 k46_t3
    simp
    rw [et]
    simp [dr]
    rw [← hturn, law_written_run (n + 3) h1]
    simp
    obtain ⟨tx, htx⟩ : ∃ tx, tx = textT turn t := ⟨_, rfl⟩
    have otx : okL tx = true := by rw [htx]; exact okL_join (ws := wordsT turn t) fun w hw => (wordsT_ok h1 w hw).1
    have ltx : tx.length ≤ 19000 := by rw [htx]; exact Nat.le_trans (len_join _) (wordsT_size h1)
    have ltl : tx.length ≤ lim := by omega
    rw [← htx]
    have torn : ∀ (s : Nat) (M : Mem), s < tx.length → run T (n + 5) "_law_good" [wD (tx.take s), .non] M = .ok (.d (.bl true)) M := fun s M hs => by
      have e : readT (splC 32 [] (tx.take s)) = none := by rw [htx]; exact readT_torn h1 (by rw [← htx]; exact hs)
      have := law_good46_run (T := T) n (tx.take s) (okL_take otx s) (by rw [List.length_take]; omega) M
      rw [e] at this
      exact this
    obtain ⟨B1, hB1⟩ : ∃ s : SS, s = k46_B1 := ⟨_, rfl⟩
    obtain ⟨B2, hB2⟩ : ∃ s : SS, s = k46_B2 := ⟨_, rfl⟩
    unfold k46_t4
    rw [← hB1]
    simp [wD, ltl]
    refine ⟨by omega, ?_⟩
    refine forL_range (fun j env M' => ∃ (j4 j5 j6 : Option D), env = [some (scr ns), some (encTN t), some (.int turn), some (wD tx), j4, j5, j6]) ?_ ?_ _ _ ⟨_, _, _, rfl⟩
    · rintro env M' ⟨j4, j5, j6, rfl⟩
      unfold k46_t5
      rw [← hB2]
      simp
      refine ⟨by omega, ?_⟩
      refine forL_range (fun j env M' => ∃ (j4 j5 j6 : Option D), env = [some (scr ns), some (encTN t), some (.int turn), some (wD tx), j4, j5, j6]) ?_ ?_ _ _ ⟨_, _, _, rfl⟩
      · rintro env M' ⟨j4, j5, j6, rfl⟩
        unfold k46_t6
        simp
        have := law_good46_run (T := T) n tx otx (by omega) M'
        rw [htx, readT_text h1, ← htx] at this
        rw [show D.tup [D.int turn, encTN t] = encDue (some (turn, t)) from rfl, this]
        rfl
      · rintro j env M' hj ⟨j4, j5, j6, rfl⟩
        obtain ⟨l', o', hl', e'⟩ := law_changed46_ex (T := T) ns (j : Int) (n + 3) tx otx (by omega) M'
        rw [hB2]
        unfold k46_B2 k46_B2_t1
        simp
        rw [e']
        simp
        rw [law_due46_run (n + 3) o' hl']
        simp
        rw [law_good46_run n l' o' hl']
        simp
        exact ⟨_, _, _, rfl⟩
    · rintro j env M' hj ⟨j4, j5, j6, rfl⟩
      have hj2 : j < tx.length := by omega
      rw [hB1]
      unfold k46_B1
      simp [wD, ltl]
      have c1 : cut tx none (some (j : Int)) = tx.take j := by rw [cut_to _ (by omega)]; rfl
      have c2 : cut tx none (some ((tx.length : Int) - 1 - (j : Int))) = tx.take (tx.length - 1 - j) := by rw [cut_to _ (by omega)]; congr 1; omega
      rw [c1, show D.str (strL (tx.take j)) = wD (tx.take j) from rfl, torn j M' hj2]
      simp [ltl]
      rw [c2, show D.str (strL (tx.take (tx.length - 1 - j))) = wD (tx.take (tx.length - 1 - j)) from rfl, torn _ M' (by omega)]
      simp
      exact ⟨_, _, _, rfl⟩
  obtain ⟨x, M', e, h⟩ := Res.wp_ex this
  have h' : x = .d (.bl true) := h
  exact ⟨M', by rw [e, h']⟩
end
end HW
end
section
namespace HWL
open HW
open PySem PySem.Spec PyProof.Rows L2 He MI
instance : HasF T "read_number" F_read_number := ⟨ok_read_number.look⟩
instance : HasF T "words_of" F_words_of := ⟨ok_words_of.look⟩
instance : HasF T "word_at" F_word_at := ⟨ok_word_at.look⟩
instance : HasF T "number_at" F_number_at := ⟨ok_number_at.look⟩
instance : HasF T "name_at" F_name_at := ⟨ok_name_at.look⟩
instance : HasF T "so_many_at" F_so_many_at := ⟨ok_so_many_at.look⟩
instance : HasF T "end_at" F_end_at := ⟨ok_end_at.look⟩
instance : HasF T "read_telling" F_read_telling := ⟨ok_read_telling.look⟩
instance : HasF T "_law_draw" F__law_draw := ⟨ok__law_draw.look⟩
instance : HasF T "_law_far" F__law_far := ⟨ok__law_far.look⟩
instance : HasF T "_law_name" F__law_name := ⟨ok__law_name.look⟩
instance : HasF T "_law_number" F__law_number := ⟨ok__law_number.look⟩
instance : HasF T "_law_whole" F__law_whole_k03 := ⟨ok__law_whole.look⟩
instance : HasF T "_law_tuple" F__law_tuple := ⟨ok__law_tuple.look⟩
instance : HasF T "_law_telling" F__law_telling_k45 := ⟨ok__law_telling.look⟩
instance : HasF T "_law_end" F__law_end := ⟨ok__law_end.look⟩
instance : HasF T "_law_written" F__law_written := ⟨ok__law_written.look⟩
instance : HasF T "_law_alike" F__law_alike := ⟨ok__law_alike.look⟩
instance : HasF T "_law_read" F__law_read := ⟨ok__law_read.look⟩
instance : HasF T "_law_due" F__law_due_k46 := ⟨ok__law_due.look⟩
instance : HasF T "_law_changed" F__law_changed := ⟨ok__law_changed.look⟩
instance : HasF T "_law_good" F__law_good_k46 := ⟨ok__law_good.look⟩
instance : HasF T "law" F_law_k46 := ⟨ok_law.look⟩
theorem hrun : ∀ ns : List Int, ns.length ≤ 63 → ∃ M, MI.run T 40 t_law.name [.ro (ns.map D.int)] [] = Res.ok (.d (.bl true)) M := fun ns h => law_k46_run ns h 34
end HWL
end
open PySem PySem.W PySem.Calls PyProof.Rows
theorem PySem.Challenge.cw_heldwhen_k46_torn_rows_holds : PySem.Challenge.rw_heldwhen_k46_torn_rows.Holds := by
  w_on; o_law
  refine HandSHeadRun.head_any (r := HWL.R) (q := view HWL.R.prog [35]) (H := HWL.hk) (ob := HWL.ob) (M := 9000) (loose := HWL.loose) (d := HandSHeadRun.topDef HWL.R.prog 35) (kwd := []) HWL.ob_eq
    (by kernel_rfl) (fun s => by kernel_rfl) HWL.run0 (by kernel_rfl) (by kernel_rfl) (by kernel_rfl) (by rfl) (by first | assumption | decide +kernel) (by decide +kernel) ⟨rfl, rfl, rfl, rfl, rfl, by decide +kernel⟩ ?hw ?hc
  case hw => w_witness2
  case hc =>
    exact MI.walk_M (l := PySem.Challenge.rw_heldwhen_k46_torn_rows) (n := 63) (k := 80) (x := "script") rfl (by decide) (by kernel_rfl) ⟨rfl, by decide, by decide⟩ (MI.end_M (l := PySem.Challenge.rw_heldwhen_k46_torn_rows) (g := HWL.cfg) (ts := HWL.tab) (t := HWL.t_law) (n := 40) rfl (by kernel_rfl) HWL.ok_all (by decide +kernel) (by decide +kernel) rfl (by simp [HWL.tab]) HWL.hrun)
