import PyProof.Rows.All
import Wide.All
import OpenK.AllK
import Wide.FinOn
import HandS.ForMost
import HandS.Exc
import HandS.Wide
import KE.SortData
import KE.KDictKeyed
import HandS.TupAny
import HandS.IsInst
import HandS.Deep
import HandS.Gcd
import HandS.RaiseMore
import KE.KDictList
import KE.KDictCopyH
import HandS.Conv
import PyProof.ReprText
import PyProof.Rows.TupDisplay
import HandS.Iter
import HandS.Comp
import HandS.Style
import KE.GoesSet
import HandS.Set
import HandS.SetTxt0
import HandS.TupSets
import HandS.HeadEnd
import HandS.EndBits
import HandS.HeadHook4
import HandS.Head0
import HandS.Head1
import HandS.Head2
import HandS.HeadHook1
import HandS.HeadHook2
import HandS.Head3
import PySem.Challenge.RW_ratesay_k00_forms_of_polynomials
set_option Elab.async false
set_option linter.all false
set_option maxRecDepth 100000
/-! MiA: a mini language over PyData and its interpreter (plain Lean). -/
namespace Mi
open PySem L2
abbrev P := PyData
/-- a value: plain data, or a mutable cell by its number -/
inductive D where
  | p (d : P)
  | r (i : Nat)
inductive Cell where
  | lst (ds : List P)
  | dct (kvs : List (P × P))
  | gone
abbrev Hh := List Cell
abbrev Sl := List (Option D)
/-- what is raised: the class (by its name) and the fields -/
structure Exn where
  cls : String
  args : List P
inductive Res (α : Type) where
  | ok (a : α) (h : Hh)
  | err (e : Exn) (h : Hh)
  | bad
def Res.bind {α β : Type} (x : Res α) (f : α → Hh → Res β) : Res β :=
  match x with
  | .ok a h => f a h
  | .err e h => .err e h
  | .bad => .bad
@[simp] theorem Res.bind_ok {α β : Type} (a : α) (h : Hh) (f : α → Hh → Res β) : (Res.ok a h).bind f = f a h := rfl
@[simp] theorem Res.bind_err {α β : Type} (e : Exn) (h : Hh) (f : α → Hh → Res β) : (Res.err e h : Res α).bind f = .err e h := rfl
@[simp] theorem Res.bind_bad {α β : Type} (f : α → Hh → Res β) : (Res.bad : Res α).bind f = .bad := rfl
inductive SRes where
  | nx (σ : Sl) (h : Hh)
  | rt (d : D) (h : Hh)
  | bk (σ : Sl) (h : Hh)
  | ct (σ : Sl) (h : Hh)
  | er (e : Exn) (h : Hh)
  | bad
/-! ### operations on data -/
def mulOk (i j : Int) : Bool := decide (i.natAbs < 2 ^ 63) || decide (j.natAbs < 2 ^ 63) || (decide (i.natAbs < 2 ^ 400000) && decide (j.natAbs < 2 ^ 400000))
def divOk (j : Int) : Bool := decide (0 < j) && decide (j.natAbs < 2 ^ 8000)
def powOk (i j : Int) : Bool := decide (0 ≤ j) && decide (j ≤ 1000000) && decide (i.natAbs < 2 ^ 64)
def binop : Operator → P → P → Option P
  | .Add, .int i, .int j => some (.int (i + j))
  | .Sub, .int i, .int j => some (.int (i - j))
  | .Mult, .int i, .int j => if mulOk i j then some (.int (i * j)) else none
  | .FloorDiv, .int i, .int j => if divOk j then some (.int (i / j)) else none
  | .Mod, .int i, .int j => if j = 0 then none else some (.int (i.fmod j))
  | .Pow, .int i, .int j => if powOk i j then some (.int (i ^ j.toNat)) else none
  | .Add, .str x, .str y => if x.length + y.length ≤ 16000000 then some (.str (x ++ y)) else none
  | .Add, .tuple xs, .tuple ys => if xs.length + ys.length ≤ 16000000 then some (.tuple (xs ++ ys)) else none
  | .Add, .list xs, .list ys => if xs.length + ys.length ≤ 16000000 then some (.list (xs ++ ys)) else none
  | _, _, _ => none
def isNone : P → Bool
  | .none => true
  | _ => false
def shp (d : P) : Bool := SeqAt.shaped d
/-- == of data -/
def eqD : P → P → Option Bool
  | .dict xs, .dict ys => if xs.isEmpty || ys.isEmpty then some (xs.isEmpty && ys.isEmpty) else none
  | .str x, .str y => some (x == y)
  | a, b => if shp a && shp b then some (PyData.eqv a b) else none
def ltD (a b : P) : Option Bool := if PySem.W.alike a b && !isNone a && shp a && shp b then some (PySem.W.dataLt a b) else none
def toKey : P → Option Key
  | .int i => some (.inl i)
  | .str x => some (.inr x)
  | _ => none
mutual
def toNK : P → Option NestedKey
  | .none => some .none
  | .bool b => some (.num (if b = true then 1 else 0))
  | .int i => some (.num i)
  | .str x => some (.text x)
  | .tuple ds => (toNKs ds).map .tup
  | _ => none
def toNKs : List P → Option (List NestedKey)
  | [] => some []
  | d :: ds => match toNK d, toNKs ds with
    | some k, some ks => some (k :: ks)
    | _, _ => none
end
/-- a key of a dict: an int, a text; or a tuple of keys -/
def keyOk (d : P) : Bool := match d with
  | .int _ | .str _ => true
  | .tuple _ => (toNK d).isSome && decide (d.depth ≤ 8)
  | _ => false
def dget (kvs : List (P × P)) (k : P) : Option P := (kvs.find? fun kv => PyData.eqv kv.1 k).map (·.2)
def dput (kvs : List (P × P)) (k v : P) : List (P × P) :=
  if kvs.any (fun kv => PyData.eqv kv.1 k) then kvs.map (fun kv => if PyData.eqv kv.1 k then (kv.1, v) else kv) else kvs ++ [(k, v)]
def ddel (kvs : List (P × P)) (k : P) : List (P × P) := kvs.filter fun kv => !PyData.eqv kv.1 k
def isTupK : P → Bool
  | .tuple _ => true
  | _ => false
/-- a key that fits the keys of a dict: all tuples, or none -/
def keyIn (kvs : List (P × P)) (k : P) : Bool := keyOk k && kvs.all fun kv => isTupK kv.1 == isTupK k
def inD : P → P → Option Bool
  | .str x, .str z => match x.cps.toList with
    | [c] => some (decide (c ∈ z.cps.toList))
    | _ => none
  | a, .list xs => if shp a && shp (.list xs) then some (xs.any fun z => PyData.eqv z a) else none
  | a, .dict kvs => if keyIn kvs a then some (dget kvs a).isSome else none
  | _, _ => none
def cmpop : CmpOp → P → P → Option Bool
  | .Eq, a, b => eqD a b
  | .NotEq, a, b => (eqD a b).map (!·)
  | .Lt, a, b => ltD a b
  | .LtE, .int i, .int j => some (decide (i ≤ j))
  | .Gt, .int i, .int j => some (decide (j < i))
  | .GtE, .int i, .int j => some (decide (j ≤ i))
  | .Is, a, .none => some (isNone a)
  | .IsNot, a, .none => some (!isNone a)
  | .In, a, b => inD a b
  | .NotIn, a, b => (inD a b).map (!·)
  | _, _, _ => none
inductive Ty where
  | int | bool | str | tuple | list | dict
def isTy : Ty → P → Bool
  | .int, .int _ => true
  | .int, .bool _ => true
  | .bool, .bool _ => true
  | .str, .str _ => true
  | .tuple, .tuple _ => true
  | .list, .list _ => true
  | .dict, .dict _ => true
  | _, _ => false
/-- o[i] -/
def idxD : P → P → Option P
  | .list xs, .int i => atI xs i
  | .tuple xs, .int i => atI xs i
  | .str x, .int i => if x.length ≤ 16000000 then (atI x.cps.toList i).map fun c => .str ⟨#[c]⟩ else none
  | .dict kvs, k => if keyIn kvs k then dget kvs k else none
  | _, _ => none
def cutP (xs : List P) (lo hi : Option Int) : List P := (xs.drop (HT.sIx xs.length 0 lo)).take (HT.sIx xs.length xs.length hi - HT.sIx xs.length 0 lo)
def slcD (d : P) (lo hi : Option Int) : Option P := match d with
  | .list xs => some (.list (cutP xs lo hi))
  | .tuple xs => some (.tuple (cutP xs lo hi))
  | .str x => if x.length ≤ 16000000 then some (.str (cutS x lo hi)) else none
  | _ => none
inductive Bi where
  | len | all | any | tuple | list | sorted | abs | int | gcd | repr | str | upper
def bools : List P → Option (List Bool)
  | [] => some []
  | .bool b :: r => (bools r).map (b :: ·)
  | _ :: _ => none
def allAlike (ds : List P) : Bool := ds.all fun a => ds.all fun b => PySem.W.alike a b
/-- sorted is known of these -/
def sortOk (ds : List P) : Bool := allAlike ds && ds.all (fun d => !isNone d && shp d) && decide (ds.length ≤ 16000000)
def sortP (ds : List P) : List P := ds.mergeSort fun a b => !PySem.W.dataLt b a
def bi : Bi → List P → Option P
  | .len, [.list xs] => some (.int xs.length)
  | .len, [.tuple xs] => some (.int xs.length)
  | .len, [.dict xs] => some (.int xs.length)
  | .len, [.str x] => if x.length ≤ 16000000 then some (.int x.length) else none
  | .all, [.list xs] => (bools xs).map fun bs => .bool (bs.all id)
  | .any, [.list xs] => (bools xs).map fun bs => .bool (bs.any id)
  | .tuple, [.list xs] => some (.tuple xs)
  | .tuple, [.tuple xs] => some (.tuple xs)
  | .list, [.list xs] => some (.list xs)
  | .list, [.tuple xs] => some (.list xs)
  | .list, [.dict kvs] => some (.list (kvs.map (·.1)))
  | .sorted, [.list xs] => if sortOk xs then some (.list (sortP xs)) else none
  | .abs, [.int i] => some (.int i.natAbs)
  | .int, [.int i] => some (.int i)
  | .gcd, [.int i, .int j] => some (.int (Int.gcd i j))
  | .repr, [d] => if d.showable && shp d && decide (d.shown.length ≤ 16000000) then some (.str d.shown) else none
  | .str, [.int i] => if (PyData.int i).showable then some (.str (toString i : String)) else none
  | .upper, [.str x] => if x.length ≤ 5592405 then some (.str (Txt.upper x)) else none
  | _, _ => none
/-! ### the language -/
/-- what is stored to: a name's slot, or a tuple of such -/
inductive MT where
  | var (i : Nat)
  | tup (ts : List MT)
mutual
inductive ME where
  | lit (d : P)
  | con (x : Str) (d : P)
  | var (i : Nat)
  | bin (o : Operator) (a b : ME)
  | neg (a : ME)
  | not (a : ME)
  | cmp (o : CmpOp) (a b : ME)
  | chain (o o' : CmpOp) (a b c : ME)
  | and (a b : ME)
  | or (a b : ME)
  | ite (c a b : ME)
  | tup (es : MEs)
  | lst (m : Bool) (es : MEs)
  | dct (m : Bool) (es : MEs)
  | idx (a b : ME)
  | slc (a : ME) (lo hi : MO)
  | isi (a : ME) (t : Ty)
  | bi (b : Bi) (es : MEs)
  | call (f : Str) (k : Nat) (es : MEs)
  | get (o k d : ME)
  | pop (o k : ME)
  | app (o e : ME)
  | lc (m : Bool) (e : ME) (t : MT) (it : MI) (ifs : MEs) (vs : List Nat)
  | sset (tp : Bool) (e : ME) (t : MT) (it : MI) (t1 : MT) (it1 : MI) (vs vs1 : List Nat)
inductive MEs where
  | nil
  | cons (a : ME) (r : MEs)
inductive MO where
  | none
  | some (a : ME)
inductive MI where
  | exp (a : ME)
  | rng (es : MEs)
  | enum (a : ME)
  | zip (a b : ME)
end
mutual
inductive MS where
  | asg (t : MT) (e : ME)
  | par (i j : Nat) (a b : ME)
  | put (o k e : ME)
  | exp (e : ME)
  | ret (e : ME)
  | ite (c : ME) (a b : MSs)
  | fr (t : MT) (it : MI) (b : MSs)
  | whl (c : ME) (b : MSs)
  | pass
inductive MSs where
  | nil
  | cons (a : MS) (r : MSs)
end
/-! ### the interpreter -/
structure Calls where
  call : Nat → List D → Hh → Res D
  fuel : Nat
def peek : D → Hh → Option P
  | .p d, _ => some d
  | .r i, h => match h[i]? with
    | some (.lst ds) => some (.list ds)
    | some (.dct kvs) => some (.dict kvs)
    | _ => none
def peeks : List D → Hh → Option (List P)
  | [], _ => some []
  | d :: ds, h => match peek d h, peeks ds h with
    | some p, some ps => some (p :: ps)
    | _, _ => none
/-- a value goes into a structure: a cell is given up -/
def frz : D → Hh → Option (P × Hh)
  | .p d, h => some (d, h)
  | .r i, h => match h[i]? with
    | some (.lst ds) => some (.list ds, h.set i .gone)
    | some (.dct kvs) => some (.dict kvs, h.set i .gone)
    | _ => none
def frzs : List D → Hh → Option (List P × Hh)
  | [], h => some ([], h)
  | d :: ds, h => match frz d h with
    | some (p, h1) => match frzs ds h1 with
      | some (ps, h2) => some (p :: ps, h2)
      | none => none
    | none => none
def isDi (x : D) (h : Hh) : Bool := match peek x h with
  | some (.dict _) => true
  | _ => false
def isLi (x : D) (h : Hh) : Bool := match peek x h with
  | some (.list _) => true
  | _ => false
def okP (o : Option P) (h : Hh) : Res D := match o with
  | some d => .ok (.p d) h
  | none => .bad
def okB (o : Option Bool) (h : Hh) : Res D := match o with
  | some b => .ok (.p (.bool b)) h
  | none => .bad
/-- a fresh list or dict: as a cell, or as data -/
def mk (m : Bool) (d : P) (h : Hh) : Res D := match m, d with
  | false, _ => .ok (.p d) h
  | true, .list ds => .ok (.r h.length) (h ++ [.lst ds])
  | true, .dict kvs => .ok (.r h.length) (h ++ [.dct kvs])
  | true, _ => .bad
/-- key, value, key, value, .. -/
def dmake : List P → List (P × P) → Option (List (P × P))
  | [], acc => some acc
  | k :: v :: r, acc => if keyIn acc k then dmake r (dput acc k v) else none
  | _, _ => none
mutual
def asg : MT → P → Sl → Option Sl
  | .var i, d, σ => if i < σ.length then some (σ.set i (some (.p d))) else none
  | .tup ts, .tuple ds, σ => asgs ts ds σ
  | .tup _, _, _ => none
def asgs : List MT → List P → Sl → Option Sl
  | [], [], σ => some σ
  | t :: ts, d :: ds, σ => match asg t d σ with
    | some σ1 => asgs ts ds σ1
    | none => none
  | _, _, _ => none
end
def asgD : MT → D → Sl → Option Sl
  | .var i, d, σ => if i < σ.length then some (σ.set i (some d)) else none
  | t, .p d, σ => asg t d σ
  | _, _, _ => none
def wip (σ : Sl) : List Nat → Sl
  | [] => σ
  | v :: vs => (wip σ vs).set v none
def enumP (n : Nat) : List P → List P
  | [] => []
  | d :: ds => .tuple [.int n, d] :: enumP (n + 1) ds
def zipP : List P → List P → List P
  | a :: as, b :: bs => .tuple [a, b] :: zipP as bs
  | _, _ => []
def rngP (lo : Int) (n : Nat) : List P := (List.range n).map fun i => .int (lo + (i : Nat))
/-- what is walked -/
def itP : P → Option (List P)
  | .list ds => some ds
  | .tuple ds => some ds
  | .dict kvs => some (kvs.map (·.1))
  | .str x => some (x.cps.toList.map fun c => .str ⟨#[c]⟩)
  | _ => none
def bd (i : Int) : Bool := decide (-(2 ^ 62) ≤ i) && decide (i < 2 ^ 62)
def rngOf : List P → Option (List P)
  | [.int n] => if bd n then some (rngP 0 n.toNat) else none
  | [.int a, .int b] => if bd a && bd b then some (rngP a (b - a).toNat) else none
  | _ => none
/-- a cell that is walked stays as it is -/
def Still (g : Option (Nat × Cell)) (h : Hh) : Prop := match g with
  | none => True
  | some (i, .lst ds) => h[i]? = some (.lst ds)
  | some (i, .dct kvs) => h[i]? = some (.dct kvs)
  | some (_, .gone) => False
def truth : Res D → Res Bool
  | .ok (.p (.bool b)) h => .ok b h
  | .ok _ _ => .bad
  | .err e h => .err e h
  | .bad => .bad
/-- no exception leaves a comprehension -/
def Res.calm {α : Type} : Res α → Res α
  | .ok a h => .ok a h
  | _ => .bad
/-- the new list is the cell i -/
def lcLoop (asgn : P → Sl → Option Sl) (tst : Sl → Hh → Res Bool) (elt : Sl → Hh → Res D) (i : Nat) (σ : Sl) : List P → Hh → Res Unit
  | [], h => .ok () h
  | x :: xs, h => match asgn x σ with
    | some σ1 => (tst σ1 h).calm.bind fun b h1 => if b then (elt σ1 h1).calm.bind fun d h2 => match frz d h2 with
        | some (p, h3) => match h3[i]? with
          | some (.lst acc) => if acc.length < 16000000 then lcLoop asgn tst elt i σ xs (h3.set i (.lst (acc ++ [p]))) else .bad
          | _ => .bad
        | none => .bad
      else lcLoop asgn tst elt i σ xs h1
    | none => .bad
/-- the first list that a comprehension made: as a cell, or as data -/
def lcEnd (m : Bool) (n : Nat) (h : Hh) : Res D := match h[n]? with
  | some (.lst ps) => if m then .ok (.r n) h else .ok (.p (.list ps)) (h.take n)
  | _ => .bad
/-- what may be a member: tuples that are keys, or texts -/
def bagB : Bool → P → Bool
  | true, .tuple ds => keyOk (.tuple ds)
  | false, .str _ => true
  | _, _ => false
def bagAdd (acc : List P) (p : P) : List P := if acc.any (fun z => PyData.eqv z p) then acc else acc ++ [p]
/-- the loops of {e for t in xs for t1 in ..}: the members as they come -/
def ssIn (tp : Bool) (asgn1 : P → Sl → Option Sl) (elt : Sl → Hh → Res D) (σ : Sl) : List P → List P → Hh → Res (List P)
  | [], acc, h => .ok acc h
  | y :: ys, acc, h => match asgn1 y σ with
    | some σ2 => (elt σ2 h).calm.bind fun d h1 => match d with
      | .p p => if bagB tp p && decide (acc.length < 60) then ssIn tp asgn1 elt σ ys (bagAdd acc p) h1 else .bad
      | _ => .bad
    | none => .bad
def ssLoop (tp : Bool) (asgn : P → Sl → Option Sl) (inner : Sl → Hh → Res (List P)) (asgn1 : P → Sl → Option Sl) (elt : Sl → Hh → Res D) (vs1 : List Nat) (σ : Sl) : List P → List P → Hh → Res (List P)
  | [], acc, h => .ok acc h
  | x :: xs, acc, h => match asgn x σ with
    | some σ1 => (inner σ1 h).calm.bind fun ys h1 => (ssIn tp asgn1 elt (wip σ1 vs1) ys acc h1).bind fun acc h2 => ssLoop tp asgn inner asgn1 elt vs1 σ xs acc h2
    | none => .bad
mutual
def ev (C : Calls) : ME → Sl → Hh → Res D
  | .lit d, _, h => .ok (.p d) h
  | .con _ d, _, h => .ok (.p d) h
  | .var i, σ, h => match σ[i]? with
    | some (some d) => .ok d h
    | _ => .bad
  | .bin o a b, σ, h => (ev C a σ h).bind fun x h1 => (ev C b σ h1).bind fun y h2 => match peek x h2, peek y h2 with
    | some p, some q => okP (binop o p q) h2
    | _, _ => .bad
  | .neg a, σ, h => (ev C a σ h).bind fun x h1 => match x with
    | .p (.int i) => .ok (.p (.int (-i))) h1
    | _ => .bad
  | .not a, σ, h => (truth (ev C a σ h)).bind fun b h1 => .ok (.p (.bool (!b))) h1
  | .cmp o a b, σ, h => (ev C a σ h).bind fun x h1 => (ev C b σ h1).bind fun y h2 => match peek x h2, peek y h2 with
    | some p, some q => okB (cmpop o p q) h2
    | _, _ => .bad
  | .chain o o' a b c, σ, h => (ev C a σ h).bind fun x h1 => (ev C b σ h1).bind fun y h2 => match peek x h2, peek y h2 with
    | some p, some q => match cmpop o p q with
      | some true => (ev C c σ h2).bind fun z h3 => match peek y h3, peek z h3 with
        | some q, some r => okB (cmpop o' q r) h3
        | _, _ => .bad
      | some false => .ok (.p (.bool false)) h2
      | none => .bad
    | _, _ => .bad
  | .and a b, σ, h => (truth (ev C a σ h)).bind fun t h1 => if t then ev C b σ h1 else .ok (.p (.bool false)) h1
  | .or a b, σ, h => (truth (ev C a σ h)).bind fun t h1 => if t then .ok (.p (.bool true)) h1 else ev C b σ h1
  | .ite c a b, σ, h => (truth (ev C c σ h)).bind fun t h1 => if t then ev C a σ h1 else ev C b σ h1
  | .tup es, σ, h => (evs C es σ h).bind fun ds h1 => match frzs ds h1 with
    | some (ps, h2) => .ok (.p (.tuple ps)) h2
    | none => .bad
  | .lst m es, σ, h => (evs C es σ h).bind fun ds h1 => match frzs ds h1 with
    | some (ps, h2) => mk m (.list ps) h2
    | none => .bad
  | .dct m es, σ, h => (evs C es σ (h ++ [.dct []])).bind fun ds h1 => match frzs ds h1 with
    | some (ps, h2) => match h2[h.length]? with
      | some (.dct []) => match dmake ps [] with
        | some kvs => if m then .ok (.r h.length) (h2.set h.length (.dct kvs)) else .ok (.p (.dict kvs)) (h2.take h.length)
        | none => .bad
      | _ => .bad
    | none => .bad
  | .idx a b, σ, h => (ev C a σ h).bind fun x h1 => (ev C b σ h1).bind fun y h2 => match peek x h2, peek y h2 with
    | some p, some q => okP (idxD p q) h2
    | _, _ => .bad
  | .slc a lo hi, σ, h => (ev C a σ h).bind fun x h1 => (evo C lo σ h1).bind fun l h2 => (evo C hi σ h2).bind fun u h3 => match peek x h3 with
    | some p => okP (slcD p l u) h3
    | none => .bad
  | .isi a t, σ, h => (ev C a σ h).bind fun x h1 => match peek x h1 with
    | some p => .ok (.p (.bool (isTy t p))) h1
    | none => .bad
  | .bi b es, σ, h => (evs C es σ h).bind fun ds h1 => match peeks ds h1 with
    | some ps => okP (bi b ps) h1
    | none => .bad
  | .call _ k es, σ, h => (evs C es σ h).bind fun ds h1 => C.call k ds h1
  | .get o k d, σ, h => (ev C o σ h).bind fun x h1 => if isDi x h1 then (ev C k σ h1).bind fun y h2 => (ev C d σ h2).bind fun z h3 => match peek x h3, y, z with
    | some (.dict kvs), .p k, .p e => if keyIn kvs k then .ok (.p ((dget kvs k).getD e)) h3 else .bad
    | _, _, _ => .bad
    else .bad
  | .pop o k, σ, h => (ev C o σ h).bind fun x h1 => if isDi x h1 then (ev C k σ h1).bind fun y h2 => match x, y with
    | .r i, .p k => match h2[i]? with
      | some (.dct kvs) => if keyIn kvs k then match dget kvs k with
          | some v => .ok (.p v) (h2.set i (.dct (ddel kvs k)))
          | none => .bad
        else .bad
      | _ => .bad
    | _, _ => .bad
    else .bad
  | .app o e, σ, h => (ev C o σ h).bind fun x h1 => if isLi x h1 then (ev C e σ h1).bind fun y h2 => match x, frz y h2 with
    | .r i, some (p, h3) => match h3[i]? with
      | some (.lst ds) => if ds.length < 16000000 then .ok (.p .none) (h3.set i (.lst (ds ++ [p]))) else .bad
      | _ => .bad
    | _, _ => .bad
    else .bad
  | .lc m e t it ifs vs, σ, h => (evi C it σ h).bind fun xs h1 =>
      (lcLoop (fun x σ => asg t x σ) (fun σ h => evt C ifs σ h) (fun σ h => ev C e σ h) h1.length (wip σ vs) xs (h1 ++ [.lst []])).bind fun _ h2 => lcEnd m h1.length h2
  | .sset tp e t it t1 it1 vs vs1, σ, h => (evi C it σ h).bind fun xs h1 =>
      (ssLoop tp (fun x σ => asg t x σ) (fun σ h => evi C it1 σ h) (fun x σ => asg t1 x σ) (fun σ h => ev C e σ h) vs1 (wip σ vs) xs [] h1).bind fun ps h2 =>
      if sortOk ps then .ok (.p (.list (sortP ps))) h2 else .bad
def evs (C : Calls) : MEs → Sl → Hh → Res (List D)
  | .nil, _, h => .ok [] h
  | .cons a r, σ, h => (ev C a σ h).bind fun x h1 => (evs C r σ h1).bind fun xs h2 => .ok (x :: xs) h2
/-- tests, one after another -/
def evt (C : Calls) : MEs → Sl → Hh → Res Bool
  | .nil, _, h => .ok true h
  | .cons a r, σ, h => (truth (ev C a σ h)).bind fun b h1 => if b then evt C r σ h1 else .ok false h1
def evo (C : Calls) : MO → Sl → Hh → Res (Option Int)
  | .none, _, h => .ok none h
  | .some a, σ, h => (ev C a σ h).bind fun x h1 => match x with
    | .p (.int i) => .ok (some i) h1
    | _ => .bad
def evi (C : Calls) : MI → Sl → Hh → Res (List P)
  | .exp a, σ, h => (ev C a σ h).bind fun x h1 => match x with
    | .p d => match itP d with
      | some xs => .ok xs h1
      | none => .bad
    | _ => .bad
  | .rng es, σ, h => (evs C es σ h).bind fun ds h1 => match peeks ds h1 with
    | some ps => match rngOf ps with
      | some xs => .ok xs h1
      | none => .bad
    | none => .bad
  | .enum a, σ, h => (ev C a σ h).bind fun x h1 => match x with
    | .p (.list ds) => .ok (enumP 0 ds) h1
    | _ => .bad
  | .zip a b, σ, h => (ev C a σ h).bind fun x h1 => (ev C b σ h1).bind fun y h2 => match x, y with
    | .p (.list ds), .p (.list es) => .ok (zipP ds es) h2
    | _, _ => .bad
end
def okS (σ : Sl) : Res D → SRes
  | .ok _ h => .nx σ h
  | .err e h => .er e h
  | .bad => .bad
def forLoop (asgn : P → Sl → Option Sl) (body : Sl → Hh → SRes) : List P → Sl → Hh → SRes
  | [], σ, h => .nx σ h
  | x :: xs, σ, h => match asgn x σ with
    | some σ1 => match body σ1 h with
      | .nx σ2 h2 => forLoop asgn body xs σ2 h2
      | .ct σ2 h2 => forLoop asgn body xs σ2 h2
      | .bk σ2 h2 => .nx σ2 h2
      | .rt d h2 => .rt d h2
      | .er e h2 => .er e h2
      | .bad => .bad
    | none => .bad
def whlLoop (tst : Sl → Hh → Res Bool) (body : Sl → Hh → SRes) : Nat → Sl → Hh → SRes
  | 0, _, _ => .bad
  | n + 1, σ, h => match tst σ h with
    | .ok true h1 => match body σ h1 with
      | .nx σ2 h2 => whlLoop tst body n σ2 h2
      | .ct σ2 h2 => whlLoop tst body n σ2 h2
      | .bk σ2 h2 => .nx σ2 h2
      | .rt d h2 => .rt d h2
      | .er e h2 => .er e h2
      | .bad => .bad
    | .ok false h1 => .nx σ h1
    | .err e h1 => .er e h1
    | .bad => .bad
def SRes.of {α : Type} (r : Res α) (f : α → Hh → SRes) : SRes := match r with
  | .ok a h => f a h
  | .err e h => .er e h
  | .bad => .bad
/-- x[y] = z -/
def putD (σ : Sl) (z x y : D) (h : Hh) : SRes := match x, y with
  | .r i, .p k => match frz z h with
    | some (v, h4) => match h4[i]? with
      | some (.dct kvs) => if keyIn kvs k && decide (kvs.length < 16000000) then .nx σ (h4.set i (.dct (dput kvs k v))) else .bad
      | some (.lst ds) => match k with
        | .int n => match ixN ds.length n with
          | some j => .nx σ (h4.set i (.lst (ds.set j v)))
          | none => .bad
        | _ => .bad
      | _ => .bad
    | none => .bad
  | _, _ => .bad
mutual
def ex (C : Calls) : MS → Sl → Hh → SRes
  | .asg t e, σ, h => match ev C e σ h with
    | .ok d h1 => match asgD t d σ with
      | some σ1 => .nx σ1 h1
      | none => .bad
    | .err e h1 => .er e h1
    | .bad => .bad
  | .par i j a b, σ, h => match (ev C a σ h).bind fun x h1 => (ev C b σ h1).bind fun y h2 => .ok (x, y) h2 with
    | .ok (x, y) h2 => if i < σ.length ∧ j < σ.length then .nx ((σ.set i (some x)).set j (some y)) h2 else .bad
    | .err e h1 => .er e h1
    | .bad => .bad
  | .put o k e, σ, h => SRes.of ((ev C e σ h).bind fun z h1 => (ev C o σ h1).bind fun x h2 => (ev C k σ h2).bind fun y h3 => .ok (z, x, y) h3) fun q h3 => putD σ q.1 q.2.1 q.2.2 h3
  | .exp e, σ, h => okS σ (ev C e σ h)
  | .ret e, σ, h => match ev C e σ h with
    | .ok d h1 => .rt d h1
    | .err e h1 => .er e h1
    | .bad => .bad
  | .ite c a b, σ, h => match truth (ev C c σ h) with
    | .ok true h1 => exs C a σ h1
    | .ok false h1 => exs C b σ h1
    | .err e h1 => .er e h1
    | .bad => .bad
  | .fr t it b, σ, h => match evi C it σ h with
    | .ok xs h1 => forLoop (fun x σ => asg t x σ) (fun σ h => exs C b σ h) xs σ h1
    | .err e h1 => .er e h1
    | .bad => .bad
  | .whl c b, σ, h => whlLoop (fun σ h => truth (ev C c σ h)) (fun σ h => exs C b σ h) C.fuel σ h
  | .pass, σ, h => .nx σ h
def exs (C : Calls) : MSs → Sl → Hh → SRes
  | .nil, σ, h => .nx σ h
  | .cons a r, σ, h => match ex C a σ h with
    | .nx σ1 h1 => exs C r σ1 h1
    | x => x
end
/-! ### defs -/
structure FDef where
  name : Str
  np : Nat
  ns : Nat
  mr : Bool
  body : MSs
/-- a call's end: cells that the def made are given up; what is handed back is data, or (mut) one new cell -/
def fin (m : Bool) (n : Nat) : SRes → Res D
  | .rt (.p d) h => .ok (.p d) (h.take n)
  | .nx _ h => .ok (.p .none) (h.take n)
  | .rt (.r i) h => if i < n then .ok (.r i) (h.take n) else match h[i]? with
    | some (.lst ds) => mk m (.list ds) (h.take n)
    | some (.dct kvs) => mk m (.dict kvs) (h.take n)
    | _ => .bad
  | .er e h => .err e (h.take n)
  | _ => .bad
def callN (prog : List FDef) (fuel : Nat) : Nat → Nat → List D → Hh → Res D
  | 0, _, _, _ => .bad
  | k + 1, f, ds, h => match prog[f]? with
    | some F => if ds.length = F.np then fin F.mr h.length (exs ⟨callN prog fuel k, fuel⟩ F.body (ds.map some ++ List.replicate (F.ns - F.np) none) h) else .bad
    | none => .bad
end Mi
/-! MiB: how the interpreter's values and cells lie in HandS's abstract heap. -/
namespace Mi
open PySem L2
/-- an object of the module that is a list, a tuple -/
def KLst (K : PySem.W.Frag) (a : Addr) (xs : List V) : Prop :=
  ∃ (o : Obj) (its : Array Value) (n : Nat), K.lookup a = some o ∧ o.cls = .type "list" ∧ o.dict = none ∧ o.data = .seq its n ∧ its.size ≤ sizeLine ∧ Vals xs its.toList
def KTup (K : PySem.W.Frag) (a : Addr) (xs : List V) : Prop :=
  ∃ (o : Obj) (its : Array Value) (n : Nat), K.lookup a = some o ∧ o.cls = .type "tuple" ∧ o.data = .seq its n ∧ its.size ≤ sizeLine ∧ Vals xs its.toList
/-- L: the cells that may be written -/
def LstF (K : PySem.W.Frag) (L : Addr → Prop) (H : Hp) (a : Addr) (vs : List V) : Prop := (¬ L a ∧ Rd H a (.lst vs)) ∨ KLst K a vs
def TupF (K : PySem.W.Frag) (L : Addr → Prop) (H : Hp) (a : Addr) (vs : List V) : Prop := (¬ L a ∧ Rd H a (.tup vs)) ∨ KTup K a vs
theorem LstF.sq {K : PySem.W.Frag} {L : Addr → Prop} {H : Hp} {a : Addr} {vs : List V} (h : LstF K L H a vs) : SqL K H a vs := h.elim (fun z => .inl z.2) .inr
theorem TupF.sq {K : PySem.W.Frag} {L : Addr → Prop} {H : Hp} {a : Addr} {vs : List V} (h : TupF K L H a vs) : SqT K H a vs := h.elim (fun z => .inl z.2) .inr
/-- the dict at a, its keys tuples -/
def TDct (pr : Program) (w : World) (a : Addr) (xs : List (NestedKey × Addr × V)) : Heap → Prop := fun h =>
  ∃ ys : List (NestedKey × Addr × Value), Paired (fun p q => p.1 = q.1 ∧ p.2.1 = q.2.1 ∧ RelV p.2.2 q.2.2) xs ys ∧
    ∃ o es ep, h.get? a = some o ∧ o.ExactDict ∧ o.data = .dict es ep ∧ es.toList = ys.map (entryOfKey (nestedKind pr w))
/-- an entry: the key as data, the key's value, the value -/
structure En where
  d : P
  k : V
  v : V
/-- the dict of these entries; O: what stands at its address -/
def DctO (pr : Program) (w : World) (O : HO → Prop) (a : Addr) (es : List En) : Prop :=
  (∃ kv : List (Key × V), O (.dK kv) ∧ (kv.map (·.1)).Nodup ∧ Paired (fun (e : En) (q : Key × V) => toKey e.d = some q.1 ∧ e.k = kV q.1 ∧ e.v = q.2) es kv) ∨
  (a ≠ sysModules ∧ es.length ≤ sizeLine ∧ ∃ xs : List (NestedKey × Addr × V), O (.ext (TDct pr w a xs)) ∧ (xs.map (·.1)).Nodup ∧
    Paired (fun (e : En) (q : NestedKey × Addr × V) => toNK e.d = some q.1 ∧ keyOk e.d = true ∧ e.k = .ref q.2.1 ∧ e.v = q.2.2) es xs)
/-- it may be locked -/
def DctR (pr : Program) (w : World) (H : Hp) (a : Addr) (es : List En) : Prop := DctO pr w (Rd H a) a es
/-- it may be written -/
def DctW (pr : Program) (w : World) (H : Hp) (a : Addr) (es : List En) : Prop := DctO pr w (fun o => H a = some o) a es
theorem DctW.r {pr : Program} {w : World} {H : Hp} {a : Addr} {es : List En} (x : DctW pr w H a es) : DctR pr w H a es := by
  rcases x with ⟨kv, e, r⟩ | ⟨n, z, xs, e, r⟩
  · exact .inl ⟨kv, .inl e, r⟩
  · exact .inr ⟨n, z, xs, .inl e, r⟩
theorem DctW.mut {pr : Program} {w : World} {H : Hp} {a : Addr} {es : List En} (x : DctW pr w H a es) : Mut (H a) := by
  rcases x with ⟨kv, e, r⟩ | ⟨n, z, xs, e, r⟩
  · rw [show H a = _ from e]; trivial
  · rw [show H a = _ from e]; trivial
section
variable (pr : Program) (w : World) (K : PySem.W.Frag) (L : Addr → Prop) (H : Hp)
mutual
/-- data that nobody changes -/
def PV : P → V → Prop
  | .none, v => v = .non
  | .bool b, v => v = .bl b
  | .int i, v => v = .int i
  | .str x, v => v = .str x
  | .list ds, v => ∃ a vs, v = .ref a ∧ LstF K L H a vs ∧ PVs ds vs
  | .tuple ds, v => ∃ a vs, v = .ref a ∧ TupF K L H a vs ∧ PVs ds vs
  | .dict kvs, v => ∃ a es, v = .ref a ∧ ¬ L a ∧ DctR pr w H a es ∧ PVk kvs es
def PVs : List P → List V → Prop
  | [], vs => vs = []
  | d :: ds, vs => ∃ v r, vs = v :: r ∧ PV d v ∧ PVs ds r
def PVk : List (P × P) → List En → Prop
  | [], es => es = []
  | (k, d) :: r, es => ∃ e t, es = e :: t ∧ e.d = k ∧ PV k e.k ∧ PV d e.v ∧ PVk r t
end
end
structure Wd where
  pr : Program
  w : World
  K : PySem.W.Frag
/-- the cells that may be written -/
def lv (ι : List Addr) (h : Hh) (a : Addr) : Prop := ∃ (i : Nat) (c : Cell), ι[i]? = some a ∧ h[i]? = some c ∧ c ≠ Cell.gone
def CellOk (W : Wd) (L : Addr → Prop) (H : Hp) (a : Addr) : Cell → Prop
  | .lst ds => ∃ vs, H a = some (.lst vs) ∧ PVs W.pr W.w W.K L H ds vs
  | .dct kvs => ∃ es, DctW W.pr W.w H a es ∧ PVk W.pr W.w W.K L H kvs es
  | .gone => True
structure RH (W : Wd) (ι : List Addr) (h : Hh) (H : Hp) : Prop where
  len : ι.length = h.length
  nd : ι.Nodup
  dom : ∀ a ∈ ι, H a ≠ none
  cell : ∀ (i : Nat) (a : Addr) (c : Cell), ι[i]? = some a → h[i]? = some c → CellOk W (lv ι h) H a c
abbrev PVx (W : Wd) (ι : List Addr) (h : Hh) (H : Hp) : P → V → Prop := PV W.pr W.w W.K (lv ι h) H
abbrev PVsx (W : Wd) (ι : List Addr) (h : Hh) (H : Hp) : List P → List V → Prop := PVs W.pr W.w W.K (lv ι h) H
def DV (W : Wd) (ι : List Addr) (h : Hh) (H : Hp) : D → V → Prop
  | .p d, v => PVx W ι h H d v
  | .r i, v => ∃ a, ι[i]? = some a ∧ v = .ref a
def SlR (W : Wd) (ι : List Addr) (h : Hh) (H : Hp) (σA : Sl) (σ : St) : Prop :=
  σA.length = σ.length ∧ ∀ (i : Nat) (d : D), σA[i]? = some (some d) → ∃ v : V, σ[i]? = some (some v) ∧ DV W ι h H d v
/-- what stands may be locked -/
def nFz (o : HO) : Prop := ∀ ob u, o ≠ .frz ob u
def Fz (o o' : HO) : Prop := o' = o ∨ (nFz o ∧ ∃ ob, o' = .frz ob o)
theorem Fz.refl {o : HO} : Fz o o := .inl rfl
theorem Fz.trans {o o' o'' : HO} (x : Fz o o') (y : Fz o' o'') : Fz o o'' := by
  rcases x with rfl | ⟨n, ob, rfl⟩
  · exact y
  · rcases y with rfl | ⟨n', _⟩
    · exact .inr ⟨n, ob, rfl⟩
    · exact absurd rfl (n' ob o)
/-- from one state to a later one -/
structure Go (ι : List Addr) (h : Hh) (H : Hp) (ι' : List Addr) (h' : Hh) (H' : Hp) : Prop where
  pre : ι <+: ι'
  ext : ∀ a o, H a = some o → ¬ lv ι h a → ∃ o', H' a = some o' ∧ Fz o o'
  liv : ∀ a, lv ι' h' a → lv ι h a ∨ H a = none
  dom : ∀ a, H a ≠ none → H' a ≠ none
theorem Go.refl {ι : List Addr} {h : Hh} {H : Hp} : Go ι h H ι h H := ⟨List.prefix_refl _, fun _ _ e _ => ⟨_, e, .refl⟩, fun _ x => .inl x, fun _ x => x⟩
theorem Go.not {ι ι' : List Addr} {h h' : Hh} {H H' : Hp} (g : Go ι h H ι' h' H') {a : Addr} {o : HO} (e : H a = some o) (n : ¬ lv ι h a) : ¬ lv ι' h' a := fun x =>
  (g.liv a x).elim n fun z => by rw [e] at z; cases z
theorem Go.trans {ι ι' ι'' : List Addr} {h h' h'' : Hh} {H H' H'' : Hp} (g : Go ι h H ι' h' H') (g' : Go ι' h' H' ι'' h'' H'') : Go ι h H ι'' h'' H'' where
  pre := g.pre.trans g'.pre
  ext := fun a o e n => let ⟨o1, e1, z1⟩ := g.ext a o e n; let ⟨o2, e2, z2⟩ := g'.ext a o1 e1 (g.not e n); ⟨o2, e2, z1.trans z2⟩
  liv := fun a x => (g'.liv a x).elim (g.liv a) fun z => .inr (Classical.byContradiction fun q => g.dom a q z)
  dom := fun a x => g'.dom a (g.dom a x)
/-- what stands stays -/
structure Stay (L L' : Addr → Prop) (H H' : Hp) : Prop where
  ext : ∀ a o, H a = some o → ¬ L a → ∃ o', H' a = some o' ∧ Fz o o'
  liv : ∀ a o, H a = some o → ¬ L a → ¬ L' a
theorem Go.stay {ι ι' : List Addr} {h h' : Hh} {H H' : Hp} (g : Go ι h H ι' h' H') : Stay (lv ι h) (lv ι' h') H H' := ⟨g.ext, fun _ _ e n => g.not e n⟩
theorem Rd.there {H : Hp} {a : Addr} {o : HO} (r : Rd H a o) : ∃ u, H a = some u ∧ ∀ (H' : Hp) u', H' a = some u' → Fz u u' → Rd H' a o := by
  rcases r with r | ⟨ob, r⟩
  · exact ⟨_, r, fun H' u' e z => by
      rcases z with rfl | ⟨_, ob, rfl⟩
      · exact .inl e
      · exact .inr ⟨ob, e⟩⟩
  · exact ⟨_, r, fun H' u' e z => by
      rcases z with rfl | ⟨n, _⟩
      · exact .inr ⟨ob, e⟩
      · exact absurd rfl (n ob o)⟩
section
variable {pr : Program} {w : World} {K : PySem.W.Frag} {L L' : Addr → Prop} {H H' : Hp}
theorem LstF.go (s : Stay L L' H H') {a : Addr} {vs : List V} (x : LstF K L H a vs) : LstF K L' H' a vs := by
  rcases x with ⟨n, r⟩ | k
  · obtain ⟨u, e, f⟩ := Rd.there r
    obtain ⟨u', e', z⟩ := s.ext a u e n
    exact .inl ⟨s.liv a u e n, f H' u' e' z⟩
  · exact .inr k
theorem TupF.go (s : Stay L L' H H') {a : Addr} {vs : List V} (x : TupF K L H a vs) : TupF K L' H' a vs := by
  rcases x with ⟨n, r⟩ | k
  · obtain ⟨u, e, f⟩ := Rd.there r
    obtain ⟨u', e', z⟩ := s.ext a u e n
    exact .inl ⟨s.liv a u e n, f H' u' e' z⟩
  · exact .inr k
theorem DctR.there {a : Addr} {es : List En} (x : DctR pr w H a es) : ∃ u, H a = some u ∧ ∀ (H' : Hp) u', H' a = some u' → Fz u u' → DctR pr w H' a es := by
  rcases x with ⟨kv, e, r⟩ | ⟨n, z, xs, e, r⟩
  · obtain ⟨u, e1, f⟩ := Rd.there e
    exact ⟨u, e1, fun H' u' e' z => .inl ⟨kv, f H' u' e' z, r⟩⟩
  · obtain ⟨u, e1, f⟩ := Rd.there e
    exact ⟨u, e1, fun H' u' e' z' => .inr ⟨n, z, xs, f H' u' e' z', r⟩⟩
theorem DctW.there {a : Addr} {es : List En} (x : DctW pr w H a es) : ∃ u, H a = some u ∧ ∀ (H' : Hp), H' a = some u → DctW pr w H' a es := by
  rcases x with ⟨kv, e, r⟩ | ⟨n, z, xs, e, r⟩
  · exact ⟨_, e, fun H' e' => .inl ⟨kv, e', r⟩⟩
  · exact ⟨_, e, fun H' e' => .inr ⟨n, z, xs, e', r⟩⟩
mutual
theorem PV.go (s : Stay L L' H H') : ∀ (d : P) (v : V), PV pr w K L H d v → PV pr w K L' H' d v
  | .none, _, x => x
  | .bool _, _, x => x
  | .int _, _, x => x
  | .str _, _, x => x
  | .list ds, _, x => by
    unfold PV at x ⊢
    obtain ⟨a, vs, e, l, q⟩ := x
    exact ⟨a, vs, e, LstF.go s l, PVs.go s ds vs q⟩
  | .tuple ds, _, x => by
    unfold PV at x ⊢
    obtain ⟨a, vs, e, l, q⟩ := x
    exact ⟨a, vs, e, TupF.go s l, PVs.go s ds vs q⟩
  | .dict kvs, _, x => by
    unfold PV at x ⊢
    obtain ⟨a, es, e, n, l, q⟩ := x
    obtain ⟨u, eu, f⟩ := l.there
    obtain ⟨u', eu', z⟩ := s.ext a u eu n
    exact ⟨a, es, e, s.liv a u eu n, f H' u' eu' z, PVk.go s kvs es q⟩
theorem PVs.go (s : Stay L L' H H') : ∀ (ds : List P) (vs : List V), PVs pr w K L H ds vs → PVs pr w K L' H' ds vs
  | [], _, x => x
  | d :: ds, _, x => by
    unfold PVs at x ⊢
    obtain ⟨v, r, e, h1, h2⟩ := x
    exact ⟨v, r, e, PV.go s d v h1, PVs.go s ds r h2⟩
theorem PVk.go (s : Stay L L' H H') : ∀ (kvs : List (P × P)) (es : List En), PVk pr w K L H kvs es → PVk pr w K L' H' kvs es
  | [], _, x => x
  | (k, d) :: r, _, x => by
    unfold PVk at x ⊢
    obtain ⟨e, t, ee, h0, h1, h2, h3⟩ := x
    exact ⟨e, t, ee, h0, PV.go s k _ h1, PV.go s d _ h2, PVk.go s r t h3⟩
end
end
section
variable {W : Wd} {ι ι' : List Addr} {h h' : Hh} {H H' : Hp}
theorem DV.go (g : Go ι h H ι' h' H') {d : D} {v : V} (x : DV W ι h H d v) : DV W ι' h' H' d v := by
  cases d with
  | p d => exact PV.go g.stay d v x
  | r i =>
    obtain ⟨a, e, q⟩ := x
    obtain ⟨t, rfl⟩ := g.pre
    exact ⟨a, by rw [List.getElem?_append_left (List.getElem?_eq_some_iff.mp e).1]; exact e, q⟩
theorem SlR.go (g : Go ι h H ι' h' H') {σA : Sl} {σ : St} (x : SlR W ι h H σA σ) : SlR W ι' h' H' σA σ :=
  ⟨x.1, fun i d e => let ⟨v, e', q⟩ := x.2 i d e; ⟨v, e', q.go g⟩⟩
/-- r's answer is wanted so -/
def Post (W : Wd) {α : Type} (EW : Exn → List Addr → Hh → Hp → Prop) (ι : List Addr) (h : Hh) (H : Hp) (r : Res α) (Q : α → List Addr → Hh → Hp → Prop) : Prop :=
  match r with
  | .ok d h' => ∀ ι' H', Go ι h H ι' h' H' → RH W ι' h' H' → Q d ι' h' H'
  | .err e h' => ∀ ι' H', Go ι h H ι' h' H' → RH W ι' h' H' → EW e ι' h' H'
  | .bad => False
variable {EW : Exn → List Addr → Hh → Hp → Prop}
theorem Post.bind {α β : Type} {r : Res α} {f : α → Hh → Res β} {Q : β → List Addr → Hh → Hp → Prop} (x : Post W EW ι h H (r.bind f) Q) :
    Post W EW ι h H r fun d ι1 h1 H1 => Go ι h H ι1 h1 H1 ∧ RH W ι1 h1 H1 ∧ Post W EW ι1 h1 H1 (f d h1) Q := by
  cases r with
  | bad => exact x
  | err e h1 => exact x
  | ok d h1 =>
    intro ι1 H1 g rh
    refine ⟨g, rh, ?_⟩
    have x : Post W EW ι h H (f d h1) Q := x
    cases e : f d h1 with
    | bad => rw [e] at x; exact x
    | err y h2 => rw [e] at x; exact fun ι2 H2 g2 rh2 => x ι2 H2 (g.trans g2) rh2
    | ok y h2 => rw [e] at x; exact fun ι2 H2 g2 rh2 => x ι2 H2 (g.trans g2) rh2
theorem Post.imp {α : Type} {r : Res α} {Q Q' : α → List Addr → Hh → Hp → Prop} (x : Post W EW ι h H r Q) (k : ∀ d ι' h' H', Go ι h H ι' h' H' → RH W ι' h' H' → Q d ι' h' H' → Q' d ι' h' H') : Post W EW ι h H r Q' := by
  cases r with
  | bad => exact x
  | err e h1 => exact x
  | ok d h1 => exact fun ι1 H1 g rh => k d ι1 h1 H1 g rh (x ι1 H1 g rh)
end
/-- an expression's reading: what the interpreter says -/
def tE (W : Wd) (EW : Exn → List Addr → Hh → Hp → Prop) (C : Calls) (m : ME) : TE := fun σ H Q =>
  ∃ ι h σA, RH W ι h H ∧ SlR W ι h H σA σ ∧ Post W EW ι h H (ev C m σA h) fun d ι' h' H' => ∀ v, DV W ι' h' H' d v → Q v H'
def tT (W : Wd) (EW : Exn → List Addr → Hh → Hp → Prop) (C : Calls) (m : ME) : TT := fun σ H Q =>
  ∃ ι h σA, RH W ι h H ∧ SlR W ι h H σA σ ∧ Post W EW ι h H (truth (ev C m σA h)) fun b _ _ H' => Q b H'
def tAs (W : Wd) (EW : Exn → List Addr → Hh → Hp → Prop) (C : Calls) (ms : MEs) : TA := fun σ H Q =>
  ∃ ι h σA, RH W ι h H ∧ SlR W ι h H σA σ ∧ Post W EW ι h H (evs C ms σA h) fun ds ι' h' H' => ∀ vs, Paired (DV W ι' h' H') ds vs → Q vs H'
abbrev Wx (X : Cx) : Wd := ⟨X.prog, X.w, X.K⟩
end Mi
/-! MiC: steps of the state; lifting of the interpreter's operations to HandS's judgements. -/
namespace Mi
open PySem L2 PySem.Spec PyProof.Rows
theorem nd_ix {α : Type} {l : List α} (nd : l.Nodup) {i j : Nat} {a : α} (x : l[i]? = some a) (y : l[j]? = some a) : i = j := by
  obtain ⟨h1, e1⟩ := List.getElem?_eq_some_iff.mp x
  obtain ⟨h2, e2⟩ := List.getElem?_eq_some_iff.mp y
  exact (List.getElem_inj nd).mp (e1.trans e2.symm)
section
variable {W : Wd} {ι : List Addr} {h : Hh} {H : Hp}
theorem RH.notin (r : RH W ι h H) {p : Addr} (n : H p = none) : p ∉ ι := fun m => r.dom p m n
theorem lv.mem {a : Addr} (x : lv ι h a) : a ∈ ι := by
  obtain ⟨i, c, e, _⟩ := x
  exact List.mem_of_getElem? e
theorem RH.stay {ι' : List Addr} {h' : Hh} {H' : Hp} (r : RH W ι h H) (g : Go ι h H ι' h' H') {i : Nat} {a : Addr} {c : Cell} (e : ι[i]? = some a) (ec : h[i]? = some c) (ea : H' a = H a) : CellOk W (lv ι' h') H' a c := by
  have x := r.cell i a c e ec
  cases c with
  | gone => trivial
  | lst ds =>
    obtain ⟨vs, e1, q⟩ := x
    exact ⟨vs, by rw [ea]; exact e1, PVs.go g.stay ds vs q⟩
  | dct kvs =>
    obtain ⟨es, d, q⟩ := x
    obtain ⟨u, e1, f⟩ := d.there
    exact ⟨es, f H' (by rw [ea]; exact e1), PVk.go g.stay kvs es q⟩
theorem upd_none {H : Hp} {p : Addr} {o : HO} (n : H p = none) {a : Addr} {u : HO} (e : H a = some u) : upd H p o a = some u := by
  rw [upd_ne (ne_of_none e n)]; exact e
theorem upd_dom {H : Hp} {p : Addr} {o : HO} {a : Addr} (e : H a ≠ none) : upd H p o a ≠ none := by
  by_cases z : a = p
  · rw [z, upd_same]; simp
  · rw [upd_ne z]; exact e
/-- a new object that is data -/
theorem Go.new {p : Addr} {o : HO} (n : H p = none) : Go ι h H ι h (upd H p o) :=
  ⟨List.prefix_refl _, fun _ _ e _ => ⟨_, upd_none n e, Fz.refl⟩, fun _ x => .inl x, fun _ e => upd_dom e⟩
theorem RH.new {p : Addr} {o : HO} (r : RH W ι h H) (n : H p = none) : RH W ι h (upd H p o) :=
  ⟨r.len, r.nd, fun a m => upd_dom (r.dom a m), fun i a c e ec => r.stay (Go.new n) e ec (upd_ne fun z => r.notin n (z ▸ List.mem_of_getElem? e))⟩
theorem lv_app {p a : Addr} {c : Cell} (hl : ι.length = h.length) (x : lv (ι ++ [p]) (h ++ [c]) a) : lv ι h a ∨ a = p := by
  obtain ⟨i, d, e, ed, nd⟩ := x
  by_cases hi : i < ι.length
  · rw [List.getElem?_append_left hi] at e
    rw [List.getElem?_append_left (by omega)] at ed
    exact .inl ⟨i, d, e, ed, nd⟩
  · rw [List.getElem?_append_right (by omega)] at e
    have := List.mem_of_getElem? e
    exact .inr (by simpa using this)
theorem app_lv {p a : Addr} {c : Cell} (hl : ι.length = h.length) (x : lv ι h a) : lv (ι ++ [p]) (h ++ [c]) a := by
  obtain ⟨i, d, e, ed, nd⟩ := x
  have h1 := (List.getElem?_eq_some_iff.mp e).1
  exact ⟨i, d, by rw [List.getElem?_append_left h1]; exact e, by rw [List.getElem?_append_left (by omega)]; exact ed, nd⟩
/-- a new cell -/
theorem Go.cell {p : Addr} {o : HO} {c : Cell} (r : RH W ι h H) (n : H p = none) : Go ι h H (ι ++ [p]) (h ++ [c]) (upd H p o) :=
  ⟨List.prefix_append _ _, fun _ _ e _ => ⟨_, upd_none n e, Fz.refl⟩, fun a x => (lv_app r.len x).imp id fun z => by rw [z]; exact n, fun _ e => upd_dom e⟩
theorem RH.cellNew {p : Addr} {o : HO} {c : Cell} (r : RH W ι h H) (n : H p = none) (ok : CellOk W (lv (ι ++ [p]) (h ++ [c])) (upd H p o) p c) : RH W (ι ++ [p]) (h ++ [c]) (upd H p o) := by
  refine ⟨by simp [r.len], ?_, fun a m => ?_, fun i a d e ed => ?_⟩
  · rw [List.nodup_append]
    exact ⟨r.nd, by simp, fun a m b mb z => by
      have : b = p := by simpa using mb
      exact r.notin n (by rw [← this, ← z]; exact m)⟩
  · rcases List.mem_append.mp m with m | m
    · exact upd_dom (r.dom a m)
    · have : a = p := by simpa using m
      rw [this, upd_same]; simp
  · by_cases hi : i < ι.length
    · rw [List.getElem?_append_left hi] at e
      rw [List.getElem?_append_left (by have := r.len; omega)] at ed
      exact r.stay (Go.cell r n) e ed (upd_ne fun z => r.notin n (z ▸ List.mem_of_getElem? e))
    · have hl := r.len
      rw [List.getElem?_append_right (by omega)] at e
      rw [List.getElem?_append_right (by omega)] at ed
      have e0 : i - ι.length = 0 := by
        have := (List.getElem?_eq_some_iff.mp e).1
        simp at this
        omega
      rw [e0] at e
      rw [← hl, e0] at ed
      simp at e ed
      subst e ed
      exact ok
theorem lv_set {i : Nat} {c : Cell} {a : Addr} (x : lv ι (h.set i c) a) (y : ∀ b, ι[i]? = some b → lv ι h b) : lv ι h a := by
  obtain ⟨j, d, e, ed, nd⟩ := x
  by_cases z : j = i
  · subst z; exact y a e
  · rw [List.getElem?_set_ne (fun q => z q.symm)] at ed
    exact ⟨j, d, e, ed, nd⟩
/-- a cell is written -/
theorem Go.write {i : Nat} {a : Addr} {c c' : Cell} {o : HO} (e : ι[i]? = some a) (ec : h[i]? = some c) (nc : c ≠ .gone) : Go ι h H ι (h.set i c') (upd H a o) := by
  have la : lv ι h a := ⟨i, c, e, ec, nc⟩
  refine ⟨List.prefix_refl _, fun b u eb n => ?_, fun b x => .inl (lv_set x fun b' e' => ?_), fun _ q => upd_dom q⟩
  · exact ⟨u, by rw [upd_ne (fun z => n (by rw [z]; exact la))]; exact eb, Fz.refl⟩
  · rw [e] at e'; cases e'; exact la
theorem RH.write {i : Nat} {a : Addr} {c c' : Cell} {o : HO} (r : RH W ι h H) (e : ι[i]? = some a) (ec : h[i]? = some c) (nc : c ≠ .gone) (ok : CellOk W (lv ι (h.set i c')) (upd H a o) a c') : RH W ι (h.set i c') (upd H a o) := by
  refine ⟨by rw [List.length_set]; exact r.len, r.nd, fun b m => upd_dom (r.dom b m), fun j b d eb ed => ?_⟩
  by_cases z : j = i
  · subst z
    rw [e] at eb; cases eb
    rw [List.getElem?_set_self (List.getElem?_eq_some_iff.mp ec).1] at ed; cases ed
    exact ok
  · rw [List.getElem?_set_ne (fun q => z q.symm)] at ed
    refine r.stay (Go.write e ec nc) eb ed (upd_ne fun q => z ?_)
    subst q
    exact nd_ix r.nd eb e
theorem Go.gone {i : Nat} {a : Addr} {c : Cell} (e : ι[i]? = some a) (ec : h[i]? = some c) (nc : c ≠ .gone) : Go ι h H ι (h.set i .gone) H := by
  have la : lv ι h a := ⟨i, c, e, ec, nc⟩
  exact ⟨List.prefix_refl _, fun b u eb _ => ⟨u, eb, Fz.refl⟩, fun b x => .inl (lv_set x fun b' e' => by rw [e] at e'; cases e'; exact la), fun _ q => q⟩
theorem RH.gone {i : Nat} {a : Addr} {c : Cell} (r : RH W ι h H) (e : ι[i]? = some a) (ec : h[i]? = some c) (nc : c ≠ .gone) : RH W ι (h.set i .gone) H := by
  refine ⟨by rw [List.length_set]; exact r.len, r.nd, r.dom, fun j b d eb ed => ?_⟩
  by_cases z : j = i
  · subst z
    rw [List.getElem?_set_self (List.getElem?_eq_some_iff.mp ec).1] at ed; cases ed
    trivial
  · rw [List.getElem?_set_ne (fun q => z q.symm)] at ed
    exact r.stay (Go.gone e ec nc) eb ed rfl
theorem not_lv_gone {i : Nat} {a : Addr} {c : Cell} (r : RH W ι h H) (e : ι[i]? = some a) (ec : h[i]? = some c) : ¬ lv ι (h.set i .gone) a := fun ⟨j, d, eb, ed, nd⟩ => by
  by_cases z : j = i
  · subst z
    rw [List.getElem?_set_self (List.getElem?_eq_some_iff.mp ec).1] at ed; cases ed
    exact nd rfl
  · exact z (nd_ix r.nd eb e)
/-- a cell is given up: it is data from now on -/
theorem frz_ok {d : D} {v : V} {p : P} {h1 : Hh} (r : RH W ι h H) (dv : DV W ι h H d v) (e : frz d h = some (p, h1)) : Go ι h H ι h1 H ∧ RH W ι h1 H ∧ PVx W ι h1 H p v := by
  cases d with
  | p d =>
    simp only [frz, Option.some.injEq, Prod.mk.injEq] at e
    obtain ⟨rfl, rfl⟩ := e
    exact ⟨.refl, r, dv⟩
  | r i =>
    obtain ⟨a, ea, rfl⟩ := dv
    cases ec : h[i]? with
    | none => simp [frz, ec] at e
    | some c =>
      cases c with
      | gone => simp [frz, ec] at e
      | lst ds =>
        simp only [frz, ec, Option.some.injEq, Prod.mk.injEq] at e
        obtain ⟨rfl, rfl⟩ := e
        have g : Go ι h H ι (h.set i .gone) H := Go.gone ea ec (by simp)
        obtain ⟨vs, e1, q⟩ := r.cell i a _ ea ec
        refine ⟨g, r.gone ea ec (by simp), ?_⟩
        show PV _ _ _ _ _ (.list ds) _
        unfold PV
        exact ⟨a, vs, rfl, .inl ⟨not_lv_gone r ea ec, .inl e1⟩, PVs.go g.stay ds vs q⟩
      | dct kvs =>
        simp only [frz, ec, Option.some.injEq, Prod.mk.injEq] at e
        obtain ⟨rfl, rfl⟩ := e
        have g : Go ι h H ι (h.set i .gone) H := Go.gone ea ec (by simp)
        obtain ⟨es, e1, q⟩ := r.cell i a _ ea ec
        refine ⟨g, r.gone ea ec (by simp), ?_⟩
        show PV _ _ _ _ _ (.dict kvs) _
        unfold PV
        exact ⟨a, es, rfl, not_lv_gone r ea ec, DctW.r e1, PVk.go g.stay kvs es q⟩
/-- cells that came since are forgotten -/
theorem RH.take {ι' : List Addr} {h' : Hh} {H' : Hp} (r : RH W ι h H) (g : Go ι h H ι' h' H') (r' : RH W ι' h' H') : Go ι h H ι (h'.take h.length) H' ∧ RH W ι (h'.take h.length) H' ∧ ∀ p v, PVx W ι' h' H' p v → PVx W ι (h'.take h.length) H' p v := by
  have sub : ∀ a, lv ι (h'.take h.length) a → lv ι' h' a := fun a ⟨i, c, e, ec, n⟩ => by
    rw [List.getElem?_take] at ec
    split at ec
    · obtain ⟨t, rfl⟩ := g.pre
      exact ⟨i, c, by rw [List.getElem?_append_left (List.getElem?_eq_some_iff.mp e).1]; exact e, ec, n⟩
    · cases ec
  have st : Stay (lv ι' h') (lv ι (h'.take h.length)) H' H' := ⟨fun a o e _ => ⟨o, e, Fz.refl⟩, fun a o _ n x => n (sub a x)⟩
  refine ⟨⟨List.prefix_refl _, g.ext, fun a x => g.liv a (sub a x), g.dom⟩, ⟨?_, r.nd, fun a m => g.dom a (r.dom a m), fun i a c e ec => ?_⟩, fun p v x => PV.go st p v x⟩
  · obtain ⟨t, rfl⟩ := g.pre
    have h1 := r.len
    have h2 := r'.len
    rw [List.length_append] at h2
    rw [List.length_take]
    omega
  · rw [List.getElem?_take] at ec
    split at ec
    · obtain ⟨t, ht⟩ := g.pre
      have x := r'.cell i a c (by rw [← ht, List.getElem?_append_left (List.getElem?_eq_some_iff.mp e).1]; exact e) ec
      cases c with
      | gone => trivial
      | lst ds =>
        obtain ⟨vs, e1, q⟩ := x
        exact ⟨vs, e1, PVs.go st ds vs q⟩
      | dct kvs =>
        obtain ⟨es, d, q⟩ := x
        exact ⟨es, d, PVk.go st kvs es q⟩
    · cases ec
theorem paired_go {ι' : List Addr} {h' : Hh} {H' : Hp} (g : Go ι h H ι' h' H') : ∀ {ds : List D} {vs : List V}, Paired (DV W ι h H) ds vs → Paired (DV W ι' h' H') ds vs
  | _, _, .nil => .nil
  | _, _, .cons a b => .cons (a.go g) (paired_go g b)
theorem frzs_ok : ∀ {ds : List D} {vs : List V} {ps : List P} {h h1 : Hh}, RH W ι h H → Paired (DV W ι h H) ds vs → frzs ds h = some (ps, h1) → Go ι h H ι h1 H ∧ RH W ι h1 H ∧ PVsx W ι h1 H ps vs
  | _, _, _, _, _, r, .nil, e => by
    simp only [frzs, Option.some.injEq, Prod.mk.injEq] at e
    obtain ⟨rfl, rfl⟩ := e
    refine ⟨.refl, r, ?_⟩
    show PVs _ _ _ _ _ [] _
    unfold PVs; rfl
  | d :: ds, _, ps, h, h1, r, .cons a b, e => by
    cases e1 : frz d h with
    | none => simp [frzs, e1] at e
    | some q =>
      obtain ⟨p, h2⟩ := q
      cases e2 : frzs ds h2 with
      | none => simp [frzs, e1, e2] at e
      | some q =>
        obtain ⟨qs, h3⟩ := q
        simp only [frzs, e1, e2, Option.some.injEq, Prod.mk.injEq] at e
        obtain ⟨rfl, rfl⟩ := e
        obtain ⟨g1, r1, pv⟩ := frz_ok r a e1
        obtain ⟨g2, r2, pvs⟩ := frzs_ok r1 (paired_go g1 b) e2
        refine ⟨g1.trans g2, r2, ?_⟩
        show PVs _ _ _ _ _ (p :: qs) _
        unfold PVs
        exact ⟨_, _, rfl, PV.go g2.stay p _ pv, pvs⟩
/-- a value as it stands now, whether data or a cell -/
def TV (W : Wd) (ι : List Addr) (h : Hh) (H : Hp) : P → V → Prop
  | .list ds, v => ∃ a vs, v = .ref a ∧ SqL W.K H a vs ∧ PVsx W ι h H ds vs
  | .dict kvs, v => ∃ a es, v = .ref a ∧ DctR W.pr W.w H a es ∧ PVk W.pr W.w W.K (lv ι h) H kvs es
  | d, v => PVx W ι h H d v
theorem PVx.tv {d : P} {v : V} (x : PVx W ι h H d v) : TV W ι h H d v := by
  cases d with
  | list ds =>
    have x : PV _ _ _ _ _ (.list ds) v := x
    unfold PV at x
    obtain ⟨a, vs, e, l, q⟩ := x
    exact ⟨a, vs, e, l.sq, q⟩
  | dict kvs =>
    have x : PV _ _ _ _ _ (.dict kvs) v := x
    unfold PV at x
    obtain ⟨a, es, e, n, l, q⟩ := x
    exact ⟨a, es, e, l, q⟩
  | _ => exact x
theorem peek_tv {d : D} {v : V} {p : P} (r : RH W ι h H) (dv : DV W ι h H d v) (e : peek d h = some p) : TV W ι h H p v := by
  cases d with
  | p d =>
    simp only [peek, Option.some.injEq] at e
    subst e
    exact PVx.tv dv
  | r i =>
    obtain ⟨a, ea, rfl⟩ := dv
    cases ec : h[i]? with
    | none => simp [peek, ec] at e
    | some c =>
      cases c with
      | gone => simp [peek, ec] at e
      | lst ds =>
        simp only [peek, ec, Option.some.injEq] at e
        subst e
        obtain ⟨vs, e1, q⟩ := r.cell i a _ ea ec
        exact ⟨a, vs, rfl, SqL.of e1, q⟩
      | dct kvs =>
        simp only [peek, ec, Option.some.injEq] at e
        subst e
        obtain ⟨es, e1, q⟩ := r.cell i a _ ea ec
        exact ⟨a, es, rfl, DctW.r e1, q⟩
theorem peeks_tv (r : RH W ι h H) : ∀ {ds : List D} {vs : List V} {ps : List P}, Paired (DV W ι h H) ds vs → peeks ds h = some ps → Paired (TV W ι h H) ps vs
  | _, _, _, .nil, e => by
    simp only [peeks, Option.some.injEq] at e
    subst e; exact .nil
  | d :: ds, _, ps, .cons a b, e => by
    cases e1 : peek d h with
    | none => simp [peeks, e1] at e
    | some p =>
      cases e2 : peeks ds h with
      | none => simp [peeks, e1, e2] at e
      | some qs =>
        simp only [peeks, e1, e2, Option.some.injEq] at e
        subst e
        exact .cons (peek_tv r a e1) (peeks_tv r b e2)
end
/-- the first step from a further state, the second from here -/
theorem Post.bind2 {W : Wd} {EW : Exn → List Addr → Hh → Hp → Prop} {α β : Type} {ι ι1 : List Addr} {h h1 : Hh} {H H1 : Hp} {r : Res α} {f : α → Hh → Res β} {Q : β → List Addr → Hh → Hp → Prop} (p : Post W EW ι h H (r.bind f) Q) (g : Go ι h H ι1 h1 H1) :
    Post W EW ι1 h1 H1 r fun d ι2 h2 H2 => Go ι1 h1 H1 ι2 h2 H2 ∧ RH W ι2 h2 H2 ∧ Post W EW ι h H (f d h2) Q := by
  cases r with
  | bad => exact p
  | err e h2 => exact fun ι2 H2 g2 r2 => p ι2 H2 (g.trans g2) r2
  | ok d h2 => exact fun ι2 H2 g2 r2 => ⟨g2, r2, p⟩
/-! ### lifting -/
theorem _root_.L2.PE.via {X : Cx} {e : Expr} {t t' : TE} (h : PE X e t) (k : ∀ σ H Q, t' σ H Q → t σ H Q) : PE X e t' := ⟨fun pins s σ H Q I q => h.run pins s σ H Q I (k _ _ _ q)⟩
theorem _root_.L2.PT.via {X : Cx} {e : Expr} {t t' : TT} (h : PT X e t) (k : ∀ σ H Q, t' σ H Q → t σ H Q) : PT X e t' := ⟨fun pins s σ H Q I q => h.run pins s σ H Q I (k _ _ _ q)⟩
theorem _root_.L2.PA.via {X : Cx} {e : List Expr} {t t' : TA} (h : PA X e t) (k : ∀ σ H Q, t' σ H Q → t σ H Q) : PA X e t' := ⟨fun pos pins s σ H Q I q => h.run pos pins s σ H Q I (k _ _ _ q)⟩
section
variable {W : Wd} {EW : Exn → List Addr → Hh → Hp → Prop} {C : Calls}
/-- what is wanted of an operation on values that were reckoned -/
def wish (W : Wd) (EW : Exn → List Addr → Hh → Hp → Prop) (ι : List Addr) (h : Hh) (H : Hp) (r : Res D) (Q : VK) : Prop :=
  Post W EW ι h H r fun d ι' h' H' => ∀ v, DV W ι' h' H' d v → Q v H'
def R1 (W : Wd) (EW : Exn → List Addr → Hh → Hp → Prop) (F : D → Hh → Res D) : V → Hp → VK → Prop := fun x H Q =>
  ∃ ι h d, RH W ι h H ∧ DV W ι h H d x ∧ wish W EW ι h H (F d h) Q
def RR (W : Wd) (EW : Exn → List Addr → Hh → Hp → Prop) (F : D → D → Hh → Res D) : R2 := fun x y H Q =>
  ∃ ι h d e, RH W ι h H ∧ DV W ι h H d x ∧ DV W ι h H e y ∧ wish W EW ι h H (F d e h) Q
def RL (W : Wd) (EW : Exn → List Addr → Hh → Hp → Prop) (F : List D → Hh → Res D) : List V → Hp → VK → Prop := fun xs H Q =>
  ∃ ι h ds, RH W ι h H ∧ Paired (DV W ι h H) ds xs ∧ wish W EW ι h H (F ds h) Q
variable {σ : L2.St} {H : Hp} {Q : VK} {m ma mb : ME} {ms : MEs}
theorem lift1 {F : D → Hh → Res D} (hm : ∀ σA h, ev C m σA h = (ev C ma σA h).bind F) (x : tE W EW C m σ H Q) : tE W EW C ma σ H fun v H1 => R1 W EW F v H1 Q := by
  obtain ⟨ι, h, σA, r, sl, p⟩ := x
  rw [hm] at p
  exact ⟨ι, h, σA, r, sl, p.bind.imp fun d ι1 h1 H1 g r1 q v dv => ⟨ι1, h1, d, r1, dv, q.2.2⟩⟩
theorem lift2 {F : D → D → Hh → Res D} (hm : ∀ σA h, ev C m σA h = (ev C ma σA h).bind fun d h1 => (ev C mb σA h1).bind fun e h2 => F d e h2) (x : tE W EW C m σ H Q) :
    tE W EW C ma σ H fun v H1 => tE W EW C mb σ H1 fun u H2 => RR W EW F v u H2 Q := by
  obtain ⟨ι, h, σA, r, sl, p⟩ := x
  rw [hm] at p
  exact ⟨ι, h, σA, r, sl, p.bind.imp fun d ι1 h1 H1 g r1 q v dv => ⟨ι1, h1, σA, r1, sl.go g, q.2.2.bind.imp fun e ι2 h2 H2 g2 r2 q2 u du => ⟨ι2, h2, d, e, r2, dv.go g2, du, q2.2.2⟩⟩⟩
theorem liftL {F : List D → Hh → Res D} (hm : ∀ σA h, ev C m σA h = (evs C ms σA h).bind F) (x : tE W EW C m σ H Q) : tAs W EW C ms σ H fun vs H1 => RL W EW F vs H1 Q := by
  obtain ⟨ι, h, σA, r, sl, p⟩ := x
  rw [hm] at p
  exact ⟨ι, h, σA, r, sl, p.bind.imp fun ds ι1 h1 H1 g r1 q vs dv => ⟨ι1, h1, ds, r1, dv, q.2.2⟩⟩
theorem wish.ok {ι : List Addr} {h : Hh} {d : D} (x : wish W EW ι h H (.ok d h) Q) (r : RH W ι h H) {v : V} (dv : DV W ι h H d v) : Q v H := x ι H .refl r v dv
/-- data that are a new object -/
theorem wish.new {ι : List Addr} {h : Hh} {d : P} {p : Addr} {o : HO} (x : wish W EW ι h H (.ok (.p d) h) Q) (r : RH W ι h H) (n : H p = none) (pv : PVx W ι h (upd H p o) d (.ref p)) : Q (.ref p) (upd H p o) :=
  x ι _ (.new n) (r.new n) _ pv
theorem PVsx.new {ι : List Addr} {h : Hh} {p : Addr} {o : HO} {ds : List P} {vs : List V} (x : PVsx W ι h H ds vs) (n : H p = none) : PVsx W ι h (upd H p o) ds vs := PVs.go (Go.new n).stay _ _ x
theorem newF {ι : List Addr} {h : Hh} {p : Addr} (r : RH W ι h H) (n : H p = none) : ¬ lv ι h p := fun x => r.notin n x.mem
theorem wish.list {ι : List Addr} {h : Hh} {ds : List P} {vs : List V} {p : Addr} (x : wish W EW ι h H (.ok (.p (.list ds)) h) Q) (r : RH W ι h H) (pv : PVsx W ι h H ds vs) (n : H p = none) : Q (.ref p) (upd H p (.lst vs)) := by
  refine x.new r n ?_
  show PV _ _ _ _ _ (.list ds) _
  unfold PV
  exact ⟨p, vs, rfl, .inl ⟨newF r n, .inl upd_same⟩, pv.new n⟩
theorem wish.tuple {ι : List Addr} {h : Hh} {ds : List P} {vs : List V} {p : Addr} (x : wish W EW ι h H (.ok (.p (.tuple ds)) h) Q) (r : RH W ι h H) (pv : PVsx W ι h H ds vs) (n : H p = none) : Q (.ref p) (upd H p (.tup vs)) := by
  refine x.new r n ?_
  show PV _ _ _ _ _ (.tuple ds) _
  unfold PV
  exact ⟨p, vs, rfl, .inl ⟨newF r n, .inl upd_same⟩, pv.new n⟩
theorem wish.mkL {ι : List Addr} {h : Hh} {ds : List P} {vs : List V} {p : Addr} {m : Bool} (x : wish W EW ι h H (mk m (.list ds) h) Q) (r : RH W ι h H) (pv : PVsx W ι h H ds vs) (n : H p = none) : Q (.ref p) (upd H p (.lst vs)) := by
  cases m with
  | false => exact wish.list x r pv n
  | true =>
    have g : Go ι h H (ι ++ [p]) (h ++ [Cell.lst ds]) (upd H p (.lst vs)) := Go.cell r n
    refine x _ _ g (r.cellNew n ⟨vs, upd_same, PVs.go g.stay _ _ pv⟩) _ ⟨p, ?_, rfl⟩
    rw [← r.len]; simp
end
/-! ### PVs and lists -/
section
variable {pr : Program} {w : World} {K : PySem.W.Frag} {L : Addr → Prop} {H : Hp}
theorem PVs.length : ∀ {ds : List P} {vs : List V}, PVs pr w K L H ds vs → ds.length = vs.length
  | [], vs, x => by unfold PVs at x; subst x; rfl
  | d :: ds, vs, x => by
    unfold PVs at x
    obtain ⟨v, r, rfl, _, h⟩ := x
    simp [PVs.length h]
theorem PVs.nil : PVs pr w K L H [] [] := by unfold PVs; rfl
theorem PVs.cons {d : P} {v : V} {ds : List P} {vs : List V} (a : PV pr w K L H d v) (b : PVs pr w K L H ds vs) : PVs pr w K L H (d :: ds) (v :: vs) := by
  unfold PVs; exact ⟨_, _, rfl, a, b⟩
theorem PVs.inv {d : P} {ds : List P} {vs : List V} (x : PVs pr w K L H (d :: ds) vs) : ∃ v r, vs = v :: r ∧ PV pr w K L H d v ∧ PVs pr w K L H ds r := by
  unfold PVs at x; exact x
theorem PVs.append : ∀ {ds es : List P} {vs us : List V}, PVs pr w K L H ds vs → PVs pr w K L H es us → PVs pr w K L H (ds ++ es) (vs ++ us)
  | [], _, vs, _, a, b => by unfold PVs at a; subst a; exact b
  | d :: ds, _, vs, _, a, b => by
    obtain ⟨v, r, rfl, h1, h2⟩ := a.inv
    exact PVs.cons h1 (PVs.append h2 b)
theorem PVs.take : ∀ {ds : List P} {vs : List V} (n : Nat), PVs pr w K L H ds vs → PVs pr w K L H (ds.take n) (vs.take n)
  | ds, vs, 0, _ => by simp [PVs.nil]
  | [], vs, n + 1, a => by unfold PVs at a; subst a; simp [PVs.nil]
  | d :: ds, vs, n + 1, a => by
    obtain ⟨v, r, rfl, h1, h2⟩ := a.inv
    exact PVs.cons h1 (PVs.take n h2)
theorem PVs.drop : ∀ {ds : List P} {vs : List V} (n : Nat), PVs pr w K L H ds vs → PVs pr w K L H (ds.drop n) (vs.drop n)
  | ds, vs, 0, a => a
  | [], vs, n + 1, a => by unfold PVs at a; subst a; simp [PVs.nil]
  | d :: ds, vs, n + 1, a => by
    obtain ⟨v, r, rfl, h1, h2⟩ := a.inv
    exact PVs.drop n h2
theorem PVs.get : ∀ {ds : List P} {vs : List V} {i : Nat} {d : P}, PVs pr w K L H ds vs → ds[i]? = some d → ∃ v, vs[i]? = some v ∧ PV pr w K L H d v
  | [], _, _, _, _, e => by simp at e
  | d :: ds, vs, 0, _, a, e => by
    obtain ⟨v, r, rfl, h1, h2⟩ := a.inv
    simp at e; subst e
    exact ⟨v, rfl, h1⟩
  | d :: ds, vs, i + 1, _, a, e => by
    obtain ⟨v, r, rfl, h1, h2⟩ := a.inv
    obtain ⟨u, h3, h4⟩ := PVs.get (i := i) h2 (by simpa using e)
    exact ⟨u, by simpa using h3, h4⟩
theorem PVs.set : ∀ {ds : List P} {vs : List V} {i : Nat} {d : P} {v : V}, PVs pr w K L H ds vs → PV pr w K L H d v → PVs pr w K L H (ds.set i d) (vs.set i v)
  | [], vs, _, _, _, a, _ => by unfold PVs at a; subst a; exact PVs.nil
  | _ :: ds, vs, 0, _, _, a, b => by
    obtain ⟨v, r, rfl, h1, h2⟩ := a.inv
    exact PVs.cons b h2
  | _ :: ds, vs, i + 1, _, _, a, b => by
    obtain ⟨v, r, rfl, h1, h2⟩ := a.inv
    exact PVs.cons h1 (PVs.set h2 b)
mutual
theorem PV.dp : ∀ (d : P) (v : V), d.canLay0 = true → PV pr w K L H d v → Dp K H v d
  | .none, _, _, x => by unfold PV at x; subst x; exact .non
  | .bool b, _, _, x => by unfold PV at x; subst x; exact .bl b
  | .int i, _, _, x => by unfold PV at x; subst x; exact .int i
  | .str s, _, _, x => by unfold PV at x; subst x; exact .str s
  | .list ds, _, c, x => by
    unfold PV at x
    obtain ⟨a, vs, rfl, l, q⟩ := x
    exact .lst l.sq (PVs.dp ds vs (by simpa [PyData.canLay0] using c) q)
  | .tuple ds, _, c, x => by
    unfold PV at x
    obtain ⟨a, vs, rfl, l, q⟩ := x
    exact .tup l.sq (PVs.dp ds vs (by simpa [PyData.canLay0] using c) q)
  | .dict _, _, c, _ => by simp [PyData.canLay0] at c
theorem PVs.dp : ∀ (ds : List P) (vs : List V), PyData.canLayAll0 ds = true → PVs pr w K L H ds vs → DpAll K H vs ds
  | [], _, _, x => by unfold PVs at x; subst x; exact .nil
  | d :: ds, _, c, x => by
    obtain ⟨v, r, rfl, h1, h2⟩ := x.inv
    have c' : d.canLay0 = true ∧ PyData.canLayAll0 ds = true := by simpa [PyData.canLayAll0] using c
    exact .cons (PV.dp d v c'.1 h1) (PVs.dp ds r c'.2 h2)
end
end
theorem TV.dp {W : Wd} {ι : List Addr} {h : Hh} {H : Hp} {d : P} {v : V} (x : TV W ι h H d v) (c : d.canLay0 = true) : Dp W.K H v d := by
  cases d with
  | list ds =>
    obtain ⟨a, vs, rfl, l, q⟩ := x
    exact .lst l (PVs.dp ds vs (by simpa [PyData.canLay0] using c) q)
  | dict kvs => simp [PyData.canLay0] at c
  | none => exact PV.dp (pr := W.pr) (w := W.w) (L := lv ι h) _ _ c x
  | bool b => exact PV.dp (pr := W.pr) (w := W.w) (L := lv ι h) _ _ c x
  | int b => exact PV.dp (pr := W.pr) (w := W.w) (L := lv ι h) _ _ c x
  | str b => exact PV.dp (pr := W.pr) (w := W.w) (L := lv ι h) _ _ c x
  | tuple b => exact PV.dp (pr := W.pr) (w := W.w) (L := lv ι h) _ _ c x
end Mi
/-! MiO: the operations on data, over HandS. -/
namespace Mi
open PySem L2 PySem.Spec PyProof.Rows
abbrev EWt := Exn → List Addr → Hh → Hp → Prop
def F2 (f : P → P → Option P) (d e : D) (h : Hh) : Res D := match peek d h, peek e h with
  | some p, some q => okP (f p q) h
  | _, _ => .bad
def F2b (f : P → P → Option Bool) (d e : D) (h : Hh) : Res D := match peek d h, peek e h with
  | some p, some q => okB (f p q) h
  | _, _ => .bad
section
variable {X : Cx} {EW : EWt}
section
variable {ι : List Addr} {h : Hh} {H : Hp}
theorem TV.int {W : Wd} {i : Int} {x : V} (t : TV W ι h H (.int i) x) : x = .int i := t
theorem TV.str {W : Wd} {i : Str} {x : V} (t : TV W ι h H (.str i) x) : x = .str i := t
theorem TV.bool {W : Wd} {i : Bool} {x : V} (t : TV W ι h H (.bool i) x) : x = .bl i := t
theorem TV.none {W : Wd} {x : V} (t : TV W ι h H .none x) : x = .non := t
theorem TV.list {W : Wd} {ds : List P} {x : V} (t : TV W ι h H (.list ds) x) : ∃ a vs, x = .ref a ∧ SqL W.K H a vs ∧ PVsx W ι h H ds vs := t
theorem TV.tuple {W : Wd} {ds : List P} {x : V} (t : TV W ι h H (.tuple ds) x) : ∃ a vs, x = .ref a ∧ TupF W.K (lv ι h) H a vs ∧ PVsx W ι h H ds vs := by
  have t : PV _ _ _ _ _ (.tuple ds) x := t
  unfold PV at t
  exact t
theorem PVx.int {W : Wd} (i : Int) : PVx W ι h H (.int i) (.int i) := show PV _ _ _ _ _ (.int i) _ from rfl
theorem PVx.str {W : Wd} (i : Str) : PVx W ι h H (.str i) (.str i) := show PV _ _ _ _ _ (.str i) _ from rfl
theorem PVx.bool {W : Wd} (i : Bool) : PVx W ι h H (.bool i) (.bl i) := show PV _ _ _ _ _ (.bool i) _ from rfl
theorem PVx.none {W : Wd} : PVx W ι h H .none .non := show PV _ _ _ _ _ .none _ from rfl
theorem DVb {W : Wd} (b : Bool) : DV W ι h H (.p (.bool b)) (.bl b) := (rfl : V.bl b = V.bl b)
theorem DVi {W : Wd} (i : Int) : DV W ι h H (.p (.int i)) (.int i) := (rfl : V.int i = V.int i)
theorem DVs {W : Wd} (x : Str) : DV W ι h H (.p (.str x)) (.str x) := (rfl : V.str x = V.str x)
theorem DVn {W : Wd} : DV W ι h H (.p .none) .non := (rfl : V.non = V.non)
theorem PVx.tuple {W : Wd} {ds : List P} {a : Addr} {vs : List V} (t : TupF W.K (lv ι h) H a vs) (p : PVsx W ι h H ds vs) : PVx W ι h H (.tuple ds) (.ref a) := by
  show PV _ _ _ _ _ (.tuple ds) _
  unfold PV
  exact ⟨a, vs, rfl, t, p⟩
end
/-- an operator that is known on data -/
theorem opr_of {f : Value → Value → Sem Value} {F : P → P → Option P}
    (k : ∀ (ι : List Addr) (h : Hh) (H : Hp) (p q g : P) (x y : V) (Q : VK) (pins : List (Addr × Obj)) (s : Shared) (σ : L2.St) (v u : Value), F p q = some g → RH (Wx X) ι h H → TV (Wx X) ι h H p x → TV (Wx X) ι h H q y → wish (Wx X) EW ι h H (.ok (.p g) h) Q →
      Inv X pins σ H s → RelV x v → RelV y u → wpAny (model X.prog X.w) X.A (f v u) (EP X pins σ Q) X.xe s) : OpR X f (RR (Wx X) EW (F2 F)) := by
  intro pins s σ H x y v u Q I rx ry ⟨ι, h, d, e, r, dv, ev, q⟩
  unfold F2 at q
  cases e1 : peek d h with
  | none => rw [e1] at q; exact q.elim
  | some p =>
    cases e2 : peek e h with
    | none => simp only [e1, e2] at q; exact q.elim
    | some p2 =>
      simp only [e1, e2] at q
      cases e3 : F p p2 with
      | none => rw [e3] at q; exact q.elim
      | some g =>
        rw [e3] at q
        exact k ι h H p p2 g x y Q pins s σ v u e3 r (peek_tv r dv e1) (peek_tv r ev e2) q I rx ry
theorem oprB_of {f : Value → Value → Sem Value} {F : P → P → Option Bool}
    (k : ∀ (ι : List Addr) (h : Hh) (H : Hp) (p q : P) (b : Bool) (x y : V) (Q : VK) (pins : List (Addr × Obj)) (s : Shared) (σ : L2.St) (v u : Value), F p q = some b → RH (Wx X) ι h H → TV (Wx X) ι h H p x → TV (Wx X) ι h H q y → Q (.bl b) H →
      Inv X pins σ H s → RelV x v → RelV y u → wpAny (model X.prog X.w) X.A (f v u) (EP X pins σ Q) X.xe s) : OpR X f (RR (Wx X) EW (F2b F)) := by
  intro pins s σ H x y v u Q I rx ry ⟨ι, h, d, e, r, dv, ev, q⟩
  unfold F2b at q
  cases e1 : peek d h with
  | none => rw [e1] at q; exact q.elim
  | some p =>
    cases e2 : peek e h with
    | none => simp only [e1, e2] at q; exact q.elim
    | some p2 =>
      simp only [e1, e2] at q
      cases e3 : F p p2 with
      | none => rw [e3] at q; exact q.elim
      | some b =>
        rw [e3] at q
        exact k ι h H p p2 b x y Q pins s σ v u e3 r (peek_tv r dv e1) (peek_tv r ev e2) (wish.ok (W := Wx X) (EW := EW) (d := .p (.bool b)) q r (DVb b)) I rx ry
theorem sz {n : Nat} (h : n ≤ 16000000) : n ≤ sizeLine := by rw [sizeLine_eq]; omega
theorem mulOk_ok {i j : Int} (h : mulOk i j = true) : CMul i j ∨ CMulW i j := by
  unfold mulOk at h
  simp only [Bool.or_eq_true, Bool.and_eq_true, decide_eq_true_eq] at h
  rcases h with (h | h) | ⟨h1, h2⟩
  · exact .inl (.inl ⟨by omega, by omega⟩)
  · exact .inl (.inr ⟨by omega, by omega⟩)
  · exact .inr (wide_mul h1 h2 (by decide) (by decide) (by decide))
theorem divOk_ok {j : Int} (i : Int) (h : divOk j = true) : CDivW i j := by
  unfold divOk at h
  simp only [Bool.and_eq_true, decide_eq_true_eq] at h
  exact wide_div h.1 h.2 (by decide) (by decide)
theorem add_lists (pins : List (Addr × Obj)) (s : Shared) (σ : L2.St) (H : Hp) {a b : Addr} {xs zs : List V} {Q : VK} {v u : Value} (I : Inv X pins σ H s) (rx : RelV (.ref a) v) (ry : RelV (.ref b) u)
    (hH : SqL X.K H a xs) (hB : SqL X.K H b zs) (hz : xs.length + zs.length ≤ sizeLine) (q : ∀ p, H p = none → Q (.ref p) (upd H p (.lst (xs ++ zs)))) : wpAny (model X.prog X.w) X.A (binaryOp .Add v u) (EP X pins σ Q) X.xe s := by
  cases rx
  cases ry
  obtain ⟨its, r, ⟨o1, n1, e, c1, d1, t1⟩, _⟩ := I.list hH
  obtain ⟨its2, r2, ⟨o2, n2, e2, c2, d2, t2⟩, _⟩ := I.list hB
  have hl := r.length
  have hl2 := r2.length
  obtain ⟨_, _, _, sl1⟩ := o1
  obtain ⟨_, _, _, sl2⟩ := o2
  simp only at c1 d1 t1 c2 d2 t2
  subst c1 d1 t1 c2 d2 t2
  have ea : its.toArray ++ its2.toArray = (its ++ its2).toArray := by simp
  refine concat_meets ⟨_, e, rfl⟩ ⟨_, e2, rfl⟩ noFill_list_add seq_list_add PySem.F.slot_list_add PySem.F.entry_list_add (PySem.F.args_list_add_2 _ _) (list_addW a b its.toArray its2.toArray n1 n2 _ _ sl1 sl2 (by rw [List.size_toArray, List.size_toArray]; omega)) ⟨e, e2, ?_⟩
  rw [ea]
  exact ⟨.ref _, _, I.lnew (t' := s.toks) (r.append r2) (by rw [List.length_append]; omega), rfl, q _ I.fresh⟩
theorem op_bin (o : Operator) : OpR X (binaryOp o) (RR (Wx X) EW (F2 (binop o))) := by
  refine opr_of fun ι h H p q g x y Q pins s σ v u e r tx ty w I rx ry => ?_
  unfold binop at e
  split at e
  · cases e
    cases tx.int; cases ty.int
    exact op_add pins s σ H _ _ v u Q I rx ry ⟨_, _, rfl, rfl, w.ok r (DVi _)⟩
  · cases e
    cases tx.int; cases ty.int
    exact op_sub pins s σ H _ _ v u Q I rx ry ⟨_, _, rfl, rfl, w.ok r (DVi _)⟩
  · split at e
    · rename_i hm
      cases e
      cases tx.int; cases ty.int
      rcases mulOk_ok hm with c | c
      · exact op_mul pins s σ H _ _ v u Q I rx ry ⟨_, _, rfl, rfl, c, w.ok r (DVi _)⟩
      · exact op_mulW pins s σ H _ _ v u Q I rx ry ⟨_, _, rfl, rfl, c, w.ok r (DVi _)⟩
    · cases e
  · split at e
    · rename_i hm
      cases e
      cases tx.int; cases ty.int
      exact op_fdivW pins s σ H _ _ v u Q I rx ry ⟨_, _, rfl, rfl, divOk_ok _ hm, w.ok r (DVi _)⟩
    · cases e
  · split at e
    · cases e
    · rename_i hm
      cases e
      cases tx.int; cases ty.int
      exact op_modN pins s σ H _ _ v u Q I rx ry ⟨_, _, rfl, rfl, hm, w.ok r (DVi _)⟩
  · split at e
    · rename_i hm
      cases e
      cases tx.int; cases ty.int
      unfold powOk at hm
      simp only [Bool.and_eq_true, decide_eq_true_eq] at hm
      exact op_pow pins s σ H _ _ v u Q I rx ry ⟨_, _, rfl, rfl, ⟨hm.1.1, hm.1.2, hm.2⟩, w.ok r (DVi _)⟩
    · cases e
  · split at e
    · rename_i hm
      cases e
      cases tx.str; cases ty.str
      exact op_add_str pins s σ H _ _ v u Q I rx ry ⟨_, _, rfl, rfl, sz hm, w.ok r (DVs _)⟩
    · cases e
  · split at e
    · rename_i xs ys hm
      cases e
      obtain ⟨a, vs, rfl, ta, pa⟩ := tx.tuple
      obtain ⟨b, us, rfl, tb, pb⟩ := ty.tuple
      have l1 := PVs.length pa
      have l2 := PVs.length pb
      refine op_catA pins s σ H _ _ v u Q I rx ry ⟨a, b, vs, us, rfl, rfl, ta.sq, tb.sq, sz (by omega), fun z => ?_, fun _ z => ?_, fun _ _ p n => ?_⟩
      · subst z
        have : xs = [] := List.eq_nil_of_length_eq_zero l1
        subst this
        exact w.ok r (PVx.tuple tb pb)
      · subst z
        have : ys = [] := List.eq_nil_of_length_eq_zero l2
        subst this
        exact w.ok r (PVx.tuple ta (by simpa using pa))
      · exact wish.tuple w r (PVs.append pa pb) n
    · cases e
  · split at e
    · rename_i xs ys hm
      cases e
      obtain ⟨a, vs, rfl, ta, pa⟩ := tx.list
      obtain ⟨b, us, rfl, tb, pb⟩ := ty.list
      have l1 := PVs.length pa
      have l2 := PVs.length pb
      exact add_lists pins s σ H I rx ry ta tb (sz (by omega)) fun p n => wish.list w r (PVs.append pa pb) n
    · cases e
  · cases e
/-! ### comparisons -/
theorem shp_lay {d : P} (h : shp d = true) : d.canLay0 = true := SeqAt.canLay_of_shaped h
theorem shp_depth {d : P} (h : shp d = true) : d.depth ≤ 64 := SeqAt.depth_of_shaped h
theorem TV.reads {ι : List Addr} {h : Hh} {H : Hp} {pins : List (Addr × Obj)} {s : Shared} {σ : L2.St} {d : P} {x : V} {v : Value} (t : TV (Wx X) ι h H d x) (c : shp d = true) (I : Inv X pins σ H s) (r : RelV x v) : ∃ as, Reads s.heap v d as :=
  Dp.reads I d x v (t.dp (shp_lay c)) r
theorem isNone_ne {d : P} (h : (!isNone d) = true) : d ≠ .none := by rintro rfl; simp [isNone] at h
theorem op_lt (hu : X.A.units + 64 < cLine) : OpR X (compareOp .Lt) (RR (Wx X) EW (F2b ltD)) := by
  refine oprB_of fun ι h H p q b x y Q pins s σ v u e r tx ty w I rx ry => ?_
  unfold ltD at e
  split at e
  · rename_i hm
    cases e
    simp only [Bool.and_eq_true] at hm
    obtain ⟨⟨⟨h1, h2⟩, h3⟩, h4⟩ := hm
    obtain ⟨as, ra⟩ := tx.reads h3 I rx
    obtain ⟨bs, rb⟩ := ty.reads h4 I ry
    have hd := shp_depth h3
    have hmin : min p.depth q.depth ≤ p.depth := Nat.min_le_left _ _
    exact PySem.W.rcLt_alike p q X.A s v u as bs ra rb h1 (isNone_ne h2) (by omega) X.prog X.w _ _ ⟨.bl _, H, I, rfl, w⟩
  · cases e
end
end Mi
/-! MiP: each construct's judgement from its parts'. -/
namespace Mi
open PySem L2 PySem.Spec PyProof.Rows
def noStar : Expr → Bool
  | .Starred _ _ => false
  | _ => true
theorem starEach_ns {e : Expr} {es : List Expr} {env : Env} (h : noStar e = true) : starEach (e :: es) env = (false, eval e env) :: starEach es env := by
  cases e <;> first | rfl | cases h
def isComp : Expr → Bool
  | .ListComp _ _ _ _ => true
  | .SetComp _ _ _ _ => true
  | .DictComp _ _ _ _ _ => true
  | _ => false
theorem swaps_nc {e : Expr} {t : Option Expr} {l : Nat} {env : Env} (h : isComp e = false) : swapsWith e t l env = pure false := by
  cases e <;> first | rfl | cases h
section
variable {X : Cx} {EW : EWt} {C : Calls}
abbrev PEm (X : Cx) (EW : EWt) (C : Calls) (e : Expr) (m : ME) : Prop := PE X e (tE (Wx X) EW C m)
abbrev PTm (X : Cx) (EW : EWt) (C : Calls) (e : Expr) (m : ME) : Prop := PT X e (tT (Wx X) EW C m)
abbrev PAm (X : Cx) (EW : EWt) (C : Calls) (es : List Expr) (ms : MEs) : Prop := PA X es (tAs (Wx X) EW C ms)
variable {a b c : Expr} {ma mb mc : ME} {pos : Pos}
/-- what a test wants, from what a value wants -/
theorem tT_of {W : Wd} {m : ME} {σ : L2.St} {H : Hp} {Q : Bool → Hp → Prop} (x : tT W EW C m σ H Q) : tE W EW C m σ H fun v H1 => ∃ k, v = .bl k ∧ Q k H1 := by
  obtain ⟨ι, h, σA, r, sl, p⟩ := x
  refine ⟨ι, h, σA, r, sl, ?_⟩
  cases e : ev C m σA h with
  | bad => rw [e] at p; exact p
  | err y h1 => rw [e] at p; exact p
  | ok d h1 =>
    rw [e] at p
    intro ι1 H1 g r1 v dv
    cases d with
    | r i => exact p.elim
    | p d =>
      cases d with
      | bool k =>
        refine ⟨k, dv, ?_⟩
        exact p ι1 H1 g r1
      | _ => exact p.elim
theorem pt_plain {e : Expr} {m : ME} (h : PEm X EW C e m) (he : ∀ whole, isTrue e X.env whole = (do let v ← whole; standAt e.pos; holding [v] (truthy v)) := by intro _; rfl) : PTm X EW C e m :=
  (pt_val h he).via fun σ H Q x => tT_of x
theorem pe_litI {i : Int} {j : Nat} : PEm X EW C (.Constant (.int i) j pos) (.lit (.int i)) := pe_int.via fun σ H Q ⟨ι, h, σA, r, sl, p⟩ => wish.ok (d := .p (.int i)) p r (DVi i)
theorem pe_litS {i : Str} {j : Nat} : PEm X EW C (.Constant (.str i) j pos) (.lit (.str i)) := L2.pe_str.via fun σ H Q ⟨ι, h, σA, r, sl, p⟩ => wish.ok (d := .p (.str i)) p r (DVs i)
theorem pe_litB {i : Bool} {j : Nat} : PEm X EW C (.Constant (.bool i) j pos) (.lit (.bool i)) := pe_bl.via fun σ H Q ⟨ι, h, σA, r, sl, p⟩ => wish.ok (d := .p (.bool i)) p r (DVb i)
theorem pe_litN {j : Nat} : PEm X EW C (.Constant .none j pos) (.lit .none) := pe_non.via fun σ H Q ⟨ι, h, σA, r, sl, p⟩ => wish.ok (d := .p .none) p r DVn
theorem pe_mvar {i : Nat} {x : Str} (hN : X.N[i]? = some x) (hv : Vis X.env.scope x) (hd : (x == ("__debug__" : Str)) = false) (hcd : (x == ("__classdict__" : Str)) = false) : PEm X EW C (.Name x pos) (.var i) := by
  refine (pe_var hN hv hd hcd).via fun σ H Q ⟨ι, h, σA, r, sl, p⟩ => ?_
  unfold ev at p
  cases e : σA[i]? with
  | none => rw [e] at p; exact p.elim
  | some o =>
    cases o with
    | none => rw [e] at p; exact p.elim
    | some d =>
      rw [e] at p
      obtain ⟨v, e1, dv⟩ := sl.2 i d e
      exact ⟨v, e1, wish.ok (d := d) p r dv⟩
/-! data of the module alone -/
mutual
def KV' (K : PySem.W.Frag) : P → V → Prop
  | .none, v => v = .non
  | .bool b, v => v = .bl b
  | .int i, v => v = .int i
  | .str x, v => v = .str x
  | .tuple ds, v => ∃ a vs, v = .ref a ∧ KTup K a vs ∧ KVs' K ds vs
  | _, _ => False
def KVs' (K : PySem.W.Frag) : List P → List V → Prop
  | [], vs => vs = []
  | d :: ds, vs => ∃ v r, vs = v :: r ∧ KV' K d v ∧ KVs' K ds r
end
mutual
theorem KV'.pv {pr : Program} {w : World} {K : PySem.W.Frag} {L : Addr → Prop} {H : Hp} : ∀ (d : P) (v : V), KV' K d v → PV pr w K L H d v
  | .none, _, x => x
  | .bool _, _, x => x
  | .int _, _, x => x
  | .str _, _, x => x
  | .tuple ds, _, x => by
    unfold KV' at x
    unfold PV
    obtain ⟨a, vs, e, l, q⟩ := x
    exact ⟨a, vs, e, .inr l, KVs'.pv ds vs q⟩
  | .list _, _, x => by unfold KV' at x; exact x.elim
  | .dict _, _, x => by unfold KV' at x; exact x.elim
theorem KVs'.pv {pr : Program} {w : World} {K : PySem.W.Frag} {L : Addr → Prop} {H : Hp} : ∀ (ds : List P) (vs : List V), KVs' K ds vs → PVs pr w K L H ds vs
  | [], _, x => x
  | d :: ds, _, x => by
    unfold KVs' at x
    unfold PVs
    obtain ⟨v, r, e, h1, h2⟩ := x
    exact ⟨v, r, e, KV'.pv d v h1, KVs'.pv ds r h2⟩
end
theorem pe_mcon {x : Str} {d : P} {v : V} {u : Value} (hg : Gl X x) (hm : X.mg x = some u) (r : RelV v u) (k : KV' X.K d v) (hd : (x == ("__debug__" : Str)) = false) : PEm X EW C (.Name x pos) (.con x d) :=
  (pe_glob hg hm r hd).via fun σ H Q ⟨ι, h, σA, r, sl, p⟩ => wish.ok (d := .p d) p r (KV'.pv d v k)
theorem pe_mbin {o : Operator} (ha : PEm X EW C a ma) (hb : PEm X EW C b mb) : PEm X EW C (.BinOp a o b pos) (.bin o ma mb) :=
  (pe_op (op_bin o) ha hb).via fun σ H Q x => lift2 (F := F2 (binop o)) (fun _ _ => rfl) x
theorem pe_mcmp {o : CmpOp} (ho : OpR X (compareOp o) (RR (Wx X) EW (F2b (cmpop o)))) (ha : PEm X EW C a ma) (hb : PEm X EW C b mb) (hm : behindInMarks o b = false) : PEm X EW C (.Compare a [o] [b] pos) (.cmp o ma mb) :=
  (pe_cmpR ho ha hb hm).via fun σ H Q x => lift2 (F := F2b (cmpop o)) (fun _ _ => rfl) x
theorem pt_mcmp {o : CmpOp} (ho : OpR X (compareOp o) (RR (Wx X) EW (F2b (cmpop o)))) (ha : PEm X EW C a ma) (hb : PEm X EW C b mb) (hm : behindInMarks o b = false) : PTm X EW C (.Compare a [o] [b] pos) (.cmp o ma mb) :=
  (pt_cmpR ho ha hb hm).via fun σ H Q x => lift2 (F := F2b (cmpop o)) (fun _ _ => rfl) (tT_of x)
theorem un_negM : UnR X (unaryOp .USub) (R1 (Wx X) EW fun x h1 => match x with
    | .p (.int i) => .ok (.p (.int (-i))) h1
    | _ => .bad) := by
  intro pins s σ H x v Q I rx ⟨ι, h, d, r, dv, q⟩
  cases d with
  | r i => exact q.elim
  | p d =>
    cases d with
    | int i => exact un_neg pins s σ H x v Q I rx ⟨i, dv, wish.ok (d := .p (.int (-i))) q r (DVi _)⟩
    | _ => exact q.elim
theorem pe_mneg (ha : PEm X EW C a ma) : PEm X EW C (.UnaryOp .USub a pos) (.neg ma) :=
  (pe_un un_negM ha).via fun σ H Q x => lift1 (fun _ _ => rfl) x
/-! tests -/
theorem truth_bind {α : Type} {r : Res D} {f : Bool → Hh → Res α} : (truth r).bind f = r.bind fun d h => match d with
    | .p (.bool b) => f b h
    | _ => .bad := by
  cases r with
  | bad => rfl
  | err e h => rfl
  | ok d h =>
    cases d with
    | r i => rfl
    | p d => cases d <;> rfl
theorem liftT {α : Type} {W : Wd} {m : ME} {σ : L2.St} {H : Hp} {f : Bool → Hh → Res α} {ι : List Addr} {h : Hh} {σA : Sl} {Q : α → List Addr → Hh → Hp → Prop} (r : RH W ι h H) (sl : SlR W ι h H σA σ) (p : Post W EW ι h H ((truth (ev C m σA h)).bind f) Q) :
    tT W EW C m σ H fun b H1 => ∃ ι1 h1, Go ι h H ι1 h1 H1 ∧ RH W ι1 h1 H1 ∧ Post W EW ι1 h1 H1 (f b h1) Q :=
  ⟨ι, h, σA, r, sl, p.bind.imp fun b ι1 h1 H1 g r1 q => ⟨ι1, h1, g, r1, q.2.2⟩⟩
theorem pt_mnot (ha : PTm X EW C a ma) : PTm X EW C (.UnaryOp .Not a pos) (.not ma) := by
  refine (pt_not ha).via fun σ H Q ⟨ι, h, σA, r, sl, p⟩ => ?_
  refine ⟨ι, h, σA, r, sl, ?_⟩
  unfold ev at p
  cases e : truth (ev C ma σA h) with
  | bad => rw [e] at p; exact p
  | err y h1 => rw [e] at p; exact p
  | ok b h1 => rw [e] at p; exact p
theorem pe_mnot (ha : PEm X EW C a ma) : PEm X EW C (.UnaryOp .Not a pos) (.not ma) := by
  refine (L2.pe_not ha).via fun σ H Q x => ?_
  obtain ⟨ι, h, σA, r, sl, p⟩ := x
  have x := tT_of (liftT r sl (show Post _ _ _ _ _ ((truth (ev C ma σA h)).bind _) _ from p))
  obtain ⟨ι, h, σA, r, sl, p⟩ := x
  refine ⟨ι, h, σA, r, sl, p.imp fun d ι1 h1 H1 g r1 q v dv => ?_⟩
  obtain ⟨k, e, ι2, h2, g2, r2, p2⟩ := q v dv
  exact ⟨k, e, wish.ok (d := .p (.bool (!k))) p2 r2 (DVb _)⟩
theorem pe_mand {rest : List Expr} (ha : PEm X EW C a ma) (hb : PEm X EW C (.BoolOp .And (b :: rest) pos) mb) : PEm X EW C (.BoolOp .And (a :: b :: rest) pos) (.and ma mb) := by
  refine (L2.pe_and ha hb).via fun σ H Q ⟨ι, h, σA, r, sl, p⟩ => ?_
  unfold ev at p
  rw [truth_bind] at p
  refine ⟨ι, h, σA, r, sl, p.bind.imp fun d ι1 h1 H1 g r1 q v dv => ?_⟩
  have q := q.2.2
  cases d with
  | r i => exact q.elim
  | p d =>
    cases d with
    | bool k =>
      refine ⟨k, dv, ?_⟩
      cases k with
      | true => exact ⟨ι1, h1, σA, r1, sl.go g, q⟩
      | false => exact wish.ok (d := .p (.bool false)) q r1 (DVb _)
    | _ => exact q.elim
theorem pe_mor {rest : List Expr} (ha : PEm X EW C a ma) (hb : PEm X EW C (.BoolOp .Or (b :: rest) pos) mb) : PEm X EW C (.BoolOp .Or (a :: b :: rest) pos) (.or ma mb) := by
  refine (L2.pe_or ha hb).via fun σ H Q ⟨ι, h, σA, r, sl, p⟩ => ?_
  unfold ev at p
  rw [truth_bind] at p
  refine ⟨ι, h, σA, r, sl, p.bind.imp fun d ι1 h1 H1 g r1 q v dv => ?_⟩
  have q := q.2.2
  cases d with
  | r i => exact q.elim
  | p d =>
    cases d with
    | bool k =>
      refine ⟨k, dv, ?_⟩
      cases k with
      | false => exact ⟨ι1, h1, σA, r1, sl.go g, q⟩
      | true => exact wish.ok (d := .p (.bool true)) q r1 (DVb _)
    | _ => exact q.elim
theorem truth_truth {r : Res D} {f g : Hh → Res D} : truth ((truth r).bind fun t h => if t then f h else g h) = (truth r).bind fun t h => if t then truth (f h) else truth (g h) := by
  cases truth r with
  | bad => rfl
  | err e h => rfl
  | ok t h => cases t <;> rfl
theorem pw_mand {rest : List Expr} (ha : PTm X EW C a ma) (hb : PW X (.BoolOp .And (b :: rest) pos) (tT (Wx X) EW C mb)) : PW X (.BoolOp .And (a :: b :: rest) pos) (tT (Wx X) EW C (.and ma mb)) := by
  refine ⟨fun wh pins s σ H Q I x => (pw_and ha hb).run wh pins s σ H Q I ?_⟩
  obtain ⟨ι, h, σA, r, sl, p⟩ := x
  unfold ev at p
  rw [truth_truth] at p
  refine ⟨ι, h, σA, r, sl, p.bind.imp fun k ι1 h1 H1 g r1 q => ?_⟩
  have q := q.2.2
  cases k with
  | true => exact ⟨ι1, h1, σA, r1, sl.go g, q⟩
  | false => exact q ι1 H1 .refl r1
theorem pw_mor {rest : List Expr} (ha : PTm X EW C a ma) (hb : PW X (.BoolOp .Or (b :: rest) pos) (tT (Wx X) EW C mb)) : PW X (.BoolOp .Or (a :: b :: rest) pos) (tT (Wx X) EW C (.or ma mb)) := by
  refine ⟨fun wh pins s σ H Q I x => (pw_or ha hb).run wh pins s σ H Q I ?_⟩
  obtain ⟨ι, h, σA, r, sl, p⟩ := x
  unfold ev at p
  rw [truth_truth] at p
  refine ⟨ι, h, σA, r, sl, p.bind.imp fun k ι1 h1 H1 g r1 q => ?_⟩
  have q := q.2.2
  cases k with
  | false => exact ⟨ι1, h1, σA, r1, sl.go g, q⟩
  | true => exact q ι1 H1 .refl r1
theorem pe_mite (hc : PTm X EW C c mc) (ha : PEm X EW C a ma) (hb : PEm X EW C b mb) : PEm X EW C (.IfExp c a b pos) (.ite mc ma mb) := by
  refine (pe_ifExp hc ha hb).via fun σ H Q ⟨ι, h, σA, r, sl, p⟩ => ?_
  unfold ev at p
  refine ⟨ι, h, σA, r, sl, p.bind.imp fun k ι1 h1 H1 g r1 q => ?_⟩
  have q := q.2.2
  cases k with
  | true => exact ⟨ι1, h1, σA, r1, sl.go g, q⟩
  | false => exact ⟨ι1, h1, σA, r1, sl.go g, q⟩
theorem pt_mite (hc : PTm X EW C c mc) (ha : PTm X EW C a ma) (hb : PTm X EW C b mb) : PTm X EW C (.IfExp c a b pos) (.ite mc ma mb) := by
  refine ⟨fun pins s σ H Q I x => ?_⟩
  obtain ⟨ι, h, σA, r, sl, p⟩ := x
  unfold ev at p
  rw [truth_truth] at p
  show wpAny _ _ (isTrue c X.env (eval c X.env) >>= fun t => if t = true then isTrue a X.env (eval a X.env) else isTrue b X.env (eval b X.env)) _ _ s
  refine wpAny_bind (thn (hc.run pins s σ H (fun k H1 => (if k = true then tT (Wx X) EW C ma else tT (Wx X) EW C mb) σ H1 Q) I ⟨ι, h, σA, r, sl, p.bind.imp fun k ι1 h1 H1 g r1 q => ?_⟩) fun k s1 ⟨H1, I1, q1⟩ => ?_)
  · have q := q.2.2
    cases k with
    | true => exact ⟨ι1, h1, σA, r1, sl.go g, q⟩
    | false => exact ⟨ι1, h1, σA, r1, sl.go g, q⟩
  · cases k with
    | true => exact ha.run pins s1 σ H1 Q I1 q1
    | false => exact hb.run pins s1 σ H1 Q I1 q1
/-! arguments, displays -/
theorem pa_mnil : PAm X EW C [] .nil := pa_nil.via fun σ H Q ⟨ι, h, σA, r, sl, p⟩ => p ι H .refl r [] .nil
theorem pa_mcons {es : List Expr} {ms : MEs} (hs : noStar a = true) (ha : PEm X EW C a ma) (hr : PAm X EW C es ms) : PAm X EW C (a :: es) (.cons ma ms) := by
  refine (pa_cons ha hr (starEach_ns hs)).via fun σ H Q ⟨ι, h, σA, r, sl, p⟩ => ?_
  unfold evs at p
  refine ⟨ι, h, σA, r, sl, p.bind.imp fun d ι1 h1 H1 g r1 q v dv => ?_⟩
  refine ⟨ι1, h1, σA, r1, sl.go g, q.2.2.bind.imp fun ds ι2 h2 H2 g2 r2 q2 vs dvs => ?_⟩
  exact q2.2.2 ι2 H2 .refl r2 (v :: vs) (.cons (dv.go g2) dvs)
def MEs.len : MEs → Nat
  | .nil => 0
  | .cons _ r => r.len + 1
theorem evs_len : ∀ (ms : MEs) (σA : Sl) (h : Hh) (ds : List D) (h' : Hh), evs C ms σA h = .ok ds h' → ds.length = ms.len
  | .nil, σA, h, ds, h', e => by
    unfold evs at e
    cases e
    rfl
  | .cons a r, σA, h, ds, h', e => by
    unfold evs at e
    cases e1 : ev C a σA h with
    | bad => rw [e1] at e; cases e
    | err y h1 => rw [e1] at e; cases e
    | ok d h1 =>
      rw [e1, Res.bind_ok] at e
      cases e2 : evs C r σA h1 with
      | bad => rw [e2] at e; cases e
      | err y h1 => rw [e2] at e; cases e
      | ok ds2 h2 =>
        rw [e2, Res.bind_ok] at e
        cases e
        simp [MEs.len, evs_len r _ _ _ _ e2]
theorem paired_len {α β : Type} {R : α → β → Prop} {l : List α} {m : List β} (h : Paired R l m) : l.length = m.length := h.length
/-- what is wanted of an argument list, its length known -/
theorem Post.len {α : Type} {W : Wd} {ι : List Addr} {h : Hh} {H : Hp} {ms : MEs} {σA : Sl} {f : List D → Hh → Res α} {Q : α → List Addr → Hh → Hp → Prop} (p : Post W EW ι h H ((evs C ms σA h).bind f) Q) :
    Post W EW ι h H (evs C ms σA h) fun ds ι1 h1 H1 => ds.length = ms.len ∧ Go ι h H ι1 h1 H1 ∧ RH W ι1 h1 H1 ∧ Post W EW ι1 h1 H1 (f ds h1) Q := by
  have p := p.bind
  cases e : evs C ms σA h with
  | bad => rw [e] at p; exact p
  | err y h1 => rw [e] at p; exact p
  | ok ds h1 =>
    rw [e] at p
    exact fun ι1 H1 g r => ⟨evs_len ms _ _ _ _ e, p ι1 H1 g r⟩
theorem frzs_len : ∀ {ds : List D} {h h1 : Hh} {ps : List P}, frzs ds h = some (ps, h1) → ps.length = ds.length
  | [], _, _, _, e => by
    simp only [frzs, Option.some.injEq, Prod.mk.injEq] at e
    obtain ⟨rfl, rfl⟩ := e
    rfl
  | d :: ds, h, h1, ps, e => by
    cases e1 : frz d h with
    | none => simp [frzs, e1] at e
    | some q =>
      obtain ⟨p, h2⟩ := q
      cases e2 : frzs ds h2 with
      | none => simp [frzs, e1, e2] at e
      | some q =>
        obtain ⟨qs, h3⟩ := q
        simp only [frzs, e1, e2, Option.some.injEq, Prod.mk.injEq] at e
        obtain ⟨rfl, rfl⟩ := e
        simp [frzs_len e2]
theorem pe_mtup {es : List Expr} {ms : MEs} {x1 : Nat} (h : PAm X EW C es ms) (hl : ms.len ≤ 1000) : PEm X EW C (.Tuple es x1 pos) (.tup ms) := by
  refine (L2.pe_tup h).via fun σ H Q ⟨ι, h, σA, r, sl, p⟩ => ?_
  unfold ev at p
  refine ⟨ι, h, σA, r, sl, p.len.imp fun ds ι1 h1 H1 g r1 q vs dvs => ?_⟩
  obtain ⟨hd, _, _, q⟩ := q
  have hv : vs.length ≤ sizeLine := by rw [← dvs.length, hd, sizeLine_eq]; omega
  cases e : frzs ds h1 with
  | none => rw [e] at q; exact q.elim
  | some z =>
    obtain ⟨ps, h2⟩ := z
    rw [e] at q
    obtain ⟨g2, r2, pv⟩ := frzs_ok r1 dvs e
    refine ⟨hv, fun p n => ?_⟩
    have q' : wish (Wx X) EW ι1 h2 H1 (.ok (.p (.tuple ps)) h2) Q := fun ι3 H3 g3 r3 => q ι3 H3 (g2.trans g3) r3
    exact wish.tuple q' r2 pv n
theorem pe_mlst {es : List Expr} {ms : MEs} {m : Bool} (h : PAm X EW C es ms) (hl : ms.len ≤ 1000) : PEm X EW C (.List es pos) (.lst m ms) := by
  refine (L2.pe_lst h).via fun σ H Q ⟨ι, h, σA, r, sl, p⟩ => ?_
  unfold ev at p
  refine ⟨ι, h, σA, r, sl, p.len.imp fun ds ι1 h1 H1 g r1 q vs dvs => ?_⟩
  obtain ⟨hd, _, _, q⟩ := q
  have hv : vs.length ≤ sizeLine := by rw [← dvs.length, hd, sizeLine_eq]; omega
  cases e : frzs ds h1 with
  | none => rw [e] at q; exact q.elim
  | some z =>
    obtain ⟨ps, h2⟩ := z
    rw [e] at q
    obtain ⟨g2, r2, pv⟩ := frzs_ok r1 dvs e
    refine ⟨hv, fun p n => ?_⟩
    have q' : wish (Wx X) EW ι1 h2 H1 (mk m (.list ps) h2) Q := by
      have q : Post (Wx X) EW ι1 h1 H1 (mk m (.list ps) h2) _ := q
      cases m with
      | false => exact fun ι3 H3 g3 r3 => q ι3 H3 (g2.trans g3) r3
      | true => exact fun ι3 H3 g3 r3 => q ι3 H3 (g2.trans g3) r3
    exact wish.mkL q' r2 pv n
end
end Mi
/-! MiQ: dicts. -/
namespace Mi
open PySem L2 PySem.Spec PyProof.Rows
theorem eqv_key {a b : P} {x y : Key} (ha : toKey a = some x) (hb : toKey b = some y) : PyData.eqv a b = decide (x = y) := by
  cases a <;> simp only [toKey, Option.some.injEq, reduceCtorEq] at ha
  all_goals cases b <;> simp only [toKey, Option.some.injEq, reduceCtorEq] at hb
  all_goals subst ha hb
  · rw [key_ll]; simp [PyData.eqv]
  · rw [key_lr]; simp [PyData.eqv]
  · rw [key_rl]; simp [PyData.eqv]
  · rw [key_rr]; simp [PyData.eqv, Bool.beq_eq_decide_eq]
mutual
theorem eqv_nk : ∀ (a b : P) (x y : NestedKey), toNK a = some x → toNK b = some y → PyData.eqv a b = NestedKey.beq x y
  | .none, b, x, y, ha, hb => by
    simp only [toNK, Option.some.injEq] at ha
    subst ha
    cases b with
    | tuple ds =>
      obtain ⟨ks, _, rfl⟩ := Option.map_eq_some_iff.mp (show (toNKs ds).map .tup = some y from hb)
      simp [PyData.eqv, NestedKey.beq]
    | _ => simp only [toNK, Option.some.injEq, reduceCtorEq] at hb <;> subst hb <;> simp [PyData.eqv, NestedKey.beq]
  | .bool k, b, x, y, ha, hb => by
    simp only [toNK, Option.some.injEq] at ha
    subst ha
    cases b with
    | tuple ds =>
      obtain ⟨ks, _, rfl⟩ := Option.map_eq_some_iff.mp (show (toNKs ds).map .tup = some y from hb)
      simp [PyData.eqv, NestedKey.beq]
    | bool l => simp only [toNK, Option.some.injEq] at hb; subst hb; cases k <;> cases l <;> simp [PyData.eqv, NestedKey.beq]
    | int l => simp only [toNK, Option.some.injEq] at hb; subst hb; simp only [PyData.eqv, NestedKey.beq]; rw [Bool.beq_eq_decide_eq]
    | _ => simp only [toNK, Option.some.injEq, reduceCtorEq] at hb <;> subst hb <;> simp [PyData.eqv, NestedKey.beq]
  | .int k, b, x, y, ha, hb => by
    simp only [toNK, Option.some.injEq] at ha
    subst ha
    cases b with
    | tuple ds =>
      obtain ⟨ks, _, rfl⟩ := Option.map_eq_some_iff.mp (show (toNKs ds).map .tup = some y from hb)
      simp [PyData.eqv, NestedKey.beq]
    | bool l => simp only [toNK, Option.some.injEq] at hb; subst hb; simp only [PyData.eqv, NestedKey.beq]; rw [Bool.beq_eq_decide_eq]
    | int l => simp only [toNK, Option.some.injEq] at hb; subst hb; simp only [PyData.eqv, NestedKey.beq]; rw [Bool.beq_eq_decide_eq]
    | _ => simp only [toNK, Option.some.injEq, reduceCtorEq] at hb <;> subst hb <;> simp [PyData.eqv, NestedKey.beq]
  | .str k, b, x, y, ha, hb => by
    simp only [toNK, Option.some.injEq] at ha
    subst ha
    cases b with
    | tuple ds =>
      obtain ⟨ks, _, rfl⟩ := Option.map_eq_some_iff.mp (show (toNKs ds).map .tup = some y from hb)
      simp [PyData.eqv, NestedKey.beq]
    | str l => simp only [toNK, Option.some.injEq] at hb; subst hb; simp only [PyData.eqv, NestedKey.beq]; rw [Bool.beq_eq_decide_eq]
    | _ => simp only [toNK, Option.some.injEq, reduceCtorEq] at hb <;> subst hb <;> simp [PyData.eqv, NestedKey.beq]
  | .tuple as, b, x, y, ha, hb => by
    obtain ⟨ks, h1, rfl⟩ := Option.map_eq_some_iff.mp (show (toNKs as).map .tup = some x from ha)
    cases b with
    | tuple bs =>
      obtain ⟨ls, h2, rfl⟩ := Option.map_eq_some_iff.mp (show (toNKs bs).map .tup = some y from hb)
      simp only [PyData.eqv, NestedKey.beq]
      exact eqv_nks as bs ks ls h1 h2
    | _ => simp only [toNK, Option.some.injEq, reduceCtorEq] at hb <;> subst hb <;> simp [PyData.eqv, NestedKey.beq]
  | .list _, _, _, _, ha, _ => by simp [toNK] at ha
  | .dict _, _, _, _, ha, _ => by simp [toNK] at ha
theorem eqv_nks : ∀ (as bs : List P) (ks ls : List NestedKey), toNKs as = some ks → toNKs bs = some ls → PyData.eqvAll as bs = NestedKey.beqAll ks ls
  | [], [], ks, ls, ha, hb => by
    simp only [toNKs, Option.some.injEq] at ha hb
    subst ha hb
    rfl
  | [], b :: bs, ks, ls, ha, hb => by
    simp only [toNKs, Option.some.injEq] at ha
    subst ha
    cases h1 : toNK b with
    | none => simp [toNKs, h1] at hb
    | some k =>
      cases h2 : toNKs bs with
      | none => simp [toNKs, h1, h2] at hb
      | some l =>
        simp only [toNKs, h1, h2, Option.some.injEq] at hb
        subst hb
        simp [PyData.eqvAll, NestedKey.beqAll]
  | a :: as, bs, ks, ls, ha, hb => by
    cases h1 : toNK a with
    | none => simp [toNKs, h1] at ha
    | some k =>
      cases h2 : toNKs as with
      | none => simp [toNKs, h1, h2] at ha
      | some l =>
        simp only [toNKs, h1, h2, Option.some.injEq] at ha
        subst ha
        cases bs with
        | nil =>
          simp only [toNKs, Option.some.injEq] at hb
          subst hb
          simp [PyData.eqvAll, NestedKey.beqAll]
        | cons b bs =>
          cases h3 : toNK b with
          | none => simp [toNKs, h3] at hb
          | some k' =>
            cases h4 : toNKs bs with
            | none => simp [toNKs, h3, h4] at hb
            | some l' =>
              simp only [toNKs, h3, h4, Option.some.injEq] at hb
              subst hb
              simp only [PyData.eqvAll, NestedKey.beqAll]
              rw [eqv_nk a b k k' h1 h3, eqv_nks as bs l l' h2 h4]
end
theorem eqv_nkd {a b : P} {x y : NestedKey} (ha : toNK a = some x) (hb : toNK b = some y) : PyData.eqv a b = decide (x = y) := by
  rw [NestedKey.decide_eq]; exact eqv_nk a b x y ha hb
/-! any kind of keys: what a dict's look-up, store and removal are, from data to keys -/
section
variable {pr : Program} {w : World} {K : PySem.W.Frag} {L : Addr → Prop} {H : Hp} {κ : Type} [DecidableEq κ]
theorem PVk.nil_iff {es : List En} (x : PVk pr w K L H [] es) : es = [] := by unfold PVk at x; exact x
theorem PVk.inv {k d : P} {r : List (P × P)} {es : List En} (x : PVk pr w K L H ((k, d) :: r) es) : ∃ e t, es = e :: t ∧ e.d = k ∧ PV pr w K L H k e.k ∧ PV pr w K L H d e.v ∧ PVk pr w K L H r t := by
  unfold PVk at x; exact x
theorem PVk.cons {k d : P} {r : List (P × P)} {e : En} {t : List En} (h0 : e.d = k) (h1 : PV pr w K L H k e.k) (h2 : PV pr w K L H d e.v) (h3 : PVk pr w K L H r t) : PVk pr w K L H ((k, d) :: r) (e :: t) := by
  unfold PVk; exact ⟨e, t, rfl, h0, h1, h2, h3⟩
theorem PVk.nil : PVk pr w K L H [] [] := by unfold PVk; rfl
theorem PVk.length : ∀ {kvs : List (P × P)} {es : List En}, PVk pr w K L H kvs es → kvs.length = es.length
  | [], _, x => by rw [x.nil_iff]; rfl
  | (k, d) :: r, _, x => by
    obtain ⟨e, t, rfl, _, _, _, h⟩ := x.inv
    simp [PVk.length h]
theorem PVk.append : ∀ {kvs ls : List (P × P)} {es fs : List En}, PVk pr w K L H kvs es → PVk pr w K L H ls fs → PVk pr w K L H (kvs ++ ls) (es ++ fs)
  | [], _, _, _, x, y => by rw [x.nil_iff]; exact y
  | (k, d) :: r, _, _, _, x, y => by
    obtain ⟨e, t, rfl, h0, h1, h2, h3⟩ := x.inv
    exact .cons h0 h1 h2 (PVk.append h3 y)
theorem dget_ok (tk : P → Option κ) (te : ∀ {a b : P} {x y : κ}, tk a = some x → tk b = some y → PyData.eqv a b = decide (x = y)) {k : P} {x : κ} (hk : tk k = some x) : ∀ {kvs : List (P × P)} {es : List En}, PVk pr w K L H kvs es → (∀ e ∈ es, ∃ y, tk e.d = some y) →
    match dget kvs k with
    | none => ∀ e ∈ es, tk e.d ≠ some x
    | some d => ∃ p e q, es = p ++ e :: q ∧ tk e.d = some x ∧ (∀ e' ∈ p, tk e'.d ≠ some x) ∧ PV pr w K L H d e.v
  | [], es, a, _ => by
    rw [a.nil_iff]
    show ∀ e ∈ [], _
    exact fun e he => absurd he (by simp)
  | (k', d) :: r, es, a, f => by
    obtain ⟨e, t, rfl, h0, h1, h2, h3⟩ := a.inv
    obtain ⟨y, hy⟩ := f e (by simp)
    rw [h0] at hy
    have ih := dget_ok tk te hk h3 fun e' he' => f e' (by simp [he'])
    have eq : PyData.eqv k' k = decide (y = x) := te hy hk
    have hd : dget ((k', d) :: r) k = if y = x then some d else dget r k := by
      unfold dget
      rw [List.find?_cons]
      simp only [eq]
      by_cases z : y = x <;> simp [z]
    rw [hd]
    by_cases z : y = x
    · rw [if_pos z]
      exact ⟨[], e, t, rfl, by rw [h0, hy, z], fun e' he' => absurd he' (by simp), h2⟩
    · rw [if_neg z]
      cases hg : dget r k with
      | none =>
        rw [hg] at ih
        intro e' he'
        rcases List.mem_cons.mp he' with rfl | he'
        · rw [h0, hy]; simpa using z
        · exact ih e' he'
      | some d' =>
        rw [hg] at ih
        obtain ⟨p, e2, q, e1, e3, e4, e5⟩ := ih
        refine ⟨e :: p, e2, q, by rw [e1]; rfl, e3, fun e' he' => ?_, e5⟩
        rcases List.mem_cons.mp he' with rfl | he'
        · rw [h0, hy]; simpa using z
        · exact e4 e' he'
theorem find_none {β : Type} {tk : P → Option κ} {R : En → κ × β → Prop} (hR : ∀ e q, R e q → tk e.d = some q.1) {x : κ} : ∀ {es : List En} {kv : List (κ × β)}, Paired R es kv → (∀ e ∈ es, tk e.d ≠ some x) → (kv.find? fun z => decide (z.1 = x)) = none
  | _, _, .nil, _ => rfl
  | e :: es, q :: kv, .cons a b, n => by
    rw [List.find?_cons]
    have h1 := hR _ _ a
    have h2 : q.1 ≠ x := fun z => n e (by simp) (by rw [h1, z])
    simp only [h2, decide_false]
    exact find_none hR b fun e' he' => n e' (by simp [he'])
theorem find_some {β : Type} {tk : P → Option κ} {R : En → κ × β → Prop} (hR : ∀ e q, R e q → tk e.d = some q.1) {x : κ} : ∀ {p : List En} {e : En} {q : List En} {kv : List (κ × β)}, Paired R (p ++ e :: q) kv → (∀ e ∈ p, tk e.d ≠ some x) → tk e.d = some x →
    ∃ z, (kv.find? fun z => decide (z.1 = x)) = some z ∧ R e z
  | [], e, q, z :: kv, .cons a b, _, hx => by
    have h1 := hR _ _ a
    rw [hx] at h1
    refine ⟨z, ?_, a⟩
    rw [List.find?_cons]
    simp [(Option.some.inj h1).symm]
  | e' :: p, e, q, z :: kv, .cons a b, n, hx => by
    have h1 := hR _ _ a
    have h2 : z.1 ≠ x := fun y => n e' (by simp) (by rw [h1, y])
    obtain ⟨y, h3, h4⟩ := find_some hR (p := p) (e := e) (q := q) b (fun e2 he2 => n e2 (by simp [he2])) hx
    refine ⟨y, ?_, h4⟩
    rw [List.find?_cons]
    simp only [h2, decide_false]
    exact h3
/-- the values of equal keys replaced -/
def repl (tk : P → Option κ) (x : κ) (v : V) (e : En) : En := if tk e.d = some x then { e with v := v } else e
theorem dput_ok (tk : P → Option κ) (te : ∀ {a b : P} {x y : κ}, tk a = some x → tk b = some y → PyData.eqv a b = decide (x = y)) {k d : P} {x : κ} {e0 : En} (hk : tk k = some x) (h0 : e0.d = k) (h1 : PV pr w K L H k e0.k) (h2 : PV pr w K L H d e0.v) {kvs : List (P × P)} {es : List En}
    (a : PVk pr w K L H kvs es) (f : ∀ e ∈ es, ∃ y, tk e.d = some y) :
    PVk pr w K L H (dput kvs k d) (if (es.any fun e => decide (tk e.d = some x)) = true then es.map (repl tk x e0.v) else es ++ [e0]) := by
  have key : ∀ {kvs : List (P × P)} {es : List En}, PVk pr w K L H kvs es → (∀ e ∈ es, ∃ y, tk e.d = some y) → (kvs.any fun kv => PyData.eqv kv.1 k) = (es.any fun e => decide (tk e.d = some x)) ∧ PVk pr w K L H (kvs.map fun kv => if PyData.eqv kv.1 k = true then (kv.1, d) else kv) (es.map (repl tk x e0.v)) := by
    intro kvs
    induction kvs with
    | nil =>
      intro es a _
      rw [a.nil_iff]
      exact ⟨rfl, PVk.nil⟩
    | cons p r ih =>
      obtain ⟨k', d'⟩ := p
      intro es a f
      obtain ⟨e, t, rfl, g0, g1, g2, g3⟩ := a.inv
      obtain ⟨y, hy⟩ := f e (by simp)
      obtain ⟨i1, i2⟩ := ih g3 fun e' he' => f e' (by simp [he'])
      have hy' := hy
      rw [g0] at hy'
      have eq : PyData.eqv k' k = decide (y = x) := te hy' hk
      refine ⟨?_, ?_⟩
      · rw [List.any_cons, List.any_cons, i1]
        congr 1
        show PyData.eqv k' k = _
        rw [eq, hy]
        simp
      · rw [List.map_cons, List.map_cons]
        simp only [eq]
        unfold repl
        rw [hy]
        by_cases z : y = x
        · simp only [z, decide_true, if_true]
          exact .cons g0 g1 h2 i2
        · simp only [z, decide_false, Bool.false_eq_true, if_false, Option.some.injEq]
          exact .cons g0 g1 g2 i2
  obtain ⟨i1, i2⟩ := key a f
  unfold dput
  rw [i1]
  split
  · exact i2
  · exact PVk.append a (.cons h0 h1 h2 PVk.nil)
theorem paired_repl {β : Type} {tk : P → Option κ} {R : En → κ × β → Prop} (hR : ∀ e q, R e q → tk e.d = some q.1) {x : κ} {v : V} {g : κ × β → κ × β} (hg : ∀ e q, R e q → q.1 = x → R { e with v := v } (g q)) : ∀ {es : List En} {kv : List (κ × β)}, Paired R es kv →
    (es.any fun e => decide (tk e.d = some x)) = (kv.any fun z => decide (z.1 = x)) ∧ Paired R (es.map (repl tk x v)) (kv.map fun z => if z.1 = x then g z else z)
  | _, _, .nil => ⟨rfl, .nil⟩
  | e :: es, q :: kv, .cons a b => by
    obtain ⟨i1, i2⟩ := paired_repl hR hg b
    have h1 := hR _ _ a
    refine ⟨?_, ?_⟩
    · rw [List.any_cons, List.any_cons, i1, h1]
      simp
    · rw [List.map_cons, List.map_cons]
      refine .cons ?_ i2
      unfold repl
      rw [h1]
      by_cases z : q.1 = x
      · simp only [z, if_true]
        exact hg e q a z
      · simp only [z, if_false, Option.some.injEq]
        exact a
theorem ddel_ok (tk : P → Option κ) (te : ∀ {a b : P} {x y : κ}, tk a = some x → tk b = some y → PyData.eqv a b = decide (x = y)) {k : P} {x : κ} (hk : tk k = some x) {β : Type} {R : En → κ × β → Prop} (hR : ∀ e q, R e q → tk e.d = some q.1) : ∀ {kvs : List (P × P)} {es : List En} {kv : List (κ × β)}, PVk pr w K L H kvs es → Paired R es kv →
    ∃ es', PVk pr w K L H (ddel kvs k) es' ∧ Paired R es' (kv.filter fun z => decide (z.1 ≠ x))
  | [], es, kv, a, b => by
    have := a.nil_iff
    subst this
    cases b
    exact ⟨[], PVk.nil, .nil⟩
  | (k', d) :: r, es, kv, a, b => by
    obtain ⟨e, t, rfl, g0, g1, g2, g3⟩ := a.inv
    cases b with
    | @cons _ q _ kv a1 b1 =>
      obtain ⟨es', i1, i2⟩ := ddel_ok tk te hk hR g3 b1
      have hy := hR _ _ a1
      rw [g0] at hy
      have eq : PyData.eqv k' k = decide (q.1 = x) := te hy hk
      by_cases z : q.1 = x
      · refine ⟨es', ?_, ?_⟩
        · have : ddel ((k', d) :: r) k = ddel r k := by
            unfold ddel
            rw [List.filter_cons]
            simp [eq, z]
          rw [this]; exact i1
        · rw [List.filter_cons]
          simp only [ne_eq, z, not_true, decide_false, Bool.false_eq_true, if_false]
          exact i2
      · refine ⟨e :: es', ?_, ?_⟩
        · have : ddel ((k', d) :: r) k = (k', d) :: ddel r k := by
            unfold ddel
            rw [List.filter_cons]
            simp [eq, z]
          rw [this]; exact .cons g0 g1 g2 i1
        · rw [List.filter_cons]
          simp only [ne_eq, z, not_false_eq_true, decide_true, if_true]
          exact .cons a1 i2
end
end Mi
/-! MiR: dicts over the heap. -/
namespace Mi
open PySem L2 PySem.Spec PyProof.Rows
section
variable {X : Cx} {pins : List (Addr × Obj)} {s : Shared} {σ : L2.St} {H : Hp} {L : Addr → Prop}
mutual
theorem PV.nested (I : Inv X pins σ H s) : ∀ (d : P) (v : V) (u : Value) (k : NestedKey), toNK d = some k → PV X.prog X.w X.K L H d v → RelV v u → NestedIs s.heap k u
  | .none, _, _, _, e, x, r => by
    simp only [toNK, Option.some.injEq] at e
    unfold PV at x
    subst e x
    cases r
    exact .none
  | .bool b, _, _, _, e, x, r => by
    simp only [toNK, Option.some.injEq] at e
    unfold PV at x
    subst e x
    cases r
    exact .bool rfl
  | .int i, _, _, _, e, x, r => by
    simp only [toNK, Option.some.injEq] at e
    unfold PV at x
    subst e x
    obtain ⟨t, rfl⟩ := r
    exact .int i t
  | .str i, _, _, _, e, x, r => by
    simp only [toNK, Option.some.injEq] at e
    unfold PV at x
    subst e x
    obtain ⟨t, rfl⟩ := r
    exact .text i t
  | .tuple ds, _, _, _, e, x, r => by
    obtain ⟨ks, h1, rfl⟩ := Option.map_eq_some_iff.mp (show (toNKs ds).map NestedKey.tup = some _ from e)
    unfold PV at x
    obtain ⟨a, vs, rfl, l, q⟩ := x
    cases r
    obtain ⟨its, rv, ⟨o, ho, hc, n, hd⟩, _⟩ := I.tuple l.sq
    exact .tup ho hc hd (by simpa using PVs.nested I ds vs its ks h1 q rv)
  | .list _, _, _, _, e, _, _ => by simp [toNK] at e
  | .dict _, _, _, _, e, _, _ => by simp [toNK] at e
theorem PVs.nested (I : Inv X pins σ H s) : ∀ (ds : List P) (vs : List V) (us : List Value) (ks : List NestedKey), toNKs ds = some ks → PVs X.prog X.w X.K L H ds vs → Vals vs us → NestedAll s.heap ks us
  | [], _, _, _, e, x, r => by
    simp only [toNKs, Option.some.injEq] at e
    unfold PVs at x
    subst e x
    cases r
    exact .nil
  | d :: ds, _, _, _, e, x, r => by
    obtain ⟨v, vr, rfl, h1, h2⟩ := x.inv
    cases r with
    | cons r1 r2 =>
      cases e1 : toNK d with
      | none => simp [toNKs, e1] at e
      | some k =>
        cases e2 : toNKs ds with
        | none => simp [toNKs, e1, e2] at e
        | some ks =>
          simp only [toNKs, e1, e2, Option.some.injEq] at e
          subst e
          exact .cons (PV.nested I d v _ k e1 h1 r1) (PVs.nested I ds vr _ ks e2 h2 r2)
end
mutual
theorem nk_depth : ∀ (d : P) (k : NestedKey), toNK d = some k → k.depth ≤ d.depth
  | .none, _, e => by simp only [toNK, Option.some.injEq] at e; subst e; simp [NestedKey.depth]
  | .bool _, _, e => by simp only [toNK, Option.some.injEq] at e; subst e; simp [NestedKey.depth]
  | .int _, _, e => by simp only [toNK, Option.some.injEq] at e; subst e; simp [NestedKey.depth]
  | .str _, _, e => by simp only [toNK, Option.some.injEq] at e; subst e; simp [NestedKey.depth]
  | .tuple ds, _, e => by
    obtain ⟨ks, h1, rfl⟩ := Option.map_eq_some_iff.mp (show (toNKs ds).map NestedKey.tup = some _ from e)
    have := nks_depth ds ks h1
    simp only [NestedKey.depth, PyData.depth]
    omega
  | .list _, _, e => by simp [toNK] at e
  | .dict _, _, e => by simp [toNK] at e
theorem nks_depth : ∀ (ds : List P) (ks : List NestedKey), toNKs ds = some ks → NestedKey.depthAll ks ≤ PyData.depthAll ds
  | [], _, e => by simp only [toNKs, Option.some.injEq] at e; subst e; simp [NestedKey.depthAll]
  | d :: ds, _, e => by
    cases e1 : toNK d with
    | none => simp [toNKs, e1] at e
    | some k =>
      cases e2 : toNKs ds with
      | none => simp [toNKs, e1, e2] at e
      | some ks =>
        simp only [toNKs, e1, e2, Option.some.injEq] at e
        subst e
        have h1 := nk_depth d k e1
        have h2 := nks_depth ds ks e2
        simp only [NestedKey.depthAll, PyData.depthAll]
        omega
end
/-- an entry and a pair of the heap's dict with text or int keys -/
def RK (e : En) (q : Key × V) : Prop := toKey e.d = some q.1 ∧ e.k = kV q.1 ∧ e.v = q.2
def RT (e : En) (q : NestedKey × Addr × Value) : Prop := toNK e.d = some q.1 ∧ keyOk e.d = true ∧ e.k = .ref q.2.1 ∧ RelV e.v q.2.2
theorem paired_nil {α β : Type} {R : α → β → Prop} {l : List α} (h : Paired R l []) : l = [] := by cases h; rfl
theorem nil_paired {α β : Type} {R : α → β → Prop} {l : List β} (h : Paired R [] l) : l = [] := by cases h; rfl
theorem toKey_tup {d : P} {k : Key} (h : toKey d = some k) : isTupK d = false := by cases d <;> simp [toKey, isTupK] at h ⊢
theorem pv_kinds {pr : Program} {w : World} {K : PySem.W.Frag} {kvs : List (P × P)} {es : List En} {b : Bool} (a : PVk pr w K L H kvs es) (h : (kvs.all fun kv => isTupK kv.1 == b) = true) : ∀ e ∈ es, isTupK e.d = b := by
  induction kvs generalizing es with
  | nil => rw [a.nil_iff]; exact fun e he => absurd he (by simp)
  | cons p r ih =>
    obtain ⟨k, d⟩ := p
    obtain ⟨e, t, rfl, g0, g1, g2, g3⟩ := a.inv
    simp only [List.all_cons, Bool.and_eq_true, beq_iff_eq] at h
    intro e' he'
    rcases List.mem_cons.mp he' with rfl | he'
    · rw [g0]; exact h.1
    · exact ih g3 (by simpa using h.2) e' he'
theorem nk_not_key {d : P} {k : NestedKey} (h : toNK d = some k) (n : isTupK d = false) (ok : keyOk d = true) : ∃ x, toKey d = some x := by
  cases d <;> simp [toNK, isTupK, keyOk, toKey] at h n ok ⊢
/-- the dict at a with text or int keys -/
theorem DctR.rawK (I : Inv X pins σ H s) {a : Addr} {es : List En} {kvs : List (P × P)} (x : DctR X.prog X.w H a es) (pk : PVk X.prog X.w X.K L H kvs es) (n : ∀ e ∈ es, isTupK e.d = false) :
    (a == sysModules) = false ∧ ∃ kv vs, kv.length ≤ sizeLine ∧ KV kv vs ∧ s.heap.DictOf (mixKind X.prog X.w) a vs ∧ (kv.map (·.1)).Nodup ∧ Paired RK es kv := by
  rcases x with ⟨kv, e, nd, p⟩ | ⟨na, z, xs, e, nd, p⟩
  · obtain ⟨hz, hd, vs, rel, dd⟩ := dk_rd I.hok e
    exact ⟨hd, kv, vs, hz, rel, dd, nd, p⟩
  · have : es = [] := by
      cases es with
      | nil => rfl
      | cons e0 r =>
        cases p with
        | @cons _ q _ _ a1 b1 =>
          exfalso
          cases kvs with
          | nil => have := pk.nil_iff; cases this
          | cons kv0 kr =>
            obtain ⟨k, d⟩ := kv0
            obtain ⟨e', t, ee, g0, g1, g2, g3⟩ := pk.inv
            cases ee
            have hn := n e0 (by simp)
            obtain ⟨a2, a3, a4, a5⟩ := a1
            rw [← g0, a4] at g1
            cases hd : e0.d with
            | tuple ds => rw [hd] at hn; simp [isTupK] at hn
            | int i => rw [hd] at g1; unfold PV at g1; cases g1
            | str i => rw [hd] at g1; unfold PV at g1; cases g1
            | _ => rw [hd] at a3; simp [keyOk] at a3
    subst this
    have := nil_paired p
    subst this
    obtain ⟨ph, ⟨o, ho⟩, _⟩ := rd_of I.hok e
    obtain ⟨ys, py, o, des, ep, g1, g2, g3, g4⟩ := ph
    have := nil_paired py
    subst this
    refine ⟨by simpa using na, [], [], Nat.zero_le _, .nil, ⟨o, des, ep, g1, g2, g3, ?_, ?_, List.nodup_nil⟩, List.nodup_nil, .nil⟩
    · have : des = #[] := by
        have q : des.toList = [] := by simpa using g4
        exact Array.toList_inj.mp (by simpa using q)
      subst this
      intro i hi
      simp at hi
    · have q : des.toList = [] := by simpa using g4
      rw [q]
      exact .nil
/-- .. with tuples as keys -/
theorem DctR.rawT (I : Inv X pins σ H s) {a : Addr} {es : List En} {kvs : List (P × P)} (x : DctR X.prog X.w H a es) (pk : PVk X.prog X.w X.K L H kvs es) (n : ∀ e ∈ es, isTupK e.d = true) :
    (a == sysModules) = false ∧ es.length ≤ sizeLine ∧ ∃ ys, s.heap.DictOfH (nestedKind X.prog X.w) a ys ∧ Paired RT es ys := by
  rcases x with ⟨kv, e, nd, p⟩ | ⟨na, z, xs, e, nd, p⟩
  · have : es = [] := by
      cases es with
      | nil => rfl
      | cons e0 r =>
        cases p with
        | @cons _ q _ _ a1 b1 =>
          have h1 := toKey_tup a1.1
          rw [n e0 (by simp)] at h1
          cases h1
    subst this
    have := nil_paired p
    subst this
    obtain ⟨hz, hd, vs, rel, o, des, ep, g1, g2, g3, g4, g5, g6⟩ := dk_rd I.hok e
    have := nil_paired rel
    subst this
    refine ⟨hd, Nat.zero_le _, [], ⟨o, des, ep, g1, g2, g3, ?_, fun x hx => absurd hx (by simp), List.nodup_nil⟩, .nil⟩
    cases h : des.toList with
    | nil => rfl
    | cons y r => rw [h] at g5; cases g5
  · obtain ⟨ph, ⟨o, ho⟩, _⟩ := rd_of I.hok e
    obtain ⟨ys, py, o, des, ep, g1, g2, g3, g4⟩ := ph
    have key : ∀ {es : List En} {kvs : List (P × P)} {xs : List (NestedKey × Addr × V)} {ys : List (NestedKey × Addr × Value)}, PVk X.prog X.w X.K L H kvs es → Paired (fun (e : En) (q : NestedKey × Addr × V) => toNK e.d = some q.1 ∧ keyOk e.d = true ∧ e.k = .ref q.2.1 ∧ e.v = q.2.2) es xs →
        Paired (fun p q => p.1 = q.1 ∧ p.2.1 = q.2.1 ∧ RelV p.2.2 q.2.2) xs ys → Paired RT es ys ∧ (∀ x ∈ ys, (nestedKind X.prog X.w).is s.heap x.1 x.2.1) ∧ ys.map (·.1) = xs.map (·.1) := by
      intro es kvs xs ys pk p py
      induction p generalizing kvs ys with
      | nil => cases py; exact ⟨.nil, fun x hx => absurd hx (by simp), rfl⟩
      | @cons e0 q0 er qr a1 b1 ih =>
        cases py with
        | @cons _ y _ yr c1 d1 =>
          cases kvs with
          | nil => have := pk.nil_iff; cases this
          | cons kv kr =>
            obtain ⟨k, d⟩ := kv
            obtain ⟨e, t, ee, g0, g1, g2, g3⟩ := pk.inv
            cases ee
            obtain ⟨i1, i2, i3⟩ := ih g3 d1
            obtain ⟨a2, a3, a4, a5⟩ := a1
            obtain ⟨c2, c3, c4⟩ := c1
            refine ⟨.cons ⟨by rw [a2, c2], a3, by rw [a4, c3], by rw [a5]; exact c4⟩ i1, fun x hx => ?_, by rw [List.map_cons, List.map_cons, i3, c2]⟩
            rcases List.mem_cons.mp hx with rfl | hx
            · refine ⟨?_, ?_⟩
              · rw [a4] at g1
                have := PV.nested I k _ (.ref q0.2.1) q0.1 (by rw [← g0]; exact a2) g1 rfl
                rw [← c2, ← c3]
                exact this
              · have h1 := nk_depth _ _ a2
                rw [← c2]
                cases hd : e0.d with
                | tuple ds =>
                  rw [hd] at a3 h1
                  unfold keyOk at a3
                  simp only [Bool.and_eq_true, decide_eq_true_eq] at a3
                  omega
                | _ => rw [hd] at h1; simp [PyData.depth] at h1 <;> first | omega | (rw [hd] at a3; simp [keyOk] at a3)
            · exact i2 x hx
    obtain ⟨i1, i2, i3⟩ := key pk p py
    exact ⟨by simpa using na, z, ys, ⟨o, des, ep, g1, g2, g3, g4, i2, by rw [i3]; exact nd⟩, i1⟩
theorem keyOk_split {kvs : List (P × P)} {k : P} (h : keyIn kvs k = true) : keyOk k = true ∧ (kvs.all fun kv => isTupK kv.1 == isTupK k) = true := by
  unfold keyIn at h
  rwa [Bool.and_eq_true] at h
theorem key_text {k : P} (h : keyOk k = true) (n : isTupK k = false) : ∃ x, toKey k = some x := by
  cases k <;> simp [keyOk, isTupK, toKey] at h n ⊢
theorem key_tup {k : P} (h : keyOk k = true) (n : isTupK k = true) : ∃ x, toNK k = some x ∧ k.depth ≤ 8 := by
  cases k with
  | tuple ds =>
    unfold keyOk at h
    simp only [Bool.and_eq_true, decide_eq_true_eq] at h
    exact ⟨_, (Option.some_get h.1).symm, h.2⟩
  | _ => simp [isTupK] at n
theorem key_val {pr : Program} {w : World} {K : PySem.W.Frag} {k : P} {x : Key} {y : V} (h : toKey k = some x) (p : PV pr w K L H k y) : y = kV x := by
  cases k <;> simp only [toKey, Option.some.injEq, reduceCtorEq] at h
  all_goals subst h; unfold PV at p; exact p
theorem key_ref {pr : Program} {w : World} {K : PySem.W.Frag} {k : P} {y : V} (h : isTupK k = true) (p : PV pr w K L H k y) : ∃ b, y = .ref b := by
  cases k with
  | tuple ds =>
    unfold PV at p
    obtain ⟨a, _, e, _⟩ := p
    exact ⟨a, e⟩
  | _ => simp [isTupK] at h
theorem key_is (I : Inv X pins σ H s) {k : P} {nk : NestedKey} {b : Addr} (h : toNK k = some nk) (hd : k.depth ≤ 8) (p : PV X.prog X.w X.K L H k (.ref b)) : (nestedKind X.prog X.w).is s.heap nk b :=
  ⟨PV.nested I k _ (.ref b) nk h p rfl, Nat.le_trans (nk_depth _ _ h) hd⟩
theorem es_key {es : List En} {kv : List (Key × V)} (p : Paired RK es kv) : ∀ e ∈ es, ∃ y, toKey e.d = some y := by
  induction p with
  | nil => exact fun e he => absurd he (by simp)
  | cons a b ih =>
    intro e he
    rcases List.mem_cons.mp he with rfl | he
    · exact ⟨_, a.1⟩
    · exact ih e he
theorem es_nk {es : List En} {kv : List (NestedKey × Addr × Value)} (p : Paired RT es kv) : ∀ e ∈ es, ∃ y, toNK e.d = some y := by
  induction p with
  | nil => exact fun e he => absurd he (by simp)
  | cons a b ih =>
    intro e he
    rcases List.mem_cons.mp he with rfl | he
    · exact ⟨_, a.1⟩
    · exact ih e he
theorem room1 {A : Around} (hu : A.units + 20 < cLine) : (nestedKind X.prog X.w).room A.in1 := by
  show A.in1.units + 8 < cLine
  rw [Around.in1_units]
  omega
/-- what is known of a look-up: the key is there with this value, or it is not there -/
theorem dict_look (I : Inv X pins σ H s) {a : Addr} {es : List En} {kvs : List (P × P)} {k : P} {y : V} {u : Value} (x : DctR X.prog X.w H a es) (pk : PVk X.prog X.w X.K L H kvs es) (hk : keyIn kvs k = true) (pv : PV X.prog X.w X.K L H k y) (r : RelV y u) :
    (a == sysModules) = false ∧ es.length ≤ sizeLine ∧
    ((∃ kv vs key, isTupK k = false ∧ toKey k = some key ∧ y = kV key ∧ kv.length ≤ sizeLine ∧ KV kv vs ∧ s.heap.DictOf (mixKind X.prog X.w) a vs ∧ (kv.map (·.1)).Nodup ∧ Paired RK es kv ∧
        ((dget kvs k = none ∧ valV kv key = none) ∨ ∃ d v, dget kvs k = some d ∧ valV kv key = some v ∧ PV X.prog X.w X.K L H d v)) ∨
     (∃ ys nk b, isTupK k = true ∧ toNK k = some nk ∧ keyOk k = true ∧ u = .ref b ∧ (nestedKind X.prog X.w).is s.heap nk b ∧ s.heap.DictOfH (nestedKind X.prog X.w) a ys ∧ Paired RT es ys ∧
        ((dget kvs k = none ∧ atKey ys nk = none) ∨ ∃ d v b' w', dget kvs k = some d ∧ atKey ys nk = some (b', w') ∧ RelV v w' ∧ PV X.prog X.w X.K L H d v))) := by
  obtain ⟨k1, k2⟩ := keyOk_split hk
  have kk := pv_kinds pk k2
  cases ht : isTupK k with
  | false =>
    rw [ht] at kk
    obtain ⟨hd, kv, vs, hz, rel, dd, nd, p⟩ := DctR.rawK I x pk kk
    obtain ⟨key, hkey⟩ := key_text k1 ht
    have hy := key_val hkey pv
    refine ⟨hd, by rw [p.length]; exact hz, .inl ⟨kv, vs, key, rfl, hkey, hy, hz, rel, dd, nd, p, ?_⟩⟩
    have g := dget_ok toKey (fun h1 h2 => eqv_key h1 h2) hkey pk (es_key p)
    cases e : dget kvs k with
    | none =>
      rw [e] at g
      exact .inl ⟨rfl, by unfold valV; rw [find_none (R := RK) (tk := toKey) (fun _ _ q => q.1) p g]; rfl⟩
    | some d =>
      rw [e] at g
      obtain ⟨p1, e1, q1, ee, t1, t2, t3⟩ := g
      rw [ee] at p
      obtain ⟨z, z1, z2⟩ := find_some (R := RK) (tk := toKey) (fun _ _ q => q.1) p t2 t1
      exact .inr ⟨d, e1.v, rfl, by unfold valV; rw [z1, z2.2.2]; rfl, t3⟩
  | true =>
    rw [ht] at kk
    obtain ⟨hd, hz, ys, dd, p⟩ := DctR.rawT I x pk kk
    obtain ⟨nk, hnk, hdp⟩ := key_tup k1 ht
    obtain ⟨b, rfl⟩ := key_ref ht pv
    cases r
    refine ⟨hd, hz, .inr ⟨ys, nk, b, rfl, hnk, k1, rfl, key_is I hnk hdp pv, dd, p, ?_⟩⟩
    have g := dget_ok toNK (fun h1 h2 => eqv_nkd h1 h2) hnk pk (es_nk p)
    cases e : dget kvs k with
    | none =>
      rw [e] at g
      exact .inl ⟨rfl, by unfold atKey; rw [find_none (R := RT) (tk := toNK) (fun _ _ q => q.1) p g]; rfl⟩
    | some d =>
      rw [e] at g
      obtain ⟨p1, e1, q1, ee, t1, t2, t3⟩ := g
      rw [ee] at p
      obtain ⟨z, z1, z2⟩ := find_some (R := RT) (tk := toNK) (fun _ _ q => q.1) p t2 t1
      exact .inr ⟨d, e1.v, z.2.1, z.2.2, rfl, by unfold atKey; rw [z1]; rfl, z2.2.2.2, t3⟩
variable {A : Around} {E : Value → Shared → Prop}
theorem dict_get (hu : A.units + 20 < cLine) (I : Inv X pins σ H s) {a : Addr} {es : List En} {kvs : List (P × P)} {k d : P} {y : V} {u : Value} {Q : Value → Shared → Prop} (x : DctR X.prog X.w H a es) (pk : PVk X.prog X.w X.K L H kvs es) (hk : keyIn kvs k = true) (pv : PV X.prog X.w X.K L H k y) (r : RelV y u)
    (hg : dget kvs k = some d) (h : ∀ v w' s', Inv X pins σ H s' → RelV v w' → PV X.prog X.w X.K L H d v → Q w' s') : wpAny (model X.prog X.w) A (getItem (.ref a) u) Q E s := by
  obtain ⟨hd, _, g⟩ := dict_look I x pk hk pv r
  rcases g with ⟨kv, vs, key, _, hkey, hy, hz, rel, dd, nd, p, ⟨g1, _⟩ | ⟨d', v, g1, g2, g3⟩⟩ | ⟨ys, nk, b, _, hnk, k1, rfl, is, dd, p, ⟨g1, _⟩ | ⟨d', v, b', w', g1, g2, g3, g4⟩⟩
  · rw [hg] at g1; cases g1
  · rw [hg] at g1; cases g1
    subst hy
    obtain ⟨w', hw, rw'⟩ := RelO.some_of (v := v) (o := valueAt vs key) (by rw [← g2]; exact rel.val key)
    exact wpAny_getItem_of (kV_is r) dd.mapOf hw (h v w' _ (I.tok _) rw' g3)
  · rw [hg] at g1; cases g1
  · rw [hg] at g1; cases g1
    exact wpAny_getItem_heap (room1 hu) is dd g2 (h v w' _ (I.tok _) g3 g4)
theorem dict_in (hu : A.units + 20 < cLine) (I : Inv X pins σ H s) {a : Addr} {es : List En} {kvs : List (P × P)} {k : P} {y : V} {u : Value} {Q : Value → Shared → Prop} (x : DctR X.prog X.w H a es) (pk : PVk X.prog X.w X.K L H kvs es) (hk : keyIn kvs k = true) (pv : PV X.prog X.w X.K L H k y) (r : RelV y u)
    (h : ∀ s', Inv X pins σ H s' → Q (.bool (dget kvs k).isSome) s') : wpAny (model X.prog X.w) A (compareOp .In u (.ref a)) Q E s := by
  obtain ⟨hd, _, g⟩ := dict_look I x pk hk pv r
  rcases g with ⟨kv, vs, key, _, hkey, hy, hz, rel, dd, nd, p, g⟩ | ⟨ys, nk, b, _, hnk, k1, rfl, is, dd, p, g⟩
  · subst hy
    refine wpAny_in_of (kV_is r) hd dd.mapOf ?_
    have e : (dget kvs k).isSome = (valueAt vs key).isSome := by
      rw [← (rel.val key).isSome_eq]
      rcases g with ⟨g1, g2⟩ | ⟨d', v, g1, g2, _⟩ <;> rw [g1, g2] <;> rfl
    rw [← e]
    exact h _ (I.tok _)
  · refine wpAny_in_heap (room1 hu) is hd dd ?_
    have e : (dget kvs k).isSome = (atKey ys nk).isSome := by
      rcases g with ⟨g1, g2⟩ | ⟨d', v, b', w', g1, g2, _⟩ <;> rw [g1, g2] <;> rfl
    rw [← e]
    exact h _ (I.tok _)
theorem dict_notIn (hu : A.units + 20 < cLine) (I : Inv X pins σ H s) {a : Addr} {es : List En} {kvs : List (P × P)} {k : P} {y : V} {u : Value} {Q : Value → Shared → Prop} (x : DctR X.prog X.w H a es) (pk : PVk X.prog X.w X.K L H kvs es) (hk : keyIn kvs k = true) (pv : PV X.prog X.w X.K L H k y) (r : RelV y u)
    (h : ∀ s', Inv X pins σ H s' → Q (.bool (!(dget kvs k).isSome)) s') : wpAny (model X.prog X.w) A (compareOp .NotIn u (.ref a)) Q E s := by
  obtain ⟨hd, _, g⟩ := dict_look I x pk hk pv r
  rcases g with ⟨kv, vs, key, _, hkey, hy, hz, rel, dd, nd, p, g⟩ | ⟨ys, nk, b, _, hnk, k1, rfl, is, dd, p, g⟩
  · subst hy
    refine wpAny_notIn_of (kV_is r) hd dd.mapOf ?_
    have e : (dget kvs k).isSome = (valueAt vs key).isSome := by
      rw [← (rel.val key).isSome_eq]
      rcases g with ⟨g1, g2⟩ | ⟨d', v, g1, g2, _⟩ <;> rw [g1, g2] <;> rfl
    rw [← e]
    exact h _ (I.tok _)
  · refine wpAny_notIn_heap (room1 hu) is hd dd ?_
    have e : (dget kvs k).isSome = (atKey ys nk).isSome := by
      rcases g with ⟨g1, g2⟩ | ⟨d', v, b', w', g1, g2, _⟩ <;> rw [g1, g2] <;> rfl
    rw [← e]
    exact h _ (I.tok _)
theorem dict_getOr (hu : A.units + 20 < cLine) (I : Inv X pins σ H s) {a : Addr} {es : List En} {kvs : List (P × P)} {k d : P} {y z : V} {u t : Value} {Q : Value → Shared → Prop} (x : DctR X.prog X.w H a es) (pk : PVk X.prog X.w X.K L H kvs es) (hk : keyIn kvs k = true) (pv : PV X.prog X.w X.K L H k y) (r : RelV y u)
    (pz : PV X.prog X.w X.K L H d z) (rz : RelV z t) (h : ∀ v w' s', Inv X pins σ H s' → RelV v w' → PV X.prog X.w X.K L H ((dget kvs k).getD d) v → Q w' s') : wpAny (model X.prog X.w) A (call (.builtin "dict.get") [.ref a, u, t]) Q E s := by
  obtain ⟨hd, _, g⟩ := dict_look I x pk hk pv r
  rcases g with ⟨kv, vs, key, _, hkey, hy, hz, rel, dd, nd, p, g⟩ | ⟨ys, nk, b, _, hnk, k1, rfl, is, dd, p, g⟩
  · subst hy
    refine call_meetsIn PySem.F.slot_dict_get dd.typeIs PySem.F.entry_dict_get (PySem.F.args_dict_get_3 _ _ _) (meets_dict_get_default (mixKind X.prog X.w) a (kV_is r) hd t) ⟨_, dd.mapOf, ?_⟩
    rcases g with ⟨g1, g2⟩ | ⟨d', v, g1, g2, g3⟩
    · rw [g1] at h
      have := (rel.val key).getD rz
      rw [g2] at this
      exact h z _ _ (I.tok _) this pz
    · rw [g1] at h
      have := (rel.val key).getD rz
      rw [g2] at this
      exact h v _ _ (I.tok _) this g3
  · refine call_meetsIn PySem.F.slot_dict_get dd.typeIs PySem.F.entry_dict_get (PySem.F.args_dict_get_3 _ _ _) (meetsH_dict_get_default (nestedKind X.prog X.w) a b hd t) ⟨room1 hu, nk, ys, is, dd, ?_⟩
    rcases g with ⟨g1, g2⟩ | ⟨d', v, b', w', g1, g2, g3, g4⟩
    · rw [g1] at h
      rw [g2]
      exact h z t _ (I.tok _) rz pz
    · rw [g1] at h
      rw [g2]
      exact h v w' _ (I.tok _) g3 g4
theorem find_any {α : Type} (p : α → Bool) : ∀ l : List α, (l.find? p).isSome = l.any p
  | [] => rfl
  | a :: l => by
    rw [List.find?_cons, List.any_cons]
    cases h : p a with
    | true => rfl
    | false => simp [find_any p l]
/-- a new dict's object -/
theorem text_new {W : Wd} {a : Addr} {es : List En} {kv : List (Key × V)} (nd : (kv.map (·.1)).Nodup) (p : Paired RK es kv) : DctW W.pr W.w (upd H a (.dK kv)) a es := .inl ⟨kv, upd_same, nd, p⟩
theorem nodup_putK {κ : Type} [DecidableEq κ] {kv : List (κ × V)} {k : κ} {v : V} (h : (kv.map (·.1)).Nodup) : ((putK kv k v).map (·.1)).Nodup := by
  unfold putK
  split
  · have : (kv.map fun z => if z.1 = k then (z.1, v) else z).map (·.1) = kv.map (·.1) := by
      rw [List.map_map]
      congr 1
      funext z
      simp only [Function.comp]
      split <;> rfl
    rw [this]; exact h
  · rename_i hn
    rw [List.map_append, List.nodup_append]
    refine ⟨h, by simp, fun x hx y hy => ?_⟩
    have hy : y = k := by simpa using hy
    rintro rfl
    subst hy
    apply hn
    obtain ⟨z, hz, rfl⟩ := List.mem_map.mp hx
    exact List.any_eq_true.mpr ⟨z, hz, by simp⟩
theorem vals_of_T {es : List En} {ys : List (NestedKey × Addr × Value)} (p : Paired RT es ys) : ∃ xs : List (NestedKey × Addr × V), Paired (fun (e : En) (q : NestedKey × Addr × V) => toNK e.d = some q.1 ∧ keyOk e.d = true ∧ e.k = .ref q.2.1 ∧ e.v = q.2.2) es xs ∧
    Paired (fun (p : NestedKey × Addr × V) (q : NestedKey × Addr × Value) => p.1 = q.1 ∧ p.2.1 = q.2.1 ∧ RelV p.2.2 q.2.2) xs ys ∧ xs.map (·.1) = ys.map (·.1) := by
  induction p with
  | nil => exact ⟨[], .nil, .nil, rfl⟩
  | @cons e q _ _ a b ih =>
    obtain ⟨xs, h1, h2, h3⟩ := ih
    exact ⟨(q.1, q.2.1, e.v) :: xs, .cons ⟨a.1, a.2.1, a.2.2.1, rfl⟩ h1, .cons ⟨rfl, rfl, a.2.2.2⟩ h2, by rw [List.map_cons, List.map_cons, h3]⟩
/-- the object behind a change, tuples as keys -/
theorem tup_new {a : Addr} {es : List En} {ys : List (NestedKey × Addr × Value)} {h' : Heap} (dd : h'.DictOfH (nestedKind X.prog X.w) a ys) (p : Paired RT es ys) (na : a ≠ sysModules) (hz : es.length ≤ sizeLine) :
    ∃ xs, ObjOk X.prog X.w (upd H a (.ext (TDct X.prog X.w a xs))) h' a (.ext (TDct X.prog X.w a xs)) ∧ DctW X.prog X.w (upd H a (.ext (TDct X.prog X.w a xs))) a es := by
  obtain ⟨xs, h1, h2, h3⟩ := vals_of_T p
  obtain ⟨o, des, ep, g1, g2, g3, g4, g5, g6⟩ := dd
  refine ⟨xs, ⟨⟨ys, h2, o, des, ep, g1, g2, g3, g4⟩, ⟨o, g1⟩, fun ha hb q k => ?_⟩, .inr ⟨na, hz, xs, upd_same, by rw [h3]; exact g6, h1⟩⟩
  obtain ⟨ys, q1, o, des, ep, q2, q3⟩ := q
  exact ⟨ys, q1, o, des, ep, k o q2, q3⟩
theorem paired_app {α β : Type} {R : α → β → Prop} : ∀ {l l' : List α} {m m' : List β}, Paired R l m → Paired R l' m' → Paired R (l ++ l') (m ++ m')
  | _, _, _, _, .nil, b => b
  | _, _, _, _, .cons h t, b => .cons h (paired_app t b)
/-- d[k] = v at a cell -/
theorem dict_put {ι : List Addr} {h : Hh} (hu : A.units + 20 < cLine) (I : Inv X pins σ H s) (r : RH (Wx X) ι h H) {i : Nat} {a : Addr} {kvs : List (P × P)} {k d : P} {y v : V} {u t : Value} {Q : Unit → Shared → Prop} (ea : ι[i]? = some a) (ec : h[i]? = some (.dct kvs)) (hk : keyIn kvs k = true) (hn : kvs.length < 16000000)
    (pv : PVx (Wx X) ι h H k y) (ry : RelV y u) (pd : PVx (Wx X) ι h H d v) (rv : RelV v t)
    (q : ∀ H' s', Inv X pins σ H' s' → Go ι h H ι (h.set i (.dct (dput kvs k d))) H' → RH (Wx X) ι (h.set i (.dct (dput kvs k d))) H' → Q () s') : wpAny (model X.prog X.w) A (setItem (.ref a) u t) Q E s := by
  obtain ⟨es, x, pk⟩ := r.cell i a _ ea ec
  have mu := DctW.mut x
  obtain ⟨hd, hz, g⟩ := dict_look I (DctW.r x) pk hk pv ry
  have hes : es.length < 16000000 := by rw [← pk.length]; exact hn
  have fin : ∀ {o : HO} {es' : List En} {s' : Shared}, Inv X pins σ (upd H a o) s' → DctW X.prog X.w (upd H a o) a es' → PVk X.prog X.w X.K (lv ι h) H (dput kvs k d) es' → Q () s' := fun {o es' s'} I' x' pk' => by
    have g : Go ι h H ι (h.set i (.dct (dput kvs k d))) (upd H a o) := Go.write ea ec (by simp)
    exact q _ s' I' g (r.write ea ec (by simp) ⟨es', x', PVk.go g.stay _ _ pk'⟩)
  rcases g with ⟨kv, vs, key, _, hkey, hy, hzk, rel, dd, nd, p, _⟩ | ⟨ys, nk, b, _, hnk, k1, rfl, is, dd, p, _⟩
  · subst hy
    have hzv : vs.length ≤ sizeLine := by rw [← rel.length]; exact hzk
    have hl : (putK kv key v).length ≤ sizeLine := by have := length_putK kv key v; have := p.length; rw [sizeLine_eq]; omega
    have pk' := dput_ok (e0 := ⟨k, kV key, v⟩) toKey (fun h1 h2 => eqv_key h1 h2) hkey rfl pv pd pk (es_key p)
    refine wpAny_setItem_pairs (hsz := hzv) (kV_is ry) dd fun h' dd' hs => ?_
    have he : ∃ q, h'.get? a = some q := let ⟨q, _, _, hq, _⟩ := dd'; ⟨q, hq⟩
    refine fin (d_write I mu hs he (dk_new hl hd (rel.put key rv) dd')) (text_new (W := Wx X) (nodup_putK nd) ?_) pk'
    obtain ⟨i1, i2⟩ := paired_repl (tk := toKey) (R := RK) (x := key) (v := v) (g := fun z => (z.1, v)) (fun _ _ q => q.1) (fun e z q _ => ⟨q.1, q.2.1, rfl⟩) p
    unfold putK
    rw [i1]
    split
    · exact i2
    · exact paired_app p (.cons ⟨hkey, rfl, rfl⟩ .nil)
  · obtain ⟨b', rfl⟩ := key_ref (by assumption) pv
    cases (show Value.ref b = Value.ref b' from ry)
    have hzy : ys.length ≤ sizeLine := by rw [← p.length]; exact hz
    have pk' := dput_ok (e0 := ⟨k, .ref b, v⟩) toNK (fun h1 h2 => eqv_nkd h1 h2) hnk rfl pv pd pk (es_nk p)
    refine wpAny_setItem_heap (hsz := hzy) (room1 hu) is dd fun h' dd' hs => ?_
    have he : ∃ q, h'.get? a = some q := let ⟨q, _, _, hq, _⟩ := dd'; ⟨q, hq⟩
    obtain ⟨i1, i2⟩ := paired_repl (tk := toNK) (R := RT) (x := nk) (v := v) (g := fun z => (z.1, z.2.1, t)) (fun _ _ q => q.1) (fun e z q _ => ⟨q.1, q.2.1, q.2.2.1, rv⟩) p
    have p' : Paired RT (if (es.any fun e => decide (toNK e.d = some nk)) = true then es.map (repl toNK nk v) else es ++ [⟨k, .ref b, v⟩]) (storedH ys nk b t) := by
      have e1 : (atKey ys nk).isSome = (ys.any fun z => decide (z.1 = nk)) := by
        unfold atKey
        rw [Option.isSome_map]
        exact find_any _ ys
      have e2 : (ys.map (putAt nk t)) = ys.map fun z => if z.1 = nk then (z.1, z.2.1, t) else z := rfl
      unfold storedH
      rw [e1, e2, i1]
      split
      · exact i2
      · refine paired_app p (.cons ?_ .nil)
        exact ⟨hnk, k1, rfl, rv⟩
    have hz' : (if (es.any fun e => decide (toNK e.d = some nk)) = true then es.map (repl toNK nk v) else es ++ [⟨k, .ref b, v⟩]).length ≤ sizeLine := by
      split
      · rw [List.length_map]; exact hz
      · rw [List.length_append, List.length_singleton, sizeLine_eq]; omega
    obtain ⟨xs, ok, x'⟩ := tup_new (X := X) (H := H) dd' p' (by simpa using hd) hz'
    exact fin (d_write I mu hs he ok) x' pk'
theorem dropK_nodup {κ β : Type} [DecidableEq κ] {kv : List (κ × β)} {k : κ} (h : (kv.map (·.1)).Nodup) : ((kv.filter fun z => decide (z.1 ≠ k)).map (·.1)).Nodup := List.Nodup.sublist (List.Sublist.map _ (List.filter_sublist)) h
/-- d.pop(k), k there -/
theorem dict_pop {ι : List Addr} {h : Hh} (hu : A.units + 20 < cLine) (I : Inv X pins σ H s) (r : RH (Wx X) ι h H) {i : Nat} {a : Addr} {kvs : List (P × P)} {k d : P} {y : V} {u : Value} {Q : Value → Shared → Prop} (ea : ι[i]? = some a) (ec : h[i]? = some (.dct kvs)) (hk : keyIn kvs k = true)
    (pv : PVx (Wx X) ι h H k y) (ry : RelV y u) (hg : dget kvs k = some d)
    (q : ∀ H' v w' s', Inv X pins σ H' s' → Go ι h H ι (h.set i (.dct (ddel kvs k))) H' → RH (Wx X) ι (h.set i (.dct (ddel kvs k))) H' → RelV v w' → PVx (Wx X) ι (h.set i (.dct (ddel kvs k))) H' d v → Q w' s') : wpAny (model X.prog X.w) A (call (.builtin "dict.pop") [.ref a, u]) Q E s := by
  obtain ⟨es, x, pk⟩ := r.cell i a _ ea ec
  have mu := DctW.mut x
  obtain ⟨hd, hz, g⟩ := dict_look I (DctW.r x) pk hk pv ry
  have fin : ∀ {o : HO} {es' : List En} {s' : Shared} {v : V} {w' : Value}, Inv X pins σ (upd H a o) s' → DctW X.prog X.w (upd H a o) a es' → PVk X.prog X.w X.K (lv ι h) H (ddel kvs k) es' → RelV v w' → PV X.prog X.w X.K (lv ι h) H d v → Q w' s' := fun {o es' s' v w'} I' x' pk' rv pd => by
    have g : Go ι h H ι (h.set i (.dct (ddel kvs k))) (upd H a o) := Go.write ea ec (by simp)
    exact q _ v w' s' I' g (r.write ea ec (by simp) ⟨es', x', PVk.go g.stay _ _ pk'⟩) rv (PV.go g.stay d v pd)
  rcases g with ⟨kv, vs, key, _, hkey, hy, hzk, rel, dd, nd, p, ⟨g1, _⟩ | ⟨d', v, g1, g2, g3⟩⟩ | ⟨ys, nk, b, _, hnk, k1, rfl, is, dd, p, ⟨g1, _⟩ | ⟨d', v, b', w', g1, g2, g3, g4⟩⟩
  · rw [hg] at g1; cases g1
  · rw [hg] at g1; cases g1
    subst hy
    obtain ⟨w', hw, rw'⟩ := RelO.some_of (v := v) (o := valueAt vs key) (by rw [← g2]; exact rel.val key)
    have hp : (keyPart u).isSome = true := by
      cases key with
      | inl i => obtain ⟨t, q⟩ := (show ∃ t, u = Value.int i t from ry); subst q; rfl
      | inr x => obtain ⟨t, q⟩ := (show ∃ t, u = Value.str x t from ry); subst q; rfl
    obtain ⟨es', d1, d2⟩ := ddel_ok (β := V) toKey (fun h1 h2 => eqv_key h1 h2) hkey (R := RK) (fun _ _ q => q.1) pk p
    refine call_meetsIn PySem.F.slot_dict_pop dd.typeIs PySem.F.entry_dict_pop (PySem.F.args_dict_pop_2 _ _) (meets_dict_pop_there (mixKind X.prog X.w) a (kV_is ry) [] (.inl rfl) hp)
      ⟨vs, w', dd, by rw [← rel.length]; exact hzk, hw, fun h' dd' hs => ?_⟩
    have he : ∃ q, h'.get? a = some q := let ⟨q, _, _, hq, _⟩ := dd'; ⟨q, hq⟩
    exact fin (d_write I mu hs he (dk_new (Nat.le_trans (dropK_le kv key) hzk) hd (rel.drop key) dd')) (text_new (W := Wx X) (dropK_nodup nd) d2) d1 rw' g3
  · rw [hg] at g1; cases g1
  · rw [hg] at g1; cases g1
    obtain ⟨es', d1, d2⟩ := ddel_ok (β := Addr × Value) toNK (fun h1 h2 => eqv_nkd h1 h2) hnk (R := RT) (fun _ _ q => q.1) pk p
    have hzy : ys.length ≤ sizeLine := by rw [← p.length]; exact hz
    refine call_pop_heap (more := []) (hsz := hzy) (.inl rfl) (PySem.F.args_dict_pop_2 _ _) (room1 hu) is hd dd g2 fun h' dd' hs => ?_
    have he : ∃ q, h'.get? a = some q := let ⟨q, _, _, hq, _⟩ := dd'; ⟨q, hq⟩
    have hz' : es'.length ≤ sizeLine := by
      rw [d2.length]
      exact Nat.le_trans (List.length_filter_le _ _) hzy
    obtain ⟨xs, ok, x'⟩ := tup_new (X := X) (H := H) dd' d2 (by simpa using hd) hz'
    exact fin (d_write I mu hs he ok) x' d1 g3 g4
end
end Mi
/-! MiS: comparisons, subscripts, slices, builtins over data. -/
namespace Mi
open PySem L2 PySem.Spec PyProof.Rows PySem.W
section
variable {prog : Program} {w : World} {A : Around} {E : Value → Shared → Prop} {s : Shared}
theorem same_len {nm : String} {a b : Addr} {oa ob : Obj} {es es' : Array DictEntry} {ep ep' : Nat} {Q : Bool → Shared → Prop} (ha : (a == sysModules) = false) (hb : (b == sysModules) = false)
    (hoa : s.heap.get? a = some oa) (hda : oa.data = .dict es ep) (hob : s.heap.get? b = some ob) (hdb : ob.data = .dict es' ep') (h0 : es.size = 0 ∨ es'.size = 0) (h : Q (es.size == es'.size) s) :
    wpAny (model prog w) A (Builtin.Dict.samePairs nm a b) Q E s := by
  unfold Builtin.Dict.samePairs Builtin.Dict.showsAll
  rw [if_neg (show ¬ (a == sysModules) = true by rw [ha]; exact Bool.false_ne_true), if_neg (show ¬ (b == sysModules) = true by rw [hb]; exact Bool.false_ne_true)]
  refine wpAny_bind (wpAny_pure (wpAny_bind (wpAny_pure ?_)))
  refine wpAny_bind (wpAny_dictEntries hoa hda ?_)
  dsimp only
  refine wpAny_bind (wpAny_dictEntries hob hdb ?_)
  by_cases hsz : es.size = es'.size
  case neg =>
    rw [if_pos (by simpa using hsz)]
    have hbf : (es.size == es'.size) = false := by simpa using hsz
    rw [hbf] at h
    exact wpAny_bind (wpAny_rule (wpAny_pure h))
  case pos =>
    have h' : Q true s := by simpa [hsz] using h
    rw [if_neg (by rw [hsz]; simp)]
    refine wpAny_bind (wpAny_dictEpoch hoa hda ?_)
    refine wpAny_bind ?_
    have hz : es.size = 0 := by omega
    rw [Std.Legacy.Range.forIn_eq_forIn_range']
    simp only [Std.Legacy.Range.size, Nat.sub_zero, Nat.add_sub_cancel, Nat.div_one]
    rw [hz]
    exact wpAny_pure (wpAny_pure h')
theorem eq_len {a b : Addr} {oa ob : Obj} {es es' : Array DictEntry} {ep ep' : Nat} {Q : Value → Shared → Prop} (ha : (a == sysModules) = false) (hb : (b == sysModules) = false) (ta : s.TypeIs (.ref a) "dict") (tb : s.TypeIs (.ref b) "dict")
    (hoa : s.heap.get? a = some oa) (hda : oa.data = .dict es ep) (hob : s.heap.get? b = some ob) (hdb : ob.data = .dict es' ep') (h0 : es.size = 0 ∨ es'.size = 0) (hu : A.units < cLine) (h : Q (.bool (es.size == es'.size)) s) :
    wpAny (model prog w) A (compareOp .Eq (.ref a) (.ref b)) Q E s := by
  refine wpAny_richCompare_same_room (op := .Eq) ta tb PySem.F.slot_dict_eq (wpAny_call_entry PySem.F.slot_dict_eq ta PySem.F.entry_dict_eq ?_ (PySem.F.args_dict_eq_2 _ _)) hu
  show wpAny _ _ (Builtin.Dict.dictSlotArgs "__eq__" ⟨[.ref a, .ref b], []⟩ >>= _) _ _ s
  refine wpAny_bind ?_
  unfold Builtin.Dict.dictSlotArgs
  refine wpAny_bind (wpAny_notOrdered_dict ta ?_)
  show wpAny _ _ (pure (Value.ref a, Value.ref b)) _ _ s
  refine wpAny_pure ?_
  refine wpAny_bind (wpAny_isInstance (T := "dict") tb PySem.F.sub_dict_dict ?_)
  simp only [Bool.not_true, Bool.false_eq_true, if_false]
  refine wpAny_bind (wpAny_pure (wpAny_bind (wpAny_pure ?_)))
  refine wpAny_bind (same_len ha hb hoa hda hob hdb h0 ?_)
  refine wpAny_pure ⟨_, rfl, ?_, ?_⟩
  · exact fun x => nomatch x
  · simpa using h
theorem ne_len {a b : Addr} {oa ob : Obj} {es es' : Array DictEntry} {ep ep' : Nat} {Q : Value → Shared → Prop} (ha : (a == sysModules) = false) (hb : (b == sysModules) = false) (ta : s.TypeIs (.ref a) "dict") (tb : s.TypeIs (.ref b) "dict")
    (hoa : s.heap.get? a = some oa) (hda : oa.data = .dict es ep) (hob : s.heap.get? b = some ob) (hdb : ob.data = .dict es' ep') (h0 : es.size = 0 ∨ es'.size = 0) (hu : A.units < cLine) (h : Q (.bool (!(es.size == es'.size))) s) :
    wpAny (model prog w) A (compareOp .NotEq (.ref a) (.ref b)) Q E s := by
  refine wpAny_richCompare_same_room (op := .NotEq) ta tb PySem.F.slot_dict_ne (wpAny_call_entry PySem.F.slot_dict_ne ta PySem.F.entry_dict_ne ?_ (PySem.F.args_dict_ne_2 _ _)) hu
  show wpAny _ _ (Builtin.Dict.dictSlotArgs "__ne__" ⟨[.ref a, .ref b], []⟩ >>= _) _ _ s
  refine wpAny_bind ?_
  unfold Builtin.Dict.dictSlotArgs
  refine wpAny_bind (wpAny_notOrdered_dict ta ?_)
  show wpAny _ _ (pure (Value.ref a, Value.ref b)) _ _ s
  refine wpAny_pure ?_
  refine wpAny_bind (wpAny_isInstance (T := "dict") tb PySem.F.sub_dict_dict ?_)
  simp only [Bool.not_true, Bool.false_eq_true, if_false]
  refine wpAny_bind (wpAny_pure (wpAny_bind (wpAny_pure ?_)))
  refine wpAny_bind (same_len ha hb hoa hda hob hdb h0 ?_)
  refine wpAny_pure ⟨_, rfl, ?_, ?_⟩
  · exact fun x => nomatch x
  · simpa using h
end
section
variable {X : Cx} {pins : List (Addr × Obj)} {s : Shared} {σ : L2.St} {H : Hp} {L : Addr → Prop} {EW : EWt}
/-- the object of a dict -/
theorem DctR.obj (I : Inv X pins σ H s) {a : Addr} {es : List En} (x : DctR X.prog X.w H a es) : (a == sysModules) = false ∧ es.length ≤ sizeLine ∧ ∃ o des ep, s.heap.get? a = some o ∧ o.ExactDict ∧ o.data = .dict des ep ∧ des.size = es.length ∧ s.TypeIs (.ref a) "dict" := by
  rcases x with ⟨kv, e, nd, p⟩ | ⟨na, z, xs, e, nd, p⟩
  · obtain ⟨hz, hd, vs, rel, dd⟩ := dk_rd I.hok e
    have ti := dd.typeIs
    obtain ⟨o, des, ep, g1, g2, g3, g4, g5, g6⟩ := dd
    refine ⟨hd, by rw [p.length]; exact hz, o, des, ep, g1, g2, g3, ?_, ti⟩
    have h1 := g5.length
    have h2 := rel.length
    have h3 := p.length
    have h4 : des.toList.length = des.size := Array.length_toList
    omega
  · obtain ⟨ph, ⟨o', ho⟩, _⟩ := rd_of I.hok e
    obtain ⟨ys, py, o, des, ep, g1, g2, g3, g4⟩ := ph
    refine ⟨by simpa using na, z, o, des, ep, g1, g2, g3, ?_, ⟨o, g1, g2.1⟩⟩
    have h1 := py.length
    have h3 := p.length
    have h4 : des.toList.length = des.size := Array.length_toList
    rw [g4, List.length_map] at h4
    omega
theorem emp_iff {kvs : List (P × P)} {es : List En} (pk : PVk X.prog X.w X.K L H kvs es) : kvs.isEmpty = (es.length == 0) := by
  have := pk.length
  cases kvs <;> cases es <;> simp at this ⊢
theorem op_eqM (hu : X.A.units + 70 < cLine) : OpR X (compareOp .Eq) (RR (Wx X) EW (F2b eqD)) := by
  refine oprB_of fun ι h H p q b x y Q pins s σ v u e r tx ty w I rx ry => ?_
  unfold eqD at e
  split at e
  · rename_i xs ys
    split at e
    · rename_i hm
      cases e
      obtain ⟨a, es, rfl, dx, px⟩ := (show ∃ a es, x = .ref a ∧ _ ∧ _ from tx)
      obtain ⟨b, fs, rfl, dy, py⟩ := (show ∃ a es, y = .ref a ∧ _ ∧ _ from ty)
      cases rx; cases ry
      obtain ⟨ha, za, oa, da, ea, g1, g2, g3, g4, g5⟩ := DctR.obj I dx
      obtain ⟨hb, zb, ob, db, eb, k1, k2, k3, k4, k5⟩ := DctR.obj I dy
      rw [emp_iff px, emp_iff py] at hm w
      simp only [Bool.or_eq_true, beq_iff_eq] at hm
      refine eq_len ha hb g5 k5 g1 g3 k1 k3 (by omega) (by omega) ⟨.bl _, H, I, rfl, ?_⟩
      have e1 : (da.size == db.size) = ((es.length == 0) && (fs.length == 0)) := by
        rw [Bool.eq_iff_iff]
        simp only [beq_iff_eq, Bool.and_eq_true]
        omega
      rw [e1]
      exact w
    · cases e
  · cases e
    cases (show x = _ from tx)
    cases (show y = _ from ty)
    obtain ⟨t1, rfl⟩ := rx
    obtain ⟨t2, rfl⟩ := ry
    refine PyProof.Rows.eq_str ?_
    exact ⟨.bl _, H, I, rfl, w⟩
  · split at e
    · rename_i hm
      cases e
      rw [Bool.and_eq_true] at hm
      obtain ⟨as, ra⟩ := tx.reads hm.1 I rx
      obtain ⟨bs, rb⟩ := ty.reads hm.2 I ry
      exact SeqAt.compareEq_shaped ra rb hm.1 hm.2 (by omega) ⟨.bl _, H, I, rfl, w⟩
    · cases e
theorem op_neM (hu : X.A.units + 70 < cLine) : OpR X (compareOp .NotEq) (RR (Wx X) EW (F2b fun a b => (eqD a b).map (!·))) := by
  refine oprB_of fun ι h H p q b x y Q pins s σ v u e r tx ty w I rx ry => ?_
  obtain ⟨c, e0, ec⟩ := Option.map_eq_some_iff.mp e
  replace e := e0
  clear e0
  subst ec
  unfold eqD at e
  split at e
  · rename_i xs ys
    split at e
    · rename_i hm
      obtain rfl := Option.some.inj e
      obtain ⟨a, es, rfl, dx, px⟩ := (show ∃ a es, x = .ref a ∧ _ ∧ _ from tx)
      obtain ⟨b, fs, rfl, dy, py⟩ := (show ∃ a es, y = .ref a ∧ _ ∧ _ from ty)
      cases rx; cases ry
      obtain ⟨ha, za, oa, da, ea, g1, g2, g3, g4, g5⟩ := DctR.obj I dx
      obtain ⟨hb, zb, ob, db, eb, k1, k2, k3, k4, k5⟩ := DctR.obj I dy
      rw [emp_iff px, emp_iff py] at hm w
      simp only [Bool.or_eq_true, beq_iff_eq] at hm
      refine ne_len ha hb g5 k5 g1 g3 k1 k3 (by omega) (by omega) ⟨.bl _, H, I, rfl, ?_⟩
      have e1 : (da.size == db.size) = ((es.length == 0) && (fs.length == 0)) := by
        rw [Bool.eq_iff_iff]
        simp only [beq_iff_eq, Bool.and_eq_true]
        omega
      rw [e1]
      exact w
    · cases e
  · obtain rfl := Option.some.inj e
    cases (show x = _ from tx)
    cases (show y = _ from ty)
    obtain ⟨t1, rfl⟩ := rx
    obtain ⟨t2, rfl⟩ := ry
    refine PyProof.Rows.ne_str ?_
    exact ⟨.bl _, H, I, rfl, w⟩
  · split at e
    · rename_i hm
      obtain rfl := Option.some.inj e
      rw [Bool.and_eq_true] at hm
      obtain ⟨as, ra⟩ := tx.reads hm.1 I rx
      obtain ⟨bs, rb⟩ := ty.reads hm.2 I ry
      exact SeqAt.compareNe_shaped ra rb hm.1 hm.2 (by omega) ⟨.bl _, H, I, rfl, w⟩
    · cases e
theorem op_isM : OpR X (compareOp .Is) (RR (Wx X) EW (F2b (cmpop .Is))) := by
  refine oprB_of fun ι h H p q b x y Q pins s σ v u e r tx ty w I rx ry => ?_
  cases q with
  | none =>
    simp only [cmpop, Option.some.injEq] at e
    subst e
    refine op_isN pins s σ H x y v u Q I rx ry ⟨ty.none, ?_⟩
    have : isNone p = decide (x = .non) := by
      cases p with
      | none => rw [tx.none]; rfl
      | bool k => rw [tx.bool]; rfl
      | int k => rw [tx.int]; rfl
      | str k => rw [tx.str]; rfl
      | list k => obtain ⟨a, vs, rfl, _⟩ := tx.list; rfl
      | tuple k => obtain ⟨a, vs, rfl, _⟩ := tx.tuple; rfl
      | dict k => obtain ⟨a, es, rfl, _⟩ := (show ∃ a es, x = .ref a ∧ _ ∧ _ from tx); rfl
    rw [← this]; exact w
  | _ => simp [cmpop] at e
theorem op_isntM : OpR X (compareOp .IsNot) (RR (Wx X) EW (F2b (cmpop .IsNot))) := by
  refine oprB_of fun ι h H p q b x y Q pins s σ v u e r tx ty w I rx ry => ?_
  cases q with
  | none =>
    simp only [cmpop, Option.some.injEq] at e
    subst e
    refine op_notN pins s σ H x y v u Q I rx ry ⟨ty.none, ?_⟩
    have : isNone p = decide (x = .non) := by
      cases p with
      | none => rw [tx.none]; rfl
      | bool k => rw [tx.bool]; rfl
      | int k => rw [tx.int]; rfl
      | str k => rw [tx.str]; rfl
      | list k => obtain ⟨a, vs, rfl, _⟩ := tx.list; rfl
      | tuple k => obtain ⟨a, vs, rfl, _⟩ := tx.tuple; rfl
      | dict k => obtain ⟨a, es, rfl, _⟩ := (show ∃ a es, x = .ref a ∧ _ ∧ _ from tx); rfl
    rw [← this]; exact w
  | _ => simp [cmpop] at e
theorem op_leM : OpR X (compareOp .LtE) (RR (Wx X) EW (F2b (cmpop .LtE))) := by
  refine oprB_of fun ι h H p q b x y Q pins s σ v u e r tx ty w I rx ry => ?_
  cases p <;> cases q <;> simp only [cmpop, Option.some.injEq, reduceCtorEq] at e
  subst e
  cases tx.int; cases ty.int
  exact op_le pins s σ H _ _ v u Q I rx ry ⟨_, _, rfl, rfl, w⟩
theorem op_gtM : OpR X (compareOp .Gt) (RR (Wx X) EW (F2b (cmpop .Gt))) := by
  refine oprB_of fun ι h H p q b x y Q pins s σ v u e r tx ty w I rx ry => ?_
  cases p <;> cases q <;> simp only [cmpop, Option.some.injEq, reduceCtorEq] at e
  subst e
  cases tx.int; cases ty.int
  exact op_gt pins s σ H _ _ v u Q I rx ry ⟨_, _, rfl, rfl, w⟩
theorem op_geM : OpR X (compareOp .GtE) (RR (Wx X) EW (F2b (cmpop .GtE))) := by
  refine oprB_of fun ι h H p q b x y Q pins s σ v u e r tx ty w I rx ry => ?_
  cases p <;> cases q <;> simp only [cmpop, Option.some.injEq, reduceCtorEq] at e
  subst e
  cases tx.int; cases ty.int
  exact op_ge pins s σ H _ _ v u Q I rx ry ⟨_, _, rfl, rfl, w⟩
theorem str_one {x : Str} {c : Nat} (h : x.cps.toList = [c]) : x = ⟨#[c]⟩ := by
  cases x with
  | mk cps =>
    simp only [Str.mk.injEq]
    exact Array.toList_inj.mp (by simpa using h)
theorem key_pv {ι : List Addr} {h : Hh} {k : P} {x : V} (hk : keyOk k = true) (t : TV (Wx X) ι h H k x) : PVx (Wx X) ι h H k x := by
  cases k <;> simp [keyOk] at hk <;> exact t
theorem op_inM (hu : X.A.units + 70 < cLine) : OpR X (compareOp .In) (RR (Wx X) EW (F2b inD)) := by
  refine oprB_of fun ι h H p q b x y Q pins s σ v u e r tx ty w I rx ry => ?_
  cases q with
  | str z =>
    cases p with
    | str x' =>
      simp only [inD] at e
      split at e
      · rename_i c hc
        cases e
        cases tx.str; cases ty.str
        have := str_one hc
        subst this
        exact op_in_sign pins s σ H _ _ v u Q I rx ry ⟨c, z, rfl, rfl, w⟩
      · cases e
    | _ => simp [inD] at e
  | list xs =>
    have e' : (if shp p && shp (.list xs) then some (xs.any fun z => PyData.eqv z p) else none) = some b := by
      cases p <;> exact e
    split at e'
    · rename_i hm
      cases e'
      rw [Bool.and_eq_true] at hm
      exact op_inD (by omega) pins s σ H x y v u Q I rx ry ⟨p, xs, tx.dp (shp_lay hm.1), ty.dp (shp_lay hm.2), hm.1, hm.2, w⟩
    · cases e'
  | dict kvs =>
    have e' : (if keyIn kvs p then some (dget kvs p).isSome else none) = some b := by
      cases p <;> exact e
    split at e'
    · rename_i hm
      cases e'
      obtain ⟨a, es, rfl, dx, px⟩ := (show ∃ a es, y = .ref a ∧ _ ∧ _ from ty)
      cases ry
      exact dict_in (by omega) I dx px hm (key_pv (keyOk_split hm).1 tx) rx fun s' I' => ⟨.bl _, H, I', rfl, w⟩
    · cases e'
  | _ => cases p <;> simp [inD] at e
theorem op_notInM (hu : X.A.units + 70 < cLine) : OpR X (compareOp .NotIn) (RR (Wx X) EW (F2b fun a b => (inD a b).map (!·))) := by
  refine oprB_of fun ι h H p q b x y Q pins s σ v u e r tx ty w I rx ry => ?_
  obtain ⟨c, e0, ec⟩ := Option.map_eq_some_iff.mp e
  replace e := e0
  clear e0
  subst ec
  cases q with
  | str z =>
    cases p with
    | str x' =>
      simp only [inD] at e
      split at e
      · rename_i c' hc
        obtain rfl := Option.some.inj e
        cases tx.str; cases ty.str
        have := str_one hc
        subst this
        exact op_notIn_sign pins s σ H _ _ v u Q I rx ry ⟨c', z, rfl, rfl, w⟩
      · cases e
    | _ => simp [inD] at e
  | list xs =>
    have e' : (if shp p && shp (.list xs) then some (xs.any fun z => PyData.eqv z p) else none) = some c := by
      cases p <;> exact e
    split at e'
    · rename_i hm
      obtain rfl := Option.some.inj e'
      rw [Bool.and_eq_true] at hm
      exact op_notInD (by omega) pins s σ H x y v u Q I rx ry ⟨p, xs, tx.dp (shp_lay hm.1), ty.dp (shp_lay hm.2), hm.1, hm.2, w⟩
    · cases e'
  | dict kvs =>
    have e' : (if keyIn kvs p then some (dget kvs p).isSome else none) = some c := by
      cases p <;> exact e
    split at e'
    · rename_i hm
      obtain rfl := Option.some.inj e'
      obtain ⟨a, es, rfl, dx, px⟩ := (show ∃ a es, y = .ref a ∧ _ ∧ _ from ty)
      cases ry
      exact dict_notIn (by omega) I dx px hm (key_pv (keyOk_split hm).1 tx) rx fun s' I' => ⟨.bl _, H, I', rfl, w⟩
    · cases e'
  | _ => cases p <;> simp [inD] at e
theorem op_cmpM (hu : X.A.units + 70 < cLine) (o : CmpOp) : OpR X (compareOp o) (RR (Wx X) EW (F2b (cmpop o))) := by
  cases o with
  | Eq => exact op_eqM hu
  | NotEq => exact op_neM hu
  | Lt => exact op_lt (by omega)
  | LtE => exact op_leM
  | Gt => exact op_gtM
  | GtE => exact op_geM
  | Is => exact op_isM
  | IsNot => exact op_isntM
  | In => exact op_inM hu
  | NotIn => exact op_notInM hu
end
end Mi
/-! MiT: subscripts, slices, isinstance. -/
namespace Mi
open PySem L2 PySem.Spec PyProof.Rows PySem.W
section
variable {X : Cx} {EW : EWt} {C : Calls}
theorem atI_pv {W : Wd} {ι : List Addr} {h : Hh} {H : Hp} {xs : List P} {vs : List V} {i : Int} {g : P} (p : PVsx W ι h H xs vs) (e : atI xs i = some g) : ∃ v, atI vs i = some v ∧ PVx W ι h H g v := by
  unfold atI at e ⊢
  rw [← PVs.length p]
  cases hj : ixN xs.length i with
  | none => rw [hj] at e; cases e
  | some j =>
    rw [hj] at e
    exact PVs.get p e
theorem ix_M (hu : X.A.units + 20 < cLine) : IxR X (RR (Wx X) EW (F2 idxD)) := by
  intro value slice pins s σ H x y v u Q I rx ry ⟨ι, h, d, e, r, dv, ev, q⟩ hs
  unfold F2 at q
  cases e1 : peek d h with
  | none => rw [e1] at q; exact q.elim
  | some p =>
    cases e2 : peek e h with
    | none => simp only [e1, e2] at q; exact q.elim
    | some p2 =>
      simp only [e1, e2] at q
      cases e3 : idxD p p2 with
      | none => rw [e3] at q; exact q.elim
      | some g =>
        rw [e3] at q
        replace q : wish (Wx X) EW ι h H (.ok (.p g) h) Q := q
        have tx := peek_tv r dv e1
        have ty := peek_tv r ev e2
        unfold idxD at e3
        split at e3
        · obtain ⟨a, vs, rfl, ta, pa⟩ := tx.list
          cases ty.int
          obtain ⟨z, ez, pz⟩ := atI_pv pa e3
          exact ix_list value slice pins s σ H _ _ v u Q I rx ry ⟨a, vs, _, z, rfl, rfl, ta, ez, q.ok r pz⟩ hs
        · obtain ⟨a, vs, rfl, ta, pa⟩ := tx.tuple
          cases ty.int
          obtain ⟨z, ez, pz⟩ := atI_pv pa e3
          exact ix_tup value slice pins s σ H _ _ v u Q I rx ry ⟨a, vs, _, z, rfl, rfl, ta.sq, ez, q.ok r pz⟩ hs
        · split at e3
          · rename_i hm
            cases tx.str
            cases ty.int
            obtain ⟨c, ec, rfl⟩ := Option.map_eq_some_iff.mp e3
            exact ix_str value slice pins s σ H _ _ v u Q I rx ry ⟨_, _, c, rfl, rfl, sz hm, ec, q.ok r (DVs _)⟩ hs
          · cases e3
        · split at e3
          · rename_i hm
            obtain ⟨a, es, rfl, dx, px⟩ := (show ∃ a es, x = .ref a ∧ _ ∧ _ from tx)
            cases rx
            obtain ⟨_, _, _, _, _, _, _, _, _, ti⟩ := DctR.obj I dx
            refine tail_any ti PySem.F.slot_dict_getitem.lookup ?_ hs
            exact dict_get hu I dx px hm (key_pv (keyOk_split hm).1 ty) ry e3 fun v w' s' I' rv pv => ⟨v, H, I', rv, q.ok r pv⟩
          · cases e3
        · cases e3
variable {a b : Expr} {ma mb : ME} {pos p2 : Pos}
theorem pe_midx (hu : X.A.units + 20 < cLine) (ha : PEm X EW C a ma) (hb : PEm X EW C b mb) (hs : PlainIx b) : PEm X EW C (.Subscript a b pos) (.idx ma mb) :=
  (pe_ix (ix_M hu) ha hb hs).via fun σ H Q x => lift2 (F := F2 idxD) (fun _ _ => rfl) x
/-! slices -/
abbrev tO (W : Wd) (EW : EWt) (C : Calls) (m : MO) : TO := fun σ H Q =>
  ∃ ι h σA, RH W ι h H ∧ SlR W ι h H σA σ ∧ Post W EW ι h H (evo C m σA h) fun o _ _ H' => Q o H'
theorem po_mnone : PO X none (tO (Wx X) EW C .none) := ⟨fun pins s σ H Q I ⟨ι, h, σA, r, sl, p⟩ => po_none.run pins s σ H Q I (p ι H .refl r)⟩
theorem po_msome (ha : PEm X EW C a ma) : PO X (some a) (tO (Wx X) EW C (.some ma)) := by
  refine ⟨fun pins s σ H Q I ⟨ι, h, σA, r, sl, p⟩ => (po_some ha).run pins s σ H Q I ?_⟩
  unfold evo at p
  refine ⟨ι, h, σA, r, sl, p.bind.imp fun d ι1 h1 H1 g r1 q v dv => ?_⟩
  have q := q.2.2
  cases d with
  | r i => exact q.elim
  | p d =>
    cases d with
    | int i => exact ⟨i, dv, q ι1 H1 .refl r1⟩
    | _ => exact q.elim
theorem cutP_pv {W : Wd} {ι : List Addr} {h : Hh} {H : Hp} {xs : List P} {vs : List V} (p : PVsx W ι h H xs vs) (lo hi : Option Int) : PVsx W ι h H (cutP xs lo hi) (cutV vs lo hi) := by
  unfold cutP cutV
  rw [← PVs.length p]
  exact (PVs.take _ (PVs.drop _ p))
def rSlM (X : Cx) (EW : EWt) : V → Option Int → Option Int → Hp → VK → Prop := fun x lo hi H Q =>
  ∃ ι h d, RH (Wx X) ι h H ∧ DV (Wx X) ι h H d x ∧ wish (Wx X) EW ι h H (match peek d h with
    | some p => okP (slcD p lo hi) h
    | none => .bad) Q
theorem sl_M : L2.SlR X (rSlM X EW) := by
  intro pins s σ H x v vl vu lo hi sl Q I rx hs pl pu ⟨ι, h, d, r, dv, q⟩
  cases e1 : peek d h with
  | none => rw [e1] at q; exact q.elim
  | some p =>
    simp only [e1] at q
    cases e3 : slcD p lo hi with
    | none => rw [e3] at q; exact q.elim
    | some g =>
      rw [e3] at q
      replace q : wish (Wx X) EW ι h H (.ok (.p g) h) Q := q
      have tx := peek_tv r dv e1
      unfold slcD at e3
      split at e3
      · cases e3
        obtain ⟨a, vs, rfl, ta, pa⟩ := tx.list
        exact sl_list pins s σ H _ v vl vu lo hi sl Q I rx hs pl pu ⟨a, vs, rfl, ta, fun p n => wish.list q r (cutP_pv pa lo hi) n⟩
      · cases e3
        obtain ⟨a, vs, rfl, ta, pa⟩ := tx.tuple
        refine sl_tupA pins s σ H _ v vl vu lo hi sl Q I rx hs pl pu ⟨a, vs, rfl, ta.sq, fun hw => ?_, fun hw p n => wish.tuple q r (cutP_pv pa lo hi) n⟩
        refine q.ok r (PVx.tuple ta ?_)
        have := cutP_pv pa lo hi
        unfold cutV at this
        rw [hw.1, hw.2] at this
        simpa using this
      · split at e3
        · rename_i hm
          cases e3
          cases tx.str
          exact sl_str pins s σ H _ v vl vu lo hi sl Q I rx hs pl pu ⟨_, rfl, sz hm, q.ok r (DVs _)⟩
        · cases e3
      · cases e3
theorem pe_mslc {lo hi : Option Expr} {ml mh : MO} (ha : PEm X EW C a ma) (hl : PO X lo (tO (Wx X) EW C ml)) (hh : PO X hi (tO (Wx X) EW C mh)) : PEm X EW C (.Subscript a (.Slice lo hi none p2) pos) (.slc ma ml mh) := by
  refine (pe_slice (sl_M (EW := EW)) ha hl hh).via fun σ H Q ⟨ι, h, σA, r, sl, p⟩ => ?_
  unfold ev at p
  exact ⟨ι, h, σA, r, sl, p.bind.imp fun d ι1 h1 H1 g r1 q v dv => ⟨ι1, h1, σA, r1, sl.go g, q.2.2.bind.imp fun l ι2 h2 H2 g2 r2 q2 => ⟨ι2, h2, σA, r2, (sl.go g).go g2, q2.2.2.bind.imp fun u ι3 h3 H3 g3 r3 q3 => ⟨ι3, h3, d, r3, (dv.go g2).go g3, q3.2.2⟩⟩⟩⟩
/-! isinstance -/
def Ty.nm : Ty → String
  | .int => "int"
  | .bool => "bool"
  | .str => "str"
  | .tuple => "tuple"
  | .list => "list"
  | .dict => "dict"
def tyN : P → String
  | .none => "NoneType"
  | .bool _ => "bool"
  | .int _ => "int"
  | .str _ => "str"
  | .tuple _ => "tuple"
  | .list _ => "list"
  | .dict _ => "dict"
theorem isTy_kit (t : Ty) (p : P) : kitB (tyN p) t.nm = some (isTy t p) := by
  cases t <;> cases p <;> (simp only [tyN, Ty.nm, isTy]; decide +kernel)
theorem LstF.kit {ι : List Addr} {h : Hh} {pins : List (Addr × Obj)} {s : Shared} {σ : L2.St} {H : Hp} (I : Inv X pins σ H s) {a : Addr} {xs : List V} (q : SqL X.K H a xs) : TyX X.K H (.ref a) (.type "list") := by
  rcases q with (q | ⟨o, q⟩) | ⟨o, its, n, e, c, _⟩
  · exact .base (.lst q)
  · exact .base (.frz q)
  · exact .kList e c
theorem TupF.kit {ι : List Addr} {h : Hh} {pins : List (Addr × Obj)} {s : Shared} {σ : L2.St} {H : Hp} (I : Inv X pins σ H s) {a : Addr} {xs : List V} (q : SqT X.K H a xs) : TyX X.K H (.ref a) (.type "tuple") := by
  rcases q with (q | ⟨o, q⟩) | ⟨o, its, n, e, c, _⟩
  · exact .base (.tup q)
  · exact .fTuple q
  · exact .kTuple e c
theorem TV.kit {ι : List Addr} {h : Hh} {pins : List (Addr × Obj)} {s : Shared} {σ : L2.St} {H : Hp} (I : Inv X pins σ H s) {p : P} {x : V} {u : Value} (t : TV (Wx X) ι h H p x) (rx : RelV x u) :
    ∃ Pr : Heap → Prop, PySem.W.KitX X.K u (.type (tyN p)) Pr ∧ Pr s.heap ∧ u ≠ .builtin "__main__.__loader__#opaque" := by
  cases p with
  | none => cases t.none; exact kit_of I rx (.base .non)
  | bool k => cases t.bool; exact kit_of I rx (.base (.bl _))
  | int k => cases t.int; exact kit_of I rx (.base (.int _))
  | str k => cases t.str; exact kit_of I rx (.base (.str _))
  | list k => obtain ⟨a, vs, rfl, ta, _⟩ := t.list; exact kit_of I rx (LstF.kit (ι := ι) (h := h) I ta)
  | tuple k => obtain ⟨a, vs, rfl, ta, _⟩ := t.tuple; exact kit_of I rx (TupF.kit (ι := ι) (h := h) I ta.sq)
  | dict k =>
    obtain ⟨a, es, rfl, dx, px⟩ := (show ∃ a es, x = .ref a ∧ _ ∧ _ from t)
    cases rx
    obtain ⟨_, _, o, _, _, e, ex, _⟩ := DctR.obj I dx
    exact ⟨_, PySem.W.kitx_dict, ⟨o, e, ex.1⟩, fun z => nomatch z⟩
def rIsiM (X : Cx) (EW : EWt) (t : Ty) : List V → Hp → VK → Prop := fun xs H Q => ∃ ι h d x, xs = [x, .ty t.nm] ∧ RH (Wx X) ι h H ∧ DV (Wx X) ι h H d x ∧ wish (Wx X) EW ι h H (match peek d h with
    | some p => .ok (.p (.bool (isTy t p))) h
    | none => .bad) Q
theorem call_isiM (t : Ty) : CallR X (.builtin "isinstance") (rIsiM X EW t) := by
  intro pins s σ H xs us Q I rr hq
  obtain ⟨ι, h, d, x, rfl, r, dv, q⟩ := hq
  obtain ⟨u1, u2, rfl, r1, r2⟩ := vals2 rr
  cases (ClsV.ty t.nm).eq r2
  cases e1 : peek d h with
  | none => rw [e1] at q; exact q.elim
  | some p =>
    simp only [e1] at q
    obtain ⟨Pr, Z, pp, hx⟩ := TV.kit I (peek_tv r dv e1) r1
    exact PySem.W.kia_one Z I.kIn pp (kit_ty (isTy_kit t p)) hx fun tk => ⟨.bl _, H, I.tok tk, rfl, wish.ok (d := .p (.bool (isTy t p))) q r (DVb _)⟩
end
end Mi
/-! MiU: sorted, over data of any shape. -/
namespace Mi
open PySem L2 PySem.Spec PyProof.Rows PySem.W
section
variable {prog : Program} {w : World} {A : Around} {s : Shared}
open PySem.SeqAt in
theorem lt_tup_call {E : Value → Shared → Prop} {Q : Value → Shared → Prop} {l b : Addr} {us ws : Array Value} {e r : Nat → Bool} (hl : s.heap.IsTuple l us) (hb : s.heap.IsTuple b ws)
    (he : ∀ j (h1 : j < us.size) (h2 : j < ws.size), EqAt A.in1 s us[j] ws[j] (e j)) (hr : ∀ j (h1 : j < us.size) (h2 : j < ws.size), e j = false → RcLt A.in1 s us[j] ws[j] (r j))
    (h : Q (.bool (firstLt e r (decide (us.size < ws.size)) (List.range (min us.size ws.size)))) s) : wpAny (model prog w) A (call (.builtin "tuple.__lt__") [.ref l, .ref b]) Q E s := by
  obtain ⟨⟨c1, d1, x1, sl1⟩, ho, hc, n, hd⟩ := id hl
  obtain ⟨⟨c2, d2, x2, sl2⟩, ho2, hc2, n2, hd2⟩ := id hb
  simp only at hc hd hc2 hd2
  subst hc hd hc2 hd2
  exact call_meets F.slot_tuple_lt ⟨_, ho, rfl⟩ F.entry_tuple_lt (F.args_tuple_lt_2 _ _) (tuple_ltAt l b us ws n n2 d1 d2 sl1 sl2 e r) ⟨ho, ho2, he, hr, h⟩
open PySem.SeqAt in
theorem one_tup {xs ys : List P} {a b : Value} {as bs : List Addr} {E : Value → Shared → Prop} {Q : Bool → Shared → Prop} (ra : Reads s.heap a (.tuple xs) as) (rb : Reads s.heap b (.tuple ys) bs) (h : alike (.tuple xs) (.tuple ys) = true)
    (hu : A.units + min (PyData.tuple xs).depth (PyData.tuple ys).depth < cLine) (hq : Q (dataLt (.tuple xs) (.tuple ys)) s) : wpAny (model prog w) A (oneLt' true a b) Q E s := by
  have al : alikeAll xs ys = true := by simpa [alike] using h
  cases ra with
  | @tuple l o vs n _ as₁ h1 h2 h3 h4 =>
    cases rb with
    | @tuple l' o' vs' n' _ bs₁ k1 k2 k3 k4 =>
      have z1 : vs.size = xs.length := by simpa using ReadsAll.length _ _ _ h4
      have z2 : vs'.size = ys.length := by simpa using ReadsAll.length _ _ _ k4
      rw [dataLt_tuple, ← firstLt_toks xs ys al, ← z1, ← z2] at hq
      rw [oneLt'_eq]
      simp only [if_true]
      refine wpAny_bind (wpAny_cRoomFor (room_here hu) ?_)
      refine wpAny_bind (wpAny_callSpecialIfBound?_slot (T := "tuple") ⟨_, h1, h2⟩ F.slot_tuple_lt (lt_tup_call (e := pairEq xs ys) (r := fun j => dataLt (xs.getD j .none) (ys.getD j .none)) ⟨_, h1, h2, _, h3⟩ ⟨_, k1, k2, _, k3⟩ (fun j j1 j2 => ?_) (fun j j1 j2 hj => ?_) ?_))
      · have z := eqAt_alikeAll xs ys A.in1 s vs.toList vs'.toList _ _ h4 k4 al (room_in hu) j (by simpa using j1) (by simpa using j2)
        simpa using z
      · have z := rcLt_alikeAll xs ys A.in1 s vs.toList vs'.toList _ _ h4 k4 al (room_in hu) j (by simpa using j1) (by simpa using j2) hj
        simpa using z
      · exact wpAny_truthy_bool hq
theorem general_eq (x y : Value) : keyLt' general' x y = oneLt' false x y := rfl
/-- the first items of tuples, one by one -/
theorem firsts_ex {M : Model} {E : Value → Shared → Prop} : ∀ {vs : List Value} {ds : List P} {Q : List (Option Value) → Shared → Prop}, EachIs (fun v d => ∃ as, Reads s.heap v d as) vs ds → (∀ d ∈ ds, ∃ xs, d = .tuple xs) →
    (∀ os : List (Option Value), os.length = ds.length → (∀ (i : Nat) (xs : List P), ds[i]? = some (.tuple xs) → ∃ o, os[i]? = some o ∧ o.isSome = !xs.isEmpty) → Q os s) → wpAny M A (vs.mapM firstOfTuple') Q E s
  | _, _, Q, .nil, _, k => by
    rw [List.mapM_nil]
    exact wpAny_pure (k [] rfl fun i xs e => by simp at e)
  | _, _, Q, .cons (b := d) (bs := ds) ⟨as, r⟩ t, ht, k => by
    obtain ⟨xs, rfl⟩ := ht d (List.mem_cons_self ..)
    rw [List.mapM_cons]
    refine wpAny_bind ?_
    rw [kas_first_eq]
    cases r with
    | @tuple a o its n _ _ h1 h2 h3 h4 =>
      refine wpAny_bind (Looks.here (show Looks M s.heap (typeOf (.ref a)) o.cls from (Looks.ld h1).andThen .now) ?_)
      rw [h2, if_neg (by first | decide | simp)]
      refine wpAny_bind (listItems_at h1 h3 (wpAny_pure ?_))
      refine wpAny_bind (firsts_ex t (fun d hd => ht d (List.mem_cons_of_mem _ hd)) fun os hl ho => wpAny_pure (k _ (by simp [hl]) fun i ys e => ?_))
      cases i with
      | zero =>
        simp only [List.getElem?_cons_zero, Option.some.injEq, PyData.tuple.injEq] at e
        subst e
        refine ⟨_, rfl, ?_⟩
        have := SeqAt.ReadsAll.length _ _ _ h4
        cases q : its.toList with
        | nil =>
          rw [q] at this
          have hx : xs = [] := List.eq_nil_of_length_eq_zero this.symm
          have : its = #[] := by rw [← Array.toArray_toList (xs := its), q]
          rw [hx, this]; rfl
        | cons f fr =>
          rw [q] at this
          have : its[0]? = some f := by rw [← Array.getElem?_toList, q]; rfl
          rw [this]
          cases xs with
          | nil => simp at *
          | cons _ _ => rfl
      | succ i => simpa using ho i ys (by simpa using e)
/-- values that read as alike data can be sorted, whatever tuples are among them -/
theorem sorts_any {vs : List Value} {ds : List P} (e : EachIs (fun v d => ∃ as, Reads s.heap v d as) vs ds) (hal : AllAlike ds) (hn : ∀ d ∈ ds, d ≠ .none) (hu : ∀ d, d ∈ ds → A.units + d.depth < cLine) : SortsAt prog w A s (dataKind s.heap ds) vs := by
  by_cases h1 : Sortable ds
  · exact .data e hal h1 hu
  have room : ∀ {d d' : P}, d ∈ ds → A.units + min d.depth d'.depth < cLine := fun {d d'} hd => by
    have := hu d hd
    have := Nat.min_le_left d.depth d'.depth
    omega
  -- one is a tuple, so all are
  have ht : ∀ d ∈ ds, ∃ xs, d = .tuple xs := by
    intro d hd
    have : ∃ d' ∈ ds, ∃ xs, d' = .tuple xs := Classical.byContradiction fun q => h1 (.inr fun d' hd' => ⟨hn d' hd', fun xs ex => q ⟨d', hd', xs, ex⟩⟩)
    obtain ⟨d', hd', xs, rfl⟩ := this
    have := hal _ hd _ hd'
    cases d <;> simp [alike] at this ⊢
  have hemp : ∃ d ∈ ds, d = .tuple [] := Classical.byContradiction fun q => h1 (.inl fun d hd => by
    obtain ⟨xs, rfl⟩ := ht d hd
    cases xs with
    | nil => exact absurd ⟨_, hd, rfl⟩ q
    | cons x r => exact ⟨x, r, rfl⟩)
  cases ds with
  | nil => exact absurd hemp (by simp)
  | cons d0 r0 =>
    obtain ⟨x0, rfl⟩ := ht d0 (List.mem_cons_self ..)
    have keys : ∀ v, v ∈ vs → ∃ a, (dataKind s.heap (PyData.tuple x0 :: r0)).keyOf v = some a := fun v hv => by
      obtain ⟨d, hd, as, r⟩ := e.left v hv
      exact ⟨_, dataKind_some hal hd r⟩
    have emp : ∀ os : List (Option Value), os.length = (PyData.tuple x0 :: r0).length → (∀ (i : Nat) (xs : List P), (PyData.tuple x0 :: r0)[i]? = some (.tuple xs) → ∃ o, os[i]? = some o ∧ o.isSome = !xs.isEmpty) → ¬ (os.toArray.all fun o => o.isSome) = true := fun os hl ho q => by
      obtain ⟨d, hd, rfl⟩ := hemp
      obtain ⟨i, hi⟩ := List.getElem?_of_mem hd
      obtain ⟨o, e1, e2⟩ := ho i [] hi
      simp only [List.all_toArray, List.all_eq_true] at q
      rw [q o (List.mem_of_getElem? e1)] at e2
      simp at e2
    cases hx : x0.isEmpty with
    | false =>
      refine ⟨keys, general', ?_, fun h2 E Q hq => ?_⟩
      · intro E x y a b Q ha hb hq
        obtain ⟨d, as, hd, ra, rfl⟩ := dataKind_inv ha
        obtain ⟨d', as', hd', rb, rfl⟩ := dataKind_inv hb
        rw [general_eq]
        exact oneLt_alike (fun z => by cases z) ra rb (hal d hd d' hd') (hn d hd) (room hd) hq
      · rw [keyKind'_eq, List.mapM_toArray, map_eq_pure_bind]
        refine wpAny_bind (wpAny_bind (firsts_ex e ht fun os hl ho => wpAny_pure ?_))
        rw [if_neg (emp os hl ho)]
        obtain ⟨o, e1, e2⟩ := ho 0 x0 rfl
        have : (os.toArray[0]?.bind id).isSome = true := by
          rw [List.getElem?_toArray, e1]
          show o.isSome = true
          rw [e2, hx]; rfl
        rw [if_pos this]
        exact wpAny_pure hq
    | true =>
      refine ⟨keys, oneType', ?_, fun h2 E Q hq => ?_⟩
      · intro E x y a b Q ha hb hq
        obtain ⟨d, as, hd, ra, rfl⟩ := dataKind_inv ha
        obtain ⟨d', as', hd', rb, rfl⟩ := dataKind_inv hb
        rw [keyLt'_oneType]
        obtain ⟨xs, rfl⟩ := ht d hd
        obtain ⟨ys, rfl⟩ := ht d' hd'
        exact one_tup ra rb (hal _ hd _ hd') (room hd) hq
      · rw [keyKind'_eq, List.mapM_toArray, map_eq_pure_bind]
        refine wpAny_bind (wpAny_bind (firsts_ex e ht fun os hl ho => wpAny_pure ?_))
        rw [if_neg (emp os hl ho)]
        obtain ⟨o, e1, e2⟩ := ho 0 x0 rfl
        have : ¬ (os.toArray[0]?.bind id).isSome = true := by
          rw [List.getElem?_toArray, e1]
          show ¬ o.isSome = true
          rw [e2, hx]; simp
        rw [if_neg this]
        rw [oneTypeOnly'_eq, List.mapM_toArray, map_eq_pure_bind]
        refine wpAny_bind (wpAny_bind (wpAny_bind (kas_mapM (r := Value.type "tuple") _ (fun v hv Q' hq => ?_) (wpAny_pure ?_))))
        · obtain ⟨d, hd, as, r⟩ := e.left v hv
          obtain ⟨xs, rfl⟩ := ht d hd
          exact (looks_reads r).here hq
        · have hall : ((List.map (fun _ => Value.type "tuple") vs).toArray.all fun x => x == Value.type "tuple") = true := by
            simp only [List.all_toArray, List.all_map, List.all_eq_true]
            intro _ _
            rfl
          have h0 : (List.map (fun _ => Value.type "tuple") vs).toArray[0]? = some (Value.type "tuple") := by
            cases vs with
            | nil => simp at h2
            | cons _ _ => simp
          rw [h0]
          simp only [hall, if_true]
          exact wpAny_pure (wpAny_pure hq)
end
/-! ### the call -/
section
variable {X : Cx} {EW : EWt} {C : Calls}
theorem sortP_map {β : Type} (f : β → P) (l : List β) : (l.mergeSort (dataLe false f)).map f = sortP (l.map f) := by
  unfold sortP
  exact List.map_mergeSort fun a _ b _ => rfl
theorem each_pv {pins : List (Addr × Obj)} {s : Shared} {σ : L2.St} {H : Hp} {L : Addr → Prop} (I : Inv X pins σ H s) : ∀ {ds : List P} {vs : List V} {us : List Value}, (∀ d ∈ ds, shp d = true) → PVs X.prog X.w X.K L H ds vs → Vals vs us →
    ∃ bs : List (P × V), bs.map (·.1) = ds ∧ EachIs (fun u (q : P × V) => RelV q.2 u ∧ PV X.prog X.w X.K L H q.1 q.2) us bs ∧ EachIs (fun u (q : P × V) => ∃ as, Reads s.heap u q.1 as) us bs
  | [], _, _, _, p, r => by
    unfold PVs at p
    subst p
    cases r
    exact ⟨[], rfl, .nil, .nil⟩
  | d :: ds, _, _, hs, p, r => by
    obtain ⟨v, vs, rfl, p1, p2⟩ := p.inv
    cases r with
    | cons r1 r2 =>
      obtain ⟨bs, h1, h2, h3⟩ := each_pv I (fun d hd => hs d (List.mem_cons_of_mem _ hd)) p2 r2
      obtain ⟨as, ra⟩ := Dp.reads I d v _ (PV.dp d v (shp_lay (hs d (List.mem_cons_self ..))) p1) r1
      exact ⟨(d, v) :: bs, by simp [h1], .cons ⟨r1, p1⟩ h2, .cons ⟨as, ra⟩ h3⟩
theorem each_back {pr : Program} {w : World} {K : PySem.W.Frag} {H : Hp} {L : Addr → Prop} : ∀ {bs : List (P × V)} {us : List Value}, EachIs (fun u (q : P × V) => RelV q.2 u ∧ PV pr w K L H q.1 q.2) us bs → Vals (bs.map (·.2)) us ∧ PVs pr w K L H (bs.map (·.1)) (bs.map (·.2))
  | _, _, .nil => ⟨.nil, PVs.nil⟩
  | _, _, .cons a t => ⟨.cons a.1 (each_back t).1, PVs.cons a.2 (each_back t).2⟩
theorem sorted_list {pins : List (Addr × Obj)} {s : Shared} {σ : L2.St} {H : Hp} {L : Addr → Prop} {Q : VK} {a : Addr} {ds : List P} {vs : List V} (hu : X.A.units + 70 < cLine) (I : Inv X pins σ H s) (hs : SqL X.K H a vs) (p : PVs X.prog X.w X.K L H ds vs) (ok : sortOk ds = true)
    (q : ∀ us, PVs X.prog X.w X.K L H (sortP ds) us → ∀ p, H p = none → Q (.ref p) (upd H p (.lst us))) : wpAny (model X.prog X.w) X.A (call (.builtin "sorted") [.ref a]) (EP X pins σ Q) X.xe s := by
  unfold sortOk at ok
  simp only [Bool.and_eq_true, decide_eq_true_eq, List.all_eq_true, allAlike] at ok
  obtain ⟨⟨h1, h2⟩, h3⟩ := ok
  obtain ⟨its, rv, hl, hz⟩ := I.list hs
  obtain ⟨bs, e1, e2, e3⟩ := each_pv I (fun d hd => (h2 d hd).2) p rv
  have hal : AllAlike ds := fun d hd d' hd' => h1 d hd d' hd'
  have er : EachIs (fun v d => ∃ as, Reads (sortingHeap (copyHeap s.heap its) (s.heap.objs.size + 1) its) v d as) its (bs.map (·.1)) :=
    each_map (R := fun v d => ∃ as, Reads (sortingHeap (copyHeap s.heap its) (s.heap.objs.size + 1) its) v d as) (·.1) (e3.mono fun _ _ ⟨as, r⟩ => ⟨as, PyProof.Rows.Reads.keeps (fun _ _ => sorting_copy_old) r⟩)
  have er' : EachIs (fun v (b : P × V) => ∃ as, Reads (sortingHeap (copyHeap s.heap its) (s.heap.objs.size + 1) its) v b.1 as) its bs := e3.mono fun _ _ ⟨as, r⟩ => ⟨as, PyProof.Rows.Reads.keeps (fun _ _ => sorting_copy_old) r⟩
  have hlen : its.length = ds.length := by rw [← e1, List.length_map]; exact e3.length
  refine sorted_vals hl.isList (sorts_any (s := { s with heap := sortingHeap (copyHeap s.heap its) (s.heap.objs.size + 1) its }) er (by rw [e1]; exact hal) (fun d hd => ?_) fun d hd => ?_) (by rw [hlen]; exact sz h3) ?_
  · rw [e1] at hd
    exact isNone_ne (h2 d hd).1
  · rw [e1] at hd
    have := shp_depth (h2 d hd).2
    show X.A.units + 1 + 1 + d.depth < cLine
    omega
  · have ee := sortVals_data (h' := sortingHeap (copyHeap s.heap its) (s.heap.objs.size + 1) its) (enc := fun b : P × V => b.1) false e2 er' (by rw [e1]; exact hal)
    obtain ⟨b1, b2⟩ := each_back ee
    rw [sortP_map, e1] at b2
    obtain ⟨c, hc⟩ := sortedAll_at s.heap its (sortVals (dataKind (sortingHeap (copyHeap s.heap its) (s.heap.objs.size + 1) its) (bs.map fun b => b.1)) false its its).toArray
    refine ⟨.ref (s.heap.objs.size + 1), _, I.laid (t' := s.toks) (o := .lst ((bs.mergeSort (dataLe false fun b => b.1)).map (·.2))) (fun b o e => sortedAll_old e) (Nat.le_succ _) ?_, rfl, q _ b2 _ (I.hok.fresh (Nat.le_succ _))⟩
    refine ⟨?_, _, c, b1, hc⟩
    rw [List.length_map, List.length_mergeSort]
    have : bs.length = ds.length := by rw [← e1, List.length_map]
    rw [this]
    exact sz h3
end
end Mi
/-! MiV: builtins over data. -/
namespace Mi
open PySem L2 PySem.Spec PyProof.Rows PySem.W
def FB (b : Bi) (ds : List D) (h : Hh) : Res D := match peeks ds h with
  | some ps => okP (bi b ps) h
  | none => .bad
section
variable {X : Cx} {EW : EWt} {C : Calls}
theorem callr_bi {f : Value} {b : Bi}
    (k : ∀ (ι : List Addr) (h : Hh) (H : Hp) (ps : List P) (g : P) (xs : List V) (Q : VK) (pins : List (Addr × Obj)) (s : Shared) (σ : L2.St) (us : List Value), bi b ps = some g → RH (Wx X) ι h H → Paired (TV (Wx X) ι h H) ps xs → wish (Wx X) EW ι h H (.ok (.p g) h) Q →
      Inv X pins σ H s → Vals xs us → wpAny (model X.prog X.w) X.A (call f us) (EP X pins σ Q) X.xe s) : CallR X f (RL (Wx X) EW (FB b)) := by
  intro pins s σ H xs us Q I rr ⟨ι, h, ds, r, dv, q⟩
  unfold FB at q
  cases e1 : peeks ds h with
  | none => rw [e1] at q; exact q.elim
  | some ps =>
    simp only [e1] at q
    cases e3 : bi b ps with
    | none => rw [e3] at q; exact q.elim
    | some g =>
      rw [e3] at q
      exact k ι h H ps g xs Q pins s σ us e3 r (peeks_tv r dv e1) q I rr
theorem pair1 {α β : Type} {R : α → β → Prop} {a : α} {l : List β} (h : Paired R [a] l) : ∃ b, l = [b] ∧ R a b := by
  cases h with
  | cons h t => cases t; exact ⟨_, rfl, h⟩
theorem pair2 {α β : Type} {R : α → β → Prop} {a a' : α} {l : List β} (h : Paired R [a, a'] l) : ∃ b b', l = [b, b'] ∧ R a b ∧ R a' b' := by
  cases h with
  | cons h t =>
    obtain ⟨b, rfl, h'⟩ := pair1 t
    exact ⟨_, _, rfl, h, h'⟩
theorem bi1 {b : Bi} {ps : List P} {g : P} (hb : b ≠ .gcd) (e : bi b ps = some g) : ∃ p, ps = [p] := by
  rcases ps with _ | ⟨p, _ | ⟨p2, r⟩⟩
  · cases b <;> simp [bi] at e
  · exact ⟨p, rfl⟩
  · exfalso
    cases b <;> first | exact hb rfl | (cases p <;> simp [bi] at e)
theorem cr_len : CallR X (.builtin "len") (RL (Wx X) EW (FB .len)) := by
  refine callr_bi fun ι h H ps g xs Q pins s σ us e r tv w I rv => ?_
  obtain ⟨p, rfl⟩ := bi1 (by simp) e
  obtain ⟨x, rfl, tx⟩ := pair1 tv
  cases p with
  | list ds =>
    cases e
    obtain ⟨a, vs, rfl, ta, pa⟩ := tx.list
    have hl := PVs.length pa
    exact call_len_seq pins s σ H _ us Q I rv ⟨a, vs, rfl, .inl ta, by rw [← hl]; exact w.ok r (DVi _)⟩
  | tuple ds =>
    cases e
    obtain ⟨a, vs, rfl, ta, pa⟩ := tx.tuple
    have hl := PVs.length pa
    exact call_len_seq pins s σ H _ us Q I rv ⟨a, vs, rfl, .inr ta.sq, by rw [← hl]; exact w.ok r (DVi _)⟩
  | str z =>
    simp only [bi] at e
    split at e
    · rename_i hm
      cases e
      cases tx.str
      exact call_len_str pins s σ H _ us Q I rv ⟨z, rfl, sz hm, w.ok r (DVi _)⟩
    · cases e
  | dict kvs =>
    cases e
    obtain ⟨a, es, rfl, dx, px⟩ := (show ∃ a es, x = .ref a ∧ _ ∧ _ from tx)
    obtain ⟨u, rfl, ru⟩ := vals1 rv
    cases ru
    obtain ⟨hd, hz, o, des, ep, g1, g2, g3, g4, ti⟩ := DctR.obj I dx
    have hk := px.length
    have hz' : sizeLine = 16777216 := sizeLine_eq
    refine PyProof.Rows.call_len_slot ti PySem.F.slot_dict_len (fun Q' hq => PySem.call_len_raw hd ⟨o, g1, g2, g3⟩ hq) (by omega) (by omega) ⟨.int (es.length : Nat), H, (I.tok _).tok _, ⟨s.toks + 1, by rw [g4]⟩, by rw [← hk]; exact w.ok r (DVi _)⟩
  | _ => simp [bi] at e
theorem bools_bl {W : Wd} {ι : List Addr} {h : Hh} {H : Hp} : ∀ {ds : List P} {bs : List Bool} {vs : List V}, bools ds = some bs → PVsx W ι h H ds vs → vs = bs.map V.bl
  | [], _, vs, e, p => by
    cases e
    exact (show PVs _ _ _ _ _ [] vs from p)
  | d :: ds, bs, vs, e, p => by
    obtain ⟨v, r, rfl, p1, p2⟩ := p.inv
    cases d with
    | bool b =>
      simp only [bools] at e
      obtain ⟨cs, e1, rfl⟩ := Option.map_eq_some_iff.mp e
      rw [bools_bl e1 p2]
      have : v = .bl b := p1
      rw [this]; rfl
    | _ => simp [bools] at e
theorem cr_allM (hc : X.calm = true) : CallR X (.builtin "all") (RL (Wx X) EW (FB .all)) := by
  refine callr_bi fun ι h H ps g xs Q pins s σ us e r tv w I rv => ?_
  obtain ⟨p, rfl⟩ := bi1 (by simp) e
  obtain ⟨x, rfl, tx⟩ := pair1 tv
  cases p with
  | list ds =>
    obtain ⟨bs, e1, rfl⟩ := Option.map_eq_some_iff.mp (show (bools ds).map (fun bs => PyData.bool (bs.all id)) = some g from e)
    obtain ⟨a, vs, rfl, ta, pa⟩ := tx.list
    rw [bools_bl e1 pa] at ta
    exact cr_all hc pins s σ H _ us Q I rv ⟨a, bs, rfl, ta, w.ok r (DVb _)⟩
  | _ => simp [bi] at e
theorem cr_anyM (hc : X.calm = true) : CallR X (.builtin "any") (RL (Wx X) EW (FB .any)) := by
  refine callr_bi fun ι h H ps g xs Q pins s σ us e r tv w I rv => ?_
  obtain ⟨p, rfl⟩ := bi1 (by simp) e
  obtain ⟨x, rfl, tx⟩ := pair1 tv
  cases p with
  | list ds =>
    obtain ⟨bs, e1, rfl⟩ := Option.map_eq_some_iff.mp (show (bools ds).map (fun bs => PyData.bool (bs.any id)) = some g from e)
    obtain ⟨a, vs, rfl, ta, pa⟩ := tx.list
    rw [bools_bl e1 pa] at ta
    exact cr_any hc pins s σ H _ us Q I rv ⟨a, bs, rfl, ta, w.ok r (DVb _)⟩
  | _ => simp [bi] at e
theorem cr_tuple : CallR X (.type "tuple") (RL (Wx X) EW (FB .tuple)) := by
  refine callr_bi fun ι h H ps g xs Q pins s σ us e r tv w I rv => ?_
  obtain ⟨p, rfl⟩ := bi1 (by simp) e
  obtain ⟨x, rfl, tx⟩ := pair1 tv
  cases p with
  | list ds =>
    cases e
    obtain ⟨a, vs, rfl, ta, pa⟩ := tx.list
    exact call_tuple_of pins s σ H _ us Q I rv ⟨a, vs, rfl, .inl ⟨ta, fun l n => wish.tuple w r pa n⟩⟩
  | tuple ds =>
    cases e
    obtain ⟨a, vs, rfl, ta, pa⟩ := tx.tuple
    exact call_tuple_of pins s σ H _ us Q I rv ⟨a, vs, rfl, .inr ⟨ta.sq, w.ok r (PVx.tuple ta pa)⟩⟩
  | _ => simp [bi] at e
theorem keys_K {P : Program} {w : World} : ∀ {es : List En} {kv : List (Key × V)} {vs : List (Key × Value)} {l : List DictEntry}, Paired RK es kv → KV kv vs → Pairs (mixKind P w) l vs → Vals (es.map (·.k)) (l.map (·.key))
  | _, _, _, _, .nil, .nil, .nil => .nil
  | _, _, _, _, .cons a t, .cons b u, .cons c _ v => .cons (by have z := keyIs_rel c; rw [← b.1, ← a.2.1] at z; exact z) (keys_K t u v)
theorem keys_T {pr : Program} {w : World} : ∀ {es : List En} {xs : List (NestedKey × Addr × V)} {ys : List (NestedKey × Addr × Value)},
    Paired (fun (e : En) (q : NestedKey × Addr × V) => toNK e.d = some q.1 ∧ keyOk e.d = true ∧ e.k = .ref q.2.1 ∧ e.v = q.2.2) es xs →
    Paired (fun (p : NestedKey × Addr × V) (q : NestedKey × Addr × Value) => p.1 = q.1 ∧ p.2.1 = q.2.1 ∧ RelV p.2.2 q.2.2) xs ys → Vals (es.map (·.k)) ((ys.map (entryOfKey (nestedKind pr w))).map (·.key))
  | _, _, _, .nil, .nil => .nil
  | _, _, _, .cons (a := e) a t, .cons b u => .cons (by show RelV e.k _; rw [a.2.2.1, b.2.1]; rfl) (keys_T t u)
theorem keys_pv {pr : Program} {w : World} {K : PySem.W.Frag} {L : Addr → Prop} {H : Hp} : ∀ {kvs : List (P × P)} {es : List En}, PVk pr w K L H kvs es → PVs pr w K L H (kvs.map (·.1)) (es.map (·.k))
  | [], _, p => by
    have := p.nil_iff
    subst this
    exact PVs.nil
  | (k, d) :: r, _, p => by
    obtain ⟨e, t, rfl, h1, h2, h3, h4⟩ := p.inv
    exact PVs.cons h2 (keys_pv h4)
/-- the keys of a dict, by its object -/
theorem DctR.keys {pins : List (Addr × Obj)} {s : Shared} {σ : L2.St} {H : Hp} (I : Inv X pins σ H s) {a : Addr} {es : List En} (x : DctR X.prog X.w H a es) : ∃ (o : Obj) (des : Array DictEntry) (ep : Nat), s.heap.get? a = some o ∧ o.ExactDict ∧ o.data = .dict des ep ∧ Vals (es.map (·.k)) (des.toList.map (·.key)) := by
  rcases x with ⟨kv, e, nd, p⟩ | ⟨na, z, xs, e, nd, p⟩
  · obtain ⟨hz, hd, vs, rel, o, des, ep, g1, g2, g3, g4, g5, g6⟩ := dk_rd I.hok e
    exact ⟨o, des, ep, g1, g2, g3, keys_K p rel g5⟩
  · obtain ⟨ph, ⟨o', ho⟩, _⟩ := rd_of I.hok e
    obtain ⟨ys, py, o, des, ep, g1, g2, g3, g4⟩ := ph
    exact ⟨o, des, ep, g1, g2, g3, by rw [g4]; exact keys_T p py⟩
theorem cr_list (hc : X.calm = true) : CallR X (.type "list") (RL (Wx X) EW (FB .list)) := by
  refine callr_bi fun ι h H ps g xs Q pins s σ us e r tv w I rv => ?_
  obtain ⟨p, rfl⟩ := bi1 (by simp) e
  obtain ⟨x, rfl, tx⟩ := pair1 tv
  cases p with
  | list ds =>
    cases e
    obtain ⟨a, vs, rfl, ta, pa⟩ := tx.list
    exact call_list_of pins s σ H _ us Q I rv ⟨a, vs, rfl, .inl ta, fun l n => wish.list w r pa n⟩
  | tuple ds =>
    cases e
    obtain ⟨a, vs, rfl, ta, pa⟩ := tx.tuple
    exact call_list_of pins s σ H _ us Q I rv ⟨a, vs, rfl, .inr ta.sq, fun l n => wish.list w r pa n⟩
  | dict kvs =>
    cases e
    obtain ⟨a, es, rfl, dx, px⟩ := (show ∃ a es, x = .ref a ∧ _ ∧ _ from tx)
    obtain ⟨u, rfl, ru⟩ := vals1 rv
    cases ru
    obtain ⟨hd, hz, _⟩ := DctR.obj I dx
    obtain ⟨o, des, ep, g1, g2, g3, g4⟩ := DctR.keys I dx
    have hl : des.size = es.length := by
      have := g4.length
      simpa using this.symm
    refine PySem.W.kdl_call (PySem.KdlSrc.rawDict (es := des) (ep := ep) hd) (I.ok.hd hc) ⟨o, g1, g2, g3⟩ (by omega) fun h' tk acc' c' hk hS hacc => ?_
    have ek : acc'.toList = des.toList.map (·.key) := by
      refine List.ext_getElem? fun i => ?_
      by_cases hi : i < des.size
      · obtain ⟨v, hv⟩ : ∃ v, acc'[i]? = some v := ⟨_, Array.getElem?_eq_getElem (by rw [hacc.1]; exact hi)⟩
        obtain ⟨hi', e2⟩ := hacc.2 i v hv
        rw [Array.getElem?_toList, hv, List.getElem?_map, Array.getElem?_toList, Array.getElem?_eq_getElem hi', e2]
        rfl
      · rw [List.getElem?_eq_none (by rw [Array.length_toList, hacc.1]; omega), List.getElem?_eq_none (by simp; omega)]
    refine ⟨.ref s.heap.objs.size, _, I.laid (t' := tk) (o := .lst (es.map (·.k))) hk (Nat.le_refl _) ?_, rfl, wish.list w r (keys_pv px) (I.hok.fresh (Nat.le_refl _))⟩
    refine ⟨by rw [List.length_map]; exact hz, acc'.toList, c', by rw [ek]; exact g4, ?_⟩
    rw [Array.toArray_toList]
    exact hS
  | _ => simp [bi] at e
theorem cr_sorted (hu : X.A.units + 70 < cLine) : CallR X (.builtin "sorted") (RL (Wx X) EW (FB .sorted)) := by
  refine callr_bi fun ι h H ps g xs Q pins s σ us e r tv w I rv => ?_
  obtain ⟨p, rfl⟩ := bi1 (by simp) e
  obtain ⟨x, rfl, tx⟩ := pair1 tv
  cases p with
  | list ds =>
    simp only [bi] at e
    split at e
    · rename_i hm
      cases e
      obtain ⟨a, vs, rfl, ta, pa⟩ := tx.list
      obtain ⟨u, rfl, ru⟩ := vals1 rv
      cases ru
      exact sorted_list hu I ta pa hm fun vs' p' l n => wish.list w r p' n
    · cases e
  | _ => simp [bi] at e
theorem cr_abs : CallR X (.builtin "abs") (RL (Wx X) EW (FB .abs)) := by
  refine callr_bi fun ι h H ps g xs Q pins s σ us e r tv w I rv => ?_
  obtain ⟨p, rfl⟩ := bi1 (by simp) e
  obtain ⟨x, rfl, tx⟩ := pair1 tv
  cases p with
  | int i =>
    cases e
    cases tx.int
    refine call_abs pins s σ H _ us Q I rv ⟨i, rfl, ?_⟩
    have : (if i < 0 then -i else i) = (i.natAbs : Int) := by split <;> omega
    rw [this]
    exact w.ok r (DVi _)
  | _ => simp [bi] at e
theorem cr_int : CallR X (.type "int") (RL (Wx X) EW (FB .int)) := by
  refine callr_bi fun ι h H ps g xs Q pins s σ us e r tv w I rv => ?_
  obtain ⟨p, rfl⟩ := bi1 (by simp) e
  obtain ⟨x, rfl, tx⟩ := pair1 tv
  cases p with
  | int i =>
    cases e
    cases tx.int
    exact call_int1 pins s σ H _ us Q I rv (.inl ⟨i, rfl, w.ok r (DVi _)⟩)
  | _ => simp [bi] at e
theorem cr_str : CallR X (.type "str") (RL (Wx X) EW (FB .str)) := by
  refine callr_bi fun ι h H ps g xs Q pins s σ us e r tv w I rv => ?_
  obtain ⟨p, rfl⟩ := bi1 (by simp) e
  obtain ⟨x, rfl, tx⟩ := pair1 tv
  cases p with
  | int i =>
    simp only [bi] at e
    split at e
    · rename_i hm
      cases e
      cases tx.int
      exact call_str_int pins s σ H _ us Q I rv ⟨i, rfl, by simpa [PyData.showable] using hm, w.ok r (DVs _)⟩
    · cases e
  | _ => simp [bi] at e
theorem cr_gcdM : CallR X (.builtin "math.gcd") (RL (Wx X) EW (FB .gcd)) := by
  refine callr_bi fun ι h H ps g xs Q pins s σ us e r tv w I rv => ?_
  rcases ps with _ | ⟨p, _ | ⟨p2, _ | ⟨p3, t⟩⟩⟩
  · simp [bi] at e
  · simp [bi] at e
  · obtain ⟨x, y, rfl, tx, ty⟩ := pair2 tv
    cases p <;> cases p2 <;> simp only [bi, Option.some.injEq, reduceCtorEq] at e
    subst e
    cases tx.int; cases ty.int
    exact cr_gcd pins s σ H _ us Q I rv ⟨_, _, rfl, w.ok r (DVi _)⟩
  · cases p <;> cases p2 <;> simp [bi] at e
theorem shp_hsm {d : P} (h : shp d = true) : d.hasDict = false := PyData.hasDict_of_canLay d (shp_lay h)
theorem cr_repr (hu : X.A.units + 70 < cLine) (hg : X.A.guards = some []) : CallR X (.builtin "repr") (RL (Wx X) EW (FB .repr)) := by
  refine callr_bi fun ι h H ps g xs Q pins s σ us e r tv w I rv => ?_
  obtain ⟨p, rfl⟩ := bi1 (by simp) e
  obtain ⟨x, rfl, tx⟩ := pair1 tv
  have e : (if p.showable && shp p && decide (p.shown.length ≤ 16000000) then some (PyData.str p.shown) else none) = some g := by
    cases p <;> exact e
  split at e
  · rename_i hm
    cases e
    simp only [Bool.and_eq_true, decide_eq_true_eq] at hm
    obtain ⟨⟨h1, h2⟩, h3⟩ := hm
    obtain ⟨u, rfl, ru⟩ := vals1 rv
    have hq : ∀ t s', Inv X pins σ H s' → EP X pins σ Q (.str p.shown t) s' := fun t s' I' => ⟨.str p.shown, H, I', ⟨t, rfl⟩, w.ok r (DVs _)⟩
    have hd := shp_depth h2
    have rd := tx.reads h2 I ru
    have big : ∀ (a : Addr), u = .ref a → wpAny (model X.prog X.w) X.A (call (.builtin "repr") [u]) (EP X pins σ Q) X.xe s := fun a eu => by
      subst eu
      obtain ⟨as, rd⟩ := rd
      exact repr_of_reads' rd h1 (PyData.noDict_hsm (shp_hsm h2)) hg (by omega) (fun _ _ e => e) (fun h' u tk hk => hq _ _ (I.kept hk)) (sz h3)
    cases p with
    | none =>
      have := tx.none
      subst this
      cases (show u = Value.none from ru)
      rw [PyData.shown_none] at hq
      exact PySem.P.repr_of_none (hq _ _ (I.tok _))
    | bool b =>
      have := tx.bool
      subst this
      cases (show u = Value.bool b from ru)
      rw [PyData.shown_bool] at hq
      exact PySem.P.repr_of_bool (hq _ _ (I.tok _))
    | int i =>
      have := tx.int
      subst this
      obtain ⟨t, rfl⟩ := (show ∃ t, u = Value.int i t from ru)
      rw [PyData.shown_int] at hq
      exact PySem.P.repr_of_int (by simpa [PyData.showable] using h1) (hq _ _ (I.tok _))
    | str z =>
      have := tx.str
      subst this
      obtain ⟨t, rfl⟩ := (show ∃ t, u = Value.str z t from ru)
      rw [PyData.shown_str] at hq h3
      exact PySem.P.repr_of_str (hq _ _ (I.tok _)) (sz h3)
    | list ds =>
      obtain ⟨a, vs, rfl, ta, pa⟩ := tx.list
      exact big a ru
    | tuple ds =>
      obtain ⟨a, vs, rfl, ta, pa⟩ := tx.tuple
      exact big a ru
    | dict kvs => exact absurd (shp_lay h2) (by simp [PyData.canLay0])
  · cases e
end
end Mi
/-! MiW: calls: builtins by name, isinstance, a method of a text, own defs. -/
namespace Mi
open PySem L2 PySem.Spec PyProof.Rows PySem.W
theorem backTo_ns {pos : Pos} {env : Env} : ∀ {es : List Expr}, es.all noStar = true → (backTo pos (starEach es env)).any (·.1) = false
  | [], _ => rfl
  | e :: es, h => by
    simp only [List.all_cons, Bool.and_eq_true] at h
    rw [starEach_ns h.1]
    show (false || (backTo pos (starEach es env)).any (·.1)) = false
    rw [Bool.false_or]
    exact backTo_ns h.2
section
variable {X : Cx} {EW : EWt} {C : Calls} {e a : Expr} {es : List Expr} {ms : MEs} {ma : ME} {x : Str} {p pos p2 apos : Pos} {id T : String} {b : Bi}
theorem pe_mbiB (hc : CallR X (.builtin id) (RL (Wx X) EW (FB b))) (hg : Gl X x) (hm : X.mg x = none) (hv : bootBuiltins x = some (.builtin id)) (ha : PAm X EW C (e :: es) ms) (hs : (e :: es).all noStar = true) (hn : x ≠ "__name__") (hd : (x == ("__debug__" : Str)) = false) :
    PEm X EW C (.Call (.Name x p) (e :: es) [] pos) (.bi b ms) := by
  simp only [List.all_cons, Bool.and_eq_true] at hs
  exact (pe_callB hc hg hm hv ha hn hd (starEach_ns hs.1) (backTo_ns hs.2)).via fun σ H Q x => liftL (F := FB b) (fun _ _ => rfl) x
theorem pe_mbiT (hc : CallR X (.type T) (RL (Wx X) EW (FB b))) (hg : Gl X x) (hm : X.mg x = none) (hv : bootBuiltins x = some (.type T)) (ha : PAm X EW C (e :: es) ms) (hs : (e :: es).all noStar = true) (hn : x ≠ "__name__") (hd : (x == ("__debug__" : Str)) = false) :
    PEm X EW C (.Call (.Name x p) (e :: es) [] pos) (.bi b ms) := by
  simp only [List.all_cons, Bool.and_eq_true] at hs
  exact (pe_callTy hc hg hm hv ha hn hd (starEach_ns hs.1) (backTo_ns hs.2)).via fun σ H Q x => liftL (F := FB b) (fun _ _ => rfl) x
theorem pe_mbiF (hc : CallR X (.builtin id) (RL (Wx X) EW (FB b))) (hg : Gl X x) (hm : X.mg x = some (.builtin id)) (ha : PAm X EW C (e :: es) ms) (hs : (e :: es).all noStar = true) (hd : (x == ("__debug__" : Str)) = false) :
    PEm X EW C (.Call (.Name x p) (e :: es) [] pos) (.bi b ms) := by
  simp only [List.all_cons, Bool.and_eq_true] at hs
  exact (pe_callBfun hc hg hm ha hd (starEach_ns hs.1) (backTo_ns hs.2)).via fun σ H Q x => liftL (F := FB b) (fun _ _ => rfl) x
theorem pe_misi {t : Ty} {y : Str} (hg : Gl X x) (hm : X.mg x = none) (hx : x = "isinstance") (hg2 : Gl X y) (hm2 : X.mg y = none) (hy : bootBuiltins y = some (.type t.nm)) (ha : PEm X EW C a ma) (hs : noStar a = true) (hn2 : y ≠ "__name__") (hd2 : (y == ("__debug__" : Str)) = false) :
    PEm X EW C (.Call (.Name x p) [a, .Name y p2] [] pos) (.isi ma t) := by
  subst hx
  refine (pe_callB (call_isiM (EW := EW) t) hg hm PyProof.Rows.boot_isinstance (L2.pa_cons ha (L2.pa_cons (pe_bltn hg2 hm2 hy (v := .ty t.nm) rfl hn2 hd2) L2.pa_nil) (starEach_ns hs)) (by decide) (by decide) (starEach_ns hs) rfl).via fun σ H Q ⟨ι, h, σA, r, sl, q⟩ => ?_
  unfold ev at q
  exact ⟨ι, h, σA, r, sl, q.bind.imp fun d ι1 h1 H1 g r1 q1 v dv => ⟨ι1, h1, d, v, rfl, r1, dv, q1.2.2⟩⟩
theorem pe_mupper (ha : PEm X EW C a ma) (hbase : attributeBase a "upper" X.env (eval a X.env) = eval a X.env) (hline : (apos.endLine == pos.line) = true) :
    PEm X EW C (.Call (.Attribute a "upper" apos) [] [] pos) (.bi .upper (.cons ma .nil)) := by
  refine (pe_upper ha hbase hline).via fun σ H Q ⟨ι, h, σA, r, sl, q⟩ => ?_
  have q : Post (Wx X) EW ι h H ((ev C ma σA h).bind fun x h1 => FB .upper [x] h1) (fun d ι' h' H' => ∀ v, DV (Wx X) ι' h' H' d v → Q v H') := by
    unfold ev evs evs at q
    cases e1 : ev C ma σA h with
    | bad => rw [e1] at q; exact q
    | err y h1 => rw [e1] at q; exact q
    | ok d h1 => rw [e1] at q; exact q
  refine ⟨ι, h, σA, r, sl, q.bind.imp fun d ι1 h1 H1 g r1 q1 v dv => ?_⟩
  have q := q1.2.2
  unfold FB peeks at q
  cases e1 : peek d h1 with
  | none => rw [e1] at q; exact q.elim
  | some p =>
    simp only [e1, peeks] at q
    have tx := peek_tv r1 dv e1
    cases p with
    | str z =>
      simp only [bi] at q
      split at q
      · rename_i hm
        cases tx.str
        exact ⟨⟨z, rfl⟩, z, rfl, rfl, hm, wish.ok (d := .p (.str (Txt.upper z))) q r1 (DVs _)⟩
      · exact q.elim
    | _ => exact q.elim
end
/-! ### own defs -/
/-- what a def promises, inside no running repr -/
structure FnG (P : Program) (w : World) (K : PySem.W.Frag) (mg : Str → Option Value) (base : Heap) (CX : CXT) (k : Nat) (f : Addr) (fd : FuncData) (ps : List Str) (sp : Sp) : Prop where
  len : ∀ vs H Q E, sp vs H Q E → vs.length = ps.length
  run : ∀ (A : Around) (outer : List Env) (s : Shared) (H : Hp) (args : Args) (us : List Value) (vs : List V) (Q : VK) (E : XK), Room k A → A.guards = some [] → Env0 P w K mg base A outer s H → BindsTo s fd args (ps.zip us) → Vals vs us → sp vs H Q E →
    codeAny (model P w) A (.call (.ref f) args) (CR CX outer P w H s Q E) s
theorem run_fnG {X : Cx} {CX : CXT} {k : Nat} {f : Addr} {fd : FuncData} {ps : List Str} {sp : Sp} {E : XK} {pins : List (Addr × Obj)} {σ : L2.St} {H : Hp} {s : Shared} {Q : VK} {us : List Value} {vs : List V}
    (F : FnG X.prog X.w X.K X.mg X.base CX k f fd ps sp) (hr : Room k X.A) (hgd : X.A.guards = some []) (hb : Binds X.K fd ps []) (hx : Passes CX X E) (I : Inv X pins σ H s) (r : Vals vs us) (h : sp vs H Q E) :
    wpAny (model X.prog X.w) X.A (call (.ref f) us) (EP X pins σ Q) X.xe s := by
  have hlen : (us ++ []).length = ps.length := by rw [List.append_nil, ← r.length]; exact F.len _ _ _ _ h
  have bt := hb s us I.kIn hlen
  rw [List.append_nil] at bt
  refine wpAny_call (codeAny_mono (F.run X.A X.stack s H ⟨us, []⟩ us vs Q E hr hgd I.env0 bt r h) fun res s' hq => ?_)
  rcases res with er | fl
  · exact hx pins σ H s er s' I hq
  · cases fl with
    | ret u => exact I.after hq
    | next => exact hq.elim
    | brk => exact hq.elim
    | cont => exact hq.elim
/-- a def by its body -/
theorem fnG_of {CX : CXT} {P : Program} {w : World} {K : PySem.W.Frag} {mg : Str → Option Value} {base : Heap} {k : Nat} {f : Addr} {name qual : Str} {params : Arguments} {body : List Stmt} {scope : Scope} {dV kV doc pm cdv ct oc : Value} {an od : Option Addr}
    {osl : Array (Option Value)} {N ps : List Str} {sp : Sp} (lk : K.lookup f = some ⟨oc, od, .func (PySem.W.fnOf name qual params body scope dV kV doc pm an cdv ct), osl⟩) (hcd : PySem.W.codeIn K cdv qual = true) (S : FnScope N ps scope)
    (len : ∀ vs H Q E, sp vs H Q E → vs.length = ps.length)
    (hbody : ∀ (A : Around) (outer : List Env) (s : Shared) (H : Hp) (vs : List V) (Q : VK) (E : XK), Room k (A.deeper (envOfC qual scope s.heap.objs.size f cdv)) → A.guards = some [] → sp vs H Q E →
      ∃ t, PSs (cxOf CX P w K mg base N qual scope f cdv A outer s H E) body t ∧ t { nx := fun _ H' => Q .non H', rt := Q } (start N vs) H) :
    FnG P w K mg base CX (k + 1) f (PySem.W.fnOf name qual params body scope dV kV doc pm an cdv ct) ps sp := by
  refine ⟨len, fun A outer s H args us vs Q E hr hgd e0 hb r hsp => ?_⟩
  have hlen := len _ _ _ _ hsp
  have inK : K.In s.heap := e0.mod.kin.keeps fun b o e => (e0.bs b o e).1
  have nolim : s.heap.NoLimit := e0.mod.nolimit.keeps fun b o e => (e0.bs b o e).1
  have kinds : ∀ y ∈ ps.zip us, scope.names.lookup y.1 = some .local ∨ (scope.names.lookup y.1 = some .cell ∧ ((cellsFrom (s.heap.objs.size + 1) scope.names []).lookup y.1).isSome = true) := by
    rintro ⟨n, v⟩ hy
    exact (S.par n (List.of_mem_zip hy).1).imp (fun q => q) fun q => ⟨q, PySem.W.cellsFrom_some _ _ _ (.inl q)⟩
  refine codeAny_call_function hr.depth (inK _ _ lk) rfl S.co S.gen rfl (PySem.W.codeRec_of inK hcd) (hb _ _ _ _ ?_)
  refine wpAny_newFunctionEnv_cells S.kind kinds fun env he s1 x => ?_
  subst he
  refine ⟨nolim.keeps x.toInCall.keep, codeAny_func ?_⟩
  obtain ⟨t, ht, hq⟩ := hbody A outer s H vs Q E (hr.deeper _) hgd hsp
  have J0 : Inv (cxOf CX P w K mg base N qual scope f cdv A outer s H E) [] (start N vs) H s1 := inv_start S hr.hd e0 hlen r x
  refine wpAny_mono (ht.run [] s1 (start N vs) H _ J0 hq) (fun fl s' hs => ?_) fun e s' hs => hs
  cases fl with
  | ret u =>
    obtain ⟨v, σ', H', J, rv, q⟩ := hs
    exact ⟨v, H', J.os, J.bare, J.base, J.hok, rv, q⟩
  | next =>
    obtain ⟨σ', H', J, q⟩ := hs
    exact ⟨.non, H', J.os, J.bare, J.base, J.hok, rfl, q⟩
  | brk =>
    obtain ⟨_, _, _, q⟩ := hs
    exact q.elim
  | cont =>
    obtain ⟨_, _, _, q⟩ := hs
    exact q.elim
/-- the promise of a def that the interpreter knows -/
def spF (W : Wd) (EW : EWt) (C : Calls) (i np : Nat) : Sp := fun vs H Q _ => vs.length = np ∧ ∃ ι h ds, RH W ι h H ∧ Paired (DV W ι h H) ds vs ∧ wish W EW ι h H (C.call i ds h) Q
section
variable {X : Cx} {EW : EWt} {C : Calls} {e a : Expr} {es : List Expr} {ms : MEs} {ma : ME} {x : Str} {p pos p2 apos : Pos} {id T : String} {b : Bi}
variable {CX : CXT} {k : Nat} {f : Addr} {fd : FuncData} {ps : List Str} {E : XK} {i : Nat} {y : Str}
theorem pe_mcall (F : FnG X.prog X.w X.K X.mg X.base CX k f fd ps (spF (Wx X) EW C i ps.length)) (hr : Room k X.A) (hgd : X.A.guards = some []) (hg : Gl X x) (hm : X.mg x = some (.ref f)) (hk : PySem.W.keepIn X.K (.ref f) = true) (hb : Binds X.K fd ps []) (hx : Passes CX X E)
    (ha : PAm X EW C (e :: es) ms) (hl : ms.len = ps.length) (hs : (e :: es).all noStar = true) (hd : (x == ("__debug__" : Str)) = false) : PEm X EW C (.Call (.Name x p) (e :: es) [] pos) (.call y i ms) := by
  simp only [List.all_cons, Bool.and_eq_true] at hs
  refine ⟨fun pins s σ H Q I hq => ?_⟩
  obtain ⟨ι, h, σA, r, sl, q⟩ := hq
  unfold ev at q
  refine wpAny_Call_Name_kw (ld_glob I hg hm ?_ hd)
  refine PySem.W.callWith_K (h₀ := X.base) I.ok.mod.kin hk (thn (ha.run pos pins s σ H (fun vs H1 => spF (Wx X) EW C i ps.length vs H1 Q E) I ?_) fun us s1 ⟨vs, H1, I1, r, q⟩ => ⟨I1.kIn, ?_⟩) (starEach_ns hs.1) (backTo_ns hs.2)
  · exact ⟨ι, h, σA, r, sl, q.len.imp fun ds ι1 h1 H1 g r1 q1 vs dv => ⟨by rw [← dv.length, q1.1, hl], ι1, h1, ds, r1, dv, q1.2.2.2⟩⟩
  · exact run_fnG F hr hgd hb hx I1 r q
theorem pe_mcall0 (F : FnG X.prog X.w X.K X.mg X.base CX k f fd [] (spF (Wx X) EW C i 0)) (hr : Room k X.A) (hgd : X.A.guards = some []) (hg : Gl X x) (hm : X.mg x = some (.ref f)) (hk : PySem.W.keepIn X.K (.ref f) = true) (hb : Binds X.K fd [] []) (hx : Passes CX X E)
    (hd : (x == ("__debug__" : Str)) = false) : PEm X EW C (.Call (.Name x p) [] [] pos) (.call y i .nil) := by
  refine ⟨fun pins s σ H Q I hq => ?_⟩
  obtain ⟨ι, h, σA, r, sl, q⟩ := hq
  unfold ev evs at q
  refine wpAny_Call_Name_kw (ld_glob I hg hm ?_ hd)
  exact PySem.W.callWith_K0 I.kIn hk (run_fnG (us := []) (vs := []) F hr hgd hb hx I .nil ⟨rfl, ι, h, [], r, .nil, q⟩)
end
end Mi
/-! MiX: methods of dicts and lists, dict displays. -/
namespace Mi
open PySem L2 PySem.Spec PyProof.Rows PySem.W
def notCall : Expr → Bool
  | .Call _ _ _ _ => false
  | _ => true
theorem base_of {o : Expr} {m : Str} {env : Env} (h : notCall o = true) : attributeBase o m env (eval o env) = eval o env := by
  cases o <;> first | rfl | cases h
section
variable {X : Cx} {EW : EWt} {C : Calls} {o e f : Expr} {mo me mf : ME} {apos pos : Pos}
theorem few1 {cp : Pos} {env : Env} (h : noStar e = true) : ((backTo cp (starEach [e] env)).all (fun x => !x.1) && (backToKw cp (keywordEach [] env)).all (fun x => x.1.isSome)
    && decide (([e] : List Expr).length + ([] : List Keyword).length + (if ([] : List Keyword).isEmpty then 0 else 1) < 30)) = true := by
  rw [starEach_ns h]; rfl
theorem few2 {cp : Pos} {env : Env} (h : noStar e = true) (h2 : noStar f = true) : ((backTo cp (starEach [e, f] env)).all (fun x => !x.1) && (backToKw cp (keywordEach [] env)).all (fun x => x.1.isSome)
    && decide (([e, f] : List Expr).length + ([] : List Keyword).length + (if ([] : List Keyword).isEmpty then 0 else 1) < 30)) = true := by
  rw [starEach_ns h, starEach_ns h2]; rfl
theorem trees1 {cp : Pos} {env : Env} (h : noStar e = true) : backTo cp (starEach [e] env) = [(false, eval e env)] := by
  rw [starEach_ns h]; rfl
theorem trees2 {cp : Pos} {env : Env} (h : noStar e = true) (h2 : noStar f = true) : backTo cp (starEach [e, f] env) = [(false, eval e env), (false, eval f env)] := by
  rw [starEach_ns h, starEach_ns h2]; rfl
section
variable {ι : List Addr} {h : Hh} {pins : List (Addr × Obj)} {s : Shared} {σ : L2.St} {H : Hp}
theorem isDi_at {d : D} {x : V} {u : Value} (i : isDi d h = true) (r : RH (Wx X) ι h H) (dv : DV (Wx X) ι h H d x) (I : Inv X pins σ H s) (ru : RelV x u) : ∃ a, x = .ref a ∧ u = .ref a ∧ s.TypeIs u "dict" ∧ ∀ b, u = .ref b → ∃ ob, s.heap.get? b = some ob ∧ ob.dict = none := by
  unfold isDi at i
  cases e1 : peek d h with
  | none => rw [e1] at i; cases i
  | some p =>
    rw [e1] at i
    cases p with
    | dict kvs =>
      obtain ⟨a, es, rfl, dx, px⟩ := (show ∃ a es, x = .ref a ∧ _ ∧ _ from peek_tv r dv e1)
      cases ru
      obtain ⟨_, _, o, _, _, g1, g2, _, _, ti⟩ := DctR.obj I dx
      exact ⟨a, rfl, rfl, ti, fun b eb => by cases eb; exact ⟨o, g1, g2.2.1⟩⟩
    | _ => cases i
theorem isLi_at {d : D} {x : V} {u : Value} (i : isLi d h = true) (r : RH (Wx X) ι h H) (dv : DV (Wx X) ι h H d x) (I : Inv X pins σ H s) (ru : RelV x u) : ∃ a, x = .ref a ∧ u = .ref a ∧ s.TypeIs u "list" ∧ ∀ b, u = .ref b → ∃ ob, s.heap.get? b = some ob ∧ ob.dict = none := by
  unfold isLi at i
  cases e1 : peek d h with
  | none => rw [e1] at i; cases i
  | some p =>
    rw [e1] at i
    cases p with
    | list ds =>
      obtain ⟨a, vs, rfl, ta, pa⟩ := (peek_tv r dv e1).list
      cases ru
      obtain ⟨t1, t2⟩ := tyV_is (T := "list") I (show RelV (.ref a) (.ref a) from rfl) (show tyV X.K "list" (.ref a) H from .inl ⟨rfl, vs, ta⟩)
      exact ⟨a, rfl, rfl, t1, t2⟩
    | _ => cases i
end
/-- an expression is reckoned, then what hangs on it -/
theorem run1 {α : Type} {pins : List (Addr × Obj)} {s : Shared} {σ : L2.St} {H : Hp} {ι : List Addr} {h : Hh} {σA : Sl} {g : D → Hh → Res α} {Q : α → List Addr → Hh → Hp → Prop} (he : PEm X EW C e me) (I : Inv X pins σ H s) (r : RH (Wx X) ι h H) (sl : SlR (Wx X) ι h H σA σ)
    (p : Post (Wx X) EW ι h H ((ev C me σA h).bind g) Q) : wpAny (model X.prog X.w) X.A (eval e X.env) (EP X pins σ fun v H1 => ∃ ι1 h1 d, Go ι h H ι1 h1 H1 ∧ RH (Wx X) ι1 h1 H1 ∧ SlR (Wx X) ι1 h1 H1 σA σ ∧ DV (Wx X) ι1 h1 H1 d v ∧ Post (Wx X) EW ι1 h1 H1 (g d h1) Q) X.xe s :=
  he.run pins s σ H _ I ⟨ι, h, σA, r, sl, p.bind.imp fun d ι1 h1 H1 g1 r1 q v dv => ⟨ι1, h1, d, g1, r1, sl.go g1, dv, q.2.2⟩⟩
/-- o.get(e, f) -/
theorem pe_mget (hu : X.A.units + 20 < cLine) (ho : PEm X EW C o mo) (he : PEm X EW C e me) (hf : PEm X EW C f mf) (hno : notCall o = true) (hs : noStar e = true) (hs2 : noStar f = true) (hline : (apos.endLine == pos.line) = true) :
    PEm X EW C (.Call (.Attribute o "get" apos) [e, f] [] pos) (.get mo me mf) := by
  refine ⟨fun pins s σ H Q I hq => ?_⟩
  obtain ⟨ι, h, σA, r, sl, q⟩ := hq
  unfold ev at q
  refine wpAny_Call_method (base_of hno) (few2 hs hs2) hline PySem.F.plainAttrs_dict PySem.F.slot_dict_get PySem.F.type_dict_get (thn (run1 ho I r sl q) fun u s1 ⟨x, H1, I1, rx, ι1, h1, d, _, r1, sl1, dv, q1⟩ => ?_)
  cases hi : isDi d h1 with
  | false => rw [hi] at q1; exact q1.elim
  | true =>
    rw [hi, if_pos rfl] at q1
    obtain ⟨a, rfl, rfl, ti, hd⟩ := isDi_at hi r1 dv I1 rx
    refine ⟨ti, hd, ?_⟩
    rw [trees2 hs hs2]
    refine Calls.callWith_builtin rfl (Calls.evalArgs_plain (Calls.spliced_cons (thn (run1 he I1 r1 sl1 q1)
      fun ku s2 ⟨y, H2, I2, ry, ι2, h2, k, g2, r2, sl2, dk, q2⟩ => Calls.spliced_cons (thn (run1 hf I2 r2 sl2 q2)
        fun fu s3 ⟨z, H3, I3, rz, ι3, h3, t, g3, r3, _, dt, q3⟩ => Calls.spliced_nil ?_))))
    replace dk := dk.go g3
    have dv3 := (dv.go g2).go g3
    cases e1 : peek d h3 with
    | none => rw [e1] at q3; exact q3.elim
    | some p =>
      cases p with
      | dict kvs =>
        cases k with
        | r i => rw [e1] at q3; exact q3.elim
        | p k =>
          cases t with
          | r i => rw [e1] at q3; exact q3.elim
          | p t =>
            simp only [e1] at q3
            split at q3
            · rename_i hk
              obtain ⟨a', es, ea, dx, px⟩ := (show ∃ a' es, V.ref a = .ref a' ∧ _ ∧ _ from peek_tv r3 dv3 e1)
              cases ea
              exact dict_getOr hu I3 dx px hk dk ry dt rz fun v w' s' I' rv pv => ⟨v, H3, I', rv, wish.ok (d := .p ((dget kvs k).getD t)) q3 r3 pv⟩
            · exact q3.elim
      | _ => rw [e1] at q3; exact q3.elim
/-- o.pop(e) -/
theorem pe_mpop (hu : X.A.units + 20 < cLine) (ho : PEm X EW C o mo) (he : PEm X EW C e me) (hno : notCall o = true) (hs : noStar e = true) (hline : (apos.endLine == pos.line) = true) :
    PEm X EW C (.Call (.Attribute o "pop" apos) [e] [] pos) (.pop mo me) := by
  refine ⟨fun pins s σ H Q I hq => ?_⟩
  obtain ⟨ι, h, σA, r, sl, q⟩ := hq
  unfold ev at q
  refine wpAny_Call_method (base_of hno) (few1 hs) hline PySem.F.plainAttrs_dict PySem.F.slot_dict_pop PySem.F.type_dict_pop (thn (run1 ho I r sl q) fun u s1 ⟨x, H1, I1, rx, ι1, h1, d, _, r1, sl1, dv, q1⟩ => ?_)
  cases hi : isDi d h1 with
  | false => rw [hi] at q1; exact q1.elim
  | true =>
    rw [hi, if_pos rfl] at q1
    obtain ⟨a, rfl, rfl, ti, hd⟩ := isDi_at hi r1 dv I1 rx
    refine ⟨ti, hd, ?_⟩
    rw [trees1 hs]
    refine Calls.callWith_builtin rfl (Calls.evalArgs_plain (Calls.spliced_cons (thn (run1 he I1 r1 sl1 q1)
      fun ku s2 ⟨y, H2, I2, ry, ι2, h2, k, g2, r2, _, dk, q2⟩ => Calls.spliced_nil ?_)))
    have dv2 := dv.go g2
    cases d with
    | p d => exact q2.elim
    | r i =>
      cases k with
      | r j => exact q2.elim
      | p k =>
        cases e1 : h2[i]? with
        | none => simp only [e1] at q2; exact q2.elim
        | some c =>
          cases c with
          | dct kvs =>
            simp only [e1] at q2
            split at q2
            · rename_i hk
              cases e2 : dget kvs k with
              | none => rw [e2] at q2; exact q2.elim
              | some v =>
                rw [e2] at q2
                obtain ⟨a', ea, eq⟩ := dv2
                cases eq
                exact dict_pop hu I2 r2 ea e1 hk dk ry e2 fun H' z w' s' I' g r' rz pz => ⟨z, H', I', rz, q2 ι2 H' g r' z pz⟩
            · exact q2.elim
          | _ => simp only [e1] at q2; exact q2.elim
/-- o.append(e) -/
theorem pe_mapp (ho : PEm X EW C o mo) (he : PEm X EW C e me) (hno : notCall o = true) (hs : noStar e = true) (hline : (apos.endLine == pos.line) = true) :
    PEm X EW C (.Call (.Attribute o "append" apos) [e] [] pos) (.app mo me) := by
  refine ⟨fun pins s σ H Q I hq => ?_⟩
  obtain ⟨ι, h, σA, r, sl, q⟩ := hq
  unfold ev at q
  refine wpAny_Call_method (base_of hno) (few1 hs) hline PySem.F.plainAttrs_list PySem.F.slot_list_append PySem.F.type_list_append (thn (run1 ho I r sl q) fun u s1 ⟨x, H1, I1, rx, ι1, h1, d, _, r1, sl1, dv, q1⟩ => ?_)
  cases hi : isLi d h1 with
  | false => rw [hi] at q1; exact q1.elim
  | true =>
    rw [hi, if_pos rfl] at q1
    obtain ⟨a, rfl, rfl, ti, hd⟩ := isLi_at hi r1 dv I1 rx
    refine ⟨ti, hd, ?_⟩
    rw [trees1 hs]
    refine Calls.callWith_builtin rfl (Calls.evalArgs_plain (Calls.spliced_cons (thn (run1 he I1 r1 sl1 q1)
      fun ku s2 ⟨y, H2, I2, ry, ι2, h2, k, g2, r2, _, dk, q2⟩ => Calls.spliced_nil ?_)))
    have dv2 := dv.go g2
    cases d with
    | p d => exact q2.elim
    | r i =>
      cases e0 : frz k h2 with
      | none => rw [e0] at q2; exact q2.elim
      | some kp =>
        obtain ⟨kd, h3⟩ := kp
        simp only [e0] at q2
        obtain ⟨g3, r3, pk⟩ := frz_ok r2 dk e0
        cases e1 : h3[i]? with
        | none => simp only [e1] at q2; exact q2.elim
        | some c =>
          cases c with
          | lst ds =>
            simp only [e1] at q2
            split at q2
            · rename_i hn
              obtain ⟨a', ea, eq⟩ := dv2
              cases eq
              obtain ⟨vs, eH, pv⟩ := r3.cell i a _ ea e1
              have hl := PVs.length pv
              refine mt_append pins s2 σ H2 (.ref a) [y] (.ref a) [ku] Q I2 rfl (.cons ry .nil) ⟨a, vs, y, rfl, rfl, eH, by rw [sizeLine_eq]; omega, ?_⟩
              have g4 : Go ι2 h3 H2 ι2 (h3.set i (.lst (ds ++ [kd]))) (upd H2 a (.lst (vs ++ [y]))) := Go.write ea e1 (by simp)
              refine q2 ι2 _ (g3.trans g4) (r3.write ea e1 (by simp) ⟨vs ++ [y], upd_same, PVs.append (PVs.go g4.stay _ _ pv) (PVs.cons (PV.go g4.stay _ _ pk) PVs.nil)⟩) .non DVn
            · exact q2.elim
          | _ => simp only [e1] at q2; exact q2.elim
end
end Mi
/-! MiY: dict displays. -/
namespace Mi
open PySem L2 PySem.Spec PyProof.Rows
section
variable {X : Cx} {pins : List (Addr × Obj)} {s : Shared} {σ : L2.St} {H : Hp} {L : Addr → Prop} {A : Around} {E : Value → Shared → Prop}
theorem room0 {A : Around} (hu : A.units + 20 < cLine) : (nestedKind X.prog X.w).room A := by
  show A.units + 8 < cLine
  omega
/-- a pair of a display goes into the cell -/
theorem dict_set {ι : List Addr} {h : Hh} (hu : A.units + 20 < cLine) (I : Inv X pins σ H s) (r : RH (Wx X) ι h H) {i : Nat} {a : Addr} {kvs : List (P × P)} {k d : P} {y v : V} {u t : Value} {Q : Unit → Shared → Prop} (ea : ι[i]? = some a) (ec : h[i]? = some (.dct kvs)) (hk : keyIn kvs k = true) (hn : kvs.length < 16000000)
    (pv : PVx (Wx X) ι h H k y) (ry : RelV y u) (pd : PVx (Wx X) ι h H d v) (rv : RelV v t)
    (q : ∀ H' s', Inv X pins σ H' s' → Go ι h H ι (h.set i (.dct (dput kvs k d))) H' → RH (Wx X) ι (h.set i (.dct (dput kvs k d))) H' → Q () s') : wpAny (model X.prog X.w) A (PySem.dictSet a u t) Q E s := by
  obtain ⟨es, x, pk⟩ := r.cell i a _ ea ec
  have mu := DctW.mut x
  obtain ⟨hd, hz, g⟩ := dict_look I (DctW.r x) pk hk pv ry
  have hes : es.length < 16000000 := by rw [← pk.length]; exact hn
  have fin : ∀ {o : HO} {es' : List En} {s' : Shared}, Inv X pins σ (upd H a o) s' → DctW X.prog X.w (upd H a o) a es' → PVk X.prog X.w X.K (lv ι h) H (dput kvs k d) es' → Q () s' := fun {o es' s'} I' x' pk' => by
    have g : Go ι h H ι (h.set i (.dct (dput kvs k d))) (upd H a o) := Go.write ea ec (by simp)
    exact q _ s' I' g (r.write ea ec (by simp) ⟨es', x', PVk.go g.stay _ _ pk'⟩)
  rcases g with ⟨kv, vs, key, _, hkey, hy, hzk, rel, dd, nd, p, _⟩ | ⟨ys, nk, b, _, hnk, k1, rfl, is, dd, p, _⟩
  · subst hy
    have hzv : vs.length ≤ sizeLine := by rw [← rel.length]; exact hzk
    have hl : (putK kv key v).length ≤ sizeLine := by have := length_putK kv key v; have := p.length; rw [sizeLine_eq]; omega
    have pk' := dput_ok (e0 := ⟨k, kV key, v⟩) toKey (fun h1 h2 => eqv_key h1 h2) hkey rfl pv pd pk (es_key p)
    refine wpAny_dictSet_pairs (hsz := hzv) (kV_is ry) dd fun h' dd' hs => ?_
    have he : ∃ q, h'.get? a = some q := let ⟨q, _, _, hq, _⟩ := dd'; ⟨q, hq⟩
    refine fin (d_write I mu hs he (dk_new hl hd (rel.put key rv) dd')) (text_new (W := Wx X) (nodup_putK nd) ?_) pk'
    obtain ⟨i1, i2⟩ := paired_repl (tk := toKey) (R := RK) (x := key) (v := v) (g := fun z => (z.1, v)) (fun _ _ q => q.1) (fun e z q _ => ⟨q.1, q.2.1, rfl⟩) p
    unfold putK
    rw [i1]
    split
    · exact i2
    · exact paired_app p (.cons ⟨hkey, rfl, rfl⟩ .nil)
  · obtain ⟨b', rfl⟩ := key_ref (by assumption) pv
    cases (show Value.ref b = Value.ref b' from ry)
    have hzy : ys.length ≤ sizeLine := by rw [← p.length]; exact hz
    have pk' := dput_ok (e0 := ⟨k, .ref b, v⟩) toNK (fun h1 h2 => eqv_nkd h1 h2) hnk rfl pv pd pk (es_nk p)
    refine wpAny_dictSet_heap (hsz := hzy) (room0 hu) is dd fun h' dd' hs => ?_
    have he : ∃ q, h'.get? a = some q := let ⟨q, _, _, hq, _⟩ := dd'; ⟨q, hq⟩
    obtain ⟨i1, i2⟩ := paired_repl (tk := toNK) (R := RT) (x := nk) (v := v) (g := fun z => (z.1, z.2.1, t)) (fun _ _ q => q.1) (fun e z q _ => ⟨q.1, q.2.1, q.2.2.1, rv⟩) p
    have p' : Paired RT (if (es.any fun e => decide (toNK e.d = some nk)) = true then es.map (repl toNK nk v) else es ++ [⟨k, .ref b, v⟩]) (storedH ys nk b t) := by
      have e1 : (atKey ys nk).isSome = (ys.any fun z => decide (z.1 = nk)) := by
        unfold atKey
        rw [Option.isSome_map]
        exact find_any _ ys
      have e2 : (ys.map (putAt nk t)) = ys.map fun z => if z.1 = nk then (z.1, z.2.1, t) else z := rfl
      unfold storedH
      rw [e1, e2, i1]
      split
      · exact i2
      · refine paired_app p (.cons ?_ .nil)
        exact ⟨hnk, k1, rfl, rv⟩
    have hz' : (if (es.any fun e => decide (toNK e.d = some nk)) = true then es.map (repl toNK nk v) else es ++ [⟨k, .ref b, v⟩]).length ≤ sizeLine := by
      split
      · rw [List.length_map]; exact hz
      · rw [List.length_append, List.length_singleton, sizeLine_eq]; omega
    obtain ⟨xs, ok, x'⟩ := tup_new (X := X) (H := H) dd' p' (by simpa using hd) hz'
    exact fin (d_write I mu hs he ok) x' pk'
/-- the pairs of a display go into the new cell -/
theorem store_all {ι : List Addr} (hu : A.units + 20 < cLine) {i : Nat} {a : Addr} (ea : ι[i]? = some a) (vs : List (V × V)) : ∀ (ps : List P) (acc kvs : List (P × P)) (us : List (Value × Value)) (h : Hh) (s : Shared) (H : Hp) (Q : PUnit → Shared → Prop),
    Inv X pins σ H s → RH (Wx X) ι h H → h[i]? = some (.dct acc) → dmake ps acc = some kvs → PVsx (Wx X) ι h H ps (vs.flatMap fun p => [p.1, p.2]) → VV vs us → acc.length + vs.length < 16000000 →
    (∀ H' s', Inv X pins σ H' s' → Go ι h H ι (h.set i (.dct kvs)) H' → RH (Wx X) ι (h.set i (.dct kvs)) H' → Q PUnit.unit s') → wpAny (model X.prog X.w) A (storeAll a us) Q E s := by
  induction vs with
  | nil =>
    intro ps acc kvs us h s H Q I r ec em pv rel hn q
    cases rel
    have : ps = [] := List.eq_nil_of_length_eq_zero (by have := PVs.length pv; simpa using this)
    subst this
    simp only [dmake, Option.some.injEq] at em
    subst em
    unfold storeAll
    rw [List.forIn_nil]
    have hs : h.set i (.dct acc) = h := by
      obtain ⟨h1, h2⟩ := List.getElem?_eq_some_iff.mp ec
      rw [← h2]; exact List.set_getElem_self h1
    rw [hs] at q
    exact wpAny_pure (q H s I .refl r)
  | cons yv vs ih =>
    intro ps acc kvs us h s H Q I r ec em pv rel hn q
    obtain ⟨y, v⟩ := yv
    cases rel with
    | @cons _ ut _ us rr rs =>
    obtain ⟨u, t⟩ := ut
    obtain ⟨ry, rv⟩ := rr
    rcases ps with _ | ⟨k, _ | ⟨d, ps⟩⟩
    · have := PVs.length pv; simp at this
    · have := PVs.length pv; simp at this
    · simp only [dmake] at em
      split at em
      · rename_i hk
        obtain ⟨y', r', e1, p1, p2⟩ := PVs.inv pv
        obtain ⟨v', r'', e2, p3, p4⟩ := p2.inv
        simp only [List.flatMap_cons, List.cons_append, List.nil_append, List.cons.injEq] at e1
        obtain ⟨rfl, e1⟩ := e1
        rw [← e1] at e2
        simp only [List.cons.injEq] at e2
        obtain ⟨rfl, rfl⟩ := e2
        rw [List.length_cons] at hn
        unfold storeAll
        rw [List.forIn_cons]
        have hl : (dput acc k d).length ≤ acc.length + 1 := by
          unfold dput
          split
          · rw [List.length_map]; omega
          · rw [List.length_append, List.length_singleton]; omega
        have ec' : (h.set i (.dct (dput acc k d)))[i]? = some (.dct (dput acc k d)) := List.getElem?_set_self (List.getElem?_eq_some_iff.mp ec).1
        refine wpAny_bind (wpAny_bind (dict_set hu I r ea ec hk (by omega) p1 ry p3 rv fun H' s' I' g r' => wpAny_pure ?_))
        refine ih ps _ kvs us _ s' H' _ I' r' ec' em (PVs.go g.stay _ _ p4) rs (by omega) fun H2 s2 I2 g2 r2 => ?_
        rw [List.set_set] at g2 r2
        exact q H2 s2 I2 (g.trans g2) r2
      · cases em
end
/-! ### the display -/
section
variable {X : Cx} {EW : EWt} {C : Calls}
structure PPm (X : Cx) (EW : EWt) (C : Calls) (pos : Pos) (keys : List (Option Expr)) (vals : List Expr) (ms : MEs) : Prop where
  run : ∀ (pins : List (Addr × Obj)) (s : Shared) (σ : L2.St) (H : Hp) (Q : List (V × V) → Hp → Prop), Inv X pins σ H s →
    (∃ ι h σA, RH (Wx X) ι h H ∧ SlR (Wx X) ι h H σA σ ∧ Post (Wx X) EW ι h H (evs C ms σA h) fun ds ι' h' H' => ∀ vs : List (V × V), Paired (DV (Wx X) ι' h' H') ds (vs.flatMap fun p => [p.1, p.2]) → Q vs H') →
    wpAny (model X.prog X.w) X.A (evalPairs (pairTrees keys vals X.env pos)) (fun us s' => ∃ vs H', Inv X pins σ H' s' ∧ VV vs us ∧ Q vs H') X.xe s
theorem pp_nil {pos : Pos} : PPm X EW C pos [] [] .nil := ⟨fun pins s σ H Q I ⟨ι, h, σA, r, sl, p⟩ => pairTrees_nil_walk ⟨[], H, I, .nil, p ι H .refl r [] .nil⟩⟩
theorem pp_cons {pos : Pos} {k v : Expr} {ks : List (Option Expr)} {vs : List Expr} {mk mv : ME} {ms : MEs} (hk : PEm X EW C k mk) (hv : PEm X EW C v mv) (hr : PPm X EW C pos ks vs ms) : PPm X EW C pos (some k :: ks) (v :: vs) (.cons mk (.cons mv ms)) := by
  refine ⟨fun pins s σ H Q I ⟨ι, h, σA, r, sl, p⟩ => ?_⟩
  unfold evs evs at p
  refine pairTrees_cons_walk (thn (run1 hk I r sl p) fun u s1 ⟨x, H1, I1, rx, ι1, h1, d1, g1, r1, sl1, dv1, p1⟩ => ?_)
  rw [show ((ev C mv σA h1).bind fun x_1 h1 => (evs C ms σA h1).bind fun xs h2 => Res.ok (x_1 :: xs) h2).bind (fun xs h2 => Res.ok (d1 :: xs) h2) = (ev C mv σA h1).bind fun x_1 h1 => (evs C ms σA h1).bind fun xs h2 => Res.ok (d1 :: x_1 :: xs) h2 by
    cases ev C mv σA h1 with
    | bad => rfl
    | err y h2 => rfl
    | ok d2 h2 =>
      simp only [Res.bind_ok]
      cases evs C ms σA h2 <;> rfl] at p1
  refine thn (run1 hv I1 r1 sl1 p1) fun w2 s2 ⟨y, H2, I2, ry, ι2, h2, d2, g2, r2, sl2, dv2, p2⟩ => ?_
  refine thn (hr.run pins s2 σ H2 (fun vs H3 => Q ((x, y) :: vs) H3) I2 ⟨ι2, h2, σA, r2, sl2, p2.bind.imp fun ds ι3 h3 H3 g3 r3 q vs dvs => ?_⟩) fun us s3 ⟨vs, H3, I3, rel, q3⟩ => ⟨(x, y) :: vs, H3, I3, .cons ⟨rx, ry⟩ rel, q3⟩
  exact q.2.2 ι3 H3 .refl r3 ((x, y) :: vs) (.cons ((dv1.go g2).go g3) (.cons (dv2.go g3) dvs))
theorem frz_ix {d : D} {h h1 : Hh} {p : P} {i : Nat} {c : Cell} (e : frz d h = some (p, h1)) (hc : h1[i]? = some c) (nc : c ≠ .gone) : h[i]? = some c := by
  cases d with
  | p d => simp only [frz, Option.some.injEq, Prod.mk.injEq] at e; obtain ⟨rfl, rfl⟩ := e; exact hc
  | r j =>
    have : ∃ c', h1 = h.set j c' ∧ c' = .gone := by
      unfold frz at e
      simp only at e
      split at e
      · simp only [Option.some.injEq, Prod.mk.injEq] at e; exact ⟨_, e.2.symm, rfl⟩
      · simp only [Option.some.injEq, Prod.mk.injEq] at e; exact ⟨_, e.2.symm, rfl⟩
      · cases e
    obtain ⟨c', rfl, rfl⟩ := this
    by_cases z : j = i
    · subst z
      rw [List.getElem?_set] at hc
      simp only [if_true] at hc
      split at hc
      · cases hc; exact absurd rfl nc
      · cases hc
    · rwa [List.getElem?_set_ne z] at hc
theorem Post.go1 {α : Type} {W : Wd} {ι ι1 : List Addr} {h h1 : Hh} {H H1 : Hp} {r : Res α} {Q : α → List Addr → Hh → Hp → Prop} (p : Post W EW ι h H r Q) (g : Go ι h H ι1 h1 H1) : Post W EW ι1 h1 H1 r Q := by
  cases r with
  | bad => exact p
  | err y h2 => exact fun ι2 H2 g2 r2 => p ι2 H2 (g.trans g2) r2
  | ok d h2 => exact fun ι2 H2 g2 r2 => p ι2 H2 (g.trans g2) r2
theorem pe_mdct (hu : X.A.units + 20 < cLine) {pos : Pos} {keys : List (Option Expr)} {vals : List Expr} {ms : MEs} {m : Bool} (h : PPm X EW C pos keys vals ms) (hall : keys.all (·.isSome) = true) (hl : keys.length = vals.length) (h0 : keys ≠ []) (h15 : keys.length ≤ 15) (hm : ms.len ≤ 30) : PEm X EW C (.Dict keys vals pos) (.dct m ms) := by
  refine ⟨fun pins s σ H Q I ⟨ι, hh, σA, r, sl, p⟩ => ?_⟩
  unfold ev at p
  have hn := I.hok.fresh (Nat.le_refl s.heap.objs.size)
  have I1 := I.laid (a := s.heap.objs.size) (o := .dK []) (h' := s.heap.push { cls := .type "dict", data := .dict #[] }) (t' := s.toks) (fun _ _ q => Heap.get?_push_of_some _ q) (Nat.le_refl _) (dk_empty s.heap I.big)
  have g1 : Go ι hh H (ι ++ [s.heap.objs.size]) (hh ++ [Cell.dct []]) (upd H s.heap.objs.size (.dK [])) := Go.cell r hn
  have r1 := r.cellNew (c := .dct []) hn ⟨[], text_new (W := Wx X) (kv := []) (by simp) .nil, PVk.nil⟩
  have p1 := p.bind2 g1
  refine PySem.wpAny_Dict_any hall hl h0 h15 (thn (h.run pins _ σ _ (fun vs H2 => ∃ ι2 h2 ds, ds.length = ms.len ∧ Go (ι ++ [s.heap.objs.size]) (hh ++ [Cell.dct []]) (upd H s.heap.objs.size (.dK [])) ι2 h2 H2 ∧ RH (Wx X) ι2 h2 H2 ∧ Paired (DV (Wx X) ι2 h2 H2) ds (vs.flatMap fun p => [p.1, p.2]) ∧
    Post (Wx X) EW ι hh H (match frzs ds h2 with
    | some (ps, h2) => match h2[hh.length]? with
      | some (.dct []) => match dmake ps [] with
        | some kvs => if m then Res.ok (.r hh.length) (h2.set hh.length (.dct kvs)) else .ok (.p (.dict kvs)) (h2.take hh.length)
        | none => .bad
      | _ => .bad
    | none => .bad) fun d ι' h' H' => ∀ v, DV (Wx X) ι' h' H' d v → Q v H') I1 ⟨ι ++ [s.heap.objs.size], hh ++ [Cell.dct []], σA, r1, sl.go g1, ?_⟩) fun us s2 ⟨vs, H2, I2, rel, ι2, h2, ds, hlen, g2, r2, dvs, q⟩ => ?_)
  · cases e0 : evs C ms σA (hh ++ [Cell.dct []]) with
    | bad => rw [e0] at p1; exact p1
    | err y h2 => rw [e0] at p1; exact p1
    | ok ds h2 =>
      rw [e0] at p1
      exact fun ι2 H2 g2 r2 vs dvs => ⟨ι2, h2, ds, evs_len ms _ _ _ _ e0, g2, r2, dvs, (p1 ι2 H2 g2 r2).2.2⟩
  cases e1 : frzs ds h2 with
  | none => rw [e1] at q; exact q.elim
  | some z =>
    obtain ⟨ps, h3⟩ := z
    rw [e1] at q
    simp only at q
    obtain ⟨g3, r3, pv⟩ := frzs_ok r2 dvs e1
    have ea : ι2[hh.length]? = some s.heap.objs.size := by
      obtain ⟨t, rfl⟩ := g2.pre
      have := r.len
      rw [List.append_assoc, List.getElem?_append_right (by omega), this]
      simp
    cases e2 : h3[hh.length]? with
    | none => rw [e2] at q; exact q.elim
    | some c =>
      rw [e2] at q
      cases c with
      | dct l =>
        cases l with
        | nil =>
          simp only at q
          cases e3 : dmake ps [] with
          | none => rw [e3] at q; exact q.elim
          | some kvs =>
            rw [e3] at q
            simp only at q
            have hv : vs.length ≤ 15 := by
              have h1 := dvs.length
              have h2 : ∀ l : List (V × V), (l.flatMap fun p => [p.1, p.2]).length = 2 * l.length := fun l => by
                induction l with
                | nil => rfl
                | cons a l ih => rw [List.flatMap_cons, List.length_append, ih]; simp; omega
              have h3 := h2 vs
              omega
            refine store_all hu ea vs ps [] kvs us h3 s2 H2 _ I2 r3 e2 e3 pv rel (by rw [List.length_nil]; omega) fun H4 s4 I4 g4 r4 => ⟨.ref s.heap.objs.size, H4, I4, rfl, ?_⟩
            have gg := ((g1.trans g2).trans g3).trans g4
            cases m with
            | true => exact q ι2 H4 gg r4 _ ⟨_, ea, rfl⟩
            | false =>
              have e5 : frz (.r hh.length) (h3.set hh.length (.dct kvs)) = some (.dict kvs, h3.set hh.length .gone) := by
                unfold frz
                simp only
                rw [List.getElem?_set_self (List.getElem?_eq_some_iff.mp e2).1]
                simp only
                rw [List.set_set]
              obtain ⟨g5, r5, pd⟩ := frz_ok r4 (show DV (Wx X) ι2 _ H4 (.r hh.length) (.ref s.heap.objs.size) from ⟨_, ea, rfl⟩) e5
              obtain ⟨t1, t2, t3⟩ := r.take (gg.trans g5) r5
              rw [List.take_set_of_le (Nat.le_refl _)] at t1 t2 t3
              exact q ι H4 t1 t2 _ (t3 _ _ pd)
        | cons _ _ => exact q.elim
      | _ => exact q.elim
/-- {} -/
theorem pe_mdct0 {pos : Pos} {m : Bool} : PEm X EW C (.Dict [] [] pos) (.dct m .nil) := by
  refine pe_dnewK.via fun σ H Q ⟨ι, hh, σA, r, sl, p⟩ pa hn => ?_
  unfold ev evs at p
  have g1 : Go ι hh H (ι ++ [pa]) (hh ++ [Cell.dct []]) (upd H pa (.dK [])) := Go.cell r hn
  have r1 : RH (Wx X) (ι ++ [pa]) (hh ++ [Cell.dct []]) (upd H pa (.dK [])) := r.cellNew (c := .dct []) hn ⟨[], text_new (W := Wx X) (kv := []) (by simp) .nil, PVk.nil⟩
  have e2 : (hh ++ [Cell.dct []])[hh.length]? = some (.dct []) := by simp
  have ea : (ι ++ [pa])[hh.length]? = some pa := by rw [← r.len]; simp
  simp only [Res.bind_ok, frzs, e2, dmake] at p
  have hs : (hh ++ [Cell.dct []]).set hh.length (.dct []) = hh ++ [Cell.dct []] := by simp
  rw [hs] at p
  cases m with
  | true => exact p _ _ g1 r1 _ ⟨_, ea, rfl⟩
  | false =>
    have e5 : frz (.r hh.length) (hh ++ [Cell.dct []]) = some (.dict [], (hh ++ [Cell.dct []]).set hh.length .gone) := by
      unfold frz
      simp only [e2]
    obtain ⟨g5, r5, pd⟩ := frz_ok r1 (show DV (Wx X) (ι ++ [pa]) _ _ (.r hh.length) (.ref pa) from ⟨_, ea, rfl⟩) e5
    obtain ⟨t1, t2, t3⟩ := r.take (g1.trans g5) r5
    rw [List.take_set_of_le (Nat.le_refl _)] at t1 t2 t3
    exact p ι _ t1 t2 _ (t3 _ _ pd)
end
end Mi
/-! MiZ: targets, what is walked, comprehensions. -/
namespace Mi
open PySem L2 PySem.Spec PyProof.Rows
/-! ### targets -/
mutual
def MT.vars : MT → List Nat
  | .var i => [i]
  | .tup ts => MT.varsL ts
def MT.varsL : List MT → List Nat
  | [] => []
  | t :: ts => t.vars ++ MT.varsL ts
end
/-- nothing but the slots vs has changed -/
def Same (vs : List Nat) (σ σ' : L2.St) : Prop := σ'.length = σ.length ∧ ∀ i, i ∉ vs → σ'[i]? = σ[i]?
theorem Same.trans {vs ws : List Nat} {σ σ' σ'' : L2.St} (a : Same vs σ σ') (b : Same ws σ' σ'') : Same (vs ++ ws) σ σ'' :=
  ⟨b.1.trans a.1, fun i n => (b.2 i fun m => n (List.mem_append_right _ m)).trans (a.2 i fun m => n (List.mem_append_left _ m))⟩
theorem wipe_in {σ : L2.St} {i : Nat} : ∀ {vs : List Nat}, i ∈ vs → (wipe σ vs)[i]? = if i < σ.length then some none else none
  | v :: vs, h => by
    unfold wipe
    by_cases z : v = i
    · subst z
      rw [List.getElem?_set]
      simp only [if_true, wipe_length]
    · rw [List.getElem?_set_ne z]
      exact wipe_in ((List.mem_cons.mp h).resolve_left fun e => z e.symm)
theorem Same.wipe {vs ws : List Nat} {σ σ' : L2.St} (s : Same vs σ σ') (h : ∀ i ∈ vs, i ∈ ws) : wipe σ' ws = L2.wipe σ ws := by
  refine List.ext_getElem? fun i => ?_
  by_cases m : i ∈ ws
  · rw [wipe_in m, wipe_in m, s.1]
  · rw [wipe_out m, wipe_out m]
    exact s.2 i fun z => m (h i z)
theorem wipe_twice {σ : L2.St} {ws : List Nat} : wipe (wipe σ ws) ws = wipe σ ws := by
  refine List.ext_getElem? fun i => ?_
  by_cases m : i ∈ ws
  · rw [wipe_in m, wipe_in m, wipe_length]
  · rw [wipe_out m]
section
variable {W : Wd} {ι : List Addr} {h : Hh} {H : Hp}
theorem SlR.set {σA : Sl} {σ : L2.St} (s : SlR W ι h H σA σ) {d : D} {v : V} (dv : DV W ι h H d v) (i : Nat) : SlR W ι h H (σA.set i (some d)) (σ.set i (some v)) := by
  refine ⟨by rw [List.length_set, List.length_set]; exact s.1, fun j e q => ?_⟩
  by_cases z : i = j
  · subst z
    rw [List.getElem?_set] at q
    simp only [if_true] at q
    split at q
    · rename_i hl
      cases q
      exact ⟨v, by rw [List.getElem?_set]; simp only [if_true]; rw [if_pos (by rw [← s.1]; exact hl)], dv⟩
    · cases q
  · rw [List.getElem?_set_ne z] at q
    obtain ⟨u, e1, e2⟩ := s.2 j e q
    exact ⟨u, by rw [List.getElem?_set_ne z]; exact e1, e2⟩
theorem wip_length {σ : Sl} : ∀ {vs : List Nat}, (wip σ vs).length = σ.length
  | [] => rfl
  | v :: vs => by unfold wip; rw [List.length_set, wip_length]
theorem wip_some {σ : Sl} {i : Nat} {d : D} : ∀ {vs : List Nat}, (wip σ vs)[i]? = some (some d) → σ[i]? = some (some d) ∧ i ∉ vs
  | [], h => ⟨h, by simp⟩
  | v :: vs, h => by
    unfold wip at h
    rw [List.getElem?_set] at h
    split at h
    · split at h <;> cases h
    · rename_i z
      obtain ⟨h1, h2⟩ := wip_some h
      exact ⟨h1, by simp only [List.mem_cons, not_or]; exact ⟨fun e => z e.symm, h2⟩⟩
theorem SlR.wip {σA : Sl} {σ : L2.St} (s : SlR W ι h H σA σ) (vs : List Nat) : SlR W ι h H (wip σA vs) (wipe σ vs) := by
  refine ⟨by rw [wip_length, wipe_length]; exact s.1, fun j e q => ?_⟩
  obtain ⟨q1, q2⟩ := wip_some q
  obtain ⟨u, e1, e2⟩ := s.2 j e q1
  exact ⟨u, by rw [wipe_out q2]; exact e1, e2⟩
end
def tG (W : Wd) (t : MT) : TG := fun v σ H Q => ∃ ι h σA d, RH W ι h H ∧ SlR W ι h H σA σ ∧ PVx W ι h H d v ∧ match asg t d σA with
  | some σ1 => ∀ σ', SlR W ι h H σ1 σ' → Same t.vars σ σ' → Q σ' H
  | none => False
def tGs (W : Wd) (ts : List MT) : TGs := fun vs σ H Q => ∃ ι h σA ds, RH W ι h H ∧ SlR W ι h H σA σ ∧ PVsx W ι h H ds vs ∧ match asgs ts ds σA with
  | some σ1 => ∀ σ', SlR W ι h H σ1 σ' → Same (MT.varsL ts) σ σ' → Q σ' H
  | none => False
section
variable {X : Cx} {pos : Pos}
theorem pgm_var {i : Nat} {x : Str} (hN : X.N.Nodup) (hi : X.N[i]? = some x) (hx : Loc X.env.scope x) (hf : X.fn x = true ∨ X.env.scope.names.lookup x = some .local) : PG X (.Name x pos) (tG (Wx X) (.var i)) := by
  refine ⟨fun pins s σ H v u Q I r ⟨ι, h, σA, d, rh, sl, pv, q⟩ => (pg_name hN hi hx hf).run pins s σ H v u Q I r ?_⟩
  unfold asg at q
  split at q
  · rename_i σ1 e
    split at e
    · cases e
      exact q _ (sl.set (d := .p d) pv i) ⟨by rw [List.length_set], fun j n => by rw [List.getElem?_set_ne (fun z => n (by simp [MT.vars, z]))]⟩
    · cases e
  · exact q.elim
theorem assignEach_ns {e : Expr} {es : List Expr} {env : Env} (h : noStar e = true) : assignEach (e :: es) env = (false, assign e env) :: assignEach es env := by
  cases e <;> first | rfl | cases h
theorem assignEach_len {env : Env} : ∀ {es : List Expr}, es.all noStar = true → (assignEach es env).length = es.length ∧ (assignEach es env).findIdx? (·.1) = none
  | [], _ => ⟨rfl, rfl⟩
  | e :: es, h => by
    simp only [List.all_cons, Bool.and_eq_true] at h
    obtain ⟨h1, h2⟩ := assignEach_len (env := env) h.2
    rw [assignEach_ns h.1]
    refine ⟨by simp [h1], ?_⟩
    rw [List.findIdx?_cons]
    simp [h2]
theorem asgs_len : ∀ {ts : List MT} {ds : List P} {σ σ1 : Sl}, asgs ts ds σ = some σ1 → ts.length = ds.length
  | [], [], _, _, _ => rfl
  | [], _ :: _, _, _, e => by simp [asgs] at e
  | _ :: _, [], _, _, e => by simp [asgs] at e
  | t :: ts, d :: ds, σ, σ1, e => by
    unfold asgs at e
    split at e
    · simp [asgs_len e]
    · cases e
theorem pgm_nil : PGs X [] (tGs (Wx X) []) := by
  refine ⟨fun pins s σ H vs us Q I r ⟨ι, h, σA, ds, rh, sl, pv, q⟩ => pgs_nil.run pins s σ H vs us Q I r ?_⟩
  cases ds with
  | nil =>
    have : vs = [] := (show PVs _ _ _ _ _ [] vs from pv)
    subst this
    exact ⟨rfl, q σ sl ⟨rfl, fun _ _ => rfl⟩⟩
  | cons d ds => simp [asgs] at q
theorem pgm_cons {e : Expr} {es : List Expr} {t : MT} {ts : List MT} (h1 : PG X e (tG (Wx X) t)) (h2 : PGs X es (tGs (Wx X) ts)) (hs : noStar e = true) : PGs X (e :: es) (tGs (Wx X) (t :: ts)) := by
  refine ⟨fun pins s σ H vs us Q I r ⟨ι, h, σA, ds, rh, sl, pv, q⟩ => (pgs_cons h1 h2 (by rw [assignEach_ns hs]; rfl)).run pins s σ H vs us Q I r ?_⟩
  cases ds with
  | nil => simp [asgs] at q
  | cons d ds =>
    obtain ⟨v, vr, rfl, p1, p2⟩ := pv.inv
    refine ⟨v, vr, rfl, ι, h, σA, d, rh, sl, p1, ?_⟩
    unfold asgs at q
    cases e1 : asg t d σA with
    | none => rw [e1] at q; exact q
    | some σ1 =>
      rw [e1] at q
      intro σ' sl' same
      refine ⟨ι, h, σ1, ds, rh, sl', p2, ?_⟩
      cases e2 : asgs ts ds σ1 with
      | none => simp only [e2] at q
      | some σ2 =>
        simp only [e2] at q
        exact fun σ'' sl'' same' => q σ'' sl'' (same.trans same')
theorem pgm_tup {es : List Expr} {ts : List MT} {k : Nat} (hc : X.calm = true) (h : PGs X es (tGs (Wx X) ts)) (hs : es.all noStar = true) (hl : es.length = ts.length) : PG X (.Tuple es k pos) (tG (Wx X) (.tup ts)) := by
  obtain ⟨a1, a2⟩ := assignEach_len (env := X.env) hs
  refine ⟨fun pins s σ H v u Q I r ⟨ι, hh, σA, d, rh, sl, pv, q⟩ => (pg_tup (n := es.length) hc h a1 a2).run pins s σ H v u Q I r ?_⟩
  cases d with
  | tuple ds =>
    have pv : PV _ _ _ _ _ (.tuple ds) v := pv
    unfold PV at pv
    obtain ⟨a, vs, rfl, ta, pa⟩ := pv
    have q : match asgs ts ds σA with
      | some σ1 => ∀ σ', SlR (Wx X) ι hh H σ1 σ' → Same (MT.varsL ts) σ σ' → Q σ' H
      | none => False := q
    refine ⟨a, vs, rfl, ta.sq, ?_, ι, hh, σA, ds, rh, sl, pa, q⟩
    cases e2 : asgs ts ds σA with
    | none => rw [e2] at q; exact q.elim
    | some σ2 =>
      have := asgs_len e2
      have := PVs.length pa
      omega
  | _ => exact q.elim
end
end Mi
/-! MiI: what is walked. -/
namespace Mi
open PySem L2 PySem.Spec PyProof.Rows
/-- the iterator yields these data, in every later state -/
def Walk (W : Wd) (J : It) (xs : List P) (ι : List Addr) (h : Hh) (H : Hp) : Prop :=
  ∀ ι' h' H', Go ι h H ι' h' H' → RH W ι' h' H' → J.stop xs.length H' ∧ ∀ i p, xs[i]? = some p → J.go i H' ∧ ∀ x H2, J.yld i H' x H2 → Go ι' h' H' ι' h' H2 ∧ RH W ι' h' H2 ∧ PVx W ι' h' H2 p x
def tI (W : Wd) (EW : EWt) (C : Calls) (m : MI) : TI := fun σ H R =>
  ∃ ι h σA, RH W ι h H ∧ SlR W ι h H σA σ ∧ Post W EW ι h H (evi C m σA h) fun xs ι' h' H' => ∀ J, Walk W J xs ι' h' H' → R J H'
section
variable {W : Wd} {ι : List Addr} {h : Hh} {H : Hp}
theorem walk_list {a : Addr} {vs : List V} {ds : List P} (l : LstF W.K (lv ι h) H a vs) (p : PVsx W ι h H ds vs) : Walk W (Itl W.K a) ds ι h H := fun ι' h' H' g r => by
  have sq := (LstF.go g.stay l).sq
  have p' := PVs.go g.stay _ _ p
  refine ⟨⟨vs, sq, by rw [PVs.length p]; exact Nat.le_refl _⟩, fun i d e => ?_⟩
  obtain ⟨v, ev, pv⟩ := PVs.get p' e
  refine ⟨⟨vs, v, sq, ev⟩, fun x H2 ⟨eH, hx⟩ => ?_⟩
  subst eH
  have := hx vs sq
  rw [ev] at this
  cases this
  exact ⟨.refl, r, pv⟩
theorem walk_tup {a : Addr} {vs : List V} {ds : List P} (l : TupF W.K (lv ι h) H a vs) (p : PVsx W ι h H ds vs) : Walk W (Itt W.K a) ds ι h H := fun ι' h' H' g r => by
  have sq := (TupF.go g.stay l).sq
  have p' := PVs.go g.stay _ _ p
  refine ⟨⟨vs, sq, by rw [PVs.length p]; exact Nat.le_refl _⟩, fun i d e => ?_⟩
  obtain ⟨v, ev, pv⟩ := PVs.get p' e
  refine ⟨⟨vs, v, sq, ev⟩, fun x H2 ⟨eH, hx⟩ => ?_⟩
  subst eH
  have := hx vs sq
  rw [ev] at this
  cases this
  exact ⟨.refl, r, pv⟩
theorem walk_str {z : Str} : Walk W (Its z) (z.cps.toList.map fun c => .str ⟨#[c]⟩) ι h H := fun ι' h' H' g r => by
  refine ⟨by simp [Its], fun i d e => ?_⟩
  rw [List.getElem?_map, Array.getElem?_toList] at e
  obtain ⟨c, ec, rfl⟩ := Option.map_eq_some_iff.mp e
  refine ⟨(Array.getElem?_eq_some_iff.mp ec).1, fun x H2 ⟨eH, c', ec', hx⟩ => ?_⟩
  subst eH hx
  rw [ec] at ec'
  cases ec'
  exact ⟨.refl, r, PVx.str _⟩
theorem walk_rng {lo : Int} {n : Nat} : Walk W (Itr lo n) (rngP lo n) ι h H := fun ι' h' H' g r => by
  refine ⟨by simp [Itr, rngP], fun i d e => ?_⟩
  unfold rngP at e
  rw [List.getElem?_map] at e
  obtain ⟨j, ej, rfl⟩ := Option.map_eq_some_iff.mp e
  have hj : i < n ∧ j = i := by
    rw [List.getElem?_eq_some_iff] at ej
    obtain ⟨h1, h2⟩ := ej
    simp at h1 h2
    exact ⟨h1, h2.symm⟩
  obtain ⟨hj, rfl⟩ := hj
  refine ⟨hj, fun x H2 ⟨eH, hx⟩ => ?_⟩
  subst eH hx
  exact ⟨.refl, r, PVx.int _⟩
theorem enumP_get : ∀ {ds : List P} {n i : Nat} {p : P}, (enumP n ds)[i]? = some p → ∃ d, ds[i]? = some d ∧ p = .tuple [.int ((n + i : Nat) : Int), d]
  | [], _, _, _, e => by simp [enumP] at e
  | d :: ds, n, 0, p, e => by
    simp only [enumP, List.getElem?_cons_zero, Option.some.injEq] at e
    exact ⟨d, rfl, by rw [← e]; simp⟩
  | d :: ds, n, i + 1, p, e => by
    simp only [enumP, List.getElem?_cons_succ] at e
    obtain ⟨d', h1, h2⟩ := enumP_get e
    refine ⟨d', by simpa using h1, ?_⟩
    rw [h2, show n + 1 + i = n + (i + 1) by omega]
theorem enumP_len : ∀ {ds : List P} {n : Nat}, (enumP n ds).length = ds.length
  | [], _ => rfl
  | d :: ds, n => by simp [enumP, enumP_len (n := n + 1)]
theorem pv_tup {p : Addr} {vs : List V} {ds : List P} (r : RH W ι h H) (n : H p = none) (pv : PVsx W ι h H ds vs) : PVx W ι h (upd H p (.tup vs)) (.tuple ds) (.ref p) :=
  PVx.tuple (.inl ⟨newF r n, .inl upd_same⟩) (pv.new n)
theorem walk_enum {a : Addr} {vs : List V} {ds : List P} (l : LstF W.K (lv ι h) H a vs) (p : PVsx W ι h H ds vs) : Walk W (Ite W.K a) (enumP 0 ds) ι h H := fun ι' h' H' g r => by
  have sq := (LstF.go g.stay l).sq
  have p' := PVs.go g.stay _ _ p
  refine ⟨⟨vs, sq, by rw [enumP_len, PVs.length p]; exact Nat.le_refl _⟩, fun i d e => ?_⟩
  obtain ⟨d, ed, rfl⟩ := enumP_get e
  obtain ⟨v, ev, pv⟩ := PVs.get p' ed
  refine ⟨⟨vs, v, sq, ev⟩, fun x H2 ⟨T, y, ex, eT, eH, hx⟩ => ?_⟩
  subst ex eH
  have := hx vs sq
  rw [ev] at this
  cases this
  rw [Nat.zero_add]
  exact ⟨.new eT, r.new eT, pv_tup r eT (PVs.cons (PVx.int (W := W) (ι := ι') (h := h') (H := H') _) (PVs.cons pv PVs.nil))⟩
end
/-! ### the keys of a dict -/
def Itq (a : Addr) (o : Obj) (u : HO) (ks : List V) : It :=
  ⟨fun i H => H a = some (.frz o u) ∧ i < ks.length, fun i H x H' => H' = H ∧ ks[i]? = some x, fun i H => H a = some (.frz o u) ∧ ks.length ≤ i⟩
theorem turn_q {P : Program} {w : World} {K : PySem.W.Frag} {tg : Expr} {a : Addr} {o : Obj} {u : HO} {ks : List V} {des : Array DictEntry} {ep : Nat} (it : Addr) (ex : o.ExactDict) (hd : o.data = .dict des ep) (hk : Vals ks (des.toList.map (·.key))) :
    Turn P w K tg (Itq a o u ks) [it] it (fun i h => h.IsKeyIter it a i des.size ep) where
  mem := by simp
  obj := fun i h st b hb => by
    have e : b = it := by simpa using hb
    subst e
    obtain ⟨oi, e, c, dd⟩ := st
    exact ⟨oi, e, fun v z => by rw [dd] at z; cases z⟩
  keep := fun i h h' st k => st.at fun oi e => k it (by simp) oi e
  item := by
    intro X hP hw hK hc i pins s σ H E I hf st hg
    subst hP hw hK
    obtain ⟨hH, hi⟩ := hg
    obtain ⟨f0, f1, f2, f3, f4, f5⟩ := hf it (by simp)
    obtain ⟨eo, _⟩ := (show ObjOk X.prog X.w H s.heap a (.frz o u) from I.hok a _ hH)
    have hl : des.size = ks.length := by have := hk.length; simpa using this.symm
    obtain ⟨x, hx⟩ : ∃ x, ks[i]? = some x := ⟨ks[i], List.getElem?_eq_getElem hi⟩
    obtain ⟨v, hv, rv⟩ := hk.get hx
    have hi' : i < des.size := by omega
    refine PySem.wpAny_pyNext_keys_item_raw st ⟨o, eo, ex, hd⟩ hi' fun h' st' sb => ?_
    have I1 : Inv X pins σ H { s with heap := h' } := I.turned (t' := s.toks) (fun b ob hb e => (sb.2 b hb).trans e) f0 f1 f3 f4 f5
    obtain ⟨oi, e, c, dd⟩ := id st'
    have ev : des[i].key = v := by
      rw [List.getElem?_map, Array.getElem?_toList, Array.getElem?_eq_getElem hi'] at hv
      exact Option.some.inj hv
    rw [ev]
    exact ⟨v, rfl, go_of (s := { s with heap := h' }) e c dd (by decide) ⟨x, H, I1, rv, ⟨rfl, hx⟩, st', fun b hb => (hf b hb).1⟩⟩
  done := by
    intro X hP hw hK hc i pins s σ H E I hf st hg
    subst hP hw hK
    obtain ⟨hH, hi⟩ := hg
    obtain ⟨f0, f1, f2, f3, f4, f5⟩ := hf it (by simp)
    obtain ⟨eo, _⟩ := (show ObjOk X.prog X.w H s.heap a (.frz o u) from I.hok a _ hH)
    have hl : des.size = ks.length := by have := hk.length; simpa using this.symm
    exact PySem.wpAny_pyNext_keys_end_raw (I.ok.hd hc) st ⟨o, eo, ex, hd⟩ (by omega) fun h' eb => ⟨rfl, I.turned (t' := s.toks) (fun b ob hb e => eb b ob hb e) f0 f1 f3 f4 f5⟩
  self := fun A i s Q E st h => wpAny_pyIter_keyiter st h
section
variable {X : Cx} {EW : EWt} {C : Calls} {tg e e2 : Expr} {me me2 : ME}
/-- the dict at a is locked -/
theorem lock_dict {ι : List Addr} {h : Hh} {pins : List (Addr × Obj)} {s : Shared} {σ : L2.St} {H : Hp} (I : Inv X pins σ H s) (r : RH (Wx X) ι h H) {a : Addr} {es : List En} (n : ¬ lv ι h a) (x : DctR X.prog X.w H a es) :
    ∃ o u H2, Inv X pins σ H2 s ∧ Go ι h H ι h H2 ∧ RH (Wx X) ι h H2 ∧ H2 a = some (.frz o u) ∧ DctR X.prog X.w H2 a es := by
  have key : ∀ u : HO, Mut (some u) → nFz u → Rd H a u → (∀ H', Rd H' a u → DctR X.prog X.w H' a es) → ∃ o u H2, Inv X pins σ H2 s ∧ Go ι h H ι h H2 ∧ RH (Wx X) ι h H2 ∧ H2 a = some (.frz o u) ∧ DctR X.prog X.w H2 a es := fun u mu nf e k => by
    rcases e with e | ⟨o, e⟩
    · obtain ⟨o, I2⟩ := I.lock e mu
      have g : Go ι h H ι h (upd H a (.frz o u)) := ⟨List.prefix_refl _, fun b v eb nb => by
        by_cases z : b = a
        · subst z
          rw [e] at eb; cases eb
          exact ⟨_, upd_same, .inr ⟨nf, o, rfl⟩⟩
        · exact ⟨v, by rw [upd_ne z]; exact eb, .refl⟩, fun _ z => .inl z, fun _ z => upd_dom z⟩
      refine ⟨o, u, _, I2, g, ⟨r.len, r.nd, fun b m => upd_dom (r.dom b m), fun i b c eb ec => ?_⟩, upd_same, k _ (.inr ⟨o, upd_same⟩)⟩
      by_cases z : b = a
      · subst z
        cases c with
        | gone => trivial
        | _ => exact absurd ⟨i, _, eb, ec, by simp⟩ n
      · exact r.stay g eb ec (upd_ne z)
    · exact ⟨o, u, H, I, .refl, r, e, k H (.inr ⟨o, e⟩)⟩
  rcases x with ⟨kv, e, nd, p⟩ | ⟨na, z, xs, e, nd, p⟩
  · exact key (.dK kv) trivial (fun _ _ z => nomatch z) e fun H' e' => .inl ⟨kv, e', nd, p⟩
  · exact key (.ext (TDct X.prog X.w a xs)) trivial (fun _ _ z => nomatch z) e fun H' e' => .inr ⟨na, z, xs, e', nd, p⟩
theorem walk_q {ι : List Addr} {h : Hh} {H : Hp} {W : Wd} {a : Addr} {o : Obj} {u : HO} {ks : List V} {ds : List P} (n : ¬ lv ι h a) (e : H a = some (.frz o u)) (p : PVsx W ι h H ds ks) : Walk W (Itq a o u ks) ds ι h H := fun ι' h' H' g r => by
  have eH : H' a = some (.frz o u) := by
    obtain ⟨u', e', z⟩ := g.ext a _ e n
    rcases z with rfl | ⟨nf, _⟩
    · exact e'
    · exact absurd rfl (nf o u)
  have p' := PVs.go g.stay _ _ p
  refine ⟨⟨eH, by rw [PVs.length p]; exact Nat.le_refl _⟩, fun i d ed => ?_⟩
  obtain ⟨v, ev, pv⟩ := PVs.get p' ed
  refine ⟨⟨eH, (List.getElem?_eq_some_iff.mp ev).1⟩, fun x H2 ⟨e2, hx⟩ => ?_⟩
  subst e2
  rw [ev] at hx
  cases hx
  exact ⟨.refl, r, pv⟩
/-- for .. in e -/
theorem pi_mexp (he : PEm X EW C e me) : PI X tg e (tI (Wx X) EW C (.exp me)) := by
  refine ⟨fun pins s σ H R I ⟨ι, h, σA, r, sl, q⟩ => ?_⟩
  unfold evi at q
  refine thn (run1 he I r sl q) fun v s1 ⟨x, H1, I1, rx, ι1, h1, d, g1, r1, sl1, dv, q1⟩ => ?_
  cases d with
  | r i => exact q1.elim
  | p d =>
    have dv : PVx (Wx X) ι1 h1 H1 d x := dv
    cases d with
    | list ds =>
      have dv : PV _ _ _ _ _ (.list ds) x := dv
      unfold PV at dv
      obtain ⟨a, vs, rfl, l, pa⟩ := dv
      cases rx
      obtain ⟨its, rv, p, hz⟩ := I1.list l.sq
      exact wpAny_pyIter_list p.isList (pi_one (tk := s1.toks) I1 _ (turn_list a _) ⟨_, Heap.get?_push_size _ rfl, rfl, rfl⟩ (q1 ι1 H1 .refl r1 _ (walk_list l pa)))
    | tuple ds =>
      have dv : PV _ _ _ _ _ (.tuple ds) x := dv
      unfold PV at dv
      obtain ⟨a, vs, rfl, l, pa⟩ := dv
      cases rx
      obtain ⟨its, rv, p, hz⟩ := I1.tuple l.sq
      exact wpAny_pyIter_tuple (show s1.heap.IsTuple a its.toArray from p) (pi_one (tk := s1.toks) I1 _ (turn_tuple a _) ⟨_, Heap.get?_push_size _ rfl, rfl, rfl⟩ (q1 ι1 H1 .refl r1 _ (walk_tup l pa)))
    | str z =>
      have : x = .str z := dv
      subst this
      obtain ⟨t, rfl⟩ := rx
      have q2 := q1 ι1 H1 .refl r1 _ (walk_str (z := z))
      cases ha : z.cps.all (· < 128)
      · exact wpAny_pyIter_wide ha (pi_one (tk := s1.toks) I1 _ (turn_str _ z t "str_iterator" (.inr rfl)) ⟨_, Heap.get?_push_size _ rfl, rfl, rfl⟩ q2)
      · exact wpAny_pyIter_ascii ha (pi_one (tk := s1.toks) I1 _ (turn_str _ z t "str_ascii_iterator" (.inl rfl)) ⟨_, Heap.get?_push_size _ rfl, rfl, rfl⟩ q2)
    | dict kvs =>
      have dv : PV _ _ _ _ _ (.dict kvs) x := dv
      unfold PV at dv
      obtain ⟨a, es, rfl, n, l, pa⟩ := dv
      cases rx
      obtain ⟨o, u, H2, I2, g2, r2, e2, l2⟩ := lock_dict I1 r1 n l
      obtain ⟨hd, hz, _⟩ := DctR.obj I2 l2
      obtain ⟨o', des, ep, k1, k2, k3, k4⟩ := DctR.keys I2 l2
      obtain ⟨eo, _⟩ := (show ObjOk X.prog X.w H2 s1.heap a (.frz o u) from I2.hok a _ e2)
      rw [eo] at k1
      cases k1
      refine PySem.wpAny_pyIter_dict_raw hd ⟨o, eo, k2, k3⟩ (pi_one (tk := s1.toks) I2 _ (turn_q _ k2 k3 k4) ⟨_, Heap.get?_push_size _ rfl, rfl, rfl⟩ (q1 ι1 H2 g2 r2 _ (walk_q n e2 (keys_pv (PVk.go g2.stay _ _ pa)))))
    | _ => exact q1.elim
/-- for .. in range(..) -/
theorem bd_ok {i : Int} (h : bd i = true) : -(2 ^ 62) ≤ i ∧ i < 2 ^ 62 := by
  unfold bd at h
  simpa using h
theorem pi_mrng1 {p pos : Pos} (hg : Gl X "range") (hm : X.mg "range" = none) (ha : PAm X EW C [e] (.cons me .nil)) (hs : noStar e = true) : PI X tg (.Call (.Name "range" p) [e] [] pos) (tI (Wx X) EW C (.rng (.cons me .nil))) := by
  refine ⟨fun pins s σ H R I ⟨ι, h, σA, r, sl, q⟩ => (pi_range1 hg hm ha (by rw [starEach_ns hs]; rfl)).run pins s σ H R I ?_⟩
  unfold evi at q
  refine ⟨ι, h, σA, r, sl, q.len.imp fun ds ι1 h1 H1 g r1 q1 vs dvs => ?_⟩
  obtain ⟨hl, _, _, q1⟩ := q1
  cases e1 : peeks ds h1 with
  | none => rw [e1] at q1; exact q1.elim
  | some ps =>
    rw [e1] at q1
    simp only at q1
    have tv := peeks_tv r1 dvs e1
    cases e2 : rngOf ps with
    | none => rw [e2] at q1; exact q1.elim
    | some xs =>
      rw [e2] at q1
      have hp : ps.length = 1 := by rw [tv.length, ← dvs.length, hl]; rfl
      obtain ⟨p0, rfl⟩ := List.length_eq_one_iff.mp hp
      obtain ⟨x, rfl, tx⟩ := pair1 tv
      cases p0 with
      | int n =>
        simp only [rngOf] at e2
        split at e2
        · rename_i hb
          cases e2
          cases tx.int
          obtain ⟨b1, b2⟩ := bd_ok hb
          exact ⟨n, rfl, b1, b2, q1 ι1 H1 .refl r1 _ walk_rng⟩
        · cases e2
      | _ => simp [rngOf] at e2
theorem pi_mrng2 {p pos : Pos} (hg : Gl X "range") (hm : X.mg "range" = none) (ha : PAm X EW C [e, e2] (.cons me (.cons me2 .nil))) (hs : noStar e = true) (hs2 : noStar e2 = true) : PI X tg (.Call (.Name "range" p) [e, e2] [] pos) (tI (Wx X) EW C (.rng (.cons me (.cons me2 .nil)))) := by
  refine ⟨fun pins s σ H R I ⟨ι, h, σA, r, sl, q⟩ => (pi_range2 hg hm ha (by rw [starEach_ns hs, starEach_ns hs2]; rfl) (by rw [starEach_ns hs2]; rfl)).run pins s σ H R I ?_⟩
  unfold evi at q
  refine ⟨ι, h, σA, r, sl, q.len.imp fun ds ι1 h1 H1 g r1 q1 vs dvs => ?_⟩
  obtain ⟨hl, _, _, q1⟩ := q1
  cases e1 : peeks ds h1 with
  | none => rw [e1] at q1; exact q1.elim
  | some ps =>
    rw [e1] at q1
    simp only at q1
    have tv := peeks_tv r1 dvs e1
    cases e2 : rngOf ps with
    | none => rw [e2] at q1; exact q1.elim
    | some xs =>
      rw [e2] at q1
      have hp : ps.length = 2 := by rw [tv.length, ← dvs.length, hl]; rfl
      obtain ⟨p0, p1, rfl⟩ : ∃ a b, ps = [a, b] := by
        rcases ps with _ | ⟨a, _ | ⟨b, _ | ⟨c, t⟩⟩⟩
        · cases hp
        · cases hp
        · exact ⟨a, b, rfl⟩
        · simp at hp
      obtain ⟨x, y, rfl, tx, ty⟩ := pair2 tv
      cases p0 <;> cases p1 <;> try (simp [rngOf] at e2; done)
      rename_i a b
      simp only [rngOf] at e2
      split at e2
      · rename_i hb
        cases e2
        cases tx.int; cases ty.int
        rw [Bool.and_eq_true] at hb
        obtain ⟨b1, b2⟩ := bd_ok hb.1
        obtain ⟨b3, b4⟩ := bd_ok hb.2
        exact ⟨a, b, rfl, ⟨b1, b2, b3, b4⟩, q1 ι1 H1 .refl r1 _ walk_rng⟩
      · cases e2
/-- for k, x in enumerate(e) -/
theorem pi_menum {p pos tpos : Pos} {elts : List Expr} {kk : Nat} (hg : Gl X "enumerate") (hm : X.mg "enumerate" = none) (he : PEm X EW C e me) (hs : noStar e = true) : PI X (.Tuple elts kk tpos) (.Call (.Name "enumerate" p) [e] [] pos) (tI (Wx X) EW C (.enum me)) := by
  refine ⟨fun pins s σ H R I ⟨ι, h, σA, r, sl, q⟩ => (pi_enum hg hm (pa_mcons hs he pa_mnil) (by rw [starEach_ns hs]; rfl)).run pins s σ H R I ?_⟩
  unfold evi at q
  refine ⟨ι, h, σA, r, sl, ?_⟩
  have q : Post (Wx X) EW ι h H (evs C (.cons me .nil) σA h) fun ds ι1 h1 H1 => ∀ vs, Paired (DV (Wx X) ι1 h1 H1) ds vs → ∃ a xs, vs = [.ref a] ∧ SqL X.K H1 a xs ∧ R (Ite X.K a) H1 := by
    unfold evs evs
    cases e1 : ev C me σA h with
    | bad => rw [e1] at q; exact q
    | err y h1 => rw [e1] at q; exact q
    | ok d h1 =>
      rw [e1] at q
      intro ι1 H1 g1 r1 vs dvs
      obtain ⟨v, rfl, dv⟩ := pair1 dvs
      cases d with
      | r i => exact q.elim
      | p d =>
        cases d with
        | list ds =>
          have dv : PV _ _ _ _ _ (.list ds) v := dv
          unfold PV at dv
          obtain ⟨a, vs, rfl, l, pa⟩ := dv
          exact ⟨a, vs, rfl, l.sq, q ι1 H1 g1 r1 _ (walk_enum l pa)⟩
        | _ => exact q.elim
  exact q
end
end Mi
/-! MiL: list comprehensions. -/
namespace Mi
open PySem L2 PySem.Spec PyProof.Rows
def EW0 : EWt := fun _ _ _ _ => False
theorem Res.bind_assoc {α β γ : Type} (x : Res α) (f : α → Hh → Res β) (g : β → Hh → Res γ) : (x.bind f).bind g = x.bind fun a h => (f a h).bind g := by
  cases x <;> rfl
section
variable {W : Wd} {EW : EWt} {ι ι1 : List Addr} {h h1 : Hh} {H H1 : Hp}
/-- a part from which no exception comes -/
theorem Post.calm2 {α β : Type} {r : Res α} {f : α → Hh → Res β} {Q : β → List Addr → Hh → Hp → Prop} (p : Post W EW ι h H (r.calm.bind f) Q) :
    Post W EW0 ι1 h1 H1 r fun d ι2 h2 H2 => Go ι1 h1 H1 ι2 h2 H2 ∧ RH W ι2 h2 H2 ∧ Post W EW ι h H (f d h2) Q := by
  cases r with
  | bad => exact p
  | err e h2 => exact p.elim
  | ok d h2 => exact fun ι2 H2 g2 r2 => ⟨g2, r2, p⟩
theorem frz_len {d : D} {p : P} (e : frz d h = some (p, h1)) : h1.length = h.length := by
  cases d with
  | p d => simp only [frz, Option.some.injEq, Prod.mk.injEq] at e; rw [e.2]
  | r j =>
    unfold frz at e
    simp only at e
    split at e
    · simp only [Option.some.injEq, Prod.mk.injEq] at e; rw [← e.2, List.length_set]
    · simp only [Option.some.injEq, Prod.mk.injEq] at e; rw [← e.2, List.length_set]
    · cases e
end
def tTs (W : Wd) (EW : EWt) (C : Calls) (ms : MEs) : TT := fun σ H Q =>
  ∃ ι h σA, RH W ι h H ∧ SlR W ι h H σA σ ∧ Post W EW ι h H (evt C ms σA h) fun b _ _ H' => Q b H'
section
variable {X : Cx} {EW : EWt} {C : Calls}
theorem PTs.via {X : Cx} {ifs : List Expr} {t t' : TT} (h : PTs X ifs t) (k : ∀ σ H Q, t' σ H Q → t σ H Q) : PTs X ifs t' := ⟨fun pins s σ H Q I q => h.run pins s σ H Q I (k _ _ _ q)⟩
theorem pts_mnil : PTs X [] (tTs (Wx X) EW C .nil) := PTs.via pts_nil fun σ H Q ⟨ι, h, σA, r, sl, p⟩ => p ι H .refl r
theorem pts_mone {c : Expr} {mc : ME} (hc : PTm X EW C c mc) : PTs X [c] (tTs (Wx X) EW C (.cons mc .nil)) := by
  refine PTs.via (pts_one hc) fun σ H Q ⟨ι, h, σA, r, sl, p⟩ => ⟨ι, h, σA, r, sl, ?_⟩
  unfold evt at p
  cases e : truth (ev C mc σA h) with
  | bad => rw [e] at p; exact p
  | err y h1 => rw [e] at p; exact p
  | ok b h1 => rw [e] at p; cases b <;> exact p
theorem lc_end {W : Wd} {ι ι2 : List Addr} {h h2 : Hh} {H H2 : Hp} {D0 : Addr} {m : Bool} {Q : VK} (r : RH W ι h H) (g : Go ι h H ι2 h2 H2) (r2 : RH W ι2 h2 H2) (ea : ι2[h.length]? = some D0)
    (p : wish W EW ι h H (lcEnd m h.length h2) Q) : Q (.ref D0) H2 := by
  unfold lcEnd at p
  cases e : h2[h.length]? with
  | none => rw [e] at p; exact p.elim
  | some c =>
    rw [e] at p
    cases c with
    | lst ps =>
      cases m with
      | true => exact p ι2 H2 g r2 _ ⟨_, ea, rfl⟩
      | false =>
        have e5 : frz (.r h.length) h2 = some (.list ps, h2.set h.length .gone) := by
          unfold frz
          simp only [e]
        obtain ⟨g5, r5, pd⟩ := frz_ok r2 (show DV W ι2 h2 H2 (.r h.length) (.ref D0) from ⟨_, ea, rfl⟩) e5
        obtain ⟨t1, t2, t3⟩ := r.take (g.trans g5) r5
        rw [List.take_set_of_le (Nat.le_refl _)] at t1 t2 t3
        exact p ι H2 t1 t2 _ (t3 _ _ pd)
    | _ => exact p.elim
theorem lc_mk {elt : ME} {t : MT} {ifs : MEs} {it : MI} {vs : List Nat} {m : Bool} (ht : ∀ i ∈ t.vars, i ∈ vs) {σ : L2.St} {H : Hp} {Q : VK} (x : tE (Wx X) EW C (.lc m elt t it ifs vs) σ H Q) :
    tLc (tI (Wx X) EW C it) (tG (Wx X) t) (tTs (Wx X) EW0 C ifs) (tE (Wx X) EW0 C elt) vs σ H Q := by
  obtain ⟨ι, h, σA, r, sl, p⟩ := x
  unfold ev at p
  refine ⟨ι, h, σA, r, sl, p.bind.imp fun xs ι1 h1 H1 g r1 q J wj D0 hD => ?_⟩
  obtain ⟨_, _, q⟩ := q
  have g1 : Go ι1 h1 H1 (ι1 ++ [D0]) (h1 ++ [Cell.lst []]) (upd H1 D0 (.lst [])) := Go.cell r1 hD
  have r2 : RH (Wx X) (ι1 ++ [D0]) (h1 ++ [Cell.lst []]) (upd H1 D0 (.lst [])) := r1.cellNew hD ⟨[], upd_same, PVs.nil⟩
  have ea0 : (ι1 ++ [D0])[h1.length]? = some D0 := by rw [← r1.len]; simp
  refine ⟨fun i mm H' => mm = xs.length - i ∧ i ≤ xs.length ∧ ∃ ι2 h2, Go (ι1 ++ [D0]) (h1 ++ [Cell.lst []]) (upd H1 D0 (.lst [])) ι2 h2 H' ∧ RH (Wx X) ι2 h2 H' ∧
    wish (Wx X) EW ι1 h1 H1 ((lcLoop (fun x σ => asg t x σ) (fun σ h => evt C ifs σ h) (fun σ h => ev C elt σ h) h1.length (wip σA vs) (xs.drop i) h2).bind fun _ h3 => lcEnd m h1.length h3) Q,
    ⟨xs.length, by simp, Nat.zero_le _, _, _, .refl, r2, by rw [List.drop_zero]; exact q⟩, ?_⟩
  rintro i mm H2 ⟨rfl, hi, ι2, h2, g2, r3, p2⟩
  have ea : ι2[h1.length]? = some D0 := by
    obtain ⟨tl, rfl⟩ := g2.pre
    rw [List.getElem?_append_left (List.getElem?_eq_some_iff.mp ea0).1]; exact ea0
  obtain ⟨w1, w2⟩ := wj ι2 h2 H2 (g1.trans g2) r3
  by_cases hlt : i < xs.length
  · refine .inr ?_
    obtain ⟨w3, w4⟩ := w2 i xs[i] (List.getElem?_eq_getElem hlt)
    refine ⟨w3, fun H' => (∃ ι2 h2, Go (ι1 ++ [D0]) (h1 ++ [Cell.lst []]) (upd H1 D0 (.lst [])) ι2 h2 H' ∧ RH (Wx X) ι2 h2 H' ∧
      wish (Wx X) EW ι1 h1 H1 ((lcLoop (fun x σ => asg t x σ) (fun σ h => evt C ifs σ h) (fun σ h => ev C elt σ h) h1.length (wip σA vs) (xs.drop (i + 1)) h2).bind fun _ h3 => lcEnd m h1.length h3) Q), fun H' nx => ⟨_, by omega, rfl, hlt, nx⟩, fun x H' y => ?_⟩
    obtain ⟨g3, r4, pv⟩ := w4 x H' y
    rw [List.drop_eq_getElem_cons hlt] at p2
    unfold lcLoop at p2
    have sl2 := (sl.go ((g.trans g1).trans (g2.trans g3))).wip vs
    refine ⟨ι2, h2, wip σA vs, xs[i], r4, sl2, pv, ?_⟩
    cases e1 : asg t xs[i] (wip σA vs) with
    | none => rw [e1] at p2; exact p2.elim
    | some σ1 =>
      rw [e1] at p2
      simp only [Res.bind_assoc] at p2
      intro σ' sl' same
      refine ⟨(same.wipe ht).trans wipe_twice, ι2, h2, σ1, r4, sl', (Post.calm2 p2).imp fun b ι3 h3 H3 _ _ q3 => ?_⟩
      obtain ⟨g5, r5, p3⟩ := q3
      cases b with
      | false =>
        rw [if_neg (by simp)]
        exact ⟨ι3, h3, (g2.trans g3).trans g5, r5, p3⟩
      | true =>
        rw [if_pos rfl]
        simp only [if_true, Res.bind_assoc] at p3
        refine ⟨ι3, h3, σ1, r5, sl'.go g5, (Post.calm2 p3).imp fun d ι4 h4 H4 _ _ q4 y dy => ?_⟩
        obtain ⟨g6, r6, p4⟩ := q4
        cases e2 : frz d h4 with
        | none => rw [e2] at p4; exact p4.elim
        | some z =>
          obtain ⟨pp, h5⟩ := z
          rw [e2] at p4
          simp only at p4
          obtain ⟨g7, r7, pk⟩ := frz_ok r6 dy e2
          have ea4 : ι4[h1.length]? = some D0 := by
            obtain ⟨tl, rfl⟩ := (g5.trans g6).pre
            rw [List.getElem?_append_left (List.getElem?_eq_some_iff.mp ea).1]; exact ea
          cases e3 : h5[h1.length]? with
          | none => rw [e3] at p4; exact p4.elim
          | some c =>
            cases c with
            | lst acc =>
              rw [e3] at p4
              simp only at p4
              split at p4
              · rename_i hn
                obtain ⟨vacc, eH, pvs⟩ := r7.cell _ _ _ ea4 e3
                have hl := PVs.length pvs
                refine ⟨vacc, eH, by rw [sizeLine_eq]; omega, ι4, h5.set h1.length (.lst (acc ++ [pp])), ?_, ?_, p4⟩
                · exact ((((g2.trans g3).trans g5).trans g6).trans g7).trans (Go.write ea4 e3 (by simp))
                · have g8 : Go ι4 h5 H4 ι4 (h5.set h1.length (.lst (acc ++ [pp]))) (upd H4 D0 (.lst (vacc ++ [y]))) := Go.write ea4 e3 (by simp)
                  exact r7.write ea4 e3 (by simp) ⟨vacc ++ [y], upd_same, PVs.append (PVs.go g8.stay _ _ pvs) (PVs.cons (PV.go g8.stay _ _ pk) PVs.nil)⟩
              · exact p4.elim
            | _ => rw [e3] at p4; exact p4.elim
  · have e : i = xs.length := by omega
    subst e
    refine .inl ⟨w1, ?_⟩
    rw [List.drop_length] at p2
    exact lc_end (W := Wx X) r1 (g1.trans g2) r3 ea p2
end
section
variable {X : Cx} {EW : EWt} {C : Calls}
theorem PE.iff {e : Expr} {t t' : TE} (h : PE X e t) (k : ∀ σ H Q, t' σ H Q → t σ H Q) : PE X e t' := h.via k
/-- a block of a comprehension -/
abbrev Blk (X : Cx) (scope : Scope) (F : Cx → Prop) : Prop := ∀ (s : Shared) (H : Hp) (Cc : Addr) (cl : List (Str × Addr)) (fp : List Addr), F (X.blk s H scope (compEnvC scope cl Cc X.env) fp)
theorem pe_mlc {elt tg iter : Expr} {ifs : List Expr} {scope : Scope} {own : List (Str × Nat)} {pos : Pos} {me : ME} {t : MT} {it : MI} {mi : MEs} {m : Bool} {vs : List Nat} (hc : X.calm = true) (hN : X.N.Nodup) (hi : PI X tg iter (tI (Wx X) EW C it)) (ok : BlkOk X.N X.env.scope scope own) (hv : own.map (·.2) = vs) (ht : ∀ i ∈ t.vars, i ∈ vs)
    (hg : Blk X scope fun Y => PG Y tg (tG (Wx X) t)) (hts : Blk X scope fun Y => PTs Y ifs (tTs (Wx X) EW0 C mi)) (he : Blk X scope fun Y => PE Y elt (tE (Wx X) EW0 C me)) (hs : ∀ x, foldedSetIterable iter X.env x = pure x) :
    PEm X EW C (.ListComp elt [⟨tg, iter, ifs, 0⟩] scope pos) (.lc m me t it mi vs) := by
  subst hv
  exact PE.via (pe_lc (own := own) hc hN hi ok hg hts he hs) fun σ H Q x => lc_mk ht x
/-- name = [..] -/
theorem ps_mlc {elt tg iter : Expr} {ifs : List Expr} {scope : Scope} {own : List (Str × Nat)} {pos spos : Pos} {me : ME} {t : MT} {it : MI} {mi : MEs} {m : Bool} {vs : List Nat} {i : Nat} {y : Str} {py : Pos} (hc : X.calm = true) (hN : X.N.Nodup) (hy : X.N[i]? = some y) (hyl : X.env.scope.names.lookup y = some .local)
    (hsw : swapsWith (.ListComp elt [⟨tg, iter, ifs, 0⟩] scope pos) (some (.Name y py)) spos.line X.env = pure true) (hi : PI X tg iter (tI (Wx X) EW C it)) (ok : BlkOk X.N X.env.scope scope own) (hv : own.map (·.2) = vs) (ht : ∀ i ∈ t.vars, i ∈ vs)
    (hg : Blk X scope fun Y => PG Y tg (tG (Wx X) t)) (hts : Blk X scope fun Y => PTs Y ifs (tTs (Wx X) EW0 C mi)) (he : Blk X scope fun Y => PE Y elt (tE (Wx X) EW0 C me)) (hs : ∀ x, foldedSetIterable iter X.env x = pure x) :
    PS X (.Assign [.Name y py] (.ListComp elt [⟨tg, iter, ifs, 0⟩] scope pos) spos) (tAsg (tE (Wx X) EW C (.lc m me t it mi vs)) (gName i)) := by
  subst hv
  have h0 := ps_setLc (own := own) hc hN hy hyl hsw hi ok hg hts he hs
  exact ⟨fun pins s σ H D I q => h0.run pins s σ H D I (lc_mk ht q)⟩
end
end Mi
/-! MiM: statements. -/
namespace Mi
open PySem L2 PySem.Spec PyProof.Rows
def PostS (W : Wd) (EW : EWt) (ι : List Addr) (h : Hh) (H : Hp) (r : SRes) (D : Ends) : Prop :=
  match r with
  | .nx σA h' => ∀ ι' H' σ', Go ι h H ι' h' H' → RH W ι' h' H' → SlR W ι' h' H' σA σ' → D.nx σ' H'
  | .ct σA h' => ∀ ι' H' σ', Go ι h H ι' h' H' → RH W ι' h' H' → SlR W ι' h' H' σA σ' → D.ct σ' H'
  | .bk σA h' => ∀ ι' H' σ', Go ι h H ι' h' H' → RH W ι' h' H' → SlR W ι' h' H' σA σ' → D.bk σ' H'
  | .rt d h' => ∀ ι' H', Go ι h H ι' h' H' → RH W ι' h' H' → ∀ v, DV W ι' h' H' d v → D.rt v H'
  | .er e h' => ∀ ι' H', Go ι h H ι' h' H' → RH W ι' h' H' → EW e ι' h' H'
  | .bad => False
def tS (W : Wd) (EW : EWt) (C : Calls) (m : MS) : TS := fun D σ H => ∃ ι h σA, RH W ι h H ∧ SlR W ι h H σA σ ∧ PostS W EW ι h H (ex C m σA h) D
def tSs (W : Wd) (EW : EWt) (C : Calls) (m : MSs) : TS := fun D σ H => ∃ ι h σA, RH W ι h H ∧ SlR W ι h H σA σ ∧ PostS W EW ι h H (exs C m σA h) D
section
variable {W : Wd} {EW : EWt} {ι ι1 : List Addr} {h h1 : Hh} {H H1 : Hp} {D : Ends}
theorem PostS.of {α : Type} {r : Res α} {f : α → Hh → SRes} (p : PostS W EW ι h H (SRes.of r f) D) (g : Go ι h H ι1 h1 H1) : Post W EW ι1 h1 H1 r fun d ι2 h2 H2 => Go ι1 h1 H1 ι2 h2 H2 ∧ RH W ι2 h2 H2 ∧ PostS W EW ι h H (f d h2) D := by
  cases r with
  | bad => exact p
  | err e h2 => exact fun ι2 H2 g2 r2 => p ι2 H2 (g.trans g2) r2
  | ok d h2 => exact fun ι2 H2 g2 r2 => ⟨g2, r2, p⟩
theorem PostS.go (p : PostS W EW ι h H r D) (g : Go ι h H ι1 h1 H1) : PostS W EW ι1 h1 H1 r D := by
  cases r with
  | nx σA h' => exact fun ι2 H2 σ' g2 => p ι2 H2 σ' (g.trans g2)
  | ct σA h' => exact fun ι2 H2 σ' g2 => p ι2 H2 σ' (g.trans g2)
  | bk σA h' => exact fun ι2 H2 σ' g2 => p ι2 H2 σ' (g.trans g2)
  | rt d h' => exact fun ι2 H2 g2 => p ι2 H2 (g.trans g2)
  | er e h' => exact fun ι2 H2 g2 => p ι2 H2 (g.trans g2)
  | bad => exact p
theorem PostS.imp {r : SRes} {D' : Ends} (p : PostS W EW ι h H r D) (h1 : ∀ σ H', D.nx σ H' → D'.nx σ H') (h2 : ∀ σ H', D.ct σ H' → D'.ct σ H') (h3 : ∀ σ H', D.bk σ H' → D'.bk σ H') (h4 : ∀ v H', D.rt v H' → D'.rt v H') : PostS W EW ι h H r D' := by
  cases r with
  | nx σA h' => exact fun ι2 H2 σ' g r s => h1 _ _ (p ι2 H2 σ' g r s)
  | ct σA h' => exact fun ι2 H2 σ' g r s => h2 _ _ (p ι2 H2 σ' g r s)
  | bk σA h' => exact fun ι2 H2 σ' g r s => h3 _ _ (p ι2 H2 σ' g r s)
  | rt d h' => exact fun ι2 H2 g r v x => h4 _ _ (p ι2 H2 g r v x)
  | er e h' => exact p
  | bad => exact p
end
section
variable {X : Cx} {EW : EWt} {C : Calls} {pos : Pos}
theorem PS.via {st : Stmt} {t t' : TS} (h : PS X st t) (k : ∀ D σ H, t' D σ H → t D σ H) : PS X st t' := ⟨fun pins s σ H D I q => h.run pins s σ H D I (k _ _ _ q)⟩
theorem PSs.via {st : List Stmt} {t t' : TS} (h : PSs X st t) (k : ∀ D σ H, t' D σ H → t D σ H) : PSs X st t' := ⟨fun pins s σ H D I q => h.run pins s σ H D I (k _ _ _ q)⟩
abbrev PSm (X : Cx) (EW : EWt) (C : Calls) (st : Stmt) (m : MS) : Prop := PS X st (tS (Wx X) EW C m)
abbrev PSsm (X : Cx) (EW : EWt) (C : Calls) (st : List Stmt) (m : MSs) : Prop := PSs X st (tSs (Wx X) EW C m)
theorem pss_mnil : PSsm X EW C [] .nil := PSs.via pss_nil fun D σ H ⟨ι, h, σA, r, sl, p⟩ => p ι H σ .refl r sl
theorem pss_mcons {st : Stmt} {rest : List Stmt} {m : MS} {ms : MSs} (h1 : PSm X EW C st m) (h2 : PSsm X EW C rest ms) : PSsm X EW C (st :: rest) (.cons m ms) := by
  refine PSs.via (pss_cons h1 h2) fun D σ H ⟨ι, h, σA, r, sl, p⟩ => ⟨ι, h, σA, r, sl, ?_⟩
  unfold exs at p
  cases e : ex C m σA h with
  | nx σA1 h1 =>
    rw [e] at p
    exact fun ι1 H1 σ1 g r1 sl1 => ⟨ι1, h1, σA1, r1, sl1, p.go g⟩
  | _ => rw [e] at p; exact p
theorem ps_mpass : PSm X EW C (.Pass pos) .pass := PS.via ps_pass fun D σ H ⟨ι, h, σA, r, sl, p⟩ => p ι H σ .refl r sl
theorem ps_mexp {e : Expr} {me : ME} (he : PEm X EW C e me) (hn : isComp e = false) : PSm X EW C (.Expr e pos) (.exp me) := by
  refine PS.via (ps_expr he (swaps_nc hn)) fun D σ H ⟨ι, h, σA, r, sl, p⟩ => ⟨ι, h, σA, r, sl, ?_⟩
  unfold ex at p
  cases e1 : ev C me σA h with
  | bad => rw [e1] at p; exact p
  | err y h1 => rw [e1] at p; exact p
  | ok d h1 => rw [e1] at p; exact fun ι1 H1 g r1 v dv => p ι1 H1 σ g r1 (sl.go g)
theorem ps_mret {e : Expr} {me : ME} (he : PEm X EW C e me) : PSm X EW C (.Return (some e) pos) (.ret me) := by
  refine PS.via (ps_ret he) fun D σ H ⟨ι, h, σA, r, sl, p⟩ => ⟨ι, h, σA, r, sl, ?_⟩
  unfold ex at p
  cases e1 : ev C me σA h with
  | bad => rw [e1] at p; exact p
  | err y h1 => rw [e1] at p; exact p
  | ok d h1 => rw [e1] at p; exact p
theorem ps_mretN : PSm X EW C (.Return none pos) (.ret (.lit .none)) := by
  refine PS.via ps_retN fun D σ H ⟨ι, h, σA, r, sl, p⟩ => ?_
  unfold ex ev at p
  exact p ι H .refl r _ DVn
theorem ps_mite {c : Expr} {a b : List Stmt} {mc : ME} {ma mb : MSs} (hc : PTm X EW C c mc) (ha : PSsm X EW C a ma) (hb : PSsm X EW C b mb) : PSm X EW C (.If c a b pos) (.ite mc ma mb) := by
  refine PS.via (ps_if hc ha hb) fun D σ H ⟨ι, h, σA, r, sl, p⟩ => ⟨ι, h, σA, r, sl, ?_⟩
  unfold ex at p
  cases e1 : truth (ev C mc σA h) with
  | bad => rw [e1] at p; exact p
  | err y h1 => rw [e1] at p; exact p
  | ok b h1 =>
    rw [e1] at p
    intro ι1 H1 g r1
    cases b with
    | true => exact ⟨ι1, h1, σA, r1, sl.go g, PostS.go p g⟩
    | false => exact ⟨ι1, h1, σA, r1, sl.go g, PostS.go p g⟩
/-- the state behind x = e -/
theorem tS_asg {i : Nat} {me : ME} {D : Ends} {σ : L2.St} {H : Hp} (x : tS (Wx X) EW C (.asg (.var i) me) D σ H) : tAsg (tE (Wx X) EW C me) (gName i) D σ H := by
  obtain ⟨ι, h, σA, r, sl, p⟩ := x
  refine ⟨ι, h, σA, r, sl, ?_⟩
  unfold ex at p
  cases e1 : ev C me σA h with
  | bad => rw [e1] at p; exact p
  | err y h1 => rw [e1] at p; exact p
  | ok d h1 =>
    rw [e1] at p
    intro ι1 H1 g r1 v dv
    unfold asgD at p
    simp only at p
    split at p
    · rename_i σ1 e2
      split at e2
      · cases e2
        exact p ι1 H1 _ g r1 ((sl.go g).set dv i)
      · cases e2
    · exact p.elim
theorem ps_mset {i : Nat} {x : Str} {e : Expr} {me : ME} {pos' : Pos} (hN : X.N.Nodup) (hi : X.N[i]? = some x) (hx : Loc X.env.scope x) (hf : X.fn x = true ∨ X.env.scope.names.lookup x = some .local) (he : PEm X EW C e me) (hs : swapsWith e (some (.Name x pos')) pos.line X.env = pure false) : PSm X EW C (.Assign [.Name x pos'] e pos) (.asg (.var i) me) :=
  PS.via (ps_set hN hi hx he hs hf) fun D σ H x => tS_asg x
theorem ps_msetLc {elt tg iter : Expr} {ifs : List Expr} {scope : Scope} {own : List (Str × Nat)} {spos : Pos} {me : ME} {t : MT} {it : MI} {mi : MEs} {m : Bool} {vs : List Nat} {i : Nat} {y : Str} {py : Pos} (hc : X.calm = true) (hN : X.N.Nodup) (hy : X.N[i]? = some y) (hyl : X.env.scope.names.lookup y = some .local)
    (hsw : swapsWith (.ListComp elt [⟨tg, iter, ifs, 0⟩] scope pos) (some (.Name y py)) spos.line X.env = pure true) (hi : PI X tg iter (tI (Wx X) EW C it)) (ok : BlkOk X.N X.env.scope scope own) (hv : own.map (·.2) = vs) (ht : ∀ i ∈ t.vars, i ∈ vs)
    (hg : Blk X scope fun Y => PG Y tg (tG (Wx X) t)) (hts : Blk X scope fun Y => PTs Y ifs (tTs (Wx X) EW0 C mi)) (he : Blk X scope fun Y => PE Y elt (tE (Wx X) EW0 C me)) (hs : ∀ x, foldedSetIterable iter X.env x = pure x) :
    PSm X EW C (.Assign [.Name y py] (.ListComp elt [⟨tg, iter, ifs, 0⟩] scope pos) spos) (.asg (.var i) (.lc m me t it mi vs)) :=
  PS.via (ps_mlc hc hN hy hyl hsw hi ok hv ht hg hts he hs) fun D σ H x => tS_asg x
/-- (a, b, ..) = e -/
theorem ps_masg {ts : List MT} {es : List Expr} {e : Expr} {me : ME} {k : Nat} {tp : Pos} (he : PEm X EW C e me) (hg : PG X (.Tuple es k tp) (tG (Wx X) (.tup ts))) (hn : isComp e = false) (hw : ∀ vs a b, e ≠ .Tuple vs a b) : PSm X EW C (.Assign [.Tuple es k tp] e pos) (.asg (.tup ts) me) := by
  refine PS.via (ps_asg he hg (show swapsWith e (some (.Tuple es k tp)) pos.line X.env = pure false from swaps_nc hn) (by cases e <;> first | rfl | exact absurd rfl (hw _ _ _)) rfl) fun D σ H ⟨ι, h, σA, r, sl, p⟩ => ⟨ι, h, σA, r, sl, ?_⟩
  unfold ex at p
  cases e1 : ev C me σA h with
  | bad => rw [e1] at p; exact p
  | err y h1 => rw [e1] at p; exact p
  | ok d h1 =>
    rw [e1] at p
    intro ι1 H1 g r1 v dv
    cases d with
    | r i => exact p.elim
    | p d =>
      refine ⟨ι1, h1, σA, d, r1, sl.go g, dv, ?_⟩
      have p : PostS (Wx X) EW ι h H (match asg (.tup ts) d σA with
        | some σ1 => .nx σ1 h1
        | none => .bad) D := p
      cases e2 : asg (.tup ts) d σA with
      | none => rw [e2] at p; exact p
      | some σ1 =>
        rw [e2] at p
        exact fun σ' sl' _ => p ι1 H1 σ' g r1 sl'
/-! several names at once -/
theorem fm2 {F : Expr → Option Str} {a b : Expr} {x y : Str} (h1 : F a = some x) (h2 : F b = some y) : List.filterMap F [a, b] = [x, y] := by
  rw [List.filterMap_cons, h1, List.filterMap_cons, h2]; rfl
theorem fm3 {F : Expr → Option Str} {a b c : Expr} {x y z : Str} (h1 : F a = some x) (h2 : F b = some y) (h3 : F c = some z) : List.filterMap F [a, b, c] = [x, y, z] := by
  rw [List.filterMap_cons, h1, List.filterMap_cons, h2, List.filterMap_cons, h3]; rfl
theorem sw2 {a b : Expr} {k k2 : Nat} {px py tp vp : Pos} {x y : Str} {env : Env} (hk : env.scope.kind = .function) (hx : env.scope.names.lookup x = some .local) (hy : env.scope.names.lookup y = some .local) (hl : (py.line == px.line) = true) (hxy : x ≠ y)
    (ha : noStar a = true) (hb : noStar b = true) (hf : [a, b].all (foldedForSure 8) = false) (hc : [a, b].all (constantsAlone 8) = false) :
    swappedStores [.Tuple [.Name x px, .Name y py] k tp] (.Tuple [a, b] k2 vp) env = pure (some [x, y]) := by
  have hb' : env.blockKind = .function := by unfold Env.blockKind; rw [hk]; rfl
  have kx : env.kindOf x = some .local := hx
  have ky : env.kindOf y = some .local := hy
  have hst : ([a, b].any fun | .Starred .. => true | _ => false) = false := by
    rw [List.any_eq_false]
    intro e he
    have : noStar e = true := by
      simp only [List.mem_cons, List.not_mem_nil, or_false] at he
      rcases he with rfl | rfl
      · exact ha
      · exact hb
    cases e <;> simp [noStar] at this ⊢
  have e1 : (py.line == px.line) = true := hl
  have hl' : py.line = px.line := by simpa using hl
  have hyx : (y == x) = false := by simpa using Ne.symm hxy
  unfold swappedStores
  dsimp only
  split
  · rename_i h
    rw [hb'] at h
    simp at h
  · split
    · rename_i h
      exact absurd (hst.symm.trans h) (by simp)
    · split
      · rename_i h
        simp [Expr.pos, kx, ky, hl', List.eraseDups, List.eraseDupsBy, List.eraseDupsBy.loop, hyx] at h
      · rw [if_neg (show ¬ ([a, b].all (foldedForSure 8) = true) by rw [hf]; exact Bool.false_ne_true), if_neg (show ¬ ([a, b].all (constantsAlone 8) = true) by rw [hc]; exact Bool.false_ne_true)]
        have e2 : (env.kindOf x == some NameKind.local && px.line == px.line) = true := by rw [kx]; simp
        have e3 : (env.kindOf y == some NameKind.local && py.line == px.line) = true := by rw [ky, hl]; rfl
        show pure (some (List.filterMap _ [Expr.Name x px, Expr.Name y py])) = pure (some [x, y])
        congr 2
        exact fm2 (if_pos e2) (if_pos e3)
theorem sw3 {a b c : Expr} {k k2 : Nat} {px py pz tp vp : Pos} {x y z : Str} {env : Env} (hk : env.scope.kind = .function) (hx : env.scope.names.lookup x = some .local) (hy : env.scope.names.lookup y = some .local) (hz : env.scope.names.lookup z = some .local) (hl : (py.line == px.line) = true) (hl2 : (pz.line == px.line) = true) (hxy : x ≠ y) (hxz : x ≠ z) (hyz : y ≠ z)
    (ha : noStar a = true) (hb : noStar b = true) (hcs : noStar c = true) (hf : [a, b, c].all (foldedForSure 8) = false) (hc : [a, b, c].all (constantsAlone 8) = false) :
    swappedStores [.Tuple [.Name x px, .Name y py, .Name z pz] k tp] (.Tuple [a, b, c] k2 vp) env = pure (some [x, y, z]) := by
  have hb' : env.blockKind = .function := by unfold Env.blockKind; rw [hk]; rfl
  have kx : env.kindOf x = some .local := hx
  have ky : env.kindOf y = some .local := hy
  have kz : env.kindOf z = some .local := hz
  have hst : ([a, b, c].any fun | .Starred .. => true | _ => false) = false := by
    rw [List.any_eq_false]
    intro e he
    have : noStar e = true := by
      simp only [List.mem_cons, List.not_mem_nil, or_false] at he
      rcases he with rfl | rfl | rfl
      · exact ha
      · exact hb
      · exact hcs
    cases e <;> simp [noStar] at this ⊢
  have e1 : (py.line == px.line) = true := hl
  have hl' : py.line = px.line := by simpa using hl
  have hyx : (y == x) = false := by simpa using Ne.symm hxy
  have hzx : (z == x) = false := by simpa using Ne.symm hxz
  have hzy : (z == y) = false := by simpa using Ne.symm hyz
  have hl3 : pz.line = px.line := by simpa using hl2
  unfold swappedStores
  dsimp only
  split
  · rename_i h
    rw [hb'] at h
    simp at h
  · split
    · rename_i h
      exact absurd (hst.symm.trans h) (by simp)
    · split
      · rename_i h
        simp [Expr.pos, kx, ky, kz, hl', hl3, List.eraseDups, List.eraseDupsBy, List.eraseDupsBy.loop, hyx, hzx, hzy] at h
      · rw [if_neg (show ¬ ([a, b, c].all (foldedForSure 8) = true) by rw [hf]; exact Bool.false_ne_true), if_neg (show ¬ ([a, b, c].all (constantsAlone 8) = true) by rw [hc]; exact Bool.false_ne_true)]
        have e2 : (env.kindOf x == some NameKind.local && px.line == px.line) = true := by rw [kx]; simp
        have e3 : (env.kindOf y == some NameKind.local && py.line == px.line) = true := by rw [ky, hl]; rfl
        have e4 : (env.kindOf z == some NameKind.local && pz.line == px.line) = true := by rw [kz, hl2]; rfl
        show pure (some (List.filterMap _ [Expr.Name x px, Expr.Name y py, Expr.Name z pz])) = pure (some [x, y, z])
        congr 2
        exact fm3 (if_pos e2) (if_pos e3) (if_pos e4)
theorem ps_mpar {i j : Nat} {x y : Str} {a b : Expr} {ma mb : ME} {px py pt pt2 : Pos} {kt k2 : Nat} (hc : X.calm = true) (hN : X.N.Nodup) (hi : X.N[i]? = some x) (hj : X.N[j]? = some y) (hij : i ≠ j) (hk : X.env.scope.kind = .function)
    (hx : X.env.scope.names.lookup x = some .local) (hy : X.env.scope.names.lookup y = some .local) (ha : PEm X EW C a ma) (hb : PEm X EW C b mb) (hl : (py.line == px.line) = true) (hxy : x ≠ y) (hsa : noStar a = true) (hsb : noStar b = true) (hf : [a, b].all (foldedForSure 8) = false) (hco : [a, b].all (constantsAlone 8) = false) :
    PSm X EW C (.Assign [.Tuple [.Name x px, .Name y py] kt pt] (.Tuple [a, b] k2 pt2) pos) (.par i j ma mb) := by
  refine PS.via (ps_par hc hN hi hj hij hx hy (pa_mcons hsa ha (pa_mcons hsb hb pa_mnil)) (sw2 hk hx hy hl hxy hsa hsb hf hco)) fun D σ H ⟨ι, h, σA, r, sl, p⟩ => ⟨ι, h, σA, r, sl, ?_⟩
  unfold ex at p
  unfold evs evs evs
  cases e1 : ev C ma σA h with
  | bad => rw [e1] at p; exact p
  | err y h1 => rw [e1] at p; exact p
  | ok d1 h1 =>
    rw [e1] at p
    simp only [Res.bind_ok] at p ⊢
    cases e2 : ev C mb σA h1 with
    | bad => rw [e2] at p; exact p
    | err y h1 => rw [e2] at p; exact p
    | ok d2 h2 =>
      rw [e2] at p
      simp only [Res.bind_ok] at p ⊢
      intro ι1 H1 g r1 vs dvs
      obtain ⟨v, w, rfl, dv, dw⟩ := pair2 dvs
      split at p
      · exact ⟨v, w, rfl, p ι1 H1 _ g r1 (((sl.go g).set dv i).set dw j)⟩
      · exact p.elim
theorem ps_mpar3 {i j l : Nat} {x y z : Str} {a b c : Expr} {es : MEs} {px py pz pt pt2 : Pos} {kt k2 : Nat} (hc : X.calm = true) (hN : X.N.Nodup) (hi : X.N[i]? = some x) (hj : X.N[j]? = some y) (hll : X.N[l]? = some z) (hij : i ≠ j) (hil : i ≠ l) (hjl : j ≠ l) (hk : X.env.scope.kind = .function)
    (hx : X.env.scope.names.lookup x = some .local) (hy : X.env.scope.names.lookup y = some .local) (hz : X.env.scope.names.lookup z = some .local) (ha : PAm X EW C [a, b, c] es) (hl : (py.line == px.line) = true) (hl2 : (pz.line == px.line) = true) (hxy : x ≠ y) (hxz : x ≠ z) (hyz : y ≠ z)
    (hsa : noStar a = true) (hsb : noStar b = true) (hsc : noStar c = true) (hf : [a, b, c].all (foldedForSure 8) = false) (hco : [a, b, c].all (constantsAlone 8) = false) :
    PSm X EW C (.Assign [.Tuple [.Name x px, .Name y py, .Name z pz] kt pt] (.Tuple [a, b, c] k2 pt2) pos) (.asg (.tup [.var i, .var j, .var l]) (.tup es)) := by
  refine PS.via (ps_par3 hc hN hi hj hll hij hil hjl hx hy hz ha (sw3 hk hx hy hz hl hl2 hxy hxz hyz hsa hsb hsc hf hco)) fun D σ H ⟨ι, h, σA, r, sl, p⟩ => ⟨ι, h, σA, r, sl, ?_⟩
  unfold ex ev at p
  cases e1 : evs C es σA h with
  | bad => rw [e1] at p; exact p
  | err y h1 => rw [e1] at p; exact p
  | ok ds h1 =>
    rw [e1] at p
    simp only [Res.bind_ok] at p
    intro ι1 H1 g r1 vs dvs
    cases e2 : frzs ds h1 with
    | none => rw [e2] at p; exact p.elim
    | some q =>
      obtain ⟨ps, h2⟩ := q
      rw [e2] at p
      obtain ⟨g2, r2, pv⟩ := frzs_ok r1 dvs e2
      simp only [asgD, asg] at p
      cases e3 : asgs [.var i, .var j, .var l] ps σA with
      | none => rw [e3] at p; exact p.elim
      | some σ1 =>
        rw [e3] at p
        have hlen := asgs_len e3
        rcases ps with _ | ⟨d1, _ | ⟨d2, _ | ⟨d3, _ | ⟨d4, t⟩⟩⟩⟩ <;> try (simp at hlen; done)
        obtain ⟨v1, q1, rfl, p1, pv⟩ := pv.inv
        obtain ⟨v2, q2, rfl, p2, pv⟩ := pv.inv
        obtain ⟨v3, q3, rfl, p3, pv⟩ := pv.inv
        have : q3 = [] := (show PVs _ _ _ _ _ [] q3 from pv)
        subst this
        refine ⟨v1, v2, v3, rfl, ?_⟩
        have e4 : σ1 = (((σA.set i (some (.p d1))).set j (some (.p d2))).set l (some (.p d3))) := by
          simp only [asgs, asg] at e3
          split at e3
          · rename_i s1 h1
            split at h1
            · cases h1
              split at e3
              · rename_i s2 h2
                split at h2
                · cases h2
                  split at e3
                  · rename_i s3 h3
                    split at h3
                    · cases h3; cases e3; rfl
                    · cases h3
                  · cases e3
                · cases h2
              · cases e3
            · cases h1
          · cases e3
        rw [e4] at p
        exact p ι1 H1 _ (g.trans g2) r2 ((((sl.go (g.trans g2)).set (d := .p d1) p1 i).set (d := .p d2) p2 j).set (d := .p d3) p3 l)
/-- o[k] = e -/
theorem ps_mput (hu : X.A.units + 20 < cLine) {o k e : Expr} {mo mk me : ME} {pos' : Pos} (ho : PEm X EW C o mo) (hk : PEm X EW C k mk) (he : PEm X EW C e me) (hn : isComp e = false) : PSm X EW C (.Assign [.Subscript o k pos'] e pos) (.put mo mk me) := by
  refine ⟨fun pins s σ H D I ⟨ι, h, σA, r, sl, p⟩ => ?_⟩
  unfold ex at p
  refine wpAny_Assign_Subscript (thn (run1 he I r sl (PostS.of p .refl)) fun rv s1 ⟨z, H1, I1, rz, ι1, h1, d1, g1, r1, sl1, dz, p1⟩ => ?_) (swaps_nc hn)
  refine thn (run1 ho I1 r1 sl1 p1) fun ru s2 ⟨x, H2, I2, rx, ι2, h2, d2, g2, r2, sl2, dx, p2⟩ => ?_
  refine thn (run1 hk I2 r2 sl2 p2) fun rk s3 ⟨y, H3, I3, ry, ι3, h3, d3, g3, r3, sl3, dy, p3⟩ => ?_
  obtain ⟨g4, _, p3⟩ := p3 ι3 H3 .refl r3
  have dz := (dz.go g2).go g3
  have dx := dx.go g3
  have gg := (g1.trans g2).trans g3
  simp only [putD] at p3
  cases d2 with
  | p d => exact p3.elim
  | r i =>
    cases d3 with
    | r j => exact p3.elim
    | p kk =>
      simp only at p3
      cases e1 : frz d1 h3 with
      | none => rw [e1] at p3; exact p3.elim
      | some q =>
        obtain ⟨v, h4⟩ := q
        rw [e1] at p3
        simp only at p3
        obtain ⟨g5, r5, pv⟩ := frz_ok r3 dz e1
        have dy := PV.go g5.stay _ _ dy
        obtain ⟨a, ea, rfl⟩ := dx
        cases rx
        cases e2 : h4[i]? with
        | none => rw [e2] at p3; exact p3.elim
        | some c =>
          rw [e2] at p3
          cases c with
          | gone => exact p3.elim
          | dct kvs =>
            simp only at p3
            split at p3
            · rename_i hm
              rw [Bool.and_eq_true, decide_eq_true_eq] at hm
              exact dict_put hu I3 r5 ea e2 hm.1 hm.2 dy ry pv rz fun H' s' I' g6 r6 => ⟨σ, H', I', p3 ι3 H' σ ((gg.trans g5).trans g6) r6 (sl.go ((gg.trans g5).trans g6))⟩
            · exact p3.elim
          | lst ds =>
            cases kk with
            | int n =>
              simp only at p3
              cases e3 : ixN ds.length n with
              | none => rw [e3] at p3; exact p3.elim
              | some j =>
                rw [e3] at p3
                obtain ⟨vs, eH, pvs⟩ := r5.cell i a _ ea e2
                have hl := PVs.length pvs
                have : y = .int n := dy
                subst this
                refine thn (set_list pins s3 σ H3 (.ref a) (.int n) z (.ref a) rk rv (fun H' => H' = upd H3 a (.lst (vs.set j z))) I3 rfl ry rz ⟨a, vs, n, j, rfl, rfl, eH, by rw [← hl]; exact e3, rfl⟩) fun _ s4 ⟨H4, I4, eq⟩ => ?_
                subst eq
                have g6 : Go ι3 h4 H3 ι3 (h4.set i (.lst (ds.set j v))) (upd H3 a (.lst (vs.set j z))) := Go.write ea e2 (by simp)
                have r6 : RH (Wx X) ι3 (h4.set i (.lst (ds.set j v))) (upd H3 a (.lst (vs.set j z))) := r5.write ea e2 (by simp) ⟨_, upd_same, PVs.set (PVs.go g6.stay _ _ pvs) (PV.go g6.stay _ _ pv)⟩
                exact ⟨σ, _, I4, p3 ι3 _ σ ((gg.trans g5).trans g6) r6 (sl.go ((gg.trans g5).trans g6))⟩
            | _ => exact p3.elim
end
end Mi
/-! MiN: loops. -/
namespace Mi
open PySem L2 PySem.Spec PyProof.Rows
section
variable {X : Cx} {EW : EWt} {C : Calls} {pos : Pos}
theorem ps_mfor {tg iter : Expr} {body : List Stmt} {t : MT} {it : MI} {mb : MSs} (hp : PassesOwn (model X.prog X.w) X.A X.env X.xe) (hc : X.calm = true) (hi : PI X tg iter (tI (Wx X) EW C it)) (hg : PG X tg (tG (Wx X) t)) (hb : PSsm X EW C body mb) (hs : ∀ x, foldedSetIterable iter X.env x = pure x) :
    PSm X EW C (.For tg iter body [] pos) (.fr t it mb) := by
  refine PS.via (ps_for hp hc hi hg hb hs) fun D σ H ⟨ι, h, σA, r, sl, p⟩ => ⟨ι, h, σA, r, sl, ?_⟩
  unfold ex at p
  cases e0 : evi C it σA h with
  | bad => rw [e0] at p; exact p
  | err y h1 => rw [e0] at p; exact p
  | ok xs h1 =>
    rw [e0] at p
    intro ι1 H1 g r1 J wj
    refine ⟨fun i m σ' H' => m = xs.length - i ∧ i ≤ xs.length ∧ ∃ ι2 h2 σB, Go ι1 h1 H1 ι2 h2 H' ∧ RH (Wx X) ι2 h2 H' ∧ SlR (Wx X) ι2 h2 H' σB σ' ∧ PostS (Wx X) EW ι h H (forLoop (fun x σ => asg t x σ) (fun σ h => exs C mb σ h) (xs.drop i) σB h2) D,
      ⟨xs.length, by simp, Nat.zero_le _, ι1, h1, σA, .refl, r1, sl.go g, by rw [List.drop_zero]; exact p⟩, ?_⟩
    rintro i m σ2 H2 ⟨rfl, hi, ι2, h2, σB, g2, r2, sl2, p2⟩
    obtain ⟨w1, w2⟩ := wj ι2 h2 H2 g2 r2
    by_cases hlt : i < xs.length
    · obtain ⟨w3, w4⟩ := w2 i xs[i] (List.getElem?_eq_getElem hlt)
      refine .inr ⟨w3, fun σ' H' => ∃ ι2 h2 σB, Go ι1 h1 H1 ι2 h2 H' ∧ RH (Wx X) ι2 h2 H' ∧ SlR (Wx X) ι2 h2 H' σB σ' ∧ PostS (Wx X) EW ι h H (forLoop (fun x σ => asg t x σ) (fun σ h => exs C mb σ h) (xs.drop (i + 1)) σB h2) D,
        fun σ' H' nx => ⟨xs.length - (i + 1), by omega, rfl, hlt, nx⟩, fun x H' y => ?_⟩
      obtain ⟨g3, r3, pv⟩ := w4 x H' y
      rw [List.drop_eq_getElem_cons hlt] at p2
      unfold forLoop at p2
      refine ⟨ι2, h2, σB, xs[i], r3, sl2.go g3, pv, ?_⟩
      cases e1 : asg t xs[i] σB with
      | none => rw [e1] at p2; exact p2.elim
      | some σ1 =>
        rw [e1] at p2
        simp only at p2
        intro σ' sl' _
        refine ⟨ι2, h2, σ1, r3, sl', ?_⟩
        cases e2 : exs C mb σ1 h2 with
        | bad => rw [e2] at p2; exact p2
        | er e h3 => rw [e2] at p2; exact PostS.go (PostS.go (PostS.go p2 g) g2) g3
        | rt d h3 => rw [e2] at p2; exact PostS.go (PostS.go (PostS.go p2 g) g2) g3
        | bk σ3 h3 => rw [e2] at p2; exact PostS.go (PostS.go (PostS.go p2 g) g2) g3
        | nx σ3 h3 =>
          rw [e2] at p2
          exact fun ι4 H4 σ4 g4 r4 sl4 => ⟨ι4, h3, σ3, (g2.trans g3).trans g4, r4, sl4, p2⟩
        | ct σ3 h3 =>
          rw [e2] at p2
          exact fun ι4 H4 σ4 g4 r4 sl4 => ⟨ι4, h3, σ3, (g2.trans g3).trans g4, r4, sl4, p2⟩
    · have e : i = xs.length := by omega
      subst e
      rw [List.drop_length] at p2
      exact .inl ⟨w1, p2 ι2 H2 σ2 (g.trans g2) r2 sl2⟩
theorem ps_mwhl {c : Expr} {body : List Stmt} {mc : ME} {mb : MSs} (hp : PassesOwn (model X.prog X.w) X.A X.env X.xe) (hc : PTm X EW C c mc) (hb : PSsm X EW C body mb) : PSm X EW C (.While c body [] pos) (.whl mc mb) := by
  refine PS.via (ps_while hp hc hb) fun D σ H ⟨ι, h, σA, r, sl, p⟩ => ?_
  unfold ex at p
  refine ⟨fun m σ' H' => ∃ ι2 h2 σB, Go ι h H ι2 h2 H' ∧ RH (Wx X) ι2 h2 H' ∧ SlR (Wx X) ι2 h2 H' σB σ' ∧ PostS (Wx X) EW ι h H (whlLoop (fun σ h => truth (ev C mc σ h)) (fun σ h => exs C mb σ h) m σB h2) D,
    ⟨C.fuel, ι, h, σA, .refl, r, sl, p⟩, ?_⟩
  rintro m σ2 H2 ⟨ι2, h2, σB, g2, r2, sl2, p2⟩
  cases m with
  | zero => exact p2.elim
  | succ n =>
    unfold whlLoop at p2
    refine ⟨ι2, h2, σB, r2, sl2, ?_⟩
    cases e1 : truth (ev C mc σB h2) with
    | bad => rw [e1] at p2; exact p2
    | err e h3 => rw [e1] at p2; exact PostS.go p2 g2
    | ok b h3 =>
      rw [e1] at p2
      intro ι3 H3 g3 r3
      cases b with
      | false => exact p2 ι3 H3 σ2 (g2.trans g3) r3 (sl2.go g3)
      | true =>
        simp only at p2
        rw [if_pos rfl]
        refine ⟨fun σ' H' => ∃ ι2 h2 σB, Go ι h H ι2 h2 H' ∧ RH (Wx X) ι2 h2 H' ∧ SlR (Wx X) ι2 h2 H' σB σ' ∧ PostS (Wx X) EW ι h H (whlLoop (fun σ h => truth (ev C mc σ h)) (fun σ h => exs C mb σ h) n σB h2) D,
          fun σ' H' nx => ⟨n, Nat.lt_succ_self n, nx⟩, ι3, h3, σB, r3, sl2.go g3, ?_⟩
        cases e2 : exs C mb σB h3 with
        | bad => rw [e2] at p2; exact p2
        | er e h4 => rw [e2] at p2; exact PostS.go (PostS.go p2 g2) g3
        | rt d h4 => rw [e2] at p2; exact PostS.go (PostS.go p2 g2) g3
        | bk σ3 h4 => rw [e2] at p2; exact PostS.go (PostS.go p2 g2) g3
        | nx σ3 h4 =>
          rw [e2] at p2
          exact fun ι4 H4 σ4 g4 r4 sl4 => ⟨ι4, h4, σ3, (g2.trans g3).trans g4, r4, sl4, p2⟩
        | ct σ3 h4 =>
          rw [e2] at p2
          exact fun ι4 H4 σ4 g4 r4 sl4 => ⟨ι4, h4, σ3, (g2.trans g3).trans g4, r4, sl4, p2⟩
/-! a chain of two comparisons -/
theorem chain_via {o o' : CmpOp} {ma mb mc : ME} {σ : L2.St} {H : Hp} {Q : VK} (x : tE (Wx X) EW C (.chain o o' ma mb mc) σ H Q) :
    tChain (RR (Wx X) EW (F2b (cmpop o))) (RR (Wx X) EW (F2b (cmpop o'))) (tE (Wx X) EW C ma) (tE (Wx X) EW C mb) (tE (Wx X) EW C mc) σ H Q := by
  obtain ⟨ι, h, σA, r, sl, p⟩ := x
  unfold ev at p
  refine ⟨ι, h, σA, r, sl, p.bind.imp fun d ι1 h1 H1 g r1 q v dv => ⟨ι1, h1, σA, r1, sl.go g, q.2.2.bind.imp fun e ι2 h2 H2 g2 r2 q2 u du => ?_⟩⟩
  have q2 := q2.2.2
  refine ⟨ι2, h2, d, e, r2, dv.go g2, du, ?_⟩
  unfold F2b
  cases e1 : peek d h2 with
  | none => rw [e1] at q2; exact q2.elim
  | some a =>
    cases e2 : peek e h2 with
    | none => rw [e1, e2] at q2; exact q2.elim
    | some b =>
      rw [e1, e2] at q2
      simp only at q2 ⊢
      cases e3 : cmpop o a b with
      | none => rw [e3] at q2; exact q2.elim
      | some k =>
        rw [e3] at q2
        intro ι3 H3 g3 r3 v3 dv3
        refine ⟨k, dv3, ?_⟩
        cases k with
        | false =>
          rw [if_neg (by simp)]
          exact q2 ι3 H3 g3 r3 _ (DVb false)
        | true =>
          rw [if_pos rfl]
          have q3 : Post (Wx X) EW ι2 h2 H2 ((ev C mc σA h2).bind fun z h3 => F2b (cmpop o') e z h3) fun d ι' h' H' => ∀ v, DV (Wx X) ι' h' H' d v → Q v H' := q2
          exact ⟨ι3, h2, σA, r3, (((sl.go g).go g2).go g3), (q3.go1 g3).bind.imp fun z ι4 h4 H4 g4 r4 q4 w dw => ⟨ι4, h4, e, z, r4, (du.go g3).go g4, dw, q4.2.2⟩⟩
theorem pe_mchain {o o' : CmpOp} {a b c : Expr} {ma mb mc : ME} (hu : X.A.units + 70 < cLine) (ha : PEm X EW C a ma) (hb : PEm X EW C b mb) (hc : PEm X EW C c mc) (hm : lastMarks [o, o'] [b, c] = false) : PEm X EW C (.Compare a [o, o'] [b, c] pos) (.chain o o' ma mb mc) :=
  PE.via (pe_chain (op_cmpM hu o) (op_cmpM hu o') ha hb hc hm) fun σ H Q x => chain_via x
theorem pt_mchain {o o' : CmpOp} {a b c : Expr} {ma mb mc : ME} (hu : X.A.units + 70 < cLine) (ha : PEm X EW C a ma) (hb : PEm X EW C b mb) (hc : PEm X EW C c mc) (hm : lastMarks [o, o'] [b, c] = false) : PTm X EW C (.Compare a [o, o'] [b, c] pos) (.chain o o' ma mb mc) :=
  PT.via (pt_chain (op_cmpM hu o) (op_cmpM hu o') ha hb hc hm) fun σ H Q x => chain_via (tT_of x)
end
end Mi
/-! MiSs: sorted({e for t in xs for t1 in ys}). -/
namespace Mi
open PySem L2 PySem.Spec PyProof.Rows
abbrev SC (elt t0 i0 t1 i1 : Expr) (scope : Scope) (pos : Pos) : Expr := .SetComp elt [⟨t0, i0, [], 0⟩, ⟨t1, i1, [], 0⟩] scope pos
theorem scT0 (elt t0 i0 t1 i1 : Expr) (scope : Scope) (pos : Pos) (it acc : Value) (env : Env) :
    compTurn (SC elt t0 i0 t1 i1 scope pos) 0 it acc env = (do
      standAt i0.pos
      match ← pyNext it with
      | none => pure (.done .next)
      | some v =>
        letOwnedTupleGo t0 it v
        assign t0 env v
        let x ← eval i1 env
        standAt i1.pos
        let x ← foldedSetIterable i1 env x
        let _ ← runOwn (.compStart (SC elt t0 i0 t1 i1 scope pos) 1 (← holding [x] (pyIter x)) acc env) env
        again (.compLoop (SC elt t0 i0 t1 i1 scope pos) 0 it acc env)) := by
  unfold compTurn
  simp only [List.forIn_nil, pure_bind, if_true]
  rfl
theorem scT1 (elt t0 i0 t1 i1 : Expr) (scope : Scope) (pos : Pos) (it acc : Value) (env : Env) :
    compTurn (SC elt t0 i0 t1 i1 scope pos) 1 it acc env = (do
      standAt i1.pos
      match ← pyNext it with
      | none => pure (.done .next)
      | some v =>
        letOwnedTupleGo t1 it v
        assign t1 env v
        (do let v ← eval elt env; standAt elt.pos; let _ ← call (.builtin "set.add") [acc, v])
        again (.compLoop (SC elt t0 i0 t1 i1 scope pos) 1 it acc env)) := by
  unfold compTurn
  simp only [List.getElem?_cons_succ, List.getElem?_cons_zero, List.forIn_nil, pure_bind]
  rfl
section
variable {prog : Program} {w : World} {A : Around} {R : Result → Shared → Prop} {s : Shared} {elt t0 i0 t1 i1 : Expr} {scope : Scope} {pos : Pos} {it acc : Value} {env : Env}
/-- where nothing may be raised -/
abbrev NoX : Value → Shared → Prop := fun _ _ => False
/-- the loop of the first clause -/
theorem sc_out (hs : ∀ x, foldedSetIterable i1 env x = pure x) (I : Nat → Shared → Prop)
    (turn : ∀ n s, I n s → wpAny (model prog w) A (pyNext it) (fun r s₁ => match r with
      | none => R (.ok .next) s₁
      | some v => wpAny (model prog w) A (letOwnedTupleGo t0 it v) (fun _ s₂ => wpAny (model prog w) A (assign t0 env v) (fun _ s₃ => wpAny (model prog w) A (eval i1 env) (fun x s₄ => wpAny (model prog w) A (pyIter x) (fun it1 s₅ =>
          codeAny (model prog w) A (.compStart (SC elt t0 i0 t1 i1 scope pos) 1 it1 acc env) (fun r s' => (∃ f, r = .ok f) ∧ ∃ m, m < n ∧ I m s') s₅) NoX s₄) NoX s₃) NoX s₂) NoX s₁) NoX s)
    (n : Nat) (h : I n s) : codeAny (model prog w) A (.compLoop (SC elt t0 i0 t1 i1 scope pos) 0 it acc env) R s := by
  refine codeAny_loop rfl I (fun n s hI => ?_) n h
  show wpAny _ A ((compTurn (SC elt t0 i0 t1 i1 scope pos) 0 it acc env).onRaise (fun x => do noteFrame x env; theTreesLotGoes x)) _ _ s
  refine wpAny_noted ?_
  rw [scT0]
  refine wpAny_bind (wpAny_standAt (wpAny_bind (thnF (turn n s hI) fun r s₁ h₁ => ?_)))
  cases r with
  | none => exact wpAny_pure h₁
  | some v =>
    refine wpAny_bind (thnF h₁ fun _ s₂ h₂ => ?_)
    refine wpAny_bind (thnF h₂ fun _ s₃ h₃ => wpAny_bind (thnF h₃ fun x s₄ h₄ => ?_))
    refine wpAny_bind (wpAny_standAt (wpAny_bind (wpAny_of_eq (hs x) (wpAny_bind (wpAny_holding (thnF h₄ fun it1 s₅ h₅ => ?_))))))
    refine wpAny_bind (wpAny_runOwn ?_)
    rw [Around.mark_none]
    refine codeAny_mono h₅ fun r s' hr => ?_
    obtain ⟨⟨f, rfl⟩, hr⟩ := hr
    first
      | exact wpAny_pure ⟨rfl, hr⟩
      | exact wpAny_bind (wpAny_pure (wpAny_pure ⟨rfl, hr⟩))
/-- the loop of the second -/
theorem sc_in (I : Nat → Shared → Prop)
    (turn : ∀ n s, I n s → wpAny (model prog w) A (pyNext it) (fun r s₁ => match r with
      | none => R (.ok .next) s₁
      | some v => wpAny (model prog w) A (letOwnedTupleGo t1 it v) (fun _ s₂ => wpAny (model prog w) A (assign t1 env v) (fun _ s₃ => wpAny (model prog w) A (eval elt env) (fun x s₄ =>
          wpAny (model prog w) A (call (.builtin "set.add") [acc, x]) (fun _ s₅ => ∃ m, m < n ∧ I m s₅) NoX s₄) NoX s₃) NoX s₂) NoX s₁) NoX s)
    (n : Nat) (h : I n s) : codeAny (model prog w) A (.compLoop (SC elt t0 i0 t1 i1 scope pos) 1 it acc env) R s := by
  refine codeAny_loop rfl I (fun n s hI => ?_) n h
  show wpAny _ A ((compTurn (SC elt t0 i0 t1 i1 scope pos) 1 it acc env).onRaise (fun x => do noteFrame x env; theTreesLotGoes x)) _ _ s
  refine wpAny_noted ?_
  rw [scT1]
  refine wpAny_bind (wpAny_standAt (wpAny_bind (thnF (turn n s hI) fun r s₁ h₁ => ?_)))
  cases r with
  | none => exact wpAny_pure h₁
  | some v =>
    refine wpAny_bind (thnF h₁ fun _ s₂ h₂ => ?_)
    refine wpAny_bind (thnF h₂ fun _ s₃ h₃ => wpAny_bind (wpAny_bind (thnF h₃ fun x s₄ h₄ => ?_)))
    exact wpAny_bind (wpAny_standAt (wpAny_bind (thnF h₄ fun _ s₅ h₅ => wpAny_pure (wpAny_pure ⟨rfl, h₅⟩))))
/-- a clause's start -/
theorem sc_start {k : Nat} (hk : k = 0 ∨ k = 1) (h0 : codeAny (model prog w) A (.compLoop (SC elt t0 i0 t1 i1 scope pos) k it acc env) R s)
    (h : wpAny (model prog w) A (pyIter it) (fun it' s' => codeAny (model prog w) A (.compLoop (SC elt t0 i0 t1 i1 scope pos) k it' acc env) R s') (notedBy (model prog w) A env fun x s' => R (.error x) s') s) :
    codeAny (model prog w) A (.compStart (SC elt t0 i0 t1 i1 scope pos) k it acc env) R s := by
  refine codeAny_of_tree ?_
  show wpAny _ _ ((compStart (SC elt t0 i0 t1 i1 scope pos) k it acc env).onRaise (fun x => do noteFrame x env; standAt theWindowsPlace)) _ _ s
  refine wpAny_notedAt ?_
  have e : compStart (SC elt t0 i0 t1 i1 scope pos) k it acc env = (do
      if (← ask).params.followText "comprehension-iter-twice" then return ← again (.compLoop (SC elt t0 i0 t1 i1 scope pos) k it acc env)
      rule "comprehension.iter-twice"
      standAt (if k = 0 then i0 else i1).pos
      again (.compLoop (SC elt t0 i0 t1 i1 scope pos) k (← pyIter it) acc env)) := by
    rcases hk with rfl | rfl <;> rfl
  rw [e]
  refine wpAny_bind (wpAny_askSetting (wpAny_ite ?_))
  split
  · first
      | exact wpAny_bind (wpAny_pure (wpAny_pure (And.intro rfl h0)))
      | exact wpAny_pure (And.intro rfl h0)
  · refine wpAny_bind (wpAny_rule ?_)
    exact wpAny_bind (wpAny_standAt (wpAny_bind (wpAny_mono h (fun it' s' h' => wpAny_pure (And.intro rfl h')) fun _ _ x => x)))
end
/-! ### the members -/
structure Bag (prog : Program) (w : World) (tp : Bool) where
  O : Obj → List (P × Value) → Prop
  Is : Heap → P → Value → Prop
  noCell : ∀ {o L}, O o L → ∀ v, o.data ≠ .cell v
  walk : ∀ {o L}, O o L → ∃ es ep t, o.cls = .type "set" ∧ o.data = .set es ep t ∧ t.fits es.size = true ∧ es.size < scanBound ∧ Ris t.place.toList ∧ (w.params.followText "set-order" = true ∨ t.led = true) ∧ (es.toList.map (·.2)).Perm (L.map (·.2))
  fresh : O { cls := .type "set", dict := none, data := .set #[] 0 (.fresh 0 0 (!w.params.followText "set-order")) } []
  is : ∀ {Y : Cx} {pins : List (Addr × Obj)} {σ : L2.St} {H : Hp} {s : Shared} {ι : List Addr} {h : Hh} {d : P} {v : V} {u : Value}, Inv Y pins σ H s → Y.prog = prog → Y.w = w → bagB tp d = true → PVx (Wx Y) ι h H d v → RelV v u → Is s.heap d u
  add : ∀ {A : Around} {E : Value → Shared → Prop} {s : Shared} {D0 : Addr} {o : Obj} {L : List (P × Value)} {d : P} {u : Value} {Q : Value → Shared → Prop}, s.heap.get? D0 = some o → O o L → bagB tp d = true → (∀ p ∈ L, bagB tp p.1 = true ∧ Is s.heap p.1 p.2) → Is s.heap d u → L.length < 60 → A.units + 20 < cLine →
    (∀ o' L' h' tk, h'.get? D0 = some o' → Heap.SameBut D0 s.heap h' → O o' L' → ((L.any fun p => PyData.eqv p.1 d) = true → L' = L) → ((L.any fun p => PyData.eqv p.1 d) = false → L'.Perm ((d, u) :: L)) → Q .none { s with heap := h', toks := tk }) → wpAny (model prog w) A (call (.builtin "set.add") [.ref D0, u]) Q E s
def Mem (W : Wd) (tp : Bool) (ι : List Addr) (h : Hh) (H : Hp) (L : List (P × Value)) : Prop := ∀ p ∈ L, bagB tp p.1 = true ∧ ∃ v, RelV v p.2 ∧ PVx W ι h H p.1 v
theorem Mem.go {W : Wd} {tp : Bool} {ι ι' : List Addr} {h h' : Hh} {H H' : Hp} {L : List (P × Value)} (m : Mem W tp ι h H L) (g : Go ι h H ι' h' H') : Mem W tp ι' h' H' L := fun p hp => let ⟨a, v, b, c⟩ := m p hp; ⟨a, v, b, PV.go g.stay _ _ c⟩
/-- the set at D0 has the members acc -/
structure Has {prog : Program} {w : World} {tp : Bool} (Bg : Bag prog w tp) (W : Wd) (D0 : Addr) (ι : List Addr) (h : Hh) (H : Hp) (hp : Heap) (acc : List P) : Prop where
  ex : ∃ o L, hp.get? D0 = some o ∧ Bg.O o L ∧ Mem W tp ι h H L ∧ (L.map (·.1)).Perm acc ∧ acc.Pairwise fun a b => PyData.eqv a b = false
theorem Has.go {prog : Program} {w : World} {tp : Bool} {Bg : Bag prog w tp} {W : Wd} {D0 : Addr} {ι ι' : List Addr} {h h' : Hh} {H H' : Hp} {hp hp' : Heap} {acc : List P} (x : Has Bg W D0 ι h H hp acc) (g : Go ι h H ι' h' H') (k : ∀ o, hp.get? D0 = some o → hp'.get? D0 = some o) : Has Bg W D0 ι' h' H' hp' acc := by
  obtain ⟨o, L, a, b, c, d⟩ := x.ex
  exact ⟨o, L, k o a, b, c.go g, d⟩
theorem bag_ne {acc : List P} {d : P} (h : acc.Pairwise fun a b => PyData.eqv a b = false) : (bagAdd acc d).Pairwise fun a b => PyData.eqv a b = false := by
  unfold bagAdd
  cases hc : (acc.any fun z => PyData.eqv z d) with
  | true => exact h
  | false =>
    refine List.pairwise_append.mpr ⟨h, List.pairwise_singleton _ _, fun a ha b hb => ?_⟩
    rw [List.mem_singleton.mp hb]
    have := List.any_eq_false.mp hc a ha
    simpa using this
theorem perm_any {L : List (P × Value)} {acc : List P} (h : (L.map (·.1)).Perm acc) (f : P → Bool) : (L.any fun q => f q.1) = acc.any f := by
  rw [Bool.eq_iff_iff, List.any_eq_true, List.any_eq_true]
  constructor
  · rintro ⟨q, a, b⟩
    exact ⟨q.1, h.mem_iff.mp (List.mem_map_of_mem a), b⟩
  · rintro ⟨z, a, b⟩
    obtain ⟨q, c, rfl⟩ := List.mem_map.mp (h.mem_iff.mpr a)
    exact ⟨q, c, b⟩
section
variable {X : Cx} {C : Calls} {EW : EWt}
theorem pins_D {hp : Heap} {D0 : Addr} {o : Obj} (e : hp.get? D0 = some o) : pinsAt [D0] hp = [(D0, o)] := by
  unfold pinsAt
  simp [e]
theorem sc_core {tp : Bool} (Bg : Bag X.prog X.w tp) {pins : List (Addr × Obj)} {s : Shared} {σ : L2.St} {H : Hp} {elt tg iter tg1 iter1 : Expr} {scope : Scope} {own : List (Str × Nat)} {pos : Pos} {me : ME} {t t1 : MT} {it it1 : MI} {vs vs1 : List Nat} {ι : List Addr} {h : Hh} {σA : Sl} {α : Type} {F : List P → Hh → Res α} {QQ : α → List Addr → Hh → Hp → Prop}
    (hc : X.calm = true) (hu : X.A.units + 20 < cLine) (hN : X.N.Nodup) (I : Inv X pins σ H s) (hi : PI X tg iter (tI (Wx X) EW C it)) (ok : BlkOk X.N X.env.scope scope own) (hv : own.map (·.2) = vs) (hv1 : ∀ i ∈ vs1, i ∈ vs) (ht : ∀ i ∈ t.vars, i ∈ vs) (ht1 : ∀ i ∈ t1.vars, i ∈ vs1)
    (hg : Blk X scope fun Y => PG Y tg (tG (Wx X) t)) (hi1 : Blk X scope fun Y => PI Y tg1 iter1 (tI (Wx X) EW0 C it1)) (hg1 : Blk X scope fun Y => PG Y tg1 (tG (Wx X) t1)) (he : Blk X scope fun Y => PE Y elt (tE (Wx X) EW0 C me))
    (hs : ∀ x, foldedSetIterable iter X.env x = pure x) (hs1 : ∀ env x, foldedSetIterable iter1 env x = pure x) (r : RH (Wx X) ι h H) (sl : SlR (Wx X) ι h H σA σ)
    (p : Post (Wx X) EW ι h H ((evi C it σA h).bind fun xs h1 => (ssLoop tp (fun x σ => asg t x σ) (fun σ h => evi C it1 σ h) (fun x σ => asg t1 x σ) (fun σ h => ev C me σ h) vs1 (wip σA vs) xs [] h1).bind F) QQ) :
    wpAny (model X.prog X.w) X.A (eval (SC elt tg iter tg1 iter1 scope pos) X.env) (fun u s' => ∃ D0 H' ι' h' acc, u = .ref D0 ∧ Inv X pins σ H' s' ∧ Go ι h H ι' h' H' ∧ RH (Wx X) ι' h' H' ∧ Has Bg (Wx X) D0 ι' h' H' s'.heap acc ∧ Post (Wx X) EW ι' h' H' (F acc h') QQ) X.xe s := by
  subst hv
  have hfree : ∀ y ∈ scope.names, y.2 = .free → ∃ c, X.env.cells.lookup y.1 = some c := fun y hy e => by
    rcases ok.free y hy e with k | k
    · exact I.ok.has _ (.inl k)
    · exact I.ok.has _ (.inr k)
  rw [arm_eval_SetComp]
  refine wpAny_comprehension_free (use := none) rfl hs (closure_ok hfree) ok.kind (fun y hy e => by rw [ok.uniq y hy, e])
    (thn (hi.run pins s σ H (fun J H2 => ∃ xs ι1 h1, Walk (Wx X) J xs ι1 h1 H2 ∧ Go ι h H ι1 h1 H2 ∧ RH (Wx X) ι1 h1 H2 ∧ Post (Wx X) EW ι1 h1 H2 ((ssLoop tp (fun x σ => asg t x σ) (fun σ h => evi C it1 σ h) (fun x σ => asg t1 x σ) (fun σ h => ev C me σ h) vs1 (wip σA (own.map (·.2))) xs [] h1).bind F) QQ) I
      ⟨ι, h, σA, r, sl, p.bind.imp fun xs ι1 h1 H1 g1 r1 q J wj => ⟨xs, ι1, h1, wj, q.1, q.2.1, q.2.2⟩⟩) fun xv s1 hx => thn hx fun itv s2 h2 => ?_)
  obtain ⟨itA, fp, tn, J, H2, e, I2, T, st2, f2, xs, ι1, h1, wj, g1, r1, p1⟩ := h2
  subst e
  refine PySem.wpAny_newSet_raw fun led hled => newEnv_comp ?_
  subst hled
  generalize hD : s2.heap.objs.size = D0
  have hDn : H2 D0 = none := I2.hok.fresh (Nat.le_of_eq hD)
  generalize hs3 : ({ s2 with heap := s2.heap.push { cls := .type "set", dict := none, data := .set #[] 0 (.fresh 0 0 (!X.w.params.followText "set-order")) } } : Shared) = s3
  have h3 : s3.heap = s2.heap.push { cls := .type "set", dict := none, data := .set #[] 0 (.fresh 0 0 (!X.w.params.followText "set-order")) } := by rw [← hs3]
  have I3 : Inv X pins σ H2 s3 := by
    rw [← hs3]
    exact I2.kept (t' := s2.toks) fun b o e => Heap.get?_push_of_some _ e
  have eD3 : s3.heap.get? D0 = some { cls := .type "set", dict := none, data := .set #[] 0 (.fresh 0 0 (!X.w.params.followText "set-order")) } := by
    rw [h3, ← hD]
    exact Heap.get?_push_size _ rfl
  have small : ∀ b ∈ fp, b < D0 := fun b hb => by
    obtain ⟨o, e, _⟩ := T.obj _ _ st2 b hb
    rw [← hD]
    exact Heap.lt_size e
  have f3 : ∀ b ∈ D0 :: fp, FpOk X pins H2 b ∧ b < s3.heap.objs.size := fun b hb => by
    rcases List.mem_cons.mp hb with rfl | hb
    · exact ⟨I2.fpOk (Nat.le_of_eq hD) hDn, Heap.lt_size eD3⟩
    · exact ⟨f2 b hb, Nat.lt_trans (small b hb) (Heap.lt_size eD3)⟩
  have st3 : tn 0 s3.heap := T.keep _ _ _ st2 fun b _ o e => by rw [h3]; exact Heap.get?_push_of_some _ e
  have I4 := block_start I3 ok hN f3
  have pg := hg s3 H2 s3.heap.objs.size (cellsFrom (s3.heap.objs.size + 1) scope.names (cloFrom X.env.cells scope.names [])) (D0 :: fp)
  have pe := he s3 H2 s3.heap.objs.size (cellsFrom (s3.heap.objs.size + 1) scope.names (cloFrom X.env.cells scope.names [])) (D0 :: fp)
  have pi1 := hi1 s3 H2 s3.heap.objs.size (cellsFrom (s3.heap.objs.size + 1) scope.names (cloFrom X.env.cells scope.names [])) (D0 :: fp)
  have pg1 := hg1 s3 H2 s3.heap.objs.size (cellsFrom (s3.heap.objs.size + 1) scope.names (cloFrom X.env.cells scope.names [])) (D0 :: fp)
  show codeAny _ _ (.compStart (SC elt tg iter tg1 iter1 scope pos) 0 (.ref itA) (.ref D0) (compEnvC scope (cellsFrom (s3.heap.objs.size + 1) scope.names (cloFrom X.env.cells scope.names [])) s3.heap.objs.size X.env)) (compPost (model X.prog X.w) X.A X.xe none _ (.ref D0) s3.heap.objs.size) { s3 with heap := pushCells (s3.heap.push { cls := .type "dict", data := .dict #[] }) scope.names }
  generalize hce : compEnvC scope (cellsFrom (s3.heap.objs.size + 1) scope.names (cloFrom X.env.cells scope.names [])) s3.heap.objs.size X.env = ce at I4 pg pe pi1 pg1 ⊢
  have cL : ce.locals = s3.heap.objs.size := by subst hce; rfl
  generalize hs4 : ({ s3 with heap := pushCells (s3.heap.push { cls := .type "dict", data := .dict #[] }) scope.names } : Shared) = s4 at I4 ⊢
  have k4 : ∀ b o, s3.heap.get? b = some o → s4.heap.get? b = some o := fun b o e => by rw [← hs4]; exact pushCells_keeps _ _ _ _ (Heap.get?_push_of_some _ e)
  have st4 : tn 0 s4.heap := T.keep _ _ _ st3 fun b _ o e => k4 b o e
  have stat : ∀ {σ' : L2.St} {H' : Hp} {s' : Shared} {pn : List (Addr × Obj)}, Inv (X.blk s3 H2 scope ce (D0 :: fp)) pn σ' H' s' → ∀ b ∈ D0 :: fp, H' b = none → (∀ q ∈ pn, q.1 ≠ b) → FpOk (X.blk s3 H2 scope ce (D0 :: fp)) pn H' b := fun {σ' H' s' pn} I' b hb hn hq =>
    ⟨hn, (I'.ok.exf b hb).1, I'.ok.exfs b hb, .inl hb, fun x c e => (I'.ok.exf b hb).2 x c e, fun q hm => hq q (by simpa using hm)⟩
  have nD : ∀ b ∈ fp, ∀ q : Addr × Obj, q.1 = D0 → q.1 ≠ b := fun b hb q e z => by
    have k := small b hb
    rw [← z, e] at k
    exact Nat.lt_irrefl _ k
  have loop : codeAny (model X.prog X.w) X.A (.compLoop (SC elt tg iter tg1 iter1 scope pos) 0 (.ref itA) (.ref D0) ce) (compPost (model X.prog X.w) X.A X.xe none (fun u s' => ∃ D0 H' ι' h' acc, u = .ref D0 ∧ Inv X pins σ H' s' ∧ Go ι h H ι' h' H' ∧ RH (Wx X) ι' h' H' ∧ Has Bg (Wx X) D0 ι' h' H' s'.heap acc ∧ Post (Wx X) EW ι' h' H' (F acc h') QQ) (.ref D0) s3.heap.objs.size) s4 := by
    refine sc_out (hs1 ce) (fun n s' => ∃ i ι2 h2 H' acc, Inv (X.blk s3 H2 scope ce (D0 :: fp)) [] (wipe σ (own.map (·.2))) H' s' ∧ tn i s'.heap ∧ (∀ b ∈ D0 :: fp, H' b = none) ∧ n = xs.length - i ∧ i ≤ xs.length ∧ Go ι1 h1 H2 ι2 h2 H' ∧ RH (Wx X) ι2 h2 H' ∧ Has Bg (Wx X) D0 ι2 h2 H' s'.heap acc ∧
      Post (Wx X) EW ι1 h1 H2 ((ssLoop tp (fun x σ => asg t x σ) (fun σ h => evi C it1 σ h) (fun x σ => asg t1 x σ) (fun σ h => ev C me σ h) vs1 (wip σA (own.map (·.2))) (xs.drop i) acc h2).bind F) QQ) ?_ xs.length
      ⟨0, ι1, h1, H2, [], I4, st4, fun b hb => (f3 b hb).1.1, by simp, Nat.zero_le _, .refl, r1, ⟨_, [], k4 _ _ eD3, Bg.fresh, fun q hq => (by cases hq), List.Perm.refl _, .nil⟩, by rw [List.drop_zero]; exact p1⟩
    rintro n s5 ⟨i, ι2, h2, H5, acc, I5, st5, n5, rfl, hi5, g5, r5, has5, p5⟩
    obtain ⟨o5, L5, eD5, bO5, mem5, perm5, ne5⟩ := has5.ex
    obtain ⟨w1, w2⟩ := wj ι2 h2 H5 g5 r5
    -- the set is pinned
    have I5D := I5.pinned (fp := [D0]) (fun b hb => by
      have : b = D0 := by simpa using hb
      subst this
      exact stat I5 b (List.mem_cons_self ..) (n5 b (List.mem_cons_self ..)) (fun q hq => by cases hq)) (fun b hb => by
      have : b = D0 := by simpa using hb
      subst this
      exact ⟨o5, eD5, Bg.noCell bO5⟩)
    rw [pins_D eD5, List.nil_append] at I5D
    have atD : ∀ {pn : List (Addr × Obj)} {σ' : L2.St} {H' : Hp} {s' : Shared}, Inv (X.blk s3 H2 scope ce (D0 :: fp)) pn σ' H' s' → (D0, o5) ∈ pn → s'.heap.get? D0 = some o5 ∧ H' D0 = none := fun {pn σ' H' s'} I' hm =>
      let z := I'.pin (D0, o5) (List.mem_append_right _ hm)
      ⟨z.1, z.2.1⟩
    have fpD : ∀ {σ' : L2.St} {H' : Hp} {s' : Shared}, Inv (X.blk s3 H2 scope ce (D0 :: fp)) [(D0, o5)] σ' H' s' → (∀ b ∈ fp, H' b = none) → ∀ b ∈ fp, FpOk (X.blk s3 H2 scope ce (D0 :: fp)) [(D0, o5)] H' b := fun {σ' H' s'} I' hn b hb =>
      stat I' b (List.mem_cons_of_mem _ hb) (hn b hb) fun q hq => nD b hb q (by rw [List.mem_singleton.mp hq])
    have n5' : ∀ b ∈ fp, H5 b = none := fun b hb => n5 b (List.mem_cons_of_mem _ hb)
    by_cases hlt : i < xs.length
    · obtain ⟨w3, w4⟩ := w2 i xs[i] (List.getElem?_eq_getElem hlt)
      refine thnF (T.item (X.blk s3 H2 scope ce (D0 :: fp)) rfl rfl rfl hc i _ s5 _ H5 (fun _ _ => False) I5D (fpD I5D n5') st5 w3) fun rr s6 ⟨u, hr, h6⟩ => ?_
      subst hr
      refine thnF h6 fun _ s7 ⟨x, H7, I7, r7, y7, st7, n7⟩ => ?_
      have I7' := I7.pinned (fpD I7 n7) (T.obj _ _ st7)
      obtain ⟨g7, rh7, pv7⟩ := w4 x H7 y7
      rw [List.drop_eq_getElem_cons hlt] at p5
      unfold ssLoop at p5
      cases e1 : asg t xs[i] (wip σA (own.map (·.2))) with
      | none => rw [e1] at p5; exact p5.elim
      | some σ1 =>
        rw [e1] at p5
        simp only [Res.bind_assoc] at p5
        have sl7 := (sl.go ((g1.trans g5).trans g7)).wip (own.map (·.2))
        refine thnF (pg.run _ s7 _ H7 x u (fun σ8 H8 => H8 = H7 ∧ SlR (Wx X) ι2 h2 H7 σ1 σ8 ∧ Same t.vars (wipe σ (own.map (·.2))) σ8) I7' r7 ⟨ι2, h2, _, xs[i], rh7, sl7, pv7, by rw [e1]; exact fun σ' sl' same => ⟨rfl, sl', same⟩⟩) fun _ s8 ⟨σ8, H8, I8, e8, sl8, same8⟩ => ?_
        subst e8
        have hw8 : wipe σ8 (own.map (·.2)) = wipe σ (own.map (·.2)) := (same8.wipe ht).trans wipe_twice
        -- the inner source
        refine thnF (pi1.run _ s8 σ8 H8 (fun J1 H11 => ∃ ys ι3 h3, Walk (Wx X) J1 ys ι3 h3 H11 ∧ Go ι2 h2 H8 ι3 h3 H11 ∧ RH (Wx X) ι3 h3 H11 ∧
          Post (Wx X) EW ι1 h1 H2 ((ssIn tp (fun x σ => asg t1 x σ) (fun σ h => ev C me σ h) (wip σ1 vs1) ys acc h3).bind fun acc h4 => (ssLoop tp (fun x σ => asg t x σ) (fun σ h => evi C it1 σ h) (fun x σ => asg t1 x σ) (fun σ h => ev C me σ h) vs1 (wip σA (own.map (·.2))) (xs.drop (i + 1)) acc h4).bind F) QQ) I8
          ⟨ι2, h2, σ1, rh7, sl8, (Post.calm2 p5).imp fun ys ι3 h3 H3 _ _ q J1 wj1 => ⟨ys, ι3, h3, wj1, q.1, q.2.1, q.2.2⟩⟩) fun xv s10 hx => thnF hx fun itv s11 h11 => ?_
        obtain ⟨ia1, fp1, tn1, J1, H11, e1, I11, T1, st11, f11, ys, ι3, h3, wj1, g11, r11, p11⟩ := h11
        subst e1
        have neD1 : ∀ b ∈ fp1, D0 ≠ b := fun b hb => (f11 b hb).2.2.2.2.2 (D0, o5) (by simp [Cx.blk])
        have fpP : ∀ {H' : Hp} {pn : List (Addr × Obj)}, (∀ b ∈ fp1, H' b = none) → (∀ q ∈ pn, q ∈ pinsAt fp s7.heap ∨ q.1 = D0) → ∀ b ∈ fp1, FpOk (X.blk s3 H2 scope ce (D0 :: fp)) pn H' b := fun {H' pn} hn hq b hb => by
          obtain ⟨_, f1, f2, f3', f4, f5⟩ := f11 b hb
          refine ⟨hn b hb, f1, f2, f3', f4, fun q hm => ?_⟩
          rcases List.mem_append.mp hm with z | z
          · exact f5 q (List.mem_append_left _ z)
          · rcases hq q z with z | z
            · exact f5 q (by simp [z])
            · rw [z]; exact neD1 b hb
        have n11 : ∀ b ∈ D0 :: fp1, H11 b = none := fun b hb => by
          rcases List.mem_cons.mp hb with rfl | hb
          · exact (atD I11 (by simp)).2
          · exact (f11 b hb).1
        have pnD : ∀ {σ' : L2.St} {H' : Hp} {s' : Shared}, Inv (X.blk s3 H2 scope ce (D0 :: fp)) (pinsAt fp s7.heap) σ' H' s' → H' D0 = none → FpOk (X.blk s3 H2 scope ce (D0 :: fp)) (pinsAt fp s7.heap) H' D0 := fun {σ' H' s'} I' hn =>
          stat I' D0 (List.mem_cons_self ..) hn fun q hq z => by
            have k := small q.1 (of_pinsAt hq).1
            rw [z] at k
            exact Nat.lt_irrefl _ k
        have loop1 : codeAny (model X.prog X.w) X.A (.compLoop (SC elt tg iter tg1 iter1 scope pos) 1 (.ref ia1) (.ref D0) ce)
            (fun r s' => (∃ f, r = .ok f) ∧ ∃ m, m < xs.length - i ∧ ∃ i ι2 h2 H' acc, Inv (X.blk s3 H2 scope ce (D0 :: fp)) [] (wipe σ (own.map (·.2))) H' s' ∧ tn i s'.heap ∧ (∀ b ∈ D0 :: fp, H' b = none) ∧ m = xs.length - i ∧ i ≤ xs.length ∧ Go ι1 h1 H2 ι2 h2 H' ∧ RH (Wx X) ι2 h2 H' ∧ Has Bg (Wx X) D0 ι2 h2 H' s'.heap acc ∧
              Post (Wx X) EW ι1 h1 H2 ((ssLoop tp (fun x σ => asg t x σ) (fun σ h => evi C it1 σ h) (fun x σ => asg t1 x σ) (fun σ h => ev C me σ h) vs1 (wip σA (own.map (·.2))) (xs.drop i) acc h2).bind F) QQ) s11 := by
          refine sc_in (fun k s' => ∃ j ι4 h4 H' acc1, Inv (X.blk s3 H2 scope ce (D0 :: fp)) (pinsAt fp s7.heap) (wipe σ8 vs1) H' s' ∧ tn1 j s'.heap ∧ (∀ b ∈ D0 :: fp1, H' b = none) ∧ k = ys.length - j ∧ j ≤ ys.length ∧ Go ι3 h3 H11 ι4 h4 H' ∧ RH (Wx X) ι4 h4 H' ∧ Has Bg (Wx X) D0 ι4 h4 H' s'.heap acc1 ∧
            Post (Wx X) EW ι1 h1 H2 ((ssIn tp (fun x σ => asg t1 x σ) (fun σ h => ev C me σ h) (wip σ1 vs1) (ys.drop j) acc1 h4).bind fun acc h4 => (ssLoop tp (fun x σ => asg t x σ) (fun σ h => evi C it1 σ h) (fun x σ => asg t1 x σ) (fun σ h => ev C me σ h) vs1 (wip σA (own.map (·.2))) (xs.drop (i + 1)) acc h4).bind F) QQ) ?_ ys.length
            ⟨0, ι3, h3, H11, acc, (I11.pins_of fun q hq => I11.pin q (by simp [hq])).weak (wipe_length _ _) (fun j v e => (wipe_some e).1), st11, n11, by simp, Nat.zero_le _, .refl, r11, ⟨o5, L5, (atD I11 (by simp)).1, bO5, mem5.go (g7.trans g11), perm5, ne5⟩, by rw [List.drop_zero]; exact p11⟩
          rintro k s12 ⟨j, ι4, h4, H12, acc1, I12, st12, n12, rfl, hj12, g12, r12, has12, p12⟩
          obtain ⟨o12, L12, eD12, bO12, mem12, perm12, ne12⟩ := has12.ex
          have nD12 := n12 D0 (List.mem_cons_self ..)
          have I12D := I12.pinned (fp := [D0]) (fun b hb => by rw [List.mem_singleton.mp hb]; exact pnD I12 nD12) (fun b hb => by rw [List.mem_singleton.mp hb]; exact ⟨o12, eD12, Bg.noCell bO12⟩)
          rw [pins_D eD12] at I12D
          have inD : ∀ q ∈ pinsAt fp s7.heap ++ [(D0, o12)], q ∈ pinsAt fp s7.heap ∨ q.1 = D0 := fun q hq => (List.mem_append.mp hq).imp id fun z => by rw [List.mem_singleton.mp z]
          obtain ⟨w11, w12⟩ := wj1 ι4 h4 H12 g12 r12
          -- what the outer iterator's objects know at any later step
          have back : ∀ {σ' : L2.St} {H' : Hp} {s' : Shared} {pl : List (Addr × Obj)}, Inv (X.blk s3 H2 scope ce (D0 :: fp)) (pinsAt fp s7.heap ++ pl) σ' H' s' → tn (i + 1) s'.heap ∧ ∀ b ∈ fp, H' b = none := fun {σ' H' s' pl} I' => by
            have pin' : ∀ b ∈ fp, ∀ o, s7.heap.get? b = some o → s'.heap.get? b = some o ∧ H' b = none := fun b hb o e =>
              let z := I'.pin (b, o) (List.mem_append_right _ (List.mem_append_left _ (mem_pinsAt hb e)))
              ⟨z.1, z.2.1⟩
            refine ⟨T.keep _ _ _ st7 fun b hb o e => (pin' b hb o e).1, fun b hb => ?_⟩
            obtain ⟨o, e, _⟩ := T.obj _ _ st7 b hb
            exact (pin' b hb o e).2
          have hk9 : ∀ (j : Nat) v, (wipe σ (own.map (·.2)))[j]? = some (some v) → (wipe σ8 vs1)[j]? = some (some v) := fun j v e => by
            rw [← hw8] at e
            obtain ⟨e1, e2⟩ := wipe_some e
            rw [wipe_out fun z => e2 (hv1 j z)]
            exact e1
          have hl9 : (wipe σ (own.map (·.2))).length = (wipe σ8 vs1).length := by rw [← hw8, wipe_length, wipe_length]
          by_cases hlt1 : j < ys.length
          · obtain ⟨w13, w14⟩ := w12 j ys[j] (List.getElem?_eq_getElem hlt1)
            refine thnF (T1.item (X.blk s3 H2 scope ce (D0 :: fp)) rfl rfl rfl hc j _ s12 _ H12 (fun _ _ => False) I12D (fpP (fun b hb => n12 b (List.mem_cons_of_mem _ hb)) inD) st12 w13) fun rr s13 ⟨u1, hr, h13⟩ => ?_
            subst hr
            refine thnF h13 fun _ s14 ⟨x1, H14, I14, r14, y14, st14, n14⟩ => ?_
            have I14' := I14.pinned (fpP n14 inD) (T1.obj _ _ st14)
            obtain ⟨g14, rh14, pv14⟩ := w14 x1 H14 y14
            rw [List.drop_eq_getElem_cons hlt1] at p12
            unfold ssIn at p12
            cases e2 : asg t1 ys[j] (wip σ1 vs1) with
            | none => rw [e2] at p12; exact p12.elim
            | some σ2 =>
              rw [e2] at p12
              simp only [Res.bind_assoc] at p12
              have sl14 := (sl8.go (((g11.trans g12).trans g14))).wip vs1
              refine thnF (pg1.run _ s14 _ H14 x1 u1 (fun σ9 H9 => H9 = H14 ∧ SlR (Wx X) ι4 h4 H14 σ2 σ9 ∧ Same t1.vars (wipe σ8 vs1) σ9) I14' r14 ⟨ι4, h4, _, ys[j], rh14, sl14, pv14, by rw [e2]; exact fun σ' sl' same => ⟨rfl, sl', same⟩⟩) fun _ s15 ⟨σ9, H9, I15, e9, sl9, same9⟩ => ?_
              subst e9
              refine thnF (pe.run _ s15 σ9 H9 (fun v H10 => ∃ d ι5 h5, DV (Wx X) ι5 h5 H10 d v ∧ Go ι4 h4 H9 ι5 h5 H10 ∧ RH (Wx X) ι5 h5 H10 ∧ Post (Wx X) EW ι1 h1 H2 ((match d with
                | .p p => if bagB tp p && decide (acc1.length < 60) then ssIn tp (fun x σ => asg t1 x σ) (fun σ h => ev C me σ h) (wip σ1 vs1) (ys.drop (j + 1)) (bagAdd acc1 p) h5 else .bad
                | _ => .bad).bind fun acc h4 => (ssLoop tp (fun x σ => asg t x σ) (fun σ h => evi C it1 σ h) (fun x σ => asg t1 x σ) (fun σ h => ev C me σ h) vs1 (wip σA (own.map fun (x : Str × Nat) => x.2)) (xs.drop (i + 1)) acc h4).bind F) QQ) I15
                ⟨ι4, h4, σ2, rh14, sl9, (Post.calm2 p12).imp fun d ι5 h5 H5 _ _ q v dv => ⟨d, ι5, h5, dv, q.1, q.2.1, q.2.2⟩⟩) fun u2 s16 ⟨v2, H16, I16, r16, d, ι5, h5, dv, g16, rh16, p16⟩ => ?_
              cases d with
              | r c => exact p16.elim
              | p dp =>
                simp only at p16
                cases hb : (bagB tp dp && decide (acc1.length < 60)) with
                | false => rw [hb] at p16; exact p16.elim
                | true =>
                  rw [hb] at p16
                  simp only [if_true] at p16
                  obtain ⟨hb1, hb2⟩ := Bool.and_eq_true_iff.mp hb
                  have hL : L12.length < 60 := by
                    have z := perm12.length_eq
                    rw [List.length_map] at z
                    rw [z]; exact of_decide_eq_true hb2
                  have zD := I16.pin (D0, o12) (by simp)
                  have gg : Go ι3 h3 H11 ι5 h5 H16 := ((g12.trans g14).trans g16)
                  have mem16 := mem12.go (g14.trans g16)
                  have is16 := Bg.is I16 rfl rfl hb1 dv r16
                  refine Bg.add zD.1 bO12 hb1 (fun q hq => ?_) is16 hL hu fun o' L' h' tk eD' sb bO' same perm => ?_
                  · obtain ⟨a, v, b, c⟩ := mem16 q hq
                    exact ⟨a, Bg.is I16 rfl rfl a c b⟩
                  · have I17 : Inv (X.blk s3 H2 scope ce (D0 :: fp)) (pinsAt fp s7.heap) σ9 H16 s16 := (I16.unpinned).unpinned
                    obtain ⟨f0, f1, f2', f3', f4, f5⟩ := pnD I17 zD.2.1
                    have I18 : Inv (X.blk s3 H2 scope ce (D0 :: fp)) (pinsAt fp s7.heap) σ9 H16 { s16 with heap := h', toks := tk } := I17.turned (fun b o hb e => (sb.2 b hb).trans e) f0 f1 f3' f4 f5
                    have pin1 : ∀ b ∈ fp1, ∀ o, s14.heap.get? b = some o → s16.heap.get? b = some o ∧ H16 b = none := fun b hb o e =>
                      let z := I16.pin (b, o) (List.mem_append_right _ (List.mem_append_right _ (mem_pinsAt hb e)))
                      ⟨z.1, z.2.1⟩
                    have hw9 : wipe σ9 vs1 = wipe σ8 vs1 := (same9.wipe ht1).trans wipe_twice
                    refine ⟨ys.length - (j + 1), by omega, j + 1, ι5, h5, H16, bagAdd acc1 dp, I18.weak (by rw [← hw9, wipe_length]) (fun j v e => by rw [← hw9] at e; exact (wipe_some e).1),
                      T1.keep _ _ h' st14 fun b hb o e => (sb.2 b fun z => neD1 b hb z.symm).trans (pin1 b hb o e).1, fun b hb => ?_, rfl, hlt1, gg, rh16, ⟨o', L', eD', bO', ?_, ?_, bag_ne ne12⟩, p16⟩
                    · rcases List.mem_cons.mp hb with rfl | hb
                      · exact zD.2.1
                      · obtain ⟨o, e, _⟩ := T1.obj _ _ st14 b hb
                        exact (pin1 b hb o e).2
                    · intro q hq
                      cases hc' : (L12.any fun q => PyData.eqv q.1 dp) with
                      | true => rw [same hc'] at hq; exact mem16 q hq
                      | false =>
                        rcases List.mem_cons.mp ((perm hc').mem_iff.mp hq) with rfl | hq
                        · exact ⟨hb1, v2, r16, dv⟩
                        · exact mem16 q hq
                    · unfold bagAdd
                      rw [← perm_any perm12 fun z => PyData.eqv z dp]
                      cases hc' : (L12.any fun q => PyData.eqv q.1 dp) with
                      | true => rw [same hc']; exact perm12
                      | false => exact ((perm hc').map _).trans ((List.Perm.cons _ perm12).trans (List.perm_append_singleton _ _).symm)
          · have e : j = ys.length := by omega
            subst e
            rw [List.drop_length] at p12
            refine thnF (T1.done (X.blk s3 H2 scope ce (D0 :: fp)) rfl rfl rfl hc ys.length _ s12 _ H12 (fun _ _ => False) I12D (fpP (fun b hb => n12 b (List.mem_cons_of_mem _ hb)) inD) st12 w11) fun rr s13 ⟨hr, I13⟩ => ?_
            subst hr
            obtain ⟨b1, b2⟩ := back I13
            have zD := I13.pin (D0, o12) (by simp)
            exact ⟨⟨_, rfl⟩, xs.length - (i + 1), by omega, i + 1, ι4, h4, H12, acc1, (I13.pins_of (pins' := []) fun q hq => by cases hq).weak hl9 hk9, b1, fun b hb => by { rcases List.mem_cons.mp hb with rfl | hb; exact nD12; exact b2 b hb }, rfl, hlt, ((g5.trans g7).trans g11).trans g12, r12, ⟨o12, L12, zD.1, bO12, mem12, perm12, ne12⟩, p12⟩
        exact sc_start (.inr rfl) loop1 (T1.self X.A 0 _ _ _ st11 loop1)
    · have e : i = xs.length := by omega
      subst e
      rw [List.drop_length] at p5
      refine thnF (T.done (X.blk s3 H2 scope ce (D0 :: fp)) rfl rfl rfl hc xs.length _ s5 _ H5 (fun _ _ => False) I5D (fpD I5D n5') st5 w1) fun rr s6 ⟨hr, I6⟩ => ?_
      subst hr
      obtain ⟨eD6, _⟩ := atD I6 (by simp)
      have I7 : Inv X pins σ H5 s6 := I3.call' (ch := D0 :: fp) I6.os I6.base I6.hok I6.bare fun b hb => ⟨(f3 b hb).1.2.2.2.1, (f3 b hb).1.2.1, (f3 b hb).1.2.2.2.2.1, (f3 b hb).1.2.2.2.2.2⟩
      have nC : H5 s3.heap.objs.size = none := by
        have z : H5 ce.locals = none := I6.free
        rw [cL] at z
        exact z
      obtain ⟨m, hn, _⟩ := I6.loc
      have hn : s6.heap.Ns ce.locals m := hn
      rw [cL] at hn
      have fC := I3.fpOk (Nat.le_refl _) nC
      refine ⟨m, hn, fun h'' sb => ?_⟩
      obtain ⟨f0, f1, f2', f3', f4, f5⟩ := fC
      have neD : D0 ≠ s3.heap.objs.size := Nat.ne_of_lt (Heap.lt_size eD3)
      exact ⟨D0, H5, ι2, h2, acc, rfl, I7.turned (t' := s6.toks) (fun b o hb e => (sb.2 b hb).trans e) f0 f1 f3' f4 f5, g1.trans g5, r5, ⟨o5, L5, (sb.2 D0 neD).trans eD6, bO5, mem5, perm5, ne5⟩, Post.go1 p5 g5⟩
  exact sc_start (.inl rfl) loop (T.self X.A 0 _ _ _ st4 loop)
end
end Mi
/-! MiSt: a set of texts. -/
namespace Mi
open PySem L2 PySem.Spec PyProof.Rows
def txInv (e : Int × Value) : P × Value := (match e.2 with | .str x _ => .str x | _ => .none, e.2)
def TxE (prog : Program) (w : World) (e : Int × Value) : Prop := ∃ x tk, e = ((PySem.strKind prog w).hash x, Value.str x tk)
/-- the set object o with the texts L -/
structure TxO (prog : Program) (w : World) (o : Obj) (L : List (P × Value)) : Prop where
  ex : ∃ es ep t, o.ExactSet ∧ o.data = .set es ep t ∧ (∀ e ∈ es.toList, TxE prog w e) ∧ L = es.toList.map txInv ∧ es.size < scanBound ∧ t.fits es.size = true ∧ Ris t.place.toList ∧ (w.params.followText "set-order" = true ∨ t.led = true)
section
variable {prog : Program} {w : World} {A : Around} {E : Value → Shared → Prop} {s : Shared} {a : Addr}
theorem txIs (x : Str) (tk : Tok) : (PySem.strKind prog w).is x (.str x tk) = true := PySem.Froz.is_str x tk
theorem txElems {l : List (Int × Value)} (g : ∀ e ∈ l, TxE prog w e) : ElemsOf (PySem.strKind prog w) l := fun e he => by
  obtain ⟨x, tk, rfl⟩ := g e he
  exact ⟨⟨x, txIs x tk, rfl⟩, rfl⟩
theorem txHas {l : List (Int × Value)} (g : ∀ e ∈ l, TxE prog w e) (x : Str) : ((l.map txInv).any fun q => PyData.eqv q.1 (.str x)) = true ↔ ∃ e ∈ l, (PySem.strKind prog w).is x e.2 = true := by
  rw [List.any_eq_true]
  constructor
  · rintro ⟨q, hq, e⟩
    obtain ⟨r, hr, rfl⟩ := List.mem_map.mp hq
    obtain ⟨y, tk, rfl⟩ := g r hr
    have : y = x := by simpa [txInv, PyData.eqv] using e
    subst this
    exact ⟨_, hr, txIs _ _⟩
  · rintro ⟨r, hr, e⟩
    obtain ⟨y, tk, rfl⟩ := g r hr
    have e' : x = y := (PySem.strKind prog w).inj _ _ _ e (txIs y tk)
    subst e'
    exact ⟨_, List.mem_map_of_mem hr, by simp [txInv, PyData.eqv]⟩
/-- the end of an addition -/
theorem tx_tail {g : Bool → Sem Unit} (hg : ∀ (b : Bool) (s₁ : Shared) (Q' : Unit → Shared → Prop), Q' () s₁ → wpAny (model prog w) A (g b) Q' E s₁)
    {o : Obj} {es es1 : Array (Int × Value)} {ep : Nat} {t t2 : SetTable} (ho : s.heap.get? a = some o) (hex : o.ExactSet) (hd : o.data = .set es ep t) (g1 : ∀ e ∈ es1.toList, TxE prog w e)
    (hb1 : es1.size < scanBound) (hf2 : t2.fits es1.size = true) (hr : Ris t2.place.toList) (hl : w.params.followText "set-order" = true ∨ t2.led = true) {dm : Bool} {R : Option Bool → Shared → Prop}
    (hR : ∀ h' o' L', h'.get? a = some o' → Heap.SameBut a s.heap h' → TxO prog w o' L' → L'.Perm (es1.toList.map txInv) → R (some true) { s with heap := h' }) :
    wpAny (model prog w) A (do
        storeSet a es1 t2
        if (!dm && t2.tooFull) = true then do
            g (relayAll t2 es1 (SetTable.grown es1.size)).2.2
            storeSet a (relayAll t2 es1 (SetTable.grown es1.size)).1 (relayAll t2 es1 (SetTable.grown es1.size)).2.1
            pure (some true)
          else pure (some true)) R E s := by
  have at1 := store_at (es' := es1) (t' := t2) ho hd
  have but1 := Heap.SameBut.update s.heap a (Obj.putSet es1 t2)
  refine wpAny_bind (wpAny_storeSet_of ho hd ?_ (fits_of_scanBound hb1))
  by_cases full : (!dm && t2.tooFull) = true
  · rw [if_pos full]
    have z1 := relayAll_perm t2 es1 (SetTable.grown es1.size)
    have z2 := relayAll_fits t2 es1 (SetTable.grown es1.size)
    have z3 := relayAll_ris t2 es1 (SetTable.grown es1.size)
    have z4 := relayAll_led t2 es1 (SetTable.grown es1.size)
    generalize relayAll t2 es1 (SetTable.grown es1.size) = Z at z1 z2 z3 z4 ⊢
    obtain ⟨es2, t3, gv⟩ := Z
    dsimp only at z1 z2 z3 z4 ⊢
    have ls : es2.size < scanBound := by
      have z := z1.length_eq
      rw [Array.length_toList, Array.length_toList] at z
      rw [z]; exact hb1
    refine wpAny_bind (hg _ _ _ (wpAny_bind (wpAny_storeSet_of at1 rfl ?_ (fits_of_scanBound ls))))
    exact wpAny_pure (hR _ _ _ (store_at (es' := es2) (t' := t3) at1 rfl) (but1.trans (Heap.SameBut.update _ a _)) ⟨es2, _, t3, hex, rfl, fun e he => g1 e (z1.mem_iff.mp he), rfl, ls, z2, z3, hl.imp id fun z => by rw [z4]; exact z⟩ (z1.map _))
  · rw [if_neg full]
    exact wpAny_pure (hR _ _ _ at1 but1 ⟨es1, _, t2, hex, rfl, g1, rfl, hb1, hf2, hr, hl⟩ (List.Perm.refl _))
theorem tx_hashed {x : Str} {tk : Tok} {o : Obj} {L : List (P × Value)} {Q : Bool → Shared → Prop} (ho : s.heap.get? a = some o) (F : TxO prog w o L) (room : L.length < 60)
    (hQ : ∀ b h' o' L', h'.get? a = some o' → Heap.SameBut a s.heap h' → TxO prog w o' L' → ((L.any fun q => PyData.eqv q.1 (.str x)) = true → L' = L) → ((L.any fun q => PyData.eqv q.1 (.str x)) = false → L'.Perm ((.str x, .str x tk) :: L)) → Q b { s with heap := h' }) :
    wpAny (model prog w) A (setAddHashed a (.str x tk) ((PySem.strKind prog w).hash x)) Q E s := by
  obtain ⟨es, ep, t, hex, hd, g, rfl, hb, hf, hr, hl⟩ := F.ex
  have sc : (Value.str x tk).scannable = true := rfl
  have els := txElems g
  unfold setAddHashed setAddHashedIn
  refine wpAny_holding (wpAny_bind (wpAny_setState_of ho hd hf ?_))
  dsimp only
  rw [byScan_of sc hb els]
  simp only [↓reduceIte]
  unfold setAddByScan
  refine wpAny_bind (wpAny_bind (wpAny_rule (wpAny_bind (wpAny_setScan_of (txIs x tk) ho hd hf els ?_))))
  cases hfi : List.findIdx? (fun e => (PySem.strKind prog w).is x e.2) es.toList with
  | some j =>
    dsimp only
    obtain ⟨hj, pj, _⟩ := List.findIdx?_eq_some_iff_getElem.mp hfi
    have yes := (txHas g x).mpr ⟨es.toList[j], List.getElem_mem hj, pj⟩
    exact wpAny_pure (wpAny_pure (hQ _ s.heap o _ ho (Heap.SameBut.refl a s.heap) F (fun _ => rfl) fun no => by rw [yes] at no; cases no))
  | none =>
    dsimp only
    have no : ((es.toList.map txInv).any fun q => PyData.eqv q.1 (.str x)) = false := by
      rw [← Bool.not_eq_true]
      intro z
      obtain ⟨e, he, q⟩ := (txHas g x).mp z
      have c := List.findIdx?_eq_none_iff.mp hfi e he
      rw [q] at c
      cases c
    have way : ∀ (b : Bool) (s₁ : Shared) (Q' : Unit → Shared → Prop), Q' () s₁ → wpAny (model prog w) A (match b with | true => rule "set.scan.the-table-gave-way" | false => pure ()) Q' E s₁ :=
      fun b s₁ Q' q => by cases b <;> first | exact wpAny_pure q | exact wpAny_rule q
    have z1 := layNew_perm t es ((PySem.strKind prog w).hash x) (.str x tk)
    have z2 := layNew_fits t es ((PySem.strKind prog w).hash x) (.str x tk)
    have z3 := layNew_ris t es ((PySem.strKind prog w).hash x) (.str x tk) hr
    have z4 := layNew_led t es ((PySem.strKind prog w).hash x) (.str x tk)
    generalize layNew t es ((PySem.strKind prog w).hash x) (.str x tk) = Z at z1 z2 z3 z4 ⊢
    obtain ⟨es1, t1, dm, gv⟩ := Z
    dsimp only at z1 z2 z3 z4 ⊢
    rw [Array.toList_push] at z1
    have z5 : es1.toList.Perm (((PySem.strKind prog w).hash x, Value.str x tk) :: es.toList) := z1.trans (List.perm_append_singleton _ _)
    have g1 : ∀ e ∈ es1.toList, TxE prog w e := fun e he => by
      rcases List.mem_cons.mp (z5.mem_iff.mp he) with z | z
      · rw [z]; exact ⟨x, tk, rfl⟩
      · exact g e z
    have hb1 : es1.size < scanBound := by
      have z := z5.length_eq
      rw [List.length_cons, Array.length_toList, Array.length_toList] at z
      rw [List.length_map, Array.length_toList] at room
      have : scanBound = 4096 := rfl
      omega
    have led : w.params.followText "set-order" = true ∨ t1.led = true := hl.imp id fun z => by rw [z4]; exact z
    have last : ∀ h' o' L', h'.get? a = some o' → Heap.SameBut a s.heap h' → TxO prog w o' L' → L'.Perm (es1.toList.map txInv) → ∀ b, Q b { s with heap := h' } := fun h' o' L' e sb f p b =>
      hQ b h' o' L' e sb f (fun z => by rw [no] at z; cases z) fun _ => p.trans (z5.map txInv)
    refine wpAny_bind (way _ _ _ ?_)
    split
    · refine wpAny_bind ?_
      rw [hashByValue_scannable 8 sc]
      refine wpAny_pure ?_
      refine tx_tail (fun b s₁ Q' q => by cases b <;> first | exact wpAny_pure q | exact wpAny_rule q) ho hex hd g1 hb1 ?_ ?_ ?_ ?_
      · first | (split <;> first | exact z2 | exact SetTable.fits_plain_off z2) | exact z2
      · first | (split <;> exact z3) | exact z3
      · first | (split <;> exact led) | exact led
      · intro h' o' L' e sb f p; dsimp only; exact wpAny_pure (last h' o' L' e sb f p _)
    · refine wpAny_bind (wpAny_pure ?_)
      simp only [↓reduceIte]
      refine tx_tail (fun b s₁ Q' q => by cases b <;> first | exact wpAny_pure q | exact wpAny_rule q) ho hex hd g1 hb1 z2 z3 led ?_
      intro h' o' L' e sb f p; dsimp only; exact wpAny_pure (last h' o' L' e sb f p _)
theorem TxO.type {o : Obj} {L : List (P × Value)} (F : TxO prog w o L) (ho : s.heap.get? a = some o) : s.TypeIs (.ref a) "set" := by
  obtain ⟨es, ep, t, hex, _⟩ := F.ex
  exact ⟨o, ho, hex.1⟩
theorem tx_add {x : Str} {tk : Tok} {o : Obj} {L : List (P × Value)} {Q : Value → Shared → Prop} (ho : s.heap.get? a = some o) (F : TxO prog w o L) (room : L.length < 60)
    (hQ : ∀ o' L' h' tk', h'.get? a = some o' → Heap.SameBut a s.heap h' → TxO prog w o' L' → ((L.any fun q => PyData.eqv q.1 (.str x)) = true → L' = L) → ((L.any fun q => PyData.eqv q.1 (.str x)) = false → L'.Perm ((.str x, .str x tk) :: L)) → Q .none { s with heap := h', toks := tk' }) :
    wpAny (model prog w) A (call (.builtin "set.add") [.ref a, .str x tk]) Q E s := by
  refine wpAny_call_entry PySem.F.slot_set_add (F.type ho) PySem.F.entry_set_add ?_ (PySem.F.args_set_add_2 _ _)
  unfold Builtin.«set.add» Builtin.Frozenset.oneOther
  simp only [List.isEmpty_nil, bind_assoc]
  unfold Builtin.Frozenset.addrOf setAdd
  refine wpAny_bind (wpAny_pure ?_)
  try dsimp only
  refine wpAny_bind (wpAny_pure ?_)
  try dsimp only
  refine wpAny_bind ?_
  refine wpAny_holding ?_
  refine wpAny_bind ((PySem.strKind prog w).pyHash (txIs x tk) ?_)
  refine tx_hashed (s := { s with toks := s.toks + 1 }) ho F room fun b h' o' L' e sb f c1 c2 => ?_
  show wpAny _ _ (ret Value.none) _ _ _
  exact wpAny_pure ⟨_, rfl, hQ o' L' h' _ e sb f c1 c2⟩
end
def bagTx (prog : Program) (w : World) : Bag prog w false where
  O := TxO prog w
  Is := fun _ d u => ∃ x tk, d = .str x ∧ u = .str x tk
  noCell := fun {o L} F v e => by
    obtain ⟨es, ep, t, _, hd, _⟩ := F.ex
    rw [hd] at e; cases e
  walk := fun {o L} F => by
    obtain ⟨es, ep, t, hex, hd, g, e, hb, hf, hr, hl⟩ := F.ex
    refine ⟨es, ep, t, hex.1, hd, hf, hb, hr, hl, ?_⟩
    rw [e, List.map_map]
    exact List.Perm.refl _
  fresh := ⟨#[], 0, _, ⟨rfl, rfl, rfl⟩, rfl, fun e he => by simp at he, rfl, by decide, by rfl, List.Pairwise.nil, by
    show _ ∨ (!w.params.followText "set-order") = true
    cases w.params.followText "set-order"
    · exact .inr rfl
    · exact .inl rfl⟩
  is := fun {Y pins σ H s ι h d v u} I hp hw hb dv ru => by
    cases d with
    | str x =>
      have e : v = V.str x := dv
      subst e
      obtain ⟨tk, rfl⟩ := ru
      exact ⟨x, tk, rfl, rfl⟩
    | _ => cases hb
  add := fun {A E s D0 o L d u Q} ho F hb all is room hu hQ => by
    obtain ⟨x, tk, rfl, rfl⟩ := is
    exact tx_add ho F room fun o' L' h' tk' e sb f c1 c2 => hQ o' L' h' tk' e sb f c1 c2
end Mi
/-! MiTs: a set of keys that are tuples. -/
namespace Mi
open PySem L2 PySem.Spec PyProof.Rows
def IsN (h : Heap) (k : NestedKey) (a : Addr) : Prop := NestedIs h k (.ref a) ∧ k.depth ≤ 8
section
variable {P : Program} {w : World} {A : Around} {E : Value → Shared → Prop} {s : Shared}
mutual
theorem ofCls : ∀ (k : NestedKey) (v : Value) (n : Nat) (s : Shared) (Q : Bool → Shared → Prop), NestedIs s.heap k v → k.depth ≤ n → Q false s → wpAny (model P w) A (ofAClassStatement n v) Q E s
  | .none, _, n, s, Q, x, _, h => by cases x; cases n <;> exact wpAny_pure h
  | .num i, _, n, s, Q, x, _, h => by cases x <;> cases n <;> exact wpAny_pure h
  | .text y, _, n, s, Q, x, _, h => by cases x; cases n <;> exact wpAny_pure h
  | .tup ks, _, n, s, Q, x, hn, h => by
    cases x with
    | @tup l o vs m _ hg hc hd hk =>
      simp only [NestedKey.depth] at hn
      cases n with
      | zero => omega
      | succ n =>
        unfold ofAClassStatement
        refine wpAny_bind (wpAny_typeOf ⟨o, hg, hc⟩ ?_)
        dsimp only
        have e : (("tuple" : String) == "tuple") = true := by decide
        simp only [e, if_true, Bool.not_true, Bool.false_eq_true, if_false]
        try refine wpAny_bind (wpAny_pure ?_)
        try simp only [Bool.not_true, Bool.false_eq_true, if_false]
        show wpAny _ _ (seqItems? (.ref l) >>= _) _ _ s
        refine wpAny_bind (wpAny_seqItems hg hd ?_)
        dsimp only
        refine wpAny_bind ?_
        show wpAny _ _ (forIn vs _ _) _ _ s
        rw [← Array.forIn_toList]
        refine wpAny_forIn_list _ (fun rest r s' => r.1 = none ∧ s' = s ∧ ∀ v ∈ rest, ∀ Q : Bool → Shared → Prop, Q false s → wpAny (model P w) A (ofAClassStatement n v) Q E s) _ ?_ ?_ _ _ ⟨rfl, rfl, fun v hv Q q => ofClss ks _ n s hk (by omega) v hv Q q⟩
        · rintro v rest r s' ⟨hr, rfl, hall⟩
          refine wpAny_bind (hall v List.mem_cons_self _ ?_)
          simp only [Bool.false_eq_true, if_false]
          exact wpAny_pure ⟨rfl, rfl, fun u hu' => hall u (List.mem_cons_of_mem _ hu')⟩
        · rintro ⟨r1, r2⟩ s' ⟨hr, rfl, _⟩
          simp only at hr
          subst hr
          exact wpAny_pure h
theorem ofClss : ∀ (ks : List NestedKey) (vs : List Value) (n : Nat) (s : Shared), NestedAll s.heap ks vs → NestedKey.depthAll ks ≤ n → ∀ v ∈ vs, ∀ Q : Bool → Shared → Prop, Q false s → wpAny (model P w) A (ofAClassStatement n v) Q E s
  | [], _, n, s, x, _, v, hv, _, _ => by cases x; cases hv
  | k :: ks, _, n, s, x, hn, v, hv, Q, q => by
    cases x with
    | cons x1 x2 =>
      simp only [NestedKey.depthAll] at hn
      rcases List.mem_cons.mp hv with e | hv
      · rw [e]; exact ofCls k _ n s Q x1 (by omega) q
      · exact ofClss ks _ n s x2 (by omega) v hv Q q
end
mutual
theorem hashBy : ∀ (k : NestedKey) (v : Value) (n : Nat) (s : Shared) (Q : Bool → Shared → Prop), NestedIs s.heap k v → (∀ b, Q b s) → wpAny (model P w) A (hashByValue n v) Q E s
  | .none, _, n, s, Q, x, h => by cases x; cases n <;> exact wpAny_pure (h _)
  | .num i, _, n, s, Q, x, h => by cases x <;> cases n <;> exact wpAny_pure (h _)
  | .text y, _, n, s, Q, x, h => by cases x; cases n <;> exact wpAny_pure (h _)
  | .tup ks, _, n, s, Q, x, h => by
    cases x with
    | @tup l o vs m _ hg hc hd hk =>
      cases n with
      | zero => exact wpAny_pure (h _)
      | succ n =>
        unfold hashByValue
        refine wpAny_bind (wpAny_specialOf (show s.TypeIs (.ref l) "tuple" from ⟨o, hg, hc⟩) PySem.F.slot_tuple_hash.lookup ?_)
        show wpAny _ _ (seqItems? (.ref l) >>= _) _ _ s
        refine wpAny_bind (wpAny_seqItems hg hd ?_)
        refine wpAny_bind ?_
        show wpAny _ _ (forIn vs _ _) _ _ s
        rw [← Array.forIn_toList]
        refine wpAny_forIn_list _ (fun rest r s' => s' = s ∧ ∀ v ∈ rest, ∀ Q : Bool → Shared → Prop, (∀ b, Q b s) → wpAny (model P w) A (hashByValue n v) Q E s) _ ?_ ?_ _ _ ⟨rfl, fun v hv Q q => hashBys ks _ n s hk v hv Q q⟩
        · rintro v rest r s' ⟨rfl, hall⟩
          refine wpAny_bind (hall v List.mem_cons_self _ fun b => ?_)
          cases b with
          | true =>
            simp only [Bool.not_true, Bool.false_eq_true, if_false]
            exact wpAny_pure ⟨rfl, fun u hu' => hall u (List.mem_cons_of_mem _ hu')⟩
          | false =>
            simp only [Bool.not_false, if_true]
            exact wpAny_pure (wpAny_pure (h false))
        · rintro ⟨r1, r2⟩ s' ⟨rfl, _⟩
          cases r1 with
          | none => exact wpAny_pure (h _)
          | some b => exact wpAny_pure (h _)
theorem hashBys : ∀ (ks : List NestedKey) (vs : List Value) (n : Nat) (s : Shared), NestedAll s.heap ks vs → ∀ v ∈ vs, ∀ Q : Bool → Shared → Prop, (∀ b, Q b s) → wpAny (model P w) A (hashByValue n v) Q E s
  | [], _, n, s, x, v, hv, _, _ => by cases x; cases hv
  | k :: ks, _, n, s, x, v, hv, Q, q => by
    cases x with
    | cons x1 x2 =>
      rcases List.mem_cons.mp hv with e | hv
      · rw [e]; exact hashBy k _ n s Q x1 q
      · exact hashBys ks _ n s x2 v hv Q q
end
theorem hashBy_n {k : NestedKey} {b : Addr} {Q : Bool → Shared → Prop} (hk : IsN s.heap k b) (h : ∀ c, Q c s) : wpAny (model P w) A (hashByValue 8 (.ref b)) Q E s := hashBy k _ 8 s Q hk.1 h
/-- a search among such keys shows nothing -/
theorem seen_tup {k : NestedKey} {b : Addr} {Q : Bool → Shared → Prop} (hk : IsN s.heap k b) {ys : List Value} (hy : ∀ y ∈ ys, ∃ k' c, y = Value.ref c ∧ IsN s.heap k' c) (h : Q false s) :
    wpAny (model P w) A (searchCouldBeSeen (.ref b) ys) Q E s := by
  unfold searchCouldBeSeen
  refine wpAny_bind ?_
  refine wpAny_forIn_list _ (fun rest r s' => r.1 = none ∧ s' = s ∧ ∀ y ∈ rest, ∃ k' c, y = Value.ref c ∧ IsN s.heap k' c) _ ?_ ?_ _ _ ⟨rfl, rfl, hy⟩
  · rintro v rest r s' ⟨hr, rfl, hall⟩
    obtain ⟨k', c, rfl, hc⟩ := hall v List.mem_cons_self
    have more : ∀ y ∈ rest, ∃ k' c, y = Value.ref c ∧ IsN s'.heap k' c := fun u hu' => hall u (List.mem_cons_of_mem _ hu')
    dsimp only
    by_cases hv : (b == c || (carriedByValue (.ref b) && carriedByValue (.ref c))) = true
    · exact wp_if_pos hv (wpAny_pure ⟨rfl, rfl, more⟩)
    · refine wp_if_neg hv (wpAny_bind (quiet_key k _ 8 s' hk.1 hk.2 _ _ _ ?_))
      simp only [Bool.not_true, Bool.false_eq_true, if_false]
      refine wpAny_bind (quiet_key k' _ 8 s' hc.1 hc.2 _ _ _ ?_)
      simp only [Bool.not_true, Bool.false_eq_true, if_false]
      refine wpAny_bind (ofCls k _ 8 s' _ hk.1 hk.2 ?_)
      simp only [Bool.false_eq_true, if_false]
      refine wpAny_bind (ofCls k' _ 8 s' _ hc.1 hc.2 ?_)
      simp only [Bool.false_eq_true, if_false]
      exact wpAny_pure ⟨rfl, rfl, more⟩
  · rintro ⟨r1, r2⟩ s' ⟨hr, rfl, _⟩
    simp only at hr
    subst hr
    exact wpAny_pure h
def rowsN (w : World) (L : List (Addr × NestedKey)) : List (Int × Value) := L.map fun p => (p.2.hash w, Value.ref p.1)
structure SetNR (w : World) (h : Heap) (a : Addr) (L : List (Addr × NestedKey)) (es : Array (Int × Value)) (ep : Nat) (t : SetTable) : Prop where
  ob : ∃ o, h.get? a = some o ∧ o.ExactSet ∧ o.data = .set es ep t
  rows : es.toList = rowsN w L
  tab : TabOk t (L.map fun p => p.2.hash w)
  nd : (L.map (·.2)).Nodup
  tup : ∀ p ∈ L, IsN h p.2 p.1
  led : w.params.followText "set-order" = true ∨ t.led = true
  room : L.length * 5 < t.mask * 3
  few : L.length < 64
variable {a : Addr} {L : List (Addr × NestedKey)} {es : Array (Int × Value)} {ep : Nat} {t : SetTable}
theorem SetNR.size (R : SetNR w s.heap a L es ep t) : es.size = L.length := by
  have h := congrArg List.length R.rows
  unfold rowsN at h
  rw [Array.length_toList, List.length_map] at h
  exact h
theorem SetNR.fits (R : SetNR w s.heap a L es ep t) : t.fits es.size = true := by
  have h1 := R.tab.sz
  rw [List.length_map] at h1
  have h2 := R.size
  have h3 := R.room
  unfold SetTable.fits SetTable.fill
  rw [R.tab.dm, Bool.and_eq_true, beq_iff_eq, decide_eq_true_eq]
  show t.place.size = es.size ∧ t.place.size + 0 ≤ t.mask
  omega
theorem SetNR.entry (R : SetNR w s.heap a L es ep t) {i : Nat} {p : Addr × NestedKey} (h : L[i]? = some p) : es[i]? = some (p.2.hash w, Value.ref p.1) := by
  rw [← Array.getElem?_toList, R.rows]
  unfold rowsN
  rw [List.getElem?_map, h] <;> rfl
theorem SetNR.gw (R : SetNR w s.heap a L es ep t) : ¬ t.gaveWay = true := by
  unfold SetTable.gaveWay
  rw [mask_odd R.tab.mok]
  decide
theorem sameMem (t : SetTable) : t.sameMemory t.moves t.mask = some true := by
  unfold SetTable.sameMemory
  rw [if_pos (beq_self_eq_true _)]
/-- THE SEARCH: from the c-th step of the way on -/
theorem search_from (R : SetNR w s.heap a L es ep t) {x : Addr} {k : NestedKey} (hx : IsN s.heap k x) (hu : A.units + 8 < cLine) {K : Nat} (hKf : K < 10 * SetTable.turns t.mask)
    (hK : way t.mask (k.hash w) K ∉ t.place.toList) (hKb : ∀ c, c < K → way t.mask (k.hash w) c ∈ t.place.toList) {Q : SetFound → Shared → Prop}
    (hin : k ∈ L.map (·.2) → Q (.there none) s) (hout : k ∉ L.map (·.2) → Q (.free (way t.mask (k.hash w) K) false) s) :
    ∀ (f c : Nat) (stand : Option SetTable.Probe), stand.getD (t.probeStart (k.hash w)) = nth t.mask (runAt t.mask (SetTable.bits (k.hash w) % (t.mask + 1)) (SetTable.bits (k.hash w))) c → c ≤ K → K - c < f →
      (∀ (i : Nat) p, L[i]? = some p → p.2 = k → ∃ c', c ≤ c' ∧ c' < K ∧ t.place.toList[i]? = some (way t.mask (k.hash w) c')) →
      wpAny (model P w) A (setSearchFrom a (.ref x) (k.hash w) true f stand) Q E s
  | 0, c, stand, _, _, hf, _ => absurd hf (Nat.not_lt_zero _)
  | f + 1, c, stand, hst, hc, hf, hre => by
    obtain ⟨o, ho, hex, hd⟩ := R.ob
    rw [setSearchFrom_succ]
    refine wpAny_bind (wpAny_setState_of ho hd R.fits ?_)
    dsimp only
    refine wp_if_neg R.gw ?_
    try refine wpAny_bind (wpAny_pure ?_)
    have hnd : (nth t.mask (runAt t.mask (SetTable.bits (k.hash w) % (t.mask + 1)) (SetTable.bits (k.hash w))) c).dummy = none := by
      have key : ∀ (n : Nat) (p : SetTable.Probe), p.dummy = none → (nth t.mask p n).dummy = none := by
        intro n
        induction n with
        | zero => intro p h; exact h
        | succ n ih =>
          intro p h
          refine ih (adv t.mask p) ?_
          unfold adv
          split <;> exact h
      exact key c _ rfl
    have sh : ∀ q, nth t.mask (nth t.mask (runAt t.mask (SetTable.bits (k.hash w) % (t.mask + 1)) (SetTable.bits (k.hash w))) c) q = nth t.mask (runAt t.mask (SetTable.bits (k.hash w) % (t.mask + 1)) (SetTable.bits (k.hash w))) (c + q) := fun q => (nth_add t.mask c _ q).symm
    have e1 : ∀ q, (nth t.mask (nth t.mask (runAt t.mask (SetTable.bits (k.hash w) % (t.mask + 1)) (SetTable.bits (k.hash w))) c) q).j = way t.mask (k.hash w) (c + q) := fun q => congrArg SetTable.Probe.j (sh q)
    have spec := go_spec t R.tab.ris R.tab.dm (fun i => (es[i]?.map (·.1)).getD 0) (k.hash w) (10 * SetTable.turns t.mask) (K - c) _ hnd (by omega)
      (fun q hq => by rw [e1]; exact hKb (c + q) (by omega)) (by rw [e1, show c + (K - c) = K by omega]; exact hK)
    have hashAt : ∀ (i : Nat) p, L[i]? = some p → (fun i => (es[i]?.map (·.1)).getD 0) i = p.2.hash w := fun i p hp => by
      show (es[i]?.map (·.1)).getD 0 = _
      rw [R.entry hp] <;> rfl
    rcases spec with ⟨q, i, hq, hi, hh, hno, hpr⟩ | ⟨hno, hpr⟩
    · -- a candidate
      have hpr' : t.probe (fun i => (es[i]?.map (·.1)).getD 0) (k.hash w) (stand.getD (t.probeStart (k.hash w))) = some (.candidate (way t.mask (k.hash w) (c + q)) i (nth t.mask (runAt t.mask (SetTable.bits (k.hash w) % (t.mask + 1)) (SetTable.bits (k.hash w))) (c + (q + 1)))) := by
        rw [hst, ← e1, ← sh]
        exact hpr
      rw [hpr']
      dsimp only
      rw [e1] at hi
      -- the entry
      have hil : i < L.length := by
        have h1 : i < t.place.toList.length := (List.getElem?_eq_some_iff.mp hi).1
        have h2 := R.tab.sz
        rw [List.length_map] at h2
        rw [Array.length_toList] at h1
        omega
      have hp : L[i]? = some L[i] := List.getElem?_eq_getElem hil
      generalize hpe : L[i] = p at hp
      have hmem : p ∈ L := List.mem_of_getElem? hp
      have hpt := R.tup p hmem
      have rest : wpAny (model P w) A (searchRest a (.ref x) (k.hash w) true f es t (way t.mask (k.hash w) (c + q)) i (nth t.mask (runAt t.mask (SetTable.bits (k.hash w) % (t.mask + 1)) (SetTable.bits (k.hash w))) (c + (q + 1)))) Q E s := by
        unfold searchRest
        rw [R.entry hp]
        dsimp only
        refine wpAny_bind (wpAny_holding ((nestedKind P w).eqBool hu hpt hx ?_))
        refine wpAny_bind (wpAny_setState_of ho hd R.fits ?_)
        dsimp only
        by_cases hkk : p.2 = k
        · refine wp_if_pos (by simp [hkk]) ?_
          refine wpAny_pure (hin ?_)
          exact List.mem_map.mpr ⟨p, hmem, hkk⟩
        · refine wp_if_neg (by simp [hkk]) ?_
          try refine wpAny_bind (wpAny_pure ?_)
          rw [sameMem]
          dsimp only
          have hsl : t.slot (way t.mask (k.hash w) (c + q)) = .live i := slot_live R.tab.ris hi
          simp only [if_true, hsl, R.entry hp]
          refine wpAny_bind (wpAny_isSame_ref_self (wpAny_bind (wpAny_pure ?_)))
          simp only [if_true]
          refine wp_if_neg (by simp [hkk]) ?_
          refine search_from R hx hu hKf hK hKb hin hout f (c + (q + 1)) _ rfl (by omega) (by omega) fun i0 p0 h0 hk0 => ?_
          obtain ⟨c', a1, a2, a3⟩ := hre i0 p0 h0 hk0
          refine ⟨c', ?_, a2, a3⟩
          -- it isn't passed
          rcases Nat.lt_or_ge c' (c + q) with z | z
          · exfalso
            refine hno (c' - c) i0 (by omega) (by rw [e1, show c + (c' - c) = c' by omega]; exact a3) ?_
            exact (hashAt i0 p0 h0).trans (congrArg (NestedKey.hash w) hk0)
          · rcases Nat.lt_or_ge (c + q) c' with y | y
            · omega
            · exfalso
              have ec : c' = c + q := Nat.le_antisymm y z
              rw [ec] at a3
              have s0 := slot_live R.tab.ris a3
              rw [hsl] at s0
              injection s0 with s0
              rw [← s0, hp] at h0
              exact hkk ((congrArg Prod.snd (Option.some.inj h0)).trans hk0)
      by_cases hl : t.led = true
      · refine wp_if_neg (by simp [hl]) ?_
        try refine wpAny_bind (wpAny_pure ?_)
        exact rest
      · refine wp_if_pos (by simp [hl]) ?_
        refine wpAny_bind (seen_tup hx (fun y hy => ?_) ?_)
        · obtain ⟨e, he, ee⟩ := List.mem_map.mp hy
          have he1 : e ∈ es ∧ e.1 = k.hash w := by simpa using he
          have he2 : e ∈ es.toList := by simpa using he1.1
          rw [R.rows] at he2
          obtain ⟨p2, hp2, e2⟩ := List.mem_map.mp he2
          refine ⟨p2.2, p2.1, ?_, R.tup p2 hp2⟩
          rw [← ee, ← e2]
        · refine wp_if_neg (by decide) ?_
          try refine wpAny_bind (wpAny_pure ?_)
          exact rest
    · -- the empty slot
      have hpr' : t.probe (fun i => (es[i]?.map (·.1)).getD 0) (k.hash w) (stand.getD (t.probeStart (k.hash w))) = some (.empty (way t.mask (k.hash w) K) none) := by
        have e2 : way t.mask (k.hash w) K = (nth t.mask (nth t.mask (runAt t.mask (SetTable.bits (k.hash w) % (t.mask + 1)) (SetTable.bits (k.hash w))) c) (K - c)).j := by
          rw [e1, show c + (K - c) = K by omega]
        rw [hst, e2]
        exact hpr
      rw [hpr']
      dsimp only
      refine wpAny_pure (hout fun hm => ?_)
      obtain ⟨p0, h0, hk0⟩ := List.mem_map.mp hm
      obtain ⟨i0, hi0, e0⟩ := List.getElem_of_mem h0
      have h00 : L[i0]? = some p0 := by rw [List.getElem?_eq_getElem hi0, e0]
      obtain ⟨c', a1, a2, a3⟩ := hre i0 p0 h00 hk0
      refine hno (c' - c) i0 (by omega) (by rw [e1, show c + (c' - c) = c' by omega]; exact a3) ?_
      exact (hashAt i0 p0 h00).trans (congrArg (NestedKey.hash w) hk0)
/-- the search as adding asks for it -/
theorem search_at (R : SetNR w s.heap a L es ep t) {x : Addr} {k : NestedKey} (hx : IsN s.heap k x) (hu : A.units + 8 < cLine) {Q : SetFound → Shared → Prop}
    (hin : k ∈ L.map (·.2) → Q (.there none) s)
    (hout : ∀ K, k ∉ L.map (·.2) → way t.mask (k.hash w) K ∉ t.place.toList → (∀ c, c < K → way t.mask (k.hash w) c ∈ t.place.toList) → Q (.free (way t.mask (k.hash w) K) false) s) :
    wpAny (model P w) A (setSearch a (.ref x) (k.hash w) true) Q E s := by
  have hroom := R.room
  obtain ⟨K, hKf, hK, hKb⟩ := R.tab.first (by rw [List.length_map]; omega) (k.hash w)
  have hbig : K < 100000 := by
    have : 10 * SetTable.turns t.mask ≤ 1420 := by
      unfold SetTable.turns
      rcases R.tab.mok with e | e | e <;> omega
    omega
  unfold setSearch
  refine search_from R hx hu hKf hK hKb hin (fun hn => hout K hn hK hKb) 100000 0 none rfl (Nat.zero_le _) (by omega) fun i p hp hk => ?_
  have hi : (L.map fun p => p.2.hash w)[i]? = some (k.hash w) := by rw [List.getElem?_map, hp, ← hk] <;> rfl
  have hil : i < t.place.toList.length := by
    have h1 : i < L.length := (List.getElem?_eq_some_iff.mp hp).1
    have h2 := R.tab.sz
    rw [List.length_map] at h2
    rw [Array.length_toList]
    omega
  have hj := List.getElem?_eq_getElem hil
  obtain ⟨c, hc, e⟩ := R.tab.before hK hi hj
  exact ⟨c, Nat.zero_le _, hc, by rw [hj, e]⟩
/-- a tuple isn't the set -/
theorem isT_same {h h' : Heap} {k : NestedKey} {a b : Addr} {o : Obj} {es : Array (Int × Value)} {ep : Nat} {t : SetTable} (hb : IsN h k b) (ho : h.get? a = some o) (hd : o.data = .set es ep t) (hs : Heap.SameBut a h h') : IsN h' k b := by
  refine ⟨NestedIs.at (fun b ob vs n hb hc => (hs.2 b fun e => ?_).trans hb) k _ hb.1, hb.2⟩
  subst e
  rw [ho] at hb
  cases hb
  rw [hd] at hc
  cases hc
theorem rows_put (L : List (Addr × NestedKey)) (p : Nat) (x : Addr) (k : NestedKey) : rowsN w (L.take p ++ (x, k) :: L.drop p) = (rowsN w L).take p ++ (k.hash w, Value.ref x) :: (rowsN w L).drop p := by
  unfold rowsN
  rw [List.map_append, List.map_cons, List.map_take, List.map_drop]
theorem put_perm {α : Type} (L : List α) (p : Nat) (x : α) : (L.take p ++ x :: L.drop p).Perm (x :: L) := by
  have h : (L.take p ++ x :: L.drop p).Perm (x :: (L.take p ++ L.drop p)) := List.perm_middle
  rw [List.take_append_drop] at h
  exact h
theorem order_rows (L : List (Addr × NestedKey)) (es : Array (Int × Value)) (order : Array Nat) (hr : es.toList = rowsN w L) (hp : order.toList.Perm (List.range L.length)) :
    ∃ L2, (order.filterMap (es[·]?)).toList = rowsN w L2 ∧ L2.Perm L ∧ (L2.map fun p => p.2.hash w) = order.toList.map fun i => (es.map (·.1)).getD i 0 := by
  have hsz : es.size = L.length := by
    have h := congrArg List.length hr
    unfold rowsN at h
    rw [Array.length_toList, List.length_map] at h
    exact h
  have ent : ∀ i (h : i < L.length), es[i]? = some (L[i].2.hash w, Value.ref (L[i]).1) := fun i h => by
    rw [← Array.getElem?_toList, hr]
    unfold rowsN
    rw [List.getElem?_map, List.getElem?_eq_getElem h] <;> rfl
  have key : ∀ l : List Nat, (∀ i ∈ l, i < L.length) → ∃ L2 : List (Addr × NestedKey), l.filterMap (fun i => es[i]?) = rowsN w L2 ∧ L2 = l.filterMap (fun i => L[i]?) ∧ (L2.map fun p => p.2.hash w) = l.map fun i => (es.map (·.1)).getD i 0 := by
    intro l
    induction l with
    | nil => intro _; exact ⟨[], rfl, rfl, rfl⟩
    | cons i l ih =>
      intro hl
      have hi := hl i List.mem_cons_self
      obtain ⟨L2, e1, e2, e3⟩ := ih fun j hj => hl j (List.mem_cons_of_mem _ hj)
      refine ⟨L[i] :: L2, ?_, ?_, ?_⟩
      · rw [List.filterMap_cons_some (ent i hi), e1] <;> rfl
      · rw [List.filterMap_cons_some (List.getElem?_eq_getElem hi), e2]
      · rw [List.map_cons, List.map_cons, e3]
        have hi2 : i < (es.map (·.1)).size := by rw [Array.size_map, hsz]; exact hi
        have e4 : (es.map (·.1)).getD i 0 = L[i].2.hash w := by
          have e5 : (es.map (·.1))[i]? = some (L[i].2.hash w) := by rw [Array.getElem?_map, ent i hi] <;> rfl
          simp [Array.getD_eq_getD_getElem?, e5]
        rw [e4]
  obtain ⟨L2, e1, e2, e3⟩ := key order.toList fun i hi => List.mem_range.mp (hp.mem_iff.mp hi)
  refine ⟨L2, by first | (rw [Array.toList_filterMap]; exact e1) | simpa using e1, ?_, e3⟩
  have h1 : L2.Perm ((List.range L.length).filterMap fun i => L[i]?) := by
    rw [e2]
    exact hp.filterMap _
  have h2 : (List.range L.length).filterMap (fun i => L[i]?) = L := by
    have key2 : ∀ n, n ≤ L.length → (List.range n).filterMap (fun i => L[i]?) = L.take n := by
      intro n
      induction n with
      | zero => intro _; rfl
      | succ n ih =>
        intro hn
        have hlt : n < L.length := hn
        rw [List.range_succ, List.filterMap_append, ih (Nat.le_of_lt hlt), List.take_succ, List.getElem?_eq_getElem hlt]
        rw [List.filterMap_cons_some (List.getElem?_eq_getElem hlt)] <;> rfl
    rw [key2 L.length (Nat.le_refl _), List.take_length]
  rw [h2] at h1
  exact h1
variable {a : Addr} {L : List (Addr × NestedKey)} {es : Array (Int × Value)} {ep : Nat} {t : SetTable}
/-- the table laid anew, larger -/
theorem relay_at {o : Obj} (ho : s.heap.get? a = some o) (hex : o.ExactSet) (hd : o.data = .set es ep t) (hrows : es.toList = rowsN w L) (hsz : t.place.size = es.size) (hdm : t.dummies = #[]) (hfl : es.size ≤ t.mask)
    (nd : (L.map (·.2)).Nodup) (tup : ∀ p ∈ L, IsN s.heap p.2 p.1) (ld : w.params.followText "set-order" = true ∨ t.led = true) (few : L.length < 64) {wanted M : Nat}
    (hw : SetTable.sizeAbove wanted - 1 = M) (hM : MaskOk M) (hw2 : SetTable.sizeAbove wanted ≤ 128) (hn : L.length * 5 < M * 3) {Q : Unit → Shared → Prop}
    (hQ : ∀ h' L' es' ep' t', Heap.SameBut a s.heap h' → SetNR w h' a L' es' ep' t' → L'.Perm L → Q () { s with heap := h' }) : wpAny (model P w) A (setRelay a wanted) Q E s := by
  have hsl : es.size = L.length := by
    have h := congrArg List.length hrows
    unfold rowsN at h
    rw [Array.length_toList, List.length_map] at h
    exact h
  have hfits : t.fits es.size = true := by
    unfold SetTable.fits SetTable.fill
    rw [hdm, Bool.and_eq_true, beq_iff_eq, decide_eq_true_eq]
    show t.place.size = es.size ∧ t.place.size + 0 ≤ t.mask
    omega
  obtain ⟨t', order, e, hp, T, em, el, ep', ed⟩ := relaid_ok t (hs := es.map (·.1)) (wanted := wanted) hw hM (by rw [Array.size_map, hsl]; omega)
  rw [Array.size_map, hsl] at hp
  obtain ⟨L2, r1, r2, r3⟩ := order_rows L es order hrows hp
  rw [← r3] at T
  have hs2 : (order.filterMap (es[·]?)).size = es.size := by
    have h := congrArg List.length r1
    unfold rowsN at h
    rw [Array.length_toList, List.length_map, r2.length_eq] at h
    rw [h, hsl]
  rw [setRelay_eq]
  refine wpAny_bind (wpAny_setState_of ho hd hfits ?_)
  dsimp only
  refine wp_if_neg (by rw [sizeLine_eq]; omega) ?_
  try refine wpAny_bind (wpAny_pure ?_)
  rw [e]
  dsimp only
  refine wpAny_bind ?_
  refine wp_if_neg (by rw [hs2]; simp) ?_
  try refine wpAny_bind (wpAny_pure ?_)
  refine wpAny_pure ?_
  dsimp only
  refine wpAny_storeSet_of ho hd ?_ (by rw [hs2, hsl, sizeLine_eq]; omega)
  have sb : Heap.SameBut a s.heap (s.heap.update a (Obj.putSet (order.filterMap (es[·]?)) t')) := Heap.SameBut.update ..
  refine hQ _ L2 (order.filterMap (es[·]?)) (ep + 1) t' sb ?_ r2
  refine ⟨⟨_, store_at ho hd, ⟨hex.1, hex.2.1, hex.2.2⟩, rfl⟩, r1, T, ?_, fun p hpm => isT_same (tup p (r2.mem_iff.mp hpm)) ho hd sb, by rw [el]; exact ld, ?_, by rw [r2.length_eq]; exact few⟩
  · exact (r2.map (·.2)).nodup_iff.mpr nd
  · rw [r2.length_eq, em]
    exact hn
/-- ADDING -/
theorem add_at (R : SetNR w s.heap a L es ep t) {x : Addr} {k : NestedKey} (hx : IsN s.heap k x) (hu : A.units + 8 < cLine) (hfew : L.length + 1 < 64) {Q : Bool → Shared → Prop}
    (hQ : ∀ b h' L' es' ep' t', Heap.SameBut a s.heap h' → SetNR w h' a L' es' ep' t' → (k ∈ L.map (·.2) → L' = L) → (k ∉ L.map (·.2) → L'.Perm ((x, k) :: L)) → Q b { s with heap := h' }) :
    wpAny (model P w) A (setAddHashed a (.ref x) (k.hash w)) Q E s := by
  obtain ⟨o, ho, hex, hd⟩ := R.ob
  have hsl := R.size
  have hroom := R.room
  unfold setAddHashed
  refine wpAny_holding ?_
  rw [show (100000 : Nat) = 99999 + 1 from rfl, setAddHashedIn_succ]
  refine wpAny_bind (wpAny_setState_of ho hd R.fits ?_)
  dsimp only
  refine wp_if_neg (by simp [byScan, Value.scannable]) ?_
  try refine wpAny_bind (wpAny_pure ?_)
  refine wpAny_bind (search_at R hx hu (fun hm => ?_) fun K hm hK hb => ?_)
  · dsimp only
    exact wpAny_pure (hQ false s.heap L es ep t (Heap.SameBut.refl a s.heap) R (fun _ => rfl) fun z => absurd hm z)
  · dsimp only
    refine wpAny_bind (wpAny_setState_of ho hd R.fits ?_)
    dsimp only
    obtain ⟨q1, q2, q3, q4, q5, q6, q7, q8, q9⟩ := R.tab.put hK hb
    generalize hpt : t.put (way t.mask (k.hash w) K) = pt at q1 q3 q4 q5 q6 q7 q8 q9 ⊢
    obtain ⟨t0, p⟩ := pt
    dsimp only at q1 q3 q4 q5 q6 q7 q8 q9 ⊢
    subst q1
    suffices cont : ∀ bv : Bool, wpAny (model P w) A (do
        storeSet a (SetTable.insertAt es (SetTable.below t.place (way t.mask (k.hash w) K)) (k.hash w, Value.ref x)) (if bv = true then t0 else { t0 with plain := false })
        if (!false && (if bv = true then t0 else { t0 with plain := false }).tooFull) = true then do
          setRelay a (SetTable.grown (es.size + 1))
          pure true
        else pure true) Q E s by
      split
      · exact wpAny_bind (hashBy_n hx cont)
      · exact wpAny_bind (wpAny_pure (cont true))
    intro bv
    have tp : ∀ b : Bool, TabOk (if b = true then t0 else { t0 with plain := false }) ((L.map fun p => p.2.hash w).take (SetTable.below t.place (way t.mask (k.hash w) K)) ++ k.hash w :: (L.map fun p => p.2.hash w).drop (SetTable.below t.place (way t.mask (k.hash w) K))) ∧
        (if b = true then t0 else { t0 with plain := false }).mask = t.mask ∧ (if b = true then t0 else { t0 with plain := false }).led = t.led ∧ (if b = true then t0 else { t0 with plain := false }).fill = (L.map fun p => p.2.hash w).length + 1 := fun b => by
      cases b with
      | true => exact ⟨q3, q4, q5, q9⟩
      | false => exact ⟨⟨q3.ris, q3.dm, q3.sz, q3.mok, q3.bd, q3.reach⟩, q4, q5, q9⟩
    obtain ⟨q3, q4, q5, q9⟩ := tp bv
    generalize (if bv = true then t0 else { t0 with plain := false }) = t1 at q3 q4 q5 q9 ⊢
    have hin : (SetTable.insertAt es (SetTable.below t.place (way t.mask (k.hash w) K)) (k.hash w, Value.ref x)).toList = rowsN w (L.take (SetTable.below t.place (way t.mask (k.hash w) K)) ++ (x, k) :: L.drop (SetTable.below t.place (way t.mask (k.hash w) K))) := by
      rw [SetTable.toList_insertAt, rows_put, R.rows]
    generalize hpp : SetTable.below t.place (way t.mask (k.hash w) K) = p at q2 q3 hin ⊢
    have pm := put_perm L p (x, k)
    have hlen : (L.take p ++ (x, k) :: L.drop p).length = L.length + 1 := pm.length_eq
    have hhs : (L.take p ++ (x, k) :: L.drop p).map (fun p => p.2.hash w) = (L.map fun p => p.2.hash w).take p ++ k.hash w :: (L.map fun p => p.2.hash w).drop p := by
      rw [List.map_append, List.map_cons, List.map_take, List.map_drop]
    rw [← hhs] at q3
    have nd1 : ((L.take p ++ (x, k) :: L.drop p).map (·.2)).Nodup := by
      refine (pm.map (·.2)).nodup_iff.mpr ?_
      rw [List.map_cons]
      exact List.nodup_cons.mpr ⟨hm, R.nd⟩
    have hes : (SetTable.insertAt es p (k.hash w, Value.ref x)).size = L.length + 1 := by
      have h := congrArg List.length hin
      unfold rowsN at h
      rw [Array.length_toList, List.length_map, hlen] at h
      exact h
    generalize SetTable.insertAt es p (k.hash w, Value.ref x) = es1 at hin hes ⊢
    generalize L.take p ++ (x, k) :: L.drop p = L1 at pm hlen q3 nd1 hin
    refine wpAny_bind (wpAny_storeSet_of ho hd ?_ (by rw [hes, sizeLine_eq]; omega))
    have sb : Heap.SameBut a s.heap (s.heap.update a (Obj.putSet es1 t1)) := Heap.SameBut.update ..
    have ho1 := store_at (es' := es1) (t' := t1) ho hd
    generalize s.heap.update a (Obj.putSet es1 t1) = h1 at sb ho1 ⊢
    have tup1 : ∀ p ∈ L1, IsN h1 p.2 p.1 := fun p hp => by
      rcases List.mem_cons.mp (pm.mem_iff.mp hp) with e | hp
      · rw [e]; exact isT_same hx ho hd sb
      · exact isT_same (R.tup p hp) ho hd sb
    have ld1 : w.params.followText "set-order" = true ∨ t1.led = true := by rw [q5]; exact R.led
    by_cases hf : t1.tooFull = true
    · first
        | (refine wpAny_bind ?_; refine wp_if_pos (by simp [hf]) ?_)
        | (refine wp_if_pos (by simp [hf]) ?_; refine wpAny_bind ?_)
      have hfull : (L.length + 1) * 5 ≥ t1.mask * 3 := by
        have h := hf
        unfold SetTable.tooFull at h
        rw [decide_eq_true_eq, q9, List.length_map] at h
        exact h
      rw [hsl]
      have hsz1 : t1.place.size = es1.size := by
        have h := q3.sz
        rw [List.length_map, hlen] at h
        rw [h, hes]
      have cases2 : (t.mask = 7 ∧ L.length = 4) ∨ (t.mask = 31 ∧ L.length = 18) := by
        rcases R.tab.mok with e | e | e
        · left; rw [q4, e] at hfull; rw [e] at hroom; exact ⟨e, by omega⟩
        · right; rw [q4, e] at hfull; rw [e] at hroom; exact ⟨e, by omega⟩
        · exfalso; rw [q4, e] at hfull; omega
      have go : ∀ M, SetTable.sizeAbove (SetTable.grown (L.length + 1)) - 1 = M → MaskOk M → SetTable.sizeAbove (SetTable.grown (L.length + 1)) ≤ 128 → (L.length + 1) * 5 < M * 3 →
          wpAny (model P w) A (setRelay a (SetTable.grown (L.length + 1))) (fun _ s' => wpAny (model P w) A (pure true) Q E s') E { s with heap := h1 } := fun M h1' h2' h3' h4' => by
        refine relay_at (s := { s with heap := h1 }) ho1 ⟨hex.1, hex.2.1, hex.2.2⟩ rfl hin hsz1 q3.dm (by rw [hes, q4]; rcases cases2 with ⟨e, e2⟩ | ⟨e, e2⟩ <;> omega) nd1 tup1 ld1 (by rw [hlen]; exact hfew) h1' h2' h3' (by rw [hlen]; exact h4') ?_
        intro h2 L2 es2 ep2 t2 sb2 R2 pm2
        refine wpAny_pure (hQ true h2 L2 es2 ep2 t2 (sb.trans sb2) R2 (fun z => absurd z hm) fun _ => pm2.trans pm)
      rcases cases2 with ⟨_, e2⟩ | ⟨_, e2⟩
      · refine go 31 (by rw [e2, size_20]) (.inr (.inl rfl)) (by rw [e2, size_20]; decide) (by omega)
      · refine go 127 (by rw [e2, size_76]) (.inr (.inr rfl)) (by rw [e2, size_76]; decide) (by omega)
    · first
        | refine wp_if_neg (by simp [hf]) ?_
        | (refine wpAny_bind ?_; refine wp_if_neg (by simp [hf]) ?_; refine wpAny_pure ?_)
      refine wpAny_pure (hQ true h1 L1 es1 (ep + 1) t1 sb ⟨⟨_, ho1, ⟨hex.1, hex.2.1, hex.2.2⟩, rfl⟩, hin, q3, nd1, tup1, ld1, ?_, by rw [hlen]; exact hfew⟩ (fun z => absurd z hm) fun _ => pm)
      have h := hf
      unfold SetTable.tooFull at h
      rw [decide_eq_true_eq, q9, List.length_map] at h
      rw [hlen]
      omega
end
end Mi
/-! MiTu: the members that are tuples, as a bag. -/
namespace Mi
open PySem L2 PySem.Spec PyProof.Rows
inductive Pr {α β : Type} (R : α → β → Prop) : List α → List β → Prop where
  | nil : Pr R [] []
  | cons {a b as bs} : R a b → Pr R as bs → Pr R (a :: as) (b :: bs)
theorem Pr.len {α β : Type} {R : α → β → Prop} {as : List α} {bs : List β} (h : Pr R as bs) : as.length = bs.length := by
  induction h with
  | nil => rfl
  | cons _ _ ih => simp [ih]
theorem Pr.left {α β : Type} {R : α → β → Prop} {as : List α} {bs : List β} (h : Pr R as bs) : ∀ a ∈ as, ∃ b ∈ bs, R a b := by
  induction h with
  | nil => intro a ha; cases ha
  | @cons a b as bs r _ ih =>
    intro x hx
    rcases List.mem_cons.mp hx with rfl | hx
    · exact ⟨b, List.mem_cons_self, r⟩
    · obtain ⟨y, hy, q⟩ := ih x hx
      exact ⟨y, List.mem_cons_of_mem _ hy, q⟩
theorem Pr.right {α β : Type} {R : α → β → Prop} {as : List α} {bs : List β} (h : Pr R as bs) : ∀ b ∈ bs, ∃ a ∈ as, R a b := by
  induction h with
  | nil => intro a ha; cases ha
  | @cons a b as bs r _ ih =>
    intro x hx
    rcases List.mem_cons.mp hx with rfl | hx
    · exact ⟨a, List.mem_cons_self, r⟩
    · obtain ⟨y, hy, q⟩ := ih x hx
      exact ⟨y, List.mem_cons_of_mem _ hy, q⟩
theorem Pr.perm {α β : Type} {R : α → β → Prop} {bs cs : List β} (p : bs.Perm cs) : ∀ {as : List α}, Pr R as bs → ∃ ds, Pr R ds cs ∧ as.Perm ds := by
  induction p with
  | nil => intro as h; exact ⟨as, h, List.Perm.refl _⟩
  | cons x _ ih =>
    intro as h
    cases h with
    | cons r h =>
      obtain ⟨ds, h1, h2⟩ := ih h
      exact ⟨_ :: ds, .cons r h1, h2.cons _⟩
  | swap x y l =>
    intro as h
    cases h with
    | cons r h =>
      cases h with
      | cons r' h => exact ⟨_ :: _ :: _, .cons r' (.cons r h), List.Perm.swap _ _ _⟩
  | trans _ _ ih1 ih2 =>
    intro as h
    obtain ⟨ds, h1, h2⟩ := ih1 h
    obtain ⟨es, h3, h4⟩ := ih2 h1
    exact ⟨es, h3, h2.trans h4⟩
def TpR (p : P × Value) (q : Addr × NestedKey) : Prop := p.2 = .ref q.1 ∧ toNK p.1 = some q.2
theorem tp_vals {L : List (P × Value)} {LN : List (Addr × NestedKey)} (q : Pr TpR L LN) : (LN.map fun p => Value.ref p.1) = L.map (·.2) := by
  induction q with
  | nil => rfl
  | cons r _ ih => rw [List.map_cons, List.map_cons, ih, r.1]
/-- the set object o with the tuples L -/
structure TpO (w : World) (o : Obj) (L : List (P × Value)) : Prop where
  ex : ∃ (LN : List (Addr × NestedKey)) (es : Array (Int × Value)) (ep : Nat) (t : SetTable), o.ExactSet ∧ o.data = .set es ep t ∧ es.toList = rowsN w LN ∧ TabOk t (LN.map fun p => p.2.hash w) ∧ (LN.map (·.2)).Nodup ∧ (w.params.followText "set-order" = true ∨ t.led = true) ∧ LN.length * 5 < t.mask * 3 ∧ Pr TpR L LN
def TpI (h : Heap) (d : P) (u : Value) : Prop := ∃ a k, u = .ref a ∧ toNK d = some k ∧ IsN h k a
section
variable {prog : Program} {w : World} {A : Around} {E : Value → Shared → Prop} {s : Shared} {a : Addr}
theorem TpO.full {o : Obj} {L : List (P × Value)} (F : TpO w o L) (ho : s.heap.get? a = some o) (all : ∀ p ∈ L, TpI s.heap p.1 p.2) (room : L.length < 60) :
    ∃ LN es ep t, SetNR w s.heap a LN es ep t ∧ Pr TpR L LN := by
  obtain ⟨LN, es, ep, t, h1, h2, h3, h4, h5, h6, h7, h8⟩ := F.ex
  refine ⟨LN, es, ep, t, ⟨⟨o, ho, h1, h2⟩, h3, h4, h5, fun q hq => ?_, h6, h7, by rw [← h8.len]; omega⟩, h8⟩
  obtain ⟨p, hp, e1, e2⟩ := h8.right q hq
  obtain ⟨b, k, e3, e4, e5⟩ := all p hp
  rw [e1] at e3; cases e3
  rw [e2] at e4; cases e4
  exact e5
theorem SetNR.obj {LN : List (Addr × NestedKey)} {h : Heap} {es : Array (Int × Value)} {ep : Nat} {t : SetTable} (R : SetNR w h a LN es ep t) {L : List (P × Value)} (q : Pr TpR L LN) : ∃ o, h.get? a = some o ∧ TpO w o L := by
  obtain ⟨o, ho, h1, h2⟩ := R.ob
  exact ⟨o, ho, ⟨LN, es, ep, t, h1, h2, R.rows, R.tab, R.nd, R.led, R.room, q⟩⟩
theorem tp_any {L : List (P × Value)} {LN : List (Addr × NestedKey)} (q : Pr TpR L LN) {d : P} {k : NestedKey} (e : toNK d = some k) : (L.any fun p => PyData.eqv p.1 d) = true ↔ k ∈ LN.map (·.2) := by
  rw [List.any_eq_true, List.mem_map]
  constructor
  · rintro ⟨p, hp, z⟩
    obtain ⟨r, hr, _, e2⟩ := q.left p hp
    rw [eqv_nkd e2 e, decide_eq_true_eq] at z
    exact ⟨r, hr, z⟩
  · rintro ⟨r, hr, z⟩
    obtain ⟨p, hp, _, e2⟩ := q.right r hr
    exact ⟨p, hp, by rw [eqv_nkd e2 e, decide_eq_true_eq]; exact z⟩
theorem tp_add {d : P} {u : Value} {o : Obj} {L : List (P × Value)} {Q : Value → Shared → Prop} (ho : s.heap.get? a = some o) (F : TpO w o L) (all : ∀ p ∈ L, TpI s.heap p.1 p.2) (is : TpI s.heap d u) (room : L.length < 60) (hu : A.units + 20 < cLine)
    (hQ : ∀ o' L' h' tk', h'.get? a = some o' → Heap.SameBut a s.heap h' → TpO w o' L' → ((L.any fun q => PyData.eqv q.1 d) = true → L' = L) → ((L.any fun q => PyData.eqv q.1 d) = false → L'.Perm ((d, u) :: L)) → Q .none { s with heap := h', toks := tk' }) :
    wpAny (model prog w) A (call (.builtin "set.add") [.ref a, u]) Q E s := by
  obtain ⟨LN, es, ep, t, R, q⟩ := F.full ho all room
  obtain ⟨b, k, rfl, ek, hk⟩ := is
  refine wpAny_call_entry PySem.F.slot_set_add (by obtain ⟨o, ho, hex, _⟩ := R.ob; exact ⟨o, ho, hex.1⟩) PySem.F.entry_set_add ?_ (PySem.F.args_set_add_2 _ _)
  unfold Builtin.«set.add» Builtin.Frozenset.oneOther
  simp only [List.isEmpty_nil, bind_assoc]
  unfold Builtin.Frozenset.addrOf setAdd
  refine wpAny_bind (wpAny_pure ?_)
  try dsimp only
  refine wpAny_bind (wpAny_pure ?_)
  try dsimp only
  refine wpAny_bind ?_
  refine wpAny_holding ?_
  have h2 : A.in1.units + 8 < cLine := by
    have : A.in1.units = A.units + 1 := Around.in1_units A
    omega
  refine wpAny_bind ((nestedKind prog w).pyHash (k := k) (a := b) (show _ < _ by first | exact h2 | omega) hk ?_)
  refine add_at (P := prog) (s := { s with toks := s.toks + (nestedKind prog w).draws k }) R hk (by first | exact h2 | omega) (by rw [← q.len]; omega) fun bb h' LN' es' ep' t' sb R' c1 c2 => ?_
  show wpAny _ _ (ret Value.none) _ _ _
  refine wpAny_pure ⟨_, rfl, ?_⟩
  by_cases hm : k ∈ LN.map (·.2)
  · have e := c1 hm
    subst e
    obtain ⟨o', ho', F'⟩ := R'.obj q
    have yes := (tp_any q ek).mpr hm
    exact hQ o' L h' _ ho' sb F' (fun _ => rfl) fun no => by rw [yes] at no; cases no
  · obtain ⟨L', q', pm⟩ := Pr.perm (c2 hm).symm (Pr.cons (R := TpR) (a := (d, .ref b)) ⟨rfl, ek⟩ q)
    obtain ⟨o', ho', F'⟩ := R'.obj q'
    have no : ¬ (L.any fun p => PyData.eqv p.1 d) = true := fun z => hm ((tp_any q ek).mp z)
    exact hQ o' L' h' _ ho' sb F' (fun yes => absurd yes no) fun _ => pm.symm
end
def bagTp (prog : Program) (w : World) : Bag prog w true where
  O := TpO w
  Is := TpI
  noCell := fun {o L} F v e => by
    obtain ⟨_, es, ep, t, _, hd, _⟩ := F.ex
    rw [hd] at e; cases e
  walk := fun {o L} F => by
    obtain ⟨LN, es, ep, t, hex, hd, rows, tab, nd, led, room, q⟩ := F.ex
    have e : es.toList.map (·.2) = L.map (·.2) := by
      rw [rows]
      unfold rowsN
      rw [List.map_map]
      exact tp_vals q
    have sz : es.size = LN.length := by
      have z := congrArg List.length rows
      unfold rowsN at z
      rwa [Array.length_toList, List.length_map] at z
    have sz2 := tab.sz
    rw [List.length_map] at sz2
    have hm : t.mask ≤ 127 := by rcases tab.mok with z | z | z <;> omega
    refine ⟨es, ep, t, hex.1, hd, ?_, ?_, tab.ris, led, by rw [e]⟩
    · unfold SetTable.fits SetTable.fill
      rw [tab.dm, Bool.and_eq_true, beq_iff_eq, decide_eq_true_eq]
      show t.place.size = es.size ∧ t.place.size + 0 ≤ t.mask
      omega
    · show es.size < 4096
      omega
  fresh := ⟨[], #[], 0, _, ⟨rfl, rfl, rfl⟩, rfl, rfl, ⟨List.Pairwise.nil, rfl, rfl, .inl rfl, fun x hx => (by cases hx), fun i h j hi => (by simp at hi)⟩, List.nodup_nil, by
    show _ ∨ (!w.params.followText "set-order") = true
    cases w.params.followText "set-order"
    · exact .inr rfl
    · exact .inl rfl, by show 0 * 5 < 7 * 3; decide, .nil⟩
  is := fun {Y pins σ H s ι h d v u} I hp hw hb dv ru => by
    cases d with
    | tuple ds =>
      obtain ⟨k, e1, e2⟩ := key_tup (k := .tuple ds) hb rfl
      have e3 := PV.nested I (.tuple ds) v u k e1 dv ru
      have e4 : ∃ a vs, v = V.ref a ∧ LstF Y.K (lv ι h) H a vs ∨ v = V.ref a := by
        obtain ⟨a, vs, e, _⟩ := dv
        exact ⟨a, vs, .inr e⟩
      obtain ⟨a, vs, e⟩ := e4
      have e : v = V.ref a := e.elim (·.1) id
      subst e
      cases ru
      exact ⟨a, k, rfl, e1, e3, Nat.le_trans (nk_depth _ _ e1) e2⟩
    | _ => cases hb
  add := fun {A E s D0 o L d u Q} ho F hb all is room hu hQ => tp_add ho F (fun p hp => (all p hp).2) is room hu fun o' L' h' tk' e sb f c1 c2 => hQ o' L' h' tk' e sb f c1 c2
end Mi
/-! MiSq: sorted of a set; the construct sorted({e for t in xs for t1 in ys}). -/
namespace Mi
open PySem L2 PySem.Spec PyProof.Rows PySem.W
theorem lt_or {a b : P} (h : alike a b = true) (n : PyData.eqv a b = false) : keyToks a ≠ keyToks b := by
  intro e
  have q := (toks_eqv a b h).2 n
  have q1 := q [.inl 0] [.inl 1]
  rw [e, lex_pre, lex_irrefl] at q1
  revert q1
  decide
theorem sortP_perm {as bs : List P} (p : as.Perm bs) (hal : ∀ a ∈ as, ∀ b ∈ as, alike a b = true) (ne : as.Pairwise fun a b => PyData.eqv a b = false) : sortP as = sortP bs := by
  have ne2 : ∀ a ∈ as, ∀ b ∈ as, keyToks a = keyToks b → a = b := by
    clear p
    induction as with
    | nil => intro a ha; cases ha
    | cons x as ih =>
      obtain ⟨n1, n2⟩ := List.pairwise_cons.mp ne
      intro a ha b hb e
      rcases List.mem_cons.mp ha with rfl | ha' <;> rcases List.mem_cons.mp hb with rfl | hb'
      · rfl
      · exact absurd e (lt_or (hal _ ha _ hb) (n1 b hb'))
      · exact absurd e.symm (lt_or (hal _ hb _ ha) (n1 a ha'))
      · exact ih (fun c hc d hd => hal c (List.mem_cons_of_mem _ hc) d (List.mem_cons_of_mem _ hd)) n2 a ha' b hb' e
  have tr : ∀ a b c : P, (!dataLt b a) = true → (!dataLt c b) = true → (!dataLt c a) = true := fun a b c h1 h2 => by
    rw [Bool.not_eq_true'] at h1 h2 ⊢
    rw [← Bool.not_eq_true]
    intro h3
    rcases (listOrd itemOrd).negTrans (keyToks c) (keyToks b) (keyToks a) h3 with z | z
    · rw [show dataLt c b = true from z] at h2; cases h2
    · rw [show dataLt b a = true from z] at h1; cases h1
  have tt : ∀ a b : P, (!dataLt b a || !dataLt a b) = true := fun a b => by
    cases h1 : dataLt b a with
    | false => rfl
    | true =>
      cases h2 : dataLt a b with
      | false => rfl
      | true =>
        have := lex_trans (O := itemOrd) _ _ _ h1 h2
        rw [lex_irrefl] at this; cases this
  have s1 : (sortP as).Pairwise fun a b => (!dataLt b a) = true := List.pairwise_mergeSort tr tt as
  have s2 : (sortP bs).Pairwise fun a b => (!dataLt b a) = true := List.pairwise_mergeSort tr tt bs
  have pa : (sortP as).Perm as := List.mergeSort_perm ..
  have pb : (sortP bs).Perm bs := List.mergeSort_perm ..
  refine List.Perm.eq_of_pairwise (fun a b ha hb h1 h2 => ?_) s1 s2 (pa.trans (p.trans pb.symm))
  rw [Bool.not_eq_true'] at h1 h2
  exact ne2 a (pa.mem_iff.mp ha) b (p.mem_iff.mpr (pb.mem_iff.mp hb)) (lex_total _ _ h2 h1)
section
variable {X : Cx} {C : Calls} {EW : EWt}
theorem pr_vals : ∀ (L : List (P × Value)), Pr (fun (p : P × Value) (u : Value) => p.2 = u) L (L.map (·.2))
  | [] => .nil
  | p :: L => .cons rfl (pr_vals L)
theorem mem_vals {W : Wd} {tp : Bool} {ι : List Addr} {h : Hh} {H : Hp} : ∀ {L : List (P × Value)}, Mem W tp ι h H L → ∃ vs, Vals vs (L.map (·.2)) ∧ PVs W.pr W.w W.K (lv ι h) H (L.map (·.1)) vs
  | [], _ => ⟨[], .nil, PVs.nil⟩
  | p :: L, m => by
    obtain ⟨vs, a, b⟩ := mem_vals (L := L) fun q hq => m q (List.mem_cons_of_mem _ hq)
    obtain ⟨_, v, r, pv⟩ := m p List.mem_cons_self
    exact ⟨v :: vs, .cons r a, PVs.cons pv b⟩
/-- sorted(the set) -/
theorem sorted_bag {tp : Bool} {Bg : Bag X.prog X.w tp} {pins : List (Addr × Obj)} {s : Shared} {σ : L2.St} {H : Hp} {ι : List Addr} {h : Hh} {Q : VK} {D0 : Addr} {acc : List P} (hc : X.calm = true) (hu : X.A.units + 70 < cLine) (I : Inv X pins σ H s) (b : Has Bg (Wx X) D0 ι h H s.heap acc) (ok : sortOk acc = true)
    (q : ∀ us, PVs X.prog X.w X.K (lv ι h) H (sortP acc) us → ∀ p, H p = none → Q (.ref p) (upd H p (.lst us))) : wpAny (model X.prog X.w) X.A (call (.builtin "sorted") [.ref D0]) (EP X pins σ Q) X.xe s := by
  obtain ⟨o, L, ho, hO, mem, perm, ne⟩ := b.ex
  obtain ⟨es, ep, t, hcl, hd, hf, hsz, hr, hl, pes⟩ := Bg.walk hO
  unfold sortOk at ok
  simp only [Bool.and_eq_true, decide_eq_true_eq, List.all_eq_true, allAlike] at ok
  obtain ⟨⟨k1, k2⟩, k3⟩ := ok
  refine Calls.call_function_entry kind_sorted plain_sorted entry_sorted (args_sorted1 _) ?_
  unfold Builtin.«sorted»
  refine wpAny_bind (m := checkCount "sorted" 1 1 _) (wpAny_pure ?_)
  refine wpAny_bind (collect_set (A := X.A.in1) (I.ok.hd hc) ⟨o, ho, hcl, hd⟩ hf hsz hr hl fun s1 vs kp hz g1 o1 pm => ?_)
  obtain ⟨L1, prl, pl⟩ := Pr.perm (pm.trans pes).symm (pr_vals L)
  have hvs : vs = L1.map (·.2) := by
    clear pl pm
    induction prl with
    | nil => rfl
    | cons r _ ih => rw [List.map_cons, ← ih, r]
  have mem1 : Mem (Wx X) tp ι h H L1 := fun p hp => mem p (pl.mem_iff.mpr hp)
  obtain ⟨vv, rv, pv⟩ := mem_vals mem1
  rw [← hvs] at rv
  have pa : (L1.map (·.1)).Perm acc := (pl.symm.map _).trans perm
  obtain ⟨bs, e1, e2, e3⟩ := each_pv I (fun d hd => (k2 d (pa.mem_iff.mp hd)).2) pv rv
  have hal : AllAlike (L1.map (·.1)) := fun d hd d' hd' => k1 d (pa.mem_iff.mp hd) d' (pa.mem_iff.mp hd')
  have hlen : vs.length = acc.length := by rw [hvs, List.length_map, ← pa.length_eq, List.length_map]
  have hln : vs.length ≤ sizeLine := by rw [hlen]; exact sz k3
  refine wpAny_bind (wpAny_newList ?_ hln)
  have hoL : (s1.heap.push (seqObj "list" vs.toArray 0)).get? s1.heap.objs.size = some (seqObj "list" vs.toArray 0) := Heap.get?_push_size _ rfl
  have old : ∀ b u, s.heap.get? b = some u → b ≠ s1.heap.objs.size := fun b u e => Nat.ne_of_lt (Heap.lt_size (kp b u e))
  have keep : ∀ b u, s.heap.get? b = some u → (sortingHeap (s1.heap.push (seqObj "list" vs.toArray 0)) s1.heap.objs.size vs).get? b = some u := fun b u e => sortingHeap_old (old b u e) (Heap.get?_push_of_some _ (kp b u e))
  have er : EachIs (fun v d => ∃ as, Reads (sortingHeap (s1.heap.push (seqObj "list" vs.toArray 0)) s1.heap.objs.size vs) v d as) vs (bs.map (·.1)) :=
    each_map (R := fun v d => ∃ as, Reads (sortingHeap (s1.heap.push (seqObj "list" vs.toArray 0)) s1.heap.objs.size vs) v d as) (·.1) (e3.mono fun _ _ ⟨as, r⟩ => ⟨as, PyProof.Rows.Reads.keeps keep r⟩)
  have er' : EachIs (fun v (b : P × V) => ∃ as, Reads (sortingHeap (s1.heap.push (seqObj "list" vs.toArray 0)) s1.heap.objs.size vs) v b.1 as) vs bs := e3.mono fun _ _ ⟨as, r⟩ => ⟨as, PyProof.Rows.Reads.keeps keep r⟩
  have srt := sorts_any (prog := X.prog) (w := X.w) (A := X.A.in1.in1) (s := { s1 with heap := sortingHeap (s1.heap.push (seqObj "list" vs.toArray 0)) s1.heap.objs.size vs }) er (by rw [e1]; exact hal) (fun d hd => by
    rw [e1] at hd
    exact isNone_ne (k2 d (pa.mem_iff.mp hd)).1) (fun d hd => by
    rw [e1] at hd
    have := shp_depth (k2 d (pa.mem_iff.mp hd)).2
    show X.A.units + 1 + 1 + d.depth < cLine
    omega)
  have ee := sortVals_data (h' := sortingHeap (s1.heap.push (seqObj "list" vs.toArray 0)) s1.heap.objs.size vs) (enc := fun b : P × V => b.1) false e2 er' (by rw [e1]; exact hal)
  obtain ⟨b1, b2⟩ := each_back ee
  rw [sortP_map, e1, ← sortP_perm pa.symm k1 ne] at b2
  refine wpAny_bind (wpAny_holding (wpAny_call_entry_kw slot_list_sort ⟨_, hoL, rfl⟩ entry_list_sort ?body (args_list_sort _)))
  case body =>
    refine list_sort_vals (s := { s1 with heap := s1.heap.push (seqObj "list" vs.toArray 0) }) hoL srt hln ⟨_, rfl, ?_⟩
    generalize hout : (sortVals (dataKind (sortingHeap (s1.heap.push (seqObj "list" vs.toArray 0)) s1.heap.objs.size vs) (bs.map fun b => b.1)) false vs vs) = out at b1 b2
    obtain ⟨c, hg⟩ := sortedHeap_at (vs := vs) (out := out.toArray) hoL
    have kk : ∀ b u, s.heap.get? b = some u → (sortedHeap (s1.heap.push (seqObj "list" vs.toArray 0)) s1.heap.objs.size vs out.toArray).get? b = some u := fun b u e => by
      have e1 := kp b u e
      have hlt := Heap.lt_size e1
      rw [sortedHeap_old (Nat.ne_of_lt hlt) (by rw [size_push']; exact Nat.lt_succ_of_lt hlt)]
      exact Heap.get?_push_of_some _ e1
    have hn : H s1.heap.objs.size = none := I.hok.fresh hz
    have hol : ((bs.mergeSort (dataLe false fun b => b.1)).map (·.2)).length ≤ sizeLine := by
      rw [List.length_map, (List.mergeSort_perm _ _).length_eq, ← e3.length]; exact hln
    have J : Inv X pins σ (upd H s1.heap.objs.size (.lst ((bs.mergeSort (dataLe false fun b => b.1)).map (·.2)))) { s with heap := sortedHeap (s1.heap.push (seqObj "list" vs.toArray 0)) s1.heap.objs.size vs out.toArray, gens := s1.gens, drawn := s1.drawn, toks := s1.toks } :=
      I.call (ch := []) (Un.laid kk hz hn) (I.hok.laid kk hz ⟨hol, out, c, b1, hg⟩) (by rw [g1]; exact I.bare) (fun _ z => nomatch z)
    have e : ({ s1 with heap := sortedHeap (s1.heap.push (seqObj "list" vs.toArray 0)) s1.heap.objs.size vs out.toArray } : Shared) = { s with heap := sortedHeap (s1.heap.push (seqObj "list" vs.toArray 0)) s1.heap.objs.size vs out.toArray, gens := s1.gens, drawn := s1.drawn, toks := s1.toks } := by
      cases s1
      cases s
      cases o1
      rfl
    refine wpAny_pure ⟨_, rfl, ?_⟩
    rw [e]
    exact ⟨.ref s1.heap.objs.size, _, J, rfl, q _ b2 _ hn⟩
theorem pe_msset {elt tg iter tg1 iter1 : Expr} {scope : Scope} {own : List (Str × Nat)} {f : Str} {fp pos cpos : Pos} {me : ME} {t t1 : MT} {it it1 : MI} {vs vs1 : List Nat} {tp : Bool}
    (hc : X.calm = true) (hu : X.A.units + 70 < cLine) (hN : X.N.Nodup) (hf : f = Str.ofString "sorted") (hg0 : Gl X f) (hm : X.mg f = none) (hi : PI X tg iter (tI (Wx X) EW C it)) (ok : BlkOk X.N X.env.scope scope own) (hv : own.map (·.2) = vs) (hv1 : ∀ i ∈ vs1, i ∈ vs) (ht : ∀ i ∈ t.vars, i ∈ vs) (ht1 : ∀ i ∈ t1.vars, i ∈ vs1)
    (hg : Blk X scope fun Y => PG Y tg (tG (Wx X) t)) (hi1 : Blk X scope fun Y => PI Y tg1 iter1 (tI (Wx X) EW0 C it1)) (hg1 : Blk X scope fun Y => PG Y tg1 (tG (Wx X) t1)) (he : Blk X scope fun Y => PE Y elt (tE (Wx X) EW0 C me))
    (hs : ∀ x, foldedSetIterable iter X.env x = pure x) (hs1 : ∀ env x, foldedSetIterable iter1 env x = pure x) :
    PEm X EW C (.Call (.Name f fp) [SC elt tg iter tg1 iter1 scope pos] [] cpos) (.sset tp me t it t1 it1 vs vs1) := by
  subst hf
  have main : ∀ (Bg : Bag X.prog X.w tp), PEm X EW C (.Call (.Name (Str.ofString "sorted") fp) [SC elt tg iter tg1 iter1 scope pos] [] cpos) (.sset tp me t it t1 it1 vs vs1) := fun Bg => by
    refine ⟨fun pins s σ H Q I ⟨ι, h, σA, r, sl, p⟩ => ?_⟩
    unfold ev at p
    refine Call_ (ld_blt I hg0 hm boot_sorted ?_)
    refine PyProof.Rows.callWith_builtin1 (PyProof.Rows.args_cons ?_ rfl) rfl rfl
    refine thn (sc_core Bg (F := fun ps h2 => if sortOk ps then Res.ok (D.p (.list (sortP ps))) h2 else .bad) hc (by omega) hN I hi ok hv hv1 ht ht1 hg hi1 hg1 he hs hs1 r sl p) fun u s1 ⟨D0, H1, ι1, h1, acc, e, I1, g1, r1, b1, p1⟩ => ?_
    subst e
    refine PyProof.Rows.args_nil ?_
    cases so : sortOk acc with
    | false => rw [so] at p1; exact p1.elim
    | true =>
      rw [so] at p1
      simp only [if_true] at p1
      refine sorted_bag hc hu I1 b1 so fun us pv a ha => ?_
      exact wish.list (show wish (Wx X) EW ι1 h1 H1 (.ok (.p (.list (sortP acc))) h1) Q from p1) r1 pv ha
  cases tp with
  | true => exact main (bagTp X.prog X.w)
  | false => exact main (bagTx X.prog X.w)
end
end Mi
/-! MiK: the checker of terms against a def's text. -/
namespace Mi
open PySem L2 PySem.Spec PyProof.Rows
structure Glo where
  prog : List FDef
  conOk : Str → P → Bool
  gcd : Bool
def bnames : List Str := [Str.ofString "len", Str.ofString "all", Str.ofString "any", Str.ofString "tuple", Str.ofString "list", Str.ofString "sorted", Str.ofString "abs", Str.ofString "int", Str.ofString "repr", Str.ofString "str", Str.ofString "isinstance", Str.ofString "range", Str.ofString "enumerate", Str.ofString "bool", Str.ofString "dict"]
def glB (sc : Scope) (x : Str) : Bool := (sc.names.lookup x == some .globalImplicit) && !(x == ("__debug__" : Str)) && !(x == ("__name__" : Str))
def visB (sc : Scope) (x : Str) : Bool := match sc.names.lookup x with
  | some .local => true
  | some .cell => true
  | some .free => true
  | _ => false
def opB : Operator → Operator → Bool
  | .Add, .Add => true | .Sub, .Sub => true | .Mult, .Mult => true | .FloorDiv, .FloorDiv => true | .Mod, .Mod => true | .Pow, .Pow => true
  | _, _ => false
theorem opB_eq {a b : Operator} (h : opB a b = true) : a = b := by cases a <;> cases b <;> first | rfl | cases h
def cmB : CmpOp → CmpOp → Bool
  | .Eq, .Eq => true | .NotEq, .NotEq => true | .Lt, .Lt => true | .LtE, .LtE => true | .Gt, .Gt => true | .GtE, .GtE => true | .Is, .Is => true | .IsNot, .IsNot => true | .In, .In => true | .NotIn, .NotIn => true
  | _, _ => false
theorem cmB_eq {a b : CmpOp} (h : cmB a b = true) : a = b := by cases a <;> cases b <;> first | rfl | cases h
def notSlice : Expr → Bool
  | .Slice _ _ _ _ => false
  | _ => true
def notSet : Expr → Bool
  | .Set _ _ _ => false
  | _ => true
theorem notSet_ok {e : Expr} {env : Env} (h : notSet e = true) : ∀ x, foldedSetIterable e env x = pure x := by
  cases e <;> first | (intro x; rfl) | cases h
theorem plainIx {b : Expr} (h : notSlice b = true) : PlainIx b := by
  cases b <;> first | (intro o i; rfl) | cases h
/-- a builtin's name -/
def biB : Bi → Str → Bool
  | .len, x => x == Str.ofString "len"
  | .all, x => x == Str.ofString "all"
  | .any, x => x == Str.ofString "any"
  | .sorted, x => x == Str.ofString "sorted"
  | .abs, x => x == Str.ofString "abs"
  | .repr, x => x == Str.ofString "repr"
  | _, _ => false
def biT : Bi → Str → Bool
  | .tuple, x => x == Str.ofString "tuple"
  | .list, x => x == Str.ofString "list"
  | .int, x => x == Str.ofString "int"
  | .str, x => x == Str.ofString "str"
  | _, _ => false
def litB : P → Const → Bool
  | .int i, .int j => i == j
  | .str i, .str j => i == j
  | .bool i, .bool j => i == j
  | .none, .none => true
  | _, _ => false
section
variable (G : Glo) (N : List Str)
mutual
def okG (top : Bool) (sc : Scope) : MT → Expr → Bool
  | .var i, e => match e with
    | .Name x _ => decide (N[i]? = some x) && (sc.names.lookup x == some .local || (top && sc.names.lookup x == some .cell))
    | _ => false
  | .tup ts, e => match e with
    | .Tuple es _ _ => okGs top sc ts es && decide (es.length = ts.length)
    | _ => false
def okGs (top : Bool) (sc : Scope) : List MT → List Expr → Bool
  | [], es => es.isEmpty
  | t :: ts, es => match es with
    | e :: es => okG top sc t e && okGs top sc ts es && noStar e
    | [] => false
end
def tail (op : BoolOp) (y : Expr) (r : List Expr) (p : Pos) : Expr := match r with
  | [] => y
  | _ => .BoolOp op (y :: r) p
mutual
def okE (t : Bool) (sc : Scope) : ME → Expr → Bool
  | .lit d, e => match e with
    | .Constant c _ _ => litB d c
    | _ => false
  | .con x d, e => match e with
    | .Name y _ => x == y && glB sc y && G.conOk x d
    | _ => false
  | .var i, e => match e with
    | .Name x _ => decide (N[i]? = some x) && visB sc x && !(x == ("__debug__" : Str)) && !(x == ("__classdict__" : Str))
    | _ => false
  | .bin o a b, e => match e with
    | .BinOp a' o' b' _ => opB o o' && okE false sc a a' && okE false sc b b'
    | _ => false
  | .neg a, e => match e with
    | .UnaryOp .USub a' _ => okE false sc a a'
    | _ => false
  | .not a, e => match e with
    | .UnaryOp .Not a' _ => okE t sc a a'
    | _ => false
  | .cmp o a b, e => match e with
    | .Compare a' [o'] [b'] _ => cmB o o' && okE false sc a a' && okE false sc b b' && !behindInMarks o' b'
    | _ => false
  | .chain o p a b c, e => match e with
    | .Compare a' [o', p'] [b', c'] _ => cmB o o' && cmB p p' && okE false sc a a' && okE false sc b b' && okE false sc c c' && !lastMarks [o', p'] [b', c']
    | _ => false
  | .and a b, e => match e with
    | .BoolOp .And (x :: y :: r) p => okE t sc a x && okE t sc b (tail .And y r p)
    | _ => false
  | .or a b, e => match e with
    | .BoolOp .Or (x :: y :: r) p => okE t sc a x && okE t sc b (tail .Or y r p)
    | _ => false
  | .ite c a b, e => match e with
    | .IfExp c' a' b' _ => okE true sc c c' && okE t sc a a' && okE t sc b b'
    | _ => false
  | .tup es, e => match e with
    | .Tuple es' _ _ => okEs sc es es' && decide (es.len ≤ 1000)
    | _ => false
  | .lst _ es, e => match e with
    | .List es' _ => okEs sc es es' && decide (es.len ≤ 1000)
    | _ => false
  | .dct _ es, e => match e with
    | .Dict keys vals _ => match keys with
      | [] => vals.isEmpty && decide (es.len = 0)
      | _ => okPs sc es keys vals && keys.all (·.isSome) && decide (keys.length = vals.length) && decide (keys.length ≤ 15) && decide (es.len ≤ 30)
    | _ => false
  | .idx a b, e => match e with
    | .Subscript a' b' _ => okE false sc a a' && okE false sc b b' && notSlice b'
    | _ => false
  | .slc a lo hi, e => match e with
    | .Subscript a' (.Slice lo' hi' none _) _ => okE false sc a a' && okO sc lo lo' && okO sc hi hi'
    | _ => false
  | .isi a ty, e => match e with
    | .Call (.Name f _) [a', .Name y _] [] _ => f == Str.ofString "isinstance" && glB sc f && y == Str.ofString ty.nm && glB sc y && okE false sc a a' && noStar a'
    | _ => false
  | .bi b es, e => match e with
    | .Call (.Name f _) (e' :: es') [] _ => (biB b f || biT b f || (G.gcd && (match b with | .gcd => true | _ => false) && f == Str.ofString "gcd")) && glB sc f && okEs sc es (e' :: es') && (e' :: es').all noStar
    | .Call (.Attribute a' m apos) [] [] pos => (match b with | .upper => true | _ => false) && m == Str.ofString "upper" && okE1 sc es a' && notCall a' && (apos.endLine == pos.line)
    | _ => false
  | .call _ i es, e => match e with
    | .Call (.Name f _) args [] _ => (match G.prog[i]? with | some F => F.name == f && decide (es.len = F.np) | none => false) && glB sc f && okEs sc es args && args.all noStar
    | _ => false
  | .get o k d, e => match e with
    | .Call (.Attribute o' m apos) [k', d'] [] pos => m == Str.ofString "get" && okE false sc o o' && okE false sc k k' && okE false sc d d' && notCall o' && noStar k' && noStar d' && (apos.endLine == pos.line)
    | _ => false
  | .pop o k, e => match e with
    | .Call (.Attribute o' m apos) [k'] [] pos => m == Str.ofString "pop" && okE false sc o o' && okE false sc k k' && notCall o' && noStar k' && (apos.endLine == pos.line)
    | _ => false
  | .app o k, e => match e with
    | .Call (.Attribute o' m apos) [k'] [] pos => m == Str.ofString "append" && okE false sc o o' && okE false sc k k' && notCall o' && noStar k' && (apos.endLine == pos.line)
    | _ => false
  | .lc _ m tg it ifs vs, e => match e with
    | .ListComp elt [⟨tg', iter, ifs', 0⟩] scope _ => okI sc it tg' iter && blkC N sc scope (vs.filterMap fun v => N[v]?.map fun x => (x, v)) && decide ((vs.filterMap fun v => N[v]?.map fun x => (x, v)).map (·.2) = vs) && decide (∀ i ∈ tg.vars, i ∈ vs) && okG N false (relS scope sc) tg tg' && okTs (relS scope sc) ifs ifs' && okE false (relS scope sc) m elt && notSet iter
    | _ => false
  | .sset _ m tg it tg1 it1 vs vs1, e => match e with
    | .Call (.Name f _) [.SetComp elt [⟨tg', iter, [], 0⟩, ⟨tg1', iter1, [], 0⟩] scope _] [] _ => f == Str.ofString "sorted" && glB sc f && okI sc it tg' iter && blkC N sc scope (vs.filterMap fun v => N[v]?.map fun x => (x, v)) && decide ((vs.filterMap fun v => N[v]?.map fun x => (x, v)).map (·.2) = vs) && decide (∀ i ∈ vs1, i ∈ vs) && decide (∀ i ∈ tg.vars, i ∈ vs) && decide (∀ i ∈ tg1.vars, i ∈ vs1) && okG N false (relS scope sc) tg tg' && okI (relS scope sc) it1 tg1' iter1 && okG N false (relS scope sc) tg1 tg1' && okE false (relS scope sc) m elt && notSet iter && notSet iter1
    | _ => false
def okEs (sc : Scope) : MEs → List Expr → Bool
  | .nil, es => es.isEmpty
  | .cons a r, es => match es with
    | e :: es => okE false sc a e && okEs sc r es && noStar e
    | [] => false
def okE1 (sc : Scope) : MEs → Expr → Bool
  | .cons a .nil, e => okE false sc a e
  | _, _ => false
def okPs (sc : Scope) : MEs → List (Option Expr) → List Expr → Bool
  | .nil, ks, vs => ks.isEmpty && vs.isEmpty
  | .cons a (.cons b r), ks, vs => match ks, vs with
    | some k :: ks, v :: vs => okE false sc a k && okE false sc b v && okPs sc r ks vs
    | _, _ => false
  | _, _, _ => false
def okTs (sc : Scope) : MEs → List Expr → Bool
  | .nil, es => es.isEmpty
  | .cons a .nil, es => match es with
    | [e] => okE true sc a e
    | _ => false
  | _, _ => false
def okO (sc : Scope) : MO → Option Expr → Bool
  | .none, e => e.isNone
  | .some a, e => match e with
    | some e => okE false sc a e
    | none => false
def okI (sc : Scope) : MI → Expr → Expr → Bool
  | .exp a, _, e => okE false sc a e
  | .rng es, _, e => match e with
    | .Call (.Name f _) args [] _ => f == Str.ofString "range" && glB sc f && okEs sc es args && (decide (args.length = 1) || decide (args.length = 2))
    | _ => false
  | .enum a, tg, e => match tg, e with
    | .Tuple _ _ _, .Call (.Name f _) [x] [] _ => f == Str.ofString "enumerate" && glB sc f && okE false sc a x && noStar x
    | _, _ => false
  | .zip _ _, _, _ => false
end
end
end Mi
/-! MiH: the checker is right. -/
namespace Mi
open PySem L2 PySem.Spec PyProof.Rows
def CX0 : CXT := fun _ _ _ _ _ _ => False
def CallOk (C : Calls) (X : Cx) (i : Nat) (F : FDef) : Prop := ∃ (k : Nat) (f : Addr) (fd : FuncData) (ps : List Str), FnG X.prog X.w X.K X.mg X.base CX0 k f fd ps (spF (Wx X) EW0 C i ps.length) ∧ Room k X.A ∧ X.mg F.name = some (.ref f) ∧ PySem.W.keepIn X.K (.ref f) = true ∧ Binds X.K fd ps [] ∧ ps.length = F.np
structure Cxt (G : Glo) (N : List Str) (C : Calls) (X : Cx) (sc : Scope) (top : Bool) : Prop where
  scope : X.env.scope = sc
  kind : sc.kind = .function
  names : X.N = N
  calm : X.calm = true
  nd : X.N.Nodup
  hu : X.A.units + 200 < cLine
  gd : X.A.guards = some []
  fn : top = true → ∀ x, X.fn x = true
  mgB : ∀ x ∈ bnames, X.mg x = none
  mgG : G.gcd = true → X.mg (Str.ofString "gcd") = some (.builtin "math.gcd")
  con : ∀ x d, G.conOk x d = true → ∃ v u, X.mg x = some u ∧ RelV v u ∧ KV' X.K d v
  calls : ∀ i F, G.prog[i]? = some F → CallOk C X i F
theorem Cxt.blk {G : Glo} {N : List Str} {C : Calls} {X : Cx} {sc : Scope} {top : Bool} (c : Cxt G N C X sc top) {scope : Scope} (hk : scope.kind = .function) (s : Shared) (H : Hp) (Cc : Addr) (cl : List (Str × Addr)) (fp : List Addr) :
    Cxt G N C (X.blk s H scope (compEnvC scope cl Cc X.env) fp) (relS scope sc) false where
  scope := by rw [← c.scope]; rfl
  kind := hk
  names := c.names
  calm := c.calm
  nd := c.nd
  hu := c.hu
  gd := c.gd
  fn := fun z => nomatch z
  mgB := c.mgB
  mgG := c.mgG
  con := c.con
  calls := c.calls
def Snd (t : Bool) (X : Cx) (C : Calls) (e : Expr) (m : ME) : Prop := match t with
  | false => PEm X EW0 C e m
  | true => PTm X EW0 C e m ∧ ∀ op vs p, e = .BoolOp op vs p → PW X e (tT (Wx X) EW0 C m)
def plainE : Expr → Bool
  | .UnaryOp .Not _ _ => false
  | .BoolOp _ _ _ => false
  | .IfExp _ _ _ _ => false
  | .Compare _ _ _ _ => false
  | _ => true
theorem Snd.plain {t : Bool} {X : Cx} {C : Calls} {e : Expr} {m : ME} (h : PEm X EW0 C e m) (hp : plainE e = true) : Snd t X C e m := by
  cases t with
  | false => exact h
  | true =>
    refine ⟨pt_plain h ?_, fun op vs p z => by subst z; cases hp⟩
    intro whole
    cases e <;> first | rfl | (rename_i op _ _; cases op <;> first | rfl | cases hp) | cases hp
section
variable {G : Glo} {N : List Str} {C : Calls}
theorem gl_ok {X : Cx} {sc : Scope} {top : Bool} {x : Str} (c : Cxt G N C X sc top) (h : glB sc x = true) : Gl X x ∧ (x == ("__debug__" : Str)) = false ∧ x ≠ "__name__" := by
  unfold glB at h
  simp only [Bool.and_eq_true, Bool.not_eq_true', beq_iff_eq, beq_eq_false_iff_ne] at h
  refine ⟨?_, ?_, h.2⟩
  · show X.env.scope.names.lookup x = _
    rw [c.scope]; exact h.1.1
  · simpa using h.1.2
theorem vis_ok {X : Cx} {sc : Scope} {top : Bool} {x : Str} (c : Cxt G N C X sc top) (h : visB sc x = true) : Vis X.env.scope x := by
  unfold visB at h
  rw [c.scope]
  split at h
  · rename_i e; exact .inl e
  · rename_i e; exact .inr (.inl e)
  · rename_i e; exact .inr (.inr e)
  · cases h
theorem lit_ok {X : Cx} {d : P} {c : Const} {j : Nat} {pos : Pos} (h : litB d c = true) : PEm X EW0 C (.Constant c j pos) (.lit d) := by
  unfold litB at h
  split at h
  · rw [beq_iff_eq] at h; subst h; exact pe_litI
  · rw [beq_iff_eq] at h; subst h; exact pe_litS
  · rw [beq_iff_eq] at h; subst h; exact pe_litB
  · exact pe_litN
  · cases h
mutual
theorem okG_sound {top : Bool} {sc : Scope} : ∀ (t : MT) (e : Expr) (X : Cx), Cxt G N C X sc top → okG N top sc t e = true → PG X e (tG (Wx X) t)
  | .var i, e, X, c, h => by
    unfold okG at h
    split at h
    · rename_i x _
      simp only [Bool.and_eq_true, decide_eq_true_eq, Bool.or_eq_true, beq_iff_eq] at h
      have hi : X.N[i]? = some x := by rw [c.names]; exact h.1
      rcases h.2 with h2 | ⟨h2, h3⟩
      · have h2 : X.env.scope.names.lookup x = some .local := by rw [c.scope]; exact h2
        exact pgm_var c.nd hi (.inl h2) (.inr h2)
      · have h3 : X.env.scope.names.lookup x = some .cell := by rw [c.scope]; exact h3
        exact pgm_var c.nd hi (.inr h3) (.inl (c.fn h2 x))
    · cases h
  | .tup ts, e, X, c, h => by
    unfold okG at h
    split at h
    · rename_i es _ _
      simp only [Bool.and_eq_true, decide_eq_true_eq] at h
      obtain ⟨a1, a2⟩ := okGs_sound ts es X c h.1
      exact pgm_tup c.calm a1 a2 h.2
    · cases h
theorem okGs_sound {top : Bool} {sc : Scope} : ∀ (ts : List MT) (es : List Expr) (X : Cx), Cxt G N C X sc top → okGs N top sc ts es = true → PGs X es (tGs (Wx X) ts) ∧ es.all noStar = true
  | [], es, X, c, h => by
    unfold okGs at h
    have : es = [] := by simpa using h
    subst this
    exact ⟨pgm_nil, rfl⟩
  | t :: ts, es, X, c, h => by
    unfold okGs at h
    split at h
    · rename_i e es
      simp only [Bool.and_eq_true] at h
      obtain ⟨a1, a2⟩ := okGs_sound ts es X c h.1.2
      exact ⟨pgm_cons (okG_sound t e X c h.1.1) a1 h.2, by simp [h.2, a2]⟩
    · cases h
end
theorem all_of_any {α : Type} {p : α → Bool} {a : α} {l : List α} (h : p a = true) (h2 : l.all p = true) : (a :: l).all p = true := by simp [h, h2]
theorem bi_ok {X : Cx} {sc : Scope} {top : Bool} {b : Bi} {f : Str} {p pos : Pos} {e' : Expr} {es' : List Expr} {es : MEs} (c : Cxt G N C X sc top) (h : (biB b f || biT b f || (G.gcd && (match b with | .gcd => true | _ => false) && f == Str.ofString "gcd")) = true) (hg : glB sc f = true) (ha : PAm X EW0 C (e' :: es') es) (hs : (e' :: es').all noStar = true) :
    PEm X EW0 C (.Call (.Name f p) (e' :: es') [] pos) (.bi b es) := by
  obtain ⟨g1, g2, g3⟩ := gl_ok c hg
  have hu := c.hu
  have hb : ∀ x : Str, x ∈ bnames → X.mg x = none := c.mgB
  simp only [Bool.or_eq_true] at h
  rcases h with (h | h) | h
  · cases b <;> simp only [biB, beq_iff_eq, Bool.false_eq_true] at h <;> subst h
    · exact pe_mbiB cr_len g1 (hb _ (by decide +kernel)) (by decide +kernel) ha hs g3 g2
    · exact pe_mbiB (cr_allM c.calm) g1 (hb _ (by decide +kernel)) (by decide +kernel) ha hs g3 g2
    · exact pe_mbiB (cr_anyM c.calm) g1 (hb _ (by decide +kernel)) (by decide +kernel) ha hs g3 g2
    · exact pe_mbiB (cr_sorted (by omega)) g1 (hb _ (by decide +kernel)) (by decide +kernel) ha hs g3 g2
    · exact pe_mbiB cr_abs g1 (hb _ (by decide +kernel)) (by decide +kernel) ha hs g3 g2
    · exact pe_mbiB (cr_repr (by omega) c.gd) g1 (hb _ (by decide +kernel)) (by decide +kernel) ha hs g3 g2
  · cases b <;> simp only [biT, beq_iff_eq, Bool.false_eq_true] at h <;> subst h
    · exact pe_mbiT cr_tuple g1 (hb _ (by decide +kernel)) (by decide +kernel) ha hs g3 g2
    · exact pe_mbiT (cr_list c.calm) g1 (hb _ (by decide +kernel)) (by decide +kernel) ha hs g3 g2
    · exact pe_mbiT cr_int g1 (hb _ (by decide +kernel)) (by decide +kernel) ha hs g3 g2
    · exact pe_mbiT cr_str g1 (hb _ (by decide +kernel)) (by decide +kernel) ha hs g3 g2
  · simp only [Bool.and_eq_true, beq_iff_eq] at h
    obtain ⟨⟨h1, h2⟩, rfl⟩ := h
    cases b <;> simp only [Bool.false_eq_true] at h2
    exact pe_mbiF cr_gcdM g1 (c.mgG h1) ha hs g2
end
end Mi
set_option maxHeartbeats 1000000
/-! MiJ: the checker is right: expressions. -/
namespace Mi
open PySem L2 PySem.Spec PyProof.Rows
section
variable {G : Glo} {N : List Str} {C : Calls}
theorem Snd.pe {X : Cx} {e : Expr} {m : ME} (h : Snd false X C e m) : PEm X EW0 C e m := h
theorem tail_pe {X : Cx} {op : BoolOp} {y : Expr} {r : List Expr} {p : Pos} {m : ME} (h : PEm X EW0 C (tail op y r p) m) : PEm X EW0 C (.BoolOp op (y :: r) p) m := by
  cases r with
  | nil =>
    have h : PEm X EW0 C y m := h
    exact ⟨fun pins s σ H Q I q => h.run pins s σ H Q I q⟩
  | cons a r => exact h
theorem tail_and {X : Cx} {y : Expr} {r : List Expr} {p : Pos} {m : ME} (h : Snd true X C (tail .And y r p) m) : PW X (.BoolOp .And (y :: r) p) (tT (Wx X) EW0 C m) := by
  cases r with
  | nil => exact pw_and1 h.1
  | cons a r => exact h.2 _ _ _ rfl
theorem tail_or {X : Cx} {y : Expr} {r : List Expr} {p : Pos} {m : ME} (h : Snd true X C (tail .Or y r p) m) : PW X (.BoolOp .Or (y :: r) p) (tT (Wx X) EW0 C m) := by
  cases r with
  | nil => exact pw_or1 h.1
  | cons a r => exact h.2 _ _ _ rfl
theorem snd_and {X : Cx} {t : Bool} {x y : Expr} {r : List Expr} {p : Pos} {a b : ME} (h1 : Snd t X C x a) (h2 : Snd t X C (tail .And y r p) b) : Snd t X C (.BoolOp .And (x :: y :: r) p) (.and a b) := by
  cases t with
  | false => exact pe_mand h1 (tail_pe h2)
  | true => exact ⟨(pw_mand h1.1 (tail_and h2)).pt, fun op vs p e => by cases e; exact pw_mand h1.1 (tail_and h2)⟩
theorem snd_or {X : Cx} {t : Bool} {x y : Expr} {r : List Expr} {p : Pos} {a b : ME} (h1 : Snd t X C x a) (h2 : Snd t X C (tail .Or y r p) b) : Snd t X C (.BoolOp .Or (x :: y :: r) p) (.or a b) := by
  cases t with
  | false => exact pe_mor h1 (tail_pe h2)
  | true => exact ⟨(pw_mor h1.1 (tail_or h2)).pt, fun op vs p e => by cases e; exact pw_mor h1.1 (tail_or h2)⟩
theorem snd_not {X : Cx} {t : Bool} {x : Expr} {p : Pos} {a : ME} (h1 : Snd t X C x a) : Snd t X C (.UnaryOp .Not x p) (.not a) := by
  cases t with
  | false => exact pe_mnot h1
  | true => exact ⟨pt_mnot h1.1, fun op vs p e => nomatch e⟩
theorem snd_ite {X : Cx} {t : Bool} {x y z : Expr} {p : Pos} {a b c : ME} (h1 : Snd true X C x c) (h2 : Snd t X C y a) (h3 : Snd t X C z b) : Snd t X C (.IfExp x y z p) (.ite c a b) := by
  cases t with
  | false => exact pe_mite h1.1 h2 h3
  | true => exact ⟨pt_mite h1.1 h2.1 h3.1, fun op vs p e => nomatch e⟩
theorem call_sound {X : Cx} {sc : Scope} {top : Bool} {f nm : Str} {p pos : Pos} {args : List Expr} {es : MEs} {i : Nat} (c : Cxt G N C X sc top) (h : (match G.prog[i]? with | some F => F.name == f && decide (es.len = F.np) | none => false) = true) (hg : glB sc f = true) (ha : PAm X EW0 C args es) (hl : es.len = args.length) (hs : args.all noStar = true) :
    PEm X EW0 C (.Call (.Name f p) args [] pos) (.call nm i es) := by
  obtain ⟨g1, g2, g3⟩ := gl_ok c hg
  split at h
  · rename_i F e
    simp only [Bool.and_eq_true, beq_iff_eq, decide_eq_true_eq] at h
    obtain ⟨rfl, h2⟩ := h
    obtain ⟨k, f, fd, ps, c1, c2, c3, c4, c5, c6⟩ := c.calls i F e
    have hx : Passes CX0 X (fun _ _ _ => True) := fun _ _ _ _ _ _ _ z => z.elim
    cases args with
    | nil =>
      cases es with
      | nil =>
        have hp : ps = [] := List.eq_nil_of_length_eq_zero (by rw [c6, ← h2]; rfl)
        subst hp
        exact pe_mcall0 c1 c2 c.gd g1 c3 c4 c5 hx g2
      | cons a r => simp [MEs.len] at hl
    | cons a r => exact pe_mcall c1 c2 c.gd g1 c3 c4 c5 hx ha (by rw [h2, c6]) hs g2
  · cases h
theorem okEs_nil {sc : Scope} {es : List Expr} (h : okEs G N sc .nil es = true) : es = [] := by
  unfold okEs at h
  simpa using h
theorem okEs_inv {sc : Scope} {a : ME} {r : MEs} {es : List Expr} (h : okEs G N sc (.cons a r) es = true) : ∃ x xs, es = x :: xs ∧ noStar x = true ∧ okEs G N sc r xs = true := by
  unfold okEs at h
  split at h
  · simp only [Bool.and_eq_true] at h
    exact ⟨_, _, rfl, h.2, h.1.2⟩
  · cases h
mutual
theorem okE_sound : ∀ (m : ME) (t : Bool) (sc : Scope) (e : Expr) (X : Cx) (top : Bool), Cxt G N C X sc top → okE G N t sc m e = true → Snd t X C e m
  | .lit d, t, sc, e, X, top, c, h => by
    unfold okE at h
    split at h
    · exact Snd.plain (lit_ok h) rfl
    · cases h
  | .con x d, t, sc, e, X, top, c, h => by
    unfold okE at h
    split at h
    · simp only [Bool.and_eq_true, beq_iff_eq] at h
      obtain ⟨⟨rfl, h2⟩, h3⟩ := h
      obtain ⟨g1, g2, g3⟩ := gl_ok c h2
      obtain ⟨v, u, e1, e2, e3⟩ := c.con _ d h3
      exact Snd.plain (pe_mcon g1 e1 e2 e3 g2) rfl
    · cases h
  | .var i, t, sc, e, X, top, c, h => by
    unfold okE at h
    split at h
    · simp only [Bool.and_eq_true, decide_eq_true_eq, Bool.not_eq_true'] at h
      obtain ⟨⟨⟨h1, h2⟩, h3⟩, h4⟩ := h
      exact Snd.plain (pe_mvar (by rw [c.names]; exact h1) (vis_ok c h2) h3 h4) rfl
    · cases h
  | .bin o a b, t, sc, e, X, top, c, h => by
    unfold okE at h
    split at h
    · simp only [Bool.and_eq_true] at h
      obtain ⟨⟨h1, h2⟩, h3⟩ := h
      cases opB_eq h1
      exact Snd.plain (pe_mbin (okE_sound a false sc _ X top c h2) (okE_sound b false sc _ X top c h3)) rfl
    · cases h
  | .neg a, t, sc, e, X, top, c, h => by
    unfold okE at h
    split at h
    · exact Snd.plain (pe_mneg (okE_sound a false sc _ X top c h)) rfl
    · cases h
  | .not a, t, sc, e, X, top, c, h => by
    unfold okE at h
    split at h
    · exact snd_not (okE_sound a t sc _ X top c h)
    · cases h
  | .cmp o a b, t, sc, e, X, top, c, h => by
    unfold okE at h
    split at h
    · simp only [Bool.and_eq_true, Bool.not_eq_true'] at h
      obtain ⟨⟨⟨h1, h2⟩, h3⟩, h4⟩ := h
      cases cmB_eq h1
      have hu := c.hu
      have ha := okE_sound a false sc _ X top c h2
      have hb := okE_sound b false sc _ X top c h3
      cases t with
      | false => exact pe_mcmp (op_cmpM (by omega) o) ha hb h4
      | true => exact ⟨pt_mcmp (op_cmpM (by omega) o) ha hb h4, fun op vs p e => nomatch e⟩
    · cases h
  | .chain o p a b d, t, sc, e, X, top, c, h => by
    unfold okE at h
    split at h
    · simp only [Bool.and_eq_true, Bool.not_eq_true'] at h
      obtain ⟨⟨⟨⟨⟨h1, h2⟩, h3⟩, h4⟩, h5⟩, h6⟩ := h
      cases cmB_eq h1
      cases cmB_eq h2
      have hu := c.hu
      have ha := okE_sound a false sc _ X top c h3
      have hb := okE_sound b false sc _ X top c h4
      have hd := okE_sound d false sc _ X top c h5
      cases t with
      | false => exact pe_mchain (by omega) ha hb hd h6
      | true => exact ⟨pt_mchain (by omega) ha hb hd h6, fun op vs p e => nomatch e⟩
    · cases h
  | .and a b, t, sc, e, X, top, c, h => by
    unfold okE at h
    split at h
    · simp only [Bool.and_eq_true] at h
      exact snd_and (okE_sound a t sc _ X top c h.1) (okE_sound b t sc _ X top c h.2)
    · cases h
  | .or a b, t, sc, e, X, top, c, h => by
    unfold okE at h
    split at h
    · simp only [Bool.and_eq_true] at h
      exact snd_or (okE_sound a t sc _ X top c h.1) (okE_sound b t sc _ X top c h.2)
    · cases h
  | .ite d a b, t, sc, e, X, top, c, h => by
    unfold okE at h
    split at h
    · simp only [Bool.and_eq_true] at h
      exact snd_ite (okE_sound d true sc _ X top c h.1.1) (okE_sound a t sc _ X top c h.1.2) (okE_sound b t sc _ X top c h.2)
    · cases h
  | .tup es, t, sc, e, X, top, c, h => by
    unfold okE at h
    split at h
    · simp only [Bool.and_eq_true, decide_eq_true_eq] at h
      exact Snd.plain (pe_mtup (okEs_sound es sc _ X top c h.1).1 h.2) rfl
    · cases h
  | .lst m es, t, sc, e, X, top, c, h => by
    unfold okE at h
    split at h
    · simp only [Bool.and_eq_true, decide_eq_true_eq] at h
      exact Snd.plain (pe_mlst (okEs_sound es sc _ X top c h.1).1 h.2) rfl
    · cases h
  | .dct m es, t, sc, e, X, top, c, h => by
    unfold okE at h
    split at h
    · have hu := c.hu
      split at h
      · simp only [Bool.and_eq_true, decide_eq_true_eq, List.isEmpty_iff] at h
        obtain ⟨rfl, h2⟩ := h
        cases es with
        | nil => exact Snd.plain pe_mdct0 rfl
        | cons a r => simp [MEs.len] at h2
      · rename_i hne
        simp only [Bool.and_eq_true, decide_eq_true_eq] at h
        obtain ⟨⟨⟨⟨h1, h2⟩, h3⟩, h4⟩, h5⟩ := h
        exact Snd.plain (pe_mdct (by omega) (okPs_sound es sc _ _ X top c h1) h2 h3 (fun z => hne z) h4 h5) rfl
    · cases h
  | .idx a b, t, sc, e, X, top, c, h => by
    unfold okE at h
    split at h
    · simp only [Bool.and_eq_true] at h
      have hu := c.hu
      exact Snd.plain (pe_midx (by omega) (okE_sound a false sc _ X top c h.1.1) (okE_sound b false sc _ X top c h.1.2) (plainIx h.2)) rfl
    · cases h
  | .slc a lo hi, t, sc, e, X, top, c, h => by
    unfold okE at h
    split at h
    · simp only [Bool.and_eq_true] at h
      exact Snd.plain (pe_mslc (okE_sound a false sc _ X top c h.1.1) (okO_sound lo sc _ X top c h.1.2) (okO_sound hi sc _ X top c h.2)) rfl
    · cases h
  | .isi a ty, t, sc, e, X, top, c, h => by
    unfold okE at h
    split at h
    · simp only [Bool.and_eq_true, beq_iff_eq] at h
      obtain ⟨⟨⟨⟨⟨rfl, h2⟩, rfl⟩, h4⟩, h5⟩, h6⟩ := h
      obtain ⟨g1, g2, g3⟩ := gl_ok c h2
      obtain ⟨k1, k2, k3⟩ := gl_ok c h4
      have hb : X.mg (Str.ofString ty.nm) = none ∧ bootBuiltins (Str.ofString ty.nm) = some (.type ty.nm) := by
        cases ty <;> exact ⟨c.mgB _ (by decide +kernel), by decide +kernel⟩
      exact Snd.plain (pe_misi g1 (c.mgB _ (by decide +kernel)) rfl k1 hb.1 hb.2 (okE_sound a false sc _ X top c h5) h6 k3 k2) rfl
    · cases h
  | .bi b es, t, sc, e, X, top, c, h => by
    unfold okE at h
    split at h
    · simp only [Bool.and_eq_true] at h
      obtain ⟨⟨⟨h1, h2⟩, h3⟩, h4⟩ := h
      exact Snd.plain (bi_ok c h1 h2 (okEs_sound es sc _ X top c h3).1 h4) rfl
    · simp only [Bool.and_eq_true, beq_iff_eq] at h
      obtain ⟨⟨⟨⟨h1, rfl⟩, h3⟩, h4⟩, h5⟩ := h
      cases b <;> simp only [Bool.false_eq_true] at h1
      obtain ⟨a, rfl, ha⟩ := okE1_sound es sc _ X top c h3
      exact Snd.plain (pe_mupper ha (base_of h4) (by simpa using h5)) rfl
    · cases h
  | .call nm i es, t, sc, e, X, top, c, h => by
    unfold okE at h
    split at h
    · simp only [Bool.and_eq_true] at h
      obtain ⟨⟨⟨h1, h2⟩, h3⟩, h4⟩ := h
      obtain ⟨a1, a2⟩ := okEs_sound es sc _ X top c h3
      exact Snd.plain (call_sound c h1 h2 a1 a2 h4) rfl
    · cases h
  | .get o k d, t, sc, e, X, top, c, h => by
    unfold okE at h
    split at h
    · simp only [Bool.and_eq_true, beq_iff_eq] at h
      obtain ⟨⟨⟨⟨⟨⟨⟨rfl, h2⟩, h3⟩, h4⟩, h5⟩, h6⟩, h7⟩, h8⟩ := h
      have hu := c.hu
      exact Snd.plain (pe_mget (by omega) (okE_sound o false sc _ X top c h2) (okE_sound k false sc _ X top c h3) (okE_sound d false sc _ X top c h4) h5 h6 h7 (by simpa using h8)) rfl
    · cases h
  | .pop o k, t, sc, e, X, top, c, h => by
    unfold okE at h
    split at h
    · simp only [Bool.and_eq_true, beq_iff_eq] at h
      obtain ⟨⟨⟨⟨⟨rfl, h2⟩, h3⟩, h5⟩, h6⟩, h8⟩ := h
      have hu := c.hu
      exact Snd.plain (pe_mpop (by omega) (okE_sound o false sc _ X top c h2) (okE_sound k false sc _ X top c h3) h5 h6 (by simpa using h8)) rfl
    · cases h
  | .app o k, t, sc, e, X, top, c, h => by
    unfold okE at h
    split at h
    · simp only [Bool.and_eq_true, beq_iff_eq] at h
      obtain ⟨⟨⟨⟨⟨rfl, h2⟩, h3⟩, h5⟩, h6⟩, h8⟩ := h
      exact Snd.plain (pe_mapp (okE_sound o false sc _ X top c h2) (okE_sound k false sc _ X top c h3) h5 h6 (by simpa using h8)) rfl
    · cases h
  | .lc m a tg it ifs vs, t, sc, e, X, top, c, h => by
    unfold okE at h
    split at h
    · rename_i elt tg' iter ifs' scope pos
      simp only [Bool.and_eq_true, decide_eq_true_eq] at h
      obtain ⟨⟨⟨⟨⟨⟨⟨h1, h2⟩, h3⟩, h4⟩, h5⟩, h6⟩, h7⟩, h8⟩ := h
      have bk := blkOk_by h2
      have cb := fun s H Cc cl fp => c.blk bk.kind s H Cc cl fp
      exact Snd.plain (pe_mlc c.calm c.nd (okI_sound it sc _ _ X top c h1) (by rw [c.names, c.scope]; exact bk) h3 h4
        (fun s H Cc cl fp => okG_sound tg tg' _ (cb s H Cc cl fp) h5) (fun s H Cc cl fp => okTs_sound ifs _ ifs' _ false (cb s H Cc cl fp) h6) (fun s H Cc cl fp => okE_sound a false _ elt _ false (cb s H Cc cl fp) h7) (notSet_ok h8)) rfl
    · cases h
  | .sset tp a tg it tg1 it1 vs vs1, t, sc, e, X, top, c, h => by
    unfold okE at h
    split at h
    · rename_i f fp elt tg' iter tg1' iter1 scope pos cpos
      simp only [Bool.and_eq_true, decide_eq_true_eq, beq_iff_eq] at h
      obtain ⟨⟨⟨⟨⟨⟨⟨⟨⟨⟨⟨⟨⟨h0, h1⟩, h2⟩, h3⟩, h4⟩, h5⟩, h6⟩, h7⟩, h8⟩, h9⟩, h10⟩, h11⟩, h12⟩, h13⟩ := h
      have hu := c.hu
      have bk := blkOk_by h3
      have cb := fun s H Cc cl fp => c.blk bk.kind s H Cc cl fp
      obtain ⟨g1, _, _⟩ := gl_ok c h1
      exact Snd.plain (pe_msset (f := f) c.calm (by omega) c.nd h0 g1 (by rw [h0]; exact c.mgB _ (by decide +kernel)) (okI_sound it sc _ _ X top c h2) (by rw [c.names, c.scope]; exact bk) h4 h5 h6 h7
        (fun s H Cc cl fp => okG_sound tg tg' _ (cb s H Cc cl fp) h8) (fun s H Cc cl fp => okI_sound it1 _ tg1' iter1 _ false (cb s H Cc cl fp) h9) (fun s H Cc cl fp => okG_sound tg1 tg1' _ (cb s H Cc cl fp) h10) (fun s H Cc cl fp => okE_sound a false _ elt _ false (cb s H Cc cl fp) h11) (notSet_ok h12) (fun env => notSet_ok h13)) rfl
    · cases h
theorem okEs_sound : ∀ (ms : MEs) (sc : Scope) (es : List Expr) (X : Cx) (top : Bool), Cxt G N C X sc top → okEs G N sc ms es = true → PAm X EW0 C es ms ∧ ms.len = es.length
  | .nil, sc, es, X, top, c, h => by
    unfold okEs at h
    have : es = [] := by simpa using h
    subst this
    exact ⟨pa_mnil, rfl⟩
  | .cons a r, sc, es, X, top, c, h => by
    unfold okEs at h
    split at h
    · simp only [Bool.and_eq_true] at h
      obtain ⟨a1, a2⟩ := okEs_sound r sc _ X top c h.1.2
      exact ⟨pa_mcons h.2 (okE_sound a false sc _ X top c h.1.1) a1, by simp [MEs.len, a2]⟩
    · cases h
theorem okE1_sound : ∀ (ms : MEs) (sc : Scope) (e : Expr) (X : Cx) (top : Bool), Cxt G N C X sc top → okE1 G N sc ms e = true → ∃ a, ms = .cons a .nil ∧ PEm X EW0 C e a
  | .nil, sc, es, X, top, c, h => by
    unfold okE1 at h
    cases h
  | .cons a .nil, sc, e, X, top, c, h => by
    unfold okE1 at h
    exact ⟨a, rfl, okE_sound a false sc _ X top c h⟩
  | .cons a (.cons b r), sc, e, X, top, c, h => by
    unfold okE1 at h
    cases h
theorem okPs_sound {pos : Pos} : ∀ (ms : MEs) (sc : Scope) (ks : List (Option Expr)) (vs : List Expr) (X : Cx) (top : Bool), Cxt G N C X sc top → okPs G N sc ms ks vs = true → PPm X EW0 C pos ks vs ms
  | .nil, sc, ks, vs, X, top, c, h => by
    unfold okPs at h
    simp only [Bool.and_eq_true, List.isEmpty_iff] at h
    obtain ⟨rfl, rfl⟩ := h
    exact pp_nil
  | .cons a .nil, sc, ks, vs, X, top, c, h => by
    unfold okPs at h
    cases h
  | .cons a (.cons b r), sc, ks, vs, X, top, c, h => by
    unfold okPs at h
    split at h
    · simp only [Bool.and_eq_true] at h
      exact pp_cons (okE_sound a false sc _ X top c h.1.1) (okE_sound b false sc _ X top c h.1.2) (okPs_sound r sc _ _ X top c h.2)
    · cases h
theorem okTs_sound : ∀ (ms : MEs) (sc : Scope) (es : List Expr) (X : Cx) (top : Bool), Cxt G N C X sc top → okTs G N sc ms es = true → PTs X es (tTs (Wx X) EW0 C ms)
  | .nil, sc, es, X, top, c, h => by
    unfold okTs at h
    have : es = [] := by simpa using h
    subst this
    exact pts_mnil
  | .cons a .nil, sc, es, X, top, c, h => by
    unfold okTs at h
    split at h
    · exact pts_mone (okE_sound a true sc _ X top c h).1
    · cases h
  | .cons a (.cons b r), sc, es, X, top, c, h => by
    unfold okTs at h
    cases h
theorem okO_sound : ∀ (m : MO) (sc : Scope) (e : Option Expr) (X : Cx) (top : Bool), Cxt G N C X sc top → okO G N sc m e = true → PO X e (tO (Wx X) EW0 C m)
  | .none, sc, e, X, top, c, h => by
    unfold okO at h
    have : e = none := by simpa using h
    subst this
    exact po_mnone
  | .some a, sc, e, X, top, c, h => by
    unfold okO at h
    split at h
    · exact po_msome (okE_sound a false sc _ X top c h)
    · cases h
theorem okI_sound : ∀ (m : MI) (sc : Scope) (tg e : Expr) (X : Cx) (top : Bool), Cxt G N C X sc top → okI G N sc m tg e = true → PI X tg e (tI (Wx X) EW0 C m)
  | .exp a, sc, tg, e, X, top, c, h => by
    unfold okI at h
    exact pi_mexp (okE_sound a false sc _ X top c h)
  | .rng es, sc, tg, e, X, top, c, h => by
    unfold okI at h
    split at h
    · rename_i args _
      simp only [Bool.and_eq_true, beq_iff_eq, Bool.or_eq_true, decide_eq_true_eq] at h
      obtain ⟨⟨⟨rfl, h2⟩, h3⟩, h4⟩ := h
      obtain ⟨g1, g2, g3⟩ := gl_ok c h2
      have hm : X.mg "range" = none := c.mgB _ (by decide +kernel)
      have ha := (okEs_sound es sc _ X top c h3).1
      cases es with
      | nil =>
        have : args = [] := okEs_nil h3
        subst this
        simp at h4
      | cons a r =>
        obtain ⟨x, xs, rfl, n1, h5⟩ := okEs_inv h3
        cases r with
        | nil =>
          have : xs = [] := okEs_nil h5
          subst this
          exact pi_mrng1 g1 hm ha n1
        | cons b r =>
          obtain ⟨y, ys, rfl, n2, h6⟩ := okEs_inv h5
          cases r with
          | nil =>
            have : ys = [] := okEs_nil h6
            subst this
            exact pi_mrng2 g1 hm ha n1 n2
          | cons d r =>
            obtain ⟨z, zs, rfl, _, _⟩ := okEs_inv h6
            simp at h4
    · cases h
  | .enum a, sc, tg, e, X, top, c, h => by
    unfold okI at h
    split at h
    · simp only [Bool.and_eq_true, beq_iff_eq] at h
      obtain ⟨⟨⟨rfl, h2⟩, h3⟩, h4⟩ := h
      obtain ⟨g1, g2, g3⟩ := gl_ok c h2
      exact pi_menum g1 (c.mgB _ (by decide +kernel)) (okE_sound a false sc _ X top c h3) h4
    · cases h
  | .zip _ _, sc, tg, e, X, top, c, h => by
    unfold okI at h
    cases h
end
end
end Mi
set_option maxHeartbeats 1000000
/-! MiE: the checker of statements. -/
namespace Mi
open PySem L2 PySem.Spec PyProof.Rows
def isLoc (sc : Scope) (x : Str) : Bool := sc.names.lookup x == some .local
def locB (sc : Scope) (x : Str) : Bool := isLoc sc x || sc.names.lookup x == some .cell
/-- what is stored by its name is stored plainly, or by the comprehension itself -/
def swB (sc : Scope) (x : Str) (py : Pos) (v : Expr) : Bool := match v with
  | .ListComp _ _ scope pos => if isLoc sc x then (py.line == pos.line) && !(scope.names.any fun (n, k) => n == x && (k == .local || k == .cell)) else true
  | .SetComp _ _ _ _ => false
  | .DictComp _ _ _ _ _ => false
  | _ => true
def notTup : Expr → Bool
  | .Tuple _ _ _ => false
  | _ => true
section
variable (G : Glo) (N : List Str) (sc : Scope)
def okAsg (t : MT) (e : ME) (tg v : Expr) : Bool := match t, tg with
  | .var i, .Name x py => decide (N[i]? = some x) && locB sc x && okE G N false sc e v && swB sc x py v
  | .tup ts, .Tuple es k tp => (okG N true sc (.tup ts) (.Tuple es k tp) && okE G N false sc e v && !isComp v && notTup v) ||
    (match ts, e, es, v with
      | [.var i, .var j, .var l], .tup ms, [.Name x px, .Name y py, .Name z pz], .Tuple [a, b, c] _ _ => decide (N[i]? = some x) && decide (N[j]? = some y) && decide (N[l]? = some z) && isLoc sc x && isLoc sc y && isLoc sc z && okEs G N sc ms [a, b, c] && (py.line == px.line) && (pz.line == px.line) &&
        !(x == y) && !(x == z) && !(y == z) && !([a, b, c].all (foldedForSure 8)) && !([a, b, c].all (constantsAlone 8)) && decide (i ≠ j) && decide (i ≠ l) && decide (j ≠ l)
      | _, _, _, _ => false)
  | _, _ => false
mutual
def ckS : MS → Stmt → Bool
  | .asg t e, st => match st with
    | .Assign [tg] v _ => okAsg G N sc t e tg v
    | _ => false
  | .par i j a b, st => match st with
    | .Assign [.Tuple [.Name x px, .Name y py] _ _] (.Tuple [a', b'] _ _) _ => decide (N[i]? = some x) && decide (N[j]? = some y) && isLoc sc x && isLoc sc y && okE G N false sc a a' && okE G N false sc b b' && (py.line == px.line) && !(x == y) && noStar a' && noStar b' &&
      !([a', b'].all (foldedForSure 8)) && !([a', b'].all (constantsAlone 8)) && decide (i ≠ j)
    | _ => false
  | .put o k e, st => match st with
    | .Assign [.Subscript o' k' _] e' _ => okE G N false sc o o' && okE G N false sc k k' && okE G N false sc e e' && !isComp e'
    | _ => false
  | .exp e, st => match st with
    | .Expr e' _ => okE G N false sc e e' && !isComp e'
    | _ => false
  | .ret e, st => match st with
    | .Return (some e') _ => okE G N false sc e e'
    | .Return none _ => (match e with | .lit .none => true | _ => false)
    | _ => false
  | .ite c a b, st => match st with
    | .If c' a' b' _ => okE G N true sc c c' && ckSs a a' && ckSs b b'
    | _ => false
  | .fr t it b, st => match st with
    | .For tg iter body [] _ => okI G N sc it tg iter && okG N true sc t tg && ckSs b body && notSet iter
    | _ => false
  | .whl c b, st => match st with
    | .While c' body [] _ => okE G N true sc c c' && ckSs b body
    | _ => false
  | .pass, st => match st with
    | .Pass _ => true
    | _ => false
def ckSs : MSs → List Stmt → Bool
  | .nil, l => l.isEmpty
  | .cons a r, l => match l with
    | st :: l => ckS a st && ckSs r l
    | [] => false
end
end
section
variable {G : Glo} {N : List Str} {C : Calls} {X : Cx} {sc : Scope}
theorem loc_ok {x : Str} (c : Cxt G N C X sc true) (h : locB sc x = true) : Loc X.env.scope x := by
  unfold locB isLoc at h
  rw [c.scope]
  simp only [Bool.or_eq_true, beq_iff_eq] at h
  exact h
theorem lc_set {m : ME} {elt : Expr} {gs : List Comprehension} {scope : Scope} {pos spos py : Pos} {i : Nat} {y : Str} (c : Cxt G N C X sc true) (h : okE G N false sc m (.ListComp elt gs scope pos) = true) (hy : X.N[i]? = some y) (hyl : X.env.scope.names.lookup y = some .local)
    (hsw : swapsWith (.ListComp elt gs scope pos) (some (.Name y py)) spos.line X.env = pure true) : PSm X EW0 C (.Assign [.Name y py] (.ListComp elt gs scope pos) spos) (.asg (.var i) m) := by
  cases m with
  | lc m a tg it ifs vs =>
    unfold okE at h
    split at h
    · rename_i elt' tg' iter ifs' scope' pos' he
      cases he
      simp only [Bool.and_eq_true, decide_eq_true_eq] at h
      obtain ⟨⟨⟨⟨⟨⟨⟨h1, h2⟩, h3⟩, h4⟩, h5⟩, h6⟩, h7⟩, h8⟩ := h
      have bk := blkOk_by h2
      have cb := fun s H Cc cl fp => c.blk bk.kind s H Cc cl fp
      exact ps_msetLc c.calm c.nd hy hyl hsw (okI_sound it sc _ _ X true c h1) (by rw [c.names, c.scope]; exact bk) h3 h4
        (fun s H Cc cl fp => okG_sound tg tg' _ (cb s H Cc cl fp) h5) (fun s H Cc cl fp => okTs_sound ifs _ ifs' _ false (cb s H Cc cl fp) h6) (fun s H Cc cl fp => okE_sound a false _ _ _ false (cb s H Cc cl fp) h7) (notSet_ok h8)
    · cases h
  | _ => unfold okE at h; cases h
theorem okAsg_sound {t : MT} {e : ME} {tg v : Expr} {pos : Pos} (c : Cxt G N C X sc true) (h : okAsg G N sc t e tg v = true) : PSm X EW0 C (.Assign [tg] v pos) (.asg t e) := by
  unfold okAsg at h
  split at h
  · rename_i i x py
    simp only [Bool.and_eq_true, decide_eq_true_eq] at h
    obtain ⟨⟨⟨h1, h2⟩, h3⟩, h4⟩ := h
    have hi : X.N[i]? = some x := by rw [c.names]; exact h1
    have hx := loc_ok c h2
    have pe := okE_sound e false sc v X true c h3
    have plain : swapsWith v (some (.Name x py)) pos.line X.env = pure false → PSm X EW0 C (.Assign [.Name x py] v pos) (.asg (.var i) e) := fun hs =>
      ps_mset c.nd hi hx (.inl (c.fn rfl x)) pe hs
    unfold swB at h4
    split at h4
    · rename_i elt gs scope vp
      split at h4
      · rename_i hl
        have hl' : X.env.scope.names.lookup x = some .local := by rw [c.scope]; simpa [isLoc] using hl
        rw [Bool.and_eq_true, Bool.not_eq_true'] at h4
        exact lc_set c h3 hi hl' (sw_true (by rw [c.scope]; exact c.kind) hl' h4.1 h4.2)
      · rename_i hl
        have hl' : X.env.scope.names.lookup x = some .cell := by
          rcases hx with q | q
          · rw [c.scope] at q
            exact absurd (by simpa [isLoc] using q) hl
          · exact q
        refine plain ?_
        unfold swapsWith
        have kx : X.env.kindOf x = some .cell := hl'
        simp only [kx]
        have : (some NameKind.cell == some NameKind.local) = false := rfl
        rw [this, Bool.and_false, Bool.false_and, Bool.false_and]
    · cases h4
    · cases h4
    · rename_i n1 n2 n3
      refine plain (swaps_nc ?_)
      cases v <;> first | rfl | exact absurd rfl (n1 _ _ _ _) | exact absurd rfl (n2 _ _ _ _) | exact absurd rfl (n3 _ _ _ _ _)
  · rename_i ts es k tp
    rw [Bool.or_eq_true] at h
    rcases h with h | h
    · simp only [Bool.and_eq_true, Bool.not_eq_true'] at h
      obtain ⟨⟨⟨h1, h2⟩, h3⟩, h4⟩ := h
      exact ps_masg (okE_sound e false sc v X true c h2) (okG_sound (.tup ts) _ X c h1) h3 fun vs a b z => by subst z; cases h4
    · split at h
      · rename_i i j l ms x px y py z pz a b d k2 vp
        simp only [Bool.and_eq_true, Bool.not_eq_true', decide_eq_true_eq] at h
        obtain ⟨⟨⟨⟨⟨⟨⟨⟨⟨⟨⟨⟨⟨⟨⟨⟨h1, h2⟩, h3⟩, h4⟩, h5⟩, h6⟩, h7⟩, h8⟩, h9⟩, h10⟩, h11⟩, h12⟩, h13⟩, h14⟩, h15⟩, h16⟩, h17⟩ := h
        have nm : ∀ {i : Nat} {x : Str}, N[i]? = some x → X.N[i]? = some x := fun {i x} q => by rw [c.names]; exact q
        have lo : ∀ {x : Str}, isLoc sc x = true → X.env.scope.names.lookup x = some .local := fun {x} q => by rw [c.scope]; simpa [isLoc] using q
        obtain ⟨x1, xs1, e1, n1, q1⟩ : ∃ x xs, [a, b, d] = x :: xs ∧ noStar x = true ∧ True := ⟨a, [b, d], rfl, by
          cases ms with
          | nil => have := okEs_nil h7; cases this
          | cons m1 r1 => obtain ⟨_, _, e, n, _⟩ := okEs_inv h7; cases e; exact n, trivial⟩
        have ns : noStar a = true ∧ noStar b = true ∧ noStar d = true := by
          cases ms with
          | nil => have := okEs_nil h7; cases this
          | cons m1 r1 =>
            obtain ⟨_, _, e, n1, h8⟩ := okEs_inv h7
            cases e
            cases r1 with
            | nil => have := okEs_nil h8; cases this
            | cons m2 r2 =>
              obtain ⟨_, _, e, n2, h9⟩ := okEs_inv h8
              cases e
              cases r2 with
              | nil => have := okEs_nil h9; cases this
              | cons m3 r3 =>
                obtain ⟨_, _, e, n3, _⟩ := okEs_inv h9
                cases e
                exact ⟨n1, n2, n3⟩
        exact ps_mpar3 c.calm c.nd (nm h1) (nm h2) (nm h3) h15 h16 h17 (by rw [c.scope]; exact c.kind) (lo h4) (lo h5) (lo h6) (okEs_sound ms sc _ X true c h7).1 h8 h9 (by simpa using h10) (by simpa using h11) (by simpa using h12) ns.1 ns.2.1 ns.2.2 h13 h14
      · cases h
  · cases h
mutual
theorem ckS_sound (c : Cxt G N C X sc true) (hp : PassesOwn (model X.prog X.w) X.A X.env X.xe) : ∀ (m : MS) (st : Stmt), ckS G N sc m st = true → PSm X EW0 C st m
  | .asg t e, st, h => by
    unfold ckS at h
    split at h
    · exact okAsg_sound c h
    · cases h
  | .par i j a b, st, h => by
    unfold ckS at h
    split at h
    · simp only [Bool.and_eq_true, Bool.not_eq_true', decide_eq_true_eq] at h
      obtain ⟨⟨⟨⟨⟨⟨⟨⟨⟨⟨⟨⟨h1, h2⟩, h3⟩, h4⟩, h5⟩, h6⟩, h7⟩, h8⟩, h9⟩, h10⟩, h11⟩, h12⟩, h13⟩ := h
      have nm : ∀ {i : Nat} {x : Str}, N[i]? = some x → X.N[i]? = some x := fun {i x} q => by rw [c.names]; exact q
      have lo : ∀ {x : Str}, isLoc sc x = true → X.env.scope.names.lookup x = some .local := fun {x} q => by rw [c.scope]; simpa [isLoc] using q
      exact ps_mpar c.calm c.nd (nm h1) (nm h2) h13 (by rw [c.scope]; exact c.kind) (lo h3) (lo h4) (okE_sound a false sc _ X true c h5) (okE_sound b false sc _ X true c h6) h7 (by simpa using h8) h9 h10 h11 h12
    · cases h
  | .put o k e, st, h => by
    unfold ckS at h
    split at h
    · simp only [Bool.and_eq_true, Bool.not_eq_true'] at h
      obtain ⟨⟨⟨h1, h2⟩, h3⟩, h4⟩ := h
      have hu := c.hu
      exact ps_mput (by omega) (okE_sound o false sc _ X true c h1) (okE_sound k false sc _ X true c h2) (okE_sound e false sc _ X true c h3) h4
    · cases h
  | .exp e, st, h => by
    unfold ckS at h
    split at h
    · simp only [Bool.and_eq_true, Bool.not_eq_true'] at h
      exact ps_mexp (okE_sound e false sc _ X true c h.1) h.2
    · cases h
  | .ret e, st, h => by
    unfold ckS at h
    split at h
    · exact ps_mret (okE_sound e false sc _ X true c h)
    · split at h
      · exact ps_mretN
      · cases h
    · cases h
  | .ite d a b, st, h => by
    unfold ckS at h
    split at h
    · simp only [Bool.and_eq_true] at h
      exact ps_mite (okE_sound d true sc _ X true c h.1.1).1 (ckSs_sound c hp a _ h.1.2) (ckSs_sound c hp b _ h.2)
    · cases h
  | .fr t it b, st, h => by
    unfold ckS at h
    split at h
    · simp only [Bool.and_eq_true] at h
      obtain ⟨⟨⟨h1, h2⟩, h3⟩, h4⟩ := h
      exact ps_mfor hp c.calm (okI_sound it sc _ _ X true c h1) (okG_sound t _ X c h2) (ckSs_sound c hp b _ h3) (notSet_ok h4)
    · cases h
  | .whl d b, st, h => by
    unfold ckS at h
    split at h
    · simp only [Bool.and_eq_true] at h
      exact ps_mwhl hp (okE_sound d true sc _ X true c h.1).1 (ckSs_sound c hp b _ h.2)
    · cases h
  | .pass, st, h => by
    unfold ckS at h
    split at h
    · exact ps_mpass
    · cases h
theorem ckSs_sound (c : Cxt G N C X sc true) (hp : PassesOwn (model X.prog X.w) X.A X.env X.xe) : ∀ (m : MSs) (l : List Stmt), ckSs G N sc m l = true → PSsm X EW0 C l m
  | .nil, l, h => by
    unfold ckSs at h
    have : l = [] := by simpa using h
    subst this
    exact pss_mnil
  | .cons a r, l, h => by
    unfold ckSs at h
    split at h
    · rw [Bool.and_eq_true] at h
      exact pss_mcons (ckS_sound c hp a _ h.1) (ckSs_sound c hp r _ h.2)
    · cases h
end
end
end Mi
/-! MiF: all defs of a text keep the interpreter's promise. -/
namespace Mi
open PySem L2 PySem.Spec PyProof.Rows
section
variable {W : Wd} {ι : List Addr} {h : Hh} {H : Hp}
theorem RH.keep1 {ι' : List Addr} {h' : Hh} {H' : Hp} (r : RH W ι h H) (g : Go ι h H ι' h' H') (r' : RH W ι' h' H') {j : Nat} {a : Addr} {c : Cell} (hj : h.length ≤ j) (ea : ι'[j]? = some a) (ec : h'[j]? = some c) (nc : c ≠ .gone) :
    Go ι h H (ι ++ [a]) (h'.take h.length ++ [c]) H' ∧ RH W (ι ++ [a]) (h'.take h.length ++ [c]) H' := by
  have hlen := r.len
  obtain ⟨g1, r1, _⟩ := r.take g r'
  have hl1 := r1.len
  have sub0 : ∀ b, lv ι (h'.take h.length) b → lv ι' h' b := fun b ⟨i, d, e, ed, n⟩ => by
    rw [List.getElem?_take] at ed
    split at ed
    · obtain ⟨t, rfl⟩ := g.pre
      exact ⟨i, d, by rw [List.getElem?_append_left (List.getElem?_eq_some_iff.mp e).1]; exact e, ed, n⟩
    · cases ed
  have sub : ∀ b, lv (ι ++ [a]) (h'.take h.length ++ [c]) b → lv ι' h' b := fun b x => by
    rcases lv_app hl1 x with y | rfl
    · exact sub0 b y
    · exact ⟨j, c, ea, ec, nc⟩
  have na : a ∉ ι := fun m => by
    obtain ⟨i, hi, e⟩ := List.mem_iff_getElem.mp m
    obtain ⟨t, ht⟩ := g.pre
    have e1 : ι'[i]? = some a := by rw [← ht, List.getElem?_append_left hi, ← e]; exact List.getElem?_eq_getElem hi
    have := nd_ix r'.nd e1 ea
    omega
  have st : Stay (lv ι' h') (lv (ι ++ [a]) (h'.take h.length ++ [c])) H' H' := ⟨fun b o e _ => ⟨o, e, Fz.refl⟩, fun b o _ n x => n (sub b x)⟩
  refine ⟨⟨List.prefix_append _ _, g.ext, fun b x => g.liv b (sub b x), g.dom⟩, ⟨by simp [hl1], ?_, fun b m => ?_, fun i b d e ed => ?_⟩⟩
  · rw [List.nodup_append]
    exact ⟨r.nd, by simp, fun b m b' mb z => by
      have : b' = a := by simpa using mb
      exact na (by rw [← this, ← z]; exact m)⟩
  · rcases List.mem_append.mp m with m | m
    · exact g.dom b (r.dom b m)
    · have : b = a := by simpa using m
      rw [this]
      exact r'.dom a (List.mem_of_getElem? ea)
  · have ok : ∀ {i : Nat} {b : Addr} {d : Cell}, ι'[i]? = some b → h'[i]? = some d → CellOk W (lv (ι ++ [a]) (h'.take h.length ++ [c])) H' b d := fun {i b d} e ed => by
      have x := r'.cell i b d e ed
      cases d with
      | gone => trivial
      | lst ds =>
        obtain ⟨vs, e1, q⟩ := x
        exact ⟨vs, e1, PVs.go st ds vs q⟩
      | dct kvs =>
        obtain ⟨es, d, q⟩ := x
        exact ⟨es, d, PVk.go st kvs es q⟩
    by_cases hi : i < ι.length
    · rw [List.getElem?_append_left hi] at e
      rw [List.getElem?_append_left (by omega), List.getElem?_take] at ed
      split at ed
      · obtain ⟨t, ht⟩ := g.pre
        exact ok (by rw [← ht, List.getElem?_append_left hi]; exact e) ed
      · cases ed
    · rw [List.getElem?_append_right (by omega)] at e
      have e0 : i - ι.length = 0 := by
        have := (List.getElem?_eq_some_iff.mp e).1
        simp at this
        omega
      rw [List.getElem?_append_right (by omega), show i - (h'.take h.length).length = 0 by omega] at ed
      rw [e0] at e
      simp at e ed
      subst e ed
      exact ok ea ec
/-- a call's end -/
theorem fin_post {mr : Bool} {r : SRes} {Q : VK} (rh : RH W ι h H) (p : wish W EW0 ι h H (fin mr h.length r) Q) : PostS W EW0 ι h H r { nx := fun _ H' => Q .non H', rt := Q } := by
  cases r with
  | bad => exact p
  | bk σA h' => exact p.elim
  | ct σA h' => exact p.elim
  | er e h' =>
    intro ι' H' g r'
    obtain ⟨t1, t2, _⟩ := rh.take g r'
    exact p ι H' t1 t2
  | nx σA h' =>
    intro ι' H' σ' g r' _
    obtain ⟨t1, t2, _⟩ := rh.take g r'
    exact p ι H' t1 t2 .non DVn
  | rt d h' =>
    intro ι' H' g r' v dv
    obtain ⟨t1, t2, t3⟩ := rh.take g r'
    have hlen := rh.len
    cases d with
    | p d => exact p ι H' t1 t2 v (t3 d v dv)
    | r j =>
      obtain ⟨a, ea, rfl⟩ := dv
      unfold fin at p
      simp only at p
      split at p
      · rename_i hj
        refine p ι H' t1 t2 _ ⟨a, ?_, rfl⟩
        obtain ⟨t, rfl⟩ := g.pre
        rw [List.getElem?_append_left (by omega)] at ea
        exact ea
      · rename_i hj
        have data : ∀ pd : P, frz (.r j) h' = some (pd, h'.set j .gone) → PVx W ι (h'.take h.length) H' pd (.ref a) ∧ Go ι h H ι (h'.take h.length) H' ∧ RH W ι (h'.take h.length) H' := fun pd e => by
          obtain ⟨g5, r5, x⟩ := frz_ok r' (show DV W ι' h' H' (.r j) (.ref a) from ⟨a, ea, rfl⟩) e
          obtain ⟨s1, s2, s3⟩ := rh.take (g.trans g5) r5
          rw [List.take_set_of_le (by omega)] at s1 s2 s3
          exact ⟨s3 _ _ x, s1, s2⟩
        have hn : (h'.take h.length).length = h.length := by have := t2.len; omega
        cases ec : h'[j]? with
        | none => rw [ec] at p; exact p.elim
        | some c =>
          rw [ec] at p
          cases c with
          | gone => exact p.elim
          | lst ds =>
            cases mr with
            | false =>
              obtain ⟨x, s1, s2⟩ := data (.list ds) (by unfold frz; simp only [ec])
              exact p ι H' s1 s2 _ x
            | true =>
              obtain ⟨s1, s2⟩ := rh.keep1 g r' (by omega) ea ec (by simp)
              exact p _ H' s1 s2 _ ⟨a, by rw [hn, ← hlen]; simp, rfl⟩
          | dct kvs =>
            cases mr with
            | false =>
              obtain ⟨x, s1, s2⟩ := data (.dict kvs) (by unfold frz; simp only [ec])
              exact p ι H' s1 s2 _ x
            | true =>
              obtain ⟨s1, s2⟩ := rh.keep1 g r' (by omega) ea ec (by simp)
              exact p _ H' s1 s2 _ ⟨a, by rw [hn, ← hlen]; simp, rfl⟩
end
/-- what the module tells of a def -/
structure DefIs (P : Program) (w : World) (K : PySem.W.Frag) (mg : Str → Option Value) (G : Glo) (F : FDef) (f : Addr) (fd : FuncData) (N ps : List Str) : Prop where
  mg : mg F.name = some (.ref f)
  kp : PySem.W.keepIn K (.ref f) = true
  bd : Binds K fd ps []
  np : ps.length = F.np
  ns : N.length = F.ns
  fn : ∃ (name qual : Str) (params : Arguments) (body : List Stmt) (scope : Scope) (dV kV doc pm cdv ct oc : Value) (an od : Option Addr) (osl : Array (Option Value)), fd = PySem.W.fnOf name qual params body scope dV kV doc pm an cdv ct ∧
    K.lookup f = some ⟨oc, od, .func (PySem.W.fnOf name qual params body scope dV kV doc pm an cdv ct), osl⟩ ∧ PySem.W.codeIn K cdv qual = true ∧ FnScope N ps scope ∧ ckSs G N scope F.body body = true
structure ModOk (P : Program) (w : World) (K : PySem.W.Frag) (mg : Str → Option Value) (G : Glo) : Prop where
  mgB : ∀ x ∈ bnames, mg x = none
  mgG : G.gcd = true → mg (Str.ofString "gcd") = some (.builtin "math.gcd")
  con : ∀ x d, G.conOk x d = true → ∃ v u, mg x = some u ∧ RelV v u ∧ KV' K d v
  defs : ∀ (i : Nat) (F : FDef), G.prog[i]? = some F → ∃ f fd N ps, DefIs P w K mg G F f fd N ps
theorem start_slr {W : Wd} {ι : List Addr} {h : Hh} {H : Hp} {ds : List D} {vs : List V} {N : List Str} {np ns : Nat} (dv : Paired (DV W ι h H) ds vs) (hd : ds.length = np) (hn : N.length = ns) (hle : np ≤ ns) : SlR W ι h H (ds.map some ++ List.replicate (ns - np) none) (L2.start N vs) := by
  have hl := dv.length
  unfold L2.start
  refine ⟨by simp; omega, fun i d e => ?_⟩
  by_cases hi : i < ds.length
  · rw [List.getElem?_append_left (by simpa using hi), List.getElem?_map] at e
    cases ed : ds[i]? with
    | none => rw [ed] at e; cases e
    | some d' =>
      rw [ed] at e
      cases e
      obtain ⟨v, ev, q⟩ := paired_get dv ed
      exact ⟨v, by rw [List.getElem?_append_left (by simp; omega), List.getElem?_map, ev]; rfl, q⟩
  · rw [List.getElem?_append_right (by simpa using hi), List.getElem?_replicate] at e
    split at e <;> cases e
theorem defs_ok {P : Program} {w : World} {K : PySem.W.Frag} {mg : Str → Option Value} {base : Heap} {G : Glo} (M : ModOk P w K mg G) (fuel : Nat) : ∀ (k i : Nat) (F : FDef), G.prog[i]? = some F → ∀ (f : Addr) (fd : FuncData) (N ps : List Str), DefIs P w K mg G F f fd N ps →
    FnG P w K mg base CX0 k f fd ps (spF ⟨P, w, K⟩ EW0 ⟨callN G.prog fuel k, fuel⟩ i ps.length)
  | 0, i, F, hF, f, fd, N, ps, d => ⟨fun vs H Q E q => q.1, fun A outer s H args us vs Q E _ _ _ _ _ q => by
      obtain ⟨_, ι, h, ds, _, _, q⟩ := q
      exact q.elim⟩
  | k + 1, i, F, hF, f, fd, N, ps, d => by
    obtain ⟨name, qual, params, body, scope, dV, kV, doc, pm, cdv, ct, oc, an, od, osl, rfl, lk, hcd, S, ck⟩ := d.fn
    refine fnG_of lk hcd S (fun vs H Q E q => q.1) fun A outer s H vs Q E hr hgd q => ?_
    have c : Cxt G N ⟨callN G.prog fuel k, fuel⟩ (cxOf CX0 P w K mg base N qual scope f cdv A outer s H E) scope true := {
      scope := rfl
      kind := S.kind
      names := rfl
      calm := rfl
      nd := S.nd
      hu := by have := hr.un; show (A.deeper (envOfC qual scope s.heap.objs.size f cdv)).units + 200 < cLine; omega
      gd := by show (A.deeper (envOfC qual scope s.heap.objs.size f cdv)).guards = some []; exact hgd
      fn := fun _ _ => rfl
      mgB := M.mgB
      mgG := M.mgG
      con := M.con
      calls := fun j F' hF' => by
        obtain ⟨f', fd', N', ps', d'⟩ := M.defs j F' hF'
        exact ⟨k, f', fd', ps', defs_ok M fuel k j F' hF' f' fd' N' ps' d', hr, d'.mg, d'.kp, d'.bd, d'.np⟩ }
    refine ⟨_, ckSs_sound c (passes_of (K := fun e s'' => CX0 outer H s E e s'') rfl) F.body body ck, ?_⟩
    obtain ⟨q1, ι, h, ds, rh, dv, q⟩ := q
    have e1 : callN G.prog fuel (k + 1) i ds h = fin F.mr h.length (exs ⟨callN G.prog fuel k, fuel⟩ F.body (ds.map some ++ List.replicate (F.ns - F.np) none) h) := by
      show (match G.prog[i]? with | some F => if ds.length = F.np then fin F.mr h.length (exs ⟨callN G.prog fuel k, fuel⟩ F.body (ds.map some ++ List.replicate (F.ns - F.np) none) h) else .bad | none => .bad) = _
      rw [hF]
      simp only
      rw [if_pos (by rw [dv.length, q1, d.np])]
    have q : wish ⟨P, w, K⟩ EW0 ι h H (callN G.prog fuel (k + 1) i ds h) Q := q
    rw [e1] at q
    have hle : F.np ≤ F.ns := by
      rw [← d.np, ← d.ns]
      have := congrArg List.length S.pre
      rw [List.length_take] at this
      omega
    exact ⟨ι, h, _, rh, start_slr dv (by rw [dv.length, q1, d.np]) d.ns hle, fin_post rh q⟩
end Mi
/-! MiG: the head. -/
namespace Mi
open PySem L2 PySem.Spec PyProof.Rows
/-- the law's def is called: its promise at the heap behind the top -/
theorem callG {P : Program} {w : World} {K : PySem.W.Frag} {mg mb : Str → Option Value} {k : Nat} {fa a : Addr} {fd : FuncData} {x : Str} {sp : Sp} {s₁ : Shared} {us : List Value} {ns : List Int}
    (KX : K.In s₁.heap) (hns : s₁.heap.Ns mainGlobals mg) (hb : s₁.heap.Ns builtinsNs mb) (hbb : ∀ x : Str, x ≠ "__name__" → mb x = bootBuiltins x) (hlim : s₁.heap.NoLimit) (hg : s₁.gens = #[])
    (ha : s₁.heap.get? a = some { cls := .type "list", data := .seq us.toArray }) (hi : IntsAre us ns) (hl : ns.length ≤ sizeLine) (hr : Room k callerA)
    (F : ∀ base : Heap, K.In base → base.Ns mainGlobals mg → FnG P w K mg base CX0 k fa fd [x] sp) (hbind : ∀ (s : Shared) (u : Value), BindsTo s fd ⟨[u], []⟩ [(x, u)])
    (hsp : ∀ H : Hp, Only H → SqL K H a (ns.map V.int) → sp [.ref a] H (fun v _ => v = .bl true) fun _ _ _ => False) :
    codeAny (model P w) callerA (.call (.ref fa) ⟨[.ref a], []⟩) (fun r s' => r = .ok (.ret (.bool true)) ∧ PySem.OldK s₁.heap s'.heap ∧ s'.os = s₁.os ∧ AllBare s'.gens) s₁ := by
  have relUs := vals_ints hi
  have lenUs := hi.length
  have at_H : ∀ H : Hp, Only H → SqL K H a (ns.map V.int) → HOk P w H s₁.heap → (∀ b, H b ≠ none → b = a) → (H a ≠ none → K.lookup a = none) →
      codeAny (model P w) callerA (.call (.ref fa) ⟨[.ref a], []⟩) (fun r s' => r = .ok (.ret (.bool true)) ∧ PySem.OldK s₁.heap s'.heap ∧ s'.os = s₁.os ∧ AllBare s'.gens) s₁ := by
    intro H only sq hok onlyA notK
    have vis : ∀ {b : Addr} {ob : Obj}, s₁.heap.get? b = some ob → H b = none → (hidT s₁.heap H).get? b = some ob := fun e n => hidT_get e n
    have dictN : ∀ {b : Addr} {ob : Obj} {es : Array DictEntry} {ep : Nat}, s₁.heap.get? b = some ob → ob.data = .dict es ep → H b = none := fun {b ob es ep} e d => by
      cases hq : H b with
      | none => rfl
      | some u =>
        have eb : b = a := onlyA b (by rw [hq]; simp)
        subst eb
        rw [ha] at e
        cases e
        exact nomatch (show Data.seq us.toArray _ = Data.dict es ep from d)
    have nsK : ∀ {b : Addr} {m : Str → Option Value}, s₁.heap.Ns b m → (hidT s₁.heap H).Ns b m := fun {b m} ⟨ob, es, ep, e, d, r⟩ => ⟨ob, es, ep, vis e (dictN e d), d, r⟩
    have inBase : K.In (hidT s₁.heap H) := fun b ob e => vis (KX b ob e) (by
      cases hq : H b with
      | none => rfl
      | some u =>
        have eb : b = a := onlyA b (by rw [hq]; simp)
        subst eb
        rw [notK (by rw [hq]; simp)] at e
        cases e)
    have md : Mod K mg (hidT s₁.heap H) := ⟨inBase, nsK hns, ⟨mb, nsK hb, hbb⟩, let ⟨mc, h1, h2⟩ := hlim; ⟨mc, nsK h1, h2⟩⟩
    have env0 : Env0 P w K mg (hidT s₁.heap H) callerA [] s₁ H := ⟨rfl, md, fun b ob e => of_hidT e, Nat.le_of_eq (hidT_size _ _), trivial, fun b hb => absurd (show b ∈ ([] : List Addr) from hb) (by simp), hok, .of_eq hg⟩
    refine codeAny_mono ((F _ inBase (nsK hns)).run callerA [] s₁ H ⟨[.ref a], []⟩ [.ref a] [.ref a] _ _ hr rfl env0 (hbind s₁ (.ref a)) (.cons rfl .nil) (hsp H only sq)) fun res s' hres => ?_
    rcases res with er | fl
    · exact hres.elim
    · cases fl with
      | next => exact hres.elim
      | brk => exact hres.elim
      | cont => exact hres.elim
      | ret u =>
        obtain ⟨v, H', os, bare, un, hok', rv, qv⟩ := hres
        have qv : v = .bl true := qv
        subst qv
        obtain rfl : u = Value.bool true := rv
        refine ⟨rfl, PySem.OldK.of_keep fun b ob e => ?_, os, bare⟩
        cases hq : H b with
        | none => exact un.keep b ob e hq (by intro z; exact absurd (show b ∈ ([] : List Addr) from z) (by simp)) (by simp)
        | some u =>
          rcases only b with z | ⟨oz, xs, z⟩
          · rw [hq] at z; cases z
          · obtain ⟨e1, _⟩ := hok b _ z
            obtain ⟨e2, _⟩ := hok' b _ (un.frzs b oz _ z)
            rw [e] at e1
            cases e1
            exact e2
  cases hk : K.lookup a with
  | some ob =>
    have e := KX a ob hk
    rw [ha] at e
    cases e
    exact at_H (fun _ => none) (fun _ => .inl rfl) (.inr ⟨_, us.toArray, _, hk, rfl, rfl, rfl, by rw [List.size_toArray, lenUs]; exact hl, by simpa using relUs⟩) (fun b u z => nomatch (show (none : Option HO) = some u from z)) (fun b z => absurd rfl z) fun z => absurd rfl z
  | none =>
    refine at_H (fun b => if b = a then some (.frz { cls := .type "list", data := .seq us.toArray } (.lst (ns.map V.int))) else none) (fun b => ?_) (.inl (.inr ⟨{ cls := .type "list", data := .seq us.toArray }, if_pos rfl⟩)) (fun b u z => ?_) (fun b z => ?_) fun _ => hk
    · by_cases eb : b = a
      · exact .inr ⟨_, _, if_pos eb⟩
      · exact .inl (if_neg eb)
    · by_cases eb : b = a
      · cases (if_pos eb).symm.trans z
        subst eb
        exact ⟨ha, by rw [List.length_map]; exact hl, us, _, relUs, ha⟩
      · cases (if_neg eb).symm.trans z
    · by_cases eb : b = a
      · exact eb
      · exact absurd (if_neg eb) z
theorem walkG {l : PySem.W.OpenLaw} {n k : Nat} {q : Program} {loose : List Str} {XP : (Str → Option Value) → Heap → Prop} {YP : World → Heap → Prop} {d : DefRec} {x : Str}
    (hn : l.most = some n) (hn2 : n ≤ sizeLine) (hdf : d.params.defaults = []) (hr : Room k callerA)
    (F : ∀ (w : World) (mg : Str → Option Value) (fa : Addr) (h : Heap), YP w h → h.Ns mainGlobals mg → mg d.name = some (.ref fa) →
      ∃ (K : PySem.W.Frag) (fd : FuncData) (sp : Sp), K.In h ∧ (∀ (s : Shared) (u : Value), BindsTo s fd ⟨[u], []⟩ [(x, u)]) ∧
        (∀ (H : Hp) (a : Addr) (ns : List Int), ns.length ≤ n → (∀ z ∈ ns, Builtin.Int.intBits z ≤ 1048576) → Only H → SqL K H a (ns.map V.int) → sp [.ref a] H (fun v _ => v = .bl true) fun _ _ _ => False) ∧
        ∀ base : Heap, K.In base → base.Ns mainGlobals mg → FnG l.prog w K mg base CX0 k fa fd [x] sp) : PySem.W.WalkO q loose XP YP l.row.toRowW d [] (fun f vs => PySem.call f vs) := by
  refine Att.attach_callB hn hdf fun w s₀ s₁ mg mb fa o pm cd doc a us ns G Y ho hd hcd hmg hobj hints hlen hbits hg => ?_
  obtain ⟨K, fd, sp, KX, hb, hsp, hF⟩ := F w mg fa _ Y G.T.g hmg
  exact callG KX G.T.g G.T.b G.T.builtins G.T.nolimit hg hobj hints (Nat.le_trans hlen hn2) hr hF hb fun H hO hS => hsp H a ns hlen hbits hO hS
/-! ### the module's facts -/
mutual
def cvB (K : PySem.W.Frag) : P → Value → Bool
  | .none, u => match u with
    | .none => true
    | _ => false
  | .bool b, u => match u with
    | .bool c => b == c
    | _ => false
  | .int i, u => match u with
    | .int j _ => i == j
    | _ => false
  | .str x, u => match u with
    | .str y _ => x == y
    | _ => false
  | .tuple ds, u => match u with
    | .ref a => match K.lookup a with
      | some ⟨.type c, _, .seq its _, _⟩ => decide (c = "tuple") && decide (its.size ≤ sizeLine) && cvsB K ds its.toList
      | _ => false
    | _ => false
  | _, _ => false
def cvsB (K : PySem.W.Frag) : List P → List Value → Bool
  | [], us => us.isEmpty
  | d :: ds, us => match us with
    | u :: us => cvB K d u && cvsB K ds us
    | [] => false
end
mutual
theorem cvB_ok {K : PySem.W.Frag} : ∀ (d : P) (u : Value), cvB K d u = true → ∃ v, RelV v u ∧ KV' K d v
  | .none, u, h => by
    unfold cvB at h
    split at h
    · exact ⟨.non, rfl, rfl⟩
    · cases h
  | .bool b, u, h => by
    unfold cvB at h
    split at h
    · rw [beq_iff_eq] at h
      subst h
      exact ⟨.bl b, rfl, rfl⟩
    · cases h
  | .int i, u, h => by
    unfold cvB at h
    split at h
    · rw [beq_iff_eq] at h
      subst h
      exact ⟨.int i, ⟨_, rfl⟩, rfl⟩
    · cases h
  | .str x, u, h => by
    unfold cvB at h
    split at h
    · rw [beq_iff_eq] at h
      subst h
      exact ⟨.str x, ⟨_, rfl⟩, rfl⟩
    · cases h
  | .tuple ds, u, h => by
    unfold cvB at h
    split at h
    · rename_i a
      split at h
      · rename_i c od its n sl e
        simp only [Bool.and_eq_true, decide_eq_true_eq] at h
        obtain ⟨⟨rfl, h2⟩, h3⟩ := h
        obtain ⟨vs, r, k⟩ := cvsB_ok ds its.toList h3
        refine ⟨.ref a, rfl, ?_⟩
        unfold KV'
        exact ⟨a, vs, rfl, ⟨_, its, n, e, rfl, rfl, h2, r⟩, k⟩
      · cases h
    · cases h
  | .list _, u, h => by unfold cvB at h; cases h
  | .dict _, u, h => by unfold cvB at h; cases h
theorem cvsB_ok {K : PySem.W.Frag} : ∀ (ds : List P) (us : List Value), cvsB K ds us = true → ∃ vs, Vals vs us ∧ KVs' K ds vs
  | [], us, h => by
    unfold cvsB at h
    have : us = [] := by simpa using h
    subst this
    exact ⟨[], .nil, by unfold KVs'; rfl⟩
  | d :: ds, us, h => by
    unfold cvsB at h
    split at h
    · rw [Bool.and_eq_true] at h
      obtain ⟨v, r1, k1⟩ := cvB_ok d _ h.1
      obtain ⟨vs, r2, k2⟩ := cvsB_ok ds _ h.2
      exact ⟨v :: vs, .cons r1 r2, by unfold KVs'; exact ⟨v, vs, rfl, k1, k2⟩⟩
    · cases h
end
mutual
def eqP : P → P → Bool
  | .none, .none => true
  | .bool a, .bool b => a == b
  | .int a, .int b => a == b
  | .str a, .str b => a == b
  | .tuple a, .tuple b => eqPs a b
  | _, _ => false
def eqPs : List P → List P → Bool
  | [], [] => true
  | a :: as, b :: bs => eqP a b && eqPs as bs
  | _, _ => false
end
mutual
theorem eqP_ok : ∀ (a b : P), eqP a b = true → a = b
  | .none, b, h => by cases b <;> first | rfl | (simp [eqP] at h)
  | .bool x, b, h => by cases b <;> simp [eqP] at h; rw [h]
  | .int x, b, h => by cases b <;> simp [eqP] at h; rw [h]
  | .str x, b, h => by cases b <;> simp [eqP] at h; rw [h]
  | .tuple x, b, h => by
    cases b <;> simp [eqP] at h
    rw [eqPs_ok x _ h]
  | .list x, b, h => by cases b <;> simp [eqP] at h
  | .dict x, b, h => by cases b <;> simp [eqP] at h
theorem eqPs_ok : ∀ (a b : List P), eqPs a b = true → a = b
  | [], b, h => by cases b <;> simp [eqPs] at h; rfl
  | x :: xs, b, h => by
    cases b <;> simp [eqPs] at h
    rw [eqP_ok x _ h.1, eqPs_ok xs _ h.2]
end
/-- the constants of the module, and gcd -/
def exB (cs : List (Str × P)) (gcd : Bool) (K : PySem.W.Frag) : Bool := (cs.all fun c => match PySem.W.nsIn K mainGlobals c.1 with
  | some (some u) => cvB K c.2 u
  | _ => false) && (!gcd || He.eqO (PySem.W.nsIn K mainGlobals (Str.ofString "gcd")) (some (some (.builtin "math.gcd"))))
def conOf (cs : List (Str × P)) (x : Str) (d : P) : Bool := cs.any fun c => c.1 == x && eqP c.2 d
def scB (N ps : List Str) (sc : Scope) : Bool := (match sc.kind with | .function => true | _ => false) && !sc.isCoroutine && !sc.isGenerator && decide N.Nodup && decide (N.take ps.length = ps) &&
  (ps.all fun x => sc.names.lookup x == some .local || sc.names.lookup x == some .cell) && sc.names.all fun y => match y.2 with
    | .free => false
    | _ => true
theorem scB_ok {N ps : List Str} {sc : Scope} (h : scB N ps sc = true) : FnScope N ps sc := by
  unfold scB at h
  simp only [Bool.and_eq_true, Bool.not_eq_true', decide_eq_true_eq, List.all_eq_true, Bool.or_eq_true, beq_iff_eq] at h
  obtain ⟨⟨⟨⟨⟨⟨h1, h2⟩, h3⟩, h4⟩, h5⟩, h6⟩, h7⟩ := h
  refine ⟨?_, h2, h3, h4, h5, h6, fun y hy e => ?_⟩
  · split at h1
    · assumption
    · cases h1
  · have := h7 y hy
    rw [e] at this
    cases this
/-- a def's text against its term -/
def defB (G : Glo) (F : FDef) (d : He.DefD) (N ps : List Str) : Bool := decide (d.at_ = (F.name, none)) && d.dfl.isEmpty && d.kwd.isEmpty && decide (ps.length = F.np) && decide (N.length = F.ns) && scB N ps d.scope && ckSs G N d.scope F.body d.body
/-- how its parameters are bound -/
def BindsEq (d : He.DefD) (ps : List Str) : Prop := ∀ (kV doc pm : Value) (an : Option Addr) (cdv ct : Value) (us : List Value), us.length = ps.length → bindArgs (PySem.W.fnOf d.name d.qual d.params d.body d.scope .none kV doc pm an cdv ct) ⟨us, []⟩ = pure (ps.zip us)
theorem defIs_of {P : Program} {w : World} {K : PySem.W.Frag} {h : Heap} {mg : Str → Option Value} {fa : List He.Fa} {fn : List He.DefD} {G : Glo} (X : K.In h) (Gn : h.Ns mainGlobals mg) (c : He.SaysD fa fn K) {d : He.DefD} (hd : d ∈ fn) {F : FDef} {N ps : List Str} (hg : He.Fa.glo F.name ∈ fa) (ck : defB G F d N ps = true) (hb : BindsEq d ps) :
    ∃ fd, DefIs P w K mg G F (He.ga K F.name) fd N ps ∧ ∀ (s : Shared) (us : List Value), us.length = ps.length → BindsTo s fd ⟨us, []⟩ (ps.zip us) := by
  unfold defB at ck
  simp only [Bool.and_eq_true, decide_eq_true_eq, List.isEmpty_iff] at ck
  obtain ⟨⟨⟨⟨⟨⟨h1, h2⟩, h3⟩, h4⟩, h5⟩, h6⟩, h7⟩ := ck
  obtain ⟨fd, FD⟩ := c.defs hd
  have ea : He.fAd K d.at_ = He.ga K F.name := by rw [h1]; rfl
  have e1 : d.dvs K = [] := by unfold He.DefD.dvs; rw [h2]; rfl
  have e2 : d.kws K = [] := by unfold He.DefD.kws; rw [h3]; rfl
  rw [ea, e1, e2] at FD
  have bN := FD.bindsN (ps := ps) hb
  have bA := FunD.bindsA (ps := ps) FD hb
  refine ⟨fd, ⟨He.glo_ok X Gn (c.facts hg), FD.kp, bN, h4, h5, ?_⟩, bA⟩
  obtain ⟨oc, od, dV, kV, doc, pm, an, cdv, ct, osl, e, lk, hcd, _⟩ := FD.ex
  subst e
  exact ⟨d.name, d.qual, d.params, d.body, d.scope, dV, kV, doc, pm, cdv, ct, oc, an, od, osl, rfl, lk, hcd, scB_ok h6, h7⟩
/-- all that the module tells: the rows of the defs in the order of the terms -/
structure Row where
  d : He.DefD
  N : List Str
  ps : List Str
def rowsB (G : Glo) (fa : List Str) (rows : List Row) : Bool := decide (G.prog.length = rows.length) && (G.prog.zip rows).all fun q => defB G q.1 q.2.d q.2.N q.2.ps && decide (q.1.name ∈ fa)
theorem mod_ok {Pr : Program} {w : World} {K : PySem.W.Frag} {h : Heap} {mg : Str → Option Value} {G : Glo} {rows : List Row} {gl : List Str} {cs : List (Str × P)} (X : K.In h) (Gn : h.Ns mainGlobals mg)
    (hG : G.conOk = conOf cs) (c : He.SaysD (gl.map He.Fa.glo ++ bnames.map He.Fa.free) (rows.map (·.d)) K) (ex : exB cs G.gcd K = true) (ck : rowsB G gl rows = true) (hb : ∀ r ∈ rows, BindsEq r.d r.ps) : ModOk Pr w K mg G := by
  unfold exB at ex
  simp only [Bool.and_eq_true, List.all_eq_true, Bool.or_eq_true, Bool.not_eq_true'] at ex
  obtain ⟨ex1, ex2⟩ := ex
  unfold rowsB at ck
  simp only [Bool.and_eq_true, decide_eq_true_eq, List.all_eq_true] at ck
  obtain ⟨ck1, ck2⟩ := ck
  refine ⟨fun x hx => He.free_ok X Gn (c.facts (List.mem_append_right _ (List.mem_map_of_mem hx))), fun hg => ?_, fun x d hc => ?_, fun i F hF => ?_⟩
  · rcases ex2 with e | e
    · rw [hg] at e; cases e
    · exact PySem.W.mg_of X Gn (He.eqO_ok e)
  · rw [hG] at hc
    unfold conOf at hc
    obtain ⟨q, hq, e⟩ := List.any_eq_true.mp hc
    rw [Bool.and_eq_true, beq_iff_eq] at e
    obtain ⟨rfl, e2⟩ := e
    have e2 := eqP_ok _ _ e2
    subst e2
    have e3 := ex1 q hq
    split at e3
    · rename_i u eu
      obtain ⟨v, r, k⟩ := cvB_ok q.2 u e3
      exact ⟨v, u, PySem.W.mg_of X Gn eu, r, k⟩
    · cases e3
  · have hi : i < rows.length := by rw [← ck1]; exact (List.getElem?_eq_some_iff.mp hF).1
    have hm : (F, rows[i]) ∈ G.prog.zip rows := List.mem_of_getElem? (i := i) (by rw [List.getElem?_zip_eq_some]; exact ⟨hF, List.getElem?_eq_getElem hi⟩)
    obtain ⟨k1, k2⟩ := ck2 _ hm
    have hr : rows[i] ∈ rows := List.getElem_mem hi
    obtain ⟨fd, D, _⟩ := defIs_of (P := Pr) (w := w) X Gn c (List.mem_map_of_mem (f := fun r : Row => r.d) hr) (List.mem_append_left _ (List.mem_map_of_mem k2)) k1 (hb _ hr)
    exact ⟨_, fd, _, _, D⟩
/-- what is wanted of the law, in plain words -/
def Plain (prog : List FDef) (law : Nat) (fuel k : Nat) : Prop := ∀ ns : List Int, ns.length ≤ 63 → (∀ z ∈ ns, Builtin.Int.intBits z ≤ 1048576) → callN prog fuel k law [.p (.list (ns.map .int))] [] = .ok (.p (.bool true)) []
theorem ints_pv {pr : Program} {w : World} {K : PySem.W.Frag} {L : Addr → Prop} {H : Hp} : ∀ ns : List Int, PVs pr w K L H (ns.map .int) (ns.map V.int)
  | [] => PVs.nil
  | n :: ns => PVs.cons (show PV _ _ _ _ _ (.int n) _ from rfl) (ints_pv ns)
theorem sp_law {Pr : Program} {w : World} {K : PySem.W.Frag} {prog : List FDef} {law fuel k : Nat} (p : Plain prog law fuel k) (H : Hp) (a : Addr) (ns : List Int) (hl : ns.length ≤ 63) (hb : ∀ z ∈ ns, Builtin.Int.intBits z ≤ 1048576) (hS : SqL K H a (ns.map V.int)) :
    spF ⟨Pr, w, K⟩ EW0 ⟨callN prog fuel k, fuel⟩ law 1 [.ref a] H (fun v _ => v = .bl true) fun _ _ _ => False := by
  have nl : ∀ b, ¬ lv [] [] b := fun b ⟨i, c, e, _⟩ => by simp at e
  refine ⟨rfl, [], [], [.p (.list (ns.map .int))], ⟨rfl, List.nodup_nil, fun b m => (by cases m), fun i b c e => (by simp at e)⟩, .cons ?_ .nil, ?_⟩
  · show PV _ _ _ _ _ (.list (ns.map .int)) _
    unfold PV
    refine ⟨a, ns.map V.int, rfl, ?_, ints_pv ns⟩
    rcases hS with q | q
    · exact .inl ⟨nl a, q⟩
    · exact .inr q
  · show wish _ _ _ _ _ (callN prog fuel k law [.p (.list (ns.map .int))] []) _
    rw [p ns hl hb]
    exact fun ι' H' _ _ v dv => dv
/-- the head's last question, from the plain law -/
theorem head_end {Pr : Program} {w : World} {h : Heap} {mg : Str → Option Value} {fa0 : Addr} {K : PySem.W.Frag} {G : Glo} {rows : List Row} {gl : List Str} {cs : List (Str × P)} {law fuel k : Nat} {nm x : Str} (X : K.In h) (Gn : h.Ns mainGlobals mg)
    (hG : G.conOk = conOf cs) (c : He.SaysX (gl.map He.Fa.glo ++ bnames.map He.Fa.free) (rows.map (·.d)) [] [] (exB cs G.gcd) w h K) (ck : rowsB G gl rows = true) (hb : ∀ r ∈ rows, BindsEq r.d r.ps)
    (hF : ∃ F, G.prog[law]? = some F ∧ F.name = nm ∧ ∃ r, rows[law]? = some r ∧ r.ps = [x]) (hmg : mg nm = some (.ref fa0)) (p : Plain G.prog law fuel k) :
    ∃ (K : PySem.W.Frag) (fd : FuncData) (sp : Sp), K.In h ∧ (∀ (s : Shared) (u : Value), BindsTo s fd ⟨[u], []⟩ [(x, u)]) ∧
        (∀ (H : Hp) (a : Addr) (ns : List Int), ns.length ≤ 63 → (∀ z ∈ ns, Builtin.Int.intBits z ≤ 1048576) → Only H → SqL K H a (ns.map V.int) → sp [.ref a] H (fun v _ => v = .bl true) fun _ _ _ => False) ∧
        ∀ base : Heap, K.In base → base.Ns mainGlobals mg → FnG Pr w K mg base CX0 k fa0 fd [x] sp := by
  have M : ModOk Pr w K mg G := mod_ok X Gn hG c.t.d c.more ck hb
  obtain ⟨F, e1, e2, r, e3, e4⟩ := hF
  have ck0 := ck
  unfold rowsB at ck0
  simp only [Bool.and_eq_true, decide_eq_true_eq, List.all_eq_true] at ck0
  have hm : (F, r) ∈ G.prog.zip rows := List.mem_of_getElem? (i := law) (by rw [List.getElem?_zip_eq_some]; exact ⟨e1, e3⟩)
  obtain ⟨k1, k2⟩ := ck0.2 _ hm
  have hr : r ∈ rows := List.mem_of_getElem? e3
  obtain ⟨fd, D, bA⟩ := defIs_of (P := Pr) (w := w) X Gn c.t.d (List.mem_map_of_mem (f := fun r : Row => r.d) hr) (List.mem_append_left _ (List.mem_map_of_mem k2)) k1 (hb _ hr)
  have ea : He.ga K F.name = fa0 := by
    have := D.mg
    rw [e2, hmg] at this
    cases this
    rw [e2]
  have hps : r.ps = [x] := e4
  rw [show (F, r).2.ps = [x] from e4, ea] at D
  refine ⟨K, fd, spF ⟨Pr, w, K⟩ EW0 ⟨callN G.prog fuel k, fuel⟩ law 1, X, fun s u => ?_, fun H a ns h1 h2 _ h4 => sp_law p H a ns h1 h2 h4, fun base _ _ => ?_⟩
  · have := bA s [u] (by rw [hps]; rfl)
    rw [hps] at this
    exact this
  · exact defs_ok M fuel k law F e1 fa0 fd _ [x] D
end Mi
namespace K00
open PySem L2 Mi PySem.Spec PyProof.Rows
def b_letters_in : MSs :=
  (.cons (.ret (.bi .tuple (.cons (.sset true (.var 3) (.tup [(.var 1), (.var 2)]) (.exp (.var 0)) (.tup [(.var 3), (.var 4)]) (.exp (.var 1)) [1, 2, 3, 4] [3, 4]) .nil)))
  .nil)
def n_letters_in : List Str := [Str.ofString "p", Str.ofString "m", Str.ofString "f", Str.ofString "v", Str.ofString "e"]
def b_is_integer : MSs :=
  (.cons (.ret (.and (.isi (.var 0) .int) (.not (.isi (.var 0) .bool))))
  .nil)
def n_is_integer : List Str := [Str.ofString "value"]
def b_is_whole : MSs :=
  (.cons (.ret (.and (.call (Str.ofString "is_integer") 1 (.cons (.var 0) .nil)) (.cmp .GtE (.var 0) (.lit (.int 0)))))
  .nil)
def n_is_whole : List Str := [Str.ofString "value"]
def b_is_fraction : MSs :=
  (.cons (.ite (.or (.not (.isi (.var 0) .tuple)) (.cmp .NotEq (.bi .len (.cons (.var 0) .nil)) (.lit (.int 2))))
  (.cons (.ret (.lit (.bool false)))
  .nil)
  .nil)
  (.cons (.ite (.or (.not (.call (Str.ofString "is_integer") 1 (.cons (.idx (.var 0) (.lit (.int 0))) .nil))) (.or (.not (.call (Str.ofString "is_integer") 1 (.cons (.idx (.var 0) (.lit (.int 1))) .nil))) (.cmp .Lt (.idx (.var 0) (.lit (.int 1))) (.lit (.int 1)))))
  (.cons (.ret (.lit (.bool false)))
  .nil)
  .nil)
  (.cons (.ret (.cmp .Eq (.bi .gcd (.cons (.idx (.var 0) (.lit (.int 0))) (.cons (.idx (.var 0) (.lit (.int 1))) .nil))) (.lit (.int 1))))
  .nil)))
def n_is_fraction : List Str := [Str.ofString "value"]
def b_is_name : MSs :=
  (.cons (.ite (.or (.not (.isi (.var 0) .str)) (.or (.cmp .Lt (.bi .len (.cons (.var 0) .nil)) (.lit (.int 1))) (.cmp .Gt (.bi .len (.cons (.var 0) .nil)) (.lit (.int 8)))))
  (.cons (.ret (.lit (.bool false)))
  .nil)
  .nil)
  (.cons (.ret (.and (.cmp .In (.idx (.var 0) (.lit (.int 0))) (.con (Str.ofString "SMALL") (.str (Str.ofString "abcdefghijklmnopqrstuvwxyz")))) (.bi .all (.cons (.lc false (.or (.cmp .In (.var 1) (.con (Str.ofString "SMALL") (.str (Str.ofString "abcdefghijklmnopqrstuvwxyz")))) (.cmp .In (.var 1) (.con (Str.ofString "FIGURES") (.str (Str.ofString "0123456789"))))) (.var 1) (.exp (.var 0)) .nil [1]) .nil))))
  .nil))
def n_is_name : List Str := [Str.ofString "value", Str.ofString "sign"]
def b_is_letter : MSs :=
  (.cons (.ret (.and (.isi (.var 0) .tuple) (.and (.cmp .Eq (.bi .len (.cons (.var 0) .nil)) (.lit (.int 2))) (.and (.call (Str.ofString "is_name") 4 (.cons (.idx (.var 0) (.lit (.int 0))) .nil)) (.call (Str.ofString "is_whole") 2 (.cons (.idx (.var 0) (.lit (.int 1))) .nil))))))
  .nil)
def n_is_letter : List Str := [Str.ofString "value"]
def b_is_power_of_letter : MSs :=
  (.cons (.ite (.or (.not (.isi (.var 0) .tuple)) (.cmp .NotEq (.bi .len (.cons (.var 0) .nil)) (.lit (.int 2))))
  (.cons (.ret (.lit (.bool false)))
  .nil)
  .nil)
  (.cons (.ret (.and (.call (Str.ofString "is_letter") 5 (.cons (.idx (.var 0) (.lit (.int 0))) .nil)) (.and (.call (Str.ofString "is_whole") 2 (.cons (.idx (.var 0) (.lit (.int 1))) .nil)) (.cmp .Gt (.idx (.var 0) (.lit (.int 1))) (.lit (.int 0))))))
  .nil))
def n_is_power_of_letter : List Str := [Str.ofString "value"]
def b_ascends : MSs :=
  (.cons (.ret (.bi .all (.cons (.lc false (.cmp .Lt (.idx (.idx (.var 0) (.var 1)) (.lit (.int 0))) (.idx (.idx (.var 0) (.bin .Add (.var 1) (.lit (.int 1)))) (.lit (.int 0)))) (.var 1) (.rng (.cons (.bin .Sub (.bi .len (.cons (.var 0) .nil)) (.lit (.int 1))) .nil)) .nil [1]) .nil)))
  .nil)
def n_ascends : List Str := [Str.ofString "rows", Str.ofString "at"]
def b_is_monomial : MSs :=
  (.cons (.ite (.or (.not (.isi (.var 0) .tuple)) (.not (.bi .all (.cons (.lc false (.call (Str.ofString "is_power_of_letter") 6 (.cons (.var 1) .nil)) (.var 1) (.exp (.var 0)) .nil [1]) .nil))))
  (.cons (.ret (.lit (.bool false)))
  .nil)
  .nil)
  (.cons (.ret (.call (Str.ofString "ascends") 7 (.cons (.var 0) .nil)))
  .nil))
def n_is_monomial : List Str := [Str.ofString "value", Str.ofString "part"]
def b_is_term : MSs :=
  (.cons (.ite (.or (.not (.isi (.var 0) .tuple)) (.cmp .NotEq (.bi .len (.cons (.var 0) .nil)) (.lit (.int 2))))
  (.cons (.ret (.lit (.bool false)))
  .nil)
  .nil)
  (.cons (.ret (.and (.call (Str.ofString "is_monomial") 8 (.cons (.idx (.var 0) (.lit (.int 0))) .nil)) (.and (.call (Str.ofString "is_fraction") 3 (.cons (.idx (.var 0) (.lit (.int 1))) .nil)) (.cmp .NotEq (.idx (.idx (.var 0) (.lit (.int 1))) (.lit (.int 0))) (.lit (.int 0))))))
  .nil))
def n_is_term : List Str := [Str.ofString "value"]
def b_is_polynomial : MSs :=
  (.cons (.ite (.or (.not (.isi (.var 0) .tuple)) (.not (.bi .all (.cons (.lc false (.call (Str.ofString "is_term") 9 (.cons (.var 1) .nil)) (.var 1) (.exp (.var 0)) .nil [1]) .nil))))
  (.cons (.ret (.lit (.bool false)))
  .nil)
  .nil)
  (.cons (.ret (.call (Str.ofString "ascends") 7 (.cons (.var 0) .nil)))
  .nil))
def n_is_polynomial : List Str := [Str.ofString "value", Str.ofString "part"]
def b_number : MSs :=
  (.cons (.ret (.ite (.cmp .Eq (.idx (.var 0) (.lit (.int 0))) (.lit (.int 0))) (.con (Str.ofString "NOUGHT") (.tuple [])) (.tup (.cons (.tup (.cons (.tup .nil) (.cons (.var 0) .nil))) .nil))))
  .nil)
def n_number : List Str := [Str.ofString "f"]
def b_letter : MSs :=
  (.cons (.ret (.tup (.cons (.tup (.cons (.tup (.cons (.tup (.cons (.tup (.cons (.var 0) (.cons (.var 1) .nil))) (.cons (.lit (.int 1)) .nil))) .nil)) (.cons (.tup (.cons (.lit (.int 1)) (.cons (.lit (.int 1)) .nil))) .nil))) .nil)))
  .nil)
def n_letter : List Str := [Str.ofString "name", Str.ofString "k"]
def b_as_number : MSs :=
  (.cons (.ite (.cmp .Eq (.var 0) (.tup .nil))
  (.cons (.ret (.tup (.cons (.lit (.int 0)) (.cons (.lit (.int 1)) .nil))))
  .nil)
  .nil)
  (.cons (.ret (.ite (.and (.cmp .Eq (.bi .len (.cons (.var 0) .nil)) (.lit (.int 1))) (.cmp .Eq (.idx (.idx (.var 0) (.lit (.int 0))) (.lit (.int 0))) (.tup .nil))) (.idx (.idx (.var 0) (.lit (.int 0))) (.lit (.int 1))) (.lit .none)))
  .nil))
def n_as_number : List Str := [Str.ofString "p"]
def b_letters_of : MSs :=
  (.cons (.ret (.call (Str.ofString "letters_in") 0 (.cons (.var 0) .nil)))
  .nil)
def n_letters_of : List Str := [Str.ofString "p"]
def b_names_of : MSs :=
  (.cons (.ret (.bi .tuple (.cons (.sset false (.idx (.var 3) (.lit (.int 0))) (.tup [(.var 1), (.var 2)]) (.exp (.var 0)) (.tup [(.var 3), (.var 4)]) (.exp (.var 1)) [1, 2, 3, 4] [3, 4]) .nil)))
  .nil)
def n_names_of : List Str := [Str.ofString "p", Str.ofString "m", Str.ofString "f", Str.ofString "v", Str.ofString "e"]
def b__law_begun : MSs :=
  (.cons (.asg (.var 2) (.bin .Add (.slc (.var 0) (.some (.var 1)) .none) (.slc (.var 0) .none (.some (.var 1)))))
  (.cons (.asg (.var 3) (.lc false (.var 5) (.var 5) (.exp (.var 0)) (.cons (.cmp .GtE (.var 5) (.bin .Pow (.lit (.int 10)) (.lit (.int 18)))) .nil) [5]))
  (.cons (.asg (.var 4) (.bin .Add (.lit (.int 107)) (.bin .Mult (.lit (.int 10)) (.var 1))))
  (.cons (.fr (.var 5) (.exp (.var 2))
  (.cons (.asg (.var 4) (.bin .Mod (.bi .int (.cons (.bin .Add (.bin .Mult (.var 4) (.lit (.int 48271))) (.var 5)) .nil)) (.lit (.int 2147483647))))
  .nil))
  (.cons (.ret (.dct true (.cons (.lit (.str (Str.ofString "left"))) (.cons (.ite (.cmp .Lt (.var 1) (.bi .len (.cons (.var 3) .nil))) (.idx (.var 3) (.var 1)) (.lit (.int 0))) (.cons (.lit (.str (Str.ofString "seed"))) (.cons (.var 4) (.cons (.lit (.str (Str.ofString "cells"))) (.cons (.bin .Add (.var 2) (.lst false (.cons (.bin .Add (.bin .Mult (.lit (.int 71)) (.var 1)) (.lit (.int 61))) .nil))) (.cons (.lit (.str (Str.ofString "spot"))) (.cons (.lit (.int 0)) .nil))))))))))
  .nil)))))
def n__law_begun : List Str := [Str.ofString "script", Str.ofString "k", Str.ofString "cells", Str.ofString "great", Str.ofString "begun", Str.ofString "cell"]
def b__law_draw : MSs :=
  (.cons (.ite (.cmp .Gt (.idx (.var 0) (.lit (.str (Str.ofString "left")))) (.lit (.int 0)))
  (.cons (.asg (.var 2) (.bin .Mod (.bi .int (.cons (.idx (.var 0) (.lit (.str (Str.ofString "left")))) .nil)) (.var 1)))
  (.cons (.put (.var 0) (.lit (.str (Str.ofString "left"))) (.bin .FloorDiv (.idx (.var 0) (.lit (.str (Str.ofString "left")))) (.var 1)))
  (.cons (.ret (.var 2))
  .nil)))
  .nil)
  (.cons (.asg (.var 3) (.idx (.var 0) (.lit (.str (Str.ofString "spot")))))
  (.cons (.put (.var 0) (.lit (.str (Str.ofString "spot"))) (.bin .Add (.var 3) (.lit (.int 1))))
  (.cons (.par 4 5 (.idx (.var 0) (.lit (.str (Str.ofString "cells")))) (.bin .Add (.idx (.var 0) (.lit (.str (Str.ofString "seed")))) (.bin .Mult (.bin .Mult (.lit (.int 40503)) (.var 3)) (.var 3))))
  (.cons (.asg (.var 6) (.idx (.var 4) (.bin .Mod (.bi .int (.cons (.var 3) .nil)) (.bi .len (.cons (.var 4) .nil)))))
  (.cons (.asg (.var 7) (.bin .Mod (.bi .int (.cons (.bin .Add (.bin .Mult (.var 6) (.bin .Add (.bin .Mult (.lit (.int 2)) (.var 3)) (.lit (.int 3)))) (.var 5)) .nil)) (.lit (.int 2147483647))))
  (.cons (.asg (.var 7) (.bin .Mod (.bi .int (.cons (.bin .Add (.bin .Add (.bin .Mult (.var 7) (.var 7)) (.bin .Mult (.lit (.int 69621)) (.var 3))) (.idx (.var 0) (.lit (.str (Str.ofString "seed"))))) .nil)) (.lit (.int 2147483629))))
  (.cons (.ret (.bin .Mod (.bin .FloorDiv (.bin .Mod (.bi .int (.cons (.bin .Add (.bin .Mult (.var 7) (.lit (.int 48271))) (.var 3)) .nil)) (.lit (.int 2147483647))) (.lit (.int 11))) (.var 1)))
  .nil))))))))
def n__law_draw : List Str := [Str.ofString "m", Str.ofString "below", Str.ofString "found", Str.ofString "spot", Str.ofString "cells", Str.ofString "added", Str.ofString "cell", Str.ofString "blend"]
def b__law_of : MSs :=
  (.cons (.ret (.idx (.var 1) (.call (Str.ofString "_law_draw") 17 (.cons (.var 0) (.cons (.bi .len (.cons (.var 1) .nil)) .nil)))))
  .nil)
def n__law_of : List Str := [Str.ofString "m", Str.ofString "some"]
def b__law_gcd : MSs :=
  (.cons (.par 0 1 (.bi .abs (.cons (.var 0) .nil)) (.bi .abs (.cons (.var 1) .nil)))
  (.cons (.whl (.cmp .NotEq (.var 1) (.lit (.int 0)))
  (.cons (.par 0 1 (.var 1) (.bin .Mod (.var 0) (.var 1)))
  .nil))
  (.cons (.ret (.var 0))
  .nil)))
def n__law_gcd : List Str := [Str.ofString "a", Str.ofString "b"]
def b__law_frac : MSs :=
  (.cons (.asg (.var 2) (.bin .Mult (.call (Str.ofString "_law_gcd") 19 (.cons (.var 0) (.cons (.var 1) .nil))) (.ite (.cmp .Gt (.var 1) (.lit (.int 0))) (.lit (.int 1)) (.neg (.lit (.int 1))))))
  (.cons (.ret (.tup (.cons (.bin .FloorDiv (.var 0) (.var 2)) (.cons (.bin .FloorDiv (.var 1) (.var 2)) .nil))))
  .nil))
def n__law_frac : List Str := [Str.ofString "n", Str.ofString "d", Str.ofString "part"]
def b__law_fsum : MSs :=
  (.cons (.ret (.call (Str.ofString "_law_frac") 20 (.cons (.bin .Add (.bin .Mult (.idx (.var 0) (.lit (.int 0))) (.idx (.var 1) (.lit (.int 1)))) (.bin .Mult (.idx (.var 1) (.lit (.int 0))) (.idx (.var 0) (.lit (.int 1))))) (.cons (.bin .Mult (.idx (.var 0) (.lit (.int 1))) (.idx (.var 1) (.lit (.int 1)))) .nil))))
  .nil)
def n__law_fsum : List Str := [Str.ofString "x", Str.ofString "y"]
def b__law_plus : MSs :=
  (.cons (.asg (.var 2) (.dct true .nil))
  (.cons (.fr (.var 3) (.exp (.var 0))
  (.cons (.put (.var 2) (.var 3) (.idx (.var 0) (.var 3)))
  .nil))
  (.cons (.fr (.var 3) (.exp (.var 1))
  (.cons (.asg (.var 4) (.ite (.cmp .In (.var 3) (.var 2)) (.call (Str.ofString "_law_fsum") 21 (.cons (.idx (.var 2) (.var 3)) (.cons (.idx (.var 1) (.var 3)) .nil))) (.idx (.var 1) (.var 3))))
  (.cons (.ite (.cmp .Eq (.idx (.var 4) (.lit (.int 0))) (.lit (.int 0)))
  (.cons (.exp (.pop (.var 2) (.var 3)))
  .nil)
  (.cons (.put (.var 2) (.var 3) (.var 4))
  .nil))
  .nil)))
  (.cons (.ret (.var 2))
  .nil))))
def n__law_plus : List Str := [Str.ofString "p", Str.ofString "q", Str.ofString "out", Str.ofString "mono", Str.ofString "found"]
def b__law_mono : MSs :=
  (.cons (.asg (.var 2) (.dct true .nil))
  (.cons (.fr (.tup [(.var 3), (.var 4)]) (.exp (.bin .Add (.var 0) (.var 1)))
  (.cons (.put (.var 2) (.var 3) (.bin .Add (.get (.var 2) (.var 3) (.lit (.int 0))) (.var 4)))
  .nil))
  (.cons (.ret (.bi .tuple (.cons (.lc false (.tup (.cons (.var 3) (.cons (.idx (.var 2) (.var 3)) .nil))) (.var 3) (.exp (.bi .sorted (.cons (.bi .list (.cons (.var 2) .nil)) .nil))) .nil [3]) .nil)))
  .nil)))
def n__law_mono : List Str := [Str.ofString "a", Str.ofString "b", Str.ofString "table", Str.ofString "one", Str.ofString "e"]
def b__law_form : MSs :=
  (.cons (.ret (.bi .tuple (.cons (.lc false (.tup (.cons (.var 1) (.cons (.idx (.var 0) (.var 1)) .nil))) (.var 1) (.exp (.bi .sorted (.cons (.bi .list (.cons (.var 0) .nil)) .nil))) .nil [1]) .nil)))
  .nil)
def n__law_form : List Str := [Str.ofString "p", Str.ofString "mono"]
def b__law_is_int : MSs :=
  (.cons (.ret (.and (.isi (.var 0) .int) (.not (.isi (.var 0) .bool))))
  .nil)
def n__law_is_int : List Str := [Str.ofString "value"]
def b__law_is_pair : MSs :=
  (.cons (.ret (.and (.isi (.var 0) .tuple) (.cmp .Eq (.bi .len (.cons (.var 0) .nil)) (.lit (.int 2)))))
  .nil)
def n__law_is_pair : List Str := [Str.ofString "value"]
def b__law_is_frac : MSs :=
  (.cons (.ite (.or (.not (.call (Str.ofString "_law_is_pair") 26 (.cons (.var 0) .nil))) (.or (.not (.call (Str.ofString "_law_is_int") 25 (.cons (.idx (.var 0) (.lit (.int 0))) .nil))) (.not (.call (Str.ofString "_law_is_int") 25 (.cons (.idx (.var 0) (.lit (.int 1))) .nil)))))
  (.cons (.ret (.lit (.bool false)))
  .nil)
  .nil)
  (.cons (.ret (.and (.cmp .Gt (.idx (.var 0) (.lit (.int 1))) (.lit (.int 0))) (.cmp .Eq (.call (Str.ofString "_law_gcd") 19 (.cons (.idx (.var 0) (.lit (.int 0))) (.cons (.idx (.var 0) (.lit (.int 1))) .nil))) (.lit (.int 1)))))
  .nil))
def n__law_is_frac : List Str := [Str.ofString "value"]
def b__law_is_letter : MSs :=
  (.cons (.ite (.or (.not (.call (Str.ofString "_law_is_pair") 26 (.cons (.var 0) .nil))) (.or (.not (.isi (.idx (.var 0) (.lit (.int 0))) .str)) (.not (.call (Str.ofString "_law_is_int") 25 (.cons (.idx (.var 0) (.lit (.int 1))) .nil)))))
  (.cons (.ret (.lit (.bool false)))
  .nil)
  .nil)
  (.cons (.ite (.or (.cmp .Lt (.idx (.var 0) (.lit (.int 1))) (.lit (.int 0))) (.not (.chain .LtE .LtE (.lit (.int 1)) (.bi .len (.cons (.idx (.var 0) (.lit (.int 0))) .nil)) (.lit (.int 8)))))
  (.cons (.ret (.lit (.bool false)))
  .nil)
  .nil)
  (.cons (.asg (.var 1) (.lit (.str (Str.ofString "abcdefghijklmnopqrstuvwxyz"))))
  (.cons (.ret (.and (.cmp .In (.idx (.idx (.var 0) (.lit (.int 0))) (.lit (.int 0))) (.var 1)) (.bi .all (.cons (.lc false (.cmp .In (.var 2) (.bin .Add (.var 1) (.lit (.str (Str.ofString "0123456789"))))) (.var 2) (.exp (.idx (.var 0) (.lit (.int 0)))) .nil [2]) .nil))))
  .nil))))
def n__law_is_letter : List Str := [Str.ofString "value", Str.ofString "small", Str.ofString "sign"]
def b__law_is_mono : MSs :=
  (.cons (.ite (.not (.isi (.var 0) .tuple))
  (.cons (.ret (.lit (.bool false)))
  .nil)
  .nil)
  (.cons (.fr (.var 1) (.exp (.var 0))
  (.cons (.ite (.or (.not (.and (.call (Str.ofString "_law_is_pair") 26 (.cons (.var 1) .nil)) (.and (.call (Str.ofString "_law_is_letter") 28 (.cons (.idx (.var 1) (.lit (.int 0))) .nil)) (.call (Str.ofString "_law_is_int") 25 (.cons (.idx (.var 1) (.lit (.int 1))) .nil))))) (.cmp .Lt (.idx (.var 1) (.lit (.int 1))) (.lit (.int 1))))
  (.cons (.ret (.lit (.bool false)))
  .nil)
  .nil)
  .nil))
  (.cons (.ret (.bi .all (.cons (.lc false (.cmp .Lt (.idx (.idx (.var 0) (.var 2)) (.lit (.int 0))) (.idx (.idx (.var 0) (.bin .Add (.var 2) (.lit (.int 1)))) (.lit (.int 0)))) (.var 2) (.rng (.cons (.bin .Sub (.bi .len (.cons (.var 0) .nil)) (.lit (.int 1))) .nil)) .nil [2]) .nil)))
  .nil)))
def n__law_is_mono : List Str := [Str.ofString "value", Str.ofString "part", Str.ofString "k"]
def b__law_is_poly : MSs :=
  (.cons (.ite (.not (.isi (.var 0) .tuple))
  (.cons (.ret (.lit (.bool false)))
  .nil)
  .nil)
  (.cons (.fr (.var 1) (.exp (.var 0))
  (.cons (.asg (.var 2) (.and (.call (Str.ofString "_law_is_pair") 26 (.cons (.var 1) .nil)) (.and (.call (Str.ofString "_law_is_mono") 29 (.cons (.idx (.var 1) (.lit (.int 0))) .nil)) (.call (Str.ofString "_law_is_frac") 27 (.cons (.idx (.var 1) (.lit (.int 1))) .nil)))))
  (.cons (.ite (.or (.not (.var 2)) (.cmp .Eq (.idx (.idx (.var 1) (.lit (.int 1))) (.lit (.int 0))) (.lit (.int 0))))
  (.cons (.ret (.lit (.bool false)))
  .nil)
  .nil)
  .nil)))
  (.cons (.ret (.bi .all (.cons (.lc false (.cmp .Lt (.idx (.idx (.var 0) (.var 3)) (.lit (.int 0))) (.idx (.idx (.var 0) (.bin .Add (.var 3) (.lit (.int 1)))) (.lit (.int 0)))) (.var 3) (.rng (.cons (.bin .Sub (.bi .len (.cons (.var 0) .nil)) (.lit (.int 1))) .nil)) .nil [3]) .nil)))
  .nil)))
def n__law_is_poly : List Str := [Str.ofString "value", Str.ofString "part", Str.ofString "good", Str.ofString "k"]
def b__law_name : MSs :=
  (.cons (.asg (.var 1) (.lit (.str (Str.ofString "abcdefghijklmnopqrstuvwxyz"))))
  (.cons (.asg (.var 2) (.idx (.var 1) (.call (Str.ofString "_law_draw") 17 (.cons (.var 0) (.cons (.lit (.int 26)) .nil)))))
  (.cons (.fr (.var 3) (.rng (.cons (.call (Str.ofString "_law_draw") 17 (.cons (.var 0) (.cons (.lit (.int 8)) .nil))) .nil))
  (.cons (.asg (.var 2) (.bin .Add (.var 2) (.idx (.bin .Add (.var 1) (.lit (.str (Str.ofString "0123456789")))) (.call (Str.ofString "_law_draw") 17 (.cons (.var 0) (.cons (.lit (.int 36)) .nil))))))
  .nil))
  (.cons (.ret (.var 2))
  .nil))))
def n__law_name : List Str := [Str.ofString "m", Str.ofString "small", Str.ofString "name", Str.ofString "turn"]
def b__law_amount : MSs :=
  (.cons (.asg (.var 1) (.call (Str.ofString "_law_draw") 17 (.cons (.var 0) (.cons (.lit (.int 4)) .nil))))
  (.cons (.ite (.cmp .Eq (.var 1) (.lit (.int 0)))
  (.cons (.ret (.bin .Sub (.call (Str.ofString "_law_draw") 17 (.cons (.var 0) (.cons (.bin .Pow (.lit (.int 10)) (.lit (.int 40))) .nil))) (.bin .Mult (.lit (.int 5)) (.bin .Pow (.lit (.int 10)) (.lit (.int 39))))))
  .nil)
  .nil)
  (.cons (.ret (.ite (.cmp .Lt (.var 1) (.lit (.int 3))) (.bin .Sub (.call (Str.ofString "_law_draw") 17 (.cons (.var 0) (.cons (.lit (.int 7)) .nil))) (.lit (.int 3))) (.bin .Sub (.call (Str.ofString "_law_draw") 17 (.cons (.var 0) (.cons (.lit (.int 2001)) .nil))) (.lit (.int 1000)))))
  .nil)))
def n__law_amount : List Str := [Str.ofString "m", Str.ofString "way"]
def b__law_fraction : MSs :=
  (.cons (.asg (.var 1) (.call (Str.ofString "_law_amount") 32 (.cons (.var 0) .nil)))
  (.cons (.ret (.call (Str.ofString "_law_frac") 20 (.cons (.ite (.cmp .NotEq (.var 1) (.lit (.int 0))) (.var 1) (.lit (.int 1))) (.cons (.ite (.cmp .Eq (.call (Str.ofString "_law_draw") 17 (.cons (.var 0) (.cons (.lit (.int 2)) .nil))) (.lit (.int 0))) (.bin .Add (.lit (.int 1)) (.bi .abs (.cons (.call (Str.ofString "_law_amount") 32 (.cons (.var 0) .nil)) .nil))) (.lit (.int 1))) .nil))))
  .nil))
def n__law_fraction : List Str := [Str.ofString "m", Str.ofString "n"]
def b__law_monomial : MSs :=
  (.cons (.asg (.var 2) (.tup .nil))
  (.cons (.fr (.var 3) (.rng (.cons (.call (Str.ofString "_law_draw") 17 (.cons (.var 0) (.cons (.lit (.int 4)) .nil))) .nil))
  (.cons (.asg (.var 2) (.call (Str.ofString "_law_mono") 23 (.cons (.var 2) (.cons (.tup (.cons (.tup (.cons (.tup (.cons (.call (Str.ofString "_law_of") 18 (.cons (.var 0) (.cons (.var 1) .nil))) (.cons (.call (Str.ofString "_law_draw") 17 (.cons (.var 0) (.cons (.lit (.int 5)) .nil))) .nil))) (.cons (.bin .Add (.lit (.int 1)) (.call (Str.ofString "_law_draw") 17 (.cons (.var 0) (.cons (.lit (.int 3)) .nil)))) .nil))) .nil)) .nil))))
  .nil))
  (.cons (.ret (.var 2))
  .nil)))
def n__law_monomial : List Str := [Str.ofString "m", Str.ofString "names", Str.ofString "mono", Str.ofString "turn"]
def b__law_drawn : MSs :=
  (.cons (.par 1 2 (.lc false (.call (Str.ofString "_law_name") 31 (.cons (.var 0) .nil)) (.var 4) (.rng (.cons (.lit (.int 3)) .nil)) .nil [4]) (.dct false .nil))
  (.cons (.fr (.var 3) (.rng (.cons (.call (Str.ofString "_law_draw") 17 (.cons (.var 0) (.cons (.lit (.int 6)) .nil))) .nil))
  (.cons (.asg (.var 2) (.call (Str.ofString "_law_plus") 22 (.cons (.var 2) (.cons (.dct false (.cons (.call (Str.ofString "_law_monomial") 34 (.cons (.var 0) (.cons (.var 1) .nil))) (.cons (.call (Str.ofString "_law_fraction") 33 (.cons (.var 0) .nil)) .nil))) .nil))))
  .nil))
  (.cons (.ret (.var 2))
  .nil)))
def n__law_drawn : List Str := [Str.ofString "m", Str.ofString "names", Str.ofString "p", Str.ofString "turn", Str.ofString "k"]
def b__law_odd : MSs :=
  (.cons (.asg (.var 2) (.call (Str.ofString "_law_draw") 17 (.cons (.var 0) (.cons (.lit (.int 8)) .nil))))
  (.cons (.ite (.isi (.var 1) .tuple)
  (.cons (.ite (.cmp .Lt (.var 2) (.lit (.int 2)))
  (.cons (.ret (.bi .list (.cons (.var 1) .nil)))
  .nil)
  .nil)
  (.cons (.ite (.cmp .Eq (.var 2) (.lit (.int 2)))
  (.cons (.ret (.bin .Add (.var 1) (.slc (.var 1) .none (.some (.lit (.int 1))))))
  .nil)
  .nil)
  (.cons (.ite (.cmp .Eq (.var 2) (.lit (.int 3)))
  (.cons (.ret (.slc (.var 1) (.some (.lit (.int 1))) .none))
  .nil)
  .nil)
  (.cons (.ite (.cmp .Eq (.var 2) (.lit (.int 4)))
  (.cons (.ret (.ite (.cmp .NotEq (.var 1) (.tup .nil)) (.slc (.var 1) .none (.some (.bin .Sub (.bi .len (.cons (.var 1) .nil)) (.lit (.int 1))))) (.tup (.cons (.tup .nil) .nil))))
  .nil)
  .nil)
  (.cons (.ret (.bi .tuple (.cons (.lc false (.idx (.var 1) (.bin .Sub (.bin .Sub (.bi .len (.cons (.var 1) .nil)) (.lit (.int 1))) (.var 4))) (.var 4) (.rng (.cons (.bi .len (.cons (.var 1) .nil)) .nil)) .nil [4]) .nil)))
  .nil)))))
  .nil)
  (.cons (.ite (.isi (.var 1) .str)
  (.cons (.asg (.var 3) (.lst false (.cons (.bin .Add (.var 1) (.lit (.str (Str.ofString "abcdefgh")))) (.cons (.lit (.str (Str.ofString ""))) (.cons (.bi .upper (.cons (.var 1) .nil)) (.cons (.bin .Add (.lit (.str (Str.ofString "1"))) (.var 1)) (.cons (.bin .Add (.var 1) (.lit (.str (Str.ofString "_")))) (.cons (.bin .Add (.var 1) (.lit (.str (Str.ofString " ")))) (.cons (.slc (.var 1) .none (.some (.lit (.int 1)))) (.cons (.lit .none) (.cons (.bin .Add (.var 1) (.lit (.str (Str.ofString "\n")))) .nil)))))))))))
  (.cons (.ret (.call (Str.ofString "_law_of") 18 (.cons (.var 0) (.cons (.bin .Add (.var 3) (.lst false (.cons (.bin .Add (.slc (.var 1) .none (.some (.lit (.int 7)))) (.lit (.str (Str.ofString "Z")))) (.cons (.bin .Add (.lit (.str (Str.ofString "\t"))) (.var 1)) (.cons (.bin .Add (.bin .Add (.slc (.var 1) .none (.some (.lit (.int 1)))) (.lit (.str (Str.ofString "\t")))) (.slc (.var 1) (.some (.lit (.int 1))) .none)) (.cons (.bin .Add (.slc (.var 1) .none (.some (.lit (.int 7)))) (.lit (.str (Str.ofString "-")))) .nil)))))) .nil))))
  .nil))
  .nil)
  (.cons (.ret (.idx (.lst false (.cons (.bin .Add (.var 1) (.lit (.int 1))) (.cons (.neg (.var 1)) (.cons (.lit (.int 0)) (.cons (.lit (.bool true)) (.cons (.lit .none) (.cons (.bi .str (.cons (.var 1) .nil)) (.cons (.tup (.cons (.var 1) .nil)) (.cons (.bin .Mult (.var 1) (.lit (.int 2))) .nil))))))))) (.var 2)))
  .nil))))
def n__law_odd : List Str := [Str.ofString "m", Str.ofString "part", Str.ofString "way", Str.ofString "odds", Str.ofString "k"]
def b__law_spoilt : MSs :=
  (.cons (.ite (.and (.isi (.var 1) .tuple) (.and (.cmp .NotEq (.var 1) (.tup .nil)) (.and (.cmp .Gt (.var 2) (.lit (.int 0))) (.cmp .Gt (.call (Str.ofString "_law_draw") 17 (.cons (.var 0) (.cons (.lit (.int 4)) .nil))) (.lit (.int 0))))))
  (.cons (.asg (.var 3) (.call (Str.ofString "_law_draw") 17 (.cons (.var 0) (.cons (.bi .len (.cons (.var 1) .nil)) .nil))))
  (.cons (.ret (.bin .Add (.bin .Add (.slc (.var 1) .none (.some (.var 3))) (.tup (.cons (.call (Str.ofString "_law_spoilt") 37 (.cons (.var 0) (.cons (.idx (.var 1) (.var 3)) (.cons (.bin .Sub (.var 2) (.lit (.int 1))) .nil)))) .nil))) (.slc (.var 1) (.some (.bin .Add (.var 3) (.lit (.int 1)))) .none)))
  .nil))
  .nil)
  (.cons (.ret (.call (Str.ofString "_law_odd") 36 (.cons (.var 0) (.cons (.var 1) .nil))))
  .nil))
def n__law_spoilt : List Str := [Str.ofString "m", Str.ofString "value", Str.ofString "room", Str.ofString "k"]
def b__law_told_right : MSs :=
  (.cons (.asg (.var 1) (.lst false (.cons (.call (Str.ofString "_law_is_letter") 28 (.cons (.var 0) .nil)) (.cons (.call (Str.ofString "_law_is_mono") 29 (.cons (.var 0) .nil)) (.cons (.call (Str.ofString "_law_is_poly") 30 (.cons (.var 0) .nil)) .nil)))))
  (.cons (.ret (.cmp .Eq (.bi .repr (.cons (.lst false (.cons (.call (Str.ofString "is_letter") 5 (.cons (.var 0) .nil)) (.cons (.call (Str.ofString "is_monomial") 8 (.cons (.var 0) .nil)) (.cons (.call (Str.ofString "is_polynomial") 10 (.cons (.var 0) .nil)) .nil)))) .nil)) (.bi .repr (.cons (.var 1) .nil))))
  .nil))
def n__law_told_right : List Str := [Str.ofString "value", Str.ofString "dues"]
def b__law_turn_right : MSs :=
  (.cons (.asg (.var 1) (.call (Str.ofString "_law_drawn") 35 (.cons (.var 0) .nil)))
  (.cons (.asg (.var 2) (.call (Str.ofString "_law_form") 24 (.cons (.var 1) .nil)))
  (.cons (.ite (.or (.not (.call (Str.ofString "_law_told_right") 38 (.cons (.var 2) .nil))) (.not (.call (Str.ofString "_law_is_poly") 30 (.cons (.var 2) .nil))))
  (.cons (.ret (.lit (.bool false)))
  .nil)
  .nil)
  (.cons (.fr (.var 3) (.rng (.cons (.lit (.int 6)) .nil))
  (.cons (.asg (.var 4) (.ite (.or (.cmp .Eq (.var 2) (.tup .nil)) (.cmp .Gt (.call (Str.ofString "_law_draw") 17 (.cons (.var 0) (.cons (.lit (.int 3)) .nil))) (.lit (.int 0)))) (.var 2) (.idx (.idx (.var 2) (.call (Str.ofString "_law_draw") 17 (.cons (.var 0) (.cons (.bi .len (.cons (.var 2) .nil)) .nil)))) (.lit (.int 0)))))
  (.cons (.ite (.and (.cmp .NotEq (.var 4) (.var 2)) (.and (.cmp .NotEq (.var 4) (.tup .nil)) (.cmp .Eq (.call (Str.ofString "_law_draw") 17 (.cons (.var 0) (.cons (.lit (.int 2)) .nil))) (.lit (.int 0)))))
  (.cons (.asg (.var 4) (.idx (.idx (.var 4) (.call (Str.ofString "_law_draw") 17 (.cons (.var 0) (.cons (.bi .len (.cons (.var 4) .nil)) .nil)))) (.lit (.int 0))))
  .nil)
  .nil)
  (.cons (.ite (.or (.not (.call (Str.ofString "_law_told_right") 38 (.cons (.var 4) .nil))) (.not (.call (Str.ofString "_law_told_right") 38 (.cons (.call (Str.ofString "_law_spoilt") 37 (.cons (.var 0) (.cons (.var 4) (.cons (.lit (.int 6)) .nil)))) .nil))))
  (.cons (.ret (.lit (.bool false)))
  .nil)
  .nil)
  .nil))))
  (.cons (.asg (.var 5) (.dct true .nil))
  (.cons (.fr (.var 6) (.exp (.var 1))
  (.cons (.fr (.tup [(.var 7), (.var 8)]) (.exp (.var 6))
  (.cons (.put (.var 5) (.var 7) (.lit (.bool true)))
  .nil))
  .nil))
  (.cons (.asg (.var 9) (.bi .sorted (.cons (.bi .list (.cons (.var 5) .nil)) .nil)))
  (.cons (.asg (.var 10) (.bi .sorted (.cons (.lc false (.idx (.var 7) (.lit (.int 0))) (.tup [(.var 13), (.var 7)]) (.enum (.var 9)) (.cons (.cmp .NotIn (.idx (.var 7) (.lit (.int 0))) (.lc false (.idx (.var 14) (.lit (.int 0))) (.var 14) (.exp (.slc (.var 9) .none (.some (.var 13)))) .nil [14])) .nil) [13, 7]) .nil)))
  (.cons (.ite (.or (.cmp .NotEq (.bi .repr (.cons (.call (Str.ofString "letters_of") 14 (.cons (.var 2) .nil)) .nil)) (.bi .repr (.cons (.bi .tuple (.cons (.var 9) .nil)) .nil))) (.cmp .NotEq (.bi .repr (.cons (.call (Str.ofString "names_of") 15 (.cons (.var 2) .nil)) .nil)) (.bi .repr (.cons (.bi .tuple (.cons (.var 10) .nil)) .nil))))
  (.cons (.ret (.lit (.bool false)))
  .nil)
  .nil)
  (.cons (.asg (.var 4) (.ite (.cmp .Eq (.var 1) (.dct false .nil)) (.tup (.cons (.lit (.int 0)) (.cons (.lit (.int 1)) .nil))) (.ite (.cmp .Eq (.var 9) (.lst false .nil)) (.idx (.var 1) (.tup .nil)) (.lit .none))))
  (.cons (.ite (.cmp .NotEq (.bi .repr (.cons (.call (Str.ofString "as_number") 13 (.cons (.var 2) .nil)) .nil)) (.bi .repr (.cons (.var 4) .nil)))
  (.cons (.ret (.lit (.bool false)))
  .nil)
  .nil)
  (.cons (.asg (.tup [(.var 11), (.var 12), (.var 13)]) (.tup (.cons (.call (Str.ofString "_law_fraction") 33 (.cons (.var 0) .nil)) (.cons (.call (Str.ofString "_law_name") 31 (.cons (.var 0) .nil)) (.cons (.call (Str.ofString "_law_draw") 17 (.cons (.var 0) (.cons (.lit (.int 21)) .nil))) .nil)))))
  (.cons (.ite (.or (.cmp .NotEq (.bi .repr (.cons (.call (Str.ofString "number") 11 (.cons (.var 11) .nil)) .nil)) (.bi .repr (.cons (.tup (.cons (.tup (.cons (.tup .nil) (.cons (.var 11) .nil))) .nil)) .nil))) (.cmp .NotEq (.bi .repr (.cons (.call (Str.ofString "as_number") 13 (.cons (.call (Str.ofString "number") 11 (.cons (.var 11) .nil)) .nil)) .nil)) (.bi .repr (.cons (.var 11) .nil))))
  (.cons (.ret (.lit (.bool false)))
  .nil)
  .nil)
  (.cons (.ret (.and (.cmp .Eq (.bi .repr (.cons (.call (Str.ofString "letter") 12 (.cons (.var 12) (.cons (.var 13) .nil))) .nil)) (.bi .repr (.cons (.tup (.cons (.tup (.cons (.tup (.cons (.tup (.cons (.tup (.cons (.var 12) (.cons (.var 13) .nil))) (.cons (.lit (.int 1)) .nil))) .nil)) (.cons (.tup (.cons (.lit (.int 1)) (.cons (.lit (.int 1)) .nil))) .nil))) .nil)) .nil))) (.cmp .Is (.call (Str.ofString "as_number") 13 (.cons (.call (Str.ofString "letter") 12 (.cons (.var 12) (.cons (.var 13) .nil))) .nil)) (.lit .none))))
  .nil))))))))))))))
def n__law_turn_right : List Str := [Str.ofString "m", Str.ofString "p", Str.ofString "value", Str.ofString "turn", Str.ofString "whole", Str.ofString "found", Str.ofString "mono", Str.ofString "one", Str.ofString "e", Str.ofString "letters", Str.ofString "names", Str.ofString "f", Str.ofString "name", Str.ofString "k", Str.ofString "part"]
def b_law : MSs :=
  (.cons (.fr (.var 1) (.exp (.lst false (.cons (.lit .none) (.cons (.lit (.bool true)) (.cons (.lit (.int 0)) (.cons (.lit (.int 1)) (.cons (.lit (.str (Str.ofString "x"))) (.cons (.lit (.str (Str.ofString ""))) (.cons (.lst false .nil) (.cons (.tup .nil) (.cons (.tup (.cons (.tup .nil) .nil)) (.cons (.tup (.cons (.lit (.str (Str.ofString "x"))) (.cons (.lit (.int 0)) .nil))) (.cons (.tup (.cons (.lit (.str (Str.ofString "x"))) (.cons (.lit (.bool true)) .nil))) (.cons (.tup (.cons (.lit (.str (Str.ofString "x"))) (.cons (.neg (.lit (.int 1))) .nil))) (.cons (.tup (.cons (.tup (.cons (.lit (.str (Str.ofString "x"))) (.cons (.lit (.int 0)) .nil))) (.cons (.lit (.int 1)) .nil))) (.cons (.lst false (.cons (.lit (.str (Str.ofString "x"))) (.cons (.lit (.int 0)) .nil))) .nil))))))))))))))))
  (.cons (.ite (.not (.call (Str.ofString "_law_told_right") 38 (.cons (.var 1) .nil)))
  (.cons (.ret (.lit (.bool false)))
  .nil)
  .nil)
  .nil))
  (.cons (.ite (.or (.not (.call (Str.ofString "_law_told_right") 38 (.cons (.tup (.cons (.tup (.cons (.tup .nil) (.cons (.tup (.cons (.lit (.int 1)) (.cons (.lit (.int 1)) .nil))) .nil))) (.cons (.tup (.cons (.tup .nil) (.cons (.tup (.cons (.lit (.int 1)) (.cons (.lit (.int 1)) .nil))) .nil))) .nil))) .nil))) (.not (.call (Str.ofString "_law_told_right") 38 (.cons (.tup (.cons (.tup (.cons (.tup .nil) (.cons (.tup (.cons (.lit (.int 0)) (.cons (.lit (.int 1)) .nil))) .nil))) .nil)) .nil))))
  (.cons (.ret (.lit (.bool false)))
  .nil)
  .nil)
  (.cons (.asg (.var 2) (.bi .tuple (.cons (.lc false (.tup (.cons (.tup (.cons (.tup (.cons (.tup (.cons (.lit (.str (Str.ofString "x"))) (.cons (.lit (.int 0)) .nil))) (.cons (.var 4) .nil))) .nil)) (.cons (.tup (.cons (.lit (.int 1)) (.cons (.lit (.int 1)) .nil))) .nil))) (.var 4) (.rng (.cons (.lit (.int 1)) (.cons (.lit (.int 62)) .nil))) .nil [4]) .nil)))
  (.cons (.fr (.var 1) (.exp (.lst false (.cons (.tup (.cons (.lit (.str (Str.ofString "x"))) (.cons (.lit (.int 21)) .nil))) (.cons (.tup (.cons (.lit (.str (Str.ofString "x"))) (.cons (.bin .Pow (.lit (.int 10)) (.lit (.int 30))) .nil))) (.cons (.tup (.cons (.tup (.cons (.tup (.cons (.lit (.str (Str.ofString "x"))) (.cons (.lit (.int 0)) .nil))) (.cons (.lit (.int 13)) .nil))) .nil)) (.cons (.tup (.cons (.tup (.cons (.tup (.cons (.lit (.str (Str.ofString "x"))) (.cons (.lit (.int 25)) .nil))) (.cons (.bin .Pow (.lit (.int 10)) (.lit (.int 30))) .nil))) .nil)) (.cons (.var 2) (.cons (.bin .Add (.var 2) (.slc (.var 2) .none (.some (.lit (.int 1))))) .nil))))))))
  (.cons (.ite (.not (.call (Str.ofString "_law_told_right") 38 (.cons (.var 1) .nil)))
  (.cons (.ret (.lit (.bool false)))
  .nil)
  .nil)
  .nil))
  (.cons (.ite (.or (.cmp .NotEq (.bi .repr (.cons (.call (Str.ofString "number") 11 (.cons (.tup (.cons (.lit (.int 0)) (.cons (.lit (.int 1)) .nil))) .nil)) .nil)) (.lit (.str (Str.ofString "()")))) (.or (.cmp .NotEq (.bi .repr (.cons (.call (Str.ofString "as_number") 13 (.cons (.tup .nil) .nil)) .nil)) (.lit (.str (Str.ofString "(0, 1)")))) (.cmp .NotEq (.call (Str.ofString "letters_of") 14 (.cons (.tup .nil) .nil)) (.tup .nil))))
  (.cons (.ret (.lit (.bool false)))
  .nil)
  .nil)
  (.cons (.fr (.var 3) (.rng (.cons (.lit (.int 3)) .nil))
  (.cons (.ite (.not (.call (Str.ofString "_law_turn_right") 39 (.cons (.call (Str.ofString "_law_begun") 16 (.cons (.var 0) (.cons (.var 3) .nil))) .nil)))
  (.cons (.ret (.lit (.bool false)))
  .nil)
  .nil)
  .nil))
  (.cons (.ret (.lit (.bool true)))
  .nil)))))))
def n_law : List Str := [Str.ofString "script", Str.ofString "value", Str.ofString "great", Str.ofString "k", Str.ofString "e"]
def prog : List FDef := [⟨Str.ofString "letters_in", 1, 5, false, b_letters_in⟩,
  ⟨Str.ofString "is_integer", 1, 1, false, b_is_integer⟩,
  ⟨Str.ofString "is_whole", 1, 1, false, b_is_whole⟩,
  ⟨Str.ofString "is_fraction", 1, 1, false, b_is_fraction⟩,
  ⟨Str.ofString "is_name", 1, 2, false, b_is_name⟩,
  ⟨Str.ofString "is_letter", 1, 1, false, b_is_letter⟩,
  ⟨Str.ofString "is_power_of_letter", 1, 1, false, b_is_power_of_letter⟩,
  ⟨Str.ofString "ascends", 1, 2, false, b_ascends⟩,
  ⟨Str.ofString "is_monomial", 1, 2, false, b_is_monomial⟩,
  ⟨Str.ofString "is_term", 1, 1, false, b_is_term⟩,
  ⟨Str.ofString "is_polynomial", 1, 2, false, b_is_polynomial⟩,
  ⟨Str.ofString "number", 1, 1, false, b_number⟩,
  ⟨Str.ofString "letter", 2, 2, false, b_letter⟩,
  ⟨Str.ofString "as_number", 1, 1, false, b_as_number⟩,
  ⟨Str.ofString "letters_of", 1, 1, false, b_letters_of⟩,
  ⟨Str.ofString "names_of", 1, 5, false, b_names_of⟩,
  ⟨Str.ofString "_law_begun", 2, 6, true, b__law_begun⟩,
  ⟨Str.ofString "_law_draw", 2, 8, false, b__law_draw⟩,
  ⟨Str.ofString "_law_of", 2, 2, false, b__law_of⟩,
  ⟨Str.ofString "_law_gcd", 2, 2, false, b__law_gcd⟩,
  ⟨Str.ofString "_law_frac", 2, 3, false, b__law_frac⟩,
  ⟨Str.ofString "_law_fsum", 2, 2, false, b__law_fsum⟩,
  ⟨Str.ofString "_law_plus", 2, 5, false, b__law_plus⟩,
  ⟨Str.ofString "_law_mono", 2, 5, false, b__law_mono⟩,
  ⟨Str.ofString "_law_form", 1, 2, false, b__law_form⟩,
  ⟨Str.ofString "_law_is_int", 1, 1, false, b__law_is_int⟩,
  ⟨Str.ofString "_law_is_pair", 1, 1, false, b__law_is_pair⟩,
  ⟨Str.ofString "_law_is_frac", 1, 1, false, b__law_is_frac⟩,
  ⟨Str.ofString "_law_is_letter", 1, 3, false, b__law_is_letter⟩,
  ⟨Str.ofString "_law_is_mono", 1, 3, false, b__law_is_mono⟩,
  ⟨Str.ofString "_law_is_poly", 1, 4, false, b__law_is_poly⟩,
  ⟨Str.ofString "_law_name", 1, 4, false, b__law_name⟩,
  ⟨Str.ofString "_law_amount", 1, 2, false, b__law_amount⟩,
  ⟨Str.ofString "_law_fraction", 1, 2, false, b__law_fraction⟩,
  ⟨Str.ofString "_law_monomial", 2, 4, false, b__law_monomial⟩,
  ⟨Str.ofString "_law_drawn", 1, 5, false, b__law_drawn⟩,
  ⟨Str.ofString "_law_odd", 2, 5, false, b__law_odd⟩,
  ⟨Str.ofString "_law_spoilt", 3, 4, false, b__law_spoilt⟩,
  ⟨Str.ofString "_law_told_right", 1, 2, false, b__law_told_right⟩,
  ⟨Str.ofString "_law_turn_right", 1, 15, false, b__law_turn_right⟩,
  ⟨Str.ofString "law", 1, 5, false, b_law⟩]
abbrev f_letters_in : Nat := 0
abbrev f_is_integer : Nat := 1
abbrev f_is_whole : Nat := 2
abbrev f_is_fraction : Nat := 3
abbrev f_is_name : Nat := 4
abbrev f_is_letter : Nat := 5
abbrev f_is_power_of_letter : Nat := 6
abbrev f_ascends : Nat := 7
abbrev f_is_monomial : Nat := 8
abbrev f_is_term : Nat := 9
abbrev f_is_polynomial : Nat := 10
abbrev f_number : Nat := 11
abbrev f_letter : Nat := 12
abbrev f_as_number : Nat := 13
abbrev f_letters_of : Nat := 14
abbrev f_names_of : Nat := 15
abbrev f__law_begun : Nat := 16
abbrev f__law_draw : Nat := 17
abbrev f__law_of : Nat := 18
abbrev f__law_gcd : Nat := 19
abbrev f__law_frac : Nat := 20
abbrev f__law_fsum : Nat := 21
abbrev f__law_plus : Nat := 22
abbrev f__law_mono : Nat := 23
abbrev f__law_form : Nat := 24
abbrev f__law_is_int : Nat := 25
abbrev f__law_is_pair : Nat := 26
abbrev f__law_is_frac : Nat := 27
abbrev f__law_is_letter : Nat := 28
abbrev f__law_is_mono : Nat := 29
abbrev f__law_is_poly : Nat := 30
abbrev f__law_name : Nat := 31
abbrev f__law_amount : Nat := 32
abbrev f__law_fraction : Nat := 33
abbrev f__law_monomial : Nat := 34
abbrev f__law_drawn : Nat := 35
abbrev f__law_odd : Nat := 36
abbrev f__law_spoilt : Nat := 37
abbrev f__law_told_right : Nat := 38
abbrev f__law_turn_right : Nat := 39
abbrev f_law : Nat := 40
def top (i : Nat) : Stmt := PySem.Challenge.pw_ratesay_k00_forms_of_polynomials.main.body.getD i (.Pass ⟨0, 0, 0, 0⟩)
def rows : List Mi.Row := [⟨⟨(Str.ofString "letters_in", none), Str.ofString "letters_in", Str.ofString "letters_in", defArgs (top 2), defBody (top 2), defScope (top 2), [], []⟩, n_letters_in, [Str.ofString "p"]⟩,
  ⟨⟨(Str.ofString "is_integer", none), Str.ofString "is_integer", Str.ofString "is_integer", defArgs (top 7), defBody (top 7), defScope (top 7), [], []⟩, n_is_integer, [Str.ofString "value"]⟩,
  ⟨⟨(Str.ofString "is_whole", none), Str.ofString "is_whole", Str.ofString "is_whole", defArgs (top 8), defBody (top 8), defScope (top 8), [], []⟩, n_is_whole, [Str.ofString "value"]⟩,
  ⟨⟨(Str.ofString "is_fraction", none), Str.ofString "is_fraction", Str.ofString "is_fraction", defArgs (top 9), defBody (top 9), defScope (top 9), [], []⟩, n_is_fraction, [Str.ofString "value"]⟩,
  ⟨⟨(Str.ofString "is_name", none), Str.ofString "is_name", Str.ofString "is_name", defArgs (top 10), defBody (top 10), defScope (top 10), [], []⟩, n_is_name, [Str.ofString "value"]⟩,
  ⟨⟨(Str.ofString "is_letter", none), Str.ofString "is_letter", Str.ofString "is_letter", defArgs (top 11), defBody (top 11), defScope (top 11), [], []⟩, n_is_letter, [Str.ofString "value"]⟩,
  ⟨⟨(Str.ofString "is_power_of_letter", none), Str.ofString "is_power_of_letter", Str.ofString "is_power_of_letter", defArgs (top 12), defBody (top 12), defScope (top 12), [], []⟩, n_is_power_of_letter, [Str.ofString "value"]⟩,
  ⟨⟨(Str.ofString "ascends", none), Str.ofString "ascends", Str.ofString "ascends", defArgs (top 13), defBody (top 13), defScope (top 13), [], []⟩, n_ascends, [Str.ofString "rows"]⟩,
  ⟨⟨(Str.ofString "is_monomial", none), Str.ofString "is_monomial", Str.ofString "is_monomial", defArgs (top 14), defBody (top 14), defScope (top 14), [], []⟩, n_is_monomial, [Str.ofString "value"]⟩,
  ⟨⟨(Str.ofString "is_term", none), Str.ofString "is_term", Str.ofString "is_term", defArgs (top 15), defBody (top 15), defScope (top 15), [], []⟩, n_is_term, [Str.ofString "value"]⟩,
  ⟨⟨(Str.ofString "is_polynomial", none), Str.ofString "is_polynomial", Str.ofString "is_polynomial", defArgs (top 16), defBody (top 16), defScope (top 16), [], []⟩, n_is_polynomial, [Str.ofString "value"]⟩,
  ⟨⟨(Str.ofString "number", none), Str.ofString "number", Str.ofString "number", defArgs (top 17), defBody (top 17), defScope (top 17), [], []⟩, n_number, [Str.ofString "f"]⟩,
  ⟨⟨(Str.ofString "letter", none), Str.ofString "letter", Str.ofString "letter", defArgs (top 18), defBody (top 18), defScope (top 18), [], []⟩, n_letter, [Str.ofString "name", Str.ofString "k"]⟩,
  ⟨⟨(Str.ofString "as_number", none), Str.ofString "as_number", Str.ofString "as_number", defArgs (top 19), defBody (top 19), defScope (top 19), [], []⟩, n_as_number, [Str.ofString "p"]⟩,
  ⟨⟨(Str.ofString "letters_of", none), Str.ofString "letters_of", Str.ofString "letters_of", defArgs (top 20), defBody (top 20), defScope (top 20), [], []⟩, n_letters_of, [Str.ofString "p"]⟩,
  ⟨⟨(Str.ofString "names_of", none), Str.ofString "names_of", Str.ofString "names_of", defArgs (top 21), defBody (top 21), defScope (top 21), [], []⟩, n_names_of, [Str.ofString "p"]⟩,
  ⟨⟨(Str.ofString "_law_begun", none), Str.ofString "_law_begun", Str.ofString "_law_begun", defArgs (top 23), defBody (top 23), defScope (top 23), [], []⟩, n__law_begun, [Str.ofString "script", Str.ofString "k"]⟩,
  ⟨⟨(Str.ofString "_law_draw", none), Str.ofString "_law_draw", Str.ofString "_law_draw", defArgs (top 24), defBody (top 24), defScope (top 24), [], []⟩, n__law_draw, [Str.ofString "m", Str.ofString "below"]⟩,
  ⟨⟨(Str.ofString "_law_of", none), Str.ofString "_law_of", Str.ofString "_law_of", defArgs (top 25), defBody (top 25), defScope (top 25), [], []⟩, n__law_of, [Str.ofString "m", Str.ofString "some"]⟩,
  ⟨⟨(Str.ofString "_law_gcd", none), Str.ofString "_law_gcd", Str.ofString "_law_gcd", defArgs (top 26), defBody (top 26), defScope (top 26), [], []⟩, n__law_gcd, [Str.ofString "a", Str.ofString "b"]⟩,
  ⟨⟨(Str.ofString "_law_frac", none), Str.ofString "_law_frac", Str.ofString "_law_frac", defArgs (top 27), defBody (top 27), defScope (top 27), [], []⟩, n__law_frac, [Str.ofString "n", Str.ofString "d"]⟩,
  ⟨⟨(Str.ofString "_law_fsum", none), Str.ofString "_law_fsum", Str.ofString "_law_fsum", defArgs (top 28), defBody (top 28), defScope (top 28), [], []⟩, n__law_fsum, [Str.ofString "x", Str.ofString "y"]⟩,
  ⟨⟨(Str.ofString "_law_plus", none), Str.ofString "_law_plus", Str.ofString "_law_plus", defArgs (top 29), defBody (top 29), defScope (top 29), [], []⟩, n__law_plus, [Str.ofString "p", Str.ofString "q"]⟩,
  ⟨⟨(Str.ofString "_law_mono", none), Str.ofString "_law_mono", Str.ofString "_law_mono", defArgs (top 30), defBody (top 30), defScope (top 30), [], []⟩, n__law_mono, [Str.ofString "a", Str.ofString "b"]⟩,
  ⟨⟨(Str.ofString "_law_form", none), Str.ofString "_law_form", Str.ofString "_law_form", defArgs (top 31), defBody (top 31), defScope (top 31), [], []⟩, n__law_form, [Str.ofString "p"]⟩,
  ⟨⟨(Str.ofString "_law_is_int", none), Str.ofString "_law_is_int", Str.ofString "_law_is_int", defArgs (top 32), defBody (top 32), defScope (top 32), [], []⟩, n__law_is_int, [Str.ofString "value"]⟩,
  ⟨⟨(Str.ofString "_law_is_pair", none), Str.ofString "_law_is_pair", Str.ofString "_law_is_pair", defArgs (top 33), defBody (top 33), defScope (top 33), [], []⟩, n__law_is_pair, [Str.ofString "value"]⟩,
  ⟨⟨(Str.ofString "_law_is_frac", none), Str.ofString "_law_is_frac", Str.ofString "_law_is_frac", defArgs (top 34), defBody (top 34), defScope (top 34), [], []⟩, n__law_is_frac, [Str.ofString "value"]⟩,
  ⟨⟨(Str.ofString "_law_is_letter", none), Str.ofString "_law_is_letter", Str.ofString "_law_is_letter", defArgs (top 35), defBody (top 35), defScope (top 35), [], []⟩, n__law_is_letter, [Str.ofString "value"]⟩,
  ⟨⟨(Str.ofString "_law_is_mono", none), Str.ofString "_law_is_mono", Str.ofString "_law_is_mono", defArgs (top 36), defBody (top 36), defScope (top 36), [], []⟩, n__law_is_mono, [Str.ofString "value"]⟩,
  ⟨⟨(Str.ofString "_law_is_poly", none), Str.ofString "_law_is_poly", Str.ofString "_law_is_poly", defArgs (top 37), defBody (top 37), defScope (top 37), [], []⟩, n__law_is_poly, [Str.ofString "value"]⟩,
  ⟨⟨(Str.ofString "_law_name", none), Str.ofString "_law_name", Str.ofString "_law_name", defArgs (top 38), defBody (top 38), defScope (top 38), [], []⟩, n__law_name, [Str.ofString "m"]⟩,
  ⟨⟨(Str.ofString "_law_amount", none), Str.ofString "_law_amount", Str.ofString "_law_amount", defArgs (top 39), defBody (top 39), defScope (top 39), [], []⟩, n__law_amount, [Str.ofString "m"]⟩,
  ⟨⟨(Str.ofString "_law_fraction", none), Str.ofString "_law_fraction", Str.ofString "_law_fraction", defArgs (top 40), defBody (top 40), defScope (top 40), [], []⟩, n__law_fraction, [Str.ofString "m"]⟩,
  ⟨⟨(Str.ofString "_law_monomial", none), Str.ofString "_law_monomial", Str.ofString "_law_monomial", defArgs (top 41), defBody (top 41), defScope (top 41), [], []⟩, n__law_monomial, [Str.ofString "m", Str.ofString "names"]⟩,
  ⟨⟨(Str.ofString "_law_drawn", none), Str.ofString "_law_drawn", Str.ofString "_law_drawn", defArgs (top 42), defBody (top 42), defScope (top 42), [], []⟩, n__law_drawn, [Str.ofString "m"]⟩,
  ⟨⟨(Str.ofString "_law_odd", none), Str.ofString "_law_odd", Str.ofString "_law_odd", defArgs (top 43), defBody (top 43), defScope (top 43), [], []⟩, n__law_odd, [Str.ofString "m", Str.ofString "part"]⟩,
  ⟨⟨(Str.ofString "_law_spoilt", none), Str.ofString "_law_spoilt", Str.ofString "_law_spoilt", defArgs (top 44), defBody (top 44), defScope (top 44), [], []⟩, n__law_spoilt, [Str.ofString "m", Str.ofString "value", Str.ofString "room"]⟩,
  ⟨⟨(Str.ofString "_law_told_right", none), Str.ofString "_law_told_right", Str.ofString "_law_told_right", defArgs (top 45), defBody (top 45), defScope (top 45), [], []⟩, n__law_told_right, [Str.ofString "value"]⟩,
  ⟨⟨(Str.ofString "_law_turn_right", none), Str.ofString "_law_turn_right", Str.ofString "_law_turn_right", defArgs (top 46), defBody (top 46), defScope (top 46), [], []⟩, n__law_turn_right, [Str.ofString "m"]⟩,
  ⟨⟨(Str.ofString "law", none), Str.ofString "law", Str.ofString "law", defArgs (top 47), defBody (top 47), defScope (top 47), [], []⟩, n_law, [Str.ofString "script"]⟩]
def cs : List (Str × P) := [(Str.ofString "SMALL", (.str (Str.ofString "abcdefghijklmnopqrstuvwxyz"))), (Str.ofString "FIGURES", (.str (Str.ofString "0123456789"))), (Str.ofString "NOUGHT", (.tuple []))]
def G : Glo := ⟨prog, conOf cs, true⟩
end K00
/-! PlA: what is wanted of a run, backwards through the terms. -/
namespace Mi
open PySem L2
@[irreducible] def Rw {α : Type} (r : Res α) (Q : α → Hh → Prop) : Prop := match r with
  | .ok a h => Q a h
  | _ => False
@[irreducible] def Sw (r : SRes) (Qn : Sl → Hh → Prop) (Qr : D → Hh → Prop) : Prop := match r with
  | .nx σ h => Qn σ h
  | .rt d h => Qr d h
  | _ => False
theorem Rw.mono {α : Type} {r : Res α} {Q Q' : α → Hh → Prop} (x : Rw r Q) (k : ∀ a h, Q a h → Q' a h) : Rw r Q' := by
  with_unfolding_all
    cases r with
    | ok a h => exact k a h x
    | _ => exact x.elim
theorem Sw.mono {r : SRes} {Qn Qn' : Sl → Hh → Prop} {Qr Qr' : D → Hh → Prop} (x : Sw r Qn Qr) (k : ∀ a h, Qn a h → Qn' a h) (l : ∀ a h, Qr a h → Qr' a h) : Sw r Qn' Qr' := by
  with_unfolding_all
    cases r with
    | nx a h => exact k a h x
    | rt a h => exact l a h x
    | _ => exact x.elim
theorem Rw.eq {α : Type} {r : Res α} {a : α} {h : Hh} (x : Rw r fun b g => b = a ∧ g = h) : r = .ok a h := by
  with_unfolding_all
    cases r with
    | ok b g => have x' : b = a ∧ g = h := x; obtain ⟨rfl, rfl⟩ := x'; rfl
    | _ => exact x.elim
theorem Rw.ex {α : Type} {r : Res α} {Q : α → Hh → Prop} (x : Rw r Q) : ∃ a h, r = .ok a h ∧ Q a h := by
  with_unfolding_all
    cases r with
    | ok b g => exact ⟨b, g, rfl, x⟩
    | _ => exact x.elim
section
variable {α β : Type} {C : Calls} {σ : Sl} {h : Hh} {Q : D → Hh → Prop} {Qn : Sl → Hh → Prop} {Qr : D → Hh → Prop}
theorem rw_ok {a : α} {Q : α → Hh → Prop} : Rw (.ok a h) Q ↔ Q a h := by with_unfolding_all exact Iff.rfl
theorem rw_congr {α : Type} {r : Res α} {Q Q' : α → Hh → Prop} (e : ∀ a h, Q a h ↔ Q' a h) : Rw r Q ↔ Rw r Q' := by
  with_unfolding_all
    cases r <;> first | exact e _ _ | exact Iff.rfl
theorem rw_bad {Q : α → Hh → Prop} : Rw (.bad : Res α) Q ↔ False := by with_unfolding_all exact Iff.rfl
theorem rw_bind {r : Res α} {f : α → Hh → Res β} {Q : β → Hh → Prop} : Rw (r.bind f) Q ↔ Rw r fun a h => Rw (f a h) Q := by
  with_unfolding_all
    cases r <;> exact Iff.rfl
theorem rw_calm {r : Res α} {Q : α → Hh → Prop} : Rw r.calm Q ↔ Rw r Q := by
  with_unfolding_all
    cases r <;> exact Iff.rfl
theorem rw_if {c : Prop} [Decidable c] {a b : Res α} {Q : α → Hh → Prop} : Rw (if c then a else b) Q ↔ if c then Rw a Q else Rw b Q := by
  with_unfolding_all
    split <;> exact Iff.rfl
theorem rw_truth {r : Res D} {Q : Bool → Hh → Prop} : Rw (truth r) Q ↔ Rw r fun d h => ∃ b, d = .p (.bool b) ∧ Q b h := by
  with_unfolding_all
    cases r with
    | ok d h =>
      show Rw (truth (.ok d h)) Q ↔ ∃ b, d = .p (.bool b) ∧ Q b h
      constructor
      · intro x
        cases d with
        | r i => exact x.elim
        | p d =>
          cases d <;> first | exact ⟨_, rfl, x⟩ | exact x.elim
      · rintro ⟨b, rfl, q⟩
        exact q
    | _ => exact Iff.rfl
theorem rw_okP {o : Option P} : Rw (okP o h) Q ↔ ∃ d, o = some d ∧ Q (.p d) h := by
  with_unfolding_all
    cases o with
    | none => exact ⟨fun x => x.elim, fun ⟨_, e, _⟩ => nomatch e⟩
    | some d => exact ⟨fun x => ⟨d, rfl, x⟩, fun ⟨_, e, q⟩ => by cases e; exact q⟩
theorem rw_okB {o : Option Bool} : Rw (okB o h) Q ↔ ∃ d, o = some d ∧ Q (.p (.bool d)) h := by
  with_unfolding_all
    cases o with
    | none => exact ⟨fun x => x.elim, fun ⟨_, e, _⟩ => nomatch e⟩
    | some d => exact ⟨fun x => ⟨d, rfl, x⟩, fun ⟨_, e, q⟩ => by cases e; exact q⟩
theorem rw_opt {o : Option α} {f : α → Res β} {Q : β → Hh → Prop} : Rw (match o with | some a => f a | none => .bad) Q ↔ ∃ a, o = some a ∧ Rw (f a) Q := by
  with_unfolding_all
    cases o with
    | none => exact ⟨fun x => x.elim, fun ⟨_, e, _⟩ => nomatch e⟩
    | some d => exact ⟨fun x => ⟨d, rfl, x⟩, fun ⟨_, e, q⟩ => by cases e; exact q⟩
theorem rw_opt2 {γ : Type} {o : Option α} {o' : Option β} {f : α → β → Res γ} {Q : γ → Hh → Prop} : Rw (match o, o' with | some a, some b => f a b | _, _ => .bad) Q ↔ ∃ a, o = some a ∧ ∃ b, o' = some b ∧ Rw (f a b) Q := by
  with_unfolding_all
    cases o with
    | none => exact ⟨fun x => x.elim, fun ⟨_, e, _⟩ => nomatch e⟩
    | some d =>
      cases o' with
      | none => exact ⟨fun x => x.elim, fun ⟨_, _, _, e, _⟩ => nomatch e⟩
      | some b => exact ⟨fun x => ⟨d, rfl, b, rfl, x⟩, fun ⟨_, e, _, e', q⟩ => by cases e; cases e'; exact q⟩
theorem sw_nx {σ : Sl} : Sw (.nx σ h) Qn Qr ↔ Qn σ h := by with_unfolding_all exact Iff.rfl
theorem sw_rt {d : D} : Sw (.rt d h) Qn Qr ↔ Qr d h := by with_unfolding_all exact Iff.rfl
theorem sw_cases {r : SRes} (w : Sw r Qn Qr) : (∃ σ g, r = .nx σ g ∧ Qn σ g) ∨ ∃ d g, r = .rt d g ∧ Qr d g := by
  with_unfolding_all
    cases r with
    | nx σ g => exact .inl ⟨σ, g, rfl, w⟩
    | rt d g => exact .inr ⟨d, g, rfl, w⟩
    | _ => exact w.elim
theorem w_mk0 {ds : List P} : Rw (mk false (.list ds) h) Q ↔ Q (.p (.list ds)) h := by with_unfolding_all exact Iff.rfl
/-! the terms -/
theorem w_lit {d : P} : Rw (ev C (.lit d) σ h) Q ↔ Q (.p d) h := by with_unfolding_all (rw [ev]; exact Iff.rfl)
theorem w_con {x : Str} {d : P} : Rw (ev C (.con x d) σ h) Q ↔ Q (.p d) h := by with_unfolding_all (rw [ev]; exact Iff.rfl)
theorem w_var {i : Nat} : Rw (ev C (.var i) σ h) Q ↔ ∃ d, σ[i]? = some (some d) ∧ Q d h := by
  with_unfolding_all
    rw [ev]
    cases e : σ[i]? with
    | none => exact ⟨fun x => x.elim, fun ⟨_, e, _⟩ => nomatch e⟩
    | some o =>
      cases o with
      | none => exact ⟨fun x => x.elim, fun ⟨_, e, _⟩ => nomatch e⟩
      | some d => exact ⟨fun x => ⟨d, rfl, x⟩, fun ⟨_, e, q⟩ => by cases e; exact q⟩
theorem w_bin {o : Operator} {a b : ME} : Rw (ev C (.bin o a b) σ h) Q ↔ Rw (ev C a σ h) fun x h1 => Rw (ev C b σ h1) fun y h2 => ∃ p, peek x h2 = some p ∧ ∃ q, peek y h2 = some q ∧ ∃ d, binop o p q = some d ∧ Q (.p d) h2 := by
  with_unfolding_all
    rw [ev]; simp only [rw_bind]
    refine rw_congr fun x h1 => rw_congr fun y h2 => ?_
    cases peek x h2 <;> cases peek y h2 <;> simp [rw_okP, rw_okB, rw_ok, rw_bad]
theorem w_neg {a : ME} : Rw (ev C (.neg a) σ h) Q ↔ Rw (ev C a σ h) fun x h1 => ∃ i, x = .p (.int i) ∧ Q (.p (.int (-i))) h1 := by
  with_unfolding_all
    rw [ev, rw_bind]
    refine iff_of_eq (congrArg (Rw (ev C a σ h)) (funext fun x => funext fun h1 => propext ?_))
    constructor
    · intro q
      cases x with
      | r i => exact q.elim
      | p d => cases d <;> first | exact ⟨_, rfl, q⟩ | exact q.elim
    · rintro ⟨i, rfl, q⟩
      exact q
theorem w_not {a : ME} : Rw (ev C (.not a) σ h) Q ↔ Rw (ev C a σ h) fun d h1 => ∃ b, d = .p (.bool b) ∧ Q (.p (.bool (!b))) h1 := by
  with_unfolding_all
    rw [ev]; simp only [rw_bind, rw_truth, rw_ok]
theorem w_cmp {o : CmpOp} {a b : ME} : Rw (ev C (.cmp o a b) σ h) Q ↔ Rw (ev C a σ h) fun x h1 => Rw (ev C b σ h1) fun y h2 => ∃ p, peek x h2 = some p ∧ ∃ q, peek y h2 = some q ∧ ∃ d, cmpop o p q = some d ∧ Q (.p (.bool d)) h2 := by
  with_unfolding_all
    rw [ev]; simp only [rw_bind]
    refine rw_congr fun x h1 => rw_congr fun y h2 => ?_
    cases peek x h2 <;> cases peek y h2 <;> simp [rw_okP, rw_okB, rw_ok, rw_bad]
theorem w_chain {o o' : CmpOp} {a b c : ME} : Rw (ev C (.chain o o' a b c) σ h) Q ↔ Rw (ev C a σ h) fun x h1 => Rw (ev C b σ h1) fun y h2 => ∃ p, peek x h2 = some p ∧ ∃ q, peek y h2 = some q ∧ ∃ t, cmpop o p q = some t ∧
    if t = true then Rw (ev C c σ h2) fun z h3 => ∃ q, peek y h3 = some q ∧ ∃ r, peek z h3 = some r ∧ ∃ d, cmpop o' q r = some d ∧ Q (.p (.bool d)) h3 else Q (.p (.bool false)) h2 := by
  with_unfolding_all
    rw [ev]; simp only [rw_bind]
    refine rw_congr fun x h1 => rw_congr fun y h2 => ?_
    cases e1 : peek x h2 with
    | none => simp [rw_bad]
    | some p =>
      cases e2 : peek y h2 with
      | none => simp [rw_bad]
      | some q =>
        cases e3 : cmpop o p q with
        | none => simp [e3, rw_bad]
        | some t =>
          cases t with
          | false => simp [e3, rw_ok]
          | true =>
            simp only [e3, rw_bind, Option.some.injEq, exists_eq_left', if_true]
            refine rw_congr fun z h3 => ?_
            cases peek y h3 <;> cases peek z h3 <;> simp [rw_okP, rw_okB, rw_ok, rw_bad]
theorem w_and {a b : ME} : Rw (ev C (.and a b) σ h) Q ↔ Rw (ev C a σ h) fun d h1 => ∃ t, d = .p (.bool t) ∧ if t = true then Rw (ev C b σ h1) Q else Q (.p (.bool false)) h1 := by
  with_unfolding_all
    rw [ev]; simp only [rw_bind, rw_truth, rw_if, rw_ok]
theorem w_or {a b : ME} : Rw (ev C (.or a b) σ h) Q ↔ Rw (ev C a σ h) fun d h1 => ∃ t, d = .p (.bool t) ∧ if t = true then Q (.p (.bool true)) h1 else Rw (ev C b σ h1) Q := by
  with_unfolding_all
    rw [ev]; simp only [rw_bind, rw_truth, rw_if, rw_ok]
theorem w_ite {c a b : ME} : Rw (ev C (.ite c a b) σ h) Q ↔ Rw (ev C c σ h) fun d h1 => ∃ t, d = .p (.bool t) ∧ if t = true then Rw (ev C a σ h1) Q else Rw (ev C b σ h1) Q := by
  with_unfolding_all
    rw [ev]; simp only [rw_bind, rw_truth, rw_if, rw_ok]
theorem w_tup {es : MEs} : Rw (ev C (.tup es) σ h) Q ↔ Rw (evs C es σ h) fun ds h1 => ∃ q, frzs ds h1 = some q ∧ Q (.p (.tuple q.1)) q.2 := by
  with_unfolding_all
    rw [ev, rw_bind]
    refine rw_congr fun x h1 => ?_
    cases frzs x h1 <;> simp [rw_ok, rw_bad]
theorem w_lst {m : Bool} {es : MEs} : Rw (ev C (.lst m es) σ h) Q ↔ Rw (evs C es σ h) fun ds h1 => ∃ q, frzs ds h1 = some q ∧ Rw (mk m (.list q.1) q.2) Q := by
  with_unfolding_all
    rw [ev, rw_bind]
    refine rw_congr fun x h1 => ?_
    cases frzs x h1 <;> simp [rw_ok, rw_bad]
theorem w_idx {a b : ME} : Rw (ev C (.idx a b) σ h) Q ↔ Rw (ev C a σ h) fun x h1 => Rw (ev C b σ h1) fun y h2 => ∃ p, peek x h2 = some p ∧ ∃ q, peek y h2 = some q ∧ ∃ d, idxD p q = some d ∧ Q (.p d) h2 := by
  with_unfolding_all
    rw [ev]; simp only [rw_bind]
    refine rw_congr fun x h1 => rw_congr fun y h2 => ?_
    cases peek x h2 <;> cases peek y h2 <;> simp [rw_okP, rw_okB, rw_ok, rw_bad]
theorem w_slc {a : ME} {lo hi : MO} : Rw (ev C (.slc a lo hi) σ h) Q ↔ Rw (ev C a σ h) fun x h1 => Rw (evo C lo σ h1) fun l h2 => Rw (evo C hi σ h2) fun u h3 => ∃ p, peek x h3 = some p ∧ ∃ d, slcD p l u = some d ∧ Q (.p d) h3 := by
  with_unfolding_all
    rw [ev]; simp only [rw_bind]
    refine rw_congr fun x h1 => rw_congr fun l h2 => rw_congr fun u h3 => ?_
    cases peek x h3 <;> simp [rw_okP, rw_ok, rw_bad]
theorem w_onone {Q : Option Int → Hh → Prop} : Rw (evo C .none σ h) Q ↔ Q none h := by with_unfolding_all (rw [evo]; exact Iff.rfl)
theorem w_osome {a : ME} {Q : Option Int → Hh → Prop} : Rw (evo C (.some a) σ h) Q ↔ Rw (ev C a σ h) fun x h1 => ∃ i, x = .p (.int i) ∧ Q (some i) h1 := by
  with_unfolding_all
    rw [evo, rw_bind]
    refine iff_of_eq (congrArg (Rw (ev C a σ h)) (funext fun x => funext fun h1 => propext ?_))
    constructor
    · intro q
      cases x with
      | r i => exact q.elim
      | p d => cases d <;> first | exact ⟨_, rfl, q⟩ | exact q.elim
    · rintro ⟨i, rfl, q⟩
      exact q
theorem w_isi {a : ME} {t : Ty} : Rw (ev C (.isi a t) σ h) Q ↔ Rw (ev C a σ h) fun x h1 => ∃ p, peek x h1 = some p ∧ Q (.p (.bool (isTy t p))) h1 := by
  with_unfolding_all
    rw [ev]; simp only [rw_bind]
    refine rw_congr fun x h1 => ?_
    cases peek x h1 <;> simp [rw_okP, rw_ok, rw_bad]
theorem w_bi {b : Bi} {es : MEs} : Rw (ev C (.bi b es) σ h) Q ↔ Rw (evs C es σ h) fun ds h1 => ∃ ps, peeks ds h1 = some ps ∧ ∃ d, bi b ps = some d ∧ Q (.p d) h1 := by
  with_unfolding_all
    rw [ev]; simp only [rw_bind]
    refine rw_congr fun x h1 => ?_
    cases peeks x h1 <;> simp [rw_okP, rw_ok, rw_bad]
theorem w_call {f : Str} {k : Nat} {es : MEs} : Rw (ev C (.call f k es) σ h) Q ↔ Rw (evs C es σ h) fun ds h1 => Rw (C.call k ds h1) Q := by
  with_unfolding_all
    rw [ev]; simp only [rw_bind]
theorem w_nil {Q : List D → Hh → Prop} : Rw (evs C .nil σ h) Q ↔ Q [] h := by with_unfolding_all (rw [evs]; exact Iff.rfl)
theorem w_cons {a : ME} {r : MEs} {Q : List D → Hh → Prop} : Rw (evs C (.cons a r) σ h) Q ↔ Rw (ev C a σ h) fun x h1 => Rw (evs C r σ h1) fun xs h2 => Q (x :: xs) h2 := by
  with_unfolding_all
    rw [evs]; simp only [rw_bind, rw_ok]
/-! the statements -/
theorem s_nil : Sw (exs C .nil σ h) Qn Qr ↔ Qn σ h := by with_unfolding_all (rw [exs]; exact Iff.rfl)
theorem s_cons {a : MS} {r : MSs} : Sw (exs C (.cons a r) σ h) Qn Qr ↔ Sw (ex C a σ h) (fun σ1 h1 => Sw (exs C r σ1 h1) Qn Qr) Qr := by
  with_unfolding_all
    rw [exs]
    cases ex C a σ h <;> exact Iff.rfl
theorem s_asg {t : MT} {e : ME} : Sw (ex C (.asg t e) σ h) Qn Qr ↔ Rw (ev C e σ h) fun d h1 => ∃ σ1, asgD t d σ = some σ1 ∧ Qn σ1 h1 := by
  with_unfolding_all
    rw [ex]
    cases ev C e σ h with
    | ok d h1 =>
      dsimp only
      show _ ↔ ∃ σ1, asgD t d σ = some σ1 ∧ Qn σ1 h1
      cases asgD t d σ with
      | none => exact ⟨fun x => x.elim, fun ⟨_, e, _⟩ => nomatch e⟩
      | some d => exact ⟨fun x => ⟨d, rfl, x⟩, fun ⟨_, e, q⟩ => by cases e; exact q⟩
    | _ => exact Iff.rfl
theorem s_par {i j : Nat} {a b : ME} : Sw (ex C (.par i j a b) σ h) Qn Qr ↔ Rw (ev C a σ h) fun x h1 => Rw (ev C b σ h1) fun y h2 => (i < σ.length ∧ j < σ.length) ∧ Qn ((σ.set i (some x)).set j (some y)) h2 := by
  with_unfolding_all
    rw [ex]
    cases ev C a σ h with
    | ok x h1 =>
      show Sw (match (ev C b σ h1).bind fun y h2 => .ok (x, y) h2 with | .ok (x, y) h2 => _ | .err e h1 => _ | .bad => _) Qn Qr ↔ Rw (ev C b σ h1) _
      cases ev C b σ h1 with
      | ok y h2 =>
        show Sw (if _ then _ else _) Qn Qr ↔ _ ∧ _
        by_cases c : i < σ.length ∧ j < σ.length
        · rw [if_pos c]; exact ⟨fun q => ⟨c, q⟩, fun q => q.2⟩
        · rw [if_neg c]; exact ⟨fun q => q.elim, fun q => absurd q.1 c⟩
      | _ => exact Iff.rfl
    | _ => exact Iff.rfl
theorem s_put {o k e : ME} : Sw (ex C (.put o k e) σ h) Qn Qr ↔ Rw (ev C e σ h) fun z h1 => Rw (ev C o σ h1) fun x h2 => Rw (ev C k σ h2) fun y h3 => Sw (putD σ z x y h3) Qn Qr := by
  with_unfolding_all
    rw [ex]
    cases ev C e σ h with
    | ok z h1 =>
      show Sw (SRes.of ((ev C o σ h1).bind _) _) Qn Qr ↔ Rw (ev C o σ h1) _
      cases ev C o σ h1 with
      | ok x h2 =>
        show Sw (SRes.of ((ev C k σ h2).bind _) _) Qn Qr ↔ Rw (ev C k σ h2) _
        cases ev C k σ h2 <;> exact Iff.rfl
      | _ => exact Iff.rfl
    | _ => exact Iff.rfl
theorem s_exp {e : ME} : Sw (ex C (.exp e) σ h) Qn Qr ↔ Rw (ev C e σ h) fun _ h1 => Qn σ h1 := by
  with_unfolding_all
    rw [ex]
    cases ev C e σ h <;> exact Iff.rfl
theorem s_ret {e : ME} : Sw (ex C (.ret e) σ h) Qn Qr ↔ Rw (ev C e σ h) Qr := by
  with_unfolding_all
    rw [ex]
    cases ev C e σ h <;> exact Iff.rfl
theorem s_ite {c : ME} {a b : MSs} : Sw (ex C (.ite c a b) σ h) Qn Qr ↔ Rw (ev C c σ h) fun d h1 => ∃ t, d = .p (.bool t) ∧ if t = true then Sw (exs C a σ h1) Qn Qr else Sw (exs C b σ h1) Qn Qr := by
  with_unfolding_all
    rw [← rw_truth (Q := fun t h1 => if t = true then Sw (exs C a σ h1) Qn Qr else Sw (exs C b σ h1) Qn Qr)]
    rw [ex]
    cases truth (ev C c σ h) with
    | ok t h1 => cases t <;> exact Iff.rfl
    | _ => exact Iff.rfl
theorem s_fr {t : MT} {it : MI} {b : MSs} : Sw (ex C (.fr t it b) σ h) Qn Qr ↔ Rw (evi C it σ h) fun xs h1 => Sw (forLoop (fun x σ => asg t x σ) (fun σ h => exs C b σ h) xs σ h1) Qn Qr := by
  with_unfolding_all
    rw [ex]
    cases evi C it σ h <;> exact Iff.rfl
theorem s_whl {c : ME} {b : MSs} : Sw (ex C (.whl c b) σ h) Qn Qr ↔ Sw (whlLoop (fun σ h => truth (ev C c σ h)) (fun σ h => exs C b σ h) C.fuel σ h) Qn Qr := by
  with_unfolding_all
    rw [ex]
theorem s_pass : Sw (ex C .pass σ h) Qn Qr ↔ Qn σ h := by with_unfolding_all (rw [ex]; exact Iff.rfl)
/-! iteration -/
theorem w_iexp {a : ME} {Q : List P → Hh → Prop} : Rw (evi C (.exp a) σ h) Q ↔ Rw (ev C a σ h) fun x h1 => ∃ d, x = .p d ∧ ∃ xs, itP d = some xs ∧ Q xs h1 := by
  with_unfolding_all
    rw [evi, rw_bind]
    refine iff_of_eq (congrArg (Rw (ev C a σ h)) (funext fun x => funext fun h1 => propext ?_))
    cases x with
    | r i => exact ⟨fun q => q.elim, fun ⟨_, e, _⟩ => nomatch e⟩
    | p d =>
      cases e : itP d <;> simp [rw_ok, rw_bad, e]
theorem w_irng {es : MEs} {Q : List P → Hh → Prop} : Rw (evi C (.rng es) σ h) Q ↔ Rw (evs C es σ h) fun ds h1 => ∃ ps, peeks ds h1 = some ps ∧ ∃ xs, rngOf ps = some xs ∧ Q xs h1 := by
  with_unfolding_all
    rw [evi]; simp only [rw_bind]
    refine rw_congr fun x h1 => ?_
    cases peeks x h1 with
    | none => simp [rw_bad]
    | some ps => cases e : rngOf ps <;> simp [rw_ok, rw_bad, e]
theorem w_ienum {a : ME} {Q : List P → Hh → Prop} : Rw (evi C (.enum a) σ h) Q ↔ Rw (ev C a σ h) fun x h1 => ∃ ds, x = .p (.list ds) ∧ Q (enumP 0 ds) h1 := by
  with_unfolding_all
    rw [evi, rw_bind]
    refine iff_of_eq (congrArg (Rw (ev C a σ h)) (funext fun x => funext fun h1 => propext ?_))
    constructor
    · intro q
      cases x with
      | r i => exact q.elim
      | p d => cases d <;> first | exact ⟨_, rfl, q⟩ | exact q.elim
    · rintro ⟨i, rfl, q⟩
      exact q
/-- a for by an invariant: what is left of the list, the slots, the heap -/
theorem for_inv {asgn : P → Sl → Option Sl} {body : Sl → Hh → SRes} (I : List P → Sl → Hh → Prop) (step : ∀ x xs σ h, I (x :: xs) σ h → ∃ σ1, asgn x σ = some σ1 ∧ Sw (body σ1 h) (fun σ2 h2 => I xs σ2 h2) Qr) (fin : ∀ σ h, I [] σ h → Qn σ h) :
    ∀ (xs : List P) (σ : Sl) (h : Hh), I xs σ h → Sw (forLoop asgn body xs σ h) Qn Qr
  | [], σ, h, i => by with_unfolding_all (unfold forLoop; exact fin σ h i)
  | x :: xs, σ, h, i => by
    with_unfolding_all
      obtain ⟨σ1, e, w⟩ := step x xs σ h i
      unfold forLoop
      rw [e]
      dsimp only
      cases eb : body σ1 h with
      | nx σ2 h2 => rw [eb] at w; exact for_inv I step fin xs σ2 h2 w
      | rt d h2 => rw [eb] at w; exact w
      | _ => rw [eb] at w; exact w.elim
/-- a while by a measure -/
theorem whl_inv {tst : Sl → Hh → Res Bool} {body : Sl → Hh → SRes} (I : Nat → Sl → Hh → Prop) (step : ∀ n σ h, I n σ h → Rw (tst σ h) fun b h1 => if b = true then ∃ m, n = m + 1 ∧ Sw (body σ h1) (fun σ2 h2 => I m σ2 h2) Qr else Qn σ h1) :
    ∀ (fuel n : Nat) (σ : Sl) (h : Hh), n < fuel → I n σ h → Sw (whlLoop tst body fuel σ h) Qn Qr
  | 0, n, σ, h, l, _ => absurd l (Nat.not_lt_zero _)
  | fuel + 1, n, σ, h, l, i => by
    with_unfolding_all
      have w := step n σ h i
      unfold whlLoop
      cases et : tst σ h with
      | ok b h1 =>
        rw [et] at w
        cases b with
        | false => exact w
        | true =>
          obtain ⟨m, rfl, w⟩ : ∃ m, n = m + 1 ∧ Sw (body σ h1) (fun σ2 h2 => I m σ2 h2) Qr := w
          dsimp only
          cases eb : body σ h1 with
          | nx σ2 h2 => rw [eb] at w; exact whl_inv I step fuel m σ2 h2 (by omega) w
          | rt d h2 => rw [eb] at w; exact w
          | _ => rw [eb] at w; exact w.elim
      | _ => rw [et] at w; exact w.elim
/-! calls -/
def finD (m : Bool) (n : Nat) (d : D) (h : Hh) : Res D := fin m n (.rt d h)
theorem rw_fin {m : Bool} {n : Nat} {r : SRes} : Rw (fin m n r) Q ↔ Sw r (fun _ h => Q (.p .none) (h.take n)) fun d h => Rw (finD m n d h) Q := by
  with_unfolding_all
    cases r <;> exact Iff.rfl
theorem finD_p {m : Bool} {n : Nat} {d : P} : Rw (finD m n (.p d) h) Q ↔ Q (.p d) (h.take n) := by with_unfolding_all exact Iff.rfl
theorem rw_callN {prog : List FDef} {fuel k f : Nat} {ds : List D} {F : FDef} (e : prog[f]? = some F) (l : ds.length = F.np) :
    Rw (callN prog fuel (k + 1) f ds h) Q ↔ Sw (exs ⟨callN prog fuel k, fuel⟩ F.body (ds.map some ++ List.replicate (F.ns - F.np) none) h) (fun _ g => Q (.p .none) (g.take h.length)) fun d g => Rw (finD F.mr h.length d g) Q := by
  with_unfolding_all
    rw [callN, e]
    simp only [l, if_true]
    exact rw_fin
end
end Mi
/-! PlB: list comprehensions, wanted backwards. -/
namespace Mi
open PySem L2
section
variable {C : Calls} {σ : Sl} {h : Hh} {Q : D → Hh → Prop}
theorem lc_loop {asgn : P → Sl → Option Sl} {tst : Sl → Hh → Res Bool} {elt : Sl → Hh → Res D} {n : Nat} {QQ : Unit → Hh → Prop} (I : List P → List P → Hh → Prop)
    (step : ∀ x xs acc g, g.length = n → I (x :: xs) acc g → ∃ σ1, asgn x σ = some σ1 ∧ Rw (tst σ1 (g ++ [.lst acc])) fun b h1 => if b = true then Rw (elt σ1 h1) fun d h2 => ∃ p, d = .p p ∧ ∃ g', h2 = g' ++ [.lst acc] ∧ g'.length = n ∧ acc.length < 16000000 ∧ I xs (acc ++ [p]) g' else ∃ g', h1 = g' ++ [.lst acc] ∧ g'.length = n ∧ I xs acc g')
    (fin : ∀ acc g, g.length = n → I [] acc g → QQ () (g ++ [.lst acc])) :
    ∀ (xs acc : List P) (g : Hh), g.length = n → I xs acc g → Rw (lcLoop asgn tst elt n σ xs (g ++ [.lst acc])) QQ
  | [], acc, g, hl, i => by with_unfolding_all (unfold lcLoop; exact fin acc g hl i)
  | x :: xs, acc, g, hl, i => by
    with_unfolding_all
      obtain ⟨σ1, e, w⟩ := step x xs acc g hl i
      unfold lcLoop
      rw [e]
      dsimp only
      rw [rw_bind, rw_calm]
      refine w.mono fun b h1 w1 => ?_
      cases b with
      | false =>
        rw [if_neg (by decide)] at w1
        obtain ⟨g', rfl, hl', i'⟩ := w1
        exact lc_loop I step fin xs acc g' hl' i'
      | true =>
        simp only [if_true] at w1 ⊢
        rw [rw_bind, rw_calm]
        refine w1.mono fun d h2 w2 => ?_
        obtain ⟨p, rfl, g', rfl, hl', ha, i'⟩ := w2
        simp only [frz]
        have e1 : (g' ++ [Cell.lst acc])[n]? = some (.lst acc) := by rw [List.getElem?_append_right (by omega)]; simp [hl']
        have e2 : (g' ++ [Cell.lst acc]).set n (.lst (acc ++ [p])) = g' ++ [.lst (acc ++ [p])] := by
          rw [List.set_append_right _ _ (by omega)]
          simp [hl']
        rw [e1]
        simp only [ha, if_true, e2]
        exact lc_loop I step fin xs (acc ++ [p]) g' hl' i'
theorem w_lc {m : Bool} {e : ME} {t : MT} {it : MI} {ifs : MEs} {vs : List Nat} (w : Rw (evi C it σ h) fun xs h1 => ∃ I : List P → List P → Hh → Prop, I xs [] h1 ∧
    (∀ x xs acc g, g.length = h1.length → I (x :: xs) acc g → ∃ σ1, asg t x (wip σ vs) = some σ1 ∧ Rw (evt C ifs σ1 (g ++ [.lst acc])) fun b h2 => if b = true then Rw (ev C e σ1 h2) fun d h3 => ∃ p, d = .p p ∧ ∃ g', h3 = g' ++ [.lst acc] ∧ g'.length = h1.length ∧ acc.length < 16000000 ∧ I xs (acc ++ [p]) g' else ∃ g', h2 = g' ++ [.lst acc] ∧ g'.length = h1.length ∧ I xs acc g') ∧
    ∀ acc g, g.length = h1.length → I [] acc g → if m = true then Q (.r h1.length) (g ++ [.lst acc]) else Q (.p (.list acc)) g) : Rw (ev C (.lc m e t it ifs vs) σ h) Q := by
  with_unfolding_all
    rw [ev, rw_bind]
    refine w.mono fun xs h1 ⟨I, i0, step, fin⟩ => ?_
    rw [rw_bind]
    refine lc_loop I step (fun acc g hl i => ?_) xs [] h1 rfl i0
    have f := fin acc g hl i
    unfold lcEnd
    have e1 : (g ++ [Cell.lst acc])[h1.length]? = some (.lst acc) := by rw [List.getElem?_append_right (by omega)]; simp [hl]
    rw [e1]
    cases m with
    | true => exact f
    | false =>
      show Q (.p (.list acc)) ((g ++ [Cell.lst acc]).take h1.length)
      rw [← hl, List.take_left]
      exact f
theorem w_tnil {Q : Bool → Hh → Prop} : Rw (evt C .nil σ h) Q ↔ Q true h := by with_unfolding_all (rw [evt]; exact Iff.rfl)
theorem w_tcons {a : ME} {r : MEs} {Q : Bool → Hh → Prop} : Rw (evt C (.cons a r) σ h) Q ↔ Rw (ev C a σ h) fun d h1 => ∃ b, d = .p (.bool b) ∧ if b = true then Rw (evt C r σ h1) Q else Q false h1 := by
  with_unfolding_all
    rw [evt]; simp only [rw_bind, rw_truth, rw_if, rw_ok]
/-- a comprehension without tests whose element is a function of the item and leaves the heap alone -/
theorem w_lcmap {α : Type} {e : ME} {t : MT} {it : MI} {vs : List Nat} (g f : α → P) (w : Rw (evi C it σ h) fun xs h1 => ∃ l : List α, xs = l.map g ∧ l.length ≤ 16000000 ∧ (∀ a ∈ l, ∃ σ1, asg t (g a) (wip σ vs) = some σ1 ∧ ∀ acc, ∀ Q' : D → Hh → Prop, Q' (.p (f a)) (h1 ++ [.lst acc]) → Rw (ev C e σ1 (h1 ++ [.lst acc])) Q') ∧ Q (.p (.list (l.map f))) h1) :
    Rw (ev C (.lc false e t it .nil vs) σ h) Q := by
  with_unfolding_all
    refine w_lc (w.mono fun xs h1 ⟨l, ex, hl, hx, q⟩ => ?_)
    subst ex
    refine ⟨fun rest acc g' => g' = h1 ∧ ∃ pre post, l = pre ++ post ∧ rest = post.map g ∧ acc = pre.map f, ⟨rfl, [], l, rfl, rfl, rfl⟩, ?_, ?_⟩
    · rintro x rest acc g' hg ⟨rfl, pre, post, rfl, e0, rfl⟩
      cases post with
      | nil => cases e0
      | cons a post =>
        rw [List.map_cons] at e0
        injection e0 with e0 e00
        subst e0
        subst e00
        obtain ⟨σ1, e1, w1⟩ := hx a (by simp)
        refine ⟨σ1, e1, w_tnil.mpr ?_⟩
        rw [if_pos rfl]
        refine w1 _ _ ⟨f a, rfl, g', rfl, rfl, ?_, rfl, pre ++ [a], post, by simp, rfl, by simp⟩
        rw [List.length_map]
        rw [List.length_append, List.length_cons] at hl
        omega
    · rintro acc g' hg ⟨rfl, pre, post, rfl, e0, rfl⟩
      rw [if_neg (by decide)]
      have : post = [] := by cases post with
        | nil => rfl
        | cons a b => cases e0
      subst this
      simpa using q
end
end Mi
namespace Mi
open PySem L2
theorem call_eq {prog : List FDef} {fuel k f : Nat} {ds : List D} {h : Hh} {F : FDef} (e : prog[f]? = some F) (l : ds.length = F.np) :
    callN prog fuel (k + 1) f ds h = fin F.mr h.length (exs ⟨callN prog fuel k, fuel⟩ F.body (ds.map some ++ List.replicate (F.ns - F.np) none) h) := by
  rw [callN, e]
  simp only [l, if_true]
end Mi
namespace K00
open PySem L2 Mi
def isInt (v : P) : Bool := match v with
  | .int _ => true
  | _ => false
theorem e_is_integer (k : Nat) (v : P) (h : Hh) : callN prog 5000 (k + 1) 1 [.p v] h = .ok (.p (.bool (isInt v))) h := by
  rw [call_eq (F := prog[1]) rfl rfl]
  show fin false h.length (exs _ b_is_integer [some (D.p v)] h) = _
  cases v <;> simp [b_is_integer, exs, ex, ev, truth, Res.bind, peek, isTy, fin, isInt]
theorem e_is_whole (k : Nat) (v : P) (h : Hh) : callN prog 5000 (k + 2) 2 [.p v] h = .ok (.p (.bool (match v with | .int i => decide (0 ≤ i) | _ => false))) h := by
  rw [call_eq (F := prog[2]) rfl rfl]
  show fin false h.length (exs _ b_is_whole [some (D.p v)] h) = _
  cases v <;> simp [b_is_whole, exs, ex, ev, evs, truth, Res.bind, peek, isTy, fin, e_is_integer, isInt, okB, cmpop]
end K00
namespace Mi
open PySem L2
/-- the drawing machine -/
def mk4 (l sd sp : Int) (cs : List Int) : List (P × P) := [(.str (Str.ofString "left"), .int l), (.str (Str.ofString "seed"), .int sd), (.str (Str.ofString "cells"), .list (cs.map .int)), (.str (Str.ofString "spot"), .int sp)]
theorem str_ne {a b : Str} (h : (a == b) = false) : (decide (a = b)) = false := by
  rw [decide_eq_false_iff_not]; intro e; subst e; simp at h
section
variable {l sd sp x : Int} {cs : List Int}
theorem n1 : (Str.ofString "left" == Str.ofString "seed") = false := by decide +kernel
theorem n2 : (Str.ofString "left" == Str.ofString "cells") = false := by decide +kernel
theorem n3 : (Str.ofString "left" == Str.ofString "spot") = false := by decide +kernel
theorem n4 : (Str.ofString "seed" == Str.ofString "cells") = false := by decide +kernel
theorem n5 : (Str.ofString "seed" == Str.ofString "spot") = false := by decide +kernel
theorem n6 : (Str.ofString "cells" == Str.ofString "spot") = false := by decide +kernel
theorem n1' : (Str.ofString "seed" == Str.ofString "left") = false := by decide +kernel
theorem n2' : (Str.ofString "cells" == Str.ofString "left") = false := by decide +kernel
theorem n3' : (Str.ofString "spot" == Str.ofString "left") = false := by decide +kernel
theorem n4' : (Str.ofString "cells" == Str.ofString "seed") = false := by decide +kernel
theorem n5' : (Str.ofString "spot" == Str.ofString "seed") = false := by decide +kernel
theorem n6' : (Str.ofString "spot" == Str.ofString "cells") = false := by decide +kernel
theorem ki (y : Str) : keyIn (mk4 l sd sp cs) (.str y) = true := rfl
theorem ix_left : idxD (.dict (mk4 l sd sp cs)) (.str (Str.ofString "left")) = some (.int l) := by
  simp [idxD, ki]; simp [mk4, dget, PyData.eqv]
theorem ix_seed : idxD (.dict (mk4 l sd sp cs)) (.str (Str.ofString "seed")) = some (.int sd) := by
  simp [idxD, ki]; simp [mk4, dget, PyData.eqv, n1]
theorem ix_cells : idxD (.dict (mk4 l sd sp cs)) (.str (Str.ofString "cells")) = some (.list (cs.map .int)) := by
  simp [idxD, ki]; simp [mk4, dget, PyData.eqv, n2, n4]
theorem ix_spot : idxD (.dict (mk4 l sd sp cs)) (.str (Str.ofString "spot")) = some (.int sp) := by
  simp [idxD, ki]; simp [mk4, dget, PyData.eqv, n3, n5, n6]
theorem pt_left : dput (mk4 l sd sp cs) (.str (Str.ofString "left")) (.int x) = mk4 x sd sp cs := by
  simp [mk4, dput, PyData.eqv, n1', n2', n3']
theorem pt_spot : dput (mk4 l sd sp cs) (.str (Str.ofString "spot")) (.int x) = mk4 l sd x cs := by
  simp [mk4, dput, PyData.eqv, n3, n5, n6]
end
structure MOk (c : Cell) (n : Nat) : Prop where
  ex : ∃ l sd sp cs, c = .dct (mk4 l sd sp cs) ∧ 0 ≤ l ∧ 0 ≤ sd ∧ sd < 2147483648 ∧ 0 ≤ sp ∧ sp ≤ n ∧ cs ≠ []
theorem peek_dct {h : Hh} {i : Nat} {kvs : List (P × P)} (e : h[i]? = some (.dct kvs)) : peek (.r i) h = some (.dict kvs) := by simp only [peek, e]
theorem peek_p {h : Hh} {d : P} : peek (.p d) h = some d := rfl
theorem put_dct {σ : Sl} {h : Hh} {i : Nat} {kvs : List (P × P)} {k v : P} {Qn : Sl → Hh → Prop} {Qr : D → Hh → Prop} (e : h[i]? = some (.dct kvs)) (hk : keyIn kvs k = true) (hl : kvs.length < 16000000) (q : Qn σ (h.set i (.dct (dput kvs k v)))) : Sw (putD σ (.p v) (.r i) (.p k) h) Qn Qr := by
  unfold putD
  simp only [frz, e]
  rw [if_pos (by rw [hk]; simpa using hl)]
  exact sw_nx.mpr q
theorem int_in {i : Int} {cs : List Int} (h0 : 0 ≤ i) (hl : i < cs.length) : ∃ c, idxD (.list (cs.map PyData.int)) (.int i) = some (.int c) := by
  obtain ⟨n, rfl⟩ : ∃ n : Nat, i = n := ⟨i.toNat, by omega⟩
  have hn : n < cs.length := by omega
  refine ⟨cs[n], ?_⟩
  simp [idxD, atI, ixN, hn]
section
variable {i j : Int}
theorem o_add : binop .Add (.int i) (.int j) = some (.int (i + j)) := rfl
theorem o_sub : binop .Sub (.int i) (.int j) = some (.int (i - j)) := rfl
theorem o_mul1 (h1 : -9223372036854775808 < i) (h2 : i < 9223372036854775808) : binop .Mult (.int i) (.int j) = some (.int (i * j)) := by
  have : mulOk i j = true := by
    unfold mulOk
    rw [Bool.or_eq_true, Bool.or_eq_true]
    exact .inl (.inl (decide_eq_true (by omega)))
  simp only [binop, this, if_true]
theorem o_mul2 (h1 : -9223372036854775808 < j) (h2 : j < 9223372036854775808) : binop .Mult (.int i) (.int j) = some (.int (i * j)) := by
  have : mulOk i j = true := by
    unfold mulOk
    rw [Bool.or_eq_true, Bool.or_eq_true]
    exact .inl (.inr (decide_eq_true (by omega)))
  simp only [binop, this, if_true]
theorem o_mod (h : 0 < j) : binop .Mod (.int i) (.int j) = some (.int (i % j)) := by
  have e : ¬ j = 0 := by omega
  simp only [binop, e, if_false, Option.some.injEq, PyData.int.injEq]
  exact Int.fmod_eq_emod_of_nonneg _ (by omega)
theorem o_div (h : divOk j = true) : binop .FloorDiv (.int i) (.int j) = some (.int (i / j)) := by
  simp only [binop, h, if_true]
theorem c_gt : cmpop .Gt (.int i) (.int j) = some (decide (j < i)) := rfl
theorem bi_int : Mi.bi .int [.int i] = some (.int i) := rfl
theorem bi_lenl {ds : List P} : Mi.bi .len [.list ds] = some (.int ds.length) := rfl
theorem as_var {i : Nat} {d : D} {σ : Sl} (h : i < σ.length) : asgD (.var i) d σ = some (σ.set i (some d)) := by
  show (if _ then _ else _) = _
  rw [if_pos h]
end
end Mi
namespace K00
open PySem L2 Mi
theorem w_draw {k n i : Nat} {h : Hh} {c : Cell} {b : Int} {Q : D → Hh → Prop} (hi : h[i]? = some c) (m : MOk c n) (hn : n < 2 ^ 60) (hb : 0 < b) (hd : divOk b = true)
    (q : ∀ r c', 0 ≤ r → r < b → MOk c' (n + 1) → Q (.p (.int r)) (h.set i c')) : Rw (callN prog 5000 (k + 1) f__law_draw [.r i, .p (.int b)] h) Q := by
  obtain ⟨l, sd, sp, cs, rfl, h1, h2, h3, h4, h5, h6⟩ := m.ex
  rw [rw_callN (F := prog[f__law_draw]) rfl rfl]
  show Sw (exs _ b__law_draw [some (.r i), some (.p (.int b)), none, none, none, none, none, none] h) _ _
  unfold b__law_draw
  rw [s_cons, s_ite, w_cmp, w_idx, w_var]
  simp only [w_var, w_lit, List.getElem?_cons_zero, List.getElem?_cons_succ, Option.some.injEq, exists_eq_left', peek_p, peek_dct hi, ix_left]
  have hlen : i < h.length := (List.getElem?_eq_some_iff.mp hi).1
  have hs : ∀ c, (h.set i c)[i]? = some c := fun c => by rw [List.getElem?_set_self hlen]
  by_cases hl : 0 < l
  · simp only [c_gt, hl, decide_true, Option.some.injEq, exists_eq_left', D.p.injEq, PyData.bool.injEq, if_true]
    simp only [s_cons, s_asg, w_bin, w_bi, w_cons, w_idx, w_var, w_lit, w_nil, List.getElem?_cons_zero, List.getElem?_cons_succ, Option.some.injEq, exists_eq_left', peek_p, peek_dct hi, ix_left, peeks, bi_int, o_mod hb, o_div hd, as_var, List.length_cons, List.length_nil, Nat.reduceAdd, Nat.reduceLT, if_true, List.set_cons_succ, List.set_cons_zero, s_put, s_ret]
    refine put_dct hi (ki _) (by simp [mk4]) ?_
    refine ⟨_, rfl, finD_p.mpr ?_⟩
    rw [pt_left, List.take_of_length_le (by rw [List.length_set]; exact Nat.le_refl _)]
    exact q _ _ (Int.emod_nonneg _ (by omega)) (Int.emod_lt_of_pos _ hb) ⟨_, _, _, _, rfl, Int.ediv_nonneg h1 (by omega), h2, h3, h4, by omega, h6⟩
  · have l0 : l = 0 := by omega
    subst l0
    simp only [c_gt, hl, decide_false, Option.some.injEq, exists_eq_left', D.p.injEq, PyData.bool.injEq, Bool.false_eq_true, if_false, s_nil]
    simp only [s_cons, s_asg, w_bin, w_bi, w_cons, w_idx, w_var, w_lit, w_nil, List.getElem?_cons_zero, List.getElem?_cons_succ, Option.some.injEq, exists_eq_left', peek_p, peek_dct hi, ix_spot, peeks, bi_int, o_mod hb, o_div hd, as_var, List.length_cons, List.length_nil, Nat.reduceAdd, Nat.reduceLT, if_true, List.set_cons_succ, List.set_cons_zero, s_put, o_add]
    refine put_dct hi (ki _) (by simp [mk4]) ?_
    rw [pt_spot]
    have hi2 := hs (.dct (mk4 0 sd (sp + 1) cs))
    have hln : 0 < cs.length := List.length_pos_iff.mpr h6
    obtain ⟨c, hc⟩ := int_in (cs := cs) (i := sp % cs.length) (Int.emod_nonneg _ (by omega)) (Int.emod_lt_of_pos _ (by omega))
    have z2 : ∀ x : Int, 0 ≤ x % 2147483647 ∧ x % 2147483647 < 2147483647 := fun x => ⟨Int.emod_nonneg _ (by decide), Int.emod_lt_of_pos _ (by decide)⟩
    have z3 : ∀ x : Int, 0 ≤ x % 2147483629 ∧ x % 2147483629 < 2147483629 := fun x => ⟨Int.emod_nonneg _ (by decide), Int.emod_lt_of_pos _ (by decide)⟩
    have hn' : (n : Int) < 1152921504606846976 := by omega
    simp only [s_cons, s_asg, s_par, w_bin, w_bi, w_cons, w_idx, w_var, w_lit, w_nil, List.getElem?_cons_zero, List.getElem?_cons_succ, Option.some.injEq, exists_eq_left', peek_p, peek_dct hi2, ix_spot, ix_cells, ix_seed, peeks, bi_int, bi_lenl, as_var, List.length_cons, List.length_nil, Nat.reduceAdd, Nat.reduceLT, if_true, List.set_cons_succ, List.set_cons_zero, o_add, and_self, true_and, List.length_map]
    simp (disch := omega) only [o_mul2, o_mod, o_add, hc, bi_int, Option.some.injEq, exists_eq_left']
    have e11 : divOk 11 = true := by decide +kernel
    generalize ((c * (2 * sp + 3) + (sd + 40503 * sp * sp)) % 2147483647) = y at *
    simp (disch := omega) only [s_ret, w_bin, w_bi, w_cons, w_idx, w_var, w_lit, w_nil, List.getElem?_cons_zero, List.getElem?_cons_succ, Option.some.injEq, exists_eq_left', peek_p, peeks, bi_int, o_mul2, o_mod, o_add, o_div e11, finD_p]
    rw [List.take_of_length_le (by rw [List.length_set]; exact Nat.le_refl _)]
    exact q _ _ (Int.emod_nonneg _ (by omega)) (Int.emod_lt_of_pos _ hb) ⟨_, _, _, _, rfl, by omega, h2, h3, by omega, by omega, h6⟩
end K00
namespace Mi
open PySem L2
section
variable {i j : Int}
theorem c_ne : cmpop .NotEq (.int i) (.int j) = some (!decide (i = j)) := by
  show (eqD (.int i) (.int j)).map (!·) = _
  unfold eqD
  have e : (shp (.int i) && shp (.int j)) = true := rfl
  simp only [e, if_true, Option.map_some, PyData.eqv]
  rfl
theorem bi_abs : Mi.bi .abs [.int i] = some (.int i.natAbs) := rfl
end
/-- a pair from which Euclid's loop is over within n turns -/
def Euc (n x y : Nat) : Prop := y = 0 ∨ ∃ m, n = m + 1 ∧ y * (x % y) < 2 ^ m
theorem euc_next {n x y : Nat} (h : Euc n x y) (hy : y ≠ 0) : ∃ m, n = m + 1 ∧ Euc m y (x % y) := by
  rcases h with h | ⟨m, rfl, h⟩
  · exact absurd h hy
  · refine ⟨m, rfl, ?_⟩
    by_cases hr : x % y = 0
    · exact .inl hr
    · refine .inr ?_
      have l1 : x % y < y := Nat.mod_lt _ (by omega)
      generalize x % y = r at *
      have l2 : y % r < r := Nat.mod_lt _ (by omega)
      have l3 : r + y % r ≤ y := by
        have e := Nat.div_add_mod y r
        have : 1 ≤ y / r := (Nat.one_le_div_iff (by omega)).mpr (by omega)
        have : r * 1 ≤ r * (y / r) := Nat.mul_le_mul_left _ this
        omega
      have l4 : r * (y % r) * 2 < y * r := by
        have : r * (y % r) * 2 < r * y := by
          have a : (y % r) * 2 < y := by omega
          rw [Nat.mul_assoc]
          exact Nat.mul_lt_mul_of_pos_left a (by omega)
        rw [Nat.mul_comm y r]; exact this
      cases m with
      | zero => simp at h; omega
      | succ m => exact ⟨m, rfl, by rw [Nat.pow_succ] at h; omega⟩
theorem euc_start {B x y : Nat} (h : y < 2 ^ B) : Euc (2 * B + 1) x y := by
  by_cases hy : y = 0
  · exact .inl hy
  · refine .inr ⟨2 * B, rfl, ?_⟩
    have a : x % y < y := Nat.mod_lt _ (by omega)
    have b : y * (x % y) < y * y := Nat.mul_lt_mul_of_pos_left a (by omega)
    have c : y * y < 2 ^ B * 2 ^ B := Nat.mul_lt_mul'' h h
    rw [← Nat.pow_add] at c
    rw [show 2 * B = B + B by omega]
    omega
end Mi
namespace K00
open PySem L2 Mi
theorem w_gcd {k B : Nat} {h : Hh} {a b : Int} {Q : D → Hh → Prop} (hb : b.natAbs < 2 ^ B) (hB : 2 * B + 1 < 5000) (q : Q (.p (.int (Int.gcd a b))) h) : Rw (callN prog 5000 (k + 1) f__law_gcd [.p (.int a), .p (.int b)] h) Q := by
  rw [rw_callN (F := prog[f__law_gcd]) rfl rfl]
  show Sw (exs _ b__law_gcd [some (.p (.int a)), some (.p (.int b))] h) _ _
  unfold b__law_gcd
  simp only [s_cons, s_par, w_bi, w_cons, w_nil, w_var, List.getElem?_cons_zero, List.getElem?_cons_succ, Option.some.injEq, exists_eq_left', peek_p, peeks, bi_abs, List.length_cons, List.length_nil, Nat.reduceAdd, Nat.reduceLT, and_self, true_and, List.set_cons_succ, List.set_cons_zero, s_whl, s_nil, s_ret]
  refine whl_inv (fun n σ g => g = h ∧ ∃ x y : Nat, σ = [some (.p (.int x)), some (.p (.int y))] ∧ Nat.gcd x y = Int.gcd a b ∧ Euc n x y) ?_ 5000 (2 * B + 1) _ h hB ⟨rfl, a.natAbs, b.natAbs, rfl, rfl, euc_start hb⟩
  rintro n σ g ⟨rfl, x, y, rfl, e, eu⟩
  simp only [rw_truth, w_cmp, w_var, w_lit, List.getElem?_cons_zero, List.getElem?_cons_succ, Option.some.injEq, exists_eq_left', peek_p, c_ne, D.p.injEq, PyData.bool.injEq]
  by_cases hy : y = 0
  · subst hy
    simp only [Int.natCast_zero, Int.ofNat_zero, decide_true, Bool.not_true, Bool.false_eq_true, if_false, finD_p]
    rw [Nat.gcd_zero_right] at e
    rw [e, List.take_length]
    exact q
  · obtain ⟨m, rfl, eu'⟩ := euc_next eu hy
    have hy' : ¬ (y : Int) = 0 := by omega
    simp only [hy', decide_false, Bool.not_false, if_true]
    refine ⟨m, rfl, ?_⟩
    have hp : (0 : Int) < y := by omega
    simp only [s_cons, s_par, s_nil, w_bin, w_var, List.getElem?_cons_zero, List.getElem?_cons_succ, Option.some.injEq, exists_eq_left', peek_p, o_mod hp, List.length_cons, List.length_nil, Nat.reduceAdd, Nat.reduceLT, and_self, true_and, List.set_cons_succ, List.set_cons_zero]
    refine ⟨y, x % y, ?_, ?_, eu'⟩
    · rw [Int.natCast_emod]
    · rw [← e, Nat.gcd_comm y (x % y), ← Nat.gcd_rec, Nat.gcd_comm]
end K00
namespace Mi
open PySem L2
theorem divOk_of {B : Nat} {j : Int} (h0 : 0 < j) (h : j.natAbs < 2 ^ B) (hB : B ≤ 8000) : divOk j = true := by
  unfold divOk
  rw [Bool.and_eq_true]
  exact ⟨decide_eq_true h0, decide_eq_true (Nat.lt_of_lt_of_le h (Nat.pow_le_pow_right (by decide) hB))⟩
theorem mulOk_of {B : Nat} {i j : Int} (h1 : i.natAbs < 2 ^ B) (h2 : j.natAbs < 2 ^ B) (hB : B ≤ 400000) : mulOk i j = true := by
  unfold mulOk
  rw [Bool.or_eq_true, Bool.and_eq_true]
  exact .inr ⟨decide_eq_true (Nat.lt_of_lt_of_le h1 (Nat.pow_le_pow_right (by decide) hB)), decide_eq_true (Nat.lt_of_lt_of_le h2 (Nat.pow_le_pow_right (by decide) hB))⟩
theorem o_mul {i j : Int} (h : mulOk i j = true) : binop .Mult (.int i) (.int j) = some (.int (i * j)) := by
  simp only [binop, h, if_true]
def frP (n d : Int) : P := .tuple [.int n, .int d]
/-- a drawn fraction: n/d in its lowest terms, not 0, both below 2^B -/
structure Fr (B : Nat) (n d : Int) : Prop where
  pos : 0 < d
  nb : n.natAbs < 2 ^ B
  db : d.natAbs < 2 ^ B
  red : Int.gcd n d = 1
theorem Fr.up {B B' : Nat} {n d : Int} (f : Fr B n d) (h : B ≤ B') : Fr B' n d := ⟨f.pos, Nat.lt_of_lt_of_le f.nb (Nat.pow_le_pow_right (by decide) h), Nat.lt_of_lt_of_le f.db (Nat.pow_le_pow_right (by decide) h), f.red⟩
theorem fr_red {B : Nat} {n d : Int} (hd : 0 < d) (nb : n.natAbs < 2 ^ B) (db : d.natAbs < 2 ^ B) : Fr B (n / Int.gcd n d) (d / Int.gcd n d) := by
  have g0 : 0 < Int.gcd n d := Int.gcd_pos_of_ne_zero_right _ (by omega)
  have gd : (Int.gcd n d : Int) ∣ d := Int.gcd_dvd_right ..
  have gn : (Int.gcd n d : Int) ∣ n := Int.gcd_dvd_left ..
  refine ⟨?_, ?_, ?_, ?_⟩
  · exact Int.ediv_pos_of_pos_of_dvd hd (by omega) gd
  · exact Nat.lt_of_le_of_lt (by rw [Int.natAbs_ediv_of_dvd gn]; exact Nat.div_le_self _ _) nb
  · exact Nat.lt_of_le_of_lt (by rw [Int.natAbs_ediv_of_dvd gd]; exact Nat.div_le_self _ _) db
  · rw [Int.gcd_ediv gn gd]
    simp
    exact Nat.div_self g0
end Mi
namespace K00
open PySem L2 Mi
theorem w_frac {k B : Nat} {h : Hh} {n d : Int} {Q : D → Hh → Prop} (hd : 0 < d) (nb : n.natAbs < 2 ^ B) (db : d.natAbs < 2 ^ B) (hB : B ≤ 2400)
    (q : ∀ n' d', Fr B n' d' → (n = 0 ↔ n' = 0) → n' * d = n * d' → Q (.p (frP n' d')) h) : Rw (callN prog 5000 (k + 2) f__law_frac [.p (.int n), .p (.int d)] h) Q := by
  rw [rw_callN (F := prog[f__law_frac]) rfl rfl]
  show Sw (exs _ b__law_frac [some (.p (.int n)), some (.p (.int d)), none] h) _ _
  unfold b__law_frac
  have g0 : 0 < Int.gcd n d := Int.gcd_pos_of_ne_zero_right _ (by omega)
  have gd : (Int.gcd n d : Int) ∣ d := Int.gcd_dvd_right ..
  have gn : (Int.gcd n d : Int) ∣ n := Int.gcd_dvd_left ..
  have gb : Int.gcd n d < 2 ^ B := Nat.lt_of_le_of_lt (by
    have := Nat.le_of_dvd (by omega : 0 < d.natAbs) (Int.natAbs_dvd_natAbs.mpr gd)
    simpa using this) db
  have ok : divOk (Int.gcd n d : Int) = true := divOk_of (B := B) (by omega) (by simpa using gb) (by omega)
  have red := fr_red hd nb db
  simp only [s_cons, s_asg, w_bin, w_call, w_cons, w_nil, w_var, w_ite, w_cmp, w_lit, w_neg, List.getElem?_cons_zero, List.getElem?_cons_succ, Option.some.injEq, exists_eq_left', peek_p]
  refine w_gcd db (by omega) ?_
  simp only [c_gt, hd, decide_true, Option.some.injEq, exists_eq_left', D.p.injEq, PyData.bool.injEq, if_true, peek_p, o_mul2 (i := (Int.gcd n d : Int)) (j := 1) (by decide) (by decide), Int.mul_one, as_var, List.length_cons, List.length_nil, Nat.reduceAdd, Nat.reduceLT, List.set_cons_succ, List.set_cons_zero, s_ret, w_tup, w_cons, w_nil, w_bin, w_var, List.getElem?_cons_zero, List.getElem?_cons_succ, o_div ok, frzs, frz, finD_p, s_nil]
  rw [List.take_length]
  refine q _ _ red ?_ ?_
  · constructor
    · rintro rfl
      simp
    · intro e
      have := Int.ediv_mul_cancel gn
      rw [e] at this
      omega
  · obtain ⟨a, ha⟩ := gn
    obtain ⟨b, hb⟩ := gd
    have hg : (Int.gcd n d : Int) ≠ 0 := by omega
    have e1 : n / (Int.gcd n d : Int) = a := by
      refine Int.ediv_eq_of_eq_mul_right hg ha
    have e2 : d / (Int.gcd n d : Int) = b := by
      refine Int.ediv_eq_of_eq_mul_right hg hb
    rw [e1, e2]
    have e3 : a * d = a * (↑(Int.gcd n d) * b) := congrArg (a * ·) hb
    have e4 : n * b = ↑(Int.gcd n d) * a * b := congrArg (· * b) ha
    rw [e3, e4, Int.mul_comm _ a, Int.mul_assoc]
end K00
namespace Mi
open PySem L2
def smallS : Str := Str.ofString "abcdefghijklmnopqrstuvwxyz"
def figsS : Str := Str.ofString "0123456789"
def isSm (c : Nat) : Bool := decide (c ∈ smallS.cps.toList)
def isFg (c : Nat) : Bool := decide (c ∈ figsS.cps.toList)
def nameB : P → Bool
  | .str x => match x.cps.toList with
    | [] => false
    | c :: r => decide (r.length ≤ 7) && isSm c && (c :: r).all fun c => isSm c || isFg c
  | _ => false
/-- texts that can be looked at -/
def TxtOk (v : P) : Prop := ∀ x, v = .str x → x.length ≤ 16000000
theorem bools_map {α : Type} (f : α → Bool) : ∀ l : List α, bools (l.map fun x => PyData.bool (f x)) = some (l.map f)
  | [] => rfl
  | x :: l => by
    show (bools (l.map fun x => PyData.bool (f x))).map (f x :: ·) = _
    rw [bools_map f l]
    rfl
theorem bi_all {α : Type} (f : α → Bool) (l : List α) : Mi.bi .all [.list (l.map fun x => PyData.bool (f x))] = some (.bool (l.all f)) := by
  show (bools _).map _ = _
  rw [bools_map f l]
  show some (PyData.bool ((l.map f).all id)) = _
  rw [List.all_map]
  rfl
section
variable {i j : Int} {c : Nat} {r : List Nat} {x z : Str}
theorem c_lt : cmpop .Lt (.int i) (.int j) = some (decide (i < j)) := by
  show ltD _ _ = _
  unfold ltD
  have e : (PySem.W.alike (.int i) (.int j) && !isNone (.int i) && shp (.int i) && shp (.int j)) = true := rfl
  rw [if_pos e, PySem.W.dataLt_int]
theorem c_in : cmpop .In (.str ⟨#[c]⟩) (.str z) = some (decide (c ∈ z.cps.toList)) := rfl
theorem ix_str0 (hl : x.length ≤ 16000000) (e : x.cps.toList = c :: r) : idxD (.str x) (.int 0) = some (.str ⟨#[c]⟩) := by
  simp [idxD, hl, e, atI, ixN]
theorem str_len : x.length = x.cps.toList.length := by simp [Str.length]
end
end Mi
namespace K00
open PySem L2 Mi
theorem w_is_name {k : Nat} {h : Hh} {v : P} {Q : D → Hh → Prop} (hv : TxtOk v) (q : Q (.p (.bool (nameB v))) h) : Rw (callN prog 5000 (k + 1) f_is_name [.p v] h) Q := by
  rw [rw_callN (F := prog[f_is_name]) rfl rfl]
  show Sw (exs _ b_is_name [some (.p v), none] h) _ _
  unfold b_is_name
  cases v with
  | str x =>
    have hl := hv x rfl
    have bl : Mi.bi .len [.str x] = some (.int x.length) := by simp only [Mi.bi, hl, if_true]
    simp only [s_cons, s_ite, w_or, w_not, w_isi, w_var, w_cmp, w_bi, w_cons, w_nil, w_lit, List.getElem?_cons_zero, List.getElem?_cons_succ, Option.some.injEq, exists_eq_left', peek_p, peeks, isTy, Bool.not_true, D.p.injEq, PyData.bool.injEq, Bool.false_eq_true, if_false, bl]
    simp only [c_lt, c_gt, Option.some.injEq, exists_eq_left', w_cmp, w_bi, w_var, w_cons, w_nil, w_lit, List.getElem?_cons_zero, peek_p, peeks, bl, s_cons, s_nil, s_ret, finD_p, List.take_length, D.p.injEq, PyData.bool.injEq, if_true]
    cases e : x.cps.toList with
    | nil =>
      have l0 : x.length = 0 := by rw [str_len, e]; rfl
      have nb : nameB (.str x) = false := by simp only [nameB, e]
      rw [nb] at q
      rw [if_pos (by rw [l0]; decide)]
      exact q
    | cons c r =>
      have l0 : x.length = r.length + 1 := by rw [str_len, e]; rfl
      have c1 : ¬ ((x.length : Int) < 1) := by omega
      have nb : nameB (.str x) = (decide (r.length ≤ 7) && isSm c && (c :: r).all fun c => isSm c || isFg c) := by simp only [nameB, e]
      rw [nb] at q
      simp only [c1, decide_false, Bool.false_eq_true, if_false]
      by_cases c2 : (8 : Int) < x.length
      · have c3 : decide (r.length ≤ 7) = false := decide_eq_false (by omega)
        rw [c3] at q
        simp only [c2, decide_true, if_true]
        exact q
      · have c3 : decide (r.length ≤ 7) = true := decide_eq_true (by omega)
        rw [c3, Bool.true_and] at q
        simp only [c2, decide_false, Bool.false_eq_true, if_false]
        simp only [w_and, w_idx, w_cmp, w_con, w_var, w_lit, List.getElem?_cons_zero, Option.some.injEq, exists_eq_left', peek_p, ix_str0 hl e, c_in, D.p.injEq, PyData.bool.injEq]
        by_cases c4 : isSm c = true
        · have c5 : decide (c ∈ (Str.ofString "abcdefghijklmnopqrstuvwxyz").cps.toList) = true := c4
          rw [c4, Bool.true_and] at q
          rw [if_pos c5, w_bi, w_cons]
          refine w_lcmap (fun c => .str ⟨#[c]⟩) (fun c => .bool (isSm c || isFg c)) ?_
          rw [w_iexp, w_var]
          refine ⟨_, rfl, _, rfl, _, rfl, c :: r, ?_, by rw [← e, ← str_len]; exact hl, fun a _ => ?_, ?_⟩
          · rw [e]
          · refine ⟨_, rfl, fun acc Q' q' => ?_⟩
            simp only [w_or, w_cmp, w_var, w_con, List.getElem?_cons_zero, List.getElem?_cons_succ, List.set_cons_succ, List.set_cons_zero, wip, Option.some.injEq, exists_eq_left', peek_p, c_in, D.p.injEq, PyData.bool.injEq]
            split
            · rename_i z
              have : isSm a = true := z
              rw [this] at q'
              exact q'
            · rename_i z
              have : isSm a = false := by rw [← Bool.not_eq_true]; exact z
              rw [this] at q'
              exact q'
          · rw [w_nil]
            exact ⟨_, rfl, _, bi_all _ _, by rw [finD_p, List.take_length]; exact q⟩
        · have c5 : ¬ decide (c ∈ (Str.ofString "abcdefghijklmnopqrstuvwxyz").cps.toList) = true := c4
          rw [Bool.not_eq_true] at c4
          rw [c4, Bool.false_and] at q
          rw [if_neg c5, finD_p, List.take_length]
          exact q
  | _ =>
    simp only [s_cons, s_ite, w_or, w_not, w_isi, w_var, w_lit, s_ret, List.getElem?_cons_zero, List.getElem?_cons_succ, Option.some.injEq, exists_eq_left', peek_p, isTy, Bool.not_false, D.p.injEq, PyData.bool.injEq, if_true, finD_p, List.take_length]
    exact q
end K00
namespace Mi
open PySem L2
mutual
/-- data of a size that everything can be asked of -/
def okD (B : Nat) : P → Prop
  | .int i => i.natAbs < 2 ^ B
  | .str x => x.length ≤ 1000
  | .tuple ds => ds.length ≤ 1000 ∧ okDs B ds
  | .list ds => ds.length ≤ 1000 ∧ okDs B ds
  | .dict _ => False
  | _ => True
def okDs (B : Nat) : List P → Prop
  | [] => True
  | d :: ds => okD B d ∧ okDs B ds
end
theorem okDs_mem {B : Nat} : ∀ {ds : List P}, okDs B ds → ∀ d ∈ ds, okD B d
  | [], _, d, h => by cases h
  | x :: ds, ⟨a, b⟩, d, h => by
    rcases List.mem_cons.mp h with rfl | h
    · exact a
    · exact okDs_mem b d h
theorem okD.txt {B : Nat} {v : P} (h : okD B v) : TxtOk v := fun x e => by
  subst e
  unfold okD at h
  omega
def wholeB : P → Bool
  | .int i => decide (0 ≤ i)
  | _ => false
def letterB : P → Bool
  | .tuple [a, b] => nameB a && wholeB b
  | _ => false
theorem bi_lent {ds : List P} : Mi.bi .len [.tuple ds] = some (.int ds.length) := rfl
section
variable {i j : Int}
theorem c_eq : cmpop .Eq (.int i) (.int j) = some (decide (i = j)) := by
  show eqD (.int i) (.int j) = _
  unfold eqD
  have e : (shp (.int i) && shp (.int j)) = true := rfl
  simp only [e, if_true, PyData.eqv]
  rfl
theorem ix_tn {ds : List P} {n : Nat} {d : P} (h : ds[n]? = some d) : idxD (.tuple ds) (.int n) = some d := by
  have hn : n < ds.length := (List.getElem?_eq_some_iff.mp h).1
  have e : ds[n] = d := (List.getElem?_eq_some_iff.mp h).2
  simp [idxD, atI, ixN, hn, e]
theorem ix_t0 {a : P} {r : List P} : idxD (.tuple (a :: r)) (.int 0) = some a := ix_tn (n := 0) rfl
theorem ix_t1 {a b : P} {r : List P} : idxD (.tuple (a :: b :: r)) (.int 1) = some b := ix_tn (n := 1) rfl
end
end Mi
namespace K00
open PySem L2 Mi
theorem w_is_whole {k : Nat} {h : Hh} {v : P} {Q : D → Hh → Prop} (q : Q (.p (.bool (wholeB v))) h) : Rw (callN prog 5000 (k + 2) f_is_whole [.p v] h) Q := by
  rw [show callN prog 5000 (k + 2) f_is_whole [.p v] h = _ from e_is_whole k v h]
  cases v <;> exact rw_ok.mpr q
theorem w_is_letter {k B : Nat} {h : Hh} {v : P} {Q : D → Hh → Prop} (hv : okD B v) (q : Q (.p (.bool (letterB v))) h) : Rw (callN prog 5000 (k + 3) f_is_letter [.p v] h) Q := by
  rw [rw_callN (F := prog[f_is_letter]) rfl rfl]
  show Sw (exs _ b_is_letter [some (.p v)] h) _ _
  unfold b_is_letter
  cases v with
  | tuple ds =>
    simp only [s_cons, s_ret, w_and, w_isi, w_var, w_cmp, w_bi, w_cons, w_nil, w_lit, List.getElem?_cons_zero, Option.some.injEq, exists_eq_left', peek_p, peeks, isTy, bi_lent, c_eq, D.p.injEq, PyData.bool.injEq, if_true]
    have two : ((ds.length : Int) = 2) = (ds.length = 2) := by simp; omega
    match ds, hv with
    | [a, b], hv =>
      simp only [List.length_cons, List.length_nil]
      rw [if_pos (by simp)]
      simp only [w_call, w_cons, w_nil, w_idx, w_var, w_lit, List.getElem?_cons_zero, Option.some.injEq, exists_eq_left', peek_p, ix_t0, ix_t1]
      have ha : okD B a := okDs_mem hv.2 a (by simp)
      refine w_is_name (k := k + 1) ha.txt ?_
      refine ⟨_, rfl, ?_⟩
      have lb : letterB (.tuple [a, b]) = (nameB a && wholeB b) := rfl
      rw [lb] at q
      cases hn : nameB a with
      | false =>
        rw [hn] at q
        simp only [Bool.false_eq_true, if_false, finD_p, List.take_length]
        exact q
      | true =>
        rw [hn, Bool.true_and] at q
        simp only [if_true]
        refine w_is_whole (k := k) ?_
        rw [finD_p, List.take_length]
        exact q
    | [], _ => rw [if_neg (by simp), finD_p, List.take_length]; exact q
    | [a], _ => rw [if_neg (by simp), finD_p, List.take_length]; exact q
    | a :: b :: c :: r, _ =>
      rw [if_neg (by simp; omega), finD_p, List.take_length]; exact q
  | _ =>
    simp only [s_cons, s_ret, w_and, w_isi, w_var, List.getElem?_cons_zero, Option.some.injEq, exists_eq_left', peek_p, isTy, D.p.injEq, PyData.bool.injEq, Bool.false_eq_true, if_false, finD_p, List.take_length]
    exact q
end K00
namespace Mi
open PySem L2
def fracB : P → Bool
  | .tuple [.int n, .int d] => decide (0 < d) && decide (Int.gcd n d = 1)
  | _ => false
def pairB : P → Bool
  | .tuple [_, _] => true
  | _ => false
theorem bi_gcd {i j : Int} : Mi.bi .gcd [.int i, .int j] = some (.int (Int.gcd i j)) := rfl
theorem frac_no {a b : P} (h : isTy .int a = false ∨ isTy .int b = false ∨ isTy .bool a = true ∨ isTy .bool b = true) : fracB (.tuple [a, b]) = false := by
  cases a <;> first | rfl | (cases b <;> first | rfl | (rcases h with h | h | h | h <;> cases h))
theorem not_pair {v : P} (h : pairB v = false) : letterB v = false ∧ fracB v = false := by
  cases v with
  | tuple ds =>
    match ds, h with
    | [], _ => exact ⟨rfl, rfl⟩
    | [a], _ => exact ⟨rfl, by cases a <;> rfl⟩
    | [a, b], h => cases h
    | a :: b :: c :: r, _ => exact ⟨rfl, by cases a <;> first | rfl | (cases b <;> rfl)⟩
  | _ => exact ⟨rfl, rfl⟩
theorem pair_ex {v : P} (h : pairB v = true) : ∃ a b, v = .tuple [a, b] := by
  cases v with
  | tuple ds =>
    match ds, h with
    | [a, b], _ => exact ⟨a, b, rfl⟩
  | _ => cases h
theorem pair_len {ds : List P} : decide ((ds.length : Int) = 2) = pairB (.tuple ds) := by
  match ds with
  | [] => rfl
  | [a] => rfl
  | [a, b] => rfl
  | a :: b :: c :: r =>
    show _ = false
    rw [decide_eq_false_iff_not]
    simp only [List.length_cons]
    omega
end Mi
namespace K00
open PySem L2 Mi
theorem w_is_pair {k : Nat} {h : Hh} {v : P} {Q : D → Hh → Prop} (q : Q (.p (.bool (pairB v))) h) : Rw (callN prog 5000 (k + 1) f__law_is_pair [.p v] h) Q := by
  rw [rw_callN (F := prog[f__law_is_pair]) rfl rfl]
  show Sw (exs _ b__law_is_pair [some (.p v)] h) _ _
  unfold b__law_is_pair
  cases v with
  | tuple ds =>
    simp only [s_cons, s_ret, w_and, w_isi, w_var, w_cmp, w_bi, w_cons, w_nil, w_lit, List.getElem?_cons_zero, Option.some.injEq, exists_eq_left', peek_p, peeks, isTy, bi_lent, c_eq, D.p.injEq, PyData.bool.injEq, if_true, pair_len, finD_p, List.take_length]
    exact q
  | _ =>
    simp only [s_cons, s_ret, w_and, w_isi, w_var, List.getElem?_cons_zero, Option.some.injEq, exists_eq_left', peek_p, isTy, D.p.injEq, PyData.bool.injEq, Bool.false_eq_true, if_false, finD_p, List.take_length]
    exact q
theorem w_law_is_int {k : Nat} {h : Hh} {v : P} {Q : D → Hh → Prop} (q : Q (.p (.bool (isInt v))) h) : Rw (callN prog 5000 (k + 1) f__law_is_int [.p v] h) Q := by
  rw [rw_callN (F := prog[f__law_is_int]) rfl rfl]
  show Sw (exs _ b__law_is_int [some (.p v)] h) _ _
  cases v <;> (simp only [b__law_is_int, s_cons, s_ret, w_and, w_not, w_isi, w_var, List.getElem?_cons_zero, Option.some.injEq, exists_eq_left', peek_p, isTy, D.p.injEq, PyData.bool.injEq, Bool.false_eq_true, if_false, if_true, Bool.not_false, Bool.not_true, finD_p, List.take_length]; exact q)
theorem w_is_integer {k : Nat} {h : Hh} {v : P} {Q : D → Hh → Prop} (q : Q (.p (.bool (isInt v))) h) : Rw (callN prog 5000 (k + 1) f_is_integer [.p v] h) Q := by
  rw [e_is_integer k v h]
  exact rw_ok.mpr q
theorem isInt_ex {v : P} (h : isInt v = true) : ∃ i, v = .int i := by
  cases v <;> first | exact ⟨_, rfl⟩ | cases h
theorem frac_not {a b : P} (h : isInt a = false ∨ isInt b = false) : fracB (.tuple [a, b]) = false := by
  cases a <;> first | rfl | (cases b <;> first | rfl | (rcases h with h | h <;> cases h))
theorem w_law_is_frac {k B : Nat} {h : Hh} {v : P} {Q : D → Hh → Prop} (hv : okD B v) (hB : B ≤ 2400) (q : Q (.p (.bool (fracB v))) h) : Rw (callN prog 5000 (k + 2) f__law_is_frac [.p v] h) Q := by
  rw [rw_callN (F := prog[f__law_is_frac]) rfl rfl]
  show Sw (exs _ b__law_is_frac [some (.p v)] h) _ _
  unfold b__law_is_frac
  simp only [s_cons, s_ite, w_or, w_not, w_call, w_cons, w_nil, w_var, List.getElem?_cons_zero, Option.some.injEq, exists_eq_left']
  refine w_is_pair (k := k) ?_
  cases hp : pairB v with
  | false =>
    rw [(not_pair hp).2] at q
    simp only [D.p.injEq, PyData.bool.injEq, exists_eq_left', Bool.not_false, if_true, s_ret, w_lit, finD_p, List.take_length]
    exact q
  | true =>
    obtain ⟨a, b, rfl⟩ := pair_ex hp
    have ha : okD B a := okDs_mem hv.2 a (by simp)
    have hb : okD B b := okDs_mem hv.2 b (by simp)
    simp only [D.p.injEq, PyData.bool.injEq, exists_eq_left', Bool.not_true, Bool.false_eq_true, if_false, w_idx, w_var, w_lit, List.getElem?_cons_zero, Option.some.injEq, peek_p, ix_t0, ix_t1]
    refine w_law_is_int (k := k) ?_
    cases h1 : isInt a with
    | false =>
      rw [frac_not (.inl h1)] at q
      simp only [D.p.injEq, PyData.bool.injEq, exists_eq_left', Bool.not_false, if_true, s_ret, w_lit, finD_p, List.take_length]
      exact q
    | true =>
      simp only [D.p.injEq, PyData.bool.injEq, exists_eq_left', Bool.not_true, Bool.false_eq_true, if_false]
      refine w_law_is_int (k := k) ?_
      cases h2 : isInt b with
      | false =>
        rw [frac_not (.inr h2)] at q
        simp only [D.p.injEq, PyData.bool.injEq, exists_eq_left', Bool.not_false, if_true, s_ret, w_lit, finD_p, List.take_length]
        exact q
      | true =>
        obtain ⟨n, rfl⟩ := isInt_ex h1
        obtain ⟨d, rfl⟩ := isInt_ex h2
        have fb : fracB (.tuple [.int n, .int d]) = (decide (0 < d) && decide (Int.gcd n d = 1)) := rfl
        rw [fb] at q
        simp only [D.p.injEq, PyData.bool.injEq, exists_eq_left', Bool.not_true, Bool.false_eq_true, if_false, s_nil, s_cons, s_ret, w_and, w_cmp, w_idx, w_var, w_lit, List.getElem?_cons_zero, Option.some.injEq, peek_p, ix_t0, ix_t1, c_gt]
        by_cases hd : 0 < d
        · rw [decide_eq_true hd, Bool.true_and] at q
          rw [if_pos (decide_eq_true hd)]
          simp only [w_cmp, w_call, w_cons, w_nil, w_idx, w_var, w_lit, List.getElem?_cons_zero, Option.some.injEq, exists_eq_left', peek_p, ix_t0, ix_t1]
          refine w_gcd (k := k) (B := B) (show d.natAbs < 2 ^ B from hb) (by omega) ?_
          simp only [peek_p, Option.some.injEq, exists_eq_left', c_eq, finD_p, List.take_length]
          have e : decide ((Int.gcd n d : Int) = 1) = decide (Int.gcd n d = 1) := by
            by_cases z : Int.gcd n d = 1
            · rw [z]; rfl
            · rw [decide_eq_false z, decide_eq_false]; omega
          rw [e]
          exact q
        · rw [decide_eq_false hd, Bool.false_and] at q
          rw [if_neg (by simpa using hd), finD_p, List.take_length]
          exact q
end K00
namespace Mi
open PySem L2
section
variable {i j : Int}
theorem c_ne_len {ds : List P} : cmpop .NotEq (.int ds.length) (.int 2) = some (!pairB (.tuple ds)) := by rw [c_ne, pair_len]
end
end Mi
namespace K00
open PySem L2 Mi
theorem w_is_fraction {k B : Nat} {h : Hh} {v : P} {Q : D → Hh → Prop} (hv : okD B v) (q : Q (.p (.bool (fracB v))) h) : Rw (callN prog 5000 (k + 2) f_is_fraction [.p v] h) Q := by
  rw [rw_callN (F := prog[f_is_fraction]) rfl rfl]
  show Sw (exs _ b_is_fraction [some (.p v)] h) _ _
  unfold b_is_fraction
  cases v with
  | tuple ds =>
    simp only [s_cons, s_ite, w_or, w_not, w_isi, w_var, w_cmp, w_bi, w_cons, w_nil, w_lit, List.getElem?_cons_zero, Option.some.injEq, exists_eq_left', peek_p, peeks, isTy, bi_lent, D.p.injEq, PyData.bool.injEq, Bool.not_true, Bool.false_eq_true, if_false, c_ne_len]
    cases hp : pairB (.tuple ds) with
    | false =>
      rw [(not_pair hp).2] at q
      simp only [Bool.not_false, if_true, s_ret, w_lit, finD_p, List.take_length]
      exact q
    | true =>
      obtain ⟨a, b, e⟩ := pair_ex hp
      injection e with e
      subst e
      simp only [Bool.not_true, Bool.false_eq_true, if_false, s_nil, w_call, w_cons, w_nil, w_idx, w_var, w_lit, List.getElem?_cons_zero, Option.some.injEq, exists_eq_left', peek_p, ix_t0, ix_t1]
      refine w_is_integer (k := k) ?_
      cases h1 : isInt a with
      | false =>
        rw [frac_not (.inl h1)] at q
        simp only [D.p.injEq, PyData.bool.injEq, exists_eq_left', Bool.not_false, if_true, s_ret, w_lit, finD_p, List.take_length]
        exact q
      | true =>
        simp only [D.p.injEq, PyData.bool.injEq, exists_eq_left', Bool.not_true, Bool.false_eq_true, if_false]
        refine w_is_integer (k := k) ?_
        cases h2 : isInt b with
        | false =>
          rw [frac_not (.inr h2)] at q
          simp only [D.p.injEq, PyData.bool.injEq, exists_eq_left', Bool.not_false, if_true, s_ret, w_lit, finD_p, List.take_length]
          exact q
        | true =>
          obtain ⟨n, rfl⟩ := isInt_ex h1
          obtain ⟨d, rfl⟩ := isInt_ex h2
          have fb : fracB (.tuple [.int n, .int d]) = (decide (0 < d) && decide (Int.gcd n d = 1)) := rfl
          rw [fb] at q
          simp only [D.p.injEq, PyData.bool.injEq, exists_eq_left', Bool.not_true, Bool.false_eq_true, if_false, w_cmp, w_idx, w_var, w_lit, List.getElem?_cons_zero, Option.some.injEq, peek_p, ix_t0, ix_t1, c_lt]
          by_cases hd : 0 < d
          · rw [decide_eq_true hd, Bool.true_and] at q
            have hd' : ¬ d < 1 := by omega
            simp only [hd', decide_false, Bool.false_eq_true, if_false, s_cons, s_nil, s_ret, w_cmp, w_bi, w_cons, w_nil, w_idx, w_var, w_lit, List.getElem?_cons_zero, Option.some.injEq, exists_eq_left', peek_p, peeks, ix_t0, ix_t1, bi_gcd, c_eq, finD_p, List.take_length]
            have e : decide ((Int.gcd n d : Int) = 1) = decide (Int.gcd n d = 1) := by
              by_cases z : Int.gcd n d = 1
              · rw [z]; rfl
              · rw [decide_eq_false z, decide_eq_false]; omega
            rw [e]
            exact q
          · rw [decide_eq_false hd, Bool.false_and] at q
            have hd' : d < 1 := by omega
            simp only [hd', decide_true, if_true, s_cons, s_nil, s_ret, w_lit, finD_p, List.take_length]
            exact q
  | _ =>
    simp only [s_cons, s_ite, w_or, w_not, w_isi, w_var, w_lit, s_ret, List.getElem?_cons_zero, Option.some.injEq, exists_eq_left', peek_p, isTy, D.p.injEq, PyData.bool.injEq, Bool.not_false, if_true, finD_p, List.take_length]
    exact q
end K00
namespace Mi
open PySem L2
def powB : P → Bool
  | .tuple [a, .int e] => letterB a && decide (0 < e)
  | _ => false
theorem pow_no_pair {v : P} (h : pairB v = false) : powB v = false := by
  cases v with
  | tuple ds =>
    match ds, h with
    | [], _ => rfl
    | [a], _ => rfl
    | [a, b], h => cases h
    | a :: b :: c :: r, _ => cases b <;> rfl
  | _ => rfl
theorem pow_eq {a b : P} : powB (.tuple [a, b]) = (letterB a && (wholeB b && match b with | .int e => decide (0 < e) | _ => false)) := by
  cases b with
  | int e =>
    show (letterB a && decide (0 < e)) = (letterB a && (decide (0 ≤ e) && decide (0 < e)))
    by_cases h : 0 < e
    · rw [decide_eq_true h, decide_eq_true (by omega : 0 ≤ e)]; rfl
    · rw [decide_eq_false h, Bool.and_false, Bool.and_false, Bool.and_false]
  | _ => simp [powB, wholeB]
end Mi
namespace K00
open PySem L2 Mi
theorem w_is_power {k B : Nat} {h : Hh} {v : P} {Q : D → Hh → Prop} (hv : okD B v) (q : Q (.p (.bool (powB v))) h) : Rw (callN prog 5000 (k + 4) f_is_power_of_letter [.p v] h) Q := by
  rw [rw_callN (F := prog[f_is_power_of_letter]) rfl rfl]
  show Sw (exs _ b_is_power_of_letter [some (.p v)] h) _ _
  unfold b_is_power_of_letter
  cases v with
  | tuple ds =>
    simp only [s_cons, s_ite, w_or, w_not, w_isi, w_var, w_cmp, w_bi, w_cons, w_nil, w_lit, List.getElem?_cons_zero, Option.some.injEq, exists_eq_left', peek_p, peeks, isTy, bi_lent, D.p.injEq, PyData.bool.injEq, Bool.not_true, Bool.false_eq_true, if_false, c_ne_len]
    cases hp : pairB (.tuple ds) with
    | false =>
      rw [pow_no_pair hp] at q
      simp only [Bool.not_false, if_true, s_ret, w_lit, finD_p, List.take_length]
      exact q
    | true =>
      obtain ⟨a, b, e⟩ := pair_ex hp
      injection e with e
      subst e
      have ha : okD B a := okDs_mem hv.2 a (by simp)
      rw [pow_eq] at q
      simp only [Bool.not_true, Bool.false_eq_true, if_false, s_nil, s_ret, w_and, w_call, w_cons, w_nil, w_idx, w_var, w_lit, List.getElem?_cons_zero, Option.some.injEq, exists_eq_left', peek_p, ix_t0, ix_t1]
      refine w_is_letter (k := k) ha ?_
      cases h1 : letterB a with
      | false =>
        rw [h1, Bool.false_and] at q
        simp only [D.p.injEq, PyData.bool.injEq, exists_eq_left', Bool.false_eq_true, if_false, finD_p, List.take_length]
        exact q
      | true =>
        rw [h1, Bool.true_and] at q
        simp only [D.p.injEq, PyData.bool.injEq, exists_eq_left', if_true]
        refine w_is_whole (k := k + 1) ?_
        cases h2 : wholeB b with
        | false =>
          rw [h2, Bool.false_and] at q
          simp only [D.p.injEq, PyData.bool.injEq, exists_eq_left', Bool.false_eq_true, if_false, finD_p, List.take_length]
          exact q
        | true =>
          rw [h2, Bool.true_and] at q
          cases b with
          | int e =>
            simp only [D.p.injEq, PyData.bool.injEq, exists_eq_left', if_true, w_cmp, w_idx, w_var, w_lit, List.getElem?_cons_zero, Option.some.injEq, peek_p, ix_t1, c_gt, finD_p, List.take_length]
            exact q
          | _ => cases h2
  | _ =>
    simp only [s_cons, s_ite, w_or, w_not, w_isi, w_var, w_lit, s_ret, List.getElem?_cons_zero, Option.some.injEq, exists_eq_left', peek_p, isTy, D.p.injEq, PyData.bool.injEq, Bool.not_false, if_true, finD_p, List.take_length]
    exact q
end K00
namespace Mi
open PySem L2
def hd0 : P → P
  | .tuple (a :: _) => a
  | _ => .none
def ascB (ds : List P) : Bool := (List.range (ds.length - 1)).all fun j => PySem.W.dataLt (hd0 (ds.getD j .none)) (hd0 (ds.getD (j + 1) .none))
/-- all([rows[at][0] < rows[at + 1][0] for at in range(len(rows) - 1)]) -/
def ascT (i : Nat) : ME := .bi .all (.cons (.lc false (.cmp .Lt (.idx (.idx (.var 0) (.var i)) (.lit (.int 0))) (.idx (.idx (.var 0) (.bin .Add (.var i) (.lit (.int 1)))) (.lit (.int 0)))) (.var i) (.rng (.cons (.bin .Sub (.bi .len (.cons (.var 0) .nil)) (.lit (.int 1))) .nil)) .nil [i]) .nil)
theorem rngP_eq {n : Nat} : rngP 0 n = (List.range n).map fun (j : Nat) => PyData.int (j : Int) := by
  unfold rngP
  simp
theorem w_asc {C : Calls} {σ : Sl} {h : Hh} {Q : D → Hh → Prop} {i : Nat} {ds : List P} (h0 : σ[0]? = some (some (.p (.tuple ds)))) (hi : i < σ.length) (hi0 : i ≠ 0) (hl : ds.length ≤ 1000)
    (al : ∀ d ∈ ds, ∃ a r, d = .tuple (a :: r)) (lt : ∀ d ∈ ds, ∀ e ∈ ds, ltD (hd0 d) (hd0 e) = some (PySem.W.dataLt (hd0 d) (hd0 e))) (q : Q (.p (.bool (ascB ds))) h) : Rw (ev C (ascT i) σ h) Q := by
  unfold ascT
  rw [w_bi, w_cons]
  refine w_lcmap (α := Nat) (fun j => .int (j : Int)) (fun j => .bool (PySem.W.dataLt (hd0 (ds.getD j .none)) (hd0 (ds.getD (j + 1) .none)))) ?_
  simp only [w_irng, w_cons, w_nil, w_bin, w_bi, w_var, h0, w_lit, Option.some.injEq, exists_eq_left', peek_p, peeks, bi_lent, o_sub]
  have hb : bd ((ds.length : Int) - 1) = true := by
    unfold bd
    rw [Bool.and_eq_true]
    exact ⟨decide_eq_true (by omega), decide_eq_true (by omega)⟩
  refine ⟨rngP 0 ((ds.length : Int) - 1).toNat, by simp only [rngOf, hb, if_true], List.range (ds.length - 1), ?_, by simp; omega, fun j hj => ?_, ?_⟩
  · rw [rngP_eq]
    rw [show ((ds.length : Int) - 1).toNat = ds.length - 1 by omega]
  · have hj : j < ds.length - 1 := List.mem_range.mp hj
    have hj1 : j < ds.length := by omega
    have hj2 : j + 1 < ds.length := by omega
    have g1 : ds[j]? = some ds[j] := List.getElem?_eq_getElem hj1
    have g2 : ds[j + 1]? = some ds[j + 1] := List.getElem?_eq_getElem hj2
    have e1 : ds.getD j .none = ds[j] := by simp [List.getD, g1]
    have e2 : ds.getD (j + 1) .none = ds[j + 1] := by simp [List.getD, g2]
    have hw : wip σ [i] = σ.set i none := rfl
    refine ⟨(σ.set i none).set i (some (.p (.int j))), ?_, fun acc Q' q' => ?_⟩
    · rw [hw]
      show (if _ then _ else _) = _
      rw [if_pos (by rw [List.length_set]; exact hi)]
    · rw [e1, e2] at q'
      have l2 := lt _ (List.getElem_mem hj1) _ (List.getElem_mem hj2)
      obtain ⟨a, r, ea⟩ := al _ (List.getElem_mem hj1)
      obtain ⟨b, r', eb⟩ := al _ (List.getElem_mem hj2)
      rw [ea, eb] at l2 q'
      have k0 : ((σ.set i none).set i (some (D.p (.int j))))[0]? = some (some (.p (.tuple ds))) := by
        rw [List.getElem?_set_ne hi0, List.getElem?_set_ne hi0]; exact h0
      have ki : ((σ.set i none).set i (some (D.p (.int j))))[i]? = some (some (.p (.int j))) := by
        rw [List.getElem?_set_self (by rw [List.length_set]; exact hi)]
      have i1 : idxD (.tuple ds) (.int (j : Int)) = some (.tuple (a :: r)) := ix_tn (by rw [g1, ea])
      have i2 : idxD (.tuple ds) (.int ((j : Int) + 1)) = some (.tuple (b :: r')) := by
        have := ix_tn (ds := ds) (n := j + 1) (d := .tuple (b :: r')) (by rw [g2, eb])
        simpa using this
      have c1 : cmpop .Lt a b = some (PySem.W.dataLt a b) := l2
      simp only [w_cmp, w_idx, w_var, w_lit, w_bin, k0, ki, Option.some.injEq, exists_eq_left', peek_p, o_add, i1, i2, ix_t0, c1]
      exact q'
  · exact ⟨_, bi_all _ _, q⟩
end Mi
namespace K00
open PySem L2 Mi
theorem w_ascends {k : Nat} {h : Hh} {ds : List P} {Q : D → Hh → Prop} (hl : ds.length ≤ 1000) (al : ∀ d ∈ ds, ∃ a r, d = .tuple (a :: r)) (lt : ∀ d ∈ ds, ∀ e ∈ ds, ltD (hd0 d) (hd0 e) = some (PySem.W.dataLt (hd0 d) (hd0 e))) (q : Q (.p (.bool (ascB ds))) h) :
    Rw (callN prog 5000 (k + 1) f_ascends [.p (.tuple ds)] h) Q := by
  rw [rw_callN (F := prog[f_ascends]) rfl rfl]
  show Sw (exs _ (.cons (.ret (ascT 1)) .nil) [some (.p (.tuple ds)), none] h) _ _
  rw [s_cons, s_ret]
  refine w_asc rfl (by simp) (by decide) hl al lt ?_
  rw [finD_p, List.take_length]
  exact q
end K00
namespace Mi
open PySem L2
theorem in_app {c : Nat} {x y : Str} : decide (c ∈ (x ++ y).cps.toList) = (decide (c ∈ x.cps.toList) || decide (c ∈ y.cps.toList)) := by
  have e : (x ++ y).cps = x.cps ++ y.cps := rfl
  rw [e]
  simp [Bool.decide_or]
theorem o_sadd {x y : Str} (h : x.length + y.length ≤ 16000000) : binop .Add (.str x) (.str y) = some (.str (x ++ y)) := by
  simp only [binop, h, if_true]
section
variable {i j : Int}
theorem c_le : cmpop .LtE (.int i) (.int j) = some (decide (i ≤ j)) := rfl
end
theorem letter_no {a b : P} (h : isTy .str a = false ∨ K00.isInt b = false) : letterB (.tuple [a, b]) = false := by
  show (nameB a && wholeB b) = false
  rcases h with h | h
  · have : nameB a = false := by cases a <;> first | rfl | cases h
    rw [this]; rfl
  · have : wholeB b = false := by cases b <;> first | rfl | cases h
    rw [this, Bool.and_false]
theorem str_ex {v : P} (h : isTy .str v = true) : ∃ x, v = .str x := by
  cases v <;> first | exact ⟨_, rfl⟩ | cases h
end Mi
namespace K00
open PySem L2 Mi
theorem w_law_is_letter {k B : Nat} {h : Hh} {v : P} {Q : D → Hh → Prop} (hv : okD B v) (q : Q (.p (.bool (letterB v))) h) : Rw (callN prog 5000 (k + 2) f__law_is_letter [.p v] h) Q := by
  rw [rw_callN (F := prog[f__law_is_letter]) rfl rfl]
  show Sw (exs _ b__law_is_letter [some (.p v), none, none] h) _ _
  unfold b__law_is_letter
  simp only [s_cons, s_ite, w_or, w_not, w_call, w_cons, w_nil, w_var, List.getElem?_cons_zero, Option.some.injEq, exists_eq_left']
  refine w_is_pair (k := k) ?_
  cases hp : pairB v with
  | false =>
    rw [(not_pair hp).1] at q
    simp only [D.p.injEq, PyData.bool.injEq, exists_eq_left', Bool.not_false, if_true, s_ret, w_lit, finD_p, List.take_length]
    exact q
  | true =>
    obtain ⟨a, b, rfl⟩ := pair_ex hp
    have ha : okD B a := okDs_mem hv.2 a (by simp)
    simp only [D.p.injEq, PyData.bool.injEq, exists_eq_left', Bool.not_true, Bool.false_eq_true, if_false, w_isi, w_idx, w_var, w_lit, List.getElem?_cons_zero, Option.some.injEq, peek_p, ix_t0, ix_t1]
    cases h1 : isTy .str a with
    | false =>
      rw [letter_no (.inl h1)] at q
      simp only [Bool.not_false, if_true, s_ret, w_lit, finD_p, List.take_length]
      exact q
    | true =>
      simp only [Bool.not_true, Bool.false_eq_true, if_false]
      refine w_law_is_int (k := k) ?_
      cases h2 : isInt b with
      | false =>
        rw [letter_no (.inr h2)] at q
        simp only [D.p.injEq, PyData.bool.injEq, exists_eq_left', Bool.not_false, if_true, s_ret, w_lit, finD_p, List.take_length]
        exact q
      | true =>
        obtain ⟨x, rfl⟩ := str_ex h1
        obtain ⟨d, rfl⟩ := isInt_ex h2
        have hl : x.length ≤ 16000000 := ha.txt x rfl
        have bl : Mi.bi .len [.str x] = some (.int x.length) := by simp only [Mi.bi, hl, if_true]
        have lb : letterB (.tuple [.str x, .int d]) = (nameB (.str x) && decide (0 ≤ d)) := rfl
        rw [lb] at q
        simp only [D.p.injEq, PyData.bool.injEq, exists_eq_left', Bool.not_true, Bool.false_eq_true, if_false, s_nil, s_cons, s_ite, s_asg, s_ret, w_or, w_not, w_chain, w_cmp, w_idx, w_var, w_bi, w_cons, w_nil, w_lit, List.getElem?_cons_zero, Option.some.injEq, peek_p, peeks, ix_t0, ix_t1, c_lt, c_le, bl]
        by_cases hd : d < 0
        · have hd' : decide (0 ≤ d) = false := decide_eq_false (by omega)
          rw [hd', Bool.and_false] at q
          simp only [hd, decide_true, if_true, s_ret, w_lit, finD_p, List.take_length]
          exact q
        · have hd' : decide (0 ≤ d) = true := decide_eq_true (by omega)
          rw [hd', Bool.and_true] at q
          simp only [hd, decide_false, Bool.false_eq_true, if_false]
          cases e : x.cps.toList with
          | nil =>
            have l0 : x.length = 0 := by rw [str_len, e]; rfl
            have nb : nameB (.str x) = false := by simp only [nameB, e]
            rw [nb] at q
            rw [if_neg (by rw [l0]; decide), if_pos (by rfl), finD_p, List.take_length]
            exact q
          | cons c r =>
            have l0 : x.length = r.length + 1 := by rw [str_len, e]; rfl
            have c1 : (1 : Int) ≤ x.length := by omega
            have nb : nameB (.str x) = (decide (r.length ≤ 7) && isSm c && (c :: r).all fun c => isSm c || isFg c) := by simp only [nameB, e]
            rw [nb] at q
            simp only [c1, decide_true, if_true]
            by_cases c2 : (x.length : Int) ≤ 8
            · have c3 : decide (r.length ≤ 7) = true := decide_eq_true (by omega)
              rw [c3, Bool.true_and] at q
              simp only [c2, decide_true, Bool.not_true, Bool.false_eq_true, if_false]
              refine ⟨_, rfl, ?_⟩
              simp only [w_and, w_idx, w_cmp, w_var, w_lit, List.getElem?_cons_zero, List.getElem?_cons_succ, List.set_cons_succ, List.set_cons_zero, Option.some.injEq, exists_eq_left', peek_p, ix_t0, ix_str0 hl e, c_in, D.p.injEq, PyData.bool.injEq]
              by_cases c4 : isSm c = true
              · have c5 : decide (c ∈ (Str.ofString "abcdefghijklmnopqrstuvwxyz").cps.toList) = true := c4
                rw [c4, Bool.true_and] at q
                rw [if_pos c5, w_bi, w_cons]
                refine w_lcmap (fun c => .str ⟨#[c]⟩) (fun c => .bool (isSm c || isFg c)) ?_
                simp only [w_iexp, w_idx, w_var, w_lit, List.getElem?_cons_zero, Option.some.injEq, exists_eq_left', peek_p, ix_t0]
                refine ⟨_, rfl, _, rfl, c :: r, ?_, by rw [← e, ← str_len]; exact hl, fun a _ => ?_, ?_⟩
                · rw [e]
                · refine ⟨_, rfl, fun acc Q' q' => ?_⟩
                  have sl : (Str.ofString "abcdefghijklmnopqrstuvwxyz").length + (Str.ofString "0123456789").length ≤ 16000000 := by decide +kernel
                  simp only [w_cmp, w_var, w_bin, w_lit, List.getElem?_cons_zero, List.getElem?_cons_succ, List.set_cons_succ, List.set_cons_zero, wip, Option.some.injEq, exists_eq_left', peek_p, o_sadd sl, c_in, in_app]
                  exact q'
                · rw [w_nil]
                  exact ⟨_, rfl, _, bi_all _ _, by rw [finD_p, List.take_length]; exact q⟩
              · have c5 : ¬ decide (c ∈ (Str.ofString "abcdefghijklmnopqrstuvwxyz").cps.toList) = true := c4
                rw [Bool.not_eq_true] at c4
                rw [c4, Bool.false_and] at q
                rw [if_neg c5, finD_p, List.take_length]
                exact q
            · have c3 : decide (r.length ≤ 7) = false := decide_eq_false (by omega)
              rw [c3] at q
              simp only [c2, decide_false, Bool.not_false, if_true, finD_p, List.take_length]
              exact q
end K00
namespace Mi
open PySem L2
def monoB : P → Bool
  | .tuple ds => ds.all powB && ascB ds
  | _ => false
theorem shp_letter {a : P} (h : letterB a = true) : ∃ x i, a = .tuple [.str x, .int i] := by
  cases a with
  | tuple ds =>
    match ds, h with
    | [a, b], h =>
      have h' : (nameB a && wholeB b) = true := h
      obtain ⟨h1, h2⟩ := Bool.and_eq_true_iff.mp h'
      cases a with
      | str x => cases b with
        | int i => exact ⟨x, i, rfl⟩
        | _ => cases h2
      | _ => cases h1
  | _ => cases h
theorem pow_ex {v : P} (h : powB v = true) : ∃ x i e, v = .tuple [.tuple [.str x, .int i], .int e] ∧ letterB (.tuple [.str x, .int i]) = true ∧ 0 < e := by
  cases v with
  | tuple ds =>
    match ds, h with
    | [a, .int e], h =>
      have h' : (letterB a && decide (0 < e)) = true := h
      obtain ⟨h1, h2⟩ := Bool.and_eq_true_iff.mp h'
      obtain ⟨x, i, rfl⟩ := shp_letter h1
      exact ⟨x, i, e, rfl, h1, of_decide_eq_true h2⟩
  | _ => cases h
theorem name_ok {x : Str} (h : nameB (.str x) = true) : PyData.strOk x = true := by
  have a1 : smallS.cps.toList.all (fun c => decide (c < 0x110000)) = true := by decide +kernel
  have a2 : figsS.cps.toList.all (fun c => decide (c < 0x110000)) = true := by decide +kernel
  unfold PyData.strOk
  rw [← Array.all_toList, List.all_eq_true]
  intro c hc
  cases e : x.cps.toList with
  | nil => rw [e] at hc; cases hc
  | cons d r =>
    simp only [nameB, e, Bool.and_eq_true] at h
    have z := List.all_eq_true.mp h.2 c (by rw [← e]; exact hc)
    rcases Bool.or_eq_true_iff.mp z with z | z
    · exact List.all_eq_true.mp a1 c (of_decide_eq_true z)
    · exact List.all_eq_true.mp a2 c (of_decide_eq_true z)
theorem ltD_letter {x y : Str} {i j : Int} (hx : PyData.strOk x = true) (hy : PyData.strOk y = true) : ltD (.tuple [.str x, .int i]) (.tuple [.str y, .int j]) = some (PySem.W.dataLt (.tuple [.str x, .int i]) (.tuple [.str y, .int j])) := by
  unfold ltD
  have e : (PySem.W.alike (.tuple [.str x, .int i]) (.tuple [.str y, .int j]) && !isNone (.tuple [.str x, .int i]) && shp (.tuple [.str x, .int i]) && shp (.tuple [.str y, .int j])) = true := by simp [PySem.W.alike, PySem.W.alikeAll, isNone, shp, SeqAt.shaped, PyData.canLay0, PyData.canLayAll0, PyData.depth, PyData.depthAll, hx, hy]
  rw [if_pos e]
theorem pow_lts {ds : List P} (h : ds.all powB = true) : (∀ d ∈ ds, ∃ a r, d = .tuple (a :: r)) ∧ ∀ d ∈ ds, ∀ e ∈ ds, ltD (hd0 d) (hd0 e) = some (PySem.W.dataLt (hd0 d) (hd0 e)) := by
  rw [List.all_eq_true] at h
  refine ⟨fun d hd => ?_, fun d hd e he => ?_⟩
  · obtain ⟨x, i, e, rfl, _⟩ := pow_ex (h d hd)
    exact ⟨_, _, rfl⟩
  · obtain ⟨x, i, _, rfl, l1, _⟩ := pow_ex (h d hd)
    obtain ⟨y, j, _, rfl, l2, _⟩ := pow_ex (h e he)
    exact ltD_letter (name_ok (Bool.and_eq_true_iff.mp (show (nameB (.str x) && wholeB (.int i)) = true from l1)).1) (name_ok (Bool.and_eq_true_iff.mp (show (nameB (.str y) && wholeB (.int j)) = true from l2)).1)
end Mi
namespace K00
open PySem L2 Mi
theorem w_is_monomial {k B : Nat} {h : Hh} {v : P} {Q : D → Hh → Prop} (hv : okD B v) (q : Q (.p (.bool (monoB v))) h) : Rw (callN prog 5000 (k + 5) f_is_monomial [.p v] h) Q := by
  rw [rw_callN (F := prog[f_is_monomial]) rfl rfl]
  show Sw (exs _ b_is_monomial [some (.p v), none] h) _ _
  unfold b_is_monomial
  cases v with
  | tuple ds =>
    simp only [s_cons, s_ite, w_or, w_not, w_isi, w_var, List.getElem?_cons_zero, Option.some.injEq, exists_eq_left', peek_p, isTy, D.p.injEq, PyData.bool.injEq, Bool.not_true, Bool.false_eq_true, if_false]
    rw [w_bi, w_cons]
    refine w_lcmap (fun d => d) (fun d => .bool (powB d)) ?_
    rw [w_iexp, w_var]
    refine ⟨_, rfl, _, rfl, _, rfl, ds, by simp, by have := hv.1; omega, fun a ha => ⟨_, rfl, fun acc Q' q' => ?_⟩, ?_⟩
    · rw [w_call, w_cons, w_var]
      refine ⟨_, rfl, ?_⟩
      rw [w_nil]
      exact w_is_power (k := k) (okDs_mem hv.2 a ha) q'
    · rw [w_nil]
      refine ⟨_, rfl, _, bi_all _ _, ?_⟩
      have mb : monoB (.tuple ds) = (ds.all powB && ascB ds) := rfl
      rw [mb] at q
      cases hp : ds.all powB with
      | false =>
        rw [hp, Bool.false_and] at q
        refine ⟨_, rfl, ?_⟩
        simp only [Bool.not_false, D.p.injEq, PyData.bool.injEq, exists_eq_left', if_true, s_cons, s_ret, w_lit, finD_p, List.take_length]
        exact q
      | true =>
        rw [hp, Bool.true_and] at q
        refine ⟨_, rfl, ?_⟩
        simp only [Bool.not_true, D.p.injEq, PyData.bool.injEq, exists_eq_left', Bool.false_eq_true, if_false, s_nil, s_cons, s_ret, w_call, w_cons, w_nil, w_var, List.getElem?_cons_zero, Option.some.injEq]
        refine w_ascends (k := k + 3) hv.1 (pow_lts hp).1 (pow_lts hp).2 ?_
        rw [finD_p, List.take_length]
        exact q
  | _ =>
    simp only [s_cons, s_ite, w_or, w_not, w_isi, w_var, w_lit, s_ret, List.getElem?_cons_zero, Option.some.injEq, exists_eq_left', peek_p, isTy, D.p.injEq, PyData.bool.injEq, Bool.not_false, if_true, finD_p, List.take_length]
    exact q
end K00
namespace Mi
open PySem L2
theorem pow_law {a b : P} : powB (.tuple [a, b]) = (letterB a && (match b with | .int e => !decide (e < 1) | _ => false)) := by
  cases b with
  | int e =>
    show (letterB a && decide (0 < e)) = (letterB a && !decide (e < 1))
    by_cases h : 0 < e
    · rw [decide_eq_true h, decide_eq_false (by omega : ¬ e < 1)]; rfl
    · rw [decide_eq_false h, decide_eq_true (by omega : e < 1)]; rfl
  | _ => simp [powB]
end Mi
namespace K00
open PySem L2 Mi
theorem w_law_is_mono {k B : Nat} {h : Hh} {v : P} {Q : D → Hh → Prop} (hv : okD B v) (q : Q (.p (.bool (monoB v))) h) : Rw (callN prog 5000 (k + 3) f__law_is_mono [.p v] h) Q := by
  rw [rw_callN (F := prog[f__law_is_mono]) rfl rfl]
  show Sw (exs _ b__law_is_mono [some (.p v), none, none] h) _ _
  unfold b__law_is_mono
  cases v with
  | tuple ds =>
    have mb : monoB (.tuple ds) = (ds.all powB && ascB ds) := rfl
    rw [mb] at q
    simp only [s_cons, s_ite, s_nil, s_fr, w_iexp, w_not, w_isi, w_var, List.getElem?_cons_zero, Option.some.injEq, exists_eq_left', peek_p, isTy, D.p.injEq, PyData.bool.injEq, Bool.not_true, Bool.false_eq_true, if_false]
    refine ⟨ds, rfl, ?_⟩
    refine for_inv (fun rest σ g => g = h ∧ (∃ x, σ = [some (.p (.tuple ds)), x, none]) ∧ ∃ pre, ds = pre ++ rest ∧ pre.all powB = true) ?_ ?_ ds _ h ⟨rfl, ⟨_, rfl⟩, [], rfl, rfl⟩
    · rintro x xs σ g ⟨rfl, ⟨y, rfl⟩, pre, e, hp⟩
      have hx : x ∈ ds := by rw [e]; simp
      have hxB := okDs_mem hv.2 x hx
      have no : powB x = false → Q (.p (.bool false)) g := fun z => by
        have : ds.all powB = false := by rw [e, List.all_append, List.all_cons, z]; simp
        rw [this] at q
        exact q
      refine ⟨_, rfl, ?_⟩
      simp only [s_cons, s_nil, s_ite, w_or, w_not, w_and, w_call, w_cons, w_nil, w_var, List.getElem?_cons_zero, List.getElem?_cons_succ, List.set_cons_succ, List.set_cons_zero, Option.some.injEq, exists_eq_left']
      refine w_is_pair (k := k + 1) ?_
      cases hp2 : pairB x with
      | false =>
        simp only [D.p.injEq, PyData.bool.injEq, exists_eq_left', Bool.false_eq_true, if_false, Bool.not_false, if_true, s_ret, w_lit, finD_p, List.take_length]
        exact no (pow_no_pair hp2)
      | true =>
        obtain ⟨a, b, rfl⟩ := pair_ex hp2
        rw [pow_law] at no
        have ha : okD B a := okDs_mem hxB.2 a (by simp)
        simp only [D.p.injEq, PyData.bool.injEq, exists_eq_left', if_true, w_idx, w_var, w_lit, List.getElem?_cons_zero, List.getElem?_cons_succ, Option.some.injEq, peek_p, ix_t0, ix_t1]
        refine w_law_is_letter (k := k) ha ?_
        cases h1 : letterB a with
        | false =>
          rw [h1] at no
          simp only [D.p.injEq, PyData.bool.injEq, exists_eq_left', Bool.false_eq_true, if_false, Bool.not_false, if_true, s_ret, w_lit, finD_p, List.take_length]
          exact no rfl
        | true =>
          rw [h1, Bool.true_and] at no
          simp only [D.p.injEq, PyData.bool.injEq, exists_eq_left', if_true]
          refine w_law_is_int (k := k + 1) ?_
          cases h2 : isInt b with
          | false =>
            simp only [D.p.injEq, PyData.bool.injEq, exists_eq_left', Bool.false_eq_true, if_false, Bool.not_false, if_true, s_ret, w_lit, finD_p, List.take_length]
            exact no (by cases b <;> first | rfl | cases h2)
          | true =>
            obtain ⟨n, rfl⟩ := isInt_ex h2
            simp only [D.p.injEq, PyData.bool.injEq, exists_eq_left', Bool.not_true, Bool.false_eq_true, if_false, w_cmp, w_idx, w_var, w_lit, List.getElem?_cons_zero, List.getElem?_cons_succ, Option.some.injEq, peek_p, ix_t1, c_lt]
            by_cases hn : n < 1
            · simp only [hn, decide_true, if_true, s_cons, s_ret, w_lit, finD_p, List.take_length]
              exact no (by simp [hn])
            · simp only [hn, decide_false, Bool.false_eq_true, if_false, s_nil]
              refine ⟨trivial, ⟨_, rfl⟩, pre ++ [.tuple [a, .int n]], by simp [e], ?_⟩
              rw [List.all_append, hp, List.all_cons, pow_law, h1]
              simp [hn]
    · rintro σ g ⟨rfl, ⟨y, rfl⟩, pre, e, hp⟩
      rw [List.append_nil] at e
      subst e
      rw [hp, Bool.true_and] at q
      show Sw (ex _ (.ret (ascT 2)) _ _) _ _
      rw [s_ret]
      refine w_asc rfl (by simp) (by decide) hv.1 (pow_lts hp).1 (pow_lts hp).2 ?_
      rw [finD_p, List.take_length]
      exact q
  | _ =>
    simp only [s_cons, s_ite, w_not, w_isi, w_var, w_lit, s_ret, List.getElem?_cons_zero, Option.some.injEq, exists_eq_left', peek_p, isTy, D.p.injEq, PyData.bool.injEq, Bool.not_false, if_true, finD_p, List.take_length]
    exact q
end K00
namespace Mi
open PySem L2
def nzB : P → Bool
  | .tuple (.int n :: _) => !decide (n = 0)
  | _ => false
def termB : P → Bool
  | .tuple [m, f] => monoB m && (fracB f && nzB f)
  | _ => false
def polyB : P → Bool
  | .tuple ds => ds.all termB && ascB ds
  | _ => false
theorem term_no {v : P} (h : pairB v = false) : termB v = false := by
  cases v with
  | tuple ds =>
    match ds, h with
    | [], _ => rfl
    | [a], _ => rfl
    | [a, b], h => cases h
    | a :: b :: c :: r, _ => rfl
  | _ => rfl
theorem frac_ex {v : P} (h : fracB v = true) : ∃ n d, v = .tuple [.int n, .int d] ∧ 0 < d ∧ Int.gcd n d = 1 := by
  cases hp : pairB v with
  | false => rw [(not_pair hp).2] at h; cases h
  | true =>
    obtain ⟨a, b, rfl⟩ := pair_ex hp
    cases h1 : K00.isInt a with
    | false => rw [K00.frac_not (.inl h1)] at h; cases h
    | true =>
      cases h2 : K00.isInt b with
      | false => rw [K00.frac_not (.inr h2)] at h; cases h
      | true =>
        obtain ⟨n, rfl⟩ := K00.isInt_ex h1
        obtain ⟨d, rfl⟩ := K00.isInt_ex h2
        have h' : (decide (0 < d) && decide (Int.gcd n d = 1)) = true := h
        obtain ⟨a1, a2⟩ := Bool.and_eq_true_iff.mp h'
        exact ⟨n, d, rfl, of_decide_eq_true a1, of_decide_eq_true a2⟩
end Mi
namespace K00
open PySem L2 Mi
theorem w_is_term {k B : Nat} {h : Hh} {v : P} {Q : D → Hh → Prop} (hv : okD B v) (q : Q (.p (.bool (termB v))) h) : Rw (callN prog 5000 (k + 6) f_is_term [.p v] h) Q := by
  rw [rw_callN (F := prog[f_is_term]) rfl rfl]
  show Sw (exs _ b_is_term [some (.p v)] h) _ _
  unfold b_is_term
  cases v with
  | tuple ds =>
    simp only [s_cons, s_ite, w_or, w_not, w_isi, w_var, w_cmp, w_bi, w_cons, w_nil, w_lit, List.getElem?_cons_zero, Option.some.injEq, exists_eq_left', peek_p, peeks, isTy, bi_lent, D.p.injEq, PyData.bool.injEq, Bool.not_true, Bool.false_eq_true, if_false, c_ne_len]
    cases hp : pairB (.tuple ds) with
    | false =>
      rw [term_no hp] at q
      simp only [Bool.not_false, if_true, s_ret, w_lit, finD_p, List.take_length]
      exact q
    | true =>
      obtain ⟨a, b, e⟩ := pair_ex hp
      injection e with e
      subst e
      have ha : okD B a := okDs_mem hv.2 a (by simp)
      have hb : okD B b := okDs_mem hv.2 b (by simp)
      have tb : termB (.tuple [a, b]) = (monoB a && (fracB b && nzB b)) := rfl
      rw [tb] at q
      simp only [Bool.not_true, Bool.false_eq_true, if_false, s_nil, s_ret, w_and, w_call, w_cons, w_nil, w_idx, w_var, w_lit, List.getElem?_cons_zero, Option.some.injEq, exists_eq_left', peek_p, ix_t0, ix_t1]
      refine w_is_monomial (k := k) ha ?_
      cases h1 : monoB a with
      | false =>
        rw [h1, Bool.false_and] at q
        simp only [D.p.injEq, PyData.bool.injEq, exists_eq_left', Bool.false_eq_true, if_false, finD_p, List.take_length]
        exact q
      | true =>
        rw [h1, Bool.true_and] at q
        simp only [D.p.injEq, PyData.bool.injEq, exists_eq_left', if_true]
        refine w_is_fraction (k := k + 3) hb ?_
        cases h2 : fracB b with
        | false =>
          rw [h2, Bool.false_and] at q
          simp only [D.p.injEq, PyData.bool.injEq, exists_eq_left', Bool.false_eq_true, if_false, finD_p, List.take_length]
          exact q
        | true =>
          rw [h2, Bool.true_and] at q
          obtain ⟨n, d, rfl, _, _⟩ := frac_ex h2
          simp only [D.p.injEq, PyData.bool.injEq, exists_eq_left', if_true, w_cmp, w_idx, w_var, w_lit, List.getElem?_cons_zero, Option.some.injEq, peek_p, ix_t0, ix_t1, c_ne, finD_p, List.take_length]
          exact q
  | _ =>
    simp only [s_cons, s_ite, w_or, w_not, w_isi, w_var, w_lit, s_ret, List.getElem?_cons_zero, Option.some.injEq, exists_eq_left', peek_p, isTy, D.p.injEq, PyData.bool.injEq, Bool.not_false, if_true, finD_p, List.take_length]
    exact q
end K00
namespace Mi
open PySem L2
theorem pow_alike {a b : P} (ha : powB a = true) (hb : powB b = true) : PySem.W.alike a b = true := by
  obtain ⟨x, i, e, rfl, _⟩ := pow_ex ha
  obtain ⟨y, j, f, rfl, _⟩ := pow_ex hb
  simp [PySem.W.alike, PySem.W.alikeAll]
theorem pow_lay {a : P} (ha : powB a = true) : a.canLay0 = true ∧ a.depth ≤ 4 := by
  obtain ⟨x, i, e, rfl, l, _⟩ := pow_ex ha
  have hx := name_ok (Bool.and_eq_true_iff.mp (show (nameB (.str x) && wholeB (.int i)) = true from l)).1
  simp [PyData.canLay0, PyData.canLayAll0, PyData.depth, PyData.depthAll, hx]
theorem pows_alike : ∀ {as bs : List P}, as.all powB = true → bs.all powB = true → PySem.W.alikeAll as bs = true
  | [], _, _, _ => by unfold PySem.W.alikeAll; rfl
  | _ :: _, [], _, _ => by unfold PySem.W.alikeAll; rfl
  | a :: as, b :: bs, ha, hb => by
    rw [List.all_cons, Bool.and_eq_true] at ha hb
    unfold PySem.W.alikeAll
    rw [pow_alike ha.1 hb.1, pows_alike ha.2 hb.2]; rfl
theorem pows_lay : ∀ {as : List P}, as.all powB = true → PyData.canLayAll0 as = true ∧ PyData.depthAll as ≤ 4
  | [], _ => by simp [PyData.canLayAll0, PyData.depthAll]
  | a :: as, ha => by
    rw [List.all_cons, Bool.and_eq_true] at ha
    have h1 := pow_lay ha.1
    have h2 := pows_lay ha.2
    simp only [PyData.canLayAll0, PyData.depthAll, h1.1, h2.1, Bool.and_self, true_and]
    omega
theorem mono_shp {ds : List P} (h : ds.all powB = true) : shp (.tuple ds) = true := by
  have := pows_lay h
  obtain ⟨h1, h2⟩ := this
  unfold shp SeqAt.shaped
  rw [show (PyData.tuple ds).canLay0 = true from by unfold PyData.canLay0; exact h1, Bool.true_and, decide_eq_true_eq]
  unfold PyData.depth
  omega
theorem ltD_mono {as bs : List P} (ha : as.all powB = true) (hb : bs.all powB = true) : ltD (.tuple as) (.tuple bs) = some (PySem.W.dataLt (.tuple as) (.tuple bs)) := by
  unfold ltD
  have e : PySem.W.alike (.tuple as) (.tuple bs) = true := by unfold PySem.W.alike; exact pows_alike ha hb
  rw [if_pos (by rw [e, mono_shp ha, mono_shp hb]; rfl)]
end Mi
namespace Mi
open PySem L2
theorem term_ex {v : P} (h : termB v = true) : ∃ ms n d, v = .tuple [.tuple ms, .tuple [.int n, .int d]] ∧ ms.all powB = true ∧ ascB ms = true ∧ 0 < d ∧ Int.gcd n d = 1 ∧ n ≠ 0 := by
  cases hp : pairB v with
  | false => rw [term_no hp] at h; cases h
  | true =>
    obtain ⟨a, b, rfl⟩ := pair_ex hp
    have h' : (monoB a && (fracB b && nzB b)) = true := h
    obtain ⟨h1, h2⟩ := Bool.and_eq_true_iff.mp h'
    obtain ⟨h2, h3⟩ := Bool.and_eq_true_iff.mp h2
    obtain ⟨n, d, rfl, p1, p2⟩ := frac_ex h2
    cases a with
    | tuple ms =>
      have h4 : (ms.all powB && ascB ms) = true := h1
      obtain ⟨h5, h6⟩ := Bool.and_eq_true_iff.mp h4
      refine ⟨ms, n, d, rfl, h5, h6, p1, p2, ?_⟩
      have h7 : (!decide (n = 0)) = true := h3
      simpa using h7
    | _ => cases h1
theorem term_lts {ds : List P} (h : ds.all termB = true) : (∀ d ∈ ds, ∃ a r, d = .tuple (a :: r)) ∧ ∀ d ∈ ds, ∀ e ∈ ds, ltD (hd0 d) (hd0 e) = some (PySem.W.dataLt (hd0 d) (hd0 e)) := by
  rw [List.all_eq_true] at h
  refine ⟨fun d hd => ?_, fun d hd e he => ?_⟩
  · obtain ⟨ms, n, d, rfl, _⟩ := term_ex (h d hd)
    exact ⟨_, _, rfl⟩
  · obtain ⟨ms, _, _, rfl, l1, _⟩ := term_ex (h d hd)
    obtain ⟨ns, _, _, rfl, l2, _⟩ := term_ex (h e he)
    exact ltD_mono l1 l2
end Mi
namespace K00
open PySem L2 Mi
theorem w_is_polynomial {k B : Nat} {h : Hh} {v : P} {Q : D → Hh → Prop} (hv : okD B v) (q : Q (.p (.bool (polyB v))) h) : Rw (callN prog 5000 (k + 7) f_is_polynomial [.p v] h) Q := by
  rw [rw_callN (F := prog[f_is_polynomial]) rfl rfl]
  show Sw (exs _ b_is_polynomial [some (.p v), none] h) _ _
  unfold b_is_polynomial
  cases v with
  | tuple ds =>
    simp only [s_cons, s_ite, w_or, w_not, w_isi, w_var, List.getElem?_cons_zero, Option.some.injEq, exists_eq_left', peek_p, isTy, D.p.injEq, PyData.bool.injEq, Bool.not_true, Bool.false_eq_true, if_false]
    rw [w_bi, w_cons]
    refine w_lcmap (fun d => d) (fun d => .bool (termB d)) ?_
    rw [w_iexp, w_var]
    refine ⟨_, rfl, _, rfl, _, rfl, ds, by simp, by have := hv.1; omega, fun a ha => ⟨_, rfl, fun acc Q' q' => ?_⟩, ?_⟩
    · rw [w_call, w_cons, w_var]
      refine ⟨_, rfl, ?_⟩
      rw [w_nil]
      exact w_is_term (k := k) (okDs_mem hv.2 a ha) q'
    · rw [w_nil]
      refine ⟨_, rfl, _, bi_all _ _, ?_⟩
      have mb : polyB (.tuple ds) = (ds.all termB && ascB ds) := rfl
      rw [mb] at q
      cases hp : ds.all termB with
      | false =>
        rw [hp, Bool.false_and] at q
        refine ⟨_, rfl, ?_⟩
        simp only [Bool.not_false, D.p.injEq, PyData.bool.injEq, exists_eq_left', if_true, s_cons, s_ret, w_lit, finD_p, List.take_length]
        exact q
      | true =>
        rw [hp, Bool.true_and] at q
        refine ⟨_, rfl, ?_⟩
        simp only [Bool.not_true, D.p.injEq, PyData.bool.injEq, exists_eq_left', Bool.false_eq_true, if_false, s_nil, s_cons, s_ret, w_call, w_cons, w_nil, w_var, List.getElem?_cons_zero, Option.some.injEq]
        refine w_ascends (k := k + 5) hv.1 (term_lts hp).1 (term_lts hp).2 ?_
        rw [finD_p, List.take_length]
        exact q
  | _ =>
    simp only [s_cons, s_ite, w_or, w_not, w_isi, w_var, w_lit, s_ret, List.getElem?_cons_zero, Option.some.injEq, exists_eq_left', peek_p, isTy, D.p.injEq, PyData.bool.injEq, Bool.not_false, if_true, finD_p, List.take_length]
    exact q
end K00
namespace K00
open PySem L2 Mi
theorem w_law_is_poly {k B : Nat} {h : Hh} {v : P} {Q : D → Hh → Prop} (hv : okD B v) (hB : B ≤ 2400) (q : Q (.p (.bool (polyB v))) h) : Rw (callN prog 5000 (k + 4) f__law_is_poly [.p v] h) Q := by
  rw [rw_callN (F := prog[f__law_is_poly]) rfl rfl]
  show Sw (exs _ b__law_is_poly [some (.p v), none, none, none] h) _ _
  unfold b__law_is_poly
  cases v with
  | tuple ds =>
    have mb : polyB (.tuple ds) = (ds.all termB && ascB ds) := rfl
    rw [mb] at q
    simp only [s_cons, s_ite, s_nil, s_fr, w_iexp, w_not, w_isi, w_var, List.getElem?_cons_zero, Option.some.injEq, exists_eq_left', peek_p, isTy, D.p.injEq, PyData.bool.injEq, Bool.not_true, Bool.false_eq_true, if_false]
    refine ⟨ds, rfl, ?_⟩
    refine for_inv (fun rest σ g => g = h ∧ (∃ x y, σ = [some (.p (.tuple ds)), x, y, none]) ∧ ∃ pre, ds = pre ++ rest ∧ pre.all termB = true) ?_ ?_ ds _ h ⟨rfl, ⟨_, _, rfl⟩, [], rfl, rfl⟩
    · rintro x xs σ g ⟨rfl, ⟨y, y', rfl⟩, pre, e, hp⟩
      have hx : x ∈ ds := by rw [e]; simp
      have hxB := okDs_mem hv.2 x hx
      have no : termB x = false → Q (.p (.bool false)) g := fun z => by
        have : ds.all termB = false := by rw [e, List.all_append, List.all_cons, z]; simp
        rw [this] at q
        exact q
      refine ⟨_, rfl, ?_⟩
      simp only [s_cons, s_nil, s_asg, w_and, w_call, w_cons, w_nil, w_var, List.getElem?_cons_zero, List.getElem?_cons_succ, List.set_cons_succ, List.set_cons_zero, Option.some.injEq, exists_eq_left']
      refine w_is_pair (k := k + 2) ?_
      cases hp2 : pairB x with
      | false =>
        simp only [D.p.injEq, PyData.bool.injEq, exists_eq_left', Bool.false_eq_true, if_false, as_var, List.length_cons, List.length_nil, Nat.reduceAdd, Nat.reduceLT, List.set_cons_succ, List.set_cons_zero, Option.some.injEq, s_ite, w_or, w_not, w_var, List.getElem?_cons_zero, List.getElem?_cons_succ, Bool.not_false, if_true, s_cons, s_ret, w_lit, finD_p, List.take_length]
        exact no (term_no hp2)
      | true =>
        obtain ⟨a, b, rfl⟩ := pair_ex hp2
        have tb : termB (.tuple [a, b]) = (monoB a && (fracB b && nzB b)) := rfl
        rw [tb] at no
        have ha : okD B a := okDs_mem hxB.2 a (by simp)
        have hb : okD B b := okDs_mem hxB.2 b (by simp)
        simp only [D.p.injEq, PyData.bool.injEq, exists_eq_left', if_true, w_idx, w_var, w_lit, List.getElem?_cons_zero, List.getElem?_cons_succ, Option.some.injEq, peek_p, ix_t0, ix_t1]
        refine w_law_is_mono (k := k) ha ?_
        cases h1 : monoB a with
        | false =>
          rw [h1] at no
          simp only [D.p.injEq, PyData.bool.injEq, exists_eq_left', Bool.false_eq_true, if_false, as_var, List.length_cons, List.length_nil, Nat.reduceAdd, Nat.reduceLT, List.set_cons_succ, List.set_cons_zero, Option.some.injEq, s_ite, w_or, w_not, w_var, List.getElem?_cons_zero, List.getElem?_cons_succ, Bool.not_false, if_true, s_cons, s_ret, w_lit, finD_p, List.take_length]
          exact no rfl
        | true =>
          rw [h1, Bool.true_and] at no
          simp only [D.p.injEq, PyData.bool.injEq, exists_eq_left', if_true]
          refine w_law_is_frac (k := k + 1) hb hB ?_
          cases h2 : fracB b with
          | false =>
            rw [h2] at no
            simp only [D.p.injEq, PyData.bool.injEq, exists_eq_left', Bool.false_eq_true, if_false, as_var, List.length_cons, List.length_nil, Nat.reduceAdd, Nat.reduceLT, List.set_cons_succ, List.set_cons_zero, Option.some.injEq, s_ite, w_or, w_not, w_var, List.getElem?_cons_zero, List.getElem?_cons_succ, Bool.not_false, if_true, s_cons, s_ret, w_lit, finD_p, List.take_length]
            exact no rfl
          | true =>
            obtain ⟨n, d, rfl, _, _⟩ := frac_ex h2
            rw [h2, Bool.true_and] at no
            simp only [D.p.injEq, PyData.bool.injEq, exists_eq_left', as_var, List.length_cons, List.length_nil, Nat.reduceAdd, Nat.reduceLT, List.set_cons_succ, List.set_cons_zero, Option.some.injEq, s_ite, w_or, w_not, w_cmp, w_idx, w_var, w_lit, List.getElem?_cons_zero, List.getElem?_cons_succ, Bool.not_true, Bool.false_eq_true, if_false, peek_p, ix_t0, ix_t1, c_eq]
            by_cases hn : n = 0
            · simp only [hn, decide_true, if_true, s_cons, s_ret, w_lit, finD_p, List.take_length]
              exact no (by simp [nzB, hn])
            · simp only [hn, decide_false, Bool.false_eq_true, if_false, s_nil]
              refine ⟨trivial, ⟨_, _, rfl⟩, pre ++ [.tuple [a, .tuple [.int n, .int d]]], by simp [e], ?_⟩
              rw [List.all_append, hp, List.all_cons, tb, h1, h2]
              simp [nzB, hn]
    · rintro σ g ⟨rfl, ⟨y, y', rfl⟩, pre, e, hp⟩
      rw [List.append_nil] at e
      subst e
      rw [hp, Bool.true_and] at q
      show Sw (ex _ (.ret (ascT 3)) _ _) _ _
      rw [s_ret]
      refine w_asc rfl (by simp) (by decide) hv.1 (term_lts hp).1 (term_lts hp).2 ?_
      rw [finD_p, List.take_length]
      exact q
  | _ =>
    simp only [s_cons, s_ite, w_not, w_isi, w_var, w_lit, s_ret, List.getElem?_cons_zero, Option.some.injEq, exists_eq_left', peek_p, isTy, D.p.injEq, PyData.bool.injEq, Bool.not_false, if_true, finD_p, List.take_length]
    exact q
end K00
namespace Mi
open PySem L2
theorem repr3 : ∀ a b c : Bool, Mi.bi .repr [.list [.bool a, .bool b, .bool c]] = some (.str (PyData.list [.bool a, .bool b, .bool c]).shown) := by
  intro a b c
  show (if _ then _ else _) = _
  rw [if_pos (by cases a <;> cases b <;> cases c <;> decide +kernel)]
theorem c_eqs {x y : Str} : cmpop .Eq (.str x) (.str y) = some (x == y) := rfl
theorem c_nes {x y : Str} : cmpop .NotEq (.str x) (.str y) = some (!(x == y)) := rfl
theorem c_eqstr {x : Str} (h : PyData.strOk x = true) : cmpop .Eq (.str x) (.str x) = some true := by rw [c_eqs, beq_self_eq_true]
theorem ok3 : ∀ a b c : Bool, PyData.strOk (PyData.list [.bool a, .bool b, .bool c]).shown = true := by
  intro a b c
  cases a <;> cases b <;> cases c <;> decide +kernel
end Mi
namespace K00
open PySem L2 Mi
theorem w_told_right {k B : Nat} {h : Hh} {v : P} {Q : D → Hh → Prop} (hv : okD B v) (hB : B ≤ 2400) (q : Q (.p (.bool true)) h) : Rw (callN prog 5000 (k + 8) f__law_told_right [.p v] h) Q := by
  rw [rw_callN (F := prog[f__law_told_right]) rfl rfl]
  show Sw (exs _ b__law_told_right [some (.p v), none] h) _ _
  unfold b__law_told_right
  simp only [s_cons, s_asg, w_lst, w_call, w_cons, w_nil, w_var, List.getElem?_cons_zero, Option.some.injEq, exists_eq_left']
  refine w_law_is_letter (k := k + 5) hv (w_law_is_mono (k := k + 4) hv (w_law_is_poly (k := k + 3) hv hB ?_))
  simp only [frzs, frz, Option.some.injEq, exists_eq_left', mk, rw_ok, as_var, List.length_cons, List.length_nil, Nat.reduceAdd, Nat.reduceLT, List.set_cons_succ, List.set_cons_zero, s_ret, w_cmp, w_bi, w_cons, w_nil, w_lst, w_call, w_var, List.getElem?_cons_zero, List.getElem?_cons_succ]
  refine w_is_letter (k := k + 4) hv (w_is_monomial (k := k + 2) hv (w_is_polynomial (k := k) hv ?_))
  simp only [frzs, frz, Option.some.injEq, exists_eq_left', mk, rw_ok, peeks, peek_p, repr3, c_eqstr (ok3 _ _ _), finD_p, List.take_length]
  exact q
end K00
namespace Mi
open PySem L2
theorem mul_lt2 {a b : Int} {m n : Nat} (h1 : a.natAbs < 2 ^ m) (h2 : b.natAbs < 2 ^ n) : (a * b).natAbs < 2 ^ (m + n) := by
  rw [Int.natAbs_mul, Nat.pow_add]
  exact Nat.mul_lt_mul'' h1 h2
theorem add_lt2 {a b : Int} {m : Nat} (h1 : a.natAbs < 2 ^ m) (h2 : b.natAbs < 2 ^ m) : (a + b).natAbs < 2 ^ (m + 1) := by
  have := Int.natAbs_add_le a b
  rw [Nat.pow_succ]
  omega
end Mi
namespace K00
open PySem L2 Mi
theorem w_fsum {k b1 b2 : Nat} {h : Hh} {n d n' d' : Int} {Q : D → Hh → Prop} (f : Fr b1 n d) (f' : Fr b2 n' d') (hb : b1 + b2 + 1 ≤ 2400)
    (q : ∀ m e, Fr (b1 + b2 + 1) m e → Q (.p (frP m e)) h) : Rw (callN prog 5000 (k + 3) f__law_fsum [.p (frP n d), .p (frP n' d')] h) Q := by
  rw [rw_callN (F := prog[f__law_fsum]) rfl rfl]
  show Sw (exs _ b__law_fsum [some (.p (frP n d)), some (.p (frP n' d'))] h) _ _
  unfold b__law_fsum frP
  have m1 : (n * d').natAbs < 2 ^ (b1 + b2) := mul_lt2 f.nb f'.db
  have m2 : (n' * d).natAbs < 2 ^ (b1 + b2) := by rw [Nat.add_comm]; exact mul_lt2 f'.nb f.db
  have m3 : (d * d').natAbs < 2 ^ (b1 + b2) := mul_lt2 f.db f'.db
  have up : ∀ {x : Int} {b : Nat}, x.natAbs < 2 ^ b → b ≤ 2400 → x.natAbs < 2 ^ 2400 := fun hx hb => Nat.lt_of_lt_of_le hx (Nat.pow_le_pow_right (by decide) hb)
  have o1 := mulOk_of (up f.nb (by omega)) (up f'.db (by omega)) (by decide)
  have o2 := mulOk_of (up f'.nb (by omega)) (up f.db (by omega)) (by decide)
  have o3 := mulOk_of (up f.db (by omega)) (up f'.db (by omega)) (by decide)
  simp only [s_cons, s_ret, w_call, w_cons, w_nil, w_bin, w_idx, w_var, w_lit, List.getElem?_cons_zero, List.getElem?_cons_succ, Option.some.injEq, exists_eq_left', peek_p, ix_t0, ix_t1, o_mul o1, o_mul o2, o_mul o3, o_add]
  have a := add_lt2 m1 m2
  refine w_frac (k := k) (B := b1 + b2 + 1) (Int.mul_pos f.pos f'.pos) a (Nat.lt_trans m3 (Nat.pow_lt_pow_right (by decide) (by omega))) hb fun m e fr _ _ => ?_
  rw [finD_p, List.take_length]
  exact q m e fr
end K00
namespace Mi
open PySem L2
theorem eqv_pow {a b : P} (ha : powB a = true) (hb : powB b = true) : PyData.eqv a b = true ↔ a = b := by
  obtain ⟨x, i, e, rfl, _⟩ := pow_ex ha
  obtain ⟨y, j, f, rfl, _⟩ := pow_ex hb
  simp [PyData.eqv, PyData.eqvAll]
theorem eqv_pows : ∀ {as bs : List P}, as.all powB = true → bs.all powB = true → (PyData.eqvAll as bs = true ↔ as = bs)
  | [], [], _, _ => by simp [PyData.eqvAll]
  | [], _ :: _, _, _ => by simp [PyData.eqvAll]
  | _ :: _, [], _, _ => by simp [PyData.eqvAll]
  | a :: as, b :: bs, ha, hb => by
    rw [List.all_cons, Bool.and_eq_true] at ha hb
    rw [PySem.W.eqv_all_cons, Bool.and_eq_true, eqv_pow ha.1 hb.1, eqv_pows ha.2 hb.2, List.cons.injEq]
theorem eqv_mono {a b : P} (ha : monoB a = true) (hb : monoB b = true) : PyData.eqv a b = true ↔ a = b := by
  cases a with
  | tuple as =>
    cases b with
    | tuple bs =>
      have h1 := (Bool.and_eq_true_iff.mp (show (as.all powB && ascB as) = true from ha)).1
      have h2 := (Bool.and_eq_true_iff.mp (show (bs.all powB && ascB bs) = true from hb)).1
      show PyData.eqvAll as bs = true ↔ _
      rw [eqv_pows h1 h2]
      simp
    | _ => cases hb
  | _ => cases ha
end Mi
namespace Mi
open PySem L2
/-- keys on which == is equality -/
structure KP (K : P → Prop) : Prop where
  eq : ∀ a b, K a → K b → (PyData.eqv a b = true ↔ a = b)
  ok : ∀ a, K a → keyOk a = true
  tp : ∀ a, K a → isTupK a = true
section
variable {K : P → Prop} {kvs : List (P × P)} {k v : P}
theorem any_iff (hK : KP K) (ak : ∀ kv ∈ kvs, K kv.1) (hk : K k) : (kvs.any fun kv => PyData.eqv kv.1 k) = true ↔ k ∈ kvs.map (·.1) := by
  rw [List.any_eq_true, List.mem_map]
  constructor
  · rintro ⟨x, hx, e⟩
    exact ⟨x, hx, (hK.eq _ _ (ak x hx) hk).mp e⟩
  · rintro ⟨x, hx, rfl⟩
    exact ⟨x, hx, (hK.eq _ _ (ak x hx) hk).mpr rfl⟩
theorem dget_mem (hK : KP K) : ∀ {kvs : List (P × P)}, (∀ kv ∈ kvs, K kv.1) → (kvs.map (·.1)).Nodup → (k, v) ∈ kvs → dget kvs k = some v
  | [], _, _, h => by cases h
  | (k1, v1) :: r, ak, nd, h => by
    rw [List.map_cons, List.nodup_cons] at nd
    have hk : K k := ak _ h
    have hk1 : K k1 := ak (k1, v1) (by simp)
    unfold dget
    rw [List.find?_cons]
    rcases List.mem_cons.mp h with e | h'
    · cases e
      rw [(hK.eq k k hk hk).mpr rfl]
      rfl
    · have ne : k1 ≠ k := by
        rintro rfl
        exact nd.1 (List.mem_map.mpr ⟨_, h', rfl⟩)
      have : PyData.eqv k1 k = false := by
        rw [← Bool.not_eq_true, hK.eq _ _ hk1 hk]
        exact ne
      simp only [this]
      exact dget_mem hK (fun kv hkv => ak kv (List.mem_cons_of_mem _ hkv)) nd.2 h'
theorem dget_none (hK : KP K) (ak : ∀ kv ∈ kvs, K kv.1) (hk : K k) (h : k ∉ kvs.map (·.1)) : dget kvs k = none := by
  unfold dget
  rw [List.find?_eq_none.mpr]
  · rfl
  · intro x hx e
    exact h (List.mem_map.mpr ⟨x, hx, (hK.eq _ _ (ak x hx) hk).mp e⟩)
theorem dput_new (hK : KP K) (ak : ∀ kv ∈ kvs, K kv.1) (hk : K k) (h : k ∉ kvs.map (·.1)) : dput kvs k v = kvs ++ [(k, v)] := by
  unfold dput
  rw [if_neg]
  rw [any_iff hK ak hk]
  exact h
theorem dput_keys (hK : KP K) (ak : ∀ kv ∈ kvs, K kv.1) (hk : K k) (h : k ∈ kvs.map (·.1)) : (dput kvs k v).map (·.1) = kvs.map (·.1) := by
  unfold dput
  rw [if_pos ((any_iff hK ak hk).mpr h), List.map_map]
  refine List.map_congr_left fun x hx => ?_
  show (if _ then _ else _ : P × P).1 = x.1
  split <;> rfl
theorem dput_mem (hK : KP K) (ak : ∀ kv ∈ kvs, K kv.1) (hk : K k) {x : P × P} (h : x ∈ dput kvs k v) : x ∈ kvs ∨ x = (k, v) := by
  unfold dput at h
  split at h
  · obtain ⟨y, hy, rfl⟩ := List.mem_map.mp h
    split
    · rename_i e
      exact .inr (by rw [(hK.eq _ _ (ak y hy) hk).mp e])
    · exact .inl hy
  · rcases List.mem_append.mp h with h | h
    · exact .inl h
    · exact .inr (List.mem_singleton.mp h)
theorem dput_len (hK : KP K) : (dput kvs k v).length ≤ kvs.length + 1 := by
  unfold dput
  split
  · rw [List.length_map]; omega
  · simp
theorem dput_nodup (hK : KP K) (ak : ∀ kv ∈ kvs, K kv.1) (hk : K k) (nd : (kvs.map (·.1)).Nodup) : ((dput kvs k v).map (·.1)).Nodup := by
  by_cases h : k ∈ kvs.map (·.1)
  · rw [dput_keys hK ak hk h]; exact nd
  · rw [dput_new hK ak hk h, List.map_append, List.nodup_append]
    exact ⟨nd, by simp, fun a ha b hb => by rw [List.map_singleton, List.mem_singleton] at hb; subst hb; exact fun e => h (e ▸ ha)⟩
theorem ddel_sub : (ddel kvs k).Sublist kvs := List.filter_sublist
theorem keyIn_of (hK : KP K) (ak : ∀ kv ∈ kvs, K kv.1) (hk : K k) : keyIn kvs k = true := by
  unfold keyIn
  rw [Bool.and_eq_true, List.all_eq_true]
  refine ⟨hK.ok k hk, fun x hx => ?_⟩
  rw [hK.tp _ (ak x hx), hK.tp _ hk]
  rfl
theorem inD_of (hK : KP K) (ak : ∀ kv ∈ kvs, K kv.1) (hk : K k) : inD k (.dict kvs) = some (dget kvs k).isSome := by
  cases k with
  | tuple ds => simp only [inD, keyIn_of hK ak hk, if_true]
  | _ => cases hK.tp _ hk
theorem dict_ix (hK : KP K) (ak : ∀ kv ∈ kvs, K kv.1) (nd : (kvs.map (·.1)).Nodup) (h : (k, v) ∈ kvs) : idxD (.dict kvs) k = some v := by
  simp only [idxD, keyIn_of hK ak (ak _ h), if_true]
  exact dget_mem hK ak nd h
theorem isSome_dget (hK : KP K) (ak : ∀ kv ∈ kvs, K kv.1) (nd : (kvs.map (·.1)).Nodup) (hk : K k) : (dget kvs k).isSome = true ↔ k ∈ kvs.map (·.1) := by
  constructor
  · intro h
    by_cases c : k ∈ kvs.map (·.1)
    · exact c
    · rw [dget_none hK ak hk c] at h; cases h
  · intro h
    obtain ⟨⟨a, b⟩, hx, rfl⟩ := List.mem_map.mp h
    rw [dget_mem hK ak nd hx]
    rfl
end
theorem pow_nk {a : P} (h : powB a = true) : (toNK a).isSome = true := by
  obtain ⟨x, i, e, rfl, _⟩ := pow_ex h
  rfl
theorem pows_nk : ∀ {as : List P}, as.all powB = true → (toNKs as).isSome = true
  | [], _ => rfl
  | a :: as, h => by
    rw [List.all_cons, Bool.and_eq_true] at h
    have h1 := pow_nk h.1
    have h2 := pows_nk h.2
    unfold toNKs
    cases e1 : toNK a with
    | none => rw [e1] at h1; cases h1
    | some k =>
      cases e2 : toNKs as with
      | none => rw [e2] at h2; cases h2
      | some ks => rfl
def MonK (a : P) : Prop := monoB a = true
theorem mono_tup {a : P} (h : monoB a = true) : ∃ ds, a = .tuple ds ∧ ds.all powB = true ∧ ascB ds = true := by
  cases a with
  | tuple ds =>
    obtain ⟨h1, h2⟩ := Bool.and_eq_true_iff.mp (show (ds.all powB && ascB ds) = true from h)
    exact ⟨ds, rfl, h1, h2⟩
  | _ => cases h
theorem kp_mono : KP MonK where
  eq _ _ ha hb := eqv_mono ha hb
  ok a ha := by
    obtain ⟨ds, rfl, h1, h2⟩ := mono_tup ha
    show ((toNK (.tuple ds)).isSome && decide ((PyData.tuple ds).depth ≤ 8)) = true
    have l := pows_lay h1
    have n := pows_nk h1
    rw [Bool.and_eq_true]
    refine ⟨?_, decide_eq_true ?_⟩
    · unfold toNK
      rw [Option.isSome_map]
      exact n
    · unfold PyData.depth
      have := l.2
      omega
  tp a ha := by
    obtain ⟨ds, rfl, _⟩ := mono_tup ha
    rfl
def LetK (a : P) : Prop := letterB a = true
theorem letter_ex {a : P} (h : letterB a = true) : ∃ x i, a = .tuple [.str x, .int i] ∧ nameB (.str x) = true ∧ 0 ≤ i := by
  obtain ⟨x, i, rfl⟩ := shp_letter h
  obtain ⟨h1, h2⟩ := Bool.and_eq_true_iff.mp (show (nameB (.str x) && wholeB (.int i)) = true from h)
  exact ⟨x, i, rfl, h1, of_decide_eq_true h2⟩
theorem kp_letter : KP LetK where
  eq a b ha hb := by
    obtain ⟨x, i, rfl, _⟩ := letter_ex ha
    obtain ⟨y, j, rfl, _⟩ := letter_ex hb
    simp [PyData.eqv, PyData.eqvAll]
  ok a ha := by
    obtain ⟨x, i, rfl, _⟩ := letter_ex ha
    rfl
  tp a ha := by
    obtain ⟨x, i, rfl, _⟩ := letter_ex ha
    rfl
end Mi
namespace Mi
open PySem L2
theorem KP.sub {K K' : P → Prop} (hK : KP K) (s : ∀ a, K' a → K a) : KP K' := ⟨fun a b x y => hK.eq a b (s a x) (s b y), fun a x => hK.ok a (s a x), fun a x => hK.tp a (s a x)⟩
theorem get_last {h : Hh} {c : Cell} : (h ++ [c])[h.length]? = some c := by simp
theorem set_last {h : Hh} {c c' : Cell} : (h ++ [c]).set h.length c' = h ++ [c'] := by simp
theorem peek_last {h : Hh} {kvs : List (P × P)} : peek (.r h.length) (h ++ [.dct kvs]) = some (.dict kvs) := peek_dct get_last
section
variable {C : Calls} {σ : Sl} {h : Hh} {Q : D → Hh → Prop} {Qn : Sl → Hh → Prop} {Qr : D → Hh → Prop}
theorem w_dct {m : Bool} {es : MEs} : Rw (ev C (.dct m es) σ h) Q ↔ Rw (evs C es σ (h ++ [.dct []])) fun ds h1 => ∃ q, frzs ds h1 = some q ∧ q.2[h.length]? = some (.dct []) ∧ ∃ kvs, dmake q.1 [] = some kvs ∧
    if m = true then Q (.r h.length) (q.2.set h.length (.dct kvs)) else Q (.p (.dict kvs)) (q.2.take h.length) := by
  with_unfolding_all
    rw [ev, rw_bind]
    refine rw_congr fun ds h1 => ?_
    cases e1 : frzs ds h1 with
    | none => simp [rw_bad]
    | some q =>
      obtain ⟨ps, h2⟩ := q
      simp only [Option.some.injEq, exists_eq_left']
      constructor
      · intro x
        cases e2 : h2[h.length]? with
        | none => rw [e2] at x; exact x.elim
        | some c =>
          rw [e2] at x
          cases c with
          | dct kvs0 =>
            cases kvs0 with
            | nil =>
              refine ⟨rfl, ?_⟩
              dsimp only at x
              cases e3 : dmake ps [] with
              | none => rw [e3] at x; exact x.elim
              | some kvs =>
                rw [e3] at x
                refine ⟨kvs, rfl, ?_⟩
                cases m <;> exact x
            | cons a b => exact x.elim
          | _ => exact x.elim
      · rintro ⟨e2, kvs, e3, x⟩
        rw [e2]
        dsimp only
        rw [e3]
        cases m <;> exact x
theorem w_dct0 : Rw (ev C (.dct true .nil) σ h) Q ↔ Q (.r h.length) (h ++ [.dct []]) := by
  rw [w_dct, w_nil]
  constructor
  · rintro ⟨q, e, e2, kvs, e3, x⟩
    cases e
    cases e3
    rw [if_pos rfl, set_last] at x
    exact x
  · intro x
    exact ⟨([], h ++ [.dct []]), rfl, get_last, [], rfl, by rw [if_pos rfl, set_last]; exact x⟩
theorem w_pop {o k : ME} (w : Rw (ev C o σ h) fun x h1 => isDi x h1 = true ∧ Rw (ev C k σ h1) fun y h2 => ∃ i, x = .r i ∧ ∃ k, y = .p k ∧ ∃ kvs, h2[i]? = some (.dct kvs) ∧ keyIn kvs k = true ∧ ∃ v, dget kvs k = some v ∧ Q (.p v) (h2.set i (.dct (ddel kvs k)))) :
    Rw (ev C (.pop o k) σ h) Q := by
  with_unfolding_all
    rw [ev, rw_bind]
    refine w.mono fun x h1 ⟨e, w1⟩ => ?_
    rw [if_pos e, rw_bind]
    refine w1.mono ?_
    rintro y h2 ⟨i, rfl, k, rfl, kvs, e1, e2, v, e3, q⟩
    simp only [e1, e2, if_true, e3]
    exact q
theorem w_get {o k d : ME} (w : Rw (ev C o σ h) fun x h1 => isDi x h1 = true ∧ Rw (ev C k σ h1) fun y h2 => Rw (ev C d σ h2) fun z h3 => ∃ kvs, peek x h3 = some (.dict kvs) ∧ ∃ k, y = .p k ∧ ∃ e, z = .p e ∧ keyIn kvs k = true ∧ Q (.p ((dget kvs k).getD e)) h3) :
    Rw (ev C (.get o k d) σ h) Q := by
  with_unfolding_all
    rw [ev, rw_bind]
    refine w.mono fun x h1 ⟨e, w1⟩ => ?_
    rw [if_pos e, rw_bind]
    refine w1.mono fun y h2 w2 => ?_
    rw [rw_bind]
    refine w2.mono ?_
    rintro z h3 ⟨kvs, e1, k, rfl, e, rfl, e2, q⟩
    simp only [e1, e2, if_true]
    exact q
theorem w_app {o e : ME} (w : Rw (ev C o σ h) fun x h1 => isLi x h1 = true ∧ Rw (ev C e σ h1) fun y h2 => ∃ i, x = .r i ∧ ∃ q, frz y h2 = some q ∧ ∃ ds, q.2[i]? = some (.lst ds) ∧ ds.length < 16000000 ∧ Q (.p .none) (q.2.set i (.lst (ds ++ [q.1])))) :
    Rw (ev C (.app o e) σ h) Q := by
  with_unfolding_all
    rw [ev, rw_bind]
    refine w.mono fun x h1 ⟨e, w1⟩ => ?_
    rw [if_pos e, rw_bind]
    refine w1.mono ?_
    rintro y h2 ⟨i, rfl, ⟨p, h3⟩, e1, ds, e2, e3, q⟩
    simp only [e1, e2, e3, if_true]
    exact q
theorem isDi_of {x : D} {kvs : List (P × P)} (e : peek x h = some (.dict kvs)) : isDi x h = true := by unfold isDi; rw [e]
theorem isLi_of {x : D} {ds : List P} (e : peek x h = some (.list ds)) : isLi x h = true := by unfold isLi; rw [e]
theorem finD_dct {kvs : List (P × P)} : Rw (finD false h.length (.r h.length) (h ++ [.dct kvs])) Q ↔ Q (.p (.dict kvs)) h := by
  with_unfolding_all
    unfold finD fin
    dsimp only
    rw [if_neg (by omega), get_last]
    dsimp only [mk]
    rw [List.take_left]
    exact Iff.rfl
theorem finD_dctm {kvs : List (P × P)} : Rw (finD true h.length (.r h.length) (h ++ [.dct kvs])) Q ↔ Q (.r h.length) (h ++ [.dct kvs]) := by
  with_unfolding_all
    unfold finD fin
    dsimp only
    rw [if_neg (by omega), get_last]
    dsimp only [mk]
    rw [List.take_left]
    exact Iff.rfl
theorem finD_lst {ds : List P} : Rw (finD false h.length (.r h.length) (h ++ [.lst ds])) Q ↔ Q (.p (.list ds)) h := by
  with_unfolding_all
    unfold finD fin
    dsimp only
    rw [if_neg (by omega), get_last]
    dsimp only [mk]
    rw [List.take_left]
    exact Iff.rfl
theorem for_one {asgn : P → Sl → Option Sl} {body : Sl → Hh → SRes} {x : P} {σ1 : Sl} (e : asgn x σ = some σ1) (w : Sw (body σ1 h) Qn Qr) : Sw (forLoop asgn body [x] σ h) Qn Qr := by
  with_unfolding_all
    unfold forLoop
    rw [e]
    dsimp only
    cases eb : body σ1 h with
    | nx σ2 h2 => rw [eb] at w; unfold forLoop; exact w
    | rt d h2 => rw [eb] at w; exact w
    | _ => rw [eb] at w; exact w.elim
end
/-- a monomial of a size that can be asked -/
def MonQ (a : P) : Prop := monoB a = true ∧ okD 200 a ∧ ∃ ds, a = .tuple ds ∧ ds.length ≤ 9
theorem kp_monq : KP MonQ := kp_mono.sub fun _ h => h.1
structure PolOk (n B : Nat) (kvs : List (P × P)) : Prop where
  ks : ∀ kv ∈ kvs, MonQ kv.1
  vs : ∀ kv ∈ kvs, ∃ a b, kv.2 = frP a b ∧ Fr B a b ∧ a ≠ 0
  nd : (kvs.map (·.1)).Nodup
  ln : kvs.length ≤ n
theorem PolOk.put {n B B' : Nat} {kvs : List (P × P)} {k : P} {a b : Int} (p : PolOk n B kvs) (hk : MonQ k) (f : Fr B' a b) (ha : a ≠ 0) (hB : B ≤ B') : PolOk (n + 1) B' (dput kvs k (frP a b)) where
  ks x hx := by
    rcases dput_mem kp_monq p.ks hk hx with h | rfl
    · exact p.ks x h
    · exact hk
  vs x hx := by
    rcases dput_mem kp_monq p.ks hk hx with h | rfl
    · obtain ⟨c, d, e, f, g⟩ := p.vs x h
      exact ⟨c, d, e, f.up hB, g⟩
    · exact ⟨a, b, rfl, f, ha⟩
  nd := dput_nodup kp_monq p.ks hk p.nd
  ln := Nat.le_trans (dput_len kp_monq) (by have := p.ln; omega)
theorem PolOk.del {n B B' : Nat} {kvs : List (P × P)} {k : P} (p : PolOk n B kvs) (hB : B ≤ B') : PolOk (n + 1) B' (ddel kvs k) where
  ks x hx := p.ks x (ddel_sub.subset hx)
  vs x hx := by
    obtain ⟨c, d, e, f, g⟩ := p.vs x (ddel_sub.subset hx)
    exact ⟨c, d, e, f.up hB, g⟩
  nd := (ddel_sub.map _).nodup p.nd
  ln := Nat.le_trans ddel_sub.length_le (by have := p.ln; omega)
end Mi
namespace K00
open PySem L2 Mi
theorem w_plus {k n b1 b2 : Nat} {h : Hh} {kvs : List (P × P)} {mo : P} {a b : Int} {Q : D → Hh → Prop} (p : PolOk n b1 kvs) (hm : MonQ mo) (f : Fr b2 a b) (ha : a ≠ 0) (hb : b1 + b2 + 1 ≤ 2400) (hn : n < 1000)
    (q : ∀ kvs', PolOk (n + 1) (b1 + b2 + 1) kvs' → Q (.p (.dict kvs')) h) : Rw (callN prog 5000 (k + 4) f__law_plus [.p (.dict kvs), .p (.dict [(mo, frP a b)])] h) Q := by
  rw [rw_callN (F := prog[f__law_plus]) rfl rfl]
  show Sw (exs _ b__law_plus [some (.p (.dict kvs)), some (.p (.dict [(mo, frP a b)])), none, none, none] h) _ _
  unfold b__law_plus
  have len := p.ln
  simp only [s_cons, s_asg, w_dct0, as_var, List.length_cons, List.length_nil, Nat.reduceAdd, Nat.reduceLT, List.set_cons_succ, List.set_cons_zero, Option.some.injEq, exists_eq_left', s_fr, w_iexp, w_var, List.getElem?_cons_zero]
  refine ⟨_, rfl, _, rfl, ?_⟩
  refine for_inv (fun rest σ g => ∃ pre post, kvs = pre ++ post ∧ rest = post.map (·.1) ∧ g = h ++ [.dct pre] ∧ ∃ x, σ = [some (.p (.dict kvs)), some (.p (.dict [(mo, frP a b)])), some (.r h.length), x, none]) ?_ ?_ _ _ _ ⟨[], kvs, rfl, rfl, rfl, _, rfl⟩
  · rintro x rest σ g ⟨pre, post, e, e1, rfl, y, rfl⟩
    cases post with
    | nil => cases e1
    | cons kv post =>
      obtain ⟨m1, v1⟩ := kv
      rw [List.map_cons] at e1
      injection e1 with e1 e2
      subst e1 e2
      have mem : (x, v1) ∈ kvs := by rw [e]; simp
      have k1 : MonQ x := p.ks _ mem
      have kpre : ∀ kv ∈ pre, MonQ kv.1 := fun kv hkv => p.ks kv (by rw [e]; exact List.mem_append_left _ hkv)
      have nin : x ∉ pre.map (·.1) := by
        have nd := p.nd
        rw [e, List.map_append, List.map_cons, List.nodup_append] at nd
        intro c
        exact nd.2.2 x c x (by simp) rfl
      refine ⟨_, rfl, ?_⟩
      simp only [s_cons, s_nil, s_put, w_idx, w_var, List.getElem?_cons_zero, List.getElem?_cons_succ, List.set_cons_succ, List.set_cons_zero, Option.some.injEq, exists_eq_left', peek_p, dict_ix kp_monq p.ks p.nd mem]
      refine put_dct get_last (keyIn_of kp_monq kpre k1) (by rw [e, List.length_append] at len; omega) ?_
      rw [set_last, dput_new kp_monq kpre k1 nin]
      exact ⟨pre ++ [(x, v1)], post, by simp [e], rfl, rfl, _, rfl⟩
  · rintro σ g ⟨pre, post, e, e1, rfl, y, rfl⟩
    have : post = [] := by cases post with
      | nil => rfl
      | cons a b => cases e1
    subst this
    rw [List.append_nil] at e
    subst e
    simp only [w_var, List.getElem?_cons_zero, List.getElem?_cons_succ, Option.some.injEq, exists_eq_left']
    refine ⟨_, rfl, _, rfl, ?_⟩
    refine for_one rfl ?_
    have k1 : ∀ kv ∈ [(mo, frP a b)], MonQ kv.1 := fun kv hkv => by rw [List.mem_singleton] at hkv; subst hkv; exact hm
    have i1 : idxD (.dict [(mo, frP a b)]) mo = some (frP a b) := dict_ix kp_monq k1 (by simp) (by simp)
    have cin : cmpop .In mo (.dict kvs) = some (dget kvs mo).isSome := inD_of kp_monq p.ks hm
    simp only [s_cons, s_nil, s_asg, w_ite, w_cmp, w_call, w_cons, w_nil, w_idx, w_var, List.getElem?_cons_zero, List.getElem?_cons_succ, List.set_cons_succ, List.set_cons_zero, Option.some.injEq, exists_eq_left', peek_p, peek_last, cin, D.p.injEq, PyData.bool.injEq, i1]
    by_cases c : mo ∈ kvs.map (·.1)
    · obtain ⟨⟨mo', v⟩, mem, rfl⟩ := List.mem_map.mp c
      obtain ⟨c1, d1, rfl, f1, n1⟩ := p.vs _ mem
      have g1 : dget kvs mo' = some (frP c1 d1) := dget_mem kp_monq p.ks p.nd mem
      have i2 : idxD (.dict kvs) mo' = some (frP c1 d1) := dict_ix kp_monq p.ks p.nd mem
      simp only [g1, Option.isSome_some, if_true, i2, Option.some.injEq, exists_eq_left']
      refine w_fsum (k := k) f1 f hb fun m e fr => ?_
      simp only [as_var, List.length_cons, List.length_nil, Nat.reduceAdd, Nat.reduceLT, List.set_cons_succ, List.set_cons_zero, Option.some.injEq, exists_eq_left', s_ite, w_cmp, w_idx, w_var, w_lit, List.getElem?_cons_zero, List.getElem?_cons_succ, peek_p, frP, ix_t0, c_eq, D.p.injEq, PyData.bool.injEq]
      by_cases z : m = 0
      · simp only [z, decide_true, if_true, s_cons, s_nil, s_exp]
        refine w_pop ?_
        simp only [w_var, List.getElem?_cons_zero, List.getElem?_cons_succ, Option.some.injEq, exists_eq_left']
        refine ⟨isDi_of peek_last, _, rfl, _, rfl, _, get_last, keyIn_of kp_monq p.ks hm, _, g1, ?_⟩
        simp only [s_ret, w_var, List.getElem?_cons_zero, List.getElem?_cons_succ, Option.some.injEq, exists_eq_left', set_last]
        refine finD_dct.mpr ?_
        exact q _ (p.del (by omega))
      · simp only [z, decide_false, Bool.false_eq_true, if_false, s_cons, s_nil, s_put, w_var, List.getElem?_cons_zero, List.getElem?_cons_succ, Option.some.injEq, exists_eq_left']
        refine put_dct get_last (keyIn_of kp_monq p.ks hm) (by omega) ?_
        simp only [s_ret, w_var, List.getElem?_cons_zero, List.getElem?_cons_succ, Option.some.injEq, exists_eq_left', set_last]
        refine finD_dct.mpr ?_
        exact q _ (p.put hm fr z (by omega))
    · have g1 : dget kvs mo = none := dget_none kp_monq p.ks hm c
      simp only [g1, Option.isSome_none, Bool.false_eq_true, if_false, as_var, List.length_cons, List.length_nil, Nat.reduceAdd, Nat.reduceLT, List.set_cons_succ, List.set_cons_zero, Option.some.injEq, exists_eq_left', s_ite, w_cmp, w_idx, w_var, w_lit, List.getElem?_cons_zero, List.getElem?_cons_succ, peek_p, frP, ix_t0, c_eq, D.p.injEq, PyData.bool.injEq, ha, decide_false, s_cons, s_nil, s_put]
      refine put_dct get_last (keyIn_of kp_monq p.ks hm) (by omega) ?_
      simp only [s_ret, w_var, List.getElem?_cons_zero, List.getElem?_cons_succ, Option.some.injEq, exists_eq_left', set_last]
      refine finD_dct.mpr ?_
      exact q _ (p.put hm (f.up (by omega)) ha (by omega))
end K00
namespace Mi
open PySem L2 PySem.Spec PyProof.Rows PySem.W
/-- things that are sorted -/
structure SK (K : P → Prop) : Prop where
  eq : ∀ a b, K a → K b → (PyData.eqv a b = true ↔ a = b)
  al : ∀ a b, K a → K b → PySem.W.alike a b = true
  nn : ∀ a, K a → isNone a = false
  sh : ∀ a, K a → shp a = true
theorem SK.sub {K K' : P → Prop} (hK : SK K) (s : ∀ a, K' a → K a) : SK K' := ⟨fun a b x y => hK.eq a b (s a x) (s b y), fun a b x y => hK.al a b (s a x) (s b y), fun a x => hK.nn a (s a x), fun a x => hK.sh a (s a x)⟩
section
variable {K : P → Prop} {ks : List P}
theorem sortP_perm' : (sortP ks).Perm ks := List.mergeSort_perm ..
theorem sortP_lt (hK : SK K) (ak : ∀ k ∈ ks, K k) (nd : ks.Nodup) : (sortP ks).Pairwise fun a b => dataLt a b = true := by
  have tr : ∀ a b c : P, (!dataLt b a) = true → (!dataLt c b) = true → (!dataLt c a) = true := fun a b c h1 h2 => by
    rw [Bool.not_eq_true'] at h1 h2 ⊢
    rw [← Bool.not_eq_true]
    intro h3
    rcases (listOrd itemOrd).negTrans (keyToks c) (keyToks b) (keyToks a) h3 with z | z
    · rw [show dataLt c b = true from z] at h2; cases h2
    · rw [show dataLt b a = true from z] at h1; cases h1
  have tt : ∀ a b : P, (!dataLt b a || !dataLt a b) = true := fun a b => by
    cases h1 : dataLt b a with
    | false => rfl
    | true =>
      cases h2 : dataLt a b with
      | false => rfl
      | true =>
        have := lex_trans (O := itemOrd) _ _ _ h1 h2
        rw [lex_irrefl] at this; cases this
  have s1 : (sortP ks).Pairwise fun a b => (!dataLt b a) = true := List.pairwise_mergeSort tr tt ks
  have nd' : (sortP ks).Nodup := sortP_perm'.nodup_iff.mpr nd
  refine (s1.and nd').imp_of_mem fun {a b} ha hb ⟨h1, h2⟩ => ?_
  have ka := ak a (sortP_perm'.mem_iff.mp ha)
  have kb := ak b (sortP_perm'.mem_iff.mp hb)
  rw [Bool.not_eq_true'] at h1
  cases h3 : dataLt a b with
  | true => rfl
  | false =>
    exfalso
    have e := lex_total _ _ h3 h1
    have : PyData.eqv a b = false := by
      rw [← Bool.not_eq_true, hK.eq a b ka kb]
      exact h2
    exact lt_or (hK.al a b ka kb) this e
theorem sortOk_of (hK : SK K) (ak : ∀ k ∈ ks, K k) (hl : ks.length ≤ 16000000) : sortOk ks = true := by
  unfold sortOk allAlike
  rw [Bool.and_eq_true, Bool.and_eq_true]
  refine ⟨⟨?_, ?_⟩, decide_eq_true hl⟩
  · rw [List.all_eq_true]
    intro a ha
    rw [List.all_eq_true]
    intro b hb
    exact hK.al a b (ak a ha) (ak b hb)
  · rw [List.all_eq_true]
    intro a ha
    rw [hK.nn a (ak a ha), hK.sh a (ak a ha)]
    rfl
theorem bi_sorted (hK : SK K) (ak : ∀ k ∈ ks, K k) (hl : ks.length ≤ 16000000) : Mi.bi .sorted [.list ks] = some (.list (sortP ks)) := by
  simp only [Mi.bi, sortOk_of hK ak hl, if_true]
theorem sortP_same (hK : SK K) {ks' : List P} (p : ks.Perm ks') (ak : ∀ k ∈ ks, K k) (nd : ks.Nodup) : sortP ks = sortP ks' := by
  refine sortP_perm p (fun a ha b hb => hK.al a b (ak a ha) (ak b hb)) ?_
  refine nd.imp_of_mem fun {a b} ha hb h => ?_
  rw [← Bool.not_eq_true, hK.eq a b (ak a ha) (ak b hb)]
  exact h
theorem asc_of {ds : List P} (h : (ds.map hd0).Pairwise fun a b => dataLt a b = true) : ascB ds = true := by
  unfold ascB
  rw [List.all_eq_true]
  intro j hj
  have hj : j < ds.length - 1 := List.mem_range.mp hj
  have h1 : j < ds.length := by omega
  have h2 : j + 1 < ds.length := by omega
  have := List.pairwise_iff_getElem.mp h j (j + 1) (by rw [List.length_map]; exact h1) (by rw [List.length_map]; exact h2) (by omega)
  rw [List.getElem_map, List.getElem_map] at this
  rw [List.getD_eq_getElem?_getD, List.getD_eq_getElem?_getD, List.getElem?_eq_getElem h1, List.getElem?_eq_getElem h2]
  exact this
end
theorem pows_alike' {as bs : List P} (ha : as.all powB = true) (hb : bs.all powB = true) : PySem.W.alike (.tuple as) (.tuple bs) = true := by unfold PySem.W.alike; exact pows_alike ha hb
theorem sk_mono : SK MonK where
  eq _ _ ha hb := eqv_mono ha hb
  al a b ha hb := by
    obtain ⟨as, rfl, h1, _⟩ := mono_tup ha
    obtain ⟨bs, rfl, h2, _⟩ := mono_tup hb
    exact pows_alike' h1 h2
  nn a ha := by
    obtain ⟨as, rfl, h1, _⟩ := mono_tup ha
    rfl
  sh a ha := by
    obtain ⟨as, rfl, h1, _⟩ := mono_tup ha
    exact mono_shp h1
theorem sk_monq : SK MonQ := sk_mono.sub fun _ h => h.1
theorem sk_letter : SK LetK where
  eq := kp_letter.eq
  al a b ha hb := by
    obtain ⟨x, i, rfl, _⟩ := letter_ex ha
    obtain ⟨y, j, rfl, _⟩ := letter_ex hb
    simp [PySem.W.alike, PySem.W.alikeAll]
  nn a ha := by
    obtain ⟨x, i, rfl, _⟩ := letter_ex ha
    rfl
  sh a ha := by
    obtain ⟨x, i, rfl, hx, _⟩ := letter_ex ha
    simp [shp, SeqAt.shaped, PyData.canLay0, PyData.canLayAll0, PyData.depth, PyData.depthAll, name_ok hx]
def NameK (a : P) : Prop := nameB a = true
theorem name_ex {a : P} (h : nameB a = true) : ∃ x, a = .str x := by
  cases a <;> first | exact ⟨_, rfl⟩ | cases h
theorem sk_name : SK NameK where
  eq a b ha hb := by
    obtain ⟨x, rfl⟩ := name_ex ha
    obtain ⟨y, rfl⟩ := name_ex hb
    simp [PyData.eqv]
  al a b ha hb := by
    obtain ⟨x, rfl⟩ := name_ex ha
    obtain ⟨y, rfl⟩ := name_ex hb
    simp [PySem.W.alike]
  nn a ha := by
    obtain ⟨x, rfl⟩ := name_ex ha
    rfl
  sh a ha := by
    obtain ⟨x, rfl⟩ := name_ex ha
    simp [shp, SeqAt.shaped, PyData.canLay0, PyData.depth, name_ok ha]
/-! an own polynomial in the package's form -/
def formT (kvs : List (P × P)) : List P := (sortP (kvs.map (·.1))).map fun m => .tuple [m, (dget kvs m).getD .none]
theorem PolOk.val {n B : Nat} {kvs : List (P × P)} (p : PolOk n B kvs) {m : P} (h : m ∈ kvs.map (·.1)) : ∃ a b, dget kvs m = some (frP a b) ∧ Fr B a b ∧ a ≠ 0 := by
  obtain ⟨⟨m', v⟩, mem, rfl⟩ := List.mem_map.mp h
  obtain ⟨c1, d1, rfl, f1, n1⟩ := p.vs _ mem
  exact ⟨c1, d1, dget_mem kp_monq p.ks p.nd mem, f1, n1⟩
theorem PolOk.keyq {n B : Nat} {kvs : List (P × P)} (p : PolOk n B kvs) : ∀ m ∈ kvs.map (·.1), MonQ m := fun m h => by
  obtain ⟨x, hx, rfl⟩ := List.mem_map.mp h
  exact p.ks x hx
theorem PolOk.mem {n B : Nat} {kvs : List (P × P)} (p : PolOk n B kvs) {d : P} (h : d ∈ formT kvs) : ∃ m a b, d = .tuple [m, frP a b] ∧ m ∈ kvs.map (·.1) ∧ dget kvs m = some (frP a b) ∧ MonQ m ∧ Fr B a b ∧ a ≠ 0 := by
  obtain ⟨m, hm, rfl⟩ := List.mem_map.mp h
  have hm := sortP_perm'.mem_iff.mp hm
  obtain ⟨a, b, e, f, z⟩ := p.val hm
  exact ⟨m, a, b, by rw [e]; rfl, hm, e, p.keyq m hm, f, z⟩
theorem formT_hd {kvs : List (P × P)} : (formT kvs).map hd0 = sortP (kvs.map (·.1)) := by
  unfold formT
  rw [List.map_map]
  exact List.map_id'' (fun _ => rfl) _
theorem formT_len {kvs : List (P × P)} : (formT kvs).length = kvs.length := by
  unfold formT
  rw [List.length_map, sortP_perm'.length_eq, List.length_map]
theorem PolOk.poly {n B : Nat} {kvs : List (P × P)} (p : PolOk n B kvs) : polyB (.tuple (formT kvs)) = true := by
  show ((formT kvs).all termB && ascB (formT kvs)) = true
  rw [Bool.and_eq_true, List.all_eq_true]
  refine ⟨fun d hd => ?_, ?_⟩
  · obtain ⟨m, a, b, rfl, _, _, hm, f, z⟩ := p.mem hd
    show (monoB m && (fracB (.tuple [.int a, .int b]) && nzB (.tuple [.int a, .int b]))) = true
    rw [hm.1]
    simp [fracB, nzB, f.pos, f.red, z]
  · refine asc_of ?_
    rw [formT_hd]
    exact sortP_lt sk_monq p.keyq p.nd
theorem okDs_of {B : Nat} : ∀ {ds : List P}, (∀ d ∈ ds, okD B d) → okDs B ds
  | [], _ => trivial
  | d :: ds, h => ⟨h d (by simp), okDs_of fun e he => h e (List.mem_cons_of_mem _ he)⟩
mutual
theorem okD.up {B B' : Nat} (h : B ≤ B') : ∀ (d : P), okD B d → okD B' d
  | .int i, x => Nat.lt_of_lt_of_le (show i.natAbs < 2 ^ B from x) (Nat.pow_le_pow_right (by decide) h)
  | .str s, x => x
  | .tuple ds, x => ⟨x.1, okDs.up h ds x.2⟩
  | .list ds, x => ⟨x.1, okDs.up h ds x.2⟩
  | .dict _, x => x
  | .none, _ => trivial
  | .bool _, _ => trivial
theorem okDs.up {B B' : Nat} (h : B ≤ B') : ∀ (ds : List P), okDs B ds → okDs B' ds
  | [], _ => trivial
  | d :: ds, x => ⟨okD.up h d x.1, okDs.up h ds x.2⟩
end
theorem PolOk.okd {n B : Nat} {kvs : List (P × P)} (p : PolOk n B kvs) (hn : n ≤ 1000) (hB : 200 ≤ B) : okD B (.tuple (formT kvs)) := by
  refine ⟨by rw [formT_len]; have := p.ln; omega, okDs_of fun d hd => ?_⟩
  obtain ⟨m, a, b, rfl, _, _, hm, f, z⟩ := p.mem hd
  exact ⟨by simp, okD.up hB m hm.2.1, ⟨by simp, f.nb, f.db, trivial⟩, trivial⟩
end Mi
namespace K00
open PySem L2 Mi
theorem w_form {k n B : Nat} {h : Hh} {kvs : List (P × P)} {Q : D → Hh → Prop} (p : PolOk n B kvs) (hn : n ≤ 1000) (q : Q (.p (.tuple (formT kvs))) h) : Rw (callN prog 5000 (k + 1) f__law_form [.p (.dict kvs)] h) Q := by
  rw [rw_callN (F := prog[f__law_form]) rfl rfl]
  show Sw (exs _ b__law_form [some (.p (.dict kvs)), none] h) _ _
  unfold b__law_form
  have len := p.ln
  rw [s_cons, s_ret, w_bi, w_cons]
  refine w_lcmap (fun m => m) (fun m => .tuple [m, (dget kvs m).getD .none]) ?_
  have b1 : Mi.bi .list [.dict kvs] = some (.list (kvs.map (·.1))) := rfl
  have b2 := bi_sorted sk_monq p.keyq (by rw [List.length_map]; omega)
  simp only [w_iexp, w_bi, w_cons, w_nil, w_var, List.getElem?_cons_zero, Option.some.injEq, exists_eq_left', peek_p, peeks, b1, b2]
  refine ⟨_, rfl, _, rfl, sortP (kvs.map (·.1)), by simp, by rw [sortP_perm'.length_eq, List.length_map]; omega, fun m hm => ⟨_, rfl, fun acc Q' q' => ?_⟩, ?_⟩
  · have hm := sortP_perm'.mem_iff.mp hm
    obtain ⟨a, b, e, f, z⟩ := p.val hm
    obtain ⟨⟨m', v⟩, mem, rfl⟩ := List.mem_map.mp hm
    have e2 : v = frP a b := by
      have := dget_mem kp_monq p.ks p.nd mem
      rw [e] at this
      exact (Option.some.inj this).symm
    rw [e2] at mem
    rw [e] at q'
    have i1 : idxD (.dict kvs) m' = some (frP a b) := dict_ix kp_monq p.ks p.nd mem
    simp only [w_tup, w_cons, w_nil, w_idx, w_var, List.getElem?_cons_zero, List.getElem?_cons_succ, List.set_cons_succ, List.set_cons_zero, Mi.wip, Option.some.injEq, exists_eq_left', peek_p, i1, frzs, frz]
    exact q'
  · have bt : ∀ ds : List P, Mi.bi .tuple [.list ds] = some (.tuple ds) := fun _ => rfl
    simp only [peeks, peek_p, Option.some.injEq, exists_eq_left', bt, finD_p, List.take_length]
    exact q
end K00
namespace Mi
open PySem L2
def LetQ (a : P) : Prop := letterB a = true ∧ okD 100 a
theorem kp_letq : KP LetQ := kp_letter.sub fun _ h => h.1
theorem sk_letq : SK LetQ := sk_letter.sub fun _ h => h.1
def PartOk (E : Nat) (d : P) : Prop := ∃ l e, d = .tuple [l, .int e] ∧ LetQ l ∧ 0 < e ∧ e ≤ E
theorem PartOk.pow {E : Nat} {d : P} (h : PartOk E d) : powB d = true := by
  obtain ⟨l, e, rfl, hl, h1, h2⟩ := h
  show (letterB l && decide (0 < e)) = true
  rw [hl.1, decide_eq_true h1]; rfl
theorem PartOk.up {E E' : Nat} {d : P} (h : PartOk E d) (u : E ≤ E') : PartOk E' d := by
  obtain ⟨l, e, rfl, hl, h1, h2⟩ := h
  exact ⟨l, e, rfl, hl, h1, by omega⟩
structure MonOk (n E : Nat) (ds : List P) : Prop where
  ln : ds.length ≤ n
  ps : ∀ d ∈ ds, PartOk E d
  mo : monoB (.tuple ds) = true
theorem MonOk.q {n E : Nat} {ds : List P} (m : MonOk n E ds) (hn : n ≤ 9) (hE : E < 2 ^ 200) : MonQ (.tuple ds) := by
  refine ⟨m.mo, ⟨by have := m.ln; omega, okDs_of fun d hd => ?_⟩, ds, rfl, by have := m.ln; omega⟩
  obtain ⟨l, e, rfl, hl, h1, h2⟩ := m.ps d hd
  exact ⟨by simp, okD.up (by decide) l hl.2, show e.natAbs < 2 ^ 200 by omega, trivial⟩
structure TabOk (n E : Nat) (kvs : List (P × P)) : Prop where
  ks : ∀ kv ∈ kvs, LetQ kv.1
  vs : ∀ kv ∈ kvs, ∃ e, kv.2 = .int e ∧ 0 < e ∧ e ≤ E
  nd : (kvs.map (·.1)).Nodup
  ln : kvs.length ≤ n
theorem peek_mid {h r : Hh} {kvs : List (P × P)} : peek (.r h.length) ((h ++ [.dct kvs]) ++ r) = some (.dict kvs) := by
  refine peek_dct ?_
  rw [List.append_assoc, List.getElem?_append_right (by omega)]
  simp
theorem bi_tupl {ds : List P} : Mi.bi .tuple [.list ds] = some (.tuple ds) := rfl
theorem bi_listd {kvs : List (P × P)} : Mi.bi .list [.dict kvs] = some (.list (kvs.map (·.1))) := rfl
theorem o_tadd {xs ys : List P} (h : xs.length + ys.length ≤ 16000000) : binop .Add (.tuple xs) (.tuple ys) = some (.tuple (xs ++ ys)) := by
  simp only [binop, h, if_true]
end Mi
namespace K00
open PySem L2 Mi
theorem w_mono {k n E : Nat} {h : Hh} {as bs : List P} {Q : D → Hh → Prop} (hl : as.length + bs.length ≤ n) (pa : ∀ d ∈ as ++ bs, PartOk E d) (hn : n ≤ 1000)
    (q : ∀ ds, MonOk n (n * E) ds → Q (.p (.tuple ds)) h) : Rw (callN prog 5000 (k + 1) f__law_mono [.p (.tuple as), .p (.tuple bs)] h) Q := by
  rw [rw_callN (F := prog[f__law_mono]) rfl rfl]
  show Sw (exs _ b__law_mono [some (.p (.tuple as)), some (.p (.tuple bs)), none, none, none] h) _ _
  unfold b__law_mono
  simp only [s_cons, s_asg, w_dct0, as_var, List.length_cons, List.length_nil, Nat.reduceAdd, Nat.reduceLT, List.set_cons_succ, List.set_cons_zero, Option.some.injEq, exists_eq_left', s_fr, w_iexp, w_bin, w_var, List.getElem?_cons_zero, List.getElem?_cons_succ, peek_p, o_tadd (show as.length + bs.length ≤ 16000000 by omega)]
  refine ⟨_, rfl, _, rfl, ?_⟩
  refine for_inv (fun rest σ g => ∃ pre kvs, as ++ bs = pre ++ rest ∧ g = h ++ [.dct kvs] ∧ TabOk pre.length (pre.length * E) kvs ∧ ∃ x y, σ = [some (.p (.tuple as)), some (.p (.tuple bs)), some (.r h.length), x, y]) ?_ ?_ _ _ _ ⟨[], [], rfl, rfl, ⟨by simp, by simp, by simp, by simp⟩, _, _, rfl⟩
  · rintro x rest σ g ⟨pre, kvs, e, rfl, t, y, y', rfl⟩
    obtain ⟨l, z, rfl, hlq, h1, h2⟩ := pa x (by rw [e]; simp)
    refine ⟨_, rfl, ?_⟩
    have pl : pre.length + (rest.length + 1) = as.length + bs.length := by
      have := congrArg List.length e
      rw [List.length_append, List.length_append, List.length_cons] at this
      omega
    have tl := t.ln
    have st : ∀ v : Int, 0 < v → v ≤ pre.length * E + E → TabOk (pre ++ [PyData.tuple [l, .int z]]).length ((pre ++ [PyData.tuple [l, .int z]]).length * E) (dput kvs l (.int v)) := fun v v1 v2 => by
      rw [List.length_append, List.length_singleton, Nat.add_mul, Nat.one_mul]
      refine ⟨fun kv hkv => ?_, fun kv hkv => ?_, dput_nodup kp_letq t.ks hlq t.nd, Nat.le_trans (dput_len kp_letq) (by omega)⟩
      · rcases dput_mem kp_letq t.ks hlq hkv with c | rfl
        · exact t.ks kv c
        · exact hlq
      · rcases dput_mem kp_letq t.ks hlq hkv with c | rfl
        · obtain ⟨w, w1, w2, w3⟩ := t.vs kv c
          exact ⟨w, w1, w2, by omega⟩
        · exact ⟨v, rfl, v1, by omega⟩
    simp only [s_cons, s_nil, s_put, w_bin, List.set_cons_succ, List.set_cons_zero]
    refine w_get ?_
    simp only [w_var, w_lit, List.getElem?_cons_zero, List.getElem?_cons_succ, Option.some.injEq, exists_eq_left', peek_p]
    refine ⟨isDi_of peek_last, kvs, peek_last, _, rfl, _, rfl, keyIn_of kp_letq t.ks hlq, ?_⟩
    have fin : ∀ v : Int, 0 < v → v ≤ pre.length * E + E → Sw (putD [some (.p (.tuple as)), some (.p (.tuple bs)), some (.r h.length), some (.p l), some (.p (.int z))] (.p (.int v)) (.r h.length) (.p l) (h ++ [.dct kvs])) (fun σ g => ∃ pre kvs, as ++ bs = pre ++ rest ∧ g = h ++ [.dct kvs] ∧ TabOk pre.length (pre.length * E) kvs ∧ ∃ x y, σ = [some (.p (.tuple as)), some (.p (.tuple bs)), some (.r h.length), x, y]) fun d g => Rw (finD (prog[f__law_mono]).mr h.length d g) Q := fun v v1 v2 => by
      refine put_dct get_last (keyIn_of kp_letq t.ks hlq) (by omega) ?_
      rw [set_last]
      exact ⟨pre ++ [PyData.tuple [l, .int z]], _, by simp [e], rfl, st v v1 v2, _, _, rfl⟩
    by_cases c : l ∈ kvs.map (·.1)
    · obtain ⟨⟨l', v⟩, mem, rfl⟩ := List.mem_map.mp c
      obtain ⟨w, rfl, w2, w3⟩ := t.vs _ mem
      have g1 : dget kvs l' = some (.int w) := dget_mem kp_letq t.ks t.nd mem
      simp only [g1, Option.getD_some, o_add, Option.some.injEq, exists_eq_left', peek_p]
      exact fin (w + z) (by omega) (by have := (Int.natCast_mul pre.length E); omega)
    · have g1 : dget kvs l = none := dget_none kp_letq t.ks hlq c
      simp only [g1, Option.getD_none, o_add, Option.some.injEq, exists_eq_left', peek_p]
      exact fin (0 + z) (by omega) (by have := Int.mul_nonneg (Int.natCast_nonneg pre.length) (Int.natCast_nonneg E); omega)
  · rintro σ g ⟨pre, kvs, e, rfl, t, y, y', rfl⟩
    rw [List.append_nil] at e
    subst e
    have tl := t.ln
    rw [List.length_append] at tl
    have kq : ∀ m ∈ kvs.map (·.1), LetQ m := fun m h => by
      obtain ⟨x, hx, rfl⟩ := List.mem_map.mp h
      exact t.ks x hx
    have b2 := bi_sorted sk_letq kq (by rw [List.length_map]; omega)
    have val : ∀ m ∈ kvs.map (·.1), ∃ e, dget kvs m = some (.int e) ∧ idxD (.dict kvs) m = some (.int e) ∧ 0 < e ∧ e ≤ ((as ++ bs).length * E : Nat) := fun m h => by
      obtain ⟨⟨l', v⟩, mem, rfl⟩ := List.mem_map.mp h
      obtain ⟨w, rfl, w2, w3⟩ := t.vs _ mem
      exact ⟨w, dget_mem kp_letq t.ks t.nd mem, dict_ix kp_letq t.ks t.nd mem, w2, w3⟩
    simp only [s_ret]
    rw [w_bi, w_cons]
    refine w_lcmap (fun m => m) (fun m => .tuple [m, (dget kvs m).getD .none]) ?_
    simp only [w_iexp, w_bi, w_cons, w_nil, w_var, List.getElem?_cons_zero, List.getElem?_cons_succ, Option.some.injEq, exists_eq_left', peek_p, peeks, peek_last, bi_listd, b2]
    refine ⟨_, rfl, _, rfl, sortP (kvs.map (·.1)), by simp, by rw [sortP_perm'.length_eq, List.length_map]; omega, fun m hm => ⟨_, rfl, fun acc Q' q' => ?_⟩, ?_⟩
    · have hm := sortP_perm'.mem_iff.mp hm
      obtain ⟨w, g1, g2, _⟩ := val m hm
      rw [g1] at q'
      simp only [w_tup, w_cons, w_nil, w_idx, w_var, List.getElem?_cons_zero, List.getElem?_cons_succ, List.set_cons_succ, List.set_cons_zero, Mi.wip, Option.some.injEq, exists_eq_left', peek_p, peek_mid, g2, frzs, frz]
      exact q'
    · simp only [peeks, peek_p, Option.some.injEq, exists_eq_left', bi_tupl, finD_p, List.take_left]
      have hd : ((sortP (kvs.map (·.1))).map fun m => PyData.tuple [m, (dget kvs m).getD .none]).map hd0 = sortP (kvs.map (·.1)) := by
        rw [List.map_map]
        exact List.map_id'' (fun _ => rfl) _
      have hE : (as ++ bs).length * E ≤ n * E := Nat.mul_le_mul_right _ (by rw [List.length_append]; exact hl)
      have ps : ∀ d ∈ ((sortP (kvs.map (·.1))).map fun m => PyData.tuple [m, (dget kvs m).getD .none]), PartOk (n * E) d := fun d hd => by
        obtain ⟨m, hm, rfl⟩ := List.mem_map.mp hd
        have hm := sortP_perm'.mem_iff.mp hm
        obtain ⟨w, g1, g2, w1, w2⟩ := val m hm
        exact ⟨m, w, by rw [g1]; rfl, kq m hm, w1, by omega⟩
      refine q _ ⟨by rw [List.length_map, sortP_perm'.length_eq, List.length_map]; omega, ps, ?_⟩
      show (_ && _) = true
      rw [Bool.and_eq_true, List.all_eq_true]
      refine ⟨fun d hd => (ps d hd).pow, asc_of ?_⟩
      rw [hd]
      exact sortP_lt sk_letq kq t.nd
end K00
namespace Mi
open PySem L2
theorem MOk.up {c : Cell} {n n' : Nat} (m : MOk c n) (h : n ≤ n') : MOk c n' := by
  obtain ⟨l, sd, sp, cs, e, h1, h2, h3, h4, h5, h6⟩ := m.ex
  exact ⟨l, sd, sp, cs, e, h1, h2, h3, h4, by omega, h6⟩
theorem set_app {h r : Hh} {i : Nat} {c : Cell} (hi : i < h.length) : (h ++ r).set i c = h.set i c ++ r := by
  rw [List.set_append_left _ _ hi]
theorem get_app {h r : Hh} {i : Nat} {c : Cell} (e : h[i]? = some c) : (h ++ r)[i]? = some c := by
  rw [List.getElem?_append_left (List.getElem?_eq_some_iff.mp e).1]; exact e
theorem get_lt {h : Hh} {i : Nat} {c : Cell} (e : h[i]? = some c) : i < h.length := (List.getElem?_eq_some_iff.mp e).1
theorem get_set {h : Hh} {i : Nat} {c c' : Cell} (e : h[i]? = some c) : (h.set i c')[i]? = some c' := by rw [List.getElem?_set_self (get_lt e)]
theorem take_set {h : Hh} {i : Nat} {c : Cell} : (h.set i c).take h.length = h.set i c := List.take_of_length_le (by rw [List.length_set]; exact Nat.le_refl _)
theorem app_cps {x y : Str} : (x ++ y).cps.toList = x.cps.toList ++ y.cps.toList := by
  have e : (x ++ y).cps = x.cps ++ y.cps := rfl
  rw [e, Array.toList_append]
theorem rng_of {n : Int} (h : bd n = true) : rngOf [.int n] = some (rngP 0 n.toNat) := by simp only [rngOf, h, if_true]
theorem bd_of {n : Int} (h1 : -4611686018427387904 ≤ n) (h2 : n < 4611686018427387904) : bd n = true := by
  unfold bd
  rw [Bool.and_eq_true]
  exact ⟨decide_eq_true (by omega), decide_eq_true (by omega)⟩
theorem rngP_len {a : Int} {n : Nat} : (rngP a n).length = n := by unfold rngP; simp
theorem ix_strn {x : Str} {n : Nat} (hl : x.length ≤ 16000000) (hn : n < x.cps.toList.length) : idxD (.str x) (.int n) = some (.str ⟨#[x.cps.toList[n]]⟩) := by
  have aux : ∀ (l : List Nat) (hn : n < l.length), atI l (n : Int) = some l[n] := fun l hn => by simp [atI, ixN, hn]
  simp only [idxD, hl, if_true, aux _ hn]
  rfl
theorem ix_list {ds : List P} {n : Int} (h0 : 0 ≤ n) (h1 : n < ds.length) : ∃ d ∈ ds, idxD (.list ds) (.int n) = some d := by
  obtain ⟨m, rfl⟩ : ∃ m : Nat, n = m := ⟨n.toNat, by omega⟩
  have hm : m < ds.length := by omega
  exact ⟨ds[m], List.getElem_mem hm, by simp [idxD, atI, ixN, hm]⟩
theorem ix_tuple {ds : List P} {n : Int} (h0 : 0 ≤ n) (h1 : n < ds.length) : ∃ d ∈ ds, idxD (.tuple ds) (.int n) = some d := by
  obtain ⟨m, rfl⟩ : ∃ m : Nat, n = m := ⟨n.toNat, by omega⟩
  have hm : m < ds.length := by omega
  exact ⟨ds[m], List.getElem_mem hm, by simp [idxD, atI, ixN, hm]⟩
theorem o_pow {i j : Int} (h : powOk i j = true) : binop .Pow (.int i) (.int j) = some (.int (i ^ j.toNat)) := by simp only [binop, h, if_true]
def nameL (l : List Nat) : Bool := match l with
  | [] => false
  | c :: r => isSm c && (c :: r).all fun c => isSm c || isFg c
theorem nameB_of {x : Str} (h : nameL x.cps.toList = true) (hl : x.cps.toList.length ≤ 8) : nameB (.str x) = true := by
  cases e : x.cps.toList with
  | nil => rw [e] at h; cases h
  | cons c r =>
    rw [e] at h hl
    obtain ⟨h1, h2⟩ := Bool.and_eq_true_iff.mp (show (isSm c && (c :: r).all fun c => isSm c || isFg c) = true from h)
    simp only [nameB, e]
    rw [h1, h2, decide_eq_true (by simp at hl; omega : r.length ≤ 7)]
    rfl
theorem nameL_app {l : List Nat} {c : Nat} (h : nameL l = true) (hc : (isSm c || isFg c) = true) : nameL (l ++ [c]) = true := by
  cases l with
  | nil => cases h
  | cons a r =>
    obtain ⟨h1, h2⟩ := Bool.and_eq_true_iff.mp (show (isSm a && (a :: r).all fun c => isSm c || isFg c) = true from h)
    show (isSm a && ((a :: r) ++ [c]).all fun c => isSm c || isFg c) = true
    rw [h1, List.all_append, h2, Bool.true_and, Bool.true_and, List.all_cons, hc]
    rfl
end Mi
namespace K00
open PySem L2 Mi
theorem w_of {k n i : Nat} {h : Hh} {c : Cell} {ds : List P} {Q : D → Hh → Prop} (hi : h[i]? = some c) (m : MOk c n) (hn : n < 2 ^ 60) (h0 : ds ≠ []) (hl : ds.length ≤ 16000000)
    (q : ∀ d ∈ ds, ∀ c', MOk c' (n + 1) → Q (.p d) (h.set i c')) : Rw (callN prog 5000 (k + 2) f__law_of [.r i, .p (.list ds)] h) Q := by
  rw [rw_callN (F := prog[f__law_of]) rfl rfl]
  show Sw (exs _ b__law_of [some (.r i), some (.p (.list ds))] h) _ _
  unfold b__law_of
  have ln : 0 < ds.length := List.length_pos_iff.mpr h0
  simp only [s_cons, s_ret, w_idx, w_call, w_cons, w_nil, w_bi, w_var, List.getElem?_cons_zero, List.getElem?_cons_succ, Option.some.injEq, exists_eq_left', peek_p, peeks, bi_lenl]
  refine w_draw (k := k) hi m hn (by omega) (divOk_of (B := 24) (by omega) (by rw [Int.natAbs_natCast]; omega) (by decide)) fun r c' r0 r1 m' => ?_
  obtain ⟨d, hd, e⟩ := ix_list r0 r1
  simp only [peek_p, Option.some.injEq, exists_eq_left', e, finD_p, take_set]
  exact q d hd c' m'
theorem w_name {k n i : Nat} {h : Hh} {c : Cell} {Q : D → Hh → Prop} (hi : h[i]? = some c) (m : MOk c n) (hn : n + 9 < 2 ^ 60)
    (q : ∀ x c', nameB (.str x) = true → MOk c' (n + 9) → Q (.p (.str x)) (h.set i c')) : Rw (callN prog 5000 (k + 2) f__law_name [.r i] h) Q := by
  rw [rw_callN (F := prog[f__law_name]) rfl rfl]
  show Sw (exs _ b__law_name [some (.r i), none, none, none] h) _ _
  unfold b__law_name
  have l26 : smallS.cps.toList.length = 26 := by decide +kernel
  have l36 : (smallS ++ figsS).cps.toList.length = 36 := by decide +kernel
  have s26 : smallS.length ≤ 16000000 := by decide +kernel
  have s36 : (smallS ++ figsS).length ≤ 16000000 := by decide +kernel
  simp only [s_cons, s_asg, s_fr, w_idx, w_call, w_cons, w_nil, w_lit, w_var, w_irng, as_var, List.length_cons, List.length_nil, Nat.reduceAdd, Nat.reduceLT, List.set_cons_succ, List.set_cons_zero, List.getElem?_cons_zero, List.getElem?_cons_succ, Option.some.injEq, exists_eq_left', peek_p]
  refine w_draw (k := k) hi m (by omega) (by decide) (by decide +kernel) fun r c1 r0 r1 m1 => ?_
  obtain ⟨r, rfl⟩ : ∃ z : Nat, r = z := ⟨r.toNat, by omega⟩
  have i1 := ix_strn (x := smallS) (n := r) s26 (by omega)
  have hc : isSm smallS.cps.toList[r] = true := decide_eq_true (List.getElem_mem _)
  generalize smallS.cps.toList[r] = a at *
  simp only [show (Str.ofString "abcdefghijklmnopqrstuvwxyz") = smallS from rfl, i1, Option.some.injEq, exists_eq_left', as_var, List.length_cons, List.length_nil, Nat.reduceAdd, Nat.reduceLT, List.set_cons_succ, List.set_cons_zero, List.getElem?_cons_zero, List.getElem?_cons_succ, peek_p]
  refine w_draw (k := k) (get_set hi) m1 (by omega) (by decide) (by decide +kernel) fun r' c2 r0' r1' m2 => ?_
  simp only [List.set_set, peeks, peek_p, Option.some.injEq, exists_eq_left', rng_of (bd_of (n := r') (by omega) (by omega))]
  refine for_inv (fun rest σ g => ∃ c' x y, g = h.set i c' ∧ rest.length ≤ 7 ∧ MOk c' (n + 9 - rest.length) ∧ σ = [some (.r i), some (.p (.str smallS)), some (.p (.str x)), y] ∧ nameL x.cps.toList = true ∧ x.cps.toList.length + rest.length ≤ 8) ?_ ?_ _ _ _ ⟨c2, _, _, rfl, by rw [rngP_len]; omega, m2.up (by rw [rngP_len]; omega), rfl, by simp [nameL, hc], by rw [rngP_len]; simp; omega⟩
  · rintro z rest σ g ⟨c', x, y, rfl, h1, h2, rfl, h3, h4⟩
    refine ⟨_, rfl, ?_⟩
    rw [List.length_cons] at h1 h2 h4
    have sl : smallS.length + figsS.length ≤ 16000000 := by decide +kernel
    simp only [s_cons, s_nil, s_asg, w_bin, w_idx, w_call, w_cons, w_nil, w_lit, w_var, List.set_cons_succ, List.set_cons_zero, List.getElem?_cons_zero, List.getElem?_cons_succ, Option.some.injEq, exists_eq_left', peek_p, show (Str.ofString "0123456789") = figsS from rfl, o_sadd sl]
    refine w_draw (k := k) (get_set hi) h2 (by omega) (by decide) (by decide +kernel) fun r c3 r0 r1 m3 => ?_
    obtain ⟨r, rfl⟩ : ∃ z : Nat, r = z := ⟨r.toNat, by omega⟩
    have i2 := ix_strn (x := smallS ++ figsS) (n := r) s36 (by omega)
    have hc2 : (isSm (smallS ++ figsS).cps.toList[r] || isFg (smallS ++ figsS).cps.toList[r]) = true := by
      have e : ∀ a ∈ (smallS ++ figsS).cps.toList, (isSm a || isFg a) = true := fun a ha => by
        rw [app_cps, List.mem_append] at ha
        rw [Bool.or_eq_true]
        exact ha.imp decide_eq_true decide_eq_true
      exact e _ (List.getElem_mem _)
    generalize (smallS ++ figsS).cps.toList[r] = a' at *
    have xl : x.length ≤ 8 := by rw [str_len]; omega
    have l1 : (⟨#[a']⟩ : Str).length = 1 := rfl
    have o1 : binop .Add (.str x) (.str ⟨#[a']⟩) = some (.str (x ++ ⟨#[a']⟩)) := o_sadd (by omega)
    simp only [i2, o1, Option.some.injEq, exists_eq_left', as_var, List.length_cons, List.length_nil, Nat.reduceAdd, Nat.reduceLT, List.set_cons_succ, List.set_cons_zero, peek_p, List.set_set]
    refine ⟨c3, _, _, rfl, by omega, m3.up (by omega), rfl, ?_, ?_⟩
    · rw [app_cps]
      exact nameL_app h3 hc2
    · rw [app_cps, List.length_append]
      show x.cps.toList.length + 1 + rest.length ≤ 8
      omega
  · rintro σ g ⟨c', x, y, rfl, h1, h2, rfl, h3, h4⟩
    simp only [s_ret, w_var, List.getElem?_cons_zero, List.getElem?_cons_succ, Option.some.injEq, exists_eq_left', finD_p, take_set]
    exact q x c' (nameB_of h3 (by simpa using h4)) h2
theorem w_amount {k n i : Nat} {h : Hh} {c : Cell} {Q : D → Hh → Prop} (hi : h[i]? = some c) (m : MOk c n) (hn : n + 2 < 2 ^ 60)
    (q : ∀ a c', a.natAbs < 2 ^ 134 → MOk c' (n + 2) → Q (.p (.int a)) (h.set i c')) : Rw (callN prog 5000 (k + 2) f__law_amount [.r i] h) Q := by
  rw [rw_callN (F := prog[f__law_amount]) rfl rfl]
  show Sw (exs _ b__law_amount [some (.r i), none] h) _ _
  unfold b__law_amount
  simp only [s_cons, s_asg, w_call, w_cons, w_nil, w_lit, w_var, List.getElem?_cons_zero, List.getElem?_cons_succ, Option.some.injEq, exists_eq_left', peek_p]
  refine w_draw (k := k) hi m (by omega) (by decide) (by decide +kernel) fun r c1 r0 r1 m1 => ?_
  have hi1 := get_set (c' := c1) hi
  have p1 : binop .Pow (.int 10) (.int 40) = some (.int (10 ^ 40)) := o_pow (by decide +kernel)
  have p2 : binop .Pow (.int 10) (.int 39) = some (.int (10 ^ 39)) := o_pow (by decide +kernel)
  simp only [as_var, List.length_cons, List.length_nil, Nat.reduceAdd, Nat.reduceLT, List.set_cons_succ, List.set_cons_zero, List.getElem?_cons_zero, List.getElem?_cons_succ, Option.some.injEq, exists_eq_left', s_ite, w_cmp, w_var, w_lit, peek_p, c_eq, D.p.injEq, PyData.bool.injEq]
  by_cases z : r = 0
  · simp only [z, decide_true, if_true, s_cons, s_ret, w_bin, w_call, w_cons, w_nil, w_lit, w_var, List.getElem?_cons_zero, Option.some.injEq, exists_eq_left', peek_p, p1, p2]
    refine w_draw (k := k) hi1 m1 (by omega) (by decide) (by decide +kernel) fun r' c2 r0' r1' m2 => ?_
    simp (disch := decide) only [o_mul1, o_sub, Option.some.injEq, exists_eq_left', peek_p, finD_p, List.set_set, take_set]
    refine q _ c2 ?_ m2
    have : (10:Int) ^ 40 = 10000000000000000000000000000000000000000 := by decide +kernel
    have : (10:Int) ^ 39 = 1000000000000000000000000000000000000000 := by decide +kernel
    have : 2 ^ 134 = 21778071482940061661655974875633165533184 := by decide +kernel
    omega
  · simp only [z, decide_false, Bool.false_eq_true, if_false, s_nil, s_ret, w_ite, w_cmp, w_bin, w_call, w_cons, w_nil, w_lit, w_var, List.getElem?_cons_zero, List.getElem?_cons_succ, Option.some.injEq, exists_eq_left', peek_p, c_lt, D.p.injEq, PyData.bool.injEq]
    have : 2 ^ 134 = 21778071482940061661655974875633165533184 := by decide +kernel
    by_cases z2 : r < 3
    · simp only [z2, decide_true, if_true]
      refine w_draw (k := k) hi1 m1 (by omega) (by decide) (by decide +kernel) fun r' c2 r0' r1' m2 => ?_
      simp only [o_sub, Option.some.injEq, exists_eq_left', peek_p, finD_p, List.set_set, take_set]
      exact q _ c2 (by omega) m2
    · simp only [z2, decide_false, Bool.false_eq_true, if_false]
      refine w_draw (k := k) hi1 m1 (by omega) (by decide) (by decide +kernel) fun r' c2 r0' r1' m2 => ?_
      simp only [o_sub, Option.some.injEq, exists_eq_left', peek_p, finD_p, List.set_set, take_set]
      exact q _ c2 (by omega) m2
theorem w_fraction {k n i : Nat} {h : Hh} {c : Cell} {Q : D → Hh → Prop} (hi : h[i]? = some c) (m : MOk c n) (hn : n + 5 < 2 ^ 60)
    (q : ∀ a b c', Fr 140 a b → a ≠ 0 → MOk c' (n + 5) → Q (.p (frP a b)) (h.set i c')) : Rw (callN prog 5000 (k + 3) f__law_fraction [.r i] h) Q := by
  rw [rw_callN (F := prog[f__law_fraction]) rfl rfl]
  show Sw (exs _ b__law_fraction [some (.r i), none] h) _ _
  unfold b__law_fraction
  simp only [s_cons, s_asg, w_call, w_cons, w_nil, w_lit, w_var, List.getElem?_cons_zero, List.getElem?_cons_succ, Option.some.injEq, exists_eq_left', peek_p]
  refine w_amount (k := k) hi m (by omega) fun a c1 ab m1 => ?_
  have hi1 := get_set (c' := c1) hi
  simp only [as_var, List.length_cons, List.length_nil, Nat.reduceAdd, Nat.reduceLT, List.set_cons_succ, List.set_cons_zero, List.getElem?_cons_zero, List.getElem?_cons_succ, Option.some.injEq, exists_eq_left', s_ret, w_call, w_cons, w_nil, w_ite, w_cmp, w_bin, w_bi, w_var, w_lit, peek_p, c_ne, c_eq, D.p.injEq, PyData.bool.injEq]
  obtain ⟨a', e, ab', nz⟩ : ∃ a', (if a = 0 then 1 else a) = a' ∧ a'.natAbs < 2 ^ 134 ∧ a' ≠ 0 := by
    refine ⟨_, rfl, ?_⟩
    split
    · exact ⟨by decide +kernel, by decide⟩
    · exact ⟨ab, by assumption⟩
  have big : 2 ^ 134 < 2 ^ 140 := by decide +kernel
  have two : (2:Nat) ^ 140 = 2 ^ 134 * 64 := by decide +kernel
  have fin : ∀ (b : Int) (c' : Cell), 0 < b → b.natAbs < 2 ^ 140 → MOk c' (n + 5) → Rw (callN prog 5000 (k + 2) f__law_frac [.p (.int a'), .p (.int b)] (h.set i c')) fun d g => Rw (finD (prog[f__law_fraction]).mr h.length d g) Q := fun b c' b0 b1 m' => by
    refine w_frac (k := k) (B := 140) b0 (Nat.lt_trans ab' big) b1 (by decide) fun n' d' fr nz' _ => ?_
    refine finD_p.mpr ?_
    rw [take_set]
    exact q n' d' c' fr (fun z => nz (nz'.mpr z)) m'
  have key : ∀ {x : Int}, x = a' → Rw (callN prog 5000 (k + 2) f__law_draw [.r i, .p (.int 2)] (h.set i c1)) (fun x_1 h1 => ∃ p, peek x_1 h1 = some p ∧ ∃ d, cmpop .Eq p (.int 0) = some d ∧ if d = true then Rw (callN prog 5000 (k + 2) f__law_amount [.r i] h1) (fun x_2 h1 => ∃ ps, peeks [x_2] h1 = some ps ∧ ∃ d, Mi.bi .abs ps = some d ∧ ∃ e, binop .Add (.int 1) d = some e ∧ Rw (callN prog 5000 (k + 2) f__law_frac [.p (.int x), .p e] h1) fun d g => Rw (finD (prog[f__law_fraction]).mr h.length d g) Q) else Rw (callN prog 5000 (k + 2) f__law_frac [.p (.int x), .p (.int 1)] h1) fun d g => Rw (finD (prog[f__law_fraction]).mr h.length d g) Q) := fun {x} ex => by
    subst ex
    refine w_draw (k := k + 1) hi1 m1 (by omega) (by decide) (by decide +kernel) fun r c2 r0 r1 m2 => ?_
    simp only [peek_p, Option.some.injEq, exists_eq_left', c_eq, List.set_set]
    by_cases z : r = 0
    · simp only [z, decide_true, if_true]
      refine w_amount (k := k) (get_set hi) m2 (by omega) fun b c3 bb m3 => ?_
      simp only [peeks, peek_p, Option.some.injEq, exists_eq_left', bi_abs, o_add, List.set_set]
      exact fin _ c3 (by omega) (by omega) m3
    · simp only [z, decide_false, Bool.false_eq_true, if_false]
      exact fin 1 c2 (by decide) (by decide +kernel) (m2.up (by omega))
  by_cases z : a = 0
  · rw [if_pos z] at e
    simp only [z, decide_true, Bool.not_true, Bool.false_eq_true, if_false]
    exact key e
  · rw [if_neg z] at e
    simp only [z, decide_false, Bool.not_false, if_true]
    exact key e
end K00
namespace Mi
open PySem L2
theorem name_len {x : Str} (h : nameB (.str x) = true) : 1 ≤ x.cps.toList.length ∧ x.cps.toList.length ≤ 8 := by
  unfold nameB at h
  cases e : x.cps.toList with
  | nil => simp only [e] at h; cases h
  | cons c r =>
    simp only [e, Bool.and_eq_true, decide_eq_true_eq] at h
    simp only [List.length_cons]
    omega
theorem letq_of {x : Str} {i : Int} (h : nameB (.str x) = true) (h0 : 0 ≤ i) (h1 : i < 1000000) : LetQ (.tuple [.str x, .int i]) := by
  refine ⟨?_, by simp, ?_, ?_, trivial⟩
  · show (nameB (.str x) && decide (0 ≤ i)) = true
    rw [h, decide_eq_true h0]; rfl
  · show x.length ≤ 1000
    have := (name_len h).2
    rw [str_len]
    omega
  · show i.natAbs < 2 ^ 100
    omega
theorem MonOk.up {n E n' E' : Nat} {ds : List P} (m : MonOk n E ds) (hn : n ≤ n') (hE : E ≤ E') : MonOk n' E' ds := ⟨by have := m.ln; omega, fun d hd => (m.ps d hd).up hE, m.mo⟩
theorem set_same {h : Hh} {i : Nat} {c : Cell} (e : h[i]? = some c) : h.set i c = h := by
  obtain ⟨l, rfl⟩ := List.getElem?_eq_some_iff.mp e
  exact List.set_getElem_self l
theorem MonOk.nil {n E : Nat} : MonOk n E [] := ⟨Nat.zero_le _, fun d hd => (nomatch hd), rfl⟩
end Mi
namespace K00
open PySem L2 Mi
theorem w_monomial {k n i : Nat} {h : Hh} {c : Cell} {ns : List P} {Q : D → Hh → Prop} (hi : h[i]? = some c) (m : MOk c n) (hn : n + 10 < 2 ^ 60) (n0 : ns ≠ []) (nl : ns.length ≤ 1000) (nn : ∀ d ∈ ns, nameB d = true)
    (q : ∀ ds c', MonOk 3 192 ds → MOk c' (n + 10) → Q (.p (.tuple ds)) (h.set i c')) : Rw (callN prog 5000 (k + 3) f__law_monomial [.r i, .p (.list ns)] h) Q := by
  rw [rw_callN (F := prog[f__law_monomial]) rfl rfl]
  show Sw (exs _ b__law_monomial [some (.r i), some (.p (.list ns)), none, none] h) _ _
  unfold b__law_monomial
  simp only [s_cons, s_asg, s_fr, w_tup, w_call, w_cons, w_nil, w_lit, w_var, w_irng, as_var, List.length_cons, List.length_nil, Nat.reduceAdd, Nat.reduceLT, List.set_cons_succ, List.set_cons_zero, List.getElem?_cons_zero, List.getElem?_cons_succ, Option.some.injEq, exists_eq_left', peek_p, frzs]
  refine w_draw (k := k + 1) hi m (by omega) (by decide) (by decide +kernel) fun r' c2 r0' r1' m2 => ?_
  simp only [peeks, peek_p, Option.some.injEq, exists_eq_left', rng_of (bd_of (n := r') (by omega) (by omega))]
  refine for_inv (fun rest σ g => ∃ c' t ds y, g = h.set i c' ∧ rest.length + t ≤ 3 ∧ MOk c' (n + 10 - 3 * rest.length) ∧ σ = [some (.r i), some (.p (.list ns)), some (.p (.tuple ds)), y] ∧ MonOk t (3 * 4 ^ t) ds) ?_ ?_ _ _ _ ⟨c2, 0, [], _, rfl, by rw [rngP_len]; omega, m2.up (by rw [rngP_len]; omega), rfl, MonOk.nil⟩
  · rintro z rest σ g ⟨c', t, ds, y, rfl, h1, h2, rfl, h3⟩
    rw [List.length_cons] at h1 h2
    refine ⟨_, rfl, ?_⟩
    simp only [s_cons, s_nil, s_asg, w_bin, w_tup, w_call, w_cons, w_nil, w_lit, w_var, List.set_cons_succ, List.set_cons_zero, List.getElem?_cons_zero, List.getElem?_cons_succ, Option.some.injEq, exists_eq_left', peek_p]
    refine w_of (k := k) (get_set hi) h2 (by omega) n0 (by omega) fun d hd c3 m3 => ?_
    refine w_draw (k := k + 1) (get_set (get_set hi)) m3 (by omega) (by decide) (by decide +kernel) fun r c4 r0 r1 m4 => ?_
    simp only [frzs, frz, Option.some.injEq, exists_eq_left']
    refine w_draw (k := k + 1) (get_set (get_set (get_set hi))) m4 (by omega) (by decide) (by decide +kernel) fun e c5 e0 e1 m5 => ?_
    simp only [frzs, frz, Option.some.injEq, exists_eq_left', peek_p, o_add, List.set_set]
    obtain ⟨x, rfl⟩ := name_ex (nn d hd)
    have lq : LetQ (.tuple [.str x, .int r]) := letq_of (nn _ hd) r0 (by omega)
    have l3 := h3.ln
    have p4 : 3 ≤ 3 * 4 ^ t := by have := Nat.one_le_two_pow (n := t); have : 1 ≤ 4 ^ t := Nat.one_le_pow _ _ (by decide); omega
    refine w_mono (k := k + 1) (n := t + 1) (E := 3 * 4 ^ t) (by simp; omega) (fun d hd => ?_) (by omega) fun ds' md => ?_
    · rcases List.mem_append.mp hd with hd | hd
      · exact h3.ps d hd
      · rw [List.mem_singleton] at hd
        subst hd
        exact ⟨_, _, rfl, lq, by omega, by omega⟩
    · simp only [as_var, List.length_cons, List.length_nil, Nat.reduceAdd, Nat.reduceLT, List.set_cons_succ, List.set_cons_zero, Option.some.injEq, exists_eq_left']
      refine ⟨c5, t + 1, ds', _, rfl, by omega, m5.up (by omega), rfl, md.up (Nat.le_refl _) ?_⟩
      rw [Nat.pow_succ]
      have : (t + 1) * (3 * 4 ^ t) ≤ 4 * (3 * 4 ^ t) := Nat.mul_le_mul_right _ (by omega)
      omega
  · rintro σ g ⟨c', t, ds, y, rfl, h1, h2, rfl, h3⟩
    simp only [s_ret, w_var, List.getElem?_cons_zero, List.getElem?_cons_succ, Option.some.injEq, exists_eq_left', finD_p, take_set]
    refine q ds c' (h3.up (by simpa using h1) ?_) h2
    have t3 : t ≤ 3 := by simpa using h1
    have : 4 ^ t ≤ 4 ^ 3 := Nat.pow_le_pow_right (by decide) t3
    omega
theorem w_drawn {k n i : Nat} {h : Hh} {c : Cell} {Q : D → Hh → Prop} (hi : h[i]? = some c) (m : MOk c n) (hn : n + 110 < 2 ^ 60)
    (q : ∀ kvs c', PolOk 6 1000 kvs → MOk c' (n + 110) → Q (.p (.dict kvs)) (h.set i c')) : Rw (callN prog 5000 (k + 5) f__law_drawn [.r i] h) Q := by
  rw [rw_callN (F := prog[f__law_drawn]) rfl rfl]
  show Sw (exs _ b__law_drawn [some (.r i), none, none, none, none] h) _ _
  unfold b__law_drawn
  rw [s_cons, s_par]
  have hil := get_lt hi
  refine w_lc ?_
  simp only [w_irng, w_cons, w_nil, w_lit, peeks, peek_p, Option.some.injEq, exists_eq_left', rng_of (bd_of (n := 3) (by decide) (by decide))]
  refine ⟨fun rest acc g => ∃ c', g = h.set i c' ∧ rest.length + acc.length = 3 ∧ MOk c' (n + 27 - 9 * rest.length) ∧ ∀ d ∈ acc, nameB d = true, ⟨c, ?_, rfl, m.up (by rw [rngP_len]; omega), fun d hd => (nomatch hd)⟩, ?_, ?_⟩
  · rw [set_same hi]
  · rintro x xs acc g hg ⟨c', rfl, h1, h2, h3⟩
    rw [List.length_cons] at h1 h2
    refine ⟨_, rfl, w_tnil.mpr ?_⟩
    rw [if_pos rfl, w_call, w_cons, w_var]
    refine ⟨_, rfl, ?_⟩
    rw [w_nil]
    refine w_name (k := k + 2) (get_app (get_set hi)) h2 (by omega) fun x c1 hx m1 => ?_
    refine ⟨_, rfl, h.set i c1, ?_, by rw [List.length_set], by omega, c1, rfl, by rw [List.length_append, List.length_singleton]; omega, m1.up (by omega), fun d hd => ?_⟩
    · rw [set_app (by rw [List.length_set]; exact hil), List.set_set]
    · rcases List.mem_append.mp hd with hd | hd
      · exact h3 d hd
      · rw [List.mem_singleton] at hd
        subst hd
        exact hx
  · rintro ns g hg ⟨c1, rfl, h1, m1, nn⟩
    rw [if_neg (by decide)]
    have nl : ns.length = 3 := by simpa using h1
    have nn0 : ns ≠ [] := by intro e; rw [e] at nl; cases nl
    have dm0 : dmake [] [] = some ([] : List (P × P)) := rfl
    simp only [w_dct, w_nil, frzs, Option.some.injEq, exists_eq_left', get_last, true_and, dm0, Bool.false_eq_true, if_false, List.take_left, List.length_cons, List.length_nil, Nat.reduceAdd, Nat.reduceLT, List.set_cons_succ, List.set_cons_zero, and_self, s_cons, s_fr, w_irng, w_cons, w_call, w_var, w_lit, List.getElem?_cons_zero]
    refine w_draw (k := k + 3) (get_set hi) m1 (by omega) (by decide) (by decide +kernel) fun r' c2 r0' r1' m2 => ?_
    simp only [peeks, peek_p, Option.some.injEq, exists_eq_left', rng_of (bd_of (n := r') (by omega) (by omega)), List.set_set]
    refine for_inv (fun rest σ g => ∃ c' t kvs y z, g = h.set i c' ∧ rest.length + t ≤ 5 ∧ MOk c' (n + 110 - 15 * rest.length) ∧ σ = [some (.r i), some (.p (.list ns)), some (.p (.dict kvs)), y, z] ∧ PolOk t (141 * t) kvs) ?_ ?_ _ _ _ ⟨c2, 0, [], _, _, rfl, by rw [rngP_len]; omega, m2.up (by rw [rngP_len]; simp; omega), rfl, ⟨fun x hx => (nomatch hx), fun x hx => (nomatch hx), by simp, Nat.le_refl _⟩⟩
    · rintro x rest σ g ⟨c', t, kvs, y, z, rfl, h1, h2, rfl, h3⟩
      rw [List.length_cons] at h1 h2
      refine ⟨_, rfl, ?_⟩
      simp only [s_cons, s_nil, s_asg, w_dct, w_call, w_cons, w_nil, w_lit, w_var, List.set_cons_succ, List.set_cons_zero, List.getElem?_cons_zero, List.getElem?_cons_succ, Option.some.injEq, exists_eq_left', peek_p]
      refine w_monomial (k := k + 1) (get_app (get_set hi)) h2 (by omega) nn0 (by omega) nn fun ds c3 md m3 => ?_
      rw [set_app (by rw [List.length_set]; exact hil), List.set_set]
      refine w_fraction (k := k + 1) (get_app (get_set hi)) m3 (by omega) fun a b c4 fr nz m4 => ?_
      rw [set_app (by rw [List.length_set]; exact hil), List.set_set]
      have mq : MonQ (.tuple ds) := md.q (by decide) (by decide +kernel)
      have dm : dmake [.tuple ds, frP a b] [] = some [(.tuple ds, frP a b)] := by
        have ki : keyIn [] (.tuple ds) = true := keyIn_of kp_monq (fun x hx => nomatch hx) mq
        unfold dmake
        rw [if_pos ki]
        rfl
      simp only [frzs, frz, frP, Option.some.injEq, exists_eq_left']
      have ln : (h.set i c').length = (h.set i c4).length := by rw [List.length_set, List.length_set]
      refine ⟨by rw [ln]; exact get_last, _, dm, ?_⟩
      rw [if_neg (by decide), ln, List.take_left]
      refine w_plus (k := k) h3 mq fr nz (by omega) (by omega) fun kvs' p' => ?_
      simp only [as_var, List.length_cons, List.length_nil, Nat.reduceAdd, Nat.reduceLT, List.set_cons_succ, List.set_cons_zero, Option.some.injEq, exists_eq_left']
      refine ⟨c4, t + 1, kvs', _, _, rfl, by omega, m4.up (by omega), rfl, ?_⟩
      rw [show 141 * (t + 1) = 141 * t + 140 + 1 by omega]
      exact p'
    · rintro σ g ⟨c', t, kvs, y, z, rfl, h1, h2, rfl, h3⟩
      simp only [s_cons, s_ret, w_var, List.getElem?_cons_zero, List.getElem?_cons_succ, Option.some.injEq, exists_eq_left', finD_p, take_set]
      have t5 : t ≤ 5 := by simpa using h1
      refine q kvs c' ⟨h3.ks, fun kv hkv => ?_, h3.nd, by have := h3.ln; omega⟩ h2
      obtain ⟨a, b, e, f, g⟩ := h3.vs kv hkv
      exact ⟨a, b, e, f.up (by omega), g⟩
end K00
namespace Mi
open PySem L2 PySem.Spec PyProof.Rows PySem.W
/-- data made of whole numbers, names and tuples alone -/
def pureD (B : Nat) : Nat → P → Prop
  | _, .int i => i.natAbs < 2 ^ B
  | _, .str x => nameB (.str x) = true
  | n + 1, .tuple ds => ds.length ≤ 100 ∧ ∀ d ∈ ds, pureD B n d
  | _, _ => False
theorem pure_shp {B : Nat} : ∀ {n : Nat} {d : P}, pureD B n d → d.canLay0 = true ∧ d.depth ≤ n + 1
  | n, .int i, _ => by simp [PyData.canLay0, PyData.depth]
  | n, .str x, h => by
    have h : nameB (.str x) = true := by cases n <;> exact h
    exact ⟨name_ok h, by simp [PyData.depth]⟩
  | n + 1, .tuple ds, h => by
    have aux : ∀ {ds : List P}, (∀ d ∈ ds, pureD B n d) → PyData.canLayAll0 ds = true ∧ PyData.depthAll ds ≤ n + 1 := by
      intro ds
      induction ds with
      | nil => intro _; simp [PyData.canLayAll0, PyData.depthAll]
      | cons a r ih =>
        intro hd
        have h1 := pure_shp (hd a (by simp))
        have h2 := ih fun d hd' => hd d (List.mem_cons_of_mem _ hd')
        simp only [PyData.canLayAll0, PyData.depthAll, h1.1, h2.1, Bool.and_self, true_and]
        omega
    have := aux h.2
    refine ⟨by unfold PyData.canLay0; exact this.1, ?_⟩
    unfold PyData.depth
    omega
  | n, .none, h => by cases n <;> exact h.elim
  | n, .bool _, h => by cases n <;> exact h.elim
  | n, .list _, h => by cases n <;> exact h.elim
  | n, .dict _, h => by cases n <;> exact h.elim
theorem pure_sh {B n : Nat} {d : P} (h : pureD B n d) (hn : n ≤ 60) : shp d = true := by
  have := pure_shp h
  unfold shp SeqAt.shaped
  rw [this.1, Bool.true_and, decide_eq_true_eq]
  omega
theorem pure_ok {B : Nat} : ∀ {n : Nat} {d : P}, pureD B n d → okD B d
  | n, .int i, h => by cases n <;> exact h
  | n, .str x, h => by
    have h : nameB (.str x) = true := by cases n <;> exact h
    have := (name_len h).2
    show x.length ≤ 1000
    rw [str_len]
    omega
  | n + 1, .tuple ds, h => ⟨by have := h.1; omega, okDs_of fun d hd => pure_ok (h.2 d hd)⟩
  | n, .none, h => by cases n <;> exact h.elim
  | n, .bool _, h => by cases n <;> exact h.elim
  | n, .list _, h => by cases n <;> exact h.elim
  | n, .dict _, h => by cases n <;> exact h.elim
theorem pure_up {B B' : Nat} (hB : B ≤ B') : ∀ {n n' : Nat} {d : P}, n ≤ n' → pureD B n d → pureD B' n' d
  | n, n', .int i, hn, h => by
    have h : i.natAbs < 2 ^ B := by cases n <;> exact h
    have : i.natAbs < 2 ^ B' := Nat.lt_of_lt_of_le h (Nat.pow_le_pow_right (by decide) hB)
    cases n' <;> exact this
  | n, n', .str x, hn, h => by
    have h : nameB (.str x) = true := by cases n <;> exact h
    cases n' <;> exact h
  | n + 1, n' + 1, .tuple ds, hn, h => ⟨h.1, fun d hd => pure_up hB (by omega) (h.2 d hd)⟩
  | n, n', .none, _, h => by cases n <;> exact h.elim
  | n, n', .bool _, _, h => by cases n <;> exact h.elim
  | n, n', .list _, _, h => by cases n <;> exact h.elim
  | n, n', .dict _, _, h => by cases n <;> exact h.elim
theorem cutP_mem {ds : List P} {lo hi : Option Int} {d : P} (h : d ∈ cutP ds lo hi) : d ∈ ds := List.mem_of_mem_drop (List.mem_of_mem_take h)
theorem cutP_len {ds : List P} {lo hi : Option Int} : (cutP ds lo hi).length ≤ ds.length := by
  unfold cutP
  rw [List.length_take, List.length_drop]
  omega
theorem okD_tup {B : Nat} {ds : List P} (h : ds.length ≤ 1000) (a : ∀ d ∈ ds, okD B d) : okD B (.tuple ds) := ⟨h, okDs_of a⟩
theorem int_text {B : Nat} {i : Int} (h : i.natAbs < 2 ^ B) (hB : B ≤ 1500) : (Str.ofString (toString i)).length ≤ 1000 := by
  rw [Str.ofString_eq_toList, str_len]
  simp only [List.length_map]
  have big : i.natAbs < 10 ^ 500 := Nat.lt_of_lt_of_le h (Nat.le_trans (Nat.pow_le_pow_right (by decide) hB) (by decide +kernel))
  have r : ∀ n : Nat, n < 10 ^ 500 → n.repr.toList.length ≤ 500 := fun n hn => (Nat.length_repr_le_iff (n := n) (k := 500) (by decide)).mpr hn
  cases i with
  | ofNat n =>
    show n.repr.toList.length ≤ 1000
    have := r n big
    omega
  | negSucc n =>
    show ("-" ++ (n + 1).repr).toList.length ≤ 1000
    have := r (n + 1) big
    rw [String.toList_append, List.length_append]
    have l1 : "-".toList.length = 1 := rfl
    omega
theorem bi_str {B : Nat} {i : Int} (h : i.natAbs < 2 ^ B) (hB : B ≤ 1500) : Mi.bi .str [.int i] = some (.str (Str.ofString (toString i))) := by
  have : (PyData.int i).showable = true := by
    simp only [PyData.showable, decide_eq_true_eq]
    by_cases z : i.natAbs = 0
    · rw [z]; decide
    · exact (Nat.log2_lt z).mpr (Nat.lt_of_lt_of_le h (Nat.pow_le_pow_right (by decide) (by omega)))
  simp only [Mi.bi, this, if_true]
theorem bi_upper {x : Str} (h : x.length ≤ 5592405) : Mi.bi .upper [.str x] = some (.str (Txt.upper x)) := by simp only [Mi.bi, h, if_true]
theorem slc_str {x : Str} {lo hi : Option Int} (h : x.length ≤ 16000000) : slcD (.str x) lo hi = some (.str (cutS x lo hi)) := by simp only [slcD, h, if_true]
theorem slc_tup {ds : List P} {lo hi : Option Int} : slcD (.tuple ds) lo hi = some (.tuple (cutP ds lo hi)) := rfl
theorem app_len {x y : Str} : (x ++ y).length = x.length + y.length := by rw [str_len, app_cps, List.length_append, ← str_len, ← str_len]
theorem o_ladd {xs ys : List P} (h : xs.length + ys.length ≤ 16000000) : binop .Add (.list xs) (.list ys) = some (.list (xs ++ ys)) := by
  simp only [binop, h, if_true]
theorem bi_listt {ds : List P} : Mi.bi .list [.tuple ds] = some (.list ds) := rfl
theorem c_eqd {a b : P} (ha : shp a = true) (hb : shp b = true) (da : ∀ k, a ≠ .dict k) : cmpop .Eq a b = some (PyData.eqv a b) := by
  show eqD a b = _
  unfold eqD
  split
  · exact absurd rfl (da _)
  · simp only [PyData.eqv, Option.some.injEq]
  · rw [ha, hb]; rfl
theorem c_ned {a b : P} (ha : shp a = true) (hb : shp b = true) (da : ∀ k, a ≠ .dict k) : cmpop .NotEq a b = some (!PyData.eqv a b) := by
  show (cmpop .Eq a b).map (!·) = _
  rw [c_eqd ha hb da]; rfl
theorem shp_nil : shp (.tuple []) = true := rfl
theorem eqv_nil {ds : List P} : PyData.eqv (.tuple ds) (.tuple []) = ds.isEmpty := by
  cases ds <;> simp [PyData.eqv, PyData.eqvAll]
/-- tuple([part[len(part) - 1 - k] for k in range(len(part))]) -/
def revT : ME := .bi .tuple (.cons (.lc false (.idx (.var 1) (.bin .Sub (.bin .Sub (.bi .len (.cons (.var 1) .nil)) (.lit (.int 1))) (.var 4))) (.var 4) (.rng (.cons (.bi .len (.cons (.var 1) .nil)) .nil)) .nil [4]) .nil)
theorem w_rev {C : Calls} {σ : Sl} {h : Hh} {Q : D → Hh → Prop} {ds : List P} (h0 : σ[1]? = some (some (.p (.tuple ds)))) (hi : 4 < σ.length) (hl : ds.length ≤ 1000) (q : ∀ es : List P, es.length = ds.length → (∀ e ∈ es, e ∈ ds) → Q (.p (.tuple es)) h) : Rw (ev C revT σ h) Q := by
  unfold revT
  rw [w_bi, w_cons]
  refine w_lcmap (α := Nat) (fun j => .int (j : Int)) (fun j => ds.getD (ds.length - 1 - j) .none) ?_
  rw [w_irng, w_cons, w_bi, w_cons, w_var]
  refine ⟨_, h0, ?_⟩
  rw [w_nil]
  refine ⟨_, rfl, _, bi_lent, ?_⟩
  rw [w_nil]
  refine ⟨_, rfl, ?_⟩
  refine ⟨_, rng_of (bd_of (n := (ds.length : Int)) (by omega) (by omega)), List.range ds.length, by rw [Int.toNat_natCast, rngP_eq], by simp; omega, fun j hj => ?_, ?_⟩
  · have hj := List.mem_range.mp hj
    have g1 : ds[ds.length - 1 - j]? = some ds[ds.length - 1 - j] := List.getElem?_eq_getElem (by omega)
    have e1 : ds.getD (ds.length - 1 - j) .none = ds[ds.length - 1 - j] := by simp [List.getD, g1]
    have i1 : idxD (.tuple ds) (.int ((ds.length : Int) - 1 - (j : Int))) = some ds[ds.length - 1 - j] := by
      have := ix_tn g1
      rw [show ((ds.length - 1 - j : Nat) : Int) = (ds.length : Int) - 1 - (j : Int) by omega] at this
      exact this
    have hw : Mi.wip σ [4] = σ.set 4 none := rfl
    refine ⟨(σ.set 4 none).set 4 (some (.p (.int j))), ?_, fun acc Q' q' => ?_⟩
    · rw [hw]
      show (if _ then _ else _) = _
      rw [if_pos (by rw [List.length_set]; exact hi)]
    · rw [e1] at q'
      have k0 : ((σ.set 4 none).set 4 (some (D.p (.int j))))[1]? = some (some (.p (.tuple ds))) := by
        rw [List.getElem?_set_ne (by decide), List.getElem?_set_ne (by decide)]; exact h0
      have ki : ((σ.set 4 none).set 4 (some (D.p (.int j))))[4]? = some (some (.p (.int j))) := by
        rw [List.getElem?_set_self (by rw [List.length_set]; exact hi)]
      simp only [w_idx, w_bin, w_bi, w_cons, w_nil, w_lit, w_var, k0, ki, Option.some.injEq, exists_eq_left', peeks, peek_p, bi_lent, o_sub, i1]
      exact q'
  · rw [w_nil]
    refine ⟨_, rfl, _, bi_tupl, q _ (by simp) fun e he => ?_⟩
    obtain ⟨j, hj, rfl⟩ := List.mem_map.mp he
    have hj := List.mem_range.mp hj
    have g1 : ds[ds.length - 1 - j]? = some ds[ds.length - 1 - j] := List.getElem?_eq_getElem (by omega)
    have e1 : ds.getD (ds.length - 1 - j) .none = ds[ds.length - 1 - j] := by simp [List.getD, g1]
    rw [e1]
    exact List.getElem_mem _
end Mi
namespace K00
open PySem L2 Mi PySem.Spec PyProof.Rows
theorem w_odd {k n i B t : Nat} {h : Hh} {c : Cell} {v : P} {Q : D → Hh → Prop} (hi : h[i]? = some c) (m : MOk c n) (hn : n + 2 < 2 ^ 60) (hv : pureD B t v) (hB : B ≤ 1400) (ht : t ≤ 60)
    (q : ∀ w c', okD (B + 1) w → MOk c' (n + 2) → Q (.p w) (h.set i c')) : Rw (callN prog 5000 (k + 3) f__law_odd [.r i, .p v] h) Q := by
  rw [rw_callN (F := prog[f__law_odd]) rfl rfl]
  show Sw (exs _ b__law_odd [some (.r i), some (.p v), none, none, none] h) (fun _ g => Q (.p .none) (g.take h.length)) (fun d g => Rw (finD false h.length d g) Q)
  unfold b__law_odd
  simp only [s_cons, s_asg, w_call, w_cons, w_nil, w_lit, w_var, List.getElem?_cons_zero, List.getElem?_cons_succ, Option.some.injEq, exists_eq_left', peek_p]
  refine w_draw (k := k + 1) hi m (by omega) (by decide) (by decide +kernel) fun r c1 r0 r1 m1 => ?_
  simp only [as_var, List.length_cons, List.length_nil, Nat.reduceAdd, Nat.reduceLT, List.set_cons_succ, List.set_cons_zero, List.getElem?_cons_zero, List.getElem?_cons_succ, Option.some.injEq, exists_eq_left', s_ite, w_isi, w_var, peek_p]
  have vok : okD (B + 1) v := okD.up (by omega) v (pure_ok hv)
  have m1' : MOk c1 (n + 2) := m1.up (by omega)
  cases v with
  | tuple ds =>
    simp only [isTy, D.p.injEq, PyData.bool.injEq, exists_eq_left', if_true, s_cons, s_nil, s_ite, w_cmp, w_var, w_lit, List.getElem?_cons_zero, List.getElem?_cons_succ, Option.some.injEq, peek_p, c_lt, c_eq, s_ret]
    have hd : ∀ d ∈ ds, okD (B + 1) d := fun d hd => okDs_mem vok.2 d hd
    have dl : ds.length ≤ 100 := by cases t with
      | zero => exact hv.elim
      | succ t => exact hv.1
    by_cases z5 : 4 < r
    · rw [if_neg (by rw [decide_eq_true_eq]; omega), if_neg (by rw [decide_eq_true_eq]; omega), if_neg (by rw [decide_eq_true_eq]; omega), if_neg (by rw [decide_eq_true_eq]; omega)]
      show Rw (ev _ revT _ _) _
      generalize hs : ([some (D.r i), some (D.p (PyData.tuple ds)), some (D.p (PyData.int r)), none, none] : Sl) = σ
      have s1 : σ[1]? = some (some (.p (.tuple ds))) := by rw [← hs]; rfl
      have s2 : 4 < σ.length := by rw [← hs]; simp
      refine w_rev s1 s2 (by omega) fun es el em => finD_p.mpr ?_
      rw [take_set]
      exact q _ c1 (okD_tup (by omega) fun d hd' => hd d (em d hd')) m1'
    by_cases z1 : r < 2
    · simp only [z1, decide_true, if_true, w_bi, w_cons, w_nil, w_var, List.getElem?_cons_zero, List.getElem?_cons_succ, Option.some.injEq, exists_eq_left', peeks, peek_p, bi_listt, finD_p, take_set]
      exact q _ c1 vok m1'
    simp only [z1, decide_false, Bool.false_eq_true, if_false]
    by_cases z2 : r = 2
    · have o1 : binop .Add (.tuple ds) (.tuple (cutP ds none (some 1))) = some (.tuple (ds ++ cutP ds none (some 1))) := o_tadd (by have := cutP_len (ds := ds) (lo := none) (hi := some 1); omega)
      simp only [z2, decide_true, if_true, w_bin, w_slc, w_onone, w_osome, w_lit, w_var, List.getElem?_cons_zero, List.getElem?_cons_succ, Option.some.injEq, exists_eq_left', peeks, peek_p, D.p.injEq, PyData.int.injEq, slc_tup, o1, finD_p, take_set]
      refine q _ c1 (okD_tup ?_ fun d hd' => ?_) m1'
      · rw [List.length_append]
        have := cutP_len (ds := ds) (lo := none) (hi := some 1)
        omega
      · rcases List.mem_append.mp hd' with e | e
        · exact hd d e
        · exact hd d (cutP_mem e)
    simp only [z2, decide_false, Bool.false_eq_true, if_false]
    by_cases z3 : r = 3
    · simp only [z3, decide_true, if_true, w_slc, w_onone, w_osome, w_lit, w_var, List.getElem?_cons_zero, List.getElem?_cons_succ, Option.some.injEq, exists_eq_left', peeks, peek_p, D.p.injEq, PyData.int.injEq, slc_tup, finD_p, take_set]
      refine q _ c1 (okD_tup ?_ fun d hd' => hd d (cutP_mem hd')) m1'
      have := cutP_len (ds := ds) (lo := some 1) (hi := none)
      omega
    simp only [z3, decide_false, Bool.false_eq_true, if_false]
    by_cases z4 : r = 4
    · have o1 : cmpop .NotEq (.tuple ds) (.tuple []) = some (!ds.isEmpty) := by rw [c_ned (pure_sh hv ht) shp_nil (fun k e => nomatch e), eqv_nil]
      simp only [z4, decide_true, if_true, w_ite, w_cmp, w_tup, w_cons, w_nil, w_slc, w_onone, w_osome, w_bin, w_bi, w_lit, w_var, List.getElem?_cons_zero, List.getElem?_cons_succ, Option.some.injEq, exists_eq_left', peeks, peek_p, D.p.injEq, PyData.int.injEq, PyData.bool.injEq, slc_tup, frzs, frz, o1, bi_lent, o_sub, finD_p, take_set]
      have fin : ∀ es : List P, es.length ≤ 1000 → (∀ e ∈ es, okD (B + 1) e) → Q (.p (.tuple es)) (h.set i c1) := fun es e1 e2 => q _ c1 (okD_tup e1 e2) m1'
      have one : okD (B + 1) (.tuple []) := okD_tup (by simp) (fun d hd => nomatch hd)
      cases ds with
      | nil =>
        refine fin _ (by decide) (fun d hd' => ?_)
        rcases List.mem_singleton.mp hd' with rfl
        exact one
      | cons a r =>
        refine fin _ ?_ (fun d hd' => hd d (cutP_mem hd'))
        have := cutP_len (ds := a :: r) (lo := none) (hi := some (((a :: r).length : Int) - 1))
        omega
    exact absurd (show 4 < r by omega) z5
  | str x =>
    have hx : nameB (.str x) = true := by cases t <;> exact hv
    have xl : x.length ≤ 8 := by rw [str_len]; exact (name_len hx).2
    have big : x.length ≤ 16000000 := by omega
    have c1l := cutS_length x none (some 7)
    have c2l := cutS_length x none (some 1)
    have c3l := cutS_length x (some 1) none
    have ul := len_upper x
    have l1 : (Str.ofString "abcdefgh").length = 8 := by decide +kernel
    have l2 : (Str.ofString "1").length = 1 := by decide +kernel
    have l3 : (Str.ofString "_").length = 1 := by decide +kernel
    have l4 : (Str.ofString " ").length = 1 := by decide +kernel
    have l5 : (Str.ofString "\n").length = 1 := by decide +kernel
    have l6 : (Str.ofString "Z").length = 1 := by decide +kernel
    have l7 : (Str.ofString "\t").length = 1 := by decide +kernel
    have l8 : (Str.ofString "-").length = 1 := by decide +kernel
    have l0 : (Str.ofString "").length = 0 := by decide +kernel
    have sa : ∀ {a b : Str}, a.length ≤ 100 → b.length ≤ 100 → binop .Add (.str a) (.str b) = some (.str (a ++ b)) := fun {a b} ha hb => o_sadd (by omega)
    have sl : (cutS x none (some 1) ++ Str.ofString "\t").length ≤ 100 := by rw [app_len]; omega
    simp only [isTy, D.p.injEq, PyData.bool.injEq, exists_eq_left', Bool.false_eq_true, if_false, if_true, s_cons, s_nil, s_asg, w_lst, w_cons, w_nil, w_bin, w_bi, w_slc, w_onone, w_osome, w_var, w_lit, List.getElem?_cons_zero, List.getElem?_cons_succ, Option.some.injEq, peeks, peek_p, PyData.int.injEq, slc_str big, bi_upper (show x.length ≤ 5592405 by omega),
      sa (show x.length ≤ 100 by omega) (show (Str.ofString "abcdefgh").length ≤ 100 by omega), sa (show (Str.ofString "1").length ≤ 100 by omega) (show x.length ≤ 100 by omega), sa (show x.length ≤ 100 by omega) (show (Str.ofString "_").length ≤ 100 by omega), sa (show x.length ≤ 100 by omega) (show (Str.ofString " ").length ≤ 100 by omega), sa (show x.length ≤ 100 by omega) (show (Str.ofString "\n").length ≤ 100 by omega),
      frzs, frz, mk, rw_ok, as_var, List.length_cons, List.length_nil, Nat.reduceAdd, Nat.reduceLT, List.set_cons_succ, List.set_cons_zero, s_ret, w_call,
      sa (show (cutS x none (some 7)).length ≤ 100 by omega) (show (Str.ofString "Z").length ≤ 100 by omega), sa (show (Str.ofString "\t").length ≤ 100 by omega) (show x.length ≤ 100 by omega), sa (show (cutS x none (some 1)).length ≤ 100 by omega) (show (Str.ofString "\t").length ≤ 100 by omega), sa sl (show (cutS x (some 1) none).length ≤ 100 by omega), sa (show (cutS x none (some 7)).length ≤ 100 by omega) (show (Str.ofString "-").length ≤ 100 by omega)]
    refine ⟨_, o_ladd (by simp), ?_⟩
    refine w_of (k := k) (get_set hi) m1 (by omega) (by simp) (by simp) fun d hd c2 m2 => ?_
    rw [finD_p, List.set_set, take_set]
    refine q d c2 ?_ m2
    simp only [List.mem_append, List.mem_cons, List.not_mem_nil, or_false] at hd
    rcases hd with (rfl | rfl | rfl | rfl | rfl | rfl | rfl | rfl | rfl) | (rfl | rfl | rfl | rfl) <;> first | trivial | (show Str.length _ ≤ 1000; (try simp only [app_len]); omega)
  | int j =>
    have hj : j.natAbs < 2 ^ B := by cases t <;> exact hv
    have hj1 : (2:Nat) ^ (B + 1) = 2 ^ B * 2 := Nat.pow_succ 2 B
    have p0 : 0 < 2 ^ B := Nat.two_pow_pos B
    simp only [isTy, D.p.injEq, PyData.bool.injEq, exists_eq_left', Bool.false_eq_true, if_false, s_cons, s_nil, s_ret, w_idx, w_lst, w_tup, w_neg, w_cons, w_nil, w_bin, w_bi, w_var, w_lit, List.getElem?_cons_zero, List.getElem?_cons_succ, Option.some.injEq, peeks, peek_p, PyData.int.injEq, o_add, o_mul2 (i := j) (j := 2) (by decide) (by decide), bi_str hj (show B ≤ 1500 by omega), frzs, frz, mk, rw_ok]
    obtain ⟨d, hd, e⟩ := ix_list (ds := [.int (j + 1), .int (-j), .int 0, .bool true, .none, .str (Str.ofString (toString j)), .tuple [.int j], .int (j * 2)]) r0 (by simpa using r1)
    simp only [e, Option.some.injEq, exists_eq_left', finD_p, take_set]
    refine q d c1 ?_ m1'
    simp only [List.mem_cons, List.not_mem_nil, or_false] at hd
    rcases hd with rfl | rfl | rfl | rfl | rfl | rfl | rfl | rfl
    · show (j + 1).natAbs < 2 ^ (B + 1); omega
    · show (-j).natAbs < 2 ^ (B + 1); omega
    · show (0 : Int).natAbs < 2 ^ (B + 1); omega
    · trivial
    · trivial
    · exact int_text hj (by omega)
    · exact ⟨by simp, (show j.natAbs < 2 ^ (B + 1) by omega), trivial⟩
    · show (j * 2).natAbs < 2 ^ (B + 1); omega
  | _ => cases t <;> exact hv.elim
end K00
namespace Mi
open PySem L2 PySem.Spec PyProof.Rows PySem.W
theorem pow_pure {B : Nat} {d : P} (h : powB d = true) (o : okD B d) : pureD B 2 d := by
  obtain ⟨x, i, e, rfl, hl, _⟩ := pow_ex h
  have hx : nameB (.str x) = true := (Bool.and_eq_true_iff.mp (show (nameB (.str x) && wholeB (.int i)) = true from hl)).1
  have o1 := okDs_mem o.2 (.tuple [.str x, .int i]) (by simp)
  have o2 := okDs_mem o.2 (.int e) (by simp)
  have o3 := okDs_mem o1.2 (.int i) (by simp)
  refine ⟨by simp, fun d hd => ?_⟩
  simp only [List.mem_cons, List.not_mem_nil, or_false] at hd
  rcases hd with rfl | rfl
  · refine ⟨by simp, fun d hd => ?_⟩
    simp only [List.mem_cons, List.not_mem_nil, or_false] at hd
    rcases hd with rfl | rfl
    · exact hx
    · exact o3
  · exact o2
theorem monq_pure {a : P} (h : MonQ a) : pureD 200 3 a := by
  obtain ⟨h1, h2, ds, rfl, h3⟩ := h
  obtain ⟨h4, _⟩ := Bool.and_eq_true_iff.mp (show (ds.all powB && ascB ds) = true from h1)
  exact ⟨by omega, fun d hd => pow_pure (List.all_eq_true.mp h4 d hd) (okDs_mem h2.2 d hd)⟩
theorem PolOk.pure {n B : Nat} {kvs : List (P × P)} (p : PolOk n B kvs) (hn : n ≤ 100) (hB : 200 ≤ B) : pureD B 5 (.tuple (formT kvs)) := by
  refine ⟨by rw [formT_len]; have := p.ln; omega, fun d hd => ?_⟩
  obtain ⟨m, a, b, rfl, _, _, hm, f, z⟩ := p.mem hd
  refine ⟨by simp, fun d hd => ?_⟩
  simp only [List.mem_cons, List.not_mem_nil, or_false] at hd
  rcases hd with rfl | rfl
  · exact pure_up hB (by decide) (monq_pure hm)
  · refine ⟨by simp, fun d hd => ?_⟩
    simp only [List.mem_cons, List.not_mem_nil, or_false] at hd
    rcases hd with rfl | rfl
    · exact f.nb
    · exact f.db
end Mi
namespace K00
open PySem L2 Mi PySem.Spec PyProof.Rows
theorem w_spoilt {B : Nat} (hB : B ≤ 1400) : ∀ (room : Nat) {k n i t : Nat} {h : Hh} {c : Cell} {v : P} {Q : D → Hh → Prop} (hi : h[i]? = some c) (m : MOk c n) (hn : n + 2 * (room + 1) < 2 ^ 60) (hv : pureD B t v) (ht : t ≤ 60)
    (q : ∀ w c', okD (B + 1) w → MOk c' (n + 2 * (room + 1)) → Q (.p w) (h.set i c')), Rw (callN prog 5000 (k + room + 4) f__law_spoilt [.r i, .p v, .p (.int room)] h) Q := by
  intro room
  induction room with
  | zero =>
    intro k n i t h c v Q hi m hn hv ht q
    show Rw (callN prog 5000 (k + 4) f__law_spoilt [.r i, .p v, .p (.int (0 : Int))] h) Q
    rw [rw_callN (F := prog[f__law_spoilt]) rfl rfl]
    show Sw (exs _ b__law_spoilt [some (.r i), some (.p v), some (.p (.int 0)), none] h) (fun _ g => Q (.p .none) (g.take h.length)) fun d g => Rw (finD false h.length d g) Q
    unfold b__law_spoilt
    have fin : Rw (callN prog 5000 (k + 3) 36 [.r i, .p v] h) fun d g => Rw (finD false h.length d g) Q := by
      refine w_odd (k := k) hi m (by omega) hv hB ht fun w c' ow m' => finD_p.mpr ?_
      rw [take_set]
      exact q w c' ow (m'.up (by omega))
    have g0 : decide ((0 : Int) < 0) = false := by decide
    simp only [s_cons, s_nil, s_ite, s_ret, w_and, w_isi, w_cmp, w_tup, w_call, w_cons, w_nil, w_lit, w_var, List.getElem?_cons_zero, List.getElem?_cons_succ, Option.some.injEq, exists_eq_left', peek_p, frzs, D.p.injEq, PyData.bool.injEq, c_gt, g0, Bool.false_eq_true, if_false]
    cases v with
    | tuple ds =>
      simp only [isTy, if_true, c_ned (pure_sh hv ht) shp_nil (fun k e => nomatch e), Option.some.injEq, exists_eq_left', D.p.injEq, PyData.bool.injEq]
      cases ds with
      | nil =>
        exact fin
      | cons a r =>
        simp only [eqv_nil, List.isEmpty_cons, Bool.not_false, if_true, exists_eq_left', Bool.false_eq_true, if_false]
        exact fin
    | _ => exact fin
  | succ room ih =>
    intro k n i t h c v Q hi m hn hv ht q
    rw [rw_callN (F := prog[f__law_spoilt]) rfl rfl]
    show Sw (exs _ b__law_spoilt [some (.r i), some (.p v), some (.p (.int ((room + 1 : Nat) : Int))), none] h) (fun _ g => Q (.p .none) (g.take h.length)) fun d g => Rw (finD false h.length d g) Q
    unfold b__law_spoilt
    have fin : ∀ (c2 : Cell), MOk c2 (n + 1) → Rw (callN prog 5000 (k + (room + 1) + 3) 36 [.r i, .p v] (h.set i c2)) fun d g => Rw (finD false h.length d g) Q := fun c2 m2 => by
      exact w_odd (k := k + (room + 1)) (h := h.set i c2) (Q := fun d g => Rw (finD false h.length d g) Q) (get_set hi) m2 (by omega) hv hB ht fun w c' ow m' => finD_p.mpr (by rw [List.set_set, take_set]; exact q w c' ow (m'.up (by omega)))
    have fin0 : Rw (callN prog 5000 (k + (room + 1) + 3) 36 [.r i, .p v] h) fun d g => Rw (finD false h.length d g) Q := by
      have := fin c (m.up (by omega))
      rw [set_same hi] at this
      exact this
    have g0 : decide ((0 : Int) < ((room + 1 : Nat) : Int)) = true := decide_eq_true (by omega)
    simp only [s_cons, s_nil, s_ite, s_asg, s_ret, w_and, w_isi, w_cmp, w_tup, w_call, w_cons, w_nil, w_lit, w_var, List.getElem?_cons_zero, List.getElem?_cons_succ, Option.some.injEq, exists_eq_left', peek_p, frzs, D.p.injEq, PyData.bool.injEq, c_gt, g0, Bool.false_eq_true, if_false, if_true]
    cases v with
    | tuple ds =>
      simp only [isTy, if_true, c_ned (pure_sh hv ht) shp_nil (fun k e => nomatch e), Option.some.injEq, exists_eq_left', D.p.injEq, PyData.bool.injEq]
      cases ds with
      | nil =>
        exact fin0
      | cons a r =>
        simp only [eqv_nil, List.isEmpty_cons, Bool.not_false, if_true, exists_eq_left', Bool.false_eq_true, if_false]
        refine w_draw (k := k + (room + 1) + 2) hi m (by omega) (by decide) (by decide +kernel) fun r1 c1 r10 r11 m1 => ?_
        simp only [peek_p, Option.some.injEq, exists_eq_left', c_gt, D.p.injEq, PyData.bool.injEq]
        by_cases z : 0 < r1
        · simp only [z, decide_true, if_true, w_bin, w_bi, w_slc, w_onone, w_osome, w_idx, w_tup, w_call, w_cons, w_nil, w_lit, w_var, List.getElem?_cons_zero, List.getElem?_cons_succ, Option.some.injEq, exists_eq_left', peek_p, peeks, bi_lent]
          generalize hds : (a :: r) = ds at *
          have dl : 0 < ds.length := by rw [← hds]; simp
          obtain ⟨t, rfl⟩ : ∃ t', t = t' + 1 := by
            cases t with
            | zero => exact hv.elim
            | succ t => exact ⟨t, rfl⟩
          have d100 := hv.1
          refine w_draw (k := k + (room + 1) + 2) (get_set hi) m1 (by omega) (by omega) (divOk_of (B := 24) (by omega) (by rw [Int.natAbs_natCast]; omega) (by decide)) fun r2 c2 r20 r21 m2 => ?_
          obtain ⟨d, hd, ei⟩ := ix_tuple r20 r21
          simp only [List.set_set, as_var, List.length_cons, List.length_nil, Nat.reduceAdd, Nat.reduceLT, List.set_cons_succ, List.set_cons_zero, List.getElem?_cons_zero, List.getElem?_cons_succ, Option.some.injEq, exists_eq_left', peek_p, D.p.injEq, PyData.int.injEq, slc_tup, ei, o_sub, o_add]
          rw [show ((room + 1 : Nat) : Int) - 1 = (room : Int) by omega]
          refine ih (k := k) (get_set hi) m2 (by omega) (hv.2 d hd) (by omega) fun w c3 ow m3 => ?_
          simp only [frzs, frz, Option.some.injEq, exists_eq_left', peek_p, List.set_set]
          have l1 := cutP_len (ds := ds) (lo := none) (hi := some r2)
          have l2 := cutP_len (ds := ds) (lo := some (r2 + 1)) (hi := none)
          have o1 : binop .Add (.tuple (cutP ds none (some r2))) (.tuple [w]) = some (.tuple (cutP ds none (some r2) ++ [w])) := o_tadd (by simp; omega)
          have o2 : binop .Add (.tuple (cutP ds none (some r2) ++ [w])) (.tuple (cutP ds (some (r2 + 1)) none)) = some (.tuple (cutP ds none (some r2) ++ [w] ++ cutP ds (some (r2 + 1)) none)) := o_tadd (by simp; omega)
          simp only [o1, o2, Option.some.injEq, exists_eq_left', peek_p, finD_p, take_set]
          have od : ∀ d ∈ ds, okD (B + 1) d := fun d hd => okD.up (by omega) d (pure_ok (hv.2 d hd))
          refine q _ c3 (okD_tup (by simp; omega) fun e he => ?_) (m3.up (by omega))
          rcases List.mem_append.mp he with he | he
          · rcases List.mem_append.mp he with he | he
            · exact od e (cutP_mem he)
            · rw [List.mem_singleton] at he
              subst he
              exact ow
          · exact od e (cutP_mem he)
        · simp only [z, decide_false, Bool.false_eq_true, if_false]
          exact fin c1 m1
    | _ => exact fin0
end K00
namespace Mi
open PySem L2 PySem.Spec PyProof.Rows PySem.W
/-! what repr writes -/
theorem shown_tup {m : Nat} {ds : List P} (h : ∀ d ∈ ds, d.shown.length ≤ m) : (PyData.tuple ds).shown.length ≤ ds.length * (m + 2) + 3 := by
  have aux : ∀ {ds : List P}, (∀ d ∈ ds, d.shown.length ≤ m) → piled (PyData.shownAll ds) ≤ ds.length * (m + 2) := by
    intro ds
    induction ds with
    | nil => intro _; simp [PyData.shownAll, piled]
    | cons a r ih =>
      intro h
      have h1 := h a (by simp)
      have h2 := ih fun d hd => h d (List.mem_cons_of_mem _ hd)
      simp only [PyData.shownAll, piled_cons, List.length_cons, Nat.add_mul, Nat.one_mul]
      omega
  have := aux h
  simp only [PyData.shown]
  unfold tupleText
  rw [app_len, app_len]
  have e1 : ((("(" : String) : Str)).length = 1 := rfl
  have e3 : (((if (PyData.shownAll ds).length == 1 then ",)" else ")" : String) : Str)).length ≤ 2 := by split <;> decide
  by_cases z : PyData.shownAll ds = []
  · rw [z] at e3 ⊢
    have : (Str.join ", " []).length = 0 := rfl
    omega
  · have := join_length_add _ z
    omega
theorem shown_int {B : Nat} {i : Int} (h : i.natAbs < 2 ^ B) (hB : B ≤ 1500) : (PyData.int i).shown.length ≤ 1000 := int_text h hB
theorem shown_name {x : Str} (h : nameB (.str x) = true) : (PyData.str x).shown.length ≤ 100 := by
  simp only [PyData.shown]
  have l := (name_len h).2
  have := StrLaws.reprText_len x fun c hc => by
    have := name_ok h
    unfold PyData.strOk at this
    rw [← Array.all_toList, List.all_eq_true] at this
    have := of_decide_eq_true (this c hc)
    omega
  rw [str_len (x := x)] at this
  omega
theorem pure_showable {B : Nat} (hB : B ≤ 1500) : ∀ {n : Nat} {d : P}, pureD B n d → d.showable = true
  | n, .int i, h => by
    have h : i.natAbs < 2 ^ B := by cases n <;> exact h
    simp only [PyData.showable, decide_eq_true_eq]
    by_cases z : i.natAbs = 0
    · rw [z]; decide
    · exact (Nat.log2_lt z).mpr (Nat.lt_of_lt_of_le h (Nat.pow_le_pow_right (by decide) (by omega)))
  | n, .str x, h => by simp [PyData.showable]
  | n + 1, .tuple ds, h => by
    have aux : ∀ {ds : List P}, (∀ d ∈ ds, pureD B n d) → PyData.showableAll ds = true := by
      intro ds
      induction ds with
      | nil => intro _; simp [PyData.showableAll]
      | cons a r ih =>
        intro hd
        have h1 := pure_showable hB (hd a (by simp))
        have h2 := ih fun d hd' => hd d (List.mem_cons_of_mem _ hd')
        simp only [PyData.showableAll, h1, h2, Bool.and_self]
    unfold PyData.showable
    exact aux h.2
  | n, .none, h => by cases n <;> exact h.elim
  | n, .bool _, h => by cases n <;> exact h.elim
  | n, .list _, h => by cases n <;> exact h.elim
  | n, .dict _, h => by cases n <;> exact h.elim
theorem bi_repr {B n : Nat} {d : P} (h : pureD B n d) (hB : B ≤ 1500) (hn : n ≤ 60) (l : d.shown.length ≤ 16000000) : Mi.bi .repr [d] = some (.str d.shown) := by
  show (if _ then _ else _) = _
  rw [if_pos]
  rw [pure_showable hB h, pure_sh h hn, decide_eq_true l]
  rfl
/-! sorted({e for t in xs for t1 in ys}) -/
section
variable {C : Calls} {σ : Sl} {h : Hh}
theorem ss_in {tp : Bool} {asgn1 : P → Sl → Option Sl} {elt : Sl → Hh → Res D} {f : P → P} {QQ : List P → Hh → Prop} : ∀ (ys acc : List P), (∀ y ∈ ys, bagB tp (f y) = true ∧ ∃ σ2, asgn1 y σ = some σ2 ∧ ∀ Q' : D → Hh → Prop, Q' (.p (f y)) h → Rw (elt σ2 h) Q') → acc.length + ys.length ≤ 60 →
    QQ (ys.foldl (fun acc y => bagAdd acc (f y)) acc) h → Rw (ssIn tp asgn1 elt σ ys acc h) QQ
  | [], acc, _, _, q => by unfold ssIn; exact rw_ok.mpr q
  | y :: ys, acc, hy, hl, q => by
    obtain ⟨hb, σ2, e, w⟩ := hy y (by simp)
    rw [List.length_cons] at hl
    unfold ssIn
    rw [e]
    dsimp only
    rw [rw_bind, rw_calm]
    refine w _ ?_
    dsimp only
    rw [if_pos (by rw [hb, decide_eq_true (by omega : acc.length < 60)]; rfl)]
    refine ss_in ys _ (fun z hz => hy z (List.mem_cons_of_mem _ hz)) ?_ q
    have : (bagAdd acc (f y)).length ≤ acc.length + 1 := by
      unfold bagAdd
      split
      · omega
      · simp
    omega
def bagAll (g : P → List P) (f : P → P) (xs acc : List P) : List P := xs.foldl (fun acc x => (g x).foldl (fun acc y => bagAdd acc (f y)) acc) acc
theorem bag_len {f : P → P} : ∀ (ys acc : List P), (ys.foldl (fun acc y => bagAdd acc (f y)) acc).length ≤ acc.length + ys.length
  | [], acc => by simp
  | y :: ys, acc => by
    have := bag_len (f := f) ys (bagAdd acc (f y))
    have : (bagAdd acc (f y)).length ≤ acc.length + 1 := by
      unfold bagAdd
      split
      · omega
      · simp
    simp only [List.foldl_cons, List.length_cons]
    omega
theorem ss_loop {tp : Bool} {asgn asgn1 : P → Sl → Option Sl} {inner : Sl → Hh → Res (List P)} {elt : Sl → Hh → Res D} {vs1 : List Nat} {g : P → List P} {f : P → P} {QQ : List P → Hh → Prop} {m : Nat} : ∀ (xs acc : List P), (∀ x ∈ xs, (g x).length ≤ m ∧ ∃ σ1, asgn x σ = some σ1 ∧ (∀ Q' : List P → Hh → Prop, Q' (g x) h → Rw (inner σ1 h) Q') ∧ ∀ y ∈ g x, bagB tp (f y) = true ∧ ∃ σ2, asgn1 y (wip σ1 vs1) = some σ2 ∧ ∀ Q' : D → Hh → Prop, Q' (.p (f y)) h → Rw (elt σ2 h) Q') → acc.length + m * xs.length ≤ 60 →
    QQ (bagAll g f xs acc) h → Rw (ssLoop tp asgn inner asgn1 elt vs1 σ xs acc h) QQ
  | [], acc, _, _, q => by unfold ssLoop; exact rw_ok.mpr q
  | x :: xs, acc, hx, hl, q => by
    obtain ⟨hm, σ1, e, w, wy⟩ := hx x (by simp)
    rw [List.length_cons, Nat.mul_add, Nat.mul_one] at hl
    unfold ssLoop
    rw [e]
    dsimp only
    rw [rw_bind, rw_calm]
    refine w _ ?_
    rw [rw_bind]
    refine ss_in (f := f) (g x) acc wy (by omega) ?_
    refine ss_loop (g := g) (f := f) (m := m) xs _ (fun z hz => hx z (List.mem_cons_of_mem _ hz)) ?_ q
    have := bag_len (f := f) (g x) acc
    omega
theorem w_sset {tp : Bool} {e : ME} {t t1 : MT} {it it1 : MI} {vs vs1 : List Nat} {Q : D → Hh → Prop} (g : P → List P) (f : P → P) (m : Nat) (w : Rw (evi C it σ h) fun xs h1 =>
    (∀ x ∈ xs, (g x).length ≤ m ∧ ∃ σ1, asg t x (wip σ vs) = some σ1 ∧ (∀ Q' : List P → Hh → Prop, Q' (g x) h1 → Rw (evi C it1 σ1 h1) Q') ∧ ∀ y ∈ g x, bagB tp (f y) = true ∧ ∃ σ2, asg t1 y (wip σ1 vs1) = some σ2 ∧ ∀ Q' : D → Hh → Prop, Q' (.p (f y)) h1 → Rw (ev C e σ2 h1) Q') ∧ m * xs.length ≤ 60 ∧
    sortOk (bagAll g f xs []) = true ∧ Q (.p (.list (sortP (bagAll g f xs [])))) h1) : Rw (ev C (.sset tp e t it t1 it1 vs vs1) σ h) Q := by
  rw [ev, rw_bind]
  refine w.mono fun xs h1 ⟨hx, hl, hs, q⟩ => ?_
  rw [rw_bind]
  refine ss_loop (g := g) (f := f) (m := m) xs [] hx (by simpa using hl) ?_
  rw [if_pos hs]
  exact rw_ok.mpr q
end
/-! a bag as a set -/
section
variable {K : P → Prop}
theorem bagAdd_K (hK : SK K) {acc : List P} {p : P} (ak : ∀ a ∈ acc, K a) (hp : K p) (nd : acc.Nodup) : (bagAdd acc p).Nodup ∧ (∀ a ∈ bagAdd acc p, K a) ∧ ∀ a, a ∈ bagAdd acc p ↔ a ∈ acc ∨ a = p := by
  have key : (acc.any fun z => PyData.eqv z p) = true ↔ p ∈ acc := by
    rw [List.any_eq_true]
    constructor
    · rintro ⟨x, hx, e⟩
      rw [← (hK.eq _ _ (ak x hx) hp).mp e]; exact hx
    · intro hx
      exact ⟨p, hx, (hK.eq _ _ hp hp).mpr rfl⟩
  unfold bagAdd
  by_cases c : p ∈ acc
  · rw [if_pos (key.mpr c)]
    refine ⟨nd, ak, fun a => ⟨.inl, fun h => ?_⟩⟩
    rcases h with h | rfl
    · exact h
    · exact c
  · rw [if_neg (fun x => c (key.mp x))]
    refine ⟨?_, fun a ha => ?_, fun a => by simp⟩
    · rw [List.nodup_append]
      exact ⟨nd, by simp, fun a ha b hb => by rw [List.mem_singleton] at hb; subst hb; exact fun e => c (e ▸ ha)⟩
    · rcases List.mem_append.mp ha with ha | ha
      · exact ak a ha
      · rw [List.mem_singleton] at ha; subst ha; exact hp
theorem bagIn_K (hK : SK K) {f : P → P} : ∀ (ys : List P) {acc : List P}, (∀ a ∈ acc, K a) → (∀ y ∈ ys, K (f y)) → acc.Nodup → (ys.foldl (fun acc y => bagAdd acc (f y)) acc).Nodup ∧ (∀ a ∈ ys.foldl (fun acc y => bagAdd acc (f y)) acc, K a) ∧ ∀ a, a ∈ ys.foldl (fun acc y => bagAdd acc (f y)) acc ↔ a ∈ acc ∨ ∃ y ∈ ys, a = f y
  | [], acc, ak, _, nd => ⟨nd, ak, fun a => by simp⟩
  | y :: ys, acc, ak, hy, nd => by
    obtain ⟨h1, h2, h3⟩ := bagAdd_K hK ak (hy y (by simp)) nd
    obtain ⟨k1, k2, k3⟩ := bagIn_K hK (f := f) ys h2 (fun z hz => hy z (List.mem_cons_of_mem _ hz)) h1
    refine ⟨k1, k2, fun a => ?_⟩
    rw [List.foldl_cons, k3, h3]
    simp only [List.mem_cons, exists_eq_or_imp, or_assoc]
theorem bagAll_K (hK : SK K) {g : P → List P} {f : P → P} : ∀ (xs : List P) {acc : List P}, (∀ a ∈ acc, K a) → (∀ x ∈ xs, ∀ y ∈ g x, K (f y)) → acc.Nodup → (bagAll g f xs acc).Nodup ∧ (∀ a ∈ bagAll g f xs acc, K a) ∧ ∀ a, a ∈ bagAll g f xs acc ↔ a ∈ acc ∨ ∃ x ∈ xs, ∃ y ∈ g x, a = f y
  | [], acc, ak, _, nd => ⟨nd, ak, fun a => by simp [bagAll]⟩
  | x :: xs, acc, ak, hx, nd => by
    obtain ⟨h1, h2, h3⟩ := bagIn_K hK (f := f) (g x) ak (hx x (by simp)) nd
    obtain ⟨k1, k2, k3⟩ := bagAll_K hK (g := g) (f := f) xs h2 (fun z hz => hx z (List.mem_cons_of_mem _ hz)) h1
    refine ⟨k1, k2, fun a => ?_⟩
    show a ∈ bagAll g f xs _ ↔ _
    rw [k3, h3]
    simp only [List.mem_cons, exists_eq_or_imp, or_assoc]
end
/-! the letters of a polynomial -/
def monsOf (kvs : List (P × P)) : List P := kvs.map (·.1)
def partsOf : P → List P
  | .tuple ds => ds
  | _ => []
/-- l is the letter of a part of m -/
def hasL (m l : P) : Prop := ∃ d ∈ partsOf m, l = hd0 d
theorem monq_parts {m : P} (h : MonQ m) : (partsOf m).length ≤ 9 ∧ ∀ d ∈ partsOf m, ∃ x i e, d = .tuple [.tuple [.str x, .int i], .int e] ∧ nameB (.str x) = true ∧ 0 ≤ i ∧ i.natAbs < 2 ^ 200 := by
  obtain ⟨h1, h2, ds, rfl, h3⟩ := h
  refine ⟨h3, fun d hd => ?_⟩
  obtain ⟨h4, _⟩ := Bool.and_eq_true_iff.mp (show (ds.all powB && ascB ds) = true from h1)
  obtain ⟨x, i, e, rfl, hl, _⟩ := pow_ex (List.all_eq_true.mp h4 d hd)
  obtain ⟨hx, hi⟩ := Bool.and_eq_true_iff.mp (show (nameB (.str x) && wholeB (.int i)) = true from hl)
  have o1 := okDs_mem (okDs_mem h2.2 _ hd).2 (.tuple [.str x, .int i]) (by simp)
  exact ⟨x, i, e, rfl, hx, of_decide_eq_true hi, okDs_mem o1.2 (.int i) (by simp)⟩
theorem monq_let {m l : P} (h : MonQ m) (hl : hasL m l) : LetK l ∧ pureD 200 1 l := by
  obtain ⟨d, hd, rfl⟩ := hl
  obtain ⟨x, i, e, rfl, hx, h0, hi⟩ := (monq_parts h).2 d hd
  refine ⟨?_, by simp, fun d hd => ?_⟩
  · show (nameB (.str x) && decide (0 ≤ i)) = true
    rw [hx, decide_eq_true h0]; rfl
  · simp only [List.mem_cons, List.not_mem_nil, or_false] at hd
    rcases hd with rfl | rfl
    · exact hx
    · exact hi
theorem bag_key {a : P} (h : LetK a) : bagB true a = true := by
  obtain ⟨x, i, rfl, hx, hi⟩ := letter_ex h
  exact kp_letter.ok _ h
end Mi
namespace Mi
open PySem L2 PySem.Spec PyProof.Rows PySem.W
def bagL (kvs : List (P × P)) : List P := bagAll (fun x => partsOf (hd0 x)) hd0 (formT kvs) []
def bagN (kvs : List (P × P)) : List P := bagAll (fun x => partsOf (hd0 x)) (fun y => hd0 (hd0 y)) (formT kvs) []
section
variable {n B : Nat} {kvs : List (P × P)}
theorem form_mem (p : PolOk n B kvs) {x : P} (h : x ∈ formT kvs) : ∃ m fr, x = .tuple [m, fr] ∧ m ∈ monsOf kvs ∧ MonQ m := by
  obtain ⟨m, a, b, rfl, hm, _, hq, _⟩ := p.mem h
  exact ⟨m, _, rfl, hm, hq⟩
theorem mem_form (p : PolOk n B kvs) {m : P} (h : m ∈ monsOf kvs) : ∃ fr, PyData.tuple [m, fr] ∈ formT kvs := by
  have : m ∈ sortP (kvs.map (·.1)) := sortP_perm'.mem_iff.mpr h
  exact ⟨_, List.mem_map.mpr ⟨m, this, rfl⟩⟩
end
end Mi
namespace Mi
open PySem L2 PySem.Spec PyProof.Rows PySem.W
section
variable {n B : Nat} {kvs : List (P × P)}
theorem bagL_ok (p : PolOk n B kvs) : (bagL kvs).Nodup ∧ (∀ a ∈ bagL kvs, LetK a) ∧ ∀ a, a ∈ bagL kvs ↔ ∃ m ∈ monsOf kvs, hasL m a := by
  have := bagAll_K sk_letter (g := fun x => partsOf (hd0 x)) (f := hd0) (formT kvs) (acc := []) (fun a ha => nomatch ha) (fun x hx y hy => by
    obtain ⟨m, fr, rfl, hm, hq⟩ := form_mem p hx
    exact (monq_let hq ⟨y, hy, rfl⟩).1) List.nodup_nil
  refine ⟨this.1, this.2.1, fun a => (this.2.2 a).trans ?_⟩
  constructor
  · rintro (h | ⟨x, hx, y, hy, rfl⟩)
    · cases h
    · obtain ⟨m, fr, rfl, hm, hq⟩ := form_mem p hx
      exact ⟨m, hm, y, hy, rfl⟩
  · rintro ⟨m, hm, y, hy, rfl⟩
    obtain ⟨fr, hx⟩ := mem_form p hm
    exact .inr ⟨_, hx, y, hy, rfl⟩
theorem hd0_name {m l : P} (h : MonQ m) (hl : hasL m l) : NameK (hd0 l) := by
  obtain ⟨d, hd, rfl⟩ := hl
  obtain ⟨x, i, e, rfl, hx, h0, hi⟩ := (monq_parts h).2 d hd
  exact hx
theorem bagN_ok (p : PolOk n B kvs) : (bagN kvs).Nodup ∧ (∀ a ∈ bagN kvs, NameK a) ∧ ∀ a, a ∈ bagN kvs ↔ ∃ m ∈ monsOf kvs, ∃ l, hasL m l ∧ a = hd0 l := by
  have := bagAll_K sk_name (g := fun x => partsOf (hd0 x)) (f := fun y => hd0 (hd0 y)) (formT kvs) (acc := []) (fun a ha => nomatch ha) (fun x hx y hy => by
    obtain ⟨m, fr, rfl, hm, hq⟩ := form_mem p hx
    exact hd0_name hq ⟨y, hy, rfl⟩) List.nodup_nil
  refine ⟨this.1, this.2.1, fun a => (this.2.2 a).trans ?_⟩
  constructor
  · rintro (h | ⟨x, hx, y, hy, rfl⟩)
    · cases h
    · obtain ⟨m, fr, rfl, hm, hq⟩ := form_mem p hx
      exact ⟨m, hm, _, ⟨y, hy, rfl⟩, rfl⟩
  · rintro ⟨m, hm, l, ⟨y, hy, rfl⟩, rfl⟩
    obtain ⟨fr, hx⟩ := mem_form p hm
    exact .inr ⟨_, hx, y, hy, rfl⟩
theorem bag_small {f : P → P} : ∀ {g : P → List P} {m : Nat} (xs acc : List P), (∀ x ∈ xs, (g x).length ≤ m) → (bagAll g f xs acc).length ≤ acc.length + m * xs.length
  | g, m, [], acc, _ => by simp [bagAll]
  | g, m, x :: xs, acc, h => by
    have h1 := bag_small (f := f) (g := g) (m := m) xs ((g x).foldl (fun acc y => bagAdd acc (f y)) acc) fun z hz => h z (List.mem_cons_of_mem _ hz)
    have h2 := bag_len (f := f) (g x) acc
    have h3 := h x (by simp)
    have : bagAll g f (x :: xs) acc = bagAll g f xs ((g x).foldl (fun acc y => bagAdd acc (f y)) acc) := rfl
    rw [this, List.length_cons, Nat.mul_add, Nat.mul_one]
    omega
theorem form_small (p : PolOk n B kvs) (x : P) (h : x ∈ formT kvs) : (partsOf (hd0 x)).length ≤ 9 := by
  obtain ⟨m, fr, rfl, hm, hq⟩ := form_mem p h
  exact (monq_parts hq).1
theorem bagL_len (p : PolOk n B kvs) (hn : n ≤ 6) : (bagL kvs).length ≤ 54 := by
  have := bag_small (f := hd0) (g := fun x => partsOf (hd0 x)) (m := 9) (formT kvs) [] (form_small p)
  have l := p.ln
  rw [formT_len] at this
  simp only [List.length_nil] at this
  show (bagAll _ _ _ _).length ≤ 54
  omega
theorem bagN_len (p : PolOk n B kvs) (hn : n ≤ 6) : (bagN kvs).length ≤ 54 := by
  have := bag_small (f := fun y => hd0 (hd0 y)) (g := fun x => partsOf (hd0 x)) (m := 9) (formT kvs) [] (form_small p)
  have l := p.ln
  rw [formT_len] at this
  simp only [List.length_nil] at this
  show (bagAll _ _ _ _).length ≤ 54
  omega
end
theorem itP_mon {m : P} (h : MonQ m) : itP m = some (partsOf m) := by
  obtain ⟨h1, h2, ds, rfl, h3⟩ := h
  rfl
end Mi
namespace K00
open PySem L2 Mi PySem.Spec PyProof.Rows
section
variable {k n B : Nat} {h : Hh} {kvs : List (P × P)} {Q : D → Hh → Prop}
theorem w_letters_in (p : PolOk n B kvs) (hn : n ≤ 6) (q : Q (.p (.tuple (sortP (bagL kvs)))) h) : Rw (callN prog 5000 (k + 1) f_letters_in [.p (.tuple (formT kvs))] h) Q := by
  rw [rw_callN (F := prog[f_letters_in]) rfl rfl]
  show Sw (exs _ b_letters_in [some (.p (.tuple (formT kvs))), none, none, none, none] h) (fun _ g => Q (.p .none) (g.take h.length)) fun d g => Rw (finD false h.length d g) Q
  unfold b_letters_in
  rw [s_cons, s_ret, w_bi, w_cons]
  refine w_sset (fun x => partsOf (hd0 x)) hd0 9 ?_
  rw [w_iexp, w_var]
  refine ⟨_, rfl, _, rfl, _, rfl, fun x hx => ?_, by rw [formT_len]; have := p.ln; omega, ?_, ?_⟩
  · obtain ⟨m, fr, rfl, hm, hq⟩ := form_mem p hx
    refine ⟨(monq_parts hq).1, _, rfl, fun Q' q' => ?_, fun y hy => ?_⟩
    · rw [w_iexp, w_var]
      exact ⟨_, rfl, _, rfl, _, itP_mon hq, q'⟩
    · obtain ⟨x, i, e, rfl, hx, h0, hi⟩ := (monq_parts hq).2 y hy
      refine ⟨bag_key (monq_let hq ⟨_, hy, rfl⟩).1, _, rfl, fun Q' q' => ?_⟩
      rw [w_var]
      exact ⟨_, rfl, q'⟩
  · exact sortOk_of sk_letter (bagL_ok p).2.1 (by have := bagL_len p hn; unfold bagL at this; omega)
  · rw [w_nil]
    exact ⟨_, rfl, _, bi_tupl, finD_p.mpr (by rw [List.take_length]; exact q)⟩
theorem w_letters_of (p : PolOk n B kvs) (hn : n ≤ 6) (q : Q (.p (.tuple (sortP (bagL kvs)))) h) : Rw (callN prog 5000 (k + 2) f_letters_of [.p (.tuple (formT kvs))] h) Q := by
  rw [rw_callN (F := prog[f_letters_of]) rfl rfl]
  show Sw (exs _ b_letters_of [some (.p (.tuple (formT kvs)))] h) (fun _ g => Q (.p .none) (g.take h.length)) fun d g => Rw (finD false h.length d g) Q
  unfold b_letters_of
  simp only [s_cons, s_ret, w_call, w_cons, w_nil, w_var, List.getElem?_cons_zero, Option.some.injEq, exists_eq_left']
  refine w_letters_in (k := k) p hn ?_
  exact finD_p.mpr (by rw [List.take_length]; exact q)
theorem w_names_of (p : PolOk n B kvs) (hn : n ≤ 6) (q : Q (.p (.tuple (sortP (bagN kvs)))) h) : Rw (callN prog 5000 (k + 1) f_names_of [.p (.tuple (formT kvs))] h) Q := by
  rw [rw_callN (F := prog[f_names_of]) rfl rfl]
  show Sw (exs _ b_names_of [some (.p (.tuple (formT kvs))), none, none, none, none] h) (fun _ g => Q (.p .none) (g.take h.length)) fun d g => Rw (finD false h.length d g) Q
  unfold b_names_of
  rw [s_cons, s_ret, w_bi, w_cons]
  refine w_sset (fun x => partsOf (hd0 x)) (fun y => hd0 (hd0 y)) 9 ?_
  rw [w_iexp, w_var]
  refine ⟨_, rfl, _, rfl, _, rfl, fun x hx => ?_, by rw [formT_len]; have := p.ln; omega, ?_, ?_⟩
  · obtain ⟨m, fr, rfl, hm, hq⟩ := form_mem p hx
    refine ⟨(monq_parts hq).1, _, rfl, fun Q' q' => ?_, fun y hy => ?_⟩
    · rw [w_iexp, w_var]
      exact ⟨_, rfl, _, rfl, _, itP_mon hq, q'⟩
    · obtain ⟨x, i, e, rfl, hx, h0, hi⟩ := (monq_parts hq).2 y hy
      refine ⟨rfl, _, rfl, fun Q' q' => ?_⟩
      rw [w_idx, w_var]
      refine ⟨_, rfl, ?_⟩
      rw [w_lit]
      exact ⟨_, rfl, _, rfl, _, ix_t0, q'⟩
  · exact sortOk_of sk_name (bagN_ok p).2.1 (by have := bagN_len p hn; unfold bagN at this; omega)
  · rw [w_nil]
    exact ⟨_, rfl, _, bi_tupl, finD_p.mpr (by rw [List.take_length]; exact q)⟩
/-- what as_number hands back -/
def numOf : List P → P
  | [] => frP 0 1
  | [t] => match t with
    | .tuple [.tuple [], fr] => fr
    | _ => .none
  | _ => .none
theorem w_as_number {ds : List P} {t : Nat} (hp : pureD B t (.tuple ds)) (ht : t ≤ 60) (hs : ∀ t ∈ ds, ∃ ms fr, t = .tuple [.tuple ms, fr]) (q : Q (.p (numOf ds)) h) : Rw (callN prog 5000 (k + 1) f_as_number [.p (.tuple ds)] h) Q := by
  rw [rw_callN (F := prog[f_as_number]) rfl rfl]
  show Sw (exs _ b_as_number [some (.p (.tuple ds))] h) (fun _ g => Q (.p .none) (g.take h.length)) fun d g => Rw (finD false h.length d g) Q
  unfold b_as_number
  have c1 : cmpop .Eq (.tuple ds) (.tuple []) = some ds.isEmpty := by rw [c_eqd (pure_sh hp ht) shp_nil (fun k e => nomatch e), eqv_nil]
  simp only [s_cons, s_ite, s_ret, w_cmp, w_and, w_ite, w_bi, w_tup, w_cons, w_nil, w_idx, w_var, w_lit, List.getElem?_cons_zero, Option.some.injEq, exists_eq_left', peek_p, peeks, frzs, frz, c1, bi_lent, D.p.injEq, PyData.bool.injEq, c_eq]
  match ds, hp, hs with
  | [], _, _ =>
    simp only [List.isEmpty_nil, if_true, finD_p, List.take_length]
    exact q
  | [a], hp, hs =>
    obtain ⟨ms, fr, rfl⟩ := hs a (by simp)
    have pm : shp (.tuple ms) = true := by
      cases t with
      | zero => exact hp.elim
      | succ t =>
        have h1 := hp.2 (.tuple [.tuple ms, fr]) (by simp)
        cases t with
        | zero => exact h1.elim
        | succ t => exact pure_sh (h1.2 (.tuple ms) (by simp)) (by omega)
    have c2 : cmpop .Eq (.tuple ms) (.tuple []) = some ms.isEmpty := by rw [c_eqd pm shp_nil (fun k e => nomatch e), eqv_nil]
    simp only [List.isEmpty_cons, Bool.false_eq_true, if_false, s_nil, w_var, List.getElem?_cons_zero, peek_p, peeks, bi_lent, c_eq, List.length_cons, List.length_nil, Nat.zero_add, Int.natCast_one, decide_true, if_true, ix_t0, Option.some.injEq, exists_eq_left', c2, ix_t1]
    cases ms with
    | nil =>
      simp only [List.isEmpty_nil, if_true, finD_p, List.take_length]
      exact q
    | cons b r =>
      simp only [List.isEmpty_cons, Bool.false_eq_true, if_false, finD_p, List.take_length]
      exact q
  | a :: b :: r, _, _ =>
    have l2 : ¬ ((a :: b :: r).length : Int) = 1 := by simp only [List.length_cons]; omega
    simp only [List.isEmpty_cons, Bool.false_eq_true, if_false, s_nil, w_var, List.getElem?_cons_zero, peek_p, peeks, bi_lent, c_eq, Option.some.injEq, exists_eq_left', l2, decide_false, finD_p, List.take_length]
    exact q
theorem w_number {n d : Int} (q : Q (.p (if n = 0 then .tuple [] else .tuple [.tuple [.tuple [], frP n d]])) h) : Rw (callN prog 5000 (k + 1) f_number [.p (frP n d)] h) Q := by
  rw [rw_callN (F := prog[f_number]) rfl rfl]
  show Sw (exs _ b_number [some (.p (frP n d))] h) (fun _ g => Q (.p .none) (g.take h.length)) fun d g => Rw (finD false h.length d g) Q
  unfold b_number
  simp only [s_cons, s_ret, w_ite, w_cmp, w_con, w_tup, w_cons, w_nil, w_idx, w_var, w_lit, List.getElem?_cons_zero, Option.some.injEq, exists_eq_left', peek_p, frP, ix_t0, c_eq, D.p.injEq, PyData.bool.injEq, frzs, frz, finD_p, List.take_length]
  by_cases z : n = 0
  · rw [if_pos z] at q
    simp only [z, decide_true, if_true]
    exact q
  · rw [if_neg z] at q
    simp only [z, decide_false, Bool.false_eq_true, if_false]
    exact q
theorem w_letter {x : Str} {i : Int} (q : Q (.p (.tuple [.tuple [.tuple [.tuple [.tuple [.str x, .int i], .int 1]], .tuple [.int 1, .int 1]]])) h) : Rw (callN prog 5000 (k + 1) f_letter [.p (.str x), .p (.int i)] h) Q := by
  rw [rw_callN (F := prog[f_letter]) rfl rfl]
  show Sw (exs _ b_letter [some (.p (.str x)), some (.p (.int i))] h) (fun _ g => Q (.p .none) (g.take h.length)) fun d g => Rw (finD false h.length d g) Q
  unfold b_letter
  simp only [s_cons, s_ret, w_tup, w_cons, w_nil, w_var, w_lit, List.getElem?_cons_zero, List.getElem?_cons_succ, Option.some.injEq, exists_eq_left', frzs, frz, finD_p, List.take_length]
  exact q
end
end K00
namespace Mi
open PySem L2 PySem.Spec PyProof.Rows PySem.W
/-- sorted names of letters: [one[0] for k, one in enumerate(letters) if one[0] not in [part[0] for part in letters[:k]]] -/
def nmT : ME := .lc false (.idx (.var 7) (.lit (.int 0))) (.tup [(.var 13), (.var 7)]) (.enum (.var 9)) (.cons (.cmp .NotIn (.idx (.var 7) (.lit (.int 0))) (.lc false (.idx (.var 14) (.lit (.int 0))) (.var 14) (.exp (.slc (.var 9) .none (.some (.var 13)))) .nil [14])) .nil) [13, 7]
theorem name_all_shp : ∀ {ds : List P}, (∀ d ∈ ds, NameK d) → shp (.list ds) = true := by
  intro ds h
  have aux : ∀ {ds : List P}, (∀ d ∈ ds, NameK d) → PyData.canLayAll0 ds = true ∧ PyData.depthAll ds ≤ 1 := by
    intro ds
    induction ds with
    | nil => intro _; simp [PyData.canLayAll0, PyData.depthAll]
    | cons a r ih =>
      intro hd
      obtain ⟨x, rfl⟩ := name_ex (hd a (by simp))
      have h1 := name_ok (hd (.str x) (by simp))
      have h2 := ih fun d hd' => hd d (List.mem_cons_of_mem _ hd')
      simp only [PyData.canLayAll0, PyData.depthAll, PyData.canLay0, PyData.depth, h1, h2.1, Bool.and_self, true_and]
      omega
  have := aux h
  unfold shp SeqAt.shaped
  rw [show (PyData.list ds).canLay0 = true from by unfold PyData.canLay0; exact this.1, Bool.true_and, decide_eq_true_eq]
  unfold PyData.depth
  omega
theorem cut_pre {pre post : List P} : cutP (pre ++ post) none (some (pre.length : Int)) = pre := by
  unfold cutP
  rw [HT.sIx_none, HT.sIx_nat]
  simp
theorem w_nm {C : Calls} {a0 a1 a2 a3 a4 a5 a6 a7 a8 a10 a11 a12 a13 a14 : Option D} {h : Hh} {Q : D → Hh → Prop} {Ls : List P} (hL : ∀ a ∈ Ls, LetK a) (hl : Ls.length ≤ 60) (q : ∀ ns : List P, ns.Nodup → (∀ a, a ∈ ns ↔ ∃ l ∈ Ls, a = hd0 l) → Q (.p (.list ns)) h) :
    Rw (ev C nmT [a0, a1, a2, a3, a4, a5, a6, a7, a8, some (.p (.list Ls)), a10, a11, a12, a13, a14] h) Q := by
  unfold nmT
  refine w_lc ?_
  rw [w_ienum, w_var]
  refine ⟨_, rfl, Ls, rfl, fun rest acc g => g = h ∧ ∃ pre post, Ls = pre ++ post ∧ rest = enumP pre.length post ∧ acc.Nodup ∧ acc.length ≤ pre.length ∧ ∀ a, a ∈ acc ↔ ∃ l ∈ pre, a = hd0 l, ⟨rfl, [], Ls, rfl, rfl, List.nodup_nil, Nat.le_refl _, fun a => by simp⟩, ?_, ?_⟩
  · rintro x rest acc g hg ⟨rfl, pre, post, e, er, nd, al, am⟩
    cases post with
    | nil => cases er
    | cons l post =>
      unfold enumP at er
      injection er with e1 e2
      subst e1 e2
      have hlm : l ∈ Ls := by rw [e]; simp
      obtain ⟨x, i, rfl, hx, _⟩ := letter_ex (hL l hlm)
      refine ⟨_, rfl, ?_⟩
      have pn : ∀ d ∈ pre.map hd0, NameK d := fun d hd => by
        obtain ⟨l', hl', rfl⟩ := List.mem_map.mp hd
        obtain ⟨y, j, rfl, hy, _⟩ := letter_ex (hL l' (by rw [e]; exact List.mem_append_left _ hl'))
        exact hy
      have ci : cmpop .NotIn (.str x) (.list (pre.map hd0)) = some (!((pre.map hd0).any fun z => PyData.eqv z (.str x))) := by
        have s1 : shp (.str x) = true := sk_name.sh _ hx
        show (inD (.str x) (.list (pre.map hd0))).map (!·) = _
        unfold inD
        simp only [s1, name_all_shp pn, Bool.and_self, if_true, Option.map_some]
      have key : ((pre.map hd0).any fun z => PyData.eqv z (.str x)) = true ↔ ∃ l ∈ pre, PyData.str x = hd0 l := by
        rw [List.any_eq_true]
        constructor
        · rintro ⟨z, hz, ez⟩
          have := (sk_name.eq _ _ (pn z hz) hx).mp ez
          subst this
          obtain ⟨l', hl', el⟩ := List.mem_map.mp hz
          exact ⟨l', hl', el.symm⟩
        · rintro ⟨l', hl', el⟩
          have := List.mem_map.mpr ⟨l', hl', el.symm⟩
          exact ⟨_, this, (sk_name.eq _ _ hx hx).mpr rfl⟩
      rw [w_tcons, w_cmp, w_idx, w_var]
      refine ⟨_, rfl, ?_⟩
      rw [w_lit]
      refine ⟨_, rfl, _, rfl, _, ix_t0, ?_⟩
      refine w_lcmap (fun d => d) hd0 ?_
      rw [w_iexp, w_slc, w_var]
      refine ⟨_, rfl, ?_⟩
      rw [w_onone, w_osome, w_var]
      have sc : slcD (.list Ls) none (some (pre.length : Int)) = some (.list pre) := by
        show some (PyData.list (cutP Ls none (some (pre.length : Int)))) = _
        rw [e, cut_pre]
      refine ⟨_, rfl, _, rfl, _, rfl, _, sc, _, rfl, _, rfl, pre, by simp, by rw [e, List.length_append] at hl; omega, fun d hd => ⟨_, rfl, fun acc' Q' q' => ?_⟩, ?_⟩
      · obtain ⟨y, j, rfl, hy, _⟩ := letter_ex (hL d (by rw [e]; exact List.mem_append_left _ hd))
        rw [w_idx, w_var]
        refine ⟨_, rfl, ?_⟩
        rw [w_lit]
        exact ⟨_, rfl, _, rfl, _, ix_t0, q'⟩
      · refine ⟨_, rfl, _, rfl, _, ci, _, rfl, ?_⟩
        cases c : (pre.map hd0).any fun z => PyData.eqv z (.str x) with
        | true =>
          obtain ⟨l', hl', el⟩ := key.mp c
          rw [if_neg (by decide)]
          rw [if_neg (by decide)]
          refine ⟨g, rfl, rfl, rfl, pre ++ [.tuple [.str x, .int i]], post, by simp [e], by rw [List.length_append, List.length_singleton], nd, by rw [List.length_append]; omega, fun a => ?_⟩
          rw [am]
          simp only [List.mem_append, List.mem_singleton]
          constructor
          · rintro ⟨l, h1, rfl⟩; exact ⟨l, .inl h1, rfl⟩
          · rintro ⟨l, h1 | rfl, rfl⟩
            · exact ⟨l, h1, rfl⟩
            · exact ⟨l', hl', el⟩
        | false =>
          have nk : ¬ ∃ l ∈ pre, PyData.str x = hd0 l := fun z => by rw [key.mpr z] at c; cases c
          rw [if_pos (by decide), w_tnil, if_pos rfl, w_idx, w_var]
          refine ⟨_, rfl, ?_⟩
          rw [w_lit]
          refine ⟨_, rfl, _, rfl, _, ix_t0, _, rfl, g, rfl, rfl, by rw [e, List.length_append] at hl; omega, rfl, pre ++ [.tuple [.str x, .int i]], post, by simp [e], by rw [List.length_append, List.length_singleton], ?_, by rw [List.length_append, List.length_append, List.length_singleton, List.length_singleton]; omega, fun a => ?_⟩
          · rw [List.nodup_append]
            exact ⟨nd, by simp, fun a ha b hb => by rw [List.mem_singleton] at hb; subst hb; exact fun e => nk ((am _).mp (e ▸ ha))⟩
          · simp only [List.mem_append, List.mem_singleton, am]
            constructor
            · rintro (⟨l, h1, rfl⟩ | rfl)
              · exact ⟨l, .inl h1, rfl⟩
              · exact ⟨_, .inr rfl, rfl⟩
            · rintro ⟨l, h1 | rfl, rfl⟩
              · exact .inl ⟨l, h1, rfl⟩
              · exact .inr rfl
  · rintro acc g hg ⟨rfl, pre, post, e, er, nd, al, am⟩
    have : post = [] := by cases post with
      | nil => rfl
      | cons a b => unfold enumP at er; cases er
    subst this
    rw [List.append_nil] at e
    subst e
    rw [if_neg (by decide)]
    exact q acc nd am
/-- the letters found: for mono in p: for one, e in mono: found[one] = True -/
def fdB : MSs := .cons (.fr (.tup [(.var 7), (.var 8)]) (.exp (.var 6)) (.cons (.put (.var 5) (.var 7) (.lit (.bool true))) .nil)) .nil
structure FdOk (n : Nat) (A : P → Prop) (fk : List (P × P)) : Prop where
  ks : ∀ kv ∈ fk, LetK kv.1
  nd : (fk.map (·.1)).Nodup
  ln : fk.length ≤ n
  mm : ∀ a, a ∈ fk.map (·.1) ↔ A a
theorem dput_memk {K : P → Prop} {fk : List (P × P)} {k v : P} (hK : KP K) (ak : ∀ kv ∈ fk, K kv.1) (hk : K k) (a : P) : a ∈ (dput fk k v).map (·.1) ↔ a ∈ fk.map (·.1) ∨ a = k := by
  by_cases c : k ∈ fk.map (·.1)
  · rw [dput_keys hK ak hk c]
    exact ⟨.inl, fun h => h.elim id fun e => e ▸ c⟩
  · rw [dput_new hK ak hk c]
    simp
theorem FdOk.put {n : Nat} {A : P → Prop} {fk : List (P × P)} {k v : P} (f : FdOk n A fk) (hk : LetK k) : FdOk (n + 1) (fun a => A a ∨ a = k) (dput fk k v) where
  ks kv hkv := (dput_mem kp_letter f.ks hk hkv).elim (f.ks kv) fun e => e ▸ hk
  nd := dput_nodup kp_letter f.ks hk f.nd
  ln := Nat.le_trans (dput_len kp_letter) (by have := f.ln; omega)
  mm a := by rw [dput_memk kp_letter f.ks hk, f.mm]
theorem FdOk.iff {n n' : Nat} {A A' : P → Prop} {fk : List (P × P)} (f : FdOk n A fk) (hn : n ≤ n') (h : ∀ a, A a ↔ A' a) : FdOk n' A' fk := ⟨f.ks, f.nd, by have := f.ln; omega, fun a => (f.mm a).trans (h a)⟩
end Mi
namespace Mi
open PySem L2 PySem.Spec PyProof.Rows PySem.W
def Who (w : P) : Prop := ∃ ds, w = .tuple ds ∧ pureD 1000 5 w ∧ ∀ d ∈ ds, ∃ a r, d = .tuple (a :: r) ∧ pureD 1000 5 a
theorem who_form {n B : Nat} {kvs : List (P × P)} (p : PolOk n B kvs) (hn : n ≤ 100) (hB : 200 ≤ B) (hB2 : B ≤ 1000) : Who (.tuple (formT kvs)) := by
  refine ⟨_, rfl, pure_up hB2 (Nat.le_refl _) (p.pure hn hB), fun d hd => ?_⟩
  obtain ⟨m, fr, rfl, hm, hq⟩ := form_mem p hd
  exact ⟨m, _, rfl, pure_up (by decide) (by decide) (monq_pure hq)⟩
theorem who_mono {m : P} (h : MonQ m) : Who m := by
  have hp := monq_pure h
  have pp := monq_parts h
  obtain ⟨h1, h2, ds, rfl, h3⟩ := h
  refine ⟨ds, rfl, pure_up (by decide) (by decide) hp, fun d hd => ?_⟩
  obtain ⟨x, i, e, rfl, hx, h0, hi⟩ := pp.2 d hd
  refine ⟨_, _, rfl, ?_⟩
  have := (hp.2 _ hd).2 (.tuple [.str x, .int i]) (by simp)
  exact pure_up (by decide) (by decide) this
theorem numOf_eq {n B : Nat} {kvs : List (P × P)} (p : PolOk n B kvs) : K00.numOf (formT kvs) = if kvs = [] then frP 0 1 else if bagL kvs = [] then (dget kvs (.tuple [])).getD .none else .none := by
  have hl : (formT kvs).length = kvs.length := formT_len
  have hb := (bagL_ok p).2.2
  cases hk : kvs with
  | nil =>
    subst hk
    rw [if_pos rfl]
    have : formT [] = [] := List.length_eq_zero_iff.mp hl
    rw [this]; rfl
  | cons kv r =>
    obtain ⟨km, kf⟩ := kv
    rw [if_neg (by simp), ← hk]
    have nonem : ∀ m ∈ monsOf kvs, bagL kvs = [] → m = .tuple [] := fun m hm e => by
      have q := p.keyq m hm
      obtain ⟨h1, h2, ds, rfl, h3⟩ := q
      cases ds with
      | nil => rfl
      | cons d ds =>
        have := (hb (hd0 d)).mpr ⟨_, hm, d, by simp [partsOf], rfl⟩
        rw [e] at this
        cases this
    have m0 : km ∈ monsOf kvs := by rw [hk]; simp [monsOf]
    cases r with
    | nil =>
      have e1 : formT kvs = [.tuple [km, (dget kvs km).getD .none]] := by
        have : sortP (kvs.map (·.1)) = [km] := by
          have := sortP_perm' (ks := kvs.map (·.1))
          rw [hk] at this ⊢
          exact List.perm_singleton.mp this
        unfold formT
        rw [this]
        rfl
      rw [e1]
      have q := p.keyq _ m0
      obtain ⟨h1, h2, ds, e2, h3⟩ := q
      subst e2
      cases ds with
      | nil =>
        have be : bagL kvs = [] := by
          cases eb : bagL kvs with
          | nil => rfl
          | cons l ls =>
            obtain ⟨m, hm, d, hd, rfl⟩ := (hb l).mp (by rw [eb]; simp)
            have : m = .tuple [] := by rw [hk] at hm; simpa [monsOf] using hm
            rw [this] at hd
            cases hd
        rw [if_pos be]
        rfl
      | cons d ds =>
        have be : bagL kvs ≠ [] := fun e => by
          have := nonem _ m0 e
          cases this
        rw [if_neg be]
        rfl
    | cons kv2 r =>
      have be : bagL kvs ≠ [] := fun e => by
        have n1 := nonem _ m0 e
        have n2 := nonem kv2.1 (by rw [hk]; simp [monsOf]) e
        have nd := p.nd
        rw [hk, List.map_cons, List.map_cons, List.nodup_cons] at nd
        exact nd.1 (by rw [n1, n2]; simp)
      rw [if_neg be]
      have l2 : 2 ≤ (formT kvs).length := by rw [formT_len, hk]; simp
      rcases hf : formT kvs with _ | ⟨a, _ | ⟨b, c⟩⟩
      · rw [hf] at l2; simp at l2
      · rw [hf] at l2; simp at l2
      · rfl
/-- a text that is shown -/
theorem c_nesame {x : Str} : cmpop .NotEq (.str x) (.str x) = some false := by rw [c_nes, beq_self_eq_true]; rfl
end Mi
namespace K00
open PySem L2 Mi PySem.Spec PyProof.Rows
/-- whole = value if value == () or _law_draw(m, 3) > 0 else value[_law_draw(m, len(value))][0] -/
def t1 : MS := .asg (.var 4) (.ite (.or (.cmp .Eq (.var 2) (.tup .nil)) (.cmp .Gt (.call (Str.ofString "_law_draw") 17 (.cons (.var 0) (.cons (.lit (.int 3)) .nil))) (.lit (.int 0)))) (.var 2) (.idx (.idx (.var 2) (.call (Str.ofString "_law_draw") 17 (.cons (.var 0) (.cons (.bi .len (.cons (.var 2) .nil)) .nil)))) (.lit (.int 0))))
def t2 : MS := .ite (.and (.cmp .NotEq (.var 4) (.var 2)) (.and (.cmp .NotEq (.var 4) (.tup .nil)) (.cmp .Eq (.call (Str.ofString "_law_draw") 17 (.cons (.var 0) (.cons (.lit (.int 2)) .nil))) (.lit (.int 0)))))
  (.cons (.asg (.var 4) (.idx (.idx (.var 4) (.call (Str.ofString "_law_draw") 17 (.cons (.var 0) (.cons (.bi .len (.cons (.var 4) .nil)) .nil)))) (.lit (.int 0))))
  .nil)
  .nil
def t3 : MS := .ite (.or (.not (.call (Str.ofString "_law_told_right") 38 (.cons (.var 4) .nil))) (.not (.call (Str.ofString "_law_told_right") 38 (.cons (.call (Str.ofString "_law_spoilt") 37 (.cons (.var 0) (.cons (.var 4) (.cons (.lit (.int 6)) .nil)))) .nil))))
  (.cons (.ret (.lit (.bool false)))
  .nil)
  .nil
section
variable {k n i : Nat} {h : Hh} {c : Cell} {Qn : Sl → Hh → Prop} {Qr : D → Hh → Prop} {a1 a3 a4 : Option D} {τ : Sl}
theorem s_t1 {T : List P} (hi : h[i]? = some c) (m : MOk c n) (hn : n + 2 < 2 ^ 60) (wh : Who (.tuple T)) (hm : ∀ d ∈ T, ∃ a r, d = .tuple (a :: r) ∧ Who a)
    (q : ∀ w c', Who w → MOk c' (n + 2) → Qn (some (.r i) :: a1 :: some (.p (.tuple T)) :: a3 :: some (.p w) :: τ) (h.set i c')) :
    Sw (ex ⟨callN prog 5000 (k + 1), 5000⟩ t1 (some (.r i) :: a1 :: some (.p (.tuple T)) :: a3 :: a4 :: τ) h) Qn Qr := by
  unfold t1
  have tp : pureD 1000 5 (.tuple T) := by obtain ⟨_, _, h, _⟩ := wh; exact h
  have c1 : cmpop .Eq (.tuple T) (.tuple []) = some T.isEmpty := by rw [c_eqd (pure_sh tp (by decide)) shp_nil (fun k e => nomatch e), eqv_nil]
  have as : ∀ d : D, asgD (.var 4) d (some (.r i) :: a1 :: some (.p (.tuple T)) :: a3 :: a4 :: τ) = some (some (.r i) :: a1 :: some (.p (.tuple T)) :: a3 :: some d :: τ) := fun d => as_var (by simp)
  simp only [s_asg, w_ite, w_or, w_cmp, w_tup, w_cons, w_nil, w_var, w_lit, w_call, List.getElem?_cons_zero, List.getElem?_cons_succ, Option.some.injEq, exists_eq_left', peek_p, frzs, c1, D.p.injEq, PyData.bool.injEq]
  cases T with
  | nil =>
    simp only [List.isEmpty_nil, if_true, exists_eq_left', as, Option.some.injEq]
    have := q _ c wh (m.up (by omega))
    rw [set_same hi] at this
    exact this
  | cons t T =>
    simp only [List.isEmpty_cons, Bool.false_eq_true, if_false]
    refine w_draw (k := k) hi m (by omega) (by decide) (by decide +kernel) fun r c1 r0 r1 m1 => ?_
    simp only [peek_p, Option.some.injEq, exists_eq_left', c_gt, D.p.injEq, PyData.bool.injEq]
    by_cases z : 0 < r
    · simp only [z, decide_true, if_true, as, Option.some.injEq, exists_eq_left']
      exact q _ c1 wh (m1.up (by omega))
    · simp only [z, decide_false, Bool.false_eq_true, if_false, w_idx, w_call, w_bi, w_cons, w_nil, w_var, w_lit, List.getElem?_cons_zero, List.getElem?_cons_succ, Option.some.injEq, exists_eq_left', peek_p, peeks, bi_lent]
      generalize hT : t :: T = T' at *
      have dl : 0 < T'.length := by rw [← hT]; simp
      have d100 := tp.1
      refine w_draw (k := k) (get_set hi) m1 (by omega) (by omega) (divOk_of (B := 24) (by omega) (by rw [Int.natAbs_natCast]; omega) (by decide)) fun r2 c2 r20 r21 m2 => ?_
      obtain ⟨d, hd, ei⟩ := ix_tuple r20 r21
      obtain ⟨a, r, rfl, wa⟩ := hm d hd
      simp only [peek_p, ei, ix_t0, Option.some.injEq, exists_eq_left', as, List.set_set]
      exact q _ c2 wa m2
theorem s_t2 {T : List P} {w : P} (hi : h[i]? = some c) (m : MOk c n) (hn : n + 2 < 2 ^ 60) (tp : pureD 1000 5 (.tuple T)) (wh : Who w)
    (q : ∀ w c', pureD 1000 5 w → MOk c' (n + 2) → Qn (some (.r i) :: a1 :: some (.p (.tuple T)) :: a3 :: some (.p w) :: τ) (h.set i c')) :
    Sw (ex ⟨callN prog 5000 (k + 1), 5000⟩ t2 (some (.r i) :: a1 :: some (.p (.tuple T)) :: a3 :: some (.p w) :: τ) h) Qn Qr := by
  unfold t2
  obtain ⟨ds, rfl, wp, wd⟩ := wh
  have c1 : cmpop .NotEq (.tuple ds) (.tuple T) = some (!PyData.eqv (.tuple ds) (.tuple T)) := c_ned (pure_sh wp (by decide)) (pure_sh tp (by decide)) (fun k e => nomatch e)
  have c2 : cmpop .NotEq (.tuple ds) (.tuple []) = some (!ds.isEmpty) := by rw [c_ned (pure_sh wp (by decide)) shp_nil (fun k e => nomatch e), eqv_nil]
  have as : ∀ d : D, asgD (.var 4) d (some (.r i) :: a1 :: some (.p (.tuple T)) :: a3 :: some (.p (.tuple ds)) :: τ) = some (some (.r i) :: a1 :: some (.p (.tuple T)) :: a3 :: some d :: τ) := fun d => as_var (by simp)
  have q0 : Qn (some (.r i) :: a1 :: some (.p (.tuple T)) :: a3 :: some (.p (.tuple ds)) :: τ) h := by
    have := q _ c wp (m.up (by omega))
    rw [set_same hi] at this
    exact this
  simp only [s_ite, w_and, w_cmp, w_tup, w_cons, w_nil, w_var, w_lit, w_call, List.getElem?_cons_zero, List.getElem?_cons_succ, Option.some.injEq, exists_eq_left', peek_p, frzs, c1, c2, D.p.injEq, PyData.bool.injEq, s_nil]
  cases z1 : PyData.eqv (.tuple ds) (.tuple T) with
  | true =>
    simp only [Bool.not_true, Bool.false_eq_true, if_false, exists_eq_left']
    exact q0
  | false =>
    simp only [Bool.not_false, if_true]
    cases ds with
    | nil =>
      simp only [List.isEmpty_nil, Bool.not_true, Bool.false_eq_true, if_false, exists_eq_left']
      exact q0
    | cons d ds =>
      simp only [List.isEmpty_cons, Bool.not_false, if_true]
      refine w_draw (k := k) hi m (by omega) (by decide) (by decide +kernel) fun r c1 r0 r1 m1 => ?_
      simp only [peek_p, Option.some.injEq, exists_eq_left', c_eq, D.p.injEq, PyData.bool.injEq]
      by_cases z : r = 0
      · simp only [z, decide_true, if_true, s_cons, s_nil, s_asg, w_idx, w_call, w_bi, w_cons, w_nil, w_var, w_lit, List.getElem?_cons_zero, List.getElem?_cons_succ, Option.some.injEq, exists_eq_left', peek_p, peeks, bi_lent]
        generalize hT : d :: ds = T' at *
        have dl : 0 < T'.length := by rw [← hT]; simp
        have d100 := wp.1
        refine w_draw (k := k) (get_set hi) m1 (by omega) (by omega) (divOk_of (B := 24) (by omega) (by rw [Int.natAbs_natCast]; omega) (by decide)) fun r2 c2 r20 r21 m2 => ?_
        obtain ⟨d, hd, ei⟩ := ix_tuple r20 r21
        obtain ⟨a, r, rfl, wa⟩ := wd d hd
        simp only [peek_p, ei, ix_t0, Option.some.injEq, exists_eq_left', as, List.set_set]
        exact q _ c2 wa m2
      · simp only [z, decide_false, Bool.false_eq_true, if_false]
        exact q _ c1 wp (m1.up (by omega))
theorem s_t3 {w : P} {a2 : Option D} (hi : h[i]? = some c) (m : MOk c n) (hn : n + 14 < 2 ^ 60) (wp : pureD 1000 5 w)
    (q : ∀ c', MOk c' (n + 14) → Qn (some (.r i) :: a1 :: a2 :: a3 :: some (.p w) :: τ) (h.set i c')) :
    Sw (ex ⟨callN prog 5000 (k + 10), 5000⟩ t3 (some (.r i) :: a1 :: a2 :: a3 :: some (.p w) :: τ) h) Qn Qr := by
  unfold t3
  simp only [s_ite, w_or, w_not, w_call, w_cons, w_nil, w_var, w_lit, List.getElem?_cons_zero, List.getElem?_cons_succ, Option.some.injEq, exists_eq_left']
  refine w_told_right (k := k + 2) (pure_ok wp) (by decide) ?_
  simp only [D.p.injEq, PyData.bool.injEq, exists_eq_left', Bool.not_true, Bool.false_eq_true, if_false]
  refine w_spoilt (B := 1000) (by decide) 6 (k := k) hi m (by omega) wp (by decide) fun w' c' ow m' => ?_
  refine w_told_right (k := k + 2) ow (by decide) ?_
  simp only [D.p.injEq, PyData.bool.injEq, exists_eq_left', Bool.not_true, Bool.false_eq_true, if_false, s_nil]
  exact q c' m'
end
end K00
namespace Mi
open PySem L2 PySem.Spec PyProof.Rows PySem.W
theorem let_pure {n B : Nat} {kvs : List (P × P)} (p : PolOk n B kvs) {l : P} (h : l ∈ bagL kvs) : pureD 200 1 l := by
  obtain ⟨m, hm, hl⟩ := ((bagL_ok p).2.2 l).mp h
  exact (monq_let (p.keyq m hm) hl).2
theorem let_shown {l : P} (h : LetK l) (hp : pureD 200 1 l) : l.shown.length ≤ 2100 := by
  obtain ⟨x, i, rfl, hx, _⟩ := letter_ex h
  have := shown_tup (m := 1000) (ds := [.str x, .int i]) fun d hd => by
    simp only [List.mem_cons, List.not_mem_nil, or_false] at hd
    rcases hd with rfl | rfl
    · have := shown_name hx; omega
    · exact shown_int (B := 200) (hp.2 (.int i) (by simp)) (by decide)
  simp only [List.length_cons, List.length_nil] at this
  omega
theorem repr_letters {n B : Nat} {kvs : List (P × P)} (p : PolOk n B kvs) (hn : n ≤ 6) : ∃ x, Mi.bi .repr [.tuple (sortP (bagL kvs))] = some (.str x) := by
  have l54 := bagL_len p hn
  have ls : (sortP (bagL kvs)).length = (bagL kvs).length := sortP_perm'.length_eq
  have pu : ∀ d ∈ sortP (bagL kvs), pureD 200 1 d := fun d hd => let_pure p (sortP_perm'.mem_iff.mp hd)
  have := shown_tup (m := 2100) (ds := sortP (bagL kvs)) fun d hd => let_shown ((bagL_ok p).2.1 d (sortP_perm'.mem_iff.mp hd)) (pu d hd)
  exact ⟨_, bi_repr (B := 200) (n := 2) ⟨by omega, pu⟩ (by decide) (by decide) (by have : (sortP (bagL kvs)).length * (2100 + 2) ≤ 54 * 2102 := Nat.mul_le_mul_right _ (by omega); omega)⟩
theorem repr_names {n B : Nat} {kvs : List (P × P)} (p : PolOk n B kvs) (hn : n ≤ 6) : ∃ x, Mi.bi .repr [.tuple (sortP (bagN kvs))] = some (.str x) := by
  have l54 := bagN_len p hn
  have ls : (sortP (bagN kvs)).length = (bagN kvs).length := sortP_perm'.length_eq
  have pu : ∀ d ∈ sortP (bagN kvs), NameK d := fun d hd => (bagN_ok p).2.1 d (sortP_perm'.mem_iff.mp hd)
  have := shown_tup (m := 100) (ds := sortP (bagN kvs)) fun d hd => by
    obtain ⟨x, rfl⟩ := name_ex (pu d hd)
    exact shown_name (pu _ hd)
  exact ⟨_, bi_repr (B := 200) (n := 2) ⟨by omega, fun d hd => by
    obtain ⟨x, rfl⟩ := name_ex (pu d hd)
    exact pu _ hd⟩ (by decide) (by decide) (by have : (sortP (bagN kvs)).length * (100 + 2) ≤ 54 * 102 := Nat.mul_le_mul_right _ (by omega); omega)⟩
theorem frac_pure {B : Nat} {a b : Int} (f : Fr B a b) : pureD B 1 (frP a b) := ⟨by simp, fun d hd => by
  simp only [List.mem_cons, List.not_mem_nil, or_false] at hd
  rcases hd with rfl | rfl
  · exact f.nb
  · exact f.db⟩
theorem frac_shown {B : Nat} {a b : Int} (f : Fr B a b) (hB : B ≤ 1500) : (frP a b).shown.length ≤ 2100 := by
  have := shown_tup (m := 1000) (ds := [.int a, .int b]) fun d hd => by
    simp only [List.mem_cons, List.not_mem_nil, or_false] at hd
    rcases hd with rfl | rfl
    · exact shown_int f.nb hB
    · exact shown_int f.db hB
  simp only [List.length_cons, List.length_nil] at this
  show (PyData.tuple [.int a, .int b]).shown.length ≤ 2100
  omega
theorem repr_frac {B : Nat} {a b : Int} (f : Fr B a b) (hB : B ≤ 1500) : ∃ x, Mi.bi .repr [frP a b] = some (.str x) :=
  ⟨_, bi_repr (frac_pure f) hB (by decide) (by have := frac_shown f hB; omega)⟩
theorem repr_none : ∃ x, Mi.bi .repr [.none] = some (.str x) := ⟨_, rfl⟩
theorem repr_num {n B : Nat} {kvs : List (P × P)} (p : PolOk n B kvs) (hB : B ≤ 1500) : ∃ x, Mi.bi .repr [K00.numOf (formT kvs)] = some (.str x) := by
  rw [numOf_eq p]
  split
  · exact repr_frac (B := 10) ⟨by decide, by decide, by decide, by decide⟩ (by decide)
  · split
    · cases e : dget kvs (.tuple []) with
      | none => exact repr_none
      | some v =>
        have : PyData.tuple [] ∈ kvs.map (·.1) := by
          have k0 : MonQ (.tuple []) := ⟨rfl, ⟨by simp, trivial⟩, [], rfl, by simp⟩
          exact (isSome_dget kp_monq p.ks p.nd k0).mp (by rw [e]; rfl)
        obtain ⟨a, b, e2, f, _⟩ := p.val this
        rw [e] at e2
        cases e2
        exact repr_frac f hB
    · exact repr_none
theorem repr_number {B : Nat} {a b : Int} (f : Fr B a b) (hB : B ≤ 1500) : ∃ x, Mi.bi .repr [.tuple [.tuple [.tuple [], frP a b]]] = some (.str x) := by
  have s1 : (PyData.tuple []).shown.length ≤ 2100 := by decide +kernel
  have s2 := shown_tup (m := 2100) (ds := [.tuple [], frP a b]) fun d hd => by
    simp only [List.mem_cons, List.not_mem_nil, or_false] at hd
    rcases hd with rfl | rfl
    · exact s1
    · exact frac_shown f hB
  have s3 := shown_tup (m := 5000) (ds := [.tuple [.tuple [], frP a b]]) fun d hd => by
    rw [List.mem_singleton] at hd
    subst hd
    simp only [List.length_cons, List.length_nil] at s2
    omega
  simp only [List.length_cons, List.length_nil] at s3
  refine ⟨_, bi_repr (B := B) (n := 3) ⟨by simp, fun d hd => ?_⟩ hB (by decide) (by omega)⟩
  rw [List.mem_singleton] at hd
  subst hd
  refine ⟨by simp, fun d hd => ?_⟩
  simp only [List.mem_cons, List.not_mem_nil, or_false] at hd
  rcases hd with rfl | rfl
  · exact ⟨by simp, fun d hd => nomatch hd⟩
  · exact frac_pure f
def letP (x : Str) (i : Int) : P := .tuple [.tuple [.tuple [.tuple [.tuple [.str x, .int i], .int 1]], .tuple [.int 1, .int 1]]]
theorem letP_pure {x : Str} {i : Int} (hx : nameB (.str x) = true) (h1 : i.natAbs < 2 ^ 200) : pureD 200 5 (letP x i) := by
  refine ⟨by simp, fun d hd => ?_⟩
  rw [List.mem_singleton] at hd
  subst hd
  refine ⟨by simp, fun d hd => ?_⟩
  simp only [List.mem_cons, List.not_mem_nil, or_false] at hd
  rcases hd with rfl | rfl
  · refine ⟨by simp, fun d hd => ?_⟩
    rw [List.mem_singleton] at hd
    subst hd
    refine ⟨by simp, fun d hd => ?_⟩
    simp only [List.mem_cons, List.not_mem_nil, or_false] at hd
    rcases hd with rfl | rfl
    · refine ⟨by simp, fun d hd => ?_⟩
      simp only [List.mem_cons, List.not_mem_nil, or_false] at hd
      rcases hd with rfl | rfl
      · exact hx
      · exact h1
    · show (1 : Int).natAbs < 2 ^ 200; decide +kernel
  · refine ⟨by simp, fun d hd => ?_⟩
    simp only [List.mem_cons, List.not_mem_nil, or_false, or_self] at hd
    subst hd
    show (1 : Int).natAbs < 2 ^ 200; decide +kernel
theorem repr_letter {x : Str} {i : Int} (hx : nameB (.str x) = true) (h1 : i.natAbs < 2 ^ 200) : ∃ y, Mi.bi .repr [letP x i] = some (.str y) := by
  have n1 : (PyData.int 1).shown.length ≤ 1000 := shown_int (B := 200) (by decide +kernel) (by decide)
  have s1 := shown_tup (m := 1000) (ds := [.str x, .int i]) fun d hd => by
    simp only [List.mem_cons, List.not_mem_nil, or_false] at hd
    rcases hd with rfl | rfl
    · have := shown_name hx; omega
    · exact shown_int h1 (by decide)
  have s2 := shown_tup (m := 3000) (ds := [.tuple [.str x, .int i], .int 1]) fun d hd => by
    simp only [List.mem_cons, List.not_mem_nil, or_false] at hd
    simp only [List.length_cons, List.length_nil] at s1
    rcases hd with rfl | rfl <;> omega
  have s3 := shown_tup (m := 7000) (ds := [.tuple [.tuple [.str x, .int i], .int 1]]) fun d hd => by
    rw [List.mem_singleton] at hd
    subst hd
    simp only [List.length_cons, List.length_nil] at s2
    omega
  have s4 := shown_tup (m := 1000) (ds := [.int 1, .int 1]) fun d hd => by
    simp only [List.mem_cons, List.not_mem_nil, or_false, or_self] at hd
    subst hd
    exact n1
  have s5 := shown_tup (m := 8000) (ds := [.tuple [.tuple [.tuple [.str x, .int i], .int 1]], .tuple [.int 1, .int 1]]) fun d hd => by
    simp only [List.mem_cons, List.not_mem_nil, or_false] at hd
    simp only [List.length_cons, List.length_nil] at s3 s4
    rcases hd with rfl | rfl <;> omega
  have s6 := shown_tup (m := 17000) (ds := [.tuple [.tuple [.tuple [.tuple [.str x, .int i], .int 1]], .tuple [.int 1, .int 1]]]) fun d hd => by
    rw [List.mem_singleton] at hd
    subst hd
    simp only [List.length_cons, List.length_nil] at s5
    omega
  simp only [List.length_cons, List.length_nil] at s6
  exact ⟨_, bi_repr (letP_pure hx h1) (by decide) (by decide) (by show (PyData.tuple _).shown.length ≤ _; omega)⟩
end Mi
namespace Mi
open PySem L2 PySem.Spec PyProof.Rows PySem.W
theorem take_app {h r : Hh} {i : Nat} {c : Cell} : (h.set i c ++ r).take h.length = h.set i c := by
  rw [show h.length = (h.set i c).length by rw [List.length_set], List.take_left]
end Mi
namespace K00
open PySem L2 Mi PySem.Spec PyProof.Rows
theorem s_found {C : Calls} {kvs : List (P × P)} {n B : Nat} {g : Hh} {a0 a2 a3 a4 a6 a7 a8 a9 a10 a11 a12 a13 a14 : Option D} {Qn : Sl → Hh → Prop} {Qr : D → Hh → Prop} (p : PolOk n B kvs) (hn : n ≤ 6)
    (q : ∀ fk b6 b7 b8, FdOk 54 (fun a => a ∈ bagL kvs) fk → Qn [a0, some (.p (.dict kvs)), a2, a3, a4, some (.r g.length), b6, b7, b8, a9, a10, a11, a12, a13, a14] (g ++ [.dct fk])) :
    Sw (ex C (.fr (.var 6) (.exp (.var 1)) fdB) [a0, some (.p (.dict kvs)), a2, a3, a4, some (.r g.length), a6, a7, a8, a9, a10, a11, a12, a13, a14] (g ++ [.dct []])) Qn Qr := by
  rw [s_fr, w_iexp, w_var]
  refine ⟨_, rfl, _, rfl, _, rfl, ?_⟩
  have len := p.ln
  refine for_inv (fun rest σ gg => ∃ pre fk b6 b7 b8, monsOf kvs = pre ++ rest ∧ gg = g ++ [.dct fk] ∧ FdOk (9 * pre.length) (fun a => ∃ m ∈ pre, hasL m a) fk ∧ σ = [a0, some (.p (.dict kvs)), a2, a3, a4, some (.r g.length), b6, b7, b8, a9, a10, a11, a12, a13, a14]) ?_ ?_ _ _ _ ⟨[], [], _, _, _, rfl, rfl, ⟨fun x hx => (nomatch hx), List.nodup_nil, Nat.le_refl _, fun a => by simp⟩, rfl⟩
  · rintro m rest σ gg ⟨pre, fk, b6, b7, b8, e, rfl, fo, rfl⟩
    have mq : MonQ m := p.keyq m (by show m ∈ monsOf kvs; rw [e]; simp)
    have pl : pre.length + (rest.length + 1) ≤ 6 := by
      have := congrArg List.length e
      simp only [monsOf, List.length_map, List.length_append, List.length_cons] at this
      omega
    refine ⟨_, rfl, ?_⟩
    unfold fdB
    rw [s_cons, s_fr, w_iexp, w_var]
    refine ⟨_, rfl, _, rfl, _, itP_mon mq, ?_⟩
    refine for_inv (fun rest2 σ gg => ∃ ip fk b7 b8, partsOf m = ip ++ rest2 ∧ gg = g ++ [.dct fk] ∧ FdOk (9 * pre.length + ip.length) (fun a => (∃ m ∈ pre, hasL m a) ∨ ∃ d ∈ ip, a = hd0 d) fk ∧ σ = [a0, some (.p (.dict kvs)), a2, a3, a4, some (.r g.length), some (.p m), b7, b8, a9, a10, a11, a12, a13, a14]) ?_ ?_ _ _ _ ⟨[], fk, _, _, rfl, rfl, fo.iff (Nat.le_refl _) (fun a => by simp), rfl⟩
    · rintro d rest2 σ gg ⟨ip, fk, b7, b8, e2, rfl, fo, rfl⟩
      have pp := monq_parts mq
      have dm : d ∈ partsOf m := by rw [e2]; simp
      have il : ip.length ≤ 9 := by
        have := congrArg List.length e2
        simp only [List.length_append, List.length_cons] at this
        omega
      have lk := (monq_let mq ⟨d, dm, rfl⟩).1
      obtain ⟨x, i, z, rfl, hx, h0, hi⟩ := pp.2 d dm
      refine ⟨_, rfl, ?_⟩
      rw [s_cons, s_put, w_lit, w_var]
      refine ⟨_, rfl, ?_⟩
      rw [w_var]
      refine ⟨_, rfl, ?_⟩
      have fl := fo.ln
      refine put_dct get_last (keyIn_of kp_letter fo.ks lk) (by omega) ?_
      rw [set_last, s_nil]
      refine ⟨ip ++ [.tuple [.tuple [.str x, .int i], .int z]], _, _, _, by simp [e2], rfl, (fo.put lk).iff (by rw [List.length_append, List.length_singleton]; omega) (fun a => ?_), rfl⟩
      simp only [List.mem_append, List.mem_singleton]
      constructor
      · rintro ((h | ⟨d, hd, rfl⟩) | rfl)
        · exact .inl h
        · exact .inr ⟨d, .inl hd, rfl⟩
        · exact .inr ⟨_, .inr rfl, rfl⟩
      · rintro (h | ⟨d, hd | rfl, rfl⟩)
        · exact .inl (.inl h)
        · exact .inl (.inr ⟨d, hd, rfl⟩)
        · exact .inr rfl
    · rintro σ gg ⟨ip, fk, b7, b8, e2, rfl, fo, rfl⟩
      rw [List.append_nil] at e2
      subst e2
      rw [s_nil]
      have pp := (monq_parts mq).1
      refine ⟨pre ++ [m], fk, _, _, _, by simp [e], rfl, fo.iff (by rw [List.length_append, List.length_singleton]; omega) (fun a => ?_), rfl⟩
      simp only [List.mem_append, List.mem_singleton]
      constructor
      · rintro (⟨m', hm, h⟩ | h)
        · exact ⟨m', .inl hm, h⟩
        · exact ⟨m, .inr rfl, h⟩
      · rintro ⟨m', hm | rfl, h⟩
        · exact .inl ⟨m', hm, h⟩
        · exact .inr h
  · rintro σ gg ⟨pre, fk, b6, b7, b8, e, rfl, fo, rfl⟩
    rw [List.append_nil] at e
    subst e
    have l6 : (monsOf kvs).length ≤ 6 := by simp only [monsOf, List.length_map]; omega
    exact q fk b6 b7 b8 (fo.iff (by omega) fun a => ((bagL_ok p).2.2 a).symm)
theorem let_all_shp {ds : List P} (h : ∀ d ∈ ds, LetK d) : shp (.list ds) = true := by
  have aux : ∀ {ds : List P}, (∀ d ∈ ds, LetK d) → PyData.canLayAll0 ds = true ∧ PyData.depthAll ds ≤ 3 := by
    intro ds
    induction ds with
    | nil => intro _; simp [PyData.canLayAll0, PyData.depthAll]
    | cons a r ih =>
      intro hd
      obtain ⟨x, i, rfl, hx, _⟩ := letter_ex (hd a (by simp))
      have h1 := name_ok hx
      have h2 := ih fun d hd' => hd d (List.mem_cons_of_mem _ hd')
      simp only [PyData.canLayAll0, PyData.depthAll, PyData.canLay0, PyData.depth, h1, h2.1, Bool.and_self, true_and]
      omega
  have := aux h
  unfold shp SeqAt.shaped
  rw [show (PyData.list ds).canLay0 = true from by unfold PyData.canLay0; exact this.1, Bool.true_and, decide_eq_true_eq]
  unfold PyData.depth
  omega
theorem eqv_lnil {ds : List P} : PyData.eqv (.list ds) (.list []) = ds.isEmpty := by
  cases ds <;> simp [PyData.eqv, PyData.eqvAll]
/-- (0, 1) if p == {} else p[()] if letters == [] else None -/
def whT : ME := .ite (.cmp .Eq (.var 1) (.dct false .nil)) (.tup (.cons (.lit (.int 0)) (.cons (.lit (.int 1)) .nil))) (.ite (.cmp .Eq (.var 9) (.lst false .nil)) (.idx (.var 1) (.tup .nil)) (.lit .none))
theorem w_whole {C : Calls} {kvs : List (P × P)} {n B : Nat} {g : Hh} {a0 a2 a3 a4 a5 a6 a7 a8 a10 a11 a12 a13 a14 : Option D} {Q : D → Hh → Prop} (p : PolOk n B kvs) (q : Q (.p (numOf (formT kvs))) g) :
    Rw (ev C whT [a0, some (.p (.dict kvs)), a2, a3, a4, a5, a6, a7, a8, some (.p (.list (sortP (bagL kvs)))), a10, a11, a12, a13, a14] g) Q := by
  unfold whT
  rw [numOf_eq p] at q
  rw [w_ite, w_cmp, w_var]
  refine ⟨_, rfl, ?_⟩
  rw [w_dct, w_nil]
  refine ⟨_, rfl, get_last, _, rfl, ?_⟩
  rw [if_neg (by decide)]
  show ∃ p, peek _ (List.take _ _) = some p ∧ _
  rw [List.take_left]
  have ce : cmpop .Eq (.dict kvs) (.dict []) = some kvs.isEmpty := by
    show eqD (.dict kvs) (.dict []) = _
    unfold eqD
    simp
  refine ⟨_, rfl, _, rfl, _, ce, _, rfl, ?_⟩
  cases hk : kvs with
  | nil =>
    rw [if_pos hk] at q
    simp only [List.isEmpty_nil, if_true]
    rw [w_tup, w_cons, w_lit, w_cons, w_lit, w_nil]
    exact ⟨_, rfl, q⟩
  | cons kv r =>
    rw [if_neg (by rw [hk]; simp)] at q
    rw [if_neg (by simp), ← hk, w_ite, w_cmp, w_var]
    refine ⟨_, rfl, ?_⟩
    rw [w_lst, w_nil]
    refine ⟨_, rfl, w_mk0.mpr ?_⟩
    have lk : ∀ l ∈ sortP (bagL kvs), LetK l := fun l hl => (bagL_ok p).2.1 l (sortP_perm'.mem_iff.mp hl)
    have c2 : cmpop .Eq (.list (sortP (bagL kvs))) (.list []) = some (sortP (bagL kvs)).isEmpty := by rw [c_eqd (let_all_shp lk) rfl (fun k e => nomatch e), eqv_lnil]
    refine ⟨_, rfl, _, rfl, _, c2, _, rfl, ?_⟩
    cases hb : bagL kvs with
    | nil =>
      rw [if_pos hb] at q
      have : (sortP ([] : List P)).isEmpty = true := by
        have := sortP_perm' (ks := ([] : List P))
        rw [List.perm_nil.mp this]; rfl
      rw [if_pos this, w_idx, w_var]
      refine ⟨_, rfl, ?_⟩
      rw [w_tup, w_nil]
      refine ⟨_, rfl, _, rfl, _, rfl, ?_⟩
      have k0 : MonQ (.tuple []) := ⟨rfl, ⟨by simp, trivial⟩, [], rfl, by simp⟩
      have mem : PyData.tuple [] ∈ kvs.map (·.1) := by
        have h1 : kv.1 ∈ monsOf kvs := by rw [hk]; simp [monsOf]
        have q1 := p.keyq _ h1
        obtain ⟨h2, h3, ds, e, h4⟩ := q1
        cases ds with
        | nil => rw [← e]; exact h1
        | cons d ds =>
          have := ((bagL_ok p).2.2 (hd0 d)).mpr ⟨_, h1, d, by rw [e]; simp [partsOf], rfl⟩
          rw [hb] at this; cases this
      obtain ⟨a, b, e, f, _⟩ := p.val mem
      rw [e] at q
      refine ⟨frP a b, ?_, q⟩
      simp only [idxD, keyIn_of kp_monq p.ks k0, if_true]
      exact e
    | cons l ls =>
      rw [if_neg (by rw [hb]; simp)] at q
      have : (sortP (l :: ls)).isEmpty = false := by
        cases e : sortP (l :: ls) with
        | nil =>
          have := (sortP_perm' (ks := l :: ls)).length_eq
          rw [e] at this; cases this
        | cons a b => rfl
      rw [if_neg (by rw [this]; decide), w_lit]
      exact q
theorem w_turn_right {k n i : Nat} {h : Hh} {c : Cell} {Q : D → Hh → Prop} (hi : h[i]? = some c) (m : MOk c n) (hn : n + 300 < 2 ^ 60)
    (q : ∀ c', Q (.p (.bool true)) (h.set i c')) : Rw (callN prog 5000 (k + 12) f__law_turn_right [.r i] h) Q := by
  rw [rw_callN (F := prog[f__law_turn_right]) rfl rfl]
  show Sw (exs _ b__law_turn_right [some (.r i), none, none, none, none, none, none, none, none, none, none, none, none, none, none] h) (fun _ g => Q (.p .none) (g.take h.length)) fun d g => Rw (finD false h.length d g) Q
  unfold b__law_turn_right
  have hil := get_lt hi
  rw [s_cons, s_asg, w_call, w_cons, w_var]
  refine ⟨_, rfl, ?_⟩
  rw [w_nil]
  refine w_drawn (k := k + 6) hi m (by omega) fun kvs c1 p m1 => ?_
  refine ⟨_, rfl, ?_⟩
  rw [s_cons, s_asg, w_call, w_cons, w_var]
  refine ⟨_, rfl, ?_⟩
  rw [w_nil]
  refine w_form (k := k + 10) p (by decide) ?_
  refine ⟨_, rfl, ?_⟩
  have pu := p.pure (by decide) (by decide)
  rw [s_cons, s_ite, w_or, w_not, w_call, w_cons, w_var]
  refine ⟨_, rfl, ?_⟩
  rw [w_nil]
  refine w_told_right (k := k + 3) (p.okd (by decide) (by decide)) (by decide) ?_
  refine ⟨true, rfl, _, rfl, ?_⟩
  rw [Bool.not_true, if_neg (by decide), w_not, w_call, w_cons, w_var]
  refine ⟨_, rfl, ?_⟩
  rw [w_nil]
  refine w_law_is_poly (k := k + 7) (p.okd (by decide) (by decide)) (by decide) ?_
  rw [p.poly]
  refine ⟨true, rfl, false, rfl, ?_⟩
  rw [if_neg (by decide), s_nil]
  rw [s_cons, s_fr, w_irng, w_cons, w_lit, w_nil]
  refine ⟨_, rfl, _, rng_of (bd_of (n := 6) (by decide) (by decide)), ?_⟩
  have wf := who_form p (by decide) (by decide) (by decide)
  refine for_inv (fun rest σ g => ∃ c' a3 a4, g = h.set i c' ∧ rest.length ≤ 6 ∧ MOk c' (n + 110 + 18 * (6 - rest.length)) ∧ σ = [some (.r i), some (.p (.dict kvs)), some (.p (.tuple (formT kvs))), a3, a4, none, none, none, none, none, none, none, none, none, none]) ?_ ?_ _ _ _ ⟨c1, _, _, rfl, by rw [rngP_len]; decide, m1.up (by omega), rfl⟩
  · rintro x rest σ g ⟨c', a3, a4, rfl, h1, h2, rfl⟩
    rw [List.length_cons] at h1 h2
    refine ⟨_, rfl, ?_⟩
    rw [s_cons]
    refine s_t1 (k := k + 10) (get_set hi) h2 (by omega) wf (fun d hd => ?_) fun w c2 ww m2 => ?_
    · obtain ⟨m, fr, rfl, hm, hq⟩ := form_mem p hd
      exact ⟨m, [fr], rfl, who_mono hq⟩
    rw [List.set_set, s_cons]
    refine s_t2 (k := k + 10) (get_set hi) m2 (by omega) pu ww fun w c3 pw m3 => ?_
    rw [List.set_set, s_cons]
    refine s_t3 (k := k + 1) (get_set hi) m3 (by omega) pw fun c4 m4 => ?_
    rw [List.set_set, s_nil]
    exact ⟨c4, _, _, rfl, by omega, m4.up (by omega), rfl⟩
  rintro σ g ⟨c2, a3, a4, rfl, h1, m2, rfl⟩
  rw [s_cons, s_asg, w_dct0]
  refine ⟨_, rfl, ?_⟩
  rw [s_cons]
  refine s_found p (by decide) fun fk b6 b7 b8 fo => ?_
  have kq : ∀ m ∈ fk.map (·.1), LetK m := fun m h => by
    obtain ⟨x, hx, rfl⟩ := List.mem_map.mp h
    exact fo.ks x hx
  have fl := fo.ln
  have bk := bagL_ok p
  have bn := bagN_ok p
  have same : sortP (fk.map (·.1)) = sortP (bagL kvs) := sortP_same sk_letter ((List.perm_ext_iff_of_nodup fo.nd bk.1).mpr fo.mm) kq fo.nd
  rw [s_cons, s_asg, w_bi, w_cons, w_bi, w_cons, w_var]
  refine ⟨_, rfl, ?_⟩
  rw [w_nil]
  have pk : peeks [D.r (h.set i c2).length] (h.set i c2 ++ [.dct fk]) = some [.dict fk] := by simp only [peeks, peek_last]
  refine ⟨_, pk, _, bi_listd, ?_⟩
  rw [w_nil]
  refine ⟨_, rfl, _, bi_sorted sk_letter kq (by rw [List.length_map]; omega), _, rfl, ?_⟩
  rw [same]
  have lk : ∀ l ∈ sortP (bagL kvs), LetK l := fun l hl => bk.2.1 l (sortP_perm'.mem_iff.mp hl)
  have ll : (sortP (bagL kvs)).length ≤ 54 := by rw [sortP_perm'.length_eq]; exact bagL_len p (by decide)
  rw [s_cons, s_asg, w_bi, w_cons]
  show Rw (ev _ nmT _ _) _
  refine w_nm lk (by omega) fun ns nnd nmm => ?_
  have mmN : ∀ a, a ∈ ns ↔ a ∈ bagN kvs := fun a => by
    rw [nmm, bn.2.2]
    constructor
    · rintro ⟨l, hl, rfl⟩
      obtain ⟨m, hm, h⟩ := (bk.2.2 l).mp (sortP_perm'.mem_iff.mp hl)
      exact ⟨m, hm, l, h, rfl⟩
    · rintro ⟨m, hm, l, h, rfl⟩
      exact ⟨l, sortP_perm'.mem_iff.mpr ((bk.2.2 l).mpr ⟨m, hm, h⟩), rfl⟩
  have nk : ∀ a ∈ ns, NameK a := fun a ha => bn.2.1 a ((mmN a).mp ha)
  have pn := (List.perm_ext_iff_of_nodup nnd bn.1).mpr mmN
  have nl : ns.length ≤ 54 := by rw [pn.length_eq]; exact bagN_len p (by decide)
  have sameN : sortP ns = sortP (bagN kvs) := sortP_same sk_name pn nk nnd
  rw [w_nil]
  refine ⟨_, rfl, _, bi_sorted sk_name nk (by omega), _, rfl, ?_⟩
  rw [sameN]
  obtain ⟨x1, hx1⟩ := repr_letters p (by decide)
  obtain ⟨x2, hx2⟩ := repr_names p (by decide)
  obtain ⟨x3, hx3⟩ := repr_num p (by decide)
  rw [s_cons, s_ite, w_or, w_cmp, w_bi, w_cons, w_call, w_cons, w_var]
  refine ⟨_, rfl, ?_⟩
  rw [w_nil]
  refine w_letters_of (k := k + 9) p (by decide) ?_
  rw [w_nil]
  refine ⟨_, rfl, _, hx1, ?_⟩
  rw [w_bi, w_cons, w_bi, w_cons, w_var]
  refine ⟨_, rfl, ?_⟩
  rw [w_nil]
  refine ⟨_, rfl, _, bi_tupl, ?_⟩
  rw [w_nil]
  refine ⟨_, rfl, _, hx1, _, rfl, _, rfl, _, c_nesame, false, rfl, ?_⟩
  rw [if_neg (by decide), w_cmp, w_bi, w_cons, w_call, w_cons, w_var]
  refine ⟨_, rfl, ?_⟩
  rw [w_nil]
  refine w_names_of (k := k + 10) p (by decide) ?_
  rw [w_nil]
  refine ⟨_, rfl, _, hx2, ?_⟩
  rw [w_bi, w_cons, w_bi, w_cons, w_var]
  refine ⟨_, rfl, ?_⟩
  rw [w_nil]
  refine ⟨_, rfl, _, bi_tupl, ?_⟩
  rw [w_nil]
  refine ⟨_, rfl, _, hx2, _, rfl, _, rfl, _, c_nesame, false, rfl, ?_⟩
  rw [if_neg (by decide), s_nil]
  rw [s_cons, s_asg]
  show Rw (ev _ whT _ _) _
  refine w_whole p ?_
  refine ⟨_, rfl, ?_⟩
  rw [s_cons, s_ite, w_cmp, w_bi, w_cons, w_call, w_cons, w_var]
  refine ⟨_, rfl, ?_⟩
  rw [w_nil]
  refine w_as_number (k := k + 10) pu (by decide) (fun t ht => ?_) ?_
  · obtain ⟨m, fr, rfl, hm, hq⟩ := form_mem p ht
    obtain ⟨_, _, ds, rfl, _⟩ := hq
    exact ⟨ds, fr, rfl⟩
  rw [w_nil]
  refine ⟨_, rfl, _, hx3, ?_⟩
  rw [w_bi, w_cons, w_var]
  refine ⟨_, rfl, ?_⟩
  rw [w_nil]
  refine ⟨_, rfl, _, hx3, _, rfl, _, rfl, _, c_nesame, false, rfl, ?_⟩
  rw [if_neg (by decide), s_nil]
  rw [s_cons, s_asg, w_tup, w_cons, w_call, w_cons, w_var]
  refine ⟨_, rfl, ?_⟩
  rw [w_nil]
  refine w_fraction (k := k + 8) (get_app (get_set hi)) m2 (by omega) fun a b c3 fr nz m3 => ?_
  rw [set_app (by rw [List.length_set]; exact hil), List.set_set, w_cons, w_call, w_cons, w_var]
  refine ⟨_, rfl, ?_⟩
  rw [w_nil]
  refine w_name (k := k + 9) (get_app (get_set hi)) m3 (by omega) fun x c4 hx m4 => ?_
  rw [set_app (by rw [List.length_set]; exact hil), List.set_set, w_cons, w_call, w_cons, w_var]
  refine ⟨_, rfl, ?_⟩
  rw [w_cons, w_lit, w_nil]
  refine w_draw (k := k + 10) (get_app (get_set hi)) m4 (by omega) (by decide) (by decide +kernel) fun r c5 r0 r1 m5 => ?_
  rw [set_app (by rw [List.length_set]; exact hil), List.set_set, w_nil]
  refine ⟨_, rfl, _, rfl, ?_⟩
  obtain ⟨x4, hx4⟩ := repr_number fr (by decide)
  obtain ⟨x5, hx5⟩ := repr_frac fr (by decide)
  have rb : r.natAbs < 2 ^ 200 := Nat.lt_trans (show r.natAbs < 21 by omega) (by decide +kernel)
  obtain ⟨x6, hx6⟩ := repr_letter hx rb
  rw [s_cons, s_ite, w_or, w_cmp, w_bi, w_cons, w_call, w_cons, w_var]
  refine ⟨_, rfl, ?_⟩
  rw [w_nil]
  refine w_number (k := k + 10) ?_
  rw [if_neg nz, w_nil]
  refine ⟨_, rfl, _, hx4, ?_⟩
  rw [w_bi, w_cons, w_tup, w_cons, w_tup, w_cons, w_tup, w_nil]
  refine ⟨_, rfl, ?_⟩
  rw [w_cons, w_var]
  refine ⟨_, rfl, ?_⟩
  rw [w_nil]
  refine ⟨_, rfl, ?_⟩
  rw [w_nil]
  refine ⟨_, rfl, ?_⟩
  rw [w_nil]
  refine ⟨_, rfl, _, hx4, _, rfl, _, rfl, _, c_nesame, false, rfl, ?_⟩
  rw [if_neg (by decide), w_cmp, w_bi, w_cons, w_call, w_cons, w_call, w_cons, w_var]
  refine ⟨_, rfl, ?_⟩
  rw [w_nil]
  refine w_number (k := k + 10) ?_
  rw [if_neg nz, w_nil]
  have pn1 : pureD 1000 5 (.tuple [.tuple [.tuple [], frP a b]]) := by
    refine ⟨by simp, fun d hd => ?_⟩
    rw [List.mem_singleton] at hd
    subst hd
    refine ⟨by simp, fun d hd => ?_⟩
    simp only [List.mem_cons, List.not_mem_nil, or_false] at hd
    rcases hd with rfl | rfl
    · exact ⟨by simp, fun d hd => nomatch hd⟩
    · exact pure_up (by decide) (by decide) (frac_pure fr)
  refine w_as_number (k := k + 10) pn1 (by decide) (fun t ht => ?_) ?_
  · rw [List.mem_singleton] at ht
    exact ⟨[], _, ht⟩
  rw [w_nil]
  refine ⟨_, rfl, _, hx5, ?_⟩
  rw [w_bi, w_cons, w_var]
  refine ⟨_, rfl, ?_⟩
  rw [w_nil]
  refine ⟨_, rfl, _, hx5, _, rfl, _, rfl, _, c_nesame, false, rfl, ?_⟩
  rw [if_neg (by decide), s_nil]
  rw [s_cons, s_ret, w_and, w_cmp, w_bi, w_cons, w_call, w_cons, w_var]
  refine ⟨_, rfl, ?_⟩
  rw [w_cons, w_var]
  refine ⟨_, rfl, ?_⟩
  rw [w_nil]
  refine w_letter (k := k + 10) ?_
  rw [w_nil]
  refine ⟨_, rfl, _, hx6, ?_⟩
  rw [w_bi, w_cons, w_tup, w_cons, w_tup, w_cons, w_tup, w_cons, w_tup, w_cons, w_tup, w_cons, w_var]
  refine ⟨_, rfl, ?_⟩
  rw [w_cons, w_var]
  refine ⟨_, rfl, ?_⟩
  rw [w_nil]
  refine ⟨_, rfl, ?_⟩
  rw [w_cons, w_lit, w_nil]
  refine ⟨_, rfl, ?_⟩
  rw [w_nil]
  refine ⟨_, rfl, ?_⟩
  rw [w_cons, w_tup, w_cons, w_lit, w_cons, w_lit, w_nil]
  refine ⟨_, rfl, ?_⟩
  rw [w_nil]
  refine ⟨_, rfl, ?_⟩
  rw [w_nil]
  refine ⟨_, rfl, ?_⟩
  rw [w_nil]
  refine ⟨_, rfl, _, hx6, _, rfl, _, rfl, _, c_eqs, true, by rw [beq_self_eq_true], ?_⟩
  rw [if_pos rfl, w_cmp, w_call, w_cons, w_call, w_cons, w_var]
  refine ⟨_, rfl, ?_⟩
  rw [w_cons, w_var]
  refine ⟨_, rfl, ?_⟩
  rw [w_nil]
  refine w_letter (k := k + 10) ?_
  rw [w_nil]
  refine w_as_number (k := k + 10) (letP_pure hx rb) (by decide) (fun t ht => ?_) ?_
  · rw [List.mem_singleton] at ht
    exact ⟨_, _, ht⟩
  rw [w_lit]
  refine ⟨_, rfl, _, rfl, true, rfl, finD_p.mpr ?_⟩
  rw [take_app]
  exact q c5
end K00
namespace Mi
open PySem L2 PySem.Spec PyProof.Rows PySem.W
theorem cutP_ints {ns : List Int} {lo hi : Option Int} : ∃ ms : List Int, cutP (ns.map PyData.int) lo hi = ms.map .int ∧ ms.length ≤ ns.length := by
  unfold cutP
  rw [List.length_map, ← List.map_drop, ← List.map_take]
  exact ⟨_, rfl, by rw [List.length_take, List.length_drop]; omega⟩
theorem dmake4 {a b c d : P} : dmake [.str (Str.ofString "left"), a, .str (Str.ofString "seed"), b, .str (Str.ofString "cells"), c, .str (Str.ofString "spot"), d] [] = some [(.str (Str.ofString "left"), a), (.str (Str.ofString "seed"), b), (.str (Str.ofString "cells"), c), (.str (Str.ofString "spot"), d)] := by
  have ki : ∀ (kvs : List (P × P)) (x : Str), (∀ kv ∈ kvs, isTupK kv.1 = false) → keyIn kvs (.str x) = true := fun kvs x h => by
    unfold keyIn
    rw [Bool.and_eq_true, List.all_eq_true]
    exact ⟨rfl, fun kv hkv => by rw [h kv hkv]; rfl⟩
  have d1 : dput [] (.str (Str.ofString "left")) a = [(.str (Str.ofString "left"), a)] := rfl
  have d2 : dput [(.str (Str.ofString "left"), a)] (.str (Str.ofString "seed")) b = [(.str (Str.ofString "left"), a), (.str (Str.ofString "seed"), b)] := by
    simp [dput, PyData.eqv, n1]
  have d3 : dput [(.str (Str.ofString "left"), a), (.str (Str.ofString "seed"), b)] (.str (Str.ofString "cells")) c = [(.str (Str.ofString "left"), a), (.str (Str.ofString "seed"), b), (.str (Str.ofString "cells"), c)] := by
    simp [dput, PyData.eqv, n2, n4]
  have d4 : dput [(.str (Str.ofString "left"), a), (.str (Str.ofString "seed"), b), (.str (Str.ofString "cells"), c)] (.str (Str.ofString "spot")) d = [(.str (Str.ofString "left"), a), (.str (Str.ofString "seed"), b), (.str (Str.ofString "cells"), c), (.str (Str.ofString "spot"), d)] := by
    simp [dput, PyData.eqv, n3, n5, n6]
  unfold dmake
  rw [if_pos (ki _ _ (by simp)), d1]
  unfold dmake
  rw [if_pos (ki _ _ (by simp [isTupK])), d2]
  unfold dmake
  rw [if_pos (ki _ _ (by simp [isTupK])), d3]
  unfold dmake
  rw [if_pos (ki _ _ (by simp [isTupK])), d4]
  rfl
theorem c_ge {i j : Int} : cmpop .GtE (.int i) (.int j) = some (decide (j ≤ i)) := rfl
theorem slc_lst {ds : List P} {lo hi : Option Int} : slcD (.list ds) lo hi = some (.list (cutP ds lo hi)) := rfl
/-- [cell for cell in script if cell >= 10 ** 18] -/
def grT : ME := .lc false (.var 5) (.var 5) (.exp (.var 0)) (.cons (.cmp .GtE (.var 5) (.bin .Pow (.lit (.int 10)) (.lit (.int 18)))) .nil) [5]
theorem w_gr {C : Calls} {ns : List Int} {h : Hh} {a1 a2 a3 a4 a5 : Option D} {Q : D → Hh → Prop} (hl : ns.length ≤ 63) (q : ∀ ms : List Int, (∀ z ∈ ms, 0 ≤ z) → ms.length ≤ 63 → Q (.p (.list (ms.map .int))) h) :
    Rw (ev C grT [some (.p (.list (ns.map .int))), a1, a2, a3, a4, a5] h) Q := by
  unfold grT
  refine w_lc ?_
  rw [w_iexp, w_var]
  refine ⟨_, rfl, _, rfl, _, rfl, fun rest acc g => g = h ∧ ∃ (pre post ms : List Int), ns = pre ++ post ∧ rest = post.map .int ∧ acc = ms.map .int ∧ ms.length ≤ pre.length ∧ ∀ z ∈ ms, 0 ≤ z, ⟨rfl, [], ns, [], rfl, rfl, rfl, Nat.le_refl _, fun z hz => nomatch hz⟩, ?_, ?_⟩
  · rintro x rest acc g hg ⟨rfl, pre, post, ms, e, er, rfl, ml, mp⟩
    cases post with
    | nil => cases er
    | cons z post =>
      rw [List.map_cons] at er
      injection er with e1 e2
      subst e1 e2
      refine ⟨_, rfl, ?_⟩
      have p1 : binop .Pow (.int 10) (.int 18) = some (.int (10 ^ 18)) := o_pow (by decide +kernel)
      rw [w_tcons, w_cmp, w_var]
      refine ⟨_, rfl, ?_⟩
      rw [w_bin, w_lit, w_lit]
      refine ⟨_, rfl, _, rfl, _, p1, _, rfl, _, rfl, _, c_ge, _, rfl, ?_⟩
      have nl : pre.length + (post.length + 1) ≤ 63 := by
        rw [e, List.length_append, List.length_cons] at hl
        exact hl
      by_cases c : (10 : Int) ^ 18 ≤ z
      · rw [decide_eq_true c, if_pos rfl, w_tnil, if_pos rfl, w_var]
        have : (10 : Int) ^ 18 = 1000000000000000000 := by decide +kernel
        refine ⟨_, rfl, _, rfl, g, rfl, rfl, by rw [List.length_map]; omega, rfl, pre ++ [z], post, ms ++ [z], by simp [e], rfl, by simp, by simp only [List.length_append, List.length_singleton]; omega, fun y hy => ?_⟩
        rcases List.mem_append.mp hy with hy | hy
        · exact mp y hy
        · rw [List.mem_singleton] at hy
          omega
      · rw [decide_eq_false c, if_neg (by decide), if_neg (by decide)]
        exact ⟨g, rfl, rfl, rfl, pre ++ [z], post, ms, by simp [e], rfl, rfl, by rw [List.length_append]; omega, mp⟩
  · rintro acc g hg ⟨rfl, pre, post, ms, e, er, rfl, ml, mp⟩
    rw [if_neg (by decide)]
    refine q ms mp ?_
    rw [e, List.length_append] at hl
    omega
end Mi
namespace K00
open PySem L2 Mi PySem.Spec PyProof.Rows
theorem w_begun {k : Nat} {h : Hh} {ns : List Int} {K : Int} {Q : D → Hh → Prop} (hl : ns.length ≤ 63) (k0 : 0 ≤ K) (k1 : K < 100) (q : ∀ c, MOk c 0 → Q (.r h.length) (h ++ [c])) : Rw (callN prog 5000 (k + 1) f__law_begun [.p (.list (ns.map .int)), .p (.int K)] h) Q := by
  rw [rw_callN (F := prog[f__law_begun]) rfl rfl]
  show Sw (exs _ b__law_begun [some (.p (.list (ns.map .int))), some (.p (.int K)), none, none, none, none] h) (fun _ g => Q (.p .none) (g.take h.length)) fun d g => Rw (finD true h.length d g) Q
  unfold b__law_begun
  obtain ⟨m1, e1, l1⟩ := cutP_ints (ns := ns) (lo := some K) (hi := none)
  obtain ⟨m2, e2, l2⟩ := cutP_ints (ns := ns) (lo := none) (hi := some K)
  rw [s_cons, s_asg, w_bin, w_slc, w_var]
  refine ⟨_, rfl, ?_⟩
  rw [w_osome, w_var]
  refine ⟨_, rfl, _, rfl, ?_⟩
  rw [w_onone]
  refine ⟨_, rfl, _, slc_lst, ?_⟩
  rw [w_slc, w_var]
  refine ⟨_, rfl, ?_⟩
  rw [w_onone, w_osome, w_var]
  refine ⟨_, rfl, _, rfl, _, rfl, _, slc_lst, _, rfl, _, rfl, _, o_ladd ?_, _, rfl, ?_⟩
  · rw [e1, e2, List.length_map, List.length_map]; omega
  rw [e1, e2, ← List.map_append]
  generalize hm : m1 ++ m2 = ms
  have ml : ms.length ≤ 126 := by rw [← hm, List.length_append]; omega
  rw [s_cons, s_asg]
  show Rw (ev _ grT _ _) _
  refine w_gr hl fun gs gp gl => ?_
  refine ⟨_, rfl, ?_⟩
  rw [s_cons, s_asg, w_bin, w_lit, w_bin, w_lit, w_var]
  refine ⟨_, rfl, _, rfl, _, rfl, _, o_mul1 (by decide) (by decide), _, rfl, _, rfl, _, o_add, _, rfl, ?_⟩
  rw [s_cons, s_fr, w_iexp, w_var]
  refine ⟨_, rfl, _, rfl, _, rfl, ?_⟩
  refine for_inv (fun rest σ g => ∃ (post : List Int) (b : Int) (y : Option D), rest = post.map .int ∧ g = h ∧ 0 ≤ b ∧ b < 2147483648 ∧ σ = [some (.p (.list (ns.map .int))), some (.p (.int K)), some (.p (.list (ms.map .int))), some (.p (.list (gs.map .int))), some (.p (.int b)), y]) ?_ ?_ _ _ _ ⟨ms, _, _, rfl, rfl, by omega, by omega, rfl⟩
  · rintro x rest σ g ⟨post, b, y, e, rfl, b0, b1, rfl⟩
    cases post with
    | nil => cases e
    | cons z post =>
      rw [List.map_cons] at e
      injection e with e3 e4
      subst e3 e4
      refine ⟨_, rfl, ?_⟩
      rw [s_cons, s_asg, w_bin, w_bi, w_cons, w_bin, w_bin, w_var]
      refine ⟨_, rfl, ?_⟩
      rw [w_lit]
      refine ⟨_, rfl, _, rfl, _, o_mul2 (by decide) (by decide), ?_⟩
      rw [w_var]
      refine ⟨_, rfl, _, rfl, _, rfl, _, o_add, ?_⟩
      rw [w_nil]
      refine ⟨_, rfl, _, bi_int, ?_⟩
      rw [w_lit]
      refine ⟨_, rfl, _, rfl, _, o_mod (by decide), _, rfl, ?_⟩
      rw [s_nil]
      exact ⟨post, _, _, rfl, rfl, Int.emod_nonneg _ (by decide), Int.lt_trans (Int.emod_lt_of_pos _ (by decide)) (by decide), rfl⟩
  · rintro σ g ⟨post, b, y, e, rfl, b0, b1, rfl⟩
    rw [s_cons, s_ret, w_dct, w_cons, w_lit, w_cons, w_ite, w_cmp, w_var]
    refine ⟨_, rfl, ?_⟩
    rw [w_bi, w_cons, w_var]
    refine ⟨_, rfl, ?_⟩
    rw [w_nil]
    refine ⟨_, rfl, _, bi_lenl, _, rfl, _, rfl, _, c_lt, _, rfl, ?_⟩
    have rest : ∀ L : Int, 0 ≤ L → Rw (evs ⟨callN prog 5000 k, 5000⟩ (.cons (.lit (.str (Str.ofString "seed"))) (.cons (.var 4) (.cons (.lit (.str (Str.ofString "cells"))) (.cons (.bin .Add (.var 2) (.lst false (.cons (.bin .Add (.bin .Mult (.lit (.int 71)) (.var 1)) (.lit (.int 61))) .nil))) (.cons (.lit (.str (Str.ofString "spot"))) (.cons (.lit (.int 0)) .nil)))))) [some (.p (.list (ns.map .int))), some (.p (.int K)), some (.p (.list (ms.map .int))), some (.p (.list (gs.map .int))), some (.p (.int b)), y] (g ++ [.dct []]))
        fun xs h2 => ∃ q, frzs (.p (.str (Str.ofString "left")) :: .p (.int L) :: xs) h2 = some q ∧ q.2[g.length]? = some (.dct []) ∧ ∃ kvs, dmake q.1 [] = some kvs ∧ if true = true then Rw (finD true g.length (.r g.length) (q.2.set g.length (.dct kvs))) Q else Rw (finD true g.length (.p (.dict kvs)) (q.2.take g.length)) Q := fun L L0 => by
      rw [w_cons, w_lit, w_cons, w_var]
      refine ⟨_, rfl, ?_⟩
      rw [w_cons, w_lit, w_cons, w_bin, w_var]
      refine ⟨_, rfl, ?_⟩
      rw [w_lst, w_cons, w_bin, w_bin, w_lit, w_var]
      refine ⟨_, rfl, _, rfl, _, rfl, _, o_mul1 (by decide) (by decide), ?_⟩
      rw [w_lit]
      refine ⟨_, rfl, _, rfl, _, o_add, ?_⟩
      rw [w_nil]
      refine ⟨_, rfl, w_mk0.mpr ⟨_, rfl, _, rfl, _, o_ladd (by simp; omega), ?_⟩⟩
      rw [w_cons, w_lit, w_cons, w_lit, w_nil]
      refine ⟨_, rfl, get_last, _, dmake4, ?_⟩
      rw [if_pos rfl]
      show Rw (finD true g.length (.r g.length) (List.set (g ++ [.dct []]) g.length _)) Q
      rw [set_last]
      refine finD_dctm.mpr (q _ ⟨L, b, 0, ms ++ [71 * K + 61], ?_, L0, b0, b1, by decide, by decide, by simp⟩)
      simp [mk4]
    by_cases c : K < (gs.map PyData.int).length
    · rw [decide_eq_true c, if_pos rfl, w_idx, w_var]
      refine ⟨_, rfl, ?_⟩
      rw [w_var]
      obtain ⟨d, hd, e⟩ := ix_list k0 c
      obtain ⟨z, hz, rfl⟩ := List.mem_map.mp hd
      refine ⟨_, rfl, _, rfl, _, rfl, _, e, ?_⟩
      exact rest z (gp z hz)
    · rw [decide_eq_false c, if_neg (by decide), w_lit]
      exact rest 0 (by decide)
end K00
namespace Mi
open PySem L2 PySem.Spec PyProof.Rows PySem.W
theorem polOk_nil {n B : Nat} : PolOk n B [] := ⟨fun x hx => (nomatch hx), fun x hx => (nomatch hx), List.nodup_nil, Nat.zero_le _⟩
theorem formT_nil : formT [] = [] := List.length_eq_zero_iff.mp formT_len
theorem bagL_nil : bagL [] = [] := by
  unfold bagL
  rw [formT_nil]
  rfl
theorem sortP_nil : sortP [] = [] := List.perm_nil.mp (sortP_perm' (ks := []))
def xS : Str := Str.ofString "x"
theorem x_len : xS.length ≤ 1000 := by decide +kernel
theorem ok_x {B : Nat} : okD B (.str xS) := x_len
theorem ok_i {B : Nat} {i : Int} (h : i.natAbs < 2 ^ 200) (hB : 200 ≤ B) : okD B (.int i) := Nat.lt_of_lt_of_le h (Nat.pow_le_pow_right (by decide) hB)
end Mi
namespace K00
open PySem L2 Mi PySem.Spec PyProof.Rows
def vals1 : List P := [.none, .bool true, .int 0, .int 1, .str xS, .str (Str.ofString ""), .list [], .tuple [], .tuple [.tuple []], .tuple [.str xS, .int 0], .tuple [.str xS, .bool true], .tuple [.str xS, .int (-1)], .tuple [.tuple [.str xS, .int 0], .int 1], .list [.str xS, .int 0]]
theorem vals1_ok : ∀ d ∈ vals1, okD 200 d := by
  intro d hd
  have e0 : (Str.ofString "").length ≤ 1000 := by decide +kernel
  have i0 : (0 : Int).natAbs < 2 ^ 200 := by decide +kernel
  have i1 : (1 : Int).natAbs < 2 ^ 200 := by decide +kernel
  have i2 : (-1 : Int).natAbs < 2 ^ 200 := by decide +kernel
  simp only [vals1, List.mem_cons, List.not_mem_nil, or_false] at hd
  rcases hd with rfl | rfl | rfl | rfl | rfl | rfl | rfl | rfl | rfl | rfl | rfl | rfl | rfl | rfl <;> simp [okD, okDs, x_len, e0]
def term1 (p : P) (e : Int) : P := .tuple [.tuple [.tuple [p, .int e]], .tuple [.int 1, .int 1]]
def lx (i : Int) : P := .tuple [.str xS, .int i]
def greatL : List P := (List.range 61).map fun (j : Nat) => term1 (lx 0) (1 + (j : Int))
theorem lx_ok {i : Int} (h : i.natAbs < 2 ^ 200) : okD 200 (lx i) := ⟨by simp, ok_x, h, trivial⟩
theorem term_okd {p : P} {e : Int} (h : okD 200 p) (he : e.natAbs < 2 ^ 200) : okD 200 (term1 p e) := by
  have i1 : (1 : Int).natAbs < 2 ^ 200 := by decide +kernel
  exact ⟨by simp, ⟨by simp, ⟨by simp, h, he, trivial⟩, trivial⟩, ⟨by simp, i1, i1, trivial⟩, trivial⟩
theorem great_ok : ∀ d ∈ greatL, okD 200 d := by
  intro d hd
  obtain ⟨j, hj, rfl⟩ := List.mem_map.mp hd
  have hj := List.mem_range.mp hj
  have : 61 < 2 ^ 200 := by decide +kernel
  exact term_okd (lx_ok (by decide +kernel)) (by omega)
structure Told (F : Nat → List D → Hh → Res D) : Prop where
  told : ∀ {d : P} {h : Hh} {Q : D → Hh → Prop}, okD 200 d → Q (.p (.bool true)) h → Rw (F 38 [.p d] h) Q
  num : ∀ {h : Hh} {Q : D → Hh → Prop}, Q (.p (.tuple [])) h → Rw (F 11 [.p (frP 0 1)] h) Q
  asn : ∀ {h : Hh} {Q : D → Hh → Prop}, Q (.p (frP 0 1)) h → Rw (F 13 [.p (.tuple [])] h) Q
  let_ : ∀ {h : Hh} {Q : D → Hh → Prop}, Q (.p (.tuple [])) h → Rw (F 14 [.p (.tuple [])] h) Q
  beg : ∀ {h : Hh} {ns : List Int} {K : Int} {Q : D → Hh → Prop}, ns.length ≤ 63 → 0 ≤ K → K < 100 → (∀ c, MOk c 0 → Q (.r h.length) (h ++ [c])) → Rw (F 16 [.p (.list (ns.map .int)), .p (.int K)] h) Q
  turn : ∀ {h : Hh} {i : Nat} {c : Cell} {Q : D → Hh → Prop}, h[i]? = some c → MOk c 0 → (∀ c', Q (.p (.bool true)) (h.set i c')) → Rw (F 39 [.r i] h) Q
theorem told_all (k : Nat) : Told (callN prog 5000 (k + 24)) where
  told hd q := w_told_right (k := k + 16) hd (by decide) q
  num {h Q} q := w_number (k := k + 23) (n := 0) (d := 1) (by rw [if_pos rfl]; exact q)
  asn {h Q} q := w_as_number (k := k + 23) (B := 200) (t := 1) ⟨by simp, fun d hd => nomatch hd⟩ (by decide) (fun t ht => nomatch ht) q
  let_ {h Q} q := by
    have wl := w_letters_of (k := k + 22) (h := h) (kvs := []) (n := 0) (B := 200) (Q := Q) polOk_nil (by decide) (by rw [bagL_nil, sortP_nil]; exact q)
    rw [formT_nil] at wl
    exact wl
  beg hl k0 k1 q := w_begun (k := k + 23) hl k0 k1 q
  turn hi m q := w_turn_right (k := k + 12) hi m (by decide) q
theorem s_check {F : Nat → List D → Hh → Res D} (T : Told F) {h : Hh} {ds : List P} {a0 a1 a2 a3 a4 : Option D} {Qn : Sl → Hh → Prop} {Qr : D → Hh → Prop} (hd : ∀ d ∈ ds, okD 200 d) (q : ∀ b, Qn [a0, b, a2, a3, a4] h) :
    Sw (forLoop (fun x σ => asg (.var 1) x σ) (fun σ h => exs ⟨F, 5000⟩ (.cons (.ite (.not (.call (Str.ofString "_law_told_right") 38 (.cons (.var 1) .nil)))
  (.cons (.ret (.lit (.bool false)))
  .nil)
  .nil)
  .nil) σ h) ds [a0, a1, a2, a3, a4] h) Qn Qr := by
  refine for_inv (fun rest σ g => g = h ∧ (∀ d ∈ rest, okD 200 d) ∧ ∃ b, σ = [a0, b, a2, a3, a4]) ?_ ?_ _ _ _ ⟨rfl, hd, _, rfl⟩
  · rintro x rest σ g ⟨rfl, ho, b, rfl⟩
    refine ⟨_, rfl, ?_⟩
    rw [s_cons, s_ite, w_not, w_call, w_cons, w_var]
    refine ⟨_, rfl, ?_⟩
    rw [w_nil]
    refine T.told (ho x (by simp)) ?_
    refine ⟨_, rfl, _, rfl, ?_⟩
    rw [if_neg (by decide), s_nil, s_nil]
    exact ⟨rfl, fun d hd => ho d (List.mem_cons_of_mem _ hd), _, rfl⟩
  · rintro σ g ⟨rfl, ho, b, rfl⟩
    exact q b
theorem s_law {F : Nat → List D → Hh → Res D} (T : Told F) {ns : List Int} (hl : ns.length ≤ 63) : Sw (exs ⟨F, 5000⟩ b_law [some (.p (.list (ns.map .int))), none, none, none, none] []) (fun _ _ => False) fun d g => d = .p (.bool true) := by
  unfold b_law
  rw [s_cons, s_fr, w_iexp, w_lst]
  have ev1 : ∀ (C : Calls) (σ : Sl) (QQ : List D → Hh → Prop), QQ (vals1.map .p) [] → Rw (evs C (.cons (.lit .none) (.cons (.lit (.bool true)) (.cons (.lit (.int 0)) (.cons (.lit (.int 1)) (.cons (.lit (.str (Str.ofString "x"))) (.cons (.lit (.str (Str.ofString ""))) (.cons (.lst false .nil) (.cons (.tup .nil) (.cons (.tup (.cons (.tup .nil) .nil)) (.cons (.tup (.cons (.lit (.str (Str.ofString "x"))) (.cons (.lit (.int 0)) .nil))) (.cons (.tup (.cons (.lit (.str (Str.ofString "x"))) (.cons (.lit (.bool true)) .nil))) (.cons (.tup (.cons (.lit (.str (Str.ofString "x"))) (.cons (.neg (.lit (.int 1))) .nil))) (.cons (.tup (.cons (.tup (.cons (.lit (.str (Str.ofString "x"))) (.cons (.lit (.int 0)) .nil))) (.cons (.lit (.int 1)) .nil))) (.cons (.lst false (.cons (.lit (.str (Str.ofString "x"))) (.cons (.lit (.int 0)) .nil))) .nil)))))))))))))) σ []) QQ := fun C σ QQ q => by
    simp only [w_cons, w_nil, w_lit, w_lst, w_tup, w_neg, frzs, frz, mk, rw_ok, Option.some.injEq, exists_eq_left', D.p.injEq, PyData.int.injEq]
    exact q
  refine ev1 _ _ _ ?_
  refine ⟨(vals1, []), rfl, w_mk0.mpr ?_⟩
  refine ⟨_, rfl, _, rfl, ?_⟩
  refine s_check T vals1_ok fun b1 => ?_
  have i1 : (1 : Int).natAbs < 2 ^ 200 := by decide +kernel
  have o1 : okD 200 (.tuple [.tuple [.tuple [], .tuple [.int 1, .int 1]], .tuple [.tuple [], .tuple [.int 1, .int 1]]]) := by
    have z : okD 200 (.tuple [.tuple [], .tuple [.int 1, .int 1]]) := ⟨by simp, ⟨by simp, trivial⟩, ⟨by simp, i1, i1, trivial⟩, trivial⟩
    exact ⟨by simp, z, z, trivial⟩
  have o2 : okD 200 (.tuple [.tuple [.tuple [], .tuple [.int 0, .int 1]]]) := ⟨by simp, ⟨by simp, ⟨by simp, trivial⟩, ⟨by simp, (by decide +kernel : (0 : Int).natAbs < 2 ^ 200), i1, trivial⟩, trivial⟩, trivial⟩
  rw [s_cons, s_ite, w_or, w_not, w_call]
  simp only [w_cons, w_nil, w_lit, w_tup, frzs, frz, Option.some.injEq, exists_eq_left']
  refine T.told o1 ?_
  refine ⟨_, rfl, _, rfl, ?_⟩
  rw [if_neg (by decide), w_not, w_call]
  simp only [w_cons, w_nil, w_lit, w_tup, frzs, frz, Option.some.injEq, exists_eq_left']
  refine T.told o2 ?_
  refine ⟨_, rfl, _, rfl, ?_⟩
  rw [if_neg (by decide), s_nil]
  rw [s_cons, s_asg, w_bi, w_cons]
  refine w_lcmap (α := Nat) (fun (j : Nat) => PyData.int (1 + (j : Int))) (fun (j : Nat) => term1 (lx 0) (1 + (j : Int))) ?_
  rw [w_irng, w_cons, w_lit, w_cons, w_lit, w_nil]
  refine ⟨_, rfl, rngP 1 61, rfl, List.range 61, rfl, by simp, fun j hj => ⟨_, rfl, fun acc Q' q' => ?_⟩, ?_⟩
  · simp only [w_tup, w_cons, w_nil, w_lit, w_var, Mi.wip, List.set_cons_succ, List.set_cons_zero, List.getElem?_cons_zero, List.getElem?_cons_succ, frzs, frz, Option.some.injEq, exists_eq_left']
    exact q'
  rw [w_nil]
  refine ⟨_, rfl, _, bi_tupl, _, rfl, ?_⟩
  show Sw (exs _ _ [some (.p (.list (ns.map .int))), b1, some (.p (.tuple greatL)), none, none] []) _ _
  rw [s_cons, s_fr, w_iexp, w_lst]
  have gl : greatL.length = 61 := by simp [greatL]
  have c1 := cutP_len (ds := greatL) (lo := none) (hi := some 1)
  have oa : binop .Add (.tuple greatL) (.tuple (cutP greatL none (some 1))) = some (.tuple (greatL ++ cutP greatL none (some 1))) := o_tadd (by omega)
  have p30 : binop .Pow (.int 10) (.int 30) = some (.int (10 ^ 30)) := o_pow (by decide +kernel)
  have ok2 : ∀ d ∈ [lx 21, lx (10 ^ 30), PyData.tuple [.tuple [lx 0, .int 13]], PyData.tuple [.tuple [lx 25, .int (10 ^ 30)]], .tuple greatL, .tuple (greatL ++ cutP greatL none (some 1))], okD 200 d := by
    intro d hd
    simp only [List.mem_cons, List.not_mem_nil, or_false] at hd
    rcases hd with rfl | rfl | rfl | rfl | rfl | rfl
    · exact lx_ok (by decide +kernel)
    · exact lx_ok (by decide +kernel)
    · exact ⟨by simp, ⟨by simp, lx_ok (by decide +kernel), (by decide +kernel : (13 : Int).natAbs < 2 ^ 200), trivial⟩, trivial⟩
    · exact ⟨by simp, ⟨by simp, lx_ok (by decide +kernel), (by decide +kernel : ((10 : Int) ^ 30).natAbs < 2 ^ 200), trivial⟩, trivial⟩
    · exact ⟨by omega, okDs_of great_ok⟩
    · refine ⟨by rw [List.length_append]; omega, okDs_of fun e he => ?_⟩
      rcases List.mem_append.mp he with he | he
      · exact great_ok e he
      · exact great_ok e (cutP_mem he)
  rw [w_cons, w_tup, w_cons, w_lit, w_cons, w_lit, w_nil]
  refine ⟨_, rfl, ?_⟩
  rw [w_cons, w_tup, w_cons, w_lit, w_cons, w_bin, w_lit, w_lit]
  refine ⟨_, rfl, _, rfl, _, p30, ?_⟩
  rw [w_nil]
  refine ⟨_, rfl, ?_⟩
  rw [w_cons, w_tup, w_cons, w_tup, w_cons, w_tup, w_cons, w_lit, w_cons, w_lit, w_nil]
  refine ⟨_, rfl, ?_⟩
  rw [w_cons, w_lit, w_nil]
  refine ⟨_, rfl, ?_⟩
  rw [w_nil]
  refine ⟨_, rfl, ?_⟩
  rw [w_cons, w_tup, w_cons, w_tup, w_cons, w_tup, w_cons, w_lit, w_cons, w_lit, w_nil]
  refine ⟨_, rfl, ?_⟩
  rw [w_cons, w_bin, w_lit, w_lit]
  refine ⟨_, rfl, _, rfl, _, p30, ?_⟩
  rw [w_nil]
  refine ⟨_, rfl, ?_⟩
  rw [w_nil]
  refine ⟨_, rfl, ?_⟩
  rw [w_cons, w_var]
  refine ⟨_, rfl, ?_⟩
  rw [w_cons, w_bin, w_var]
  refine ⟨_, rfl, ?_⟩
  rw [w_slc, w_var]
  refine ⟨_, rfl, ?_⟩
  rw [w_onone, w_osome, w_lit]
  refine ⟨_, rfl, _, rfl, _, slc_tup, _, rfl, _, rfl, _, oa, ?_⟩
  rw [w_nil]
  refine ⟨([lx 21, lx (10 ^ 30), PyData.tuple [.tuple [lx 0, .int 13]], PyData.tuple [.tuple [lx 25, .int (10 ^ 30)]], .tuple greatL, .tuple (greatL ++ cutP greatL none (some 1))], []), rfl, w_mk0.mpr ?_⟩
  refine ⟨_, rfl, _, rfl, ?_⟩
  refine s_check T ok2 fun b2 => ?_
  have h0 : (PyData.tuple []).shown = Str.ofString "()" := by decide +kernel
  have h1 : (frP 0 1).shown = Str.ofString "(0, 1)" := by decide +kernel
  have r0 : Mi.bi .repr [.tuple []] = some (.str (Str.ofString "()")) := by
    rw [← h0]
    exact bi_repr (B := 200) (n := 1) ⟨by simp, fun d hd => nomatch hd⟩ (by decide) (by decide) (by decide +kernel)
  have r1 : Mi.bi .repr [frP 0 1] = some (.str (Str.ofString "(0, 1)")) := by
    rw [← h1]
    exact bi_repr (B := 200) (n := 1) (frac_pure ⟨by decide, by decide +kernel, by decide +kernel, by decide⟩) (by decide) (by decide) (by decide +kernel)
  have k0 : MonQ (.tuple []) := ⟨rfl, ⟨by simp, trivial⟩, [], rfl, by simp⟩
  rw [s_cons, s_ite, w_or, w_cmp, w_bi, w_cons, w_call, w_cons, w_tup, w_cons, w_lit, w_cons, w_lit, w_nil]
  refine ⟨_, rfl, ?_⟩
  rw [w_nil]
  refine T.num ?_
  rw [w_nil]
  refine ⟨_, rfl, _, r0, ?_⟩
  rw [w_lit]
  refine ⟨_, rfl, _, rfl, _, c_nesame, _, rfl, ?_⟩
  rw [if_neg (by decide), w_or, w_cmp, w_bi, w_cons, w_call, w_cons, w_tup, w_nil]
  refine ⟨_, rfl, ?_⟩
  rw [w_nil]
  refine T.asn ?_
  rw [w_nil]
  refine ⟨_, rfl, _, r1, ?_⟩
  rw [w_lit]
  refine ⟨_, rfl, _, rfl, _, c_nesame, _, rfl, ?_⟩
  rw [if_neg (by decide), w_cmp, w_call, w_cons, w_tup, w_nil]
  refine ⟨_, rfl, ?_⟩
  rw [w_nil]
  refine T.let_ ?_
  rw [w_tup, w_nil]
  refine ⟨_, rfl, _, rfl, _, rfl, false, rfl, _, rfl, ?_⟩
  rw [if_neg (by decide), s_nil]
  rw [s_cons, s_fr, w_irng, w_cons, w_lit, w_nil]
  refine ⟨_, rfl, _, rng_of (bd_of (n := 3) (by decide) (by decide)), ?_⟩
  refine for_inv (fun rest σ g => ∃ (post : List Nat) (y : Option D), rest = post.map (fun (j : Nat) => PyData.int (j : Int)) ∧ (∀ j ∈ post, j < 3) ∧ σ = [some (.p (.list (ns.map .int))), b2, some (.p (.tuple greatL)), y, none]) ?_ ?_ _ _ _ ⟨List.range 3, _, rfl, fun j hj => List.mem_range.mp hj, rfl⟩
  · rintro x rest σ g ⟨post, y, e, lt, rfl⟩
    cases post with
    | nil => cases e
    | cons j post =>
      rw [List.map_cons] at e
      injection e with e1 e2
      subst e1 e2
      have j3 := lt j (by simp)
      refine ⟨_, rfl, ?_⟩
      rw [s_cons, s_ite, w_not, w_call, w_cons, w_call, w_cons, w_var]
      refine ⟨_, rfl, ?_⟩
      rw [w_cons, w_var]
      refine ⟨_, rfl, ?_⟩
      rw [w_nil]
      refine T.beg hl (by omega) (by omega) fun c m => ?_
      rw [w_nil]
      refine T.turn get_last m fun c' => ?_
      refine ⟨_, rfl, _, rfl, ?_⟩
      rw [if_neg (by decide), s_nil, s_nil]
      exact ⟨post, _, rfl, fun z hz => lt z (List.mem_cons_of_mem _ hz), rfl⟩
  · rintro σ g ⟨post, y, e, lt, rfl⟩
    rw [s_cons, s_ret, w_lit]
theorem plain : Plain prog f_law 5000 25 := fun ns h1 h2 => by
  have w := s_law (told_all 0) h1
  have e : callN prog 5000 25 f_law [.p (.list (ns.map .int))] [] = fin false 0 (exs ⟨callN prog 5000 24, 5000⟩ b_law [some (.p (.list (ns.map .int))), none, none, none, none] []) := call_eq (F := prog[f_law]) rfl rfl
  rw [e]
  rcases sw_cases w with ⟨σ, g, r, x⟩ | ⟨d, g, r, x⟩
  · exact x.elim
  · rw [show exs ⟨callN prog 5000 24, 5000⟩ b_law [some (.p (.list (ns.map .int))), none, none, none, none] [] = _ from r, x]
    rfl
end K00
namespace K00
open PySem L2 Mi PySem.Spec PyProof.Rows
theorem bd_0 : BindsEq (rows[0]).d (rows[0]).ps := fun _ _ _ _ _ _ us hl => match us, hl with | [_], _ => rfl
theorem bd_1 : BindsEq (rows[1]).d (rows[1]).ps := fun _ _ _ _ _ _ us hl => match us, hl with | [_], _ => rfl
theorem bd_2 : BindsEq (rows[2]).d (rows[2]).ps := fun _ _ _ _ _ _ us hl => match us, hl with | [_], _ => rfl
theorem bd_3 : BindsEq (rows[3]).d (rows[3]).ps := fun _ _ _ _ _ _ us hl => match us, hl with | [_], _ => rfl
theorem bd_4 : BindsEq (rows[4]).d (rows[4]).ps := fun _ _ _ _ _ _ us hl => match us, hl with | [_], _ => rfl
theorem bd_5 : BindsEq (rows[5]).d (rows[5]).ps := fun _ _ _ _ _ _ us hl => match us, hl with | [_], _ => rfl
theorem bd_6 : BindsEq (rows[6]).d (rows[6]).ps := fun _ _ _ _ _ _ us hl => match us, hl with | [_], _ => rfl
theorem bd_7 : BindsEq (rows[7]).d (rows[7]).ps := fun _ _ _ _ _ _ us hl => match us, hl with | [_], _ => rfl
theorem bd_8 : BindsEq (rows[8]).d (rows[8]).ps := fun _ _ _ _ _ _ us hl => match us, hl with | [_], _ => rfl
theorem bd_9 : BindsEq (rows[9]).d (rows[9]).ps := fun _ _ _ _ _ _ us hl => match us, hl with | [_], _ => rfl
theorem bd_10 : BindsEq (rows[10]).d (rows[10]).ps := fun _ _ _ _ _ _ us hl => match us, hl with | [_], _ => rfl
theorem bd_11 : BindsEq (rows[11]).d (rows[11]).ps := fun _ _ _ _ _ _ us hl => match us, hl with | [_], _ => rfl
theorem bd_12 : BindsEq (rows[12]).d (rows[12]).ps := fun _ _ _ _ _ _ us hl => match us, hl with | [_, _], _ => rfl
theorem bd_13 : BindsEq (rows[13]).d (rows[13]).ps := fun _ _ _ _ _ _ us hl => match us, hl with | [_], _ => rfl
theorem bd_14 : BindsEq (rows[14]).d (rows[14]).ps := fun _ _ _ _ _ _ us hl => match us, hl with | [_], _ => rfl
theorem bd_15 : BindsEq (rows[15]).d (rows[15]).ps := fun _ _ _ _ _ _ us hl => match us, hl with | [_], _ => rfl
theorem bd_16 : BindsEq (rows[16]).d (rows[16]).ps := fun _ _ _ _ _ _ us hl => match us, hl with | [_, _], _ => rfl
theorem bd_17 : BindsEq (rows[17]).d (rows[17]).ps := fun _ _ _ _ _ _ us hl => match us, hl with | [_, _], _ => rfl
theorem bd_18 : BindsEq (rows[18]).d (rows[18]).ps := fun _ _ _ _ _ _ us hl => match us, hl with | [_, _], _ => rfl
theorem bd_19 : BindsEq (rows[19]).d (rows[19]).ps := fun _ _ _ _ _ _ us hl => match us, hl with | [_, _], _ => rfl
theorem bd_20 : BindsEq (rows[20]).d (rows[20]).ps := fun _ _ _ _ _ _ us hl => match us, hl with | [_, _], _ => rfl
theorem bd_21 : BindsEq (rows[21]).d (rows[21]).ps := fun _ _ _ _ _ _ us hl => match us, hl with | [_, _], _ => rfl
theorem bd_22 : BindsEq (rows[22]).d (rows[22]).ps := fun _ _ _ _ _ _ us hl => match us, hl with | [_, _], _ => rfl
theorem bd_23 : BindsEq (rows[23]).d (rows[23]).ps := fun _ _ _ _ _ _ us hl => match us, hl with | [_, _], _ => rfl
theorem bd_24 : BindsEq (rows[24]).d (rows[24]).ps := fun _ _ _ _ _ _ us hl => match us, hl with | [_], _ => rfl
theorem bd_25 : BindsEq (rows[25]).d (rows[25]).ps := fun _ _ _ _ _ _ us hl => match us, hl with | [_], _ => rfl
theorem bd_26 : BindsEq (rows[26]).d (rows[26]).ps := fun _ _ _ _ _ _ us hl => match us, hl with | [_], _ => rfl
theorem bd_27 : BindsEq (rows[27]).d (rows[27]).ps := fun _ _ _ _ _ _ us hl => match us, hl with | [_], _ => rfl
theorem bd_28 : BindsEq (rows[28]).d (rows[28]).ps := fun _ _ _ _ _ _ us hl => match us, hl with | [_], _ => rfl
theorem bd_29 : BindsEq (rows[29]).d (rows[29]).ps := fun _ _ _ _ _ _ us hl => match us, hl with | [_], _ => rfl
theorem bd_30 : BindsEq (rows[30]).d (rows[30]).ps := fun _ _ _ _ _ _ us hl => match us, hl with | [_], _ => rfl
theorem bd_31 : BindsEq (rows[31]).d (rows[31]).ps := fun _ _ _ _ _ _ us hl => match us, hl with | [_], _ => rfl
theorem bd_32 : BindsEq (rows[32]).d (rows[32]).ps := fun _ _ _ _ _ _ us hl => match us, hl with | [_], _ => rfl
theorem bd_33 : BindsEq (rows[33]).d (rows[33]).ps := fun _ _ _ _ _ _ us hl => match us, hl with | [_], _ => rfl
theorem bd_34 : BindsEq (rows[34]).d (rows[34]).ps := fun _ _ _ _ _ _ us hl => match us, hl with | [_, _], _ => rfl
theorem bd_35 : BindsEq (rows[35]).d (rows[35]).ps := fun _ _ _ _ _ _ us hl => match us, hl with | [_], _ => rfl
theorem bd_36 : BindsEq (rows[36]).d (rows[36]).ps := fun _ _ _ _ _ _ us hl => match us, hl with | [_, _], _ => rfl
theorem bd_37 : BindsEq (rows[37]).d (rows[37]).ps := fun _ _ _ _ _ _ us hl => match us, hl with | [_, _, _], _ => rfl
theorem bd_38 : BindsEq (rows[38]).d (rows[38]).ps := fun _ _ _ _ _ _ us hl => match us, hl with | [_], _ => rfl
theorem bd_39 : BindsEq (rows[39]).d (rows[39]).ps := fun _ _ _ _ _ _ us hl => match us, hl with | [_], _ => rfl
theorem bd_40 : BindsEq (rows[40]).d (rows[40]).ps := fun _ _ _ _ _ _ us hl => match us, hl with | [_], _ => rfl
theorem binds : ∀ r ∈ rows, BindsEq r.d r.ps := List.forall_mem_cons.mpr ⟨bd_0, List.forall_mem_cons.mpr ⟨bd_1, List.forall_mem_cons.mpr ⟨bd_2, List.forall_mem_cons.mpr ⟨bd_3, List.forall_mem_cons.mpr ⟨bd_4, List.forall_mem_cons.mpr ⟨bd_5, List.forall_mem_cons.mpr ⟨bd_6, List.forall_mem_cons.mpr ⟨bd_7, List.forall_mem_cons.mpr ⟨bd_8, List.forall_mem_cons.mpr ⟨bd_9, List.forall_mem_cons.mpr ⟨bd_10, List.forall_mem_cons.mpr ⟨bd_11, List.forall_mem_cons.mpr ⟨bd_12, List.forall_mem_cons.mpr ⟨bd_13, List.forall_mem_cons.mpr ⟨bd_14, List.forall_mem_cons.mpr ⟨bd_15, List.forall_mem_cons.mpr ⟨bd_16, List.forall_mem_cons.mpr ⟨bd_17, List.forall_mem_cons.mpr ⟨bd_18, List.forall_mem_cons.mpr ⟨bd_19, List.forall_mem_cons.mpr ⟨bd_20, List.forall_mem_cons.mpr ⟨bd_21, List.forall_mem_cons.mpr ⟨bd_22, List.forall_mem_cons.mpr ⟨bd_23, List.forall_mem_cons.mpr ⟨bd_24, List.forall_mem_cons.mpr ⟨bd_25, List.forall_mem_cons.mpr ⟨bd_26, List.forall_mem_cons.mpr ⟨bd_27, List.forall_mem_cons.mpr ⟨bd_28, List.forall_mem_cons.mpr ⟨bd_29, List.forall_mem_cons.mpr ⟨bd_30, List.forall_mem_cons.mpr ⟨bd_31, List.forall_mem_cons.mpr ⟨bd_32, List.forall_mem_cons.mpr ⟨bd_33, List.forall_mem_cons.mpr ⟨bd_34, List.forall_mem_cons.mpr ⟨bd_35, List.forall_mem_cons.mpr ⟨bd_36, List.forall_mem_cons.mpr ⟨bd_37, List.forall_mem_cons.mpr ⟨bd_38, List.forall_mem_cons.mpr ⟨bd_39, List.forall_mem_cons.mpr ⟨bd_40, (fun r hr => nomatch hr)⟩⟩⟩⟩⟩⟩⟩⟩⟩⟩⟩⟩⟩⟩⟩⟩⟩⟩⟩⟩⟩⟩⟩⟩⟩⟩⟩⟩⟩⟩⟩⟩⟩⟩⟩⟩⟩⟩⟩⟩⟩
end K00
set_option maxHeartbeats 0
namespace K00
open PySem L2 Mi PySem.Spec PyProof.Rows
def gl : List Str := prog.map (·.name)
def fa : List He.Fa := gl.map He.Fa.glo ++ bnames.map He.Fa.free
def fn : List He.DefD := rows.map (·.d)
abbrev R : PySem.W.OpenRow := PySem.W.OpenLaw.row PySem.Challenge.rw_ratesay_k00_forms_of_polynomials
abbrev hk : PySem.W.Hook := He.hookX 4 fa fn [] [] (exB cs true)
def ob (s : PySem.W.SharedT) : He.AlX := He.obsX 4 fa fn [] [] (exB cs true) (HandSHeadRun.getT s)
theorem ob_eq (s : PySem.W.SharedT) : ob s = hk.obs s.abs := He.obsX_eq (HandSHeadRun.getT_eq s)
abbrev loose : List Str := ([Str.ofString "letters_in", Str.ofString "SMALL", Str.ofString "FIGURES", Str.ofString "NOUGHT", Str.ofString "is_integer", Str.ofString "is_whole", Str.ofString "is_fraction", Str.ofString "is_name", Str.ofString "is_letter", Str.ofString "is_power_of_letter", Str.ofString "ascends", Str.ofString "is_monomial", Str.ofString "is_term", Str.ofString "is_polynomial", Str.ofString "number", Str.ofString "letter", Str.ofString "as_number", Str.ofString "letters_of", Str.ofString "names_of", Str.ofString "_law_begun", Str.ofString "_law_draw", Str.ofString "_law_of", Str.ofString "_law_gcd", Str.ofString "_law_frac", Str.ofString "_law_fsum", Str.ofString "_law_plus", Str.ofString "_law_mono", Str.ofString "_law_form", Str.ofString "_law_is_int", Str.ofString "_law_is_pair"] : List Str) ++ ([Str.ofString "_law_is_frac", Str.ofString "_law_is_letter", Str.ofString "_law_is_mono", Str.ofString "_law_is_poly", Str.ofString "_law_name", Str.ofString "_law_amount", Str.ofString "_law_fraction", Str.ofString "_law_monomial", Str.ofString "_law_drawn", Str.ofString "_law_odd", Str.ofString "_law_spoilt", Str.ofString "_law_told_right", Str.ofString "_law_turn_right"] : List Str)
theorem run (w : World) : HandSHeadRun.RunEqI R (PySem.W.view R.prog [0, 47]) hk ob 6600 loose w := by
  unfold HandSHeadRun.RunEqI
  kernel_rfl
end K00
set_option maxHeartbeats 0
namespace K00
open PySem L2 Mi PySem.Spec PyProof.Rows
theorem rows_ok : rowsB G gl rows = true := by decide +kernel
theorem holds0 : PySem.Challenge.rw_ratesay_k00_forms_of_polynomials.Holds := by
  w_on; o_law
  refine HandSHeadRun.head_imp (r := PySem.W.OpenLaw.row PySem.Challenge.rw_ratesay_k00_forms_of_polynomials) (q := PySem.W.view (PySem.W.OpenLaw.row PySem.Challenge.rw_ratesay_k00_forms_of_polynomials).prog [0, 47]) (H := hk) (ob := ob) (M := 6600) (loose := loose) (d := HandSHeadRun.topDef (PySem.W.OpenLaw.row PySem.Challenge.rw_ratesay_k00_forms_of_polynomials).prog 47) (kwd := []) ob_eq
    run (by kernel_rfl) (by kernel_rfl) (by kernel_rfl) (by rfl) (by first | assumption | decide +kernel) (by decide +kernel) ⟨rfl, rfl, rfl, rfl, rfl, by decide +kernel⟩ ?hw ?hc
  case hw => w_witness2
  case hc =>
    refine walkG (l := PySem.Challenge.rw_ratesay_k00_forms_of_polynomials) (n := 63) (k := 25) (x := "script") rfl (by decide) (by kernel_rfl) ⟨rfl, by decide, by decide⟩ ?F
    intro w mg fa h Y Gn hmg0
    obtain ⟨K, KX, c⟩ := Y
    have hmg : mg ("law" : PySem.Str) = some (.ref fa) := by
      have e : (HandSHeadRun.topDef (PySem.W.OpenLaw.row PySem.Challenge.rw_ratesay_k00_forms_of_polynomials).prog 47).name = ("law" : PySem.Str) := by kernel_rfl
      rw [← e]
      exact hmg0
    exact head_end (G := G) KX Gn rfl c rows_ok binds ⟨_, rfl, rfl, _, rfl, rfl⟩ hmg plain
end K00
theorem PySem.Challenge.cw_ratesay_k00_forms_of_polynomials_holds : PySem.Challenge.rw_ratesay_k00_forms_of_polynomials.Holds := by
  exact K00.holds0
