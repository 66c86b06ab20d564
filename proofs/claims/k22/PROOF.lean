import PyProof.Rows.All
import Wide.All
import OpenK.AllK
import Wide.FinOn
import HandS.ForMost
import HandS.Wide
import HandS.IsInst
import HandS.TupAny
import HandS.Deep
import HandS.Lambda
import HandS.WordsExc
import HandS.ExcOwn
import HandS.NoneIn
import HandS.Style
import HandS.RaiseMore
import HandS.Flow
import PyProof.FactsAll.dict
import PyProof.Rows.SortShell
import KE.DataMinMax
import HandS.Star
import HandS.ClsMeth
import HandS.CallLocal
import KE.SortData
import HandS.DictComp
import HandS.TupLen
import HandS.Codes
import HandS.Iter
import KE.KTupSum
import HandS.Property
import HandS.OwnEq
import KE.GoesMore
import PyProof.EnumMake
import HandS.Walk
import OpenK.KOps
import HandS.DictTup
import HandS.Conv
import PyProof.DictMoreH
import KE.KDictPairs
import KE.KDictWalk
import KE.KDictItemsList
import KE.KExcTry
import HandS.ExcValue
import HandS.ExcInit
import HandS.TryMany
import HandS.ExcField
import HandS.EndTab
import HandS.DictEq
import HandS.TupLe
import PyProof.NeKinds
import PyProof.EqAt
import HandS.FStr
import OpenK.KMeth
import KE.KCallOwn
import HandS.CallSlots
import HandS.Defaults
import HandS.MakeKwOnly
import KE.KDictKeyed
import HandS.TupMul
import OpenK.KMore
import HandS.SetFor
import HandS.Strs
import HandS.Zip
import HandS.MethStar
import PyProof.LongRange
import PySem.Challenge.RW_bondfloors_k22_whole_great_plans
set_option Elab.async false
set_option linter.all false
set_option maxRecDepth 100000
/-! The mirror layer: pure data, pure states, mirrors of expressions and statements. -/
namespace Bf
open PySem L2
/-- the addresses of the own classes and functions; the tables of code objects -/
structure Ctx where
  cls : Nat → Addr
  tabs : List (Addr × Str)
instance : CoeFun Ctx (fun _ => Nat → Addr) := ⟨Ctx.cls⟩
/-- pure data -/
inductive D where
  | non | bl (b : Bool) | int (i : Int) | str (x : Str) | tup (xs : List D) | lst (xs : List D) | dic (kvs : List (D × D)) | ins (c : Nat) (fs : List (Str × D)) | raw (v : V)
  /-- the script: a list that is read alone -/
  | scr (ns : List Int)
  /-- a dict with tuples as keys; an own class -/
  | dit (kvs : List (List D × D)) | cls (c : Nat)
  /-- a tuple of the written part; a dict with tuples as keys that is not written any more -/
  | kup (xs : List D) | dtl (kvs : List (List D × D))
/-- what a name holds: data, or a cell that may be changed -/
inductive SV where
  | d (x : D) | cell (k : Nat)
inductive Cell where
  | lst (xs : List D) | dic (kvs : List (D × D)) | dit (kvs : List (List D × D)) | ins (c : Nat) (fs : List (Str × SV)) | gone | lsv (xs : List SV)
structure PS where
  g : List (Option SV)
  w : List Cell
inductive EC where
  | own (c : Nat) | bi (n : String)
structure Exc where
  c : EC
  fs : List (Str × D)
inductive R (α : Type) where
  | ok (a : α) (s : PS) | err (e : Exc) (s : PS) | stuck
def R.bind {α β : Type} : R α → (α → PS → R β) → R β
  | .ok a s, f => f a s
  | .err e s, _ => .err e s
  | .stuck, _ => .stuck
@[simp] theorem bind_ok {α β : Type} (a : α) (s : PS) (f : α → PS → R β) : R.bind (.ok a s) f = f a s := rfl
@[simp] theorem bind_err {α β : Type} (e : Exc) (s : PS) (f : α → PS → R β) : R.bind (.err e s) f = .err e s := rfl
@[simp] theorem bind_stuck {α β : Type} (f : α → PS → R β) : R.bind .stuck f = .stuck := rfl
/-- a value, or nothing known -/
def R.of {α : Type} (o : Option α) (s : PS) : R α := match o with
  | some a => .ok a s
  | none => .stuck
@[simp] theorem of_some {α : Type} (a : α) (s : PS) : R.of (some a) s = .ok a s := rfl
@[simp] theorem of_none {α : Type} (s : PS) : (R.of none s : R α) = .stuck := rfl
abbrev ME := PS → R SV
abbrev MT := PS → R Bool
abbrev MA := PS → R (List SV)
inductive Fl where
  | nx | rt (x : SV) | bk | ct
abbrev MS := PS → R Fl
abbrev MG := SV → PS → R Unit
/-! ### data as the library's -/
mutual
def D.py : D → PyData
  | .non => .none
  | .bl b => .bool b
  | .int i => .int i
  | .str x => .str x
  | .tup xs => .tuple (D.pys xs)
  | .lst xs => .list (D.pys xs)
  | .dic kvs => .dict (D.pyk kvs)
  | .ins _ _ => .none
  | .raw _ => .none
  | .scr _ => .none
  | .dit _ => .none
  | .cls _ => .none
  | .kup xs => .tuple (D.pys xs)
  | .dtl _ => .none
def D.pys : List D → List PyData
  | [] => []
  | x :: xs => x.py :: D.pys xs
def D.pyk : List (D × D) → List (PyData × PyData)
  | [] => []
  | (k, v) :: r => (k.py, v.py) :: D.pyk r
end
theorem D.pys_map : ∀ xs : List D, D.pys xs = xs.map D.py
  | [] => rfl
  | x :: xs => by rw [D.pys, D.pys_map xs, List.map_cons]
mutual
/-- no dicts, objects, other things in it -/
def D.plain : D → Bool
  | .non => true
  | .bl _ => true
  | .int _ => true
  | .str _ => true
  | .tup xs => D.plains xs
  | .lst xs => D.plains xs
  | .dic _ => false
  | .ins _ _ => false
  | .raw _ => false
  | .scr _ => false
  | .dit _ => false
  | .cls _ => false
  | .kup xs => D.plains xs
  | .dtl _ => false
def D.plains : List D → Bool
  | [] => true
  | x :: xs => x.plain && D.plains xs
end
theorem D.plains_all : ∀ xs : List D, D.plains xs = xs.all D.plain
  | [] => rfl
  | x :: xs => by rw [D.plains, D.plains_all xs, List.all_cons]
def D.eqv (a b : D) : Bool := PyData.eqv a.py b.py
/-- how deep == looks -/
def D.near (a b : D) : Bool := decide (min a.py.depth b.py.depth ≤ 64)
def eqD (a b : D) : Option D := if (a.plain && b.plain && D.near a b) = true then some (.bl (D.eqv a b)) else none
def neD (a b : D) : Option D := if (a.plain && b.plain && D.near a b) = true then some (.bl (!D.eqv a b)) else none
/-! ### operations on data -/
def mulOk (i j : Int) : Bool := decide (i.natAbs < 2 ^ 64) || decide (j.natAbs < 2 ^ 64) || decide (i.natAbs.log2 + j.natAbs.log2 < 1000000)
def addD : D → D → Option D
  | .int i, .int j => some (.int (i + j))
  | .int i, .bl k => some (.int (i + PyProof.Rows.b2i k))
  | .str x, .str y => if x.length + y.length ≤ sizeLine then some (.str (x ++ y)) else none
  | .tup xs, .tup ys => if xs.length + ys.length ≤ sizeLine then some (.tup (xs ++ ys)) else none
  | .lst xs, .lst ys => if xs.length + ys.length ≤ sizeLine then some (.lst (xs ++ ys)) else none
  | _, _ => none
def subD : D → D → Option D
  | .int i, .int j => some (.int (i - j))
  | _, _ => none
def mulD : D → D → Option D
  | .int i, .int j => if mulOk i j = true then some (.int (i * j)) else none
  | .lst xs, .int k => if -(2 ^ 63) ≤ k ∧ k < 2 ^ 63 ∧ xs.length * k.toNat ≤ sizeLine then some (.lst (List.replicate k.toNat xs).flatten) else none
  | _, _ => none
def modD : D → D → Option D
  | .int i, .int j => if 0 < j then some (.int (i % j)) else none
  | _, _ => none
def divD : D → D → Option D
  | .int i, .int j => if 0 < j ∧ j.natAbs.log2 < 9000 then some (.int (i / j)) else none
  | _, _ => none
def powD : D → D → Option D
  | .int i, .int j => if 0 ≤ j ∧ (Builtin.Int.intBits i : Int) * j ≤ 2 ^ 27 then some (.int (i ^ j.toNat)) else none
  | _, _ => none
def negD : D → Option D
  | .int i => some (.int (-i))
  | _ => none
def ltD : D → D → Option D
  | .int i, .int j => some (.bl (decide (i < j)))
  | .str x, .str y => some (.bl (decide (x.cps.toList < y.cps.toList)))
  | _, _ => none
def leD : D → D → Option D
  | .int i, .int j => some (.bl (decide (i ≤ j)))
  | .str x, .str y => some (.bl (!decide (y.cps.toList < x.cps.toList)))
  | _, _ => none
def gtD (a b : D) : Option D := ltD b a
def geD (a b : D) : Option D := leD b a
/-- x in y -/
def inB : D → D → Option Bool
  | .str x, .str y => some (!(Builtin.Str.occurrences y x 0 y.length 1).isEmpty)
  | x, .lst ys => if (x.plain && D.plains ys && D.near x (.lst ys)) = true then some (ys.any fun z => D.eqv z x) else none
  | x, .tup ys => if (x.plain && D.plains ys && D.near x (.tup ys)) = true then some (ys.any fun z => D.eqv z x) else none
  | x, .kup ys => if (x.plain && D.plains ys && D.near x (.kup ys)) = true then some (ys.any fun z => D.eqv z x) else none
  | _, _ => none
def inD (x y : D) : Option D := (inB x y).map .bl
def ninD (x y : D) : Option D := (inB x y).map fun b => .bl (!b)
def idxD : D → D → Option D
  | .scr ns, .int i => (atI ns i).map .int
  | .lst xs, .int i => atI xs i
  | .tup xs, .int i => atI xs i
  | .str x, .int i => (atI x.cps.toList i).map fun c => .str ⟨#[c]⟩
  | _, _ => none
def cutD {α : Type} (xs : List α) (lo hi : Option Int) : List α := (xs.drop (HT.sIx xs.length 0 lo)).take (HT.sIx xs.length xs.length hi - HT.sIx xs.length 0 lo)
def slD (x : D) (lo hi : Option Int) : Option D := match x with
  | .lst xs => some (.lst (cutD xs lo hi))
  | .tup xs => some (.tup (cutD xs lo hi))
  | .str x => some (.str ⟨(cutD x.cps.toList lo hi).toArray⟩)
  | _ => none
/-- a value's truth -/
def truD : D → Option Bool
  | .non => some false
  | .bl b => some b
  | .int i => some (i != 0)
  | .str x => some (x.length != 0)
  | .tup xs => some (!xs.isEmpty)
  | .lst xs => some (!xs.isEmpty)
  | _ => none
def lenD : D → Option D
  | .scr ns => some (.int ns.length)
  | .str x => some (.int x.length)
  | .tup xs => some (.int xs.length)
  | .lst xs => some (.int xs.length)
  | _ => none
/-- the name of the built-in class of a value -/
def tyD : D → Option String
  | .non => some "NoneType"
  | .bl _ => some "bool"
  | .int _ => some "int"
  | .str _ => some "str"
  | .tup _ => some "tuple"
  | .lst _ => some "list"
  | .dic _ => some "dict"
  | _ => none
/-- isinstance(x, T), T a built-in class -/
def isiD (T : String) (x : D) : Option D := match tyD x with
  | some t => (kitB t T).map .bl
  | none => none
/-! ### states -/
def rd (s : PS) : SV → Option D
  | .d x => some x
  | .cell k => match s.w[k]? with
    | some (.lst xs) => some (.lst xs)
    | some (.dic kvs) => some (.dic kvs)
    | some (.dit kvs) => some (.dit kvs)
    | _ => none
/-- the cell k is data from now on -/
def subG (k : Nat) (x : D) : Option SV → Option SV
  | some (.cell j) => if j = k then some (.d x) else some (.cell j)
  | o => o
def frz (s : PS) : SV → Option (D × PS)
  | .d x => some (x, s)
  | .cell k => match s.w[k]? with
    | some (.lst xs) => some (.lst xs, { g := s.g.map (subG k (.lst xs)), w := s.w.set k .gone })
    | some (.dit xs) => some (.dit xs, { g := s.g.map (subG k (.dit xs)), w := s.w.set k .gone })
    | _ => none
def frzs (s : PS) : List SV → Option (List D × PS)
  | [] => some ([], s)
  | x :: xs => match frz s x with
    | some (y, s1) => match frzs s1 xs with
      | some (ys, s2) => some (y :: ys, s2)
      | none => none
    | none => none
def below (n : Nat) : SV → Bool
  | .d _ => true
  | .cell k => decide (k < n)
def cellBelow (n : Nat) : Cell → Bool
  | .ins _ fs => fs.all fun p => below n p.2
  | .lsv xs => xs.all (below n)
  | _ => true
def dropG (n : Nat) : Option SV → Option SV
  | some (.cell k) => if k < n then some (.cell k) else none
  | o => o
/-- the cells from n on are forgotten -/
def trunc (n : Nat) (s : PS) : Option PS :=
  if ((s.w.take n).all (cellBelow n)) = true then some { g := s.g.map (dropG n), w := s.w.take n } else none
/-- a def hands back x: of the cells that it made at most this one stays -/
def retW (n : Nat) (x : SV) (w : List Cell) : Option (SV × List Cell) :=
  if ((w.take n).all (cellBelow n)) = true then match x with
    | .d y => some (.d y, w.take n)
    | .cell k => if k < n then some (.cell k, w.take n) else match w[k]? with
      | some c => if cellBelow n c = true then some (.cell n, w.take n ++ [c]) else none
      | none => none
  else none
/-! ### mirrors of expressions -/
def vVar (i : Nat) : ME := fun s => match s.g[i]? with
  | some (some x) => .ok x s
  | _ => .stuck
def vC (x : D) : ME := fun s => .ok (.d x) s
def vUn (f : D → Option D) (a : ME) : ME := fun s => (a s).bind fun x s => match rd s x with
  | some x => R.of ((f x).map .d) s
  | none => .stuck
def vOp (f : D → D → Option D) (a b : ME) : ME := fun s => (a s).bind fun x s => (b s).bind fun y s => match rd s x, rd s y with
  | some x, some y => R.of ((f x y).map .d) s
  | _, _ => .stuck
/-- .. whose new list is a cell -/
def vOpN (f : D → D → Option D) (a b : ME) : ME := fun s => (a s).bind fun x s => (b s).bind fun y s => match rd s x, rd s y with
  | some x, some y => match f x y with
    | some (.lst zs) => .ok (.cell s.w.length) { s with w := s.w ++ [.lst zs] }
    | _ => .stuck
  | _, _ => .stuck
def isB : SV → PS → R Bool
  | .d (.bl b), s => .ok b s
  | _, _ => .stuck
def cVal (a : ME) : MT := fun s => (a s).bind isB
def cTru (a : ME) : MT := fun s => (a s).bind fun x s => match rd s x with
  | some x => R.of (truD x) s
  | none => .stuck
def cAnd (a b : MT) : MT := fun s => (a s).bind fun c s => if c = true then b s else .ok false s
def cOr (a b : MT) : MT := fun s => (a s).bind fun c s => if c = true then .ok true s else b s
def cNot (a : MT) : MT := fun s => (a s).bind fun c s => .ok (!c) s
def vAnd (a b : ME) : ME := fun s => (a s).bind fun x s => (isB x s).bind fun c s => if c = true then b s else .ok (.d (.bl false)) s
def vOr (a b : ME) : ME := fun s => (a s).bind fun x s => (isB x s).bind fun c s => if c = true then .ok (.d (.bl true)) s else b s
def vNot (a : ME) : ME := fun s => (a s).bind fun x s => (isB x s).bind fun c s => .ok (.d (.bl (!c))) s
def vIf (t : MT) (a b : ME) : ME := fun s => (t s).bind fun c s => if c = true then a s else b s
/-- a op1 b op2 c -/
def vChain (f f' : D → D → Option D) (a b c : ME) : ME := fun s => (a s).bind fun x s => (b s).bind fun y s => match rd s x, rd s y with
  | some x', some y' => match f x' y' with
    | some (.bl k) => if k = true then (c s).bind fun z s => match rd s y, rd s z with
        | some y', some z' => R.of ((f' y' z').map .d) s
        | _, _ => .stuck
      else .ok (.d (.bl false)) s
    | _ => .stuck
  | _, _ => .stuck
def aNil : MA := fun s => .ok [] s
def aCons (a : ME) (r : MA) : MA := fun s => (a s).bind fun x s => (r s).bind fun xs s => .ok (x :: xs) s
def vTup (as : MA) : ME := fun s => (as s).bind fun xs s => match frzs s xs with
  | some (ys, s) => if ys.length ≤ sizeLine then .ok (.d (.tup ys)) s else .stuck
  | none => .stuck
def vLst (as : MA) : ME := fun s => (as s).bind fun xs s => match frzs s xs with
  | some (ys, s) => if ys.length ≤ sizeLine then .ok (.d (.lst ys)) s else .stuck
  | none => .stuck
def vLstN (as : MA) : ME := fun s => (as s).bind fun xs s => match frzs s xs with
  | some (ys, s) => if ys.length ≤ sizeLine then .ok (.cell s.w.length) { s with w := s.w ++ [.lst ys] } else .stuck
  | none => .stuck
def vFrz (a : ME) : ME := fun s => (a s).bind fun x s => R.of ((frz s x).map fun p => SV.d p.1) (match frz s x with
  | some p => p.2
  | none => s)
abbrev MO := PS → R (Option Int)
def oNone : MO := fun s => .ok none s
def oSome (a : ME) : MO := fun s => (a s).bind fun x s => match x with
  | .d (.int i) => .ok (some i) s
  | _ => .stuck
def vSl (a : ME) (lo hi : MO) : ME := fun s => (a s).bind fun x s => (lo s).bind fun l s => (hi s).bind fun h s => match rd s x with
  | some x => R.of ((slD x l h).map .d) s
  | none => .stuck
/-- a built-in of data -/
def rds (s : PS) : List SV → Option (List D)
  | [] => some []
  | x :: xs => match rd s x, rds s xs with
    | some y, some ys => some (y :: ys)
    | _, _ => none
def vB (f : List D → Option D) (as : MA) : ME := fun s => (as s).bind fun xs s => match rds s xs with
  | some ys => R.of ((f ys).map .d) s
  | none => .stuck
/-- a def of the text: arguments and cells -/
inductive RF where
  | ok (x : SV) (w : List Cell) | err (e : Exc) (w : List Cell) | stuck
abbrev Fn := List SV → List Cell → RF
def vCall (f : Fn) (as : MA) : ME := fun s => (as s).bind fun xs s => match f xs s.w with
  | .ok x w => .ok x { s with w := w }
  | .err e w => .err e { s with w := w }
  | .stuck => .stuck
/-! ### statements -/
def sNx : MS := fun s => .ok .nx s
def sSeq (a b : MS) : MS := fun s => (a s).bind fun f s => match f with
  | .nx => b s
  | f => .ok f s
def sRet (a : ME) : MS := fun s => (a s).bind fun x s => .ok (.rt x) s
def sExp (a : ME) : MS := fun s => (a s).bind fun _ s => .ok .nx s
def sIf (t : MT) (a b : MS) : MS := fun s => (t s).bind fun c s => if c = true then a s else b s
def hName (i : Nat) : MG := fun x s => if i < s.g.length then .ok () { s with g := s.g.set i (some x) } else .stuck
def hAll : List MG → List D → PS → R Unit
  | [], [], s => .ok () s
  | g :: gs, x :: xs, s => (g (.d x) s).bind fun _ s => hAll gs xs s
  | _, _, _ => .stuck
/-- a, b = .. -/
def hTup (gs : List MG) : MG := fun x s => match rd s x with
  | some (.tup xs) => if xs.length = gs.length then hAll gs xs s else .stuck
  | some (.lst xs) => if xs.length = gs.length then hAll gs xs s else .stuck
  | _ => .stuck
/-- a, b = x, y -/
def sPar (i j : Nat) (as : MA) : MS := fun s => (as s).bind fun xs s => match xs with
  | [x, y] => if i < s.g.length ∧ j < s.g.length then .ok .nx { s with g := (s.g.set i (some x)).set j (some y) } else .stuck
  | _ => .stuck
/-- a, b, c = x, y, z -/
def sPar3 (i j l : Nat) (as : MA) : MS := fun s => (as s).bind fun xs s => match xs with
  | [x, y, z] => if i < s.g.length ∧ j < s.g.length ∧ l < s.g.length then .ok .nx { s with g := ((s.g.set i (some x)).set j (some y)).set l (some z) } else .stuck
  | _ => .stuck
def sAsg (a : ME) (g : MG) : MS := fun s => (a s).bind fun x s => (g x s).bind fun _ s => .ok .nx s
/-- o[i] = x, o a list's cell -/
def setL (s : PS) (o : SV) (i x : D) : Option PS := match o, i with
  | .cell k, .int n => match s.w[k]? with
    | some (.lst xs) => (ixN xs.length n).map fun j => { s with w := s.w.set k (.lst (xs.set j x)) }
    | _ => none
  | _, _ => none
def hSub (o i : ME) : MG := fun x s => (o s).bind fun o s => (i s).bind fun i s => match frz s x with
  | some (x, s) => match rd s i with
    | some i => match setL s o i x with
      | some s => .ok () s
      | none => .stuck
    | none => .stuck
  | none => .stuck
/-! ### what is walked -/
def intD : D → Bool
  | .int _ => true
  | .str x => decide (x.length ≤ sizeLine) && PyData.strOk x
  | _ => false
inductive It' where
  | seq (xs : List D) | cell (k : Nat) | rng (lo : Int) (n : Nat) | rngC (lo c : Int) (n : Nat) | prs (ps : List (D × D)) | kys (xs : List (List D)) | its (ps : List (List D × D))
/-- the item of turn i: none: not known; some none: the end -/
def It'.at (s : PS) (i : Nat) : It' → Option (Option D)
  | .seq xs => some xs[i]?
  | .cell k => match s.w[k]? with
    | some (.lst xs) => some xs[i]?
    | _ => none
  | .rng lo n => if i < n then some (some (.int (lo + i))) else some none
  | .rngC lo c n => if i < n then some (some (.int (lo + (i : Nat) * c))) else some none
  | .prs ps => some (ps[i]?.map fun p => .tup [p.1, p.2])
  | .kys xs => some (xs[i]?.map .tup)
  | .its ps => some (ps[i]?.map fun p => .tup [.tup p.1, p.2])
def It'.fuel (s : PS) : It' → Nat
  | .seq xs => xs.length
  | .cell k => match s.w[k]? with
    | some (.lst xs) => xs.length
    | _ => 0
  | .rng _ n => n
  | .rngC _ _ n => n
  | .prs ps => ps.length
  | .kys xs => xs.length
  | .its ps => ps.length
abbrev MI := PS → R It'
def signsD (x : Str) : List D := x.cps.toList.map fun c => .str ⟨#[c]⟩
/-- a list, a tuple, a text -/
def jSeq (a : ME) : MI := fun s => (a s).bind fun x s => match x with
  | .d (.lst xs) => .ok (.seq xs) s
  | .d (.tup xs) => .ok (.seq xs) s
  | .d (.str x) => .ok (.seq (signsD x)) s
  | .cell k => match s.w[k]? with
    | some (.lst _) => .ok (.cell k) s
    | _ => .stuck
  | _ => .stuck
def rngOk (i : Int) : Bool := decide (-(2 ^ 62) ≤ i) && decide (i < 2 ^ 62)
def jRng1 (a : ME) : MI := fun s => (a s).bind fun x s => match x with
  | .d (.int j) => if rngOk j = true then .ok (.rng 0 j.toNat) s else .stuck
  | _ => .stuck
def jRng2 (a b : ME) : MI := fun s => (a s).bind fun x s => (b s).bind fun y s => match x, y with
  | .d (.int i), .d (.int j) => if (rngOk i && rngOk j) = true then .ok (.rng i (j - i).toNat) s else .stuck
  | _, _ => .stuck
def rngCOk (i j c : Int) : Bool := decide (0 < c) && decide (c.natAbs < 1073741824) && PySem.Builtin.Range.small i j c
def jRng3 (a b c : ME) : MI := fun s => (a s).bind fun x s => (b s).bind fun y s => (c s).bind fun z s => match x, y, z with
  | .d (.int i), .d (.int j), .d (.int k) => if rngCOk i j k = true then .ok (.rngC i k (PySem.Builtin.Range.rangeSize i j k).toNat) s else .stuck
  | _, _, _ => .stuck
/-- the turns of a for from turn i on; n: the cells ahead of the loop -/
def forGo (it : It') (n : Nat) (g : MG) (body : MS) : Nat → Nat → PS → R Fl
  | 0, i, s => match it.at s i with
    | some none => .ok .nx s
    | _ => .stuck
  | f + 1, i, s => match it.at s i with
    | some (some x) => (g (.d x) s).bind fun _ s => (body s).bind fun fl s => match fl with
      | .nx => match trunc n s with
        | some s => forGo it n g body f (i + 1) s
        | none => .stuck
      | .ct => match trunc n s with
        | some s => forGo it n g body f (i + 1) s
        | none => .stuck
      | .bk => .ok .nx s
      | .rt x => .ok (.rt x) s
    | some none => .ok .nx s
    | none => .stuck
def sFor (it : MI) (g : MG) (body : MS) : MS := fun s => (it s).bind fun it s => forGo it s.w.length g body (it.fuel s) 0 s
/-- the turns of a comprehension whose list is the cell n; own: the slots that are its own -/
def wipeG (vs : List Nat) (g : List (Option SV)) : List (Option SV) := vs.foldr (fun i g => g.set i none) g
/-- an exception is not looked at -/
def R.nox {α : Type} : R α → R α
  | .ok a s => .ok a s
  | _ => .stuck
@[simp] theorem nox_ok {α : Type} (a : α) (s : PS) : R.nox (.ok a s) = .ok a s := rfl
def lcGo (it : It') (n : Nat) (own : List Nat) (g : MG) (t : MT) (e : ME) : Nat → Nat → PS → R Unit
  | 0, i, s => match it.at s i with
    | some none => .ok () s
    | _ => .stuck
  | f + 1, i, s => match it.at s i with
    | some (some x) => (g (.d x) s).nox.bind fun _ s => (t s).nox.bind fun c s => if c = true then
        (e s).nox.bind fun y s => match frz s y with
          | some (y, s) => match s.w[n]? with
            | some (.lst acc) => if acc.length < sizeLine then match trunc (n + 1) { s with w := s.w.set n (.lst (acc ++ [y])) } with
                | some s => lcGo it n own g t e f (i + 1) { s with g := wipeG own s.g }
                | none => .stuck
              else .stuck
            | _ => .stuck
          | none => .stuck
      else match trunc (n + 1) s with
        | some s => lcGo it n own g t e f (i + 1) { s with g := wipeG own s.g }
        | none => .stuck
    | some none => .ok () s
    | none => .stuck
/-- behind a comprehension its own slots hold again what they held, if that was data -/
def backG (own : List Nat) (g0 g : List (Option SV)) : List (Option SV) := own.foldr (fun i g => g.set i (match g0[i]? with
  | some (some (.d x)) => some (.d x)
  | _ => none)) g
/-- the new list is the cell n -/
def vLcN (it : MI) (own : List Nat) (g : MG) (t : MT) (e : ME) : ME := fun s => (it s).bind fun it s =>
  (lcGo it s.w.length own g t e (it.fuel s) 0 { g := wipeG own s.g, w := s.w ++ [.lst []] }).bind fun _ s' => .ok (.cell s.w.length) { s' with g := backG own s.g s'.g }
def cYes : MT := fun s => .ok true s
/-! ### defs -/
def fnM (slots : Nat) (body : MS) : Fn := fun xs w => match body { g := xs.map some ++ List.replicate (slots - xs.length) none, w := w } with
  | .ok (.rt x) s => match retW w.length x s.w with
    | some (x, w) => .ok x w
    | none => .stuck
  | .ok .nx s => match retW w.length (.d .non) s.w with
    | some (x, w) => .ok x w
    | none => .stuck
  | .err e s => match retW w.length (.d .non) s.w with
    | some (_, w) => .err e w
    | none => .stuck
  | _ => .stuck
end Bf
/-! The mirror layer: what a mirror says of the program: data represented in a heap, states, growth, outcomes. -/
namespace Bf
open PySem PySem.Spec PyProof.Rows L2
def keyD : Key → D
  | .inl i => .int i
  | .inr x => .str x
section
variable (K : PySem.W.Frag) (CT : Ctx)
mutual
/-- v is the data d, in the frozen heap F -/
inductive Rep (F : Hp) : V → D → Prop
  | non : Rep F .non .non
  | bl (b : Bool) : Rep F (.bl b) (.bl b)
  | int (i : Int) : Rep F (.int i) (.int i)
  | str (x : Str) (h1 : x.length ≤ sizeLine) (h2 : PyData.strOk x = true) : Rep F (.str x) (.str x)
  | tup {a : Addr} {vs : List V} {ds : List D} (h1 : F a = some (.tup vs)) (h2 : Reps F vs ds) : Rep F (.ref a) (.tup ds)
  | lst {a : Addr} {vs : List V} {ds : List D} (h1 : F a = some (.lst vs)) (h2 : Reps F vs ds) : Rep F (.ref a) (.lst ds)
  | dK {a : Addr} {kvs : List (Key × V)} {ds : List (D × D)} (h1 : F a = some (.dK kvs)) (h2 : RepK F kvs ds) : Rep F (.ref a) (.dic ds)
  | ins {a dx : Addr} {c : Nat} {fs : List (Str × V)} {gs : List (Str × D)} (h1 : F a = some (.ins (CT c) dx fs)) (h2 : RepF F fs gs) : Rep F (.ref a) (.ins c gs)
  | raw (v : V) : Rep F v (.raw v)
  | scr {a : Addr} {ns : List Int} (h1 : SqL K F a (ns.map V.int)) : Rep F (.ref a) (.scr ns)
  | dT {a : Addr} {kvs : List (List Key × V)} {ds : List (List D × D)} (h1 : F a = some (.dT kvs)) (h2 : RepT F kvs ds) : Rep F (.ref a) (.dit ds)
  | cls (c : Nat) : Rep F (.ref (CT c)) (.cls c)
  | kup {a : Addr} {vs : List V} {ds : List D} (h1 : SqT K F a vs) (h2 : Reps F vs ds) : Rep F (.ref a) (.kup ds)
  | dL {a : Addr} {o : Obj} {kvs : List (List Key × V)} {ds : List (List D × D)} (h1 : F a = some (.frz o (.dT kvs))) (h2 : RepT F kvs ds) : Rep F (.ref a) (.dtl ds)
inductive Reps (F : Hp) : List V → List D → Prop
  | nil : Reps F [] []
  | cons {v : V} {d : D} {vs : List V} {ds : List D} (h1 : Rep F v d) (h2 : Reps F vs ds) : Reps F (v :: vs) (d :: ds)
inductive RepK (F : Hp) : List (Key × V) → List (D × D) → Prop
  | nil : RepK F [] []
  | cons {k : Key} {v : V} {d : D} {vs : List (Key × V)} {ds : List (D × D)} (h1 : Rep F v d) (h2 : RepK F vs ds) : RepK F ((k, v) :: vs) ((keyD k, d) :: ds)
inductive RepT (F : Hp) : List (List Key × V) → List (List D × D) → Prop
  | nil : RepT F [] []
  | cons {k : List Key} {v : V} {d : D} {vs : List (List Key × V)} {ds : List (List D × D)} (h1 : Rep F v d) (h2 : RepT F vs ds) : RepT F ((k, v) :: vs) ((k.map keyD, d) :: ds)
inductive RepF (F : Hp) : List (Str × V) → List (Str × D) → Prop
  | nil : RepF F [] []
  | cons {f : Str} {v : V} {d : D} {vs : List (Str × V)} {ds : List (Str × D)} (h1 : Rep F v d) (h2 : RepF F vs ds) : RepF F ((f, v) :: vs) ((f, d) :: ds)
end
def Sub (F F' : Hp) : Prop := ∀ a o, F a = some o → F' a = some o
theorem Sub.refl (F : Hp) : Sub F F := fun _ _ h => h
theorem Sub.trans {F G H : Hp} (a : Sub F G) (b : Sub G H) : Sub F H := fun x o h => b x o (a x o h)
theorem Sub.new {F : Hp} {p : Addr} {o : HO} (h : F p = none) : Sub F (upd F p o) := fun a u e => by
  rw [upd_ne (ne_of_none e h)]
  exact e
theorem Sub.rd {F F' : Hp} {a : Addr} {u : HO} (s : Sub F F') (h : Rd F a u) : Rd F' a u := by
  rcases h with h | ⟨o, h⟩
  · exact .inl (s _ _ h)
  · exact .inr ⟨o, s _ _ h⟩
theorem Sub.sqL {F F' : Hp} {a : Addr} {xs : List V} (s : Sub F F') (h : SqL K F a xs) : SqL K F' a xs := by
  rcases h with h | h
  · exact .inl (s.rd h)
  · exact .inr h
theorem Sub.sqT {F F' : Hp} {a : Addr} {xs : List V} (s : Sub F F') (h : SqT K F a xs) : SqT K F' a xs := by
  rcases h with h | h
  · exact .inl (s.rd h)
  · exact .inr h
mutual
theorem Rep.mono {F F' : Hp} (s : Sub F F') : ∀ (d : D) (v : V), Rep K CT F v d → Rep K CT F' v d
  | .non, _, h => by cases h; exact .non
  | .bl b, _, h => by cases h; exact .bl b
  | .int i, _, h => by cases h; exact .int i
  | .str x, _, h => by
    cases h with
    | str _ h1 h2 => exact .str x h1 h2
  | .tup ds, _, h => by
    cases h with
    | tup h1 h2 => exact .tup (s _ _ h1) (Reps.mono s ds _ h2)
  | .kup ds, _, h => by
    cases h with
    | kup h1 h2 => exact .kup (s.sqT K h1) (Reps.mono s ds _ h2)
  | .lst ds, _, h => by
    cases h with
    | lst h1 h2 => exact .lst (s _ _ h1) (Reps.mono s ds _ h2)
  | .dic ds, _, h => by
    cases h with
    | dK h1 h2 => exact .dK (s _ _ h1) (RepK.mono s ds _ h2)
  | .ins c gs, _, h => by
    cases h with
    | ins h1 h2 => exact .ins (s _ _ h1) (RepF.mono s gs _ h2)
  | .raw v, _, h => by cases h; exact .raw v
  | .scr ns, _, h => by
    cases h with
    | scr h1 => exact .scr (s.sqL K h1)
  | .dit ds, _, h => by
    cases h with
    | dT h1 h2 => exact .dT (s _ _ h1) (RepT.mono s ds _ h2)
  | .cls c, _, h => by cases h; exact .cls c
  | .dtl ds, _, h => by
    cases h with
    | dL h1 h2 => exact .dL (s _ _ h1) (RepT.mono s ds _ h2)
theorem Reps.mono {F F' : Hp} (s : Sub F F') : ∀ (ds : List D) (vs : List V), Reps K CT F vs ds → Reps K CT F' vs ds
  | [], _, h => by cases h; exact .nil
  | d :: ds, _, h => by
    cases h with
    | cons h1 h2 => exact .cons (Rep.mono s d _ h1) (Reps.mono s ds _ h2)
theorem RepK.mono {F F' : Hp} (s : Sub F F') : ∀ (ds : List (D × D)) (vs : List (Key × V)), RepK K CT F vs ds → RepK K CT F' vs ds
  | [], _, h => by cases h; exact .nil
  | (k, d) :: ds, _, h => by
    cases h with
    | cons h1 h2 => exact .cons (Rep.mono s d _ h1) (RepK.mono s ds _ h2)
theorem RepT.mono {F F' : Hp} (s : Sub F F') : ∀ (ds : List (List D × D)) (vs : List (List Key × V)), RepT K CT F vs ds → RepT K CT F' vs ds
  | [], _, h => by cases h; exact .nil
  | (k, d) :: ds, _, h => by
    cases h with
    | cons h1 h2 => exact .cons (Rep.mono s d _ h1) (RepT.mono s ds _ h2)
theorem RepF.mono {F F' : Hp} (s : Sub F F') : ∀ (ds : List (Str × D)) (vs : List (Str × V)), RepF K CT F vs ds → RepF K CT F' vs ds
  | [], _, h => by cases h; exact .nil
  | (f, d) :: ds, _, h => by
    cases h with
    | cons h1 h2 => exact .cons (Rep.mono s d _ h1) (RepF.mono s ds _ h2)
end
end
/-! ### two lists, item by item -/
section
variable {K : PySem.W.Frag} {CT : Ctx} {F F' : Hp} {vs ws : List V} {ds es : List D} {v : V} {d : D}
theorem Reps.length : ∀ {vs : List V} {ds : List D}, Reps K CT F vs ds → vs.length = ds.length
  | _, [], h => by cases h; rfl
  | _, d :: ds, h => by
    cases h with
    | cons h1 h2 => simp [Reps.length h2]
theorem Reps.get : ∀ {ds : List D} {vs : List V} {i : Nat} {d : D}, Reps K CT F vs ds → ds[i]? = some d → ∃ v, vs[i]? = some v ∧ Rep K CT F v d
  | [], _, _, _, _, e => by simp at e
  | _ :: _, _, 0, d, h, e => by
    cases h with
    | cons h1 h2 =>
      simp at e
      subst e
      exact ⟨_, rfl, h1⟩
  | _ :: ds, _, i + 1, d, h, e => by
    cases h with
    | cons h1 h2 =>
      obtain ⟨v, e1, r⟩ := Reps.get (i := i) h2 (by simpa using e)
      exact ⟨v, by simpa using e1, r⟩
theorem Reps.append : ∀ {vs ws : List V} {ds es : List D}, Reps K CT F vs ds → Reps K CT F ws es → Reps K CT F (vs ++ ws) (ds ++ es)
  | _, _, [], _, h, r => by cases h; exact r
  | _, _, d :: ds, _, h, r => by
    cases h with
    | cons h1 h2 => exact .cons h1 (Reps.append h2 r)
theorem Reps.one (h : Rep K CT F v d) : Reps K CT F [v] [d] := .cons h .nil
theorem Reps.take : ∀ {ds : List D} {vs : List V} (n : Nat), Reps K CT F vs ds → Reps K CT F (vs.take n) (ds.take n)
  | _, _, 0, _ => by simp; exact .nil
  | [], _, n + 1, h => by cases h; exact .nil
  | d :: ds, _, n + 1, h => by
    cases h with
    | cons h1 h2 => exact .cons h1 (Reps.take n h2)
theorem Reps.drop : ∀ {ds : List D} {vs : List V} (n : Nat), Reps K CT F vs ds → Reps K CT F (vs.drop n) (ds.drop n)
  | _, _, 0, h => by simpa using h
  | [], _, n + 1, h => by cases h; exact .nil
  | d :: ds, _, n + 1, h => by
    cases h with
    | cons h1 h2 => exact Reps.drop n h2
theorem Reps.set : ∀ {ds : List D} {vs : List V} (n : Nat), Reps K CT F vs ds → Rep K CT F v d → Reps K CT F (vs.set n v) (ds.set n d)
  | [], _, n, h, r => by cases h; exact .nil
  | e :: ds, _, 0, h, r => by
    cases h with
    | cons h1 h2 => exact .cons r h2
  | e :: ds, _, n + 1, h, r => by
    cases h with
    | cons h1 h2 => exact .cons h1 (Reps.set n h2 r)
theorem Reps.rep (h : Reps K CT F vs ds) : ∀ k : Nat, Reps K CT F (List.replicate k vs).flatten (List.replicate k ds).flatten
  | 0 => .nil
  | k + 1 => by
    rw [List.replicate_succ, List.replicate_succ, List.flatten_cons, List.flatten_cons]
    exact h.append (Reps.rep h k)
theorem Reps.cut (h : Reps K CT F vs ds) (lo hi : Option Int) : Reps K CT F (cutV vs lo hi) (cutD ds lo hi) := by
  unfold cutV cutD
  rw [h.length]
  exact (h.drop _).take _
theorem Reps.at {i : Int} (h : Reps K CT F vs ds) (e : atI ds i = some d) : ∃ v, atI vs i = some v ∧ Rep K CT F v d := by
  unfold atI at e ⊢
  rw [h.length]
  cases q : ixN ds.length i with
  | none => rw [q] at e; cases e
  | some j =>
    rw [q] at e
    exact h.get e
theorem Reps.nil_iff (h : Reps K CT F vs ds) : vs = [] ↔ ds = [] := by
  cases h with
  | nil => simp
  | cons => simp
end
/-! ### plain data is the library's -/
section
variable {K : PySem.W.Frag} {CT : Ctx} {F : Hp}
mutual
theorem Rep.dp : ∀ (d : D) (v : V), d.plain = true → Rep K CT F v d → Dp K F v d.py ∧ PyData.canLay0 d.py = true
  | .non, _, _, h => by cases h; exact ⟨.non, rfl⟩
  | .bl b, _, _, h => by cases h; exact ⟨.bl b, rfl⟩
  | .int i, _, _, h => by cases h; exact ⟨.int i, rfl⟩
  | .str x, _, _, h => by
    cases h with
    | str _ h1 h2 => exact ⟨.str x, by rw [D.py, PyData.canLay0]; exact h2⟩
  | .tup ds, _, p, h => by
    cases h with
    | tup h1 h2 =>
      obtain ⟨q1, q2⟩ := Reps.dp ds _ (by rw [D.plain] at p; exact p) h2
      exact ⟨.tup (SqT.of h1) q1, by rw [D.py, PyData.canLay0]; exact q2⟩
  | .kup ds, _, p, h => by
    cases h with
    | kup h1 h2 =>
      obtain ⟨q1, q2⟩ := Reps.dp ds _ (by rw [D.plain] at p; exact p) h2
      exact ⟨.tup h1 q1, by rw [D.py, PyData.canLay0]; exact q2⟩
  | .lst ds, _, p, h => by
    cases h with
    | lst h1 h2 =>
      obtain ⟨q1, q2⟩ := Reps.dp ds _ (by rw [D.plain] at p; exact p) h2
      exact ⟨.lst (SqL.of h1) q1, by rw [D.py, PyData.canLay0]; exact q2⟩
  | .dic _, _, p, _ => by rw [D.plain] at p; cases p
  | .ins _ _, _, p, _ => by rw [D.plain] at p; cases p
  | .raw _, _, p, _ => by rw [D.plain] at p; cases p
  | .scr _, _, p, _ => by rw [D.plain] at p; cases p
  | .dit _, _, p, _ => by rw [D.plain] at p; cases p
  | .cls _, _, p, _ => by rw [D.plain] at p; cases p
  | .dtl _, _, p, _ => by rw [D.plain] at p; cases p
theorem Reps.dp : ∀ (ds : List D) (vs : List V), D.plains ds = true → Reps K CT F vs ds → DpAll K F vs (D.pys ds) ∧ PyData.canLayAll0 (D.pys ds) = true
  | [], _, _, h => by cases h; exact ⟨.nil, rfl⟩
  | d :: ds, _, p, h => by
    cases h with
    | cons h1 h2 =>
      rw [D.plains, Bool.and_eq_true] at p
      obtain ⟨a1, a2⟩ := Rep.dp d _ p.1 h1
      obtain ⟨b1, b2⟩ := Reps.dp ds _ p.2 h2
      refine ⟨.cons a1 b1, ?_⟩
      rw [D.pys, PyData.canLayAll0, a2, b2]
      rfl
end
end
end Bf
/-! The mirror layer: states in the heap, outcomes, the judgements' readings. -/
namespace Bf
open PySem PySem.Spec PyProof.Rows L2
abbrev Sto := L2.St
section
variable (K : PySem.W.Frag) (CT : Ctx)
def RepS (F : Hp) (as : List Addr) : V → SV → Prop
  | v, .d x => Rep K CT F v x
  | v, .cell k => ∃ a, as[k]? = some a ∧ v = .ref a
inductive RepSs (F : Hp) (as : List Addr) : List V → List SV → Prop
  | nil : RepSs F as [] []
  | cons {v : V} {x : SV} {vs : List V} {xs : List SV} (h1 : RepS K CT F as v x) (h2 : RepSs F as vs xs) : RepSs F as (v :: vs) (x :: xs)
inductive RepSF (F : Hp) (as : List Addr) : List (Str × V) → List (Str × SV) → Prop
  | nil : RepSF F as [] []
  | cons {f : Str} {v : V} {x : SV} {vs : List (Str × V)} {xs : List (Str × SV)} (h1 : RepS K CT F as v x) (h2 : RepSF F as vs xs) : RepSF F as ((f, v) :: vs) ((f, x) :: xs)
def CellOk (F : Hp) (as : List Addr) (H : Hp) (a : Addr) : Cell → Prop
  | .lst xs => F a = none ∧ ∃ vs, H a = some (.lst vs) ∧ Reps K CT F vs xs
  | .dic kvs => F a = none ∧ ∃ vs, H a = some (.dK vs) ∧ RepK K CT F vs kvs
  | .dit kvs => F a = none ∧ ∃ vs, H a = some (.dT vs) ∧ RepT K CT F vs kvs
  | .ins c fs => F a = none ∧ ∃ dx vs, H a = some (.ins (CT c) dx vs) ∧ RepSF K CT F as vs fs
  | .gone => True
  | .lsv xs => F a = none ∧ ∃ vs, H a = some (.lst vs) ∧ RepSs K CT F as vs xs
/-- the tables of code objects stand, and are nothing else -/
structure TabOk (T : List (Addr × Str)) (F : Hp) (as : List Addr) (H : Hp) : Prop where
  tabs : LamX.Tabs T H
  nf : ∀ a ps, F a ≠ some (.tbl ps)
  na : ∀ a ∈ as, ∀ ps, H a ≠ some (.tbl ps)
structure Wk (F : Hp) (as : List Addr) (H : Hp) (w : List Cell) : Prop where
  len : w.length = as.length
  nd : as.Nodup
  tb : TabOk CT.tabs F as H
  live : ∀ a ∈ as, H a ≠ none
  ok : ∀ (k : Nat) (c : Cell) (a : Addr), w[k]? = some c → as[k]? = some a → CellOk K CT F as H a c
structure Env (F : Hp) (as : List Addr) (H : Hp) (σ : Sto) (s : PS) : Prop where
  sub : Sub F H
  wk : Wk K CT F as H s.w
  gl : s.g.length = σ.length
  sl : ∀ (i : Nat) (x : SV), s.g[i]? = some (some x) → ∃ v, σ[i]? = some (some v) ∧ RepS K CT F as v x
def Ext (F : Hp) (as : List Addr) (F' : Hp) (as' : List Addr) : Prop := Sub F F' ∧ ∃ t, as' = as ++ t
/-- the exception e, as it leaves: its class, its own dict -/
def ExcOk (F H : Hp) (e : Exc) (c : Value) (dx : Option Addr) : Prop :=
  (match e.c with
    | .own n => c = .ref (CT n)
    | .bi t => c = .type t) ∧
  (e.fs = [] ∨ ∃ d vs, dx = some d ∧ H d = some (.xd vs) ∧ RepF K CT F vs e.fs)
/-- what an outcome r asks -/
def Out {α : Type} (ok : Sto → Prop) (E : Sto → XK) (F : Hp) (as : List Addr) (r : R α) (Q : α → PS → Hp → List Addr → Sto → Hp → Prop) : Prop := match r with
  | .ok a s => ∀ F' as' σ' H', ok σ' → Ext F as F' as' → Env K CT F' as' H' σ' s → Q a s F' as' σ' H'
  | .err e s => ∀ c dx F' as' σ' H', ok σ' → Ext F as F' as' → Env K CT F' as' H' σ' s → ExcOk K CT F' H' e c dx → E σ' c dx H'
  | .stuck => False
/-- readings -/
def up (E : Sto → XK) (m : ME) : TE := fun σ H Q => ∃ F as s, Env K CT F as H σ s ∧ Out K CT (fun σ' => σ' = σ) E F as (m s) fun x _ F' as' _ H' => ∀ v, RepS K CT F' as' v x → Q v H'
def upT (E : Sto → XK) (m : MT) : TT := fun σ H Q => ∃ F as s, Env K CT F as H σ s ∧ Out K CT (fun σ' => σ' = σ) E F as (m s) fun b _ _ _ _ H' => Q b H'
def upA (E : Sto → XK) (m : MA) : TA := fun σ H Q => ∃ F as s, Env K CT F as H σ s ∧ Out K CT (fun σ' => σ' = σ) E F as (m s) fun xs _ F' as' _ H' => ∀ vs, RepSs K CT F' as' vs xs → Q vs H'
def upO (E : Sto → XK) (m : MO) : TO := fun σ H Q => ∃ F as s, Env K CT F as H σ s ∧ Out K CT (fun σ' => σ' = σ) E F as (m s) fun o _ _ _ _ H' => Q o H'
def upG {β : Type} (φ : Sto → β) (E : Sto → XK) (g : MG) : TG := fun v σ H Q => ∃ F as s x, Env K CT F as H σ s ∧ RepS K CT F as v x ∧ Out K CT (fun σ' => φ σ' = φ σ) E F as (g x s) fun _ _ _ _ σ' H' => φ σ' = φ σ → Q σ' H'
def upS (E : Sto → XK) (m : MS) : TS := fun D σ H => ∃ F as s, Env K CT F as H σ s ∧ Out K CT (fun _ => True) E F as (m s) fun f _ F' as' σ' H' => match f with
  | .nx => D.nx σ' H'
  | .bk => D.bk σ' H'
  | .ct => D.ct σ' H'
  | .rt x => ∀ v, RepS K CT F' as' v x → D.rt v H'
/-- the walked thing it, as the layer's J -/
def ItOk (F : Hp) (as : List Addr) (J : It) : It' → Prop
  | .seq xs => (∃ a vs, J = Itl K a ∧ SqL K F a vs ∧ Reps K CT F vs xs) ∨ (∃ a vs, J = Itt K a ∧ SqT K F a vs ∧ Reps K CT F vs xs) ∨ (∃ x : Str, J = Its x ∧ xs = signsD x ∧ PyData.strOk x = true)
  | .cell k => ∃ a, as[k]? = some a ∧ J = Itl K a
  | .rng lo n => J = Itr lo n
  | .rngC lo c n => J = Itc lo c n
  | .prs ps => ∃ vs ws : List V, Reps K CT F vs (ps.map Prod.fst) ∧ Reps K CT F ws (ps.map Prod.snd) ∧ ∀ H, Sub F H → (∀ i, i < ps.length → J.go i H) ∧ (∀ i, ps.length ≤ i → J.stop i H) ∧ ∀ i v H' a b, vs[i]? = some a → ws[i]? = some b → J.yld i H v H' → ∃ T, v = .ref T ∧ H T = none ∧ H' = upd H T (.tup [a, b])
  | .kys xs => (∀ x ∈ xs, x.all intD = true) ∧ ∃ ks : List (List Key), xs = ks.map (fun k => k.map keyD) ∧ ∀ H, Sub F H → (∀ i, i < ks.length → J.go i H) ∧ (∀ i, ks.length ≤ i → J.stop i H) ∧ ∀ i v H' k, ks[i]? = some k → J.yld i H v H' → H' = H ∧ ∃ q, v = .ref q ∧ H q = some (.tup (k.map kV))
  | .its ps => (∀ p ∈ ps, p.1.all intD = true) ∧ ∃ kvs : List (List Key × V), RepT K CT F kvs ps ∧ ∀ H, Sub F H → (∀ i, i < kvs.length → J.go i H) ∧ (∀ i, kvs.length ≤ i → J.stop i H) ∧ ∀ i v H' k w, kvs[i]? = some (k, w) → J.yld i H v H' → ∃ T q, v = .ref T ∧ H T = none ∧ H q = some (.tup (k.map kV)) ∧ H' = upd H T (.tup [.ref q, w])
def upI (E : Sto → XK) (m : MI) : TI := fun σ H R => ∃ F as s, Env K CT F as H σ s ∧ Out K CT (fun σ' => σ' = σ) E F as (m s) fun it _ F' as' _ H' => ∀ J, ItOk K CT F' as' J it → R J H'
end
/-- an object that is neither a table nor a code object -/
def NoTab (o : HO) : Prop := (∀ ps, o ≠ .tbl ps) ∧ ∀ φ, o ≠ .ext φ
section
variable {T : List (Addr × Str)} {F H : Hp} {as : List Addr}
theorem tabs_set {a : Addr} {o u : HO} (t : LamX.Tabs T H) (h : H a = some o) (no : NoTab o) : LamX.Tabs T (upd H a u) := fun p hp => by
  obtain ⟨ps, h1, h2, h3⟩ := t p hp
  have n1 : p.1 ≠ a := fun z => by
    rw [z, h] at h1
    exact no.1 _ (Option.some.inj h1)
  refine ⟨ps, by rw [upd_ne n1]; exact h1, h2, fun pos cv hc => ?_⟩
  obtain ⟨c, e1, e2⟩ := h3 pos cv hc
  have n2 : c ≠ a := fun z => by
    rw [z, h] at e2
    exact no.2 _ (Option.some.inj e2)
  exact ⟨c, e1, by rw [upd_ne n2]; exact e2⟩
theorem tabs_new {p : Addr} {u : HO} (t : LamX.Tabs T H) (h : H p = none) : LamX.Tabs T (upd H p u) := t.ext fun b o e => by
  rw [upd_ne (fun z => by rw [z, h] at e; cases e)]
  exact e
theorem TabOk.new {p : Addr} {o : HO} (t : TabOk T F as H) (hp : H p = none) (no : ∀ ps, o ≠ .tbl ps) : TabOk T (upd F p o) as (upd H p o) := by
  refine ⟨tabs_new t.tabs hp, fun a ps e => ?_, fun a m ps e => ?_⟩
  · by_cases ha : a = p
    · rw [ha, upd_same] at e
      exact no _ (Option.some.inj e)
    · rw [upd_ne ha] at e
      exact t.nf a ps e
  · by_cases ha : a = p
    · rw [ha, upd_same] at e
      exact no _ (Option.some.inj e)
    · rw [upd_ne ha] at e
      exact t.na a m ps e
theorem TabOk.other {p : Addr} {o : HO} (t : TabOk T F as H) (hp : H p = none) (no : p ∉ as) : TabOk T F as (upd H p o) := by
  refine ⟨tabs_new t.tabs hp, t.nf, fun a m ps e => ?_⟩
  have ha : a ≠ p := fun z => no (z ▸ m)
  rw [upd_ne ha] at e
  exact t.na a m ps e
theorem TabOk.newC {p : Addr} {o : HO} (t : TabOk T F as H) (hp : H p = none) (no : ∀ ps, o ≠ .tbl ps) : TabOk T F (as ++ [p]) (upd H p o) := by
  refine ⟨tabs_new t.tabs hp, t.nf, fun a m ps e => ?_⟩
  by_cases ha : a = p
  · rw [ha, upd_same] at e
    exact no _ (Option.some.inj e)
  · rw [upd_ne ha] at e
    rcases List.mem_append.mp m with m | m
    · exact t.na a m ps e
    · exact ha (List.mem_singleton.mp m)
theorem TabOk.set {a : Addr} {o u : HO} (t : TabOk T F as H) (h : H a = some o) (no : NoTab o) (nu : ∀ ps, u ≠ .tbl ps) : TabOk T F as (upd H a u) := by
  refine ⟨tabs_set t.tabs h no, t.nf, fun b m ps e => ?_⟩
  by_cases hb : b = a
  · rw [hb, upd_same] at e
    exact nu _ (Option.some.inj e)
  · rw [upd_ne hb] at e
    exact t.na b m ps e
theorem TabOk.frz {a : Addr} {o : HO} (t : TabOk T F as H) (no : ∀ ps, o ≠ .tbl ps) : TabOk T (upd F a o) as H := by
  refine ⟨t.tabs, fun b ps e => ?_, t.na⟩
  by_cases hb : b = a
  · rw [hb, upd_same] at e
    exact no _ (Option.some.inj e)
  · rw [upd_ne hb] at e
    exact t.nf b ps e
theorem TabOk.sub {as' : List Addr} (t : TabOk T F as H) (h : ∀ a ∈ as', a ∈ as) : TabOk T F as' H := ⟨t.tabs, t.nf, fun a m => t.na a (h a m)⟩
end
theorem noTab_lst {xs : List V} : NoTab (.lst xs) := ⟨fun _ z => (by cases z), fun _ z => (by cases z)⟩
theorem noTab_tup {xs : List V} : NoTab (.tup xs) := ⟨fun _ z => (by cases z), fun _ z => (by cases z)⟩
theorem noTab_dT {xs : List (List Key × V)} : NoTab (.dT xs) := ⟨fun _ z => (by cases z), fun _ z => (by cases z)⟩
theorem noTab_ins {C dx : Addr} {xs : List (Str × V)} : NoTab (.ins C dx xs) := ⟨fun _ z => (by cases z), fun _ z => (by cases z)⟩
section
variable {K : PySem.W.Frag} {CT : Ctx} {F F' F'' : Hp} {as as' as'' : List Addr} {H H' : Hp} {σ σ' : Sto} {s s' : PS} {v : V} {x : SV} {E : Sto → XK}
theorem Ext.refl : Ext F as F as := ⟨Sub.refl F, [], by simp⟩
theorem Ext.trans (a : Ext F as F' as') (b : Ext F' as' F'' as'') : Ext F as F'' as'' := by
  obtain ⟨a1, t, rfl⟩ := a
  obtain ⟨b1, u, rfl⟩ := b
  exact ⟨a1.trans b1, t ++ u, by simp⟩
theorem Ext.sub (h : Sub F F') : Ext F as F' as := ⟨h, [], by simp⟩
theorem Ext.at (e : Ext F as F' as') {k : Nat} {a : Addr} (h : as[k]? = some a) : as'[k]? = some a := by
  obtain ⟨_, t, rfl⟩ := e
  rw [List.getElem?_append_left (List.getElem?_eq_some_iff.mp h).1]
  exact h
theorem RepS.mono (e : Ext F as F' as') (h : RepS K CT F as v x) : RepS K CT F' as' v x := by
  cases x with
  | d y => exact Rep.mono K CT e.1 y v h
  | cell k =>
    obtain ⟨a, h1, h2⟩ := h
    exact ⟨a, e.at h1, h2⟩
theorem RepSs.mono {vs : List V} {xs : List SV} (e : Ext F as F' as') (h : RepSs K CT F as vs xs) : RepSs K CT F' as' vs xs := by
  induction h with
  | nil => exact .nil
  | cons h1 _ ih => exact .cons (h1.mono e) ih
theorem RepSF.mono {vs : List (Str × V)} {xs : List (Str × SV)} (e : Ext F as F' as') (h : RepSF K CT F as vs xs) : RepSF K CT F' as' vs xs := by
  induction h with
  | nil => exact .nil
  | cons h1 _ ih => exact .cons (h1.mono e) ih
theorem ItOk.mono {J : It} {it : It'} (e : Ext F as F' as') (h : ItOk K CT F as J it) : ItOk K CT F' as' J it := by
  cases it with
  | seq xs =>
    rcases h with ⟨a, vs, h1, h2, h3⟩ | ⟨a, vs, h1, h2, h3⟩ | h
    · exact .inl ⟨a, vs, h1, e.1.sqL K h2, Reps.mono K CT e.1 _ _ h3⟩
    · exact .inr (.inl ⟨a, vs, h1, e.1.sqT K h2, Reps.mono K CT e.1 _ _ h3⟩)
    · exact .inr (.inr h)
  | cell k =>
    obtain ⟨a, h1, h2⟩ := h
    exact ⟨a, e.at h1, h2⟩
  | rng lo n => exact h
  | rngC lo c n => exact h
  | prs ps =>
    obtain ⟨vs, ws, h1, h2, h3⟩ := h
    exact ⟨vs, ws, Reps.mono K CT e.1 _ _ h1, Reps.mono K CT e.1 _ _ h2, fun H s => h3 H (e.1.trans s)⟩
  | kys xs =>
    obtain ⟨h0, ks, h1, h3⟩ := h
    exact ⟨h0, ks, h1, fun H s => h3 H (e.1.trans s)⟩
  | its ps =>
    obtain ⟨h0, kvs, h1, h3⟩ := h
    exact ⟨h0, kvs, RepT.mono K CT e.1 _ _ h1, fun H s => h3 H (e.1.trans s)⟩
/-! ### outcomes -/
theorem Out.ext {α : Type} {ok : Sto → Prop} {r : R α} {Q : α → PS → Hp → List Addr → Sto → Hp → Prop} (e : Ext F as F' as') (h : Out K CT ok E F as r Q) : Out K CT ok E F' as' r Q := by
  cases r with
  | ok a s => exact fun F2 as2 σ2 H2 o e2 n => h F2 as2 σ2 H2 o (e.trans e2) n
  | err x s => exact fun c dx F2 as2 σ2 H2 o e2 n q => h c dx F2 as2 σ2 H2 o (e.trans e2) n q
  | stuck => exact h
theorem Out.imp {α : Type} {ok ok' : Sto → Prop} {r : R α} {Q Q' : α → PS → Hp → List Addr → Sto → Hp → Prop} (h : Out K CT ok E F as r Q) (ho : ∀ σ, ok' σ → ok σ)
    (hq : ∀ a s F' as' σ' H', r = .ok a s → ok' σ' → Ext F as F' as' → Env K CT F' as' H' σ' s → Q a s F' as' σ' H' → Q' a s F' as' σ' H') : Out K CT ok' E F as r Q' := by
  cases r with
  | ok a s => exact fun F2 as2 σ2 H2 o e2 n => hq a s F2 as2 σ2 H2 rfl o e2 n (h F2 as2 σ2 H2 (ho _ o) e2 n)
  | err x s => exact fun c dx F2 as2 σ2 H2 o e2 n q => h c dx F2 as2 σ2 H2 (ho _ o) e2 n q
  | stuck => exact h
/-- a part's outcome ahead of the rest -/
theorem Out.bind {α β : Type} {ok ok' : Sto → Prop} {r : R α} {f : α → PS → R β} {Q : β → PS → Hp → List Addr → Sto → Hp → Prop} (h : Out K CT ok' E F as (r.bind f) Q) (ho : ∀ σ, ok σ → ok' σ) :
    Out K CT ok E F as r fun a s F' as' _ _ => Out K CT ok' E F' as' (f a s) Q := by
  cases r with
  | ok a s => exact fun F2 as2 σ2 H2 o e2 n => Out.ext e2 h
  | err x s => exact fun c dx F2 as2 σ2 H2 o e2 n q => h c dx F2 as2 σ2 H2 (ho _ o) e2 n q
  | stuck => exact h
/-- at a value -/
theorem Out.here {α : Type} {ok : Sto → Prop} {a : α} {Q : α → PS → Hp → List Addr → Sto → Hp → Prop} (h : Out K CT ok E F as (.ok a s) Q) (o : ok σ) (n : Env K CT F as H σ s) : Q a s F as σ H := h F as σ H o .refl n
theorem Out.there {α : Type} {ok : Sto → Prop} {a : α} {Q : α → PS → Hp → List Addr → Sto → Hp → Prop} (h : Out K CT ok E F as (.ok a s) Q) (o : ok σ) (e : Ext F as F' as') (n : Env K CT F' as' H σ s) : Q a s F' as' σ H := h F' as' σ H o e n
/-! ### states -/
theorem Env.live (n : Env K CT F as H σ s) {a : Addr} (h : a ∈ as) : H a ≠ none := n.wk.live a h
theorem Env.free (n : Env K CT F as H σ s) {p : Addr} (h : H p = none) : F p = none ∧ p ∉ as := by
  refine ⟨?_, fun m => n.live m h⟩
  cases e : F p with
  | none => rfl
  | some o =>
    have := n.sub p o e
    rw [h] at this
    cases this
theorem CellOk.mono {a : Addr} {c : Cell} (e : Ext F as F' as') (h : CellOk K CT F as H a c) (hf : F' a = none) (hh : H' a = H a) : CellOk K CT F' as' H' a c := by
  cases c with
  | lst xs =>
    obtain ⟨_, vs, h1, h2⟩ := h
    exact ⟨hf, vs, hh.trans h1, Reps.mono K CT e.1 _ _ h2⟩
  | dic kvs =>
    obtain ⟨_, vs, h1, h2⟩ := h
    exact ⟨hf, vs, hh.trans h1, RepK.mono K CT e.1 _ _ h2⟩
  | dit kvs =>
    obtain ⟨_, vs, h1, h2⟩ := h
    exact ⟨hf, vs, hh.trans h1, RepT.mono K CT e.1 _ _ h2⟩
  | ins c fs =>
    obtain ⟨_, dx, vs, h1, h2⟩ := h
    exact ⟨hf, dx, vs, hh.trans h1, h2.mono e⟩
  | gone => trivial
  | lsv xs =>
    obtain ⟨_, vs, h1, h2⟩ := h
    exact ⟨hf, vs, hh.trans h1, h2.mono e⟩
theorem CellOk.none {a : Addr} {c : Cell} (h : CellOk K CT F as H a c) : c = .gone ∨ F a = none := by
  cases c with
  | lst xs => exact .inr h.1
  | dic kvs => exact .inr h.1
  | dit kvs => exact .inr h.1
  | ins c fs => exact .inr h.1
  | gone => exact .inl rfl
  | lsv xs => exact .inr h.1
/-- a new frozen object at p -/
theorem Env.new (n : Env K CT F as H σ s) {p : Addr} (o : HO) (hp : H p = none) (no : ∀ ps, o ≠ .tbl ps := by intro _ z; cases z) : Ext F as (upd F p o) as ∧ Env K CT (upd F p o) as (upd H p o) σ s := by
  obtain ⟨fp, pa⟩ := n.free hp
  have e : Ext F as (upd F p o) as := Ext.sub (Sub.new fp)
  refine ⟨e, ⟨fun a u h => ?_, ⟨n.wk.len, n.wk.nd, n.wk.tb.new hp no, fun a m => ?_, fun k c a h1 h2 => ?_⟩, n.gl, fun i x h => ?_⟩⟩
  · by_cases ha : a = p
    · subst ha
      rw [upd_same] at h ⊢
      exact h
    · rw [upd_ne ha] at h ⊢
      exact n.sub a u h
  · have ha : a ≠ p := fun z => pa (z ▸ m)
    rw [upd_ne ha]
    exact n.live m
  · have ha : a ≠ p := fun z => pa (z ▸ List.mem_of_getElem? h2)
    have q := n.wk.ok k c a h1 h2
    rcases q.none with z | z
    · subst z; trivial
    · exact q.mono e (by rw [upd_ne ha]; exact z) (upd_ne ha)
  · obtain ⟨v, h1, h2⟩ := n.sl i x h
    exact ⟨v, h1, h2.mono e⟩
/-- a tuple that stands is frozen -/
theorem Env.learn (n : Env K CT F as H σ s) {q : Addr} {vs : List V} (h : H q = some (.tup vs)) : ∃ F', Ext F as F' as ∧ Env K CT F' as H σ s ∧ F' q = some (.tup vs) := by
  cases e : F q with
  | some u =>
    have z := n.sub q u e
    rw [h] at z
    cases z
    exact ⟨F, .refl, n, e⟩
  | none =>
    have x : Ext F as (upd F q (.tup vs)) as := Ext.sub (Sub.new e)
    refine ⟨_, x, ⟨fun a u h' => ?_, ⟨n.wk.len, n.wk.nd, n.wk.tb.frz noTab_tup.1, n.wk.live, fun k c a h1 h2 => ?_⟩, n.gl, fun i y hy => ?_⟩, upd_same⟩
    · by_cases ha : a = q
      · subst ha
        rw [upd_same] at h'
        rw [h]
        exact h'
      · rw [upd_ne ha] at h'
        exact n.sub a u h'
    · have z := n.wk.ok k c a h1 h2
      cases c with
      | gone => trivial
      | lst xs =>
        refine z.mono x ?_ rfl
        rw [upd_ne (fun e2 => by subst e2; obtain ⟨_, vs', h3, _⟩ := z; rw [h] at h3; cases h3)]
        exact z.1
      | dic xs =>
        refine z.mono x ?_ rfl
        rw [upd_ne (fun e2 => by subst e2; obtain ⟨_, vs', h3, _⟩ := z; rw [h] at h3; cases h3)]
        exact z.1
      | dit xs =>
        refine z.mono x ?_ rfl
        rw [upd_ne (fun e2 => by subst e2; obtain ⟨_, vs', h3, _⟩ := z; rw [h] at h3; cases h3)]
        exact z.1
      | ins c fs =>
        refine z.mono x ?_ rfl
        rw [upd_ne (fun e2 => by subst e2; obtain ⟨_, dx, vs', h3, _⟩ := z; rw [h] at h3; cases h3)]
        exact z.1
      | lsv xs =>
        refine z.mono x ?_ rfl
        rw [upd_ne (fun e2 => by subst e2; obtain ⟨_, vs', h3, _⟩ := z; rw [h] at h3; cases h3)]
        exact z.1
    · obtain ⟨v, h1, h2⟩ := n.sl i y hy
      exact ⟨v, h1, h2.mono x⟩
theorem reps_keyi : ∀ k : List Key, (k.map keyD).all intD = true → Reps K CT F (k.map kV) (k.map keyD)
  | [], _ => .nil
  | .inl i :: k, h => by
    rw [List.map_cons, List.all_cons, Bool.and_eq_true] at h
    exact .cons (.int i) (reps_keyi k h.2)
  | .inr x :: k, h => by
    rw [List.map_cons, List.all_cons, Bool.and_eq_true] at h
    have hx : (decide (x.length ≤ sizeLine) && PyData.strOk x) = true := h.1
    rw [Bool.and_eq_true, decide_eq_true_iff] at hx
    exact .cons (.str x hx.1 hx.2) (reps_keyi k h.2)
theorem RepT.len : ∀ {vs : List (List Key × V)} {ds : List (List D × D)}, RepT K CT F vs ds → vs.length = ds.length
  | _, [], r => by cases r; rfl
  | _, _ :: ds, r => by
    cases r with
    | cons r1 r2 => rw [List.length_cons, List.length_cons, RepT.len r2]
theorem RepT.get : ∀ {ds : List (List D × D)} {vs : List (List Key × V)} {i : Nat} {p : List D × D}, RepT K CT F vs ds → ds[i]? = some p → ∃ k w, vs[i]? = some (k, w) ∧ p.1 = k.map keyD ∧ Rep K CT F w p.2
  | [], _, _, _, _, e => by simp at e
  | _ :: _, _, 0, p, h, e => by
    cases h with
    | cons h1 h2 =>
      simp at e
      subst e
      exact ⟨_, _, rfl, rfl, h1⟩
  | _ :: ds, _, i + 1, p, h, e => by
    cases h with
    | cons h1 h2 =>
      obtain ⟨k, w, e1, r⟩ := RepT.get (i := i) h2 (by simpa using e)
      exact ⟨k, w, by simpa using e1, r⟩
/-- a new cell at p -/
theorem Env.newC (n : Env K CT F as H σ s) {p : Addr} {vs : List V} {xs : List D} (hp : H p = none) (r : Reps K CT F vs xs) :
    Ext F as F (as ++ [p]) ∧ Env K CT F (as ++ [p]) (upd H p (.lst vs)) σ { s with w := s.w ++ [.lst xs] } := by
  obtain ⟨fp, pa⟩ := n.free hp
  have e : Ext F as F (as ++ [p]) := ⟨Sub.refl F, [p], rfl⟩
  refine ⟨e, ⟨fun a u h => ?_, ⟨by simp [n.wk.len], List.nodup_append.mpr ⟨n.wk.nd, by simp, fun a m b mb => ?_⟩, n.wk.tb.newC hp noTab_lst.1, fun a m => ?_, fun k c a h1 h2 => ?_⟩, n.gl, fun i x h => ?_⟩⟩
  · have ha : a ≠ p := fun z => by rw [z, fp] at h; cases h
    rw [upd_ne ha]
    exact n.sub a u h
  · rw [List.mem_singleton] at mb
    subst mb
    exact fun z => pa (z ▸ m)
  · by_cases ha : a = p
    · rw [ha, upd_same]; simp
    · rw [upd_ne ha]
      rcases List.mem_append.mp m with m | m
      · exact n.live m
      · exact absurd (List.mem_singleton.mp m) ha
  · have h1 : (s.w ++ [Cell.lst xs])[k]? = some c := h1
    by_cases hk : k < as.length
    · rw [List.getElem?_append_left hk] at h2
      rw [List.getElem?_append_left (by rw [n.wk.len]; exact hk)] at h1
      have ha : a ≠ p := fun z => pa (z ▸ List.mem_of_getElem? h2)
      have q := n.wk.ok k c a h1 h2
      rcases q.none with z | z
      · subst z; trivial
      · exact q.mono e z (upd_ne ha)
    · rw [List.getElem?_append_right (by omega)] at h2
      rw [List.getElem?_append_right (by rw [n.wk.len]; omega)] at h1
      rw [n.wk.len] at h1
      cases j : k - as.length with
      | zero =>
        rw [j] at h1 h2
        simp at h1 h2
        subst h1 h2
        exact ⟨fp, vs, upd_same, r⟩
      | succ m => rw [j] at h2; simp at h2
  · obtain ⟨v, h1, h2⟩ := n.sl i x h
    exact ⟨v, h1, h2.mono e⟩
theorem nodup_at {as : List Addr} (nd : as.Nodup) {j k : Nat} {a : Addr} (h1 : as[j]? = some a) (h2 : as[k]? = some a) : j = k := by
  obtain ⟨l1, e1⟩ := List.getElem?_eq_some_iff.mp h1
  obtain ⟨l2, e2⟩ := List.getElem?_eq_some_iff.mp h2
  exact (List.getElem_inj nd).mp (e1.trans e2.symm)
/-- the list of the cell k -/
theorem Env.cell (n : Env K CT F as H σ s) {k : Nat} {xs : List D} (h : s.w[k]? = some (.lst xs)) : ∃ a vs, as[k]? = some a ∧ F a = none ∧ H a = some (.lst vs) ∧ Reps K CT F vs xs := by
  have hk : k < as.length := by
    rw [← n.wk.len]
    exact (List.getElem?_eq_some_iff.mp h).1
  obtain ⟨h1, vs, h2, h3⟩ := n.wk.ok k _ _ h (List.getElem?_eq_getElem hk)
  exact ⟨_, vs, List.getElem?_eq_getElem hk, h1, h2, h3⟩
/-- the cell k is changed -/
theorem Env.setC (n : Env K CT F as H σ s) {k : Nat} {a : Addr} {xs : List D} {ws : List V} {ys : List D} (h : s.w[k]? = some (.lst xs)) (ha : as[k]? = some a) (hf : F a = none) (r : Reps K CT F ws ys) :
    Env K CT F as (upd H a (.lst ws)) σ { s with w := s.w.set k (.lst ys) } := by
  obtain ⟨a', vs', ha', _, hh', _⟩ := n.cell h
  rw [ha] at ha'
  cases ha'
  refine ⟨fun b u hb => ?_, ⟨by simp [n.wk.len], n.wk.nd, n.wk.tb.set hh' noTab_lst noTab_lst.1, fun b m => ?_, fun j c b h1 h2 => ?_⟩, n.gl, n.sl⟩
  · have hab : b ≠ a := fun z => by rw [z, hf] at hb; cases hb
    rw [upd_ne hab]
    exact n.sub b u hb
  · by_cases hb : b = a
    · rw [hb, upd_same]; simp
    · rw [upd_ne hb]
      exact n.live m
  · have h1 : (s.w.set k (Cell.lst ys))[j]? = some c := h1
    by_cases hj : j = k
    · subst hj
      rw [List.getElem?_set_self (by rw [n.wk.len]; exact (List.getElem?_eq_some_iff.mp h2).1)] at h1
      cases h1
      rw [ha] at h2
      cases h2
      exact ⟨hf, ws, upd_same, r⟩
    · rw [List.getElem?_set_ne (Ne.symm hj)] at h1
      have hb : b ≠ a := fun z => hj (nodup_at n.wk.nd (z ▸ h2) ha)
      have q := n.wk.ok j c b h1 h2
      rcases q.none with z | z
      · subst z; trivial
      · exact q.mono .refl z (upd_ne hb)
theorem subG_get {g : List (Option SV)} {k i : Nat} {y : D} {x : SV} (h : (g.map (subG k y))[i]? = some (some x)) : (g[i]? = some (some (.cell k)) ∧ x = .d y) ∨ (g[i]? = some (some x)) := by
  rw [List.getElem?_map] at h
  cases e : g[i]? with
  | none => rw [e] at h; cases h
  | some o =>
    rw [e] at h
    simp only [Option.map_some, Option.some.injEq] at h
    cases o with
    | none => cases h
    | some z =>
      cases z with
      | d w =>
        have h : some (SV.d w) = some x := h
        cases h
        exact .inr rfl
      | cell j =>
        have h : (if j = k then some (SV.d y) else some (SV.cell j)) = some x := h
        by_cases hj : j = k
        · rw [if_pos hj] at h
          cases h
          exact .inl ⟨by rw [hj], rfl⟩
        · rw [if_neg hj] at h
          cases h
          exact .inr rfl
/-- the cell k is frozen -/
theorem Env.freeze (n : Env K CT F as H σ s) {k : Nat} {xs : List D} (h : s.w[k]? = some (.lst xs)) :
    ∃ a F', as[k]? = some a ∧ Ext F as F' as ∧ Rep K CT F' (.ref a) (.lst xs) ∧ Env K CT F' as H σ { g := s.g.map (subG k (.lst xs)), w := s.w.set k .gone } := by
  obtain ⟨a, vs, ha, hf, hh, r⟩ := n.cell h
  have e : Ext F as (upd F a (.lst vs)) as := Ext.sub (Sub.new hf)
  have q : Rep K CT (upd F a (.lst vs)) (.ref a) (.lst xs) := .lst upd_same (Reps.mono K CT e.1 _ _ r)
  refine ⟨a, _, ha, e, q, ⟨fun b u hb => ?_, ⟨by simp [n.wk.len], n.wk.nd, n.wk.tb.frz noTab_lst.1, n.wk.live, fun j c b h1 h2 => ?_⟩, by simp [n.gl], fun i x hx => ?_⟩⟩
  · by_cases hba : b = a
    · subst hba
      rw [upd_same] at hb
      rw [hh]
      exact hb
    · rw [upd_ne hba] at hb
      exact n.sub b u hb
  · have h1 : (s.w.set k Cell.gone)[j]? = some c := h1
    by_cases hj : j = k
    · subst hj
      rw [List.getElem?_set_self (by rw [n.wk.len]; exact (List.getElem?_eq_some_iff.mp h2).1)] at h1
      cases h1
      trivial
    · rw [List.getElem?_set_ne (Ne.symm hj)] at h1
      have hb : b ≠ a := fun z => hj (nodup_at n.wk.nd (z ▸ h2) ha)
      have q := n.wk.ok j c b h1 h2
      rcases q.none with z | z
      · subst z; trivial
      · exact q.mono e (by rw [upd_ne hb]; exact z) rfl
  · rcases subG_get hx with ⟨h1, rfl⟩ | h1
    · obtain ⟨v, h2, b, h3, h4⟩ := n.sl i _ h1
      rw [ha] at h3
      cases h3
      subst h4
      exact ⟨_, h2, q⟩
    · obtain ⟨v, h2, h3⟩ := n.sl i _ h1
      exact ⟨v, h2, h3.mono e⟩
/-- the list of the cell k -/
theorem Env.cellT (n : Env K CT F as H σ s) {k : Nat} {xs : List (List D × D)} (h : s.w[k]? = some (.dit xs)) : ∃ a vs, as[k]? = some a ∧ F a = none ∧ H a = some (.dT vs) ∧ RepT K CT F vs xs := by
  have hk : k < as.length := by
    rw [← n.wk.len]
    exact (List.getElem?_eq_some_iff.mp h).1
  obtain ⟨h1, vs, h2, h3⟩ := n.wk.ok k _ _ h (List.getElem?_eq_getElem hk)
  exact ⟨_, vs, List.getElem?_eq_getElem hk, h1, h2, h3⟩
/-- the cell k is frozen -/
theorem Env.freezeT (n : Env K CT F as H σ s) {k : Nat} {xs : List (List D × D)} (h : s.w[k]? = some (.dit xs)) :
    ∃ a F', as[k]? = some a ∧ Ext F as F' as ∧ Rep K CT F' (.ref a) (.dit xs) ∧ Env K CT F' as H σ { g := s.g.map (subG k (.dit xs)), w := s.w.set k .gone } := by
  obtain ⟨a, vs, ha, hf, hh, r⟩ := n.cellT h
  have e : Ext F as (upd F a (.dT vs)) as := Ext.sub (Sub.new hf)
  have q : Rep K CT (upd F a (.dT vs)) (.ref a) (.dit xs) := .dT upd_same (RepT.mono K CT e.1 _ _ r)
  refine ⟨a, _, ha, e, q, ⟨fun b u hb => ?_, ⟨by simp [n.wk.len], n.wk.nd, n.wk.tb.frz noTab_dT.1, n.wk.live, fun j c b h1 h2 => ?_⟩, by simp [n.gl], fun i x hx => ?_⟩⟩
  · by_cases hba : b = a
    · subst hba
      rw [upd_same] at hb
      rw [hh]
      exact hb
    · rw [upd_ne hba] at hb
      exact n.sub b u hb
  · have h1 : (s.w.set k Cell.gone)[j]? = some c := h1
    by_cases hj : j = k
    · subst hj
      rw [List.getElem?_set_self (by rw [n.wk.len]; exact (List.getElem?_eq_some_iff.mp h2).1)] at h1
      cases h1
      trivial
    · rw [List.getElem?_set_ne (Ne.symm hj)] at h1
      have hb : b ≠ a := fun z => hj (nodup_at n.wk.nd (z ▸ h2) ha)
      have q := n.wk.ok j c b h1 h2
      rcases q.none with z | z
      · subst z; trivial
      · exact q.mono e (by rw [upd_ne hb]; exact z) rfl
  · rcases subG_get hx with ⟨h1, rfl⟩ | h1
    · obtain ⟨v, h2, b, h3, h4⟩ := n.sl i _ h1
      rw [ha] at h3
      cases h3
      subst h4
      exact ⟨_, h2, q⟩
    · obtain ⟨v, h2, h3⟩ := n.sl i _ h1
      exact ⟨v, h2, h3.mono e⟩
/-- what stands as data behind frz -/
theorem Env.frz (n : Env K CT F as H σ s) (r : RepS K CT F as v x) {y : D} {s' : PS} (h : frz s x = some (y, s')) : ∃ F', Ext F as F' as ∧ Rep K CT F' v y ∧ Env K CT F' as H σ s' := by
  cases x with
  | d z =>
    simp only [Bf.frz, Option.some.injEq, Prod.mk.injEq] at h
    obtain ⟨rfl, rfl⟩ := h
    exact ⟨F, .refl, r, n⟩
  | cell k =>
    obtain ⟨a, ha, rfl⟩ := r
    unfold Bf.frz at h
    cases e : s.w[k]? with
    | none => simp only [e] at h; cases h
    | some c =>
      cases c with
      | lst xs =>
        simp only [e, Option.some.injEq, Prod.mk.injEq] at h
        obtain ⟨rfl, rfl⟩ := h
        obtain ⟨b, F', h1, h2, h3, h4⟩ := n.freeze e
        rw [ha] at h1
        cases h1
        exact ⟨F', h2, h3, h4⟩
      | dic kvs => simp only [e] at h; cases h
      | dit xs =>
        simp only [e, Option.some.injEq, Prod.mk.injEq] at h
        obtain ⟨rfl, rfl⟩ := h
        obtain ⟨b, F', h1, h2, h3, h4⟩ := n.freezeT e
        rw [ha] at h1
        cases h1
        exact ⟨F', h2, h3, h4⟩
      | ins c fs => simp only [e] at h; cases h
      | gone => simp only [e] at h; cases h
      | lsv xs => simp only [e] at h; cases h
theorem Env.frzs : ∀ {xs : List SV} {vs : List V} {F : Hp} {s : PS}, Env K CT F as H σ s → RepSs K CT F as vs xs → ∀ {ys : List D} {s' : PS}, frzs s xs = some (ys, s') → ∃ F', Ext F as F' as ∧ Reps K CT F' vs ys ∧ Env K CT F' as H σ s'
  | [], _, F, s, n, r, ys, s', h => by
    cases r
    simp only [Bf.frzs, Option.some.injEq, Prod.mk.injEq] at h
    obtain ⟨rfl, rfl⟩ := h
    exact ⟨F, .refl, .nil, n⟩
  | x :: xs, _, F, s, n, r, ys, s', h => by
    cases r with
    | cons r1 r2 =>
      unfold Bf.frzs at h
      cases e : Bf.frz s x with
      | none => simp only [e] at h; cases h
      | some p =>
        obtain ⟨y, s1⟩ := p
        simp only [e] at h
        obtain ⟨F1, e1, q1, n1⟩ := n.frz r1 e
        cases e2 : Bf.frzs s1 xs with
        | none => simp only [e2] at h; cases h
        | some p =>
          obtain ⟨zs, s2⟩ := p
          simp only [e2, Option.some.injEq, Prod.mk.injEq] at h
          obtain ⟨rfl, rfl⟩ := h
          obtain ⟨F2, e3, q2, n2⟩ := Env.frzs n1 (r2.mono e1) e2
          exact ⟨F2, e1.trans e3, .cons (Rep.mono K CT e3.1 _ _ q1) q2, n2⟩
theorem frzs_length : ∀ {xs : List SV} {s : PS} {ys : List D} {s' : PS}, frzs s xs = some (ys, s') → ys.length = xs.length
  | [], s, ys, s', h => by
    simp only [frzs, Option.some.injEq, Prod.mk.injEq] at h
    obtain ⟨rfl, rfl⟩ := h
    rfl
  | x :: xs, s, ys, s', h => by
    unfold frzs at h
    cases e : frz s x with
    | none => simp only [e] at h; cases h
    | some p =>
      obtain ⟨y, s1⟩ := p
      simp only [e] at h
      cases e2 : frzs s1 xs with
      | none => simp only [e2] at h; cases h
      | some p =>
        obtain ⟨zs, s2⟩ := p
        simp only [e2, Option.some.injEq, Prod.mk.injEq] at h
        obtain ⟨rfl, rfl⟩ := h
        simp [frzs_length e2]
/-! ### what may be read -/
/-- v is the data d: frozen, or a cell's list of frozen things -/
inductive Rdb (K : PySem.W.Frag) (CT : Ctx) (F H : Hp) : V → D → Prop
  | rep {v : V} {d : D} (h : Rep K CT F v d) : Rdb K CT F H v d
  | lst {a : Addr} {vs : List V} {ds : List D} (h1 : H a = some (.lst vs)) (h2 : Reps K CT F vs ds) : Rdb K CT F H (.ref a) (.lst ds)
  | dic {a : Addr} {vs : List (Key × V)} {ds : List (D × D)} (h1 : H a = some (.dK vs)) (h2 : RepK K CT F vs ds) : Rdb K CT F H (.ref a) (.dic ds)
  | dit {a : Addr} {vs : List (List Key × V)} {ds : List (List D × D)} (h1 : H a = some (.dT vs)) (h2 : RepT K CT F vs ds) : Rdb K CT F H (.ref a) (.dit ds)
theorem Env.rd (n : Env K CT F as H σ s) (r : RepS K CT F as v x) {y : D} (h : rd s x = some y) : Rdb K CT F H v y := by
  cases x with
  | d z =>
    simp only [Bf.rd, Option.some.injEq] at h
    subst h
    exact .rep r
  | cell k =>
    obtain ⟨a, ha, rfl⟩ := r
    unfold Bf.rd at h
    cases e : s.w[k]? with
    | none => simp only [e] at h; cases h
    | some c =>
      have q := n.wk.ok k c a e ha
      cases c with
      | lst xs =>
        simp only [e, Option.some.injEq] at h
        subst h
        obtain ⟨_, vs, h1, h2⟩ := q
        exact .lst h1 h2
      | dic kvs =>
        simp only [e, Option.some.injEq] at h
        subst h
        obtain ⟨_, vs, h1, h2⟩ := q
        exact .dic h1 h2
      | dit kvs =>
        simp only [e, Option.some.injEq] at h
        subst h
        obtain ⟨_, vs, h1, h2⟩ := q
        exact .dit h1 h2
      | ins c fs => simp only [e] at h; cases h
      | gone => simp only [e] at h; cases h
      | lsv xs => simp only [e] at h; cases h
theorem Rdb.lst' (S : Sub F H) {ds : List D} (h : Rdb K CT F H v (.lst ds)) : ∃ a vs, v = .ref a ∧ H a = some (.lst vs) ∧ Reps K CT F vs ds := by
  cases h with
  | rep h =>
    cases h with
    | lst h1 h2 => exact ⟨_, _, rfl, S _ _ h1, h2⟩
  | lst h1 h2 => exact ⟨_, _, rfl, h1, h2⟩
theorem Rdb.scr' (S : Sub F H) {ns : List Int} (h : Rdb K CT F H v (.scr ns)) : ∃ a, v = .ref a ∧ SqL K H a (ns.map V.int) := by
  cases h with
  | rep h =>
    cases h with
    | scr h1 => exact ⟨_, rfl, S.sqL K h1⟩
theorem Rdb.tup' (S : Sub F H) {ds : List D} (h : Rdb K CT F H v (.tup ds)) : ∃ a vs, v = .ref a ∧ SqT K H a vs ∧ Reps K CT F vs ds := by
  cases h with
  | rep h =>
    cases h with
    | tup h1 h2 => exact ⟨_, _, rfl, SqT.of (S _ _ h1), h2⟩
theorem Rdb.int' {i : Int} (h : Rdb K CT F H v (.int i)) : v = .int i := by
  cases h with
  | rep h => cases h; rfl
theorem Rdb.bl' {b : Bool} (h : Rdb K CT F H v (.bl b)) : v = .bl b := by
  cases h with
  | rep h => cases h; rfl
theorem Rdb.non' (h : Rdb K CT F H v .non) : v = .non := by
  cases h with
  | rep h => cases h; rfl
theorem Rdb.str' {y : Str} (h : Rdb K CT F H v (.str y)) : v = .str y ∧ y.length ≤ sizeLine ∧ PyData.strOk y = true := by
  cases h with
  | rep h =>
    cases h with
    | str _ h1 h2 => exact ⟨rfl, h1, h2⟩
theorem Dp.sub {F H : Hp} (S : Sub F H) : ∀ (d : PyData) (v : V), Dp K F v d → Dp K H v d := by
  intro d v h
  exact Dp.rec (motive_1 := fun v d _ => Dp K H v d) (motive_2 := fun vs ds _ => DpAll K H vs ds) .non (fun b => .bl b) (fun i => .int i) (fun x => .str x)
    (fun h1 _ q => .lst (S.sqL K h1) q) (fun h1 _ q => .tup (S.sqT K h1) q) .nil (fun _ _ q1 q2 => .cons q1 q2) h
theorem DpAll.sub {F H : Hp} (S : Sub F H) : ∀ (ds : List PyData) (vs : List V), DpAll K F vs ds → DpAll K H vs ds := by
  intro d v h
  exact DpAll.rec (motive_1 := fun v d _ => Dp K H v d) (motive_2 := fun vs ds _ => DpAll K H vs ds) .non (fun b => .bl b) (fun i => .int i) (fun x => .str x)
    (fun h1 _ q => .lst (S.sqL K h1) q) (fun h1 _ q => .tup (S.sqT K h1) q) .nil (fun _ _ q1 q2 => .cons q1 q2) h
theorem Rdb.dp (S : Sub F H) {d : D} (p : d.plain = true) (h : Rdb K CT F H v d) : Dp K H v d.py ∧ PyData.canLay0 d.py = true := by
  cases h with
  | rep h =>
    obtain ⟨a, b⟩ := Rep.dp d v p h
    exact ⟨Dp.sub S _ _ a, b⟩
  | lst h1 h2 =>
    obtain ⟨a, b⟩ := Reps.dp _ _ (by rw [D.plain] at p; exact p) h2
    exact ⟨.lst (SqL.of h1) (DpAll.sub S _ _ a), by rw [D.py, PyData.canLay0]; exact b⟩
  | dic => rw [D.plain] at p; cases p
  | dit => rw [D.plain] at p; cases p
end
end Bf
/-! The mirror layer: operations on data, over the layer's rules. -/
namespace Bf
open PySem PySem.Spec PyProof.Rows L2
theorem opr_imp {X : Cx} {f : Value → Value → Sem Value} {r r' : R2} (h : OpR X f r) (hr : ∀ x y H Q, r' x y H Q → r x y H Q) : OpR X f r' := by
  intro pins s σ H x y v u Q I rx ry q
  exact h pins s σ H x y v u Q I rx ry (hr x y H Q q)
theorem callr_imp {X : Cx} {f : Value} {r r' : List V → Hp → VK → Prop} (h : CallR X f r) (hr : ∀ xs H Q, r' xs H Q → r xs H Q) : CallR X f r' := by
  intro pins s σ H xs us Q I rx q
  exact h pins s σ H xs us Q I rx (hr xs H Q q)
section
variable (K : PySem.W.Frag) (CT : Ctx)
/-- what is known behind an operation that makes the data z -/
def Fin (F : Hp) (as : List Addr) (σ : Sto) (S : PS) (z : D) (Q : VK) : Prop := ∀ v F' H', Ext F as F' as → Env K CT F' as H' σ S → Rep K CT F' v z → Q v H'
/-- .. that makes a new list -/
def FinL (F H : Hp) (zs : List D) (Q : VK) : Prop := ∀ p vs, H p = none → Reps K CT F vs zs → Q (.ref p) (upd H p (.lst vs))
def rD (g : D → D → Option D) : R2 := fun vx vy H Q => ∃ F as σ S x y z, Env K CT F as H σ S ∧ Rdb K CT F H vx x ∧ Rdb K CT F H vy y ∧ g x y = some z ∧ Fin K CT F as σ S z Q
def rU' (g : D → Option D) : V → Hp → VK → Prop := fun vx H Q => ∃ F as σ S x z, Env K CT F as H σ S ∧ Rdb K CT F H vx x ∧ g x = some z ∧ Fin K CT F as σ S z Q
inductive Rdbs (F H : Hp) : List V → List D → Prop
  | nil : Rdbs F H [] []
  | cons {v : V} {d : D} {vs : List V} {ds : List D} (h1 : Rdb K CT F H v d) (h2 : Rdbs F H vs ds) : Rdbs F H (v :: vs) (d :: ds)
def rB (g : List D → Option D) : List V → Hp → VK → Prop := fun vs H Q => ∃ F as σ S ds z, Env K CT F as H σ S ∧ Rdbs K CT F H vs ds ∧ g ds = some z ∧ Fin K CT F as σ S z Q
end
section
variable {K : PySem.W.Frag} {CT : Ctx} {F F' H H' : Hp} {as : List Addr} {σ : Sto} {S : PS} {Q : VK} {x y z : D} {v : V}
theorem Fin.flat (f : Fin K CT F as σ S z Q) (n : Env K CT F as H σ S) (r : Rep K CT F v z) : Q v H := f v F H .refl n r
theorem Fin.list {zs : List D} (f : Fin K CT F as σ S (.lst zs) Q) (n : Env K CT F as H σ S) : FinL K CT F H zs Q := fun p vs hp r => by
  obtain ⟨e, n'⟩ := n.new (.lst vs) hp
  exact f _ _ _ e n' (.lst upd_same (Reps.mono K CT e.1 _ _ r))
theorem Fin.tup {zs : List D} {vs : List V} (f : Fin K CT F as σ S (.tup zs) Q) (n : Env K CT F as H σ S) {p : Addr} (hp : H p = none) (r : Reps K CT F vs zs) : Q (.ref p) (upd H p (.tup vs)) := by
  obtain ⟨e, n'⟩ := n.new (.tup vs) hp
  exact f _ _ _ e n' (.tup upd_same (Reps.mono K CT e.1 _ _ r))
theorem FinL.env {zs : List D} (n : Env K CT F as H σ S) (q : ∀ p, Env K CT F (as ++ [p]) (upd H p (.lst (zs.map fun _ => V.non))) σ S → True) : True := trivial
end
section
variable {X : Cx} {CT : Ctx}
theorem strOk_append {x y : Str} (h1 : PyData.strOk x = true) (h2 : PyData.strOk y = true) : PyData.strOk (x ++ y) = true := by
  unfold PyData.strOk at *
  show (x.cps ++ y.cps).all _ = true
  rw [Array.all_append, h1, h2]
  rfl
theorem opD_add : OpR X (binaryOp .Add) (rD X.K CT addD) := by
  refine opr_imp (L2.OpR.or (L2.OpR.or (L2.OpR.or op_add op_add_ib) op_add_str) (L2.OpR.or op_catA op_cat)) fun vx vy H Q h => ?_
  obtain ⟨F, as, σ, S, x, y, z, n, hx, hy, e, f⟩ := h
  unfold addD at e
  split at e
  · cases e
    obtain rfl := hx.int'
    obtain rfl := hy.int'
    exact .inl (.inl (.inl ⟨_, _, rfl, rfl, f.flat n (.int _)⟩))
  · cases e
    obtain rfl := hx.int'
    obtain rfl := hy.bl'
    exact .inl (.inl (.inr ⟨_, _, rfl, rfl, f.flat n (.int _)⟩))
  · rename_i a b
    split at e
    · rename_i hl
      cases e
      obtain ⟨rfl, _, s1⟩ := hx.str'
      obtain ⟨rfl, _, s2⟩ := hy.str'
      exact .inl (.inr ⟨_, _, rfl, rfl, hl, f.flat n (.str _ (by rw [strLen_append]; exact hl) (strOk_append s1 s2))⟩)
    · cases e
  · rename_i xs ys
    split at e
    · rename_i hl
      cases e
      obtain ⟨a, vs, rfl, q1, r1⟩ := hx.tup' n.sub
      obtain ⟨b, ws, rfl, q2, r2⟩ := hy.tup' n.sub
      refine .inr (.inl ⟨a, b, vs, ws, rfl, rfl, q1, q2, by rw [r1.length, r2.length]; exact hl, fun hv => ?_, fun hv hw => ?_, fun hv hw p hp => ?_⟩)
      · obtain rfl := (r1.nil_iff).mp hv
        cases hy with
        | rep r => exact f.flat n r
      · obtain rfl := (r2.nil_iff).mp hw
        cases hx with
        | rep r => exact f.flat n (by rw [List.append_nil]; exact r)
      · exact f.tup n hp (r1.append r2)
    · cases e
  · rename_i xs ys
    split at e
    · rename_i hl
      cases e
      obtain ⟨a, vs, rfl, q1, r1⟩ := hx.lst' n.sub
      obtain ⟨b, ws, rfl, q2, r2⟩ := hy.lst' n.sub
      exact .inr (.inr ⟨a, b, vs, ws, rfl, rfl, q1, q2, by rw [r1.length, r2.length]; exact hl, fun p hp => f.list n p _ hp (r1.append r2)⟩)
    · cases e
  · cases e
theorem opD_sub : OpR X (binaryOp .Sub) (rD X.K CT subD) := opr_imp op_sub fun vx vy H Q h => by
  obtain ⟨F, as, σ, S, x, y, z, n, hx, hy, e, f⟩ := h
  unfold subD at e
  split at e
  · cases e
    obtain rfl := hx.int'
    obtain rfl := hy.int'
    exact ⟨_, _, rfl, rfl, f.flat n (.int _)⟩
  · cases e
theorem mulOk_ok {i j : Int} (h : mulOk i j = true) : IntMulOk i j := by
  unfold mulOk at h
  rw [Bool.or_eq_true, Bool.or_eq_true] at h
  rcases h with (h | h) | h
  · exact .of_left (intBits_le_64 (by have := of_decide_eq_true h; omega) (by have := of_decide_eq_true h; omega))
  · exact .of_right (intBits_le_64 (by have := of_decide_eq_true h; omega) (by have := of_decide_eq_true h; omega))
  · exact (show CMulW i j from (of_decide_eq_true h : i.natAbs.log2 + j.natAbs.log2 < 1000000)).ok
theorem op_mulA : OpR X (binaryOp .Mult) (rI (fun i j => mulOk i j = true) fun i j => .int (i * j)) := opI fun _ _ _ _ _ _ _ hc q => mul_int q (mulOk_ok hc)
theorem opD_mul : OpR X (binaryOp .Mult) (rD X.K CT mulD) := opr_imp (L2.OpR.or op_mulA op_rep) fun vx vy H Q h => by
  obtain ⟨F, as, σ, S, x, y, z, n, hx, hy, e, f⟩ := h
  unfold mulD at e
  split at e
  · split at e
    · rename_i hm
      cases e
      obtain rfl := hx.int'
      obtain rfl := hy.int'
      exact .inl ⟨_, _, rfl, rfl, hm, f.flat n (.int _)⟩
    · cases e
  · split at e
    · rename_i hm
      cases e
      obtain rfl := hy.int'
      obtain ⟨a, vs, rfl, q1, r1⟩ := hx.lst' n.sub
      exact .inr ⟨a, _, vs, rfl, rfl, q1, hm.1, hm.2.1, by rw [r1.length]; exact hm.2.2, fun p hp => f.list n p _ hp (r1.rep _)⟩
    · cases e
  · cases e
theorem opD_mod : OpR X (binaryOp .Mod) (rD X.K CT modD) := opr_imp op_mod fun vx vy H Q h => by
  obtain ⟨F, as, σ, S, x, y, z, n, hx, hy, e, f⟩ := h
  unfold modD at e
  split at e
  · split at e
    · rename_i hm
      cases e
      obtain rfl := hx.int'
      obtain rfl := hy.int'
      exact ⟨_, _, rfl, rfl, hm, f.flat n (.int _)⟩
    · cases e
  · cases e
theorem opD_div : OpR X (binaryOp .FloorDiv) (rD X.K CT divD) := opr_imp op_fdivW fun vx vy H Q h => by
  obtain ⟨F, as, σ, S, x, y, z, n, hx, hy, e, f⟩ := h
  unfold divD at e
  split at e
  · split at e
    · rename_i hm
      cases e
      obtain rfl := hx.int'
      obtain rfl := hy.int'
      exact ⟨_, _, rfl, rfl, hm, f.flat n (.int _)⟩
    · cases e
  · cases e
theorem op_powA : OpR X (binaryOp .Pow) (rI (fun i j => 0 ≤ j ∧ (Builtin.Int.intBits i : Int) * j ≤ 2 ^ 27) fun i j => .int (i ^ j.toNat)) := opI fun _ _ _ _ _ _ _ hc q => pow_int hc.1 hc.2 q
theorem opD_pow : OpR X (binaryOp .Pow) (rD X.K CT powD) := opr_imp op_powA fun vx vy H Q h => by
  obtain ⟨F, as, σ, S, x, y, z, n, hx, hy, e, f⟩ := h
  unfold powD at e
  split at e
  · split at e
    · rename_i hm
      cases e
      obtain rfl := hx.int'
      obtain rfl := hy.int'
      exact ⟨_, _, rfl, rfl, hm, f.flat n (.int _)⟩
    · cases e
  · cases e
/-! ### comparisons -/
theorem op_eqM (hu : X.A.units + 64 < cLine) : OpR X (compareOp .Eq) (fun x y H Q => ∃ d e, Dp X.K H x d ∧ Dp X.K H y e ∧ PyData.canLay0 d = true ∧ PyData.canLay0 e = true ∧ min d.depth e.depth ≤ 64 ∧ Q (.bl (PyData.eqv d e)) H) := by
  intro pins s σ H x y v u Q I rx ry h
  obtain ⟨d, e, hd, he, sd, se, hm, q⟩ := h
  obtain ⟨as, r1⟩ := Dp.reads I d x v hd rx
  obtain ⟨bs, r2⟩ := Dp.reads I e y u he ry
  exact SeqAt.compareEq_reads r1 r2 sd se (by omega) ⟨.bl _, H, I, rfl, q⟩
theorem op_neM (hu : X.A.units + 64 < cLine) : OpR X (compareOp .NotEq) (fun x y H Q => ∃ d e, Dp X.K H x d ∧ Dp X.K H y e ∧ PyData.canLay0 d = true ∧ PyData.canLay0 e = true ∧ min d.depth e.depth ≤ 64 ∧ Q (.bl (!PyData.eqv d e)) H) := by
  intro pins s σ H x y v u Q I rx ry h
  obtain ⟨d, e, hd, he, sd, se, hm, q⟩ := h
  obtain ⟨as, r1⟩ := Dp.reads I d x v hd rx
  obtain ⟨bs, r2⟩ := Dp.reads I e y u he ry
  exact SeqAt.compareNe_reads r1 r2 sd se (by omega) ⟨.bl _, H, I, rfl, q⟩
theorem opD_eq (hu : X.A.units + 64 < cLine) : OpR X (compareOp .Eq) (rD X.K CT eqD) := opr_imp (op_eqM hu) fun vx vy H Q h => by
  obtain ⟨F, as, σ, S, x, y, z, n, hx, hy, e, f⟩ := h
  unfold eqD at e
  split at e
  · rename_i hc
    rw [Bool.and_eq_true, Bool.and_eq_true] at hc
    cases e
    obtain ⟨a1, a2⟩ := hx.dp n.sub hc.1.1
    obtain ⟨b1, b2⟩ := hy.dp n.sub hc.1.2
    exact ⟨_, _, a1, b1, a2, b2, of_decide_eq_true hc.2, f.flat n (.bl _)⟩
  · cases e
theorem opD_ne (hu : X.A.units + 64 < cLine) : OpR X (compareOp .NotEq) (rD X.K CT neD) := opr_imp (op_neM hu) fun vx vy H Q h => by
  obtain ⟨F, as, σ, S, x, y, z, n, hx, hy, e, f⟩ := h
  unfold neD at e
  split at e
  · rename_i hc
    rw [Bool.and_eq_true, Bool.and_eq_true] at hc
    cases e
    obtain ⟨a1, a2⟩ := hx.dp n.sub hc.1.1
    obtain ⟨b1, b2⟩ := hy.dp n.sub hc.1.2
    exact ⟨_, _, a1, b1, a2, b2, of_decide_eq_true hc.2, f.flat n (.bl _)⟩
  · cases e
theorem opD_lt : OpR X (compareOp .Lt) (rD X.K CT ltD) := opr_imp (L2.OpR.or op_lt op_lt_str) fun vx vy H Q h => by
  obtain ⟨F, as, σ, S, x, y, z, n, hx, hy, e, f⟩ := h
  unfold ltD at e
  split at e
  · cases e
    obtain rfl := hx.int'
    obtain rfl := hy.int'
    exact .inl ⟨_, _, rfl, rfl, f.flat n (.bl _)⟩
  · cases e
    obtain ⟨rfl, _⟩ := hx.str'
    obtain ⟨rfl, _⟩ := hy.str'
    exact .inr ⟨_, _, rfl, rfl, f.flat n (.bl _)⟩
  · cases e
theorem opD_gt : OpR X (compareOp .Gt) (rD X.K CT gtD) := opr_imp (L2.OpR.or op_gt op_gt_str) fun vx vy H Q h => by
  obtain ⟨F, as, σ, S, x, y, z, n, hx, hy, e, f⟩ := h
  unfold gtD ltD at e
  split at e
  · cases e
    obtain rfl := hx.int'
    obtain rfl := hy.int'
    exact .inl ⟨_, _, rfl, rfl, f.flat n (.bl _)⟩
  · cases e
    obtain ⟨rfl, _⟩ := hx.str'
    obtain ⟨rfl, _⟩ := hy.str'
    exact .inr ⟨_, _, rfl, rfl, f.flat n (.bl _)⟩
  · cases e
theorem opD_le : OpR X (compareOp .LtE) (rD X.K CT leD) := opr_imp (L2.OpR.or op_le op_le_str) fun vx vy H Q h => by
  obtain ⟨F, as, σ, S, x, y, z, n, hx, hy, e, f⟩ := h
  unfold leD at e
  split at e
  · cases e
    obtain rfl := hx.int'
    obtain rfl := hy.int'
    exact .inl ⟨_, _, rfl, rfl, f.flat n (.bl _)⟩
  · cases e
    obtain ⟨rfl, _⟩ := hx.str'
    obtain ⟨rfl, _⟩ := hy.str'
    exact .inr ⟨_, _, rfl, rfl, f.flat n (.bl _)⟩
  · cases e
theorem opD_ge : OpR X (compareOp .GtE) (rD X.K CT geD) := opr_imp (L2.OpR.or op_ge op_ge_str) fun vx vy H Q h => by
  obtain ⟨F, as, σ, S, x, y, z, n, hx, hy, e, f⟩ := h
  unfold geD leD at e
  split at e
  · cases e
    obtain rfl := hx.int'
    obtain rfl := hy.int'
    exact .inl ⟨_, _, rfl, rfl, f.flat n (.bl _)⟩
  · cases e
    obtain ⟨rfl, _⟩ := hx.str'
    obtain ⟨rfl, _⟩ := hy.str'
    exact .inr ⟨_, _, rfl, rfl, f.flat n (.bl _)⟩
  · cases e
/-- in -/
def rInM (K : PySem.W.Frag) (g : Bool → Bool) : R2 := fun x y H Q => ∃ d ds, Dp K H x d ∧ (Dp K H y (.list ds) ∨ Dp K H y (.tuple ds)) ∧ PyData.canLay0 d = true ∧ PyData.canLayAll0 ds = true ∧ min (PyData.depthAll ds) d.depth ≤ 64 ∧ Q (.bl (g (ds.any fun z => PyData.eqv z d))) H
theorem op_inM (hu : X.A.units + 65 < cLine) : OpR X (compareOp .In) (rInM X.K id) := by
  intro pins s σ H x y v u Q I rx ry h
  obtain ⟨d, ds, hd, he, sd, se, hm, q⟩ := h
  obtain ⟨as, r1⟩ := Dp.reads I d x v hd rx
  rcases he with he | he
  · obtain ⟨bs, r2⟩ := Dp.reads I (.list ds) y u he ry
    exact SeqAt.in_list_reads r2 r1 se sd (by omega) ⟨.bl _, H, I, rfl, q⟩
  · obtain ⟨bs, r2⟩ := Dp.reads I (.tuple ds) y u he ry
    exact SeqAt.in_tuple_reads r2 r1 se sd (by omega) ⟨.bl _, H, I, rfl, q⟩
theorem op_ninM (hu : X.A.units + 65 < cLine) : OpR X (compareOp .NotIn) (rInM X.K not) := by
  intro pins s σ H x y v u Q I rx ry h
  obtain ⟨d, ds, hd, he, sd, se, hm, q⟩ := h
  obtain ⟨as, r1⟩ := Dp.reads I d x v hd rx
  rcases he with he | he
  · obtain ⟨bs, r2⟩ := Dp.reads I (.list ds) y u he ry
    exact SeqAt.notIn_list_reads r2 r1 se sd (by omega) ⟨.bl _, H, I, rfl, q⟩
  · obtain ⟨bs, r2⟩ := Dp.reads I (.tuple ds) y u he ry
    exact SeqAt.notIn_tuple_reads r2 r1 se sd (by omega) ⟨.bl _, H, I, rfl, q⟩
theorem depth_list (ds : List D) : PyData.depthAll (D.pys ds) ≤ (D.lst ds).py.depth := by
  rw [D.py]
  simp only [PyData.depth]
  omega
theorem depth_tup (ds : List D) : PyData.depthAll (D.pys ds) ≤ (D.tup ds).py.depth := by
  rw [D.py]
  simp only [PyData.depth]
  omega
theorem depth_kup (ds : List D) : PyData.depthAll (D.pys ds) ≤ (D.kup ds).py.depth := by
  rw [D.py]
  simp only [PyData.depth]
  omega
theorem any_pys (ds : List D) (x : D) : ((D.pys ds).any fun z => PyData.eqv z x.py) = ds.any fun z => D.eqv z x := by
  rw [D.pys_map, List.any_map]
  rfl
theorem inB_read {K : PySem.W.Frag} {F H : Hp} {vx vy : V} {x y : D} {b : Bool} {as : List Addr} {σ : Sto} {S : PS} (n : Env K CT F as H σ S) (hx : Rdb K CT F H vx x) (hy : Rdb K CT F H vy y) (e : inB x y = some b) :
    (∃ i j, vx = .str i ∧ vy = .str j ∧ b = !(Builtin.Str.occurrences j i 0 j.length 1).isEmpty) ∨
    (∃ d ds, Dp K H vx d ∧ (Dp K H vy (.list ds) ∨ Dp K H vy (.tuple ds)) ∧ PyData.canLay0 d = true ∧ PyData.canLayAll0 ds = true ∧ min (PyData.depthAll ds) d.depth ≤ 64 ∧ b = ds.any fun z => PyData.eqv z d) := by
  unfold inB at e
  split at e
  · cases e
    obtain ⟨rfl, _⟩ := hx.str'
    obtain ⟨rfl, _⟩ := hy.str'
    exact .inl ⟨_, _, rfl, rfl, rfl⟩
  · rename_i ys
    split at e
    · rename_i hc
      rw [Bool.and_eq_true, Bool.and_eq_true] at hc
      cases e
      obtain ⟨a1, a2⟩ := hx.dp n.sub hc.1.1
      obtain ⟨b1, b2⟩ := hy.dp n.sub (by rw [D.plain]; exact hc.1.2)
      have h3 := of_decide_eq_true hc.2
      have h4 := depth_list ys
      rw [D.py] at b1 b2
      rw [PyData.canLay0] at b2
      exact .inr ⟨_, _, a1, .inl b1, a2, b2, by omega, (any_pys _ _).symm⟩
    · cases e
  · rename_i ys
    split at e
    · rename_i hc
      rw [Bool.and_eq_true, Bool.and_eq_true] at hc
      cases e
      obtain ⟨a1, a2⟩ := hx.dp n.sub hc.1.1
      obtain ⟨b1, b2⟩ := hy.dp n.sub (by rw [D.plain]; exact hc.1.2)
      have h3 := of_decide_eq_true hc.2
      have h4 := depth_tup ys
      rw [D.py] at b1 b2
      rw [PyData.canLay0] at b2
      exact .inr ⟨_, _, a1, .inr b1, a2, b2, by omega, (any_pys _ _).symm⟩
    · cases e
  · rename_i ys
    split at e
    · rename_i hc
      rw [Bool.and_eq_true, Bool.and_eq_true] at hc
      cases e
      obtain ⟨a1, a2⟩ := hx.dp n.sub hc.1.1
      obtain ⟨b1, b2⟩ := hy.dp n.sub (by rw [D.plain]; exact hc.1.2)
      have h3 := of_decide_eq_true hc.2
      have h4 := depth_kup ys
      rw [D.py] at b1 b2
      rw [PyData.canLay0] at b2
      exact .inr ⟨_, _, a1, .inr b1, a2, b2, by omega, (any_pys _ _).symm⟩
    · cases e
  · cases e
theorem opD_in (hu : X.A.units + 65 < cLine) : OpR X (compareOp .In) (rD X.K CT inD) := opr_imp (L2.OpR.or op_in_str (op_inM hu)) fun vx vy H Q h => by
  obtain ⟨F, as, σ, S, x, y, z, n, hx, hy, e, f⟩ := h
  unfold inD at e
  cases q : inB x y with
  | none => rw [q] at e; cases e
  | some b =>
    rw [q] at e
    cases e
    have fb : Q (.bl b) H := f.flat n (.bl _)
    rcases inB_read n hx hy q with ⟨i, j, h1, h2, h3⟩ | ⟨d, ds, h1, h2, h3, h4, h5, h6⟩
    · exact .inl ⟨i, j, h1, h2, by rw [← h3]; exact fb⟩
    · exact .inr ⟨d, ds, h1, h2, h3, h4, h5, by rw [← h6]; exact fb⟩
theorem opD_nin (hu : X.A.units + 65 < cLine) : OpR X (compareOp .NotIn) (rD X.K CT ninD) := opr_imp (L2.OpR.or op_notIn_str (op_ninM hu)) fun vx vy H Q h => by
  obtain ⟨F, as, σ, S, x, y, z, n, hx, hy, e, f⟩ := h
  unfold ninD at e
  cases q : inB x y with
  | none => rw [q] at e; cases e
  | some b =>
    rw [q] at e
    cases e
    have fb : Q (.bl (!b)) H := f.flat n (.bl _)
    rcases inB_read n hx hy q with ⟨i, j, h1, h2, h3⟩ | ⟨d, ds, h1, h2, h3, h4, h5, h6⟩
    · exact .inl ⟨i, j, h1, h2, by rw [← h3]; exact fb⟩
    · exact .inr ⟨d, ds, h1, h2, h3, h4, h5, by rw [← h6]; exact fb⟩
/-! ### subscripts, slices -/
theorem strOk_one {x : Str} {i : Int} {c : Nat} (h : PyData.strOk x = true) (e : atI x.cps.toList i = some c) : PyData.strOk ⟨#[c]⟩ = true := by
  obtain ⟨j, _, hj, _⟩ := atI_get e
  unfold PyData.strOk at *
  rw [Array.all_eq_true] at h
  obtain ⟨hk, e2⟩ := List.getElem?_eq_some_iff.mp hj
  have q := h j (by simpa using hk)
  simp only [Array.getElem_toList] at e2
  rw [e2] at q
  simpa using q
theorem line_one : 1 ≤ sizeLine := by rw [sizeLine_eq]; decide
theorem ixr_imp {r r' : R2} (h : IxR X r) (hr : ∀ x y H Q, r' x y H Q → r x y H Q) : IxR X r' := by
  intro value slice pins s σ H x y v u Q I rx ry q hs
  exact h value slice pins s σ H x y v u Q I rx ry (hr x y H Q q) hs
theorem ixD : IxR X (rD X.K CT idxD) := ixr_imp (ix_seq (X := X)) fun vx vy H Q h => by
  obtain ⟨F, as, σ, S, x, y, z, n, hx, hy, e, f⟩ := h
  unfold idxD at e
  split at e
  · obtain rfl := hy.int'
    obtain ⟨a, rfl, q1⟩ := hx.scr' n.sub
    rename_i ns i
    cases q : atI ns i with
    | none => rw [q] at e; cases e
    | some c =>
      rw [q] at e
      cases e
      refine .inl ⟨a, _, _, .int c, rfl, rfl, q1, ?_, f.flat n (.int c)⟩
      unfold atI at q ⊢
      rw [List.length_map]
      cases q2 : ixN ns.length i with
      | none => rw [q2] at q; cases q
      | some j =>
        rw [q2] at q
        show (ns.map V.int)[j]? = _
        rw [List.getElem?_map]
        have q : ns[j]? = some c := q
        rw [q]
        rfl
  · obtain rfl := hy.int'
    obtain ⟨a, vs, rfl, q1, r1⟩ := hx.lst' n.sub
    obtain ⟨v, e1, r⟩ := r1.at e
    exact .inl ⟨a, vs, _, v, rfl, rfl, SqL.of q1, e1, f.flat n r⟩
  · obtain rfl := hy.int'
    obtain ⟨a, vs, rfl, q1, r1⟩ := hx.tup' n.sub
    obtain ⟨v, e1, r⟩ := r1.at e
    exact .inr (.inl ⟨a, vs, _, v, rfl, rfl, q1, e1, f.flat n r⟩)
  · obtain rfl := hy.int'
    obtain ⟨rfl, hl, so⟩ := hx.str'
    rename_i z' i
    cases q : atI z'.cps.toList i with
    | none => rw [q] at e; cases e
    | some c =>
      rw [q] at e
      cases e
      exact .inr (.inr ⟨_, _, c, rfl, rfl, hl, q, f.flat n (.str _ line_one (strOk_one so q))⟩)
  · cases e
theorem slr_imp {r r' : V → Option Int → Option Int → Hp → VK → Prop} (h : SlR X r) (hr : ∀ x lo hi H Q, r' x lo hi H Q → r x lo hi H Q) : SlR X r' := by
  intro pins s σ H x v vl vu lo hi sl Q I rx hs pl pu q
  exact h pins s σ H x v vl vu lo hi sl Q I rx hs pl pu (hr x lo hi H Q q)
def rS (K : PySem.W.Frag) (CT : Ctx) : V → Option Int → Option Int → Hp → VK → Prop := fun vx lo hi H Q => ∃ F as σ S x z, Env K CT F as H σ S ∧ Rdb K CT F H vx x ∧ slD x lo hi = some z ∧ Fin K CT F as σ S z Q
theorem strOk_cut {z : Str} (h : PyData.strOk z = true) (lo hi : Option Int) : PyData.strOk ⟨(cutD z.cps.toList lo hi).toArray⟩ = true := by
  unfold PyData.strOk at *
  rw [← Array.all_toList, List.all_eq_true] at h ⊢
  intro c hc
  refine h c ?_
  have hc : c ∈ cutD z.cps.toList lo hi := by simpa using hc
  unfold cutD at hc
  exact List.mem_of_mem_drop (List.mem_of_mem_take hc)
theorem cutD_S (z : Str) (lo hi : Option Int) : (⟨(cutD z.cps.toList lo hi).toArray⟩ : Str) = cutS z lo hi := by
  unfold cutD cutS
  have e : z.cps.toList.length = z.length := by simp [Str.length]
  rw [e]
theorem slM : SlR X (rS X.K CT) := slr_imp (SlR.or (sl_list (X := X)) (SlR.or sl_tupA sl_str)) fun vx lo hi H Q h => by
  obtain ⟨F, as, σ, S, x, z, n, hx, e, f⟩ := h
  unfold slD at e
  split at e
  · cases e
    obtain ⟨a, vs, rfl, q1, r1⟩ := hx.lst' n.sub
    exact .inl ⟨a, vs, rfl, SqL.of q1, fun p hp => f.list n p _ hp (r1.cut lo hi)⟩
  · rename_i xs
    cases e
    obtain ⟨a, vs, rfl, q1, r1⟩ := hx.tup' n.sub
    refine .inr (.inl ⟨a, vs, rfl, q1, fun hw => ?_, fun hw p hp => f.tup n hp (r1.cut lo hi)⟩)
    have ec : cutD xs lo hi = xs := by
      unfold cutD
      rw [← r1.length, hw.1, hw.2, List.drop_zero, Nat.sub_zero, r1.length, List.take_length]
    rw [ec] at f
    cases hx with
    | rep r => exact f.flat n r
  · cases e
    obtain ⟨rfl, hl, so⟩ := hx.str'
    rename_i z'
    refine .inr (.inr ⟨_, rfl, hl, ?_⟩)
    have hs := strOk_cut so lo hi
    rw [cutD_S] at f hs
    exact f.flat n (.str _ (Nat.le_trans (cutS_length _ _ _) hl) hs)
  · cases e
end
end Bf
/-! The mirror layer: the judgements' rules: names, operators, tests, displays, statements. -/
namespace Bf
open PySem PySem.Spec PyProof.Rows L2
section
variable {X : Cx} {CT : Ctx} {E : Sto → XK} {F F' : Hp} {as as' : List Addr} {H H' : Hp} {σ : Sto} {s : PS} {ok : Sto → Prop}
theorem up_seq {α : Type} {m : ME} {k : SV → PS → R α} {Q : VK} {Qf : α → PS → Hp → List Addr → Sto → Hp → Prop} (n : Env X.K CT F as H σ s) (h : Out X.K CT ok E F as ((m s).bind k) Qf) (o : ok σ)
    (step : ∀ v x s' F' as' H', Ext F as F' as' → Env X.K CT F' as' H' σ s' → RepS X.K CT F' as' v x → Out X.K CT ok E F' as' (k x s') Qf → Q v H') : up X.K CT E m σ H Q :=
  ⟨F, as, s, n, (h.bind (ok := fun σ' => σ' = σ) fun σ' e => by rw [e]; exact o).imp (fun _ z => z) fun x s' F' as' σ' H' _ e ex n' q v r => by subst e; exact step v x s' F' as' H' ex n' r q⟩
theorem upT_seq {α : Type} {m : MT} {k : Bool → PS → R α} {Q : Bool → Hp → Prop} {Qf : α → PS → Hp → List Addr → Sto → Hp → Prop} (n : Env X.K CT F as H σ s) (h : Out X.K CT ok E F as ((m s).bind k) Qf) (o : ok σ)
    (step : ∀ b s' F' as' H', Ext F as F' as' → Env X.K CT F' as' H' σ s' → Out X.K CT ok E F' as' (k b s') Qf → Q b H') : upT X.K CT E m σ H Q :=
  ⟨F, as, s, n, (h.bind (ok := fun σ' => σ' = σ) fun σ' e => by rw [e]; exact o).imp (fun _ z => z) fun x s' F' as' σ' H' _ e ex n' q => by subst e; exact step x s' F' as' H' ex n' q⟩
theorem upA_seq {α : Type} {m : MA} {k : List SV → PS → R α} {Q : List V → Hp → Prop} {Qf : α → PS → Hp → List Addr → Sto → Hp → Prop} (n : Env X.K CT F as H σ s) (h : Out X.K CT ok E F as ((m s).bind k) Qf) (o : ok σ)
    (step : ∀ vs xs s' F' as' H', Ext F as F' as' → Env X.K CT F' as' H' σ s' → RepSs X.K CT F' as' vs xs → Out X.K CT ok E F' as' (k xs s') Qf → Q vs H') : upA X.K CT E m σ H Q :=
  ⟨F, as, s, n, (h.bind (ok := fun σ' => σ' = σ) fun σ' e => by rw [e]; exact o).imp (fun _ z => z) fun x s' F' as' σ' H' _ e ex n' q v r => by subst e; exact step v x s' F' as' H' ex n' r q⟩
theorem upO_seq {α : Type} {m : MO} {k : Option Int → PS → R α} {Q : Option Int → Hp → Prop} {Qf : α → PS → Hp → List Addr → Sto → Hp → Prop} (n : Env X.K CT F as H σ s) (h : Out X.K CT ok E F as ((m s).bind k) Qf) (o : ok σ)
    (step : ∀ b s' F' as' H', Ext F as F' as' → Env X.K CT F' as' H' σ s' → Out X.K CT ok E F' as' (k b s') Qf → Q b H') : upO X.K CT E m σ H Q :=
  ⟨F, as, s, n, (h.bind (ok := fun σ' => σ' = σ) fun σ' e => by rw [e]; exact o).imp (fun _ z => z) fun x s' F' as' σ' H' _ e ex n' q => by subst e; exact step x s' F' as' H' ex n' q⟩
theorem upI_seq {α : Type} {m : MI} {k : It' → PS → R α} {Q : It → Hp → Prop} {Qf : α → PS → Hp → List Addr → Sto → Hp → Prop} (n : Env X.K CT F as H σ s) (h : Out X.K CT ok E F as ((m s).bind k) Qf) (o : ok σ)
    (step : ∀ J it s' F' as' H', Ext F as F' as' → Env X.K CT F' as' H' σ s' → ItOk X.K CT F' as' J it → Out X.K CT ok E F' as' (k it s') Qf → Q J H') : upI X.K CT E m σ H Q :=
  ⟨F, as, s, n, (h.bind (ok := fun σ' => σ' = σ) fun σ' e => by rw [e]; exact o).imp (fun _ z => z) fun x s' F' as' σ' H' _ e ex n' q v r => by subst e; exact step v x s' F' as' H' ex n' r q⟩
end
theorem PE.imp {X : Cx} {e : Expr} {t t' : TE} (h : PE X e t) (hi : ∀ σ H Q, t' σ H Q → t σ H Q) : PE X e t' := ⟨fun pins s σ H Q I q => h.run pins s σ H Q I (hi σ H Q q)⟩
theorem PT.imp {X : Cx} {e : Expr} {t t' : TT} (h : PT X e t) (hi : ∀ σ H Q, t' σ H Q → t σ H Q) : PT X e t' := ⟨fun pins s σ H Q I q => h.run pins s σ H Q I (hi σ H Q q)⟩
theorem PW.imp {X : Cx} {e : Expr} {t t' : TT} (h : PW X e t) (hi : ∀ σ H Q, t' σ H Q → t σ H Q) : PW X e t' := ⟨fun wh pins s σ H Q I q => h.run wh pins s σ H Q I (hi σ H Q q)⟩
theorem PA.imp {X : Cx} {e : List Expr} {t t' : TA} (h : PA X e t) (hi : ∀ σ H Q, t' σ H Q → t σ H Q) : PA X e t' := ⟨fun pos pins s σ H Q I q => h.run pos pins s σ H Q I (hi σ H Q q)⟩
theorem ps_imp {X : Cx} {e : Stmt} {t t' : TS} (h : L2.PS X e t) (hi : ∀ D σ H, t' D σ H → t D σ H) : L2.PS X e t' := ⟨fun pins s σ H D I q => h.run pins s σ H D I (hi D σ H q)⟩
theorem PSs.imp {X : Cx} {e : List Stmt} {t t' : TS} (h : PSs X e t) (hi : ∀ D σ H, t' D σ H → t D σ H) : PSs X e t' := ⟨fun pins s σ H D I q => h.run pins s σ H D I (hi D σ H q)⟩
theorem PG.imp {X : Cx} {e : Expr} {t t' : TG} (h : PG X e t) (hi : ∀ v σ H Q, t' v σ H Q → t v σ H Q) : PG X e t' := ⟨fun pins s σ H v u Q I r q => h.run pins s σ H v u Q I r (hi v σ H Q q)⟩
theorem PI.imp {X : Cx} {tg e : Expr} {t t' : TI} (h : PI X tg e t) (hi : ∀ σ H Q, t' σ H Q → t σ H Q) : PI X tg e t' := ⟨fun pins s σ H Q I q => h.run pins s σ H Q I (hi σ H Q q)⟩
section
variable {X : Cx} {CT : Ctx} {E : Sto → XK} {a b c : Expr} {ma mb mc : ME} {pos p : Pos}
/-! ### names, constants -/
theorem me_var {i : Nat} {x : Str} (hN : X.N[i]? = some x) (hv : Vis X.env.scope x) (hd : (x == ("__debug__" : Str)) = false := by decide) (hcd : (x == ("__classdict__" : Str)) = false := by decide) : PE X (.Name x p) (up X.K CT E (vVar i)) :=
  PE.imp (pe_var hN hv hd hcd) fun σ H Q ⟨F, as, s, n, h⟩ => by
    unfold vVar at h
    cases e : s.g[i]? with
    | none => simp only [e] at h; exact h.elim
    | some o =>
      cases o with
      | none => simp only [e] at h; exact h.elim
      | some x =>
        simp only [e] at h
        obtain ⟨v, h1, h2⟩ := n.sl i x e
        exact ⟨v, h1, h.here rfl n v h2⟩
theorem me_c {e : Expr} {v : V} {d : D} (h : PE X e (tC v)) (hr : ∀ F, Rep X.K CT F v d) : PE X e (up X.K CT E (vC d)) :=
  PE.imp h fun σ H Q ⟨F, as, s, n, h⟩ => h.here rfl n v (hr F)
theorem me_int {i j pos} : PE X (.Constant (.int i) j pos) (up X.K CT E (vC (.int i))) := me_c pe_int fun _ => .int i
theorem me_bl {i j pos} : PE X (.Constant (.bool i) j pos) (up X.K CT E (vC (.bl i))) := me_c pe_bl fun _ => .bl i
theorem me_str {x j pos} (h1 : x.length ≤ 100000 := by decide +kernel) (h2 : PyData.strOk x = true := by decide +kernel) : PE X (.Constant (.str x) j pos) (up X.K CT E (vC (.str x))) :=
  me_c pe_str fun _ => .str x (Nat.le_trans h1 (by rw [sizeLine_eq]; decide)) h2
/-- a module's constant -/
theorem me_glob {x : Str} {v : V} {d : D} {u : Value} (hm : X.mg x = some u) (r : RelV v u) (hr : ∀ F, Rep X.K CT F v d) (hg : Gl X x) (hd : (x == ("__debug__" : Str)) = false := by decide) : PE X (.Name x p) (up X.K CT E (vC d)) :=
  me_c (pe_glob hg hm r hd) hr
/-! ### operators -/
theorem op_read {g : D → D → Option D} {σ : Sto} {H : Hp} {Q : VK} (h : up X.K CT E (vOp g ma mb) σ H Q) : tOp (rD X.K CT g) (up X.K CT E ma) (up X.K CT E mb) σ H Q := by
  obtain ⟨F, as, s, n, h⟩ := h
  refine up_seq n h rfl fun vx x s1 F1 as1 H1 e1 n1 r1 h1 => ?_
  refine up_seq n1 h1 rfl fun vy y s2 F2 as2 H2 e2 n2 r2 h2 => ?_
  cases q1 : rd s2 x with
  | none => simp only [q1] at h2; exact h2.elim
  | some dx =>
    cases q2 : rd s2 y with
    | none => simp only [q1, q2] at h2; exact h2.elim
    | some dy =>
      simp only [q1, q2] at h2
      cases q3 : g dx dy with
      | none => simp only [q3] at h2; exact h2.elim
      | some z =>
        simp only [q3] at h2
        exact ⟨F2, as2, σ, s2, dx, dy, z, n2, n2.rd (r1.mono e2) q1, n2.rd r2 q2, q3, fun v F' H' ex n' r => h2.there (σ := σ) rfl ex n' v r⟩
theorem me_op {op : Operator} {g : D → D → Option D} (ho : OpR X (binaryOp op) (rD X.K CT g)) (ha : PE X a (up X.K CT E ma)) (hb : PE X b (up X.K CT E mb)) : PE X (.BinOp a op b pos) (up X.K CT E (vOp g ma mb)) :=
  PE.imp (pe_op ho ha hb) fun _ _ _ h => op_read h
theorem me_cmp {op : CmpOp} {g : D → D → Option D} (ho : OpR X (compareOp op) (rD X.K CT g)) (hm : behindInMarks op b = false) (ha : PE X a (up X.K CT E ma)) (hb : PE X b (up X.K CT E mb)) : PE X (.Compare a [op] [b] pos) (up X.K CT E (vOp g ma mb)) :=
  PE.imp (pe_cmpR ho ha hb hm) fun _ _ _ h => op_read h
/-- a value that is a truth value, as a test's reading -/
theorem val_read {t : TE} {m : ME} {σ : Sto} {H : Hp} {Q : Bool → Hp → Prop} (ht : ∀ σ H Q, up X.K CT E m σ H Q → t σ H Q) (h : upT X.K CT E (cVal m) σ H Q) : tTest t σ H Q := by
  obtain ⟨F, as, s, n, h⟩ := h
  refine ht _ _ _ (up_seq n h rfl fun v x s1 F1 as1 H1 e1 n1 r1 h1 => ?_)
  cases x with
  | cell k => exact h1.elim
  | d y =>
    cases y with
    | bl c =>
      have r1 : Rep X.K CT F1 v (.bl c) := r1
      cases r1
      exact ⟨c, rfl, h1.here (σ := σ) rfl n1⟩
    | _ => exact h1.elim
theorem mt_cmp {op : CmpOp} {g : D → D → Option D} (ho : OpR X (compareOp op) (rD X.K CT g)) (hm : behindInMarks op b = false) (ha : PE X a (up X.K CT E ma)) (hb : PE X b (up X.K CT E mb)) : PT X (.Compare a [op] [b] pos) (upT X.K CT E (cVal (vOp g ma mb))) :=
  PT.imp (pt_cmpR ho ha hb hm) fun _ _ _ h => val_read (fun _ _ _ => op_read) h
theorem mt_val {e : Expr} {m : ME} (h : PE X e (up X.K CT E m)) (he : ∀ whole, isTrue e X.env whole = (do let v ← whole; standAt e.pos; holding [v] (truthy v)) := by intro _; rfl) : PT X e (upT X.K CT E (cVal m)) :=
  PT.imp (pt_val h he) fun σ H Q h => val_read (fun _ _ _ z => z) h
theorem un_read {g : D → Option D} {σ : Sto} {H : Hp} {Q : VK} (h : up X.K CT E (vUn g ma) σ H Q) : tUn (rU' X.K CT g) (up X.K CT E ma) σ H Q := by
  obtain ⟨F, as, s, n, h⟩ := h
  refine up_seq n h rfl fun vx x s1 F1 as1 H1 e1 n1 r1 h1 => ?_
  cases q1 : rd s1 x with
  | none => simp only [q1] at h1; exact h1.elim
  | some dx =>
    simp only [q1] at h1
    cases q3 : g dx with
    | none => simp only [q3] at h1; exact h1.elim
    | some z =>
      simp only [q3] at h1
      exact ⟨F1, as1, σ, s1, dx, z, n1, n1.rd r1 q1, q3, fun v F' H' ex n' r => h1.there (σ := σ) rfl ex n' v r⟩
theorem opU_neg : UnR X (unaryOp .USub) (rU' X.K CT negD) := by
  intro pins s σ H x v Q I rx h
  obtain ⟨F, as, σ', S, d, z, n, hx, e, f⟩ := h
  unfold negD at e
  split at e
  · cases e
    obtain rfl := hx.int'
    exact un_neg pins s σ H _ v Q I rx ⟨_, rfl, f.flat n (.int _)⟩
  · cases e
theorem me_un {op : UnaryOp} {g : D → Option D} (ho : UnR X (unaryOp op) (rU' X.K CT g)) (ha : PE X a (up X.K CT E ma)) : PE X (.UnaryOp op a pos) (up X.K CT E (vUn g ma)) :=
  PE.imp (pe_un ho ha) fun _ _ _ h => un_read h
variable {ta tb : MT} {rest : List Expr}
theorem mw_and1 (ha : PT X a (upT X.K CT E ta)) : PW X (.BoolOp .And [a] pos) (upT X.K CT E ta) := pw_and1 ha
theorem mw_or1 (ha : PT X a (upT X.K CT E ta)) : PW X (.BoolOp .Or [a] pos) (upT X.K CT E ta) := pw_or1 ha
theorem upT_at {m : MT} {σ : Sto} {H : Hp} {F : Hp} {as : List Addr} {s : PS} {Q : Bool → Hp → Prop} (n : Env X.K CT F as H σ s) (h : Out X.K CT (fun σ' => σ' = σ) E F as (m s) fun b _ _ _ _ H' => Q b H') : upT X.K CT E m σ H Q := ⟨F, as, s, n, h⟩
theorem up_at {m : ME} {σ : Sto} {H : Hp} {F : Hp} {as : List Addr} {s : PS} {Q : VK} (n : Env X.K CT F as H σ s) (h : Out X.K CT (fun σ' => σ' = σ) E F as (m s) fun x _ F' as' _ H' => ∀ v, RepS X.K CT F' as' v x → Q v H') : up X.K CT E m σ H Q := ⟨F, as, s, n, h⟩
theorem mw_and (ha : PT X a (upT X.K CT E ta)) (hb : PW X (.BoolOp .And (b :: rest) pos) (upT X.K CT E tb)) : PW X (.BoolOp .And (a :: b :: rest) pos) (upT X.K CT E (cAnd ta tb)) :=
  PW.imp (pw_and ha hb) fun σ H Q ⟨F, as, s, n, h⟩ => upT_seq n h rfl fun c s1 F1 as1 H1 e1 n1 h1 => by
    cases c with
    | true => exact upT_at n1 h1
    | false => exact h1.here (σ := σ) rfl n1
theorem mw_or (ha : PT X a (upT X.K CT E ta)) (hb : PW X (.BoolOp .Or (b :: rest) pos) (upT X.K CT E tb)) : PW X (.BoolOp .Or (a :: b :: rest) pos) (upT X.K CT E (cOr ta tb)) :=
  PW.imp (pw_or ha hb) fun σ H Q ⟨F, as, s, n, h⟩ => upT_seq n h rfl fun c s1 F1 as1 H1 e1 n1 h1 => by
    cases c with
    | true => exact h1.here (σ := σ) rfl n1
    | false => exact upT_at n1 h1
theorem mt_not (ha : PT X a (upT X.K CT E ta)) : PT X (.UnaryOp .Not a pos) (upT X.K CT E (cNot ta)) :=
  PT.imp (pt_not ha) fun σ H Q ⟨F, as, s, n, h⟩ => upT_seq n h rfl fun c s1 F1 as1 H1 e1 n1 h1 => h1.here (σ := σ) rfl n1
theorem bl_of {α : Type} {x : SV} {s : PS} {k : Bool → PS → R α} {ok : Sto → Prop} {F : Hp} {as : List Addr} {Q : α → PS → Hp → List Addr → Sto → Hp → Prop} {v : V} (h : Out X.K CT ok E F as ((isB x s).bind k) Q) (r : RepS X.K CT F as v x) :
    ∃ c, v = .bl c ∧ Out X.K CT ok E F as (k c s) Q := by
  cases x with
  | cell k => exact h.elim
  | d y =>
    cases y with
    | bl c =>
      have r : Rep X.K CT F v (.bl c) := r
      cases r
      exact ⟨c, rfl, h⟩
    | _ => exact h.elim
theorem me_one {op} (h : PE X a (up X.K CT E ma)) : PE X (.BoolOp op [a] pos) (up X.K CT E ma) := pe_one h
theorem me_and (ha : PE X a (up X.K CT E ma)) (hb : PE X (.BoolOp .And (b :: rest) pos) (up X.K CT E mb)) : PE X (.BoolOp .And (a :: b :: rest) pos) (up X.K CT E (vAnd ma mb)) :=
  PE.imp (pe_and ha hb) fun σ H Q ⟨F, as, s, n, h⟩ => up_seq n h rfl fun v x s1 F1 as1 H1 e1 n1 r1 h1 => by
    obtain ⟨c, rfl, h2⟩ := bl_of h1 r1
    refine ⟨c, rfl, ?_⟩
    cases c with
    | true => exact up_at n1 h2
    | false => exact h2.here (σ := σ) rfl n1 _ (Rep.bl false)
theorem me_or (ha : PE X a (up X.K CT E ma)) (hb : PE X (.BoolOp .Or (b :: rest) pos) (up X.K CT E mb)) : PE X (.BoolOp .Or (a :: b :: rest) pos) (up X.K CT E (vOr ma mb)) :=
  PE.imp (pe_or ha hb) fun σ H Q ⟨F, as, s, n, h⟩ => up_seq n h rfl fun v x s1 F1 as1 H1 e1 n1 r1 h1 => by
    obtain ⟨c, rfl, h2⟩ := bl_of h1 r1
    refine ⟨c, rfl, ?_⟩
    cases c with
    | true => exact h2.here (σ := σ) rfl n1 _ (Rep.bl true)
    | false => exact up_at n1 h2
theorem me_not (ha : PE X a (up X.K CT E ma)) : PE X (.UnaryOp .Not a pos) (up X.K CT E (vNot ma)) :=
  PE.imp (pe_not ha) fun σ H Q ⟨F, as, s, n, h⟩ => up_seq n h rfl fun v x s1 F1 as1 H1 e1 n1 r1 h1 => by
    obtain ⟨c, rfl, h2⟩ := bl_of h1 r1
    exact ⟨c, rfl, h2.here (σ := σ) rfl n1 _ (Rep.bl (!c))⟩
theorem me_if {t : MT} (hc : PT X c (upT X.K CT E t)) (ha : PE X a (up X.K CT E ma)) (hb : PE X b (up X.K CT E mb)) : PE X (.IfExp c a b pos) (up X.K CT E (vIf t ma mb)) :=
  PE.imp (pe_ifExp hc ha hb) fun σ H Q ⟨F, as, s, n, h⟩ => upT_seq n h rfl fun c s1 F1 as1 H1 e1 n1 h1 => by
    cases c with
    | true => exact up_at n1 h1
    | false => exact up_at n1 h1
/-- a op1 b op2 c -/
theorem chain_read {g g' : D → D → Option D} {σ : Sto} {H : Hp} {Q : VK} (h : up X.K CT E (vChain g g' ma mb mc) σ H Q) : tChain (rD X.K CT g) (rD X.K CT g') (up X.K CT E ma) (up X.K CT E mb) (up X.K CT E mc) σ H Q := by
  obtain ⟨F, as, s, n, h⟩ := h
  refine up_seq n h rfl fun vx x s1 F1 as1 H1 e1 n1 r1 h1 => ?_
  refine up_seq n1 h1 rfl fun vy y s2 F2 as2 H2 e2 n2 r2 h2 => ?_
  cases q1 : rd s2 x with
  | none => simp only [q1] at h2; exact h2.elim
  | some dx =>
    cases q2 : rd s2 y with
    | none => simp only [q1, q2] at h2; exact h2.elim
    | some dy =>
      simp only [q1, q2] at h2
      cases q3 : g dx dy with
      | none => simp only [q3] at h2; exact h2.elim
      | some z =>
        cases z with
        | bl k =>
          simp only [q3] at h2
          refine ⟨F2, as2, σ, s2, dx, dy, _, n2, n2.rd (r1.mono e2) q1, n2.rd r2 q2, q3, fun v F' H' ex n' r => ?_⟩
          cases r
          refine ⟨k, rfl, ?_⟩
          have h2 := Out.ext ex h2
          cases k with
          | false => exact h2.here (σ := σ) rfl n' _ (Rep.bl false)
          | true =>
            refine up_seq n' h2 rfl fun vz z s3 F3 as3 H3 e3 n3 r3 h3 => ?_
            cases q4 : rd s3 y with
            | none => simp only [q4] at h3; exact h3.elim
            | some dy' =>
              cases q5 : rd s3 z with
              | none => simp only [q4, q5] at h3; exact h3.elim
              | some dz =>
                simp only [q4, q5] at h3
                cases q6 : g' dy' dz with
                | none => simp only [q6] at h3; exact h3.elim
                | some w =>
                  simp only [q6] at h3
                  exact ⟨F3, as3, σ, s3, dy', dz, w, n3, n3.rd ((r2.mono ex).mono e3) q4, n3.rd r3 q5, q6, fun v F' H' ex n' r => h3.there (σ := σ) rfl ex n' v r⟩
        | _ => simp only [q3] at h2; exact h2.elim
theorem me_chain {op op' : CmpOp} {g g' : D → D → Option D} (ho : OpR X (compareOp op) (rD X.K CT g)) (ho' : OpR X (compareOp op') (rD X.K CT g')) (ha : PE X a (up X.K CT E ma)) (hb : PE X b (up X.K CT E mb)) (hc : PE X c (up X.K CT E mc))
    (hm : lastMarks [op, op'] [b, c] = false := by with_unfolding_all rfl) : PE X (.Compare a [op, op'] [b, c] pos) (up X.K CT E (vChain g g' ma mb mc)) :=
  PE.imp (pe_chain ho ho' ha hb hc hm) fun _ _ _ h => chain_read h
theorem mt_chain {op op' : CmpOp} {g g' : D → D → Option D} (ho : OpR X (compareOp op) (rD X.K CT g)) (ho' : OpR X (compareOp op') (rD X.K CT g')) (ha : PE X a (up X.K CT E ma)) (hb : PE X b (up X.K CT E mb)) (hc : PE X c (up X.K CT E mc))
    (hm : lastMarks [op, op'] [b, c] = false := by with_unfolding_all rfl) : PT X (.Compare a [op, op'] [b, c] pos) (upT X.K CT E (cVal (vChain g g' ma mb mc))) :=
  PT.imp (pt_chain ho ho' ha hb hc hm) fun _ _ _ h => val_read (fun _ _ _ => chain_read) h
/-! ### subscripts, slices -/
theorem me_ix (ha : PE X a (up X.K CT E ma)) (hb : PE X b (up X.K CT E mb)) (hs : PlainIx b := by exact fun _ _ => rfl) : PE X (.Subscript a b pos) (up X.K CT E (vOp idxD ma mb)) :=
  PE.imp (pe_ix ixD ha hb hs) fun _ _ _ h => op_read h
variable {lo hi : Option Expr} {ml mh : MO} {p2 : Pos}
theorem mo_none : PO X none (upO X.K CT E oNone) := ⟨fun pins s σ H Q I ⟨F, as, S, n, h⟩ => po_none.run pins s σ H Q I (h.here rfl n)⟩
theorem mo_some {e : Expr} {m : ME} (h : PE X e (up X.K CT E m)) : PO X (some e) (upO X.K CT E (oSome m)) := ⟨fun pins s σ H Q I ⟨F, as, S, n, q⟩ => (po_some h).run pins s σ H Q I (by
  refine up_seq n q rfl fun v x s1 F1 as1 H1 e1 n1 r1 h1 => ?_
  cases x with
  | cell k => exact h1.elim
  | d y =>
    cases y with
    | int i =>
      have r1 : Rep X.K CT F1 v (.int i) := r1
      cases r1
      exact ⟨i, rfl, h1.here (σ := σ) rfl n1⟩
    | _ => exact h1.elim)⟩
theorem me_sl (ha : PE X a (up X.K CT E ma)) (hl : PO X lo (upO X.K CT E ml)) (hh : PO X hi (upO X.K CT E mh)) : PE X (.Subscript a (.Slice lo hi none p2) pos) (up X.K CT E (vSl ma ml mh)) :=
  PE.imp (pe_slice slM ha hl hh) fun σ H Q ⟨F, as, s, n, h⟩ => by
    refine up_seq n h rfl fun vx x s1 F1 as1 H1 e1 n1 r1 h1 => ?_
    refine upO_seq n1 h1 rfl fun l s2 F2 as2 H2 e2 n2 h2 => ?_
    refine upO_seq n2 h2 rfl fun u s3 F3 as3 H3 e3 n3 h3 => ?_
    cases q1 : rd s3 x with
    | none => simp only [q1] at h3; exact h3.elim
    | some dx =>
      simp only [q1] at h3
      cases q3 : slD dx l u with
      | none => simp only [q3] at h3; exact h3.elim
      | some z =>
        simp only [q3] at h3
        exact ⟨F3, as3, σ, s3, dx, z, n3, n3.rd ((r1.mono e2).mono e3) q1, q3, fun v F' H' ex n' r => h3.there (σ := σ) rfl ex n' v r⟩
/-! ### arguments, displays -/
variable {es : List Expr} {m : ME} {mr : MA} {e : Expr}
theorem ma_nil : PA X [] (upA X.K CT E aNil) := ⟨fun pos pins s σ H Q I ⟨F, as, S, n, h⟩ => pa_nil.run pos pins s σ H Q I (h.here rfl n _ .nil)⟩
theorem ma_cons (ha : PE X e (up X.K CT E m)) (hr : PA X es (upA X.K CT E mr)) (hs : starEach (e :: es) X.env = (false, eval e X.env) :: starEach es X.env := by rfl) : PA X (e :: es) (upA X.K CT E (aCons m mr)) :=
  PA.imp (pa_cons ha hr hs) fun σ H Q ⟨F, as, s, n, h⟩ => by
    refine up_seq n h rfl fun v x s1 F1 as1 H1 e1 n1 r1 h1 => ?_
    refine upA_seq n1 h1 rfl fun vs xs s2 F2 as2 H2 e2 n2 r2 h2 => ?_
    exact h2.here (σ := σ) rfl n2 _ (.cons (r1.mono e2) r2)
theorem RepSs.length {K : PySem.W.Frag} {F : Hp} {as : List Addr} {vs : List V} {xs : List SV} (h : RepSs K CT F as vs xs) : vs.length = xs.length := by
  induction h with
  | nil => rfl
  | cons _ _ ih => simp [ih]
theorem me_tup {x1} (h : PA X es (upA X.K CT E mr)) : PE X (.Tuple es x1 pos) (up X.K CT E (vTup mr)) :=
  PE.imp (pe_tup h) fun σ H Q ⟨F, as, s, n, h⟩ => by
    refine upA_seq n h rfl fun vs xs s1 F1 as1 H1 e1 n1 r1 h1 => ?_
    cases q : frzs s1 xs with
    | none => simp only [q] at h1; exact h1.elim
    | some p =>
      obtain ⟨ys, s2⟩ := p
      simp only [q] at h1
      split at h1
      · rename_i hz
        obtain ⟨F2, e2, q2, n2⟩ := n1.frzs r1 q
        refine ⟨by rw [r1.length, ← frzs_length q]; exact hz, fun p hp => ?_⟩
        obtain ⟨e3, n3⟩ := n2.new (.tup vs) hp
        exact h1.there (σ := σ) rfl (e2.trans e3) n3 _ (Rep.tup upd_same (Reps.mono _ _ e3.1 _ _ q2))
      · exact h1.elim
theorem me_lst (h : PA X es (upA X.K CT E mr)) : PE X (.List es pos) (up X.K CT E (vLst mr)) :=
  PE.imp (pe_lst h) fun σ H Q ⟨F, as, s, n, h⟩ => by
    refine upA_seq n h rfl fun vs xs s1 F1 as1 H1 e1 n1 r1 h1 => ?_
    cases q : frzs s1 xs with
    | none => simp only [q] at h1; exact h1.elim
    | some p =>
      obtain ⟨ys, s2⟩ := p
      simp only [q] at h1
      split at h1
      · rename_i hz
        obtain ⟨F2, e2, q2, n2⟩ := n1.frzs r1 q
        refine ⟨by rw [r1.length, ← frzs_length q]; exact hz, fun p hp => ?_⟩
        obtain ⟨e3, n3⟩ := n2.new (.lst vs) hp
        exact h1.there (σ := σ) rfl (e2.trans e3) n3 _ (Rep.lst upd_same (Reps.mono _ _ e3.1 _ _ q2))
      · exact h1.elim
theorem me_lstN (h : PA X es (upA X.K CT E mr)) : PE X (.List es pos) (up X.K CT E (vLstN mr)) :=
  PE.imp (pe_lst h) fun σ H Q ⟨F, as, s, n, h⟩ => by
    refine upA_seq n h rfl fun vs xs s1 F1 as1 H1 e1 n1 r1 h1 => ?_
    cases q : frzs s1 xs with
    | none => simp only [q] at h1; exact h1.elim
    | some p =>
      obtain ⟨ys, s2⟩ := p
      simp only [q] at h1
      split at h1
      · rename_i hz
        obtain ⟨F2, e2, q2, n2⟩ := n1.frzs r1 q
        refine ⟨by rw [r1.length, ← frzs_length q]; exact hz, fun p hp => ?_⟩
        obtain ⟨e3, n3⟩ := n2.newC hp q2
        exact h1.there (σ := σ) rfl (e2.trans e3) n3 _ ⟨p, by rw [n2.wk.len]; simp, rfl⟩
      · exact h1.elim
/-- a value, frozen if it is a cell -/
theorem me_frz (h : PE X e (up X.K CT E m)) : PE X e (up X.K CT E (vFrz m)) :=
  PE.imp h fun σ H Q ⟨F, as, s, n, h⟩ => by
    refine up_seq n h rfl fun v x s1 F1 as1 H1 e1 n1 r1 h1 => ?_
    cases q : frz s1 x with
    | none => simp only [q] at h1; exact h1.elim
    | some p =>
      obtain ⟨y, s2⟩ := p
      simp only [q] at h1
      obtain ⟨F2, e2, q2, n2⟩ := n1.frz r1 q
      exact h1.there (σ := σ) rfl e2 n2 _ q2
/-! ### built-ins by values -/
theorem rds_of {F : Hp} {as : List Addr} {H : Hp} {σ : Sto} {s : PS} (n : Env X.K CT F as H σ s) : ∀ {xs : List SV} {vs : List V} {ds : List D}, RepSs X.K CT F as vs xs → rds s xs = some ds → Rdbs X.K CT F H vs ds
  | [], _, ds, r, e => by
    cases r
    simp only [rds, Option.some.injEq] at e
    subst e
    exact .nil
  | x :: xs, _, ds, r, e => by
    cases r with
    | cons r1 r2 =>
      unfold rds at e
      cases q1 : rd s x with
      | none => simp only [q1] at e; cases e
      | some y =>
        cases q2 : rds s xs with
        | none => simp only [q1, q2] at e; cases e
        | some ys =>
          simp only [q1, q2, Option.some.injEq] at e
          subst e
          exact .cons (n.rd r1 q1) (rds_of n r2 q2)
theorem b_read {g : List D → Option D} {σ : Sto} {H : Hp} {Q : VK} (h : up X.K CT E (vB g mr) σ H Q) : tCB (rB X.K CT g) (upA X.K CT E mr) σ H Q := by
  obtain ⟨F, as, s, n, h⟩ := h
  refine upA_seq n h rfl fun vs xs s1 F1 as1 H1 e1 n1 r1 h1 => ?_
  cases q1 : rds s1 xs with
  | none => simp only [q1] at h1; exact h1.elim
  | some ds =>
    simp only [q1] at h1
    cases q3 : g ds with
    | none => simp only [q3] at h1; exact h1.elim
    | some z =>
      simp only [q3] at h1
      exact ⟨F1, as1, σ, s1, ds, z, n1, rds_of n1 r1 q1, q3, fun v F' H' ex n' r => h1.there (σ := σ) rfl ex n' v r⟩
variable {x : Str} {id T : String} {g : List D → Option D}
theorem me_callB (hc : CallR X (.builtin id) (rB X.K CT g)) (hm : X.mg x = none) (hv : bootBuiltins x = some (.builtin id)) (hg : Gl X x) (ha : PA X (e :: es) (upA X.K CT E mr)) (hn : x ≠ "__name__" := by decide) (hdb : (x == ("__debug__" : Str)) = false := by decide)
    (he : starEach (e :: es) X.env = (false, eval e X.env) :: starEach es X.env := by rfl) (hpl : (backTo pos (starEach es X.env)).any (·.1) = false := by rfl) : PE X (.Call (.Name x p) (e :: es) [] pos) (up X.K CT E (vB g mr)) :=
  PE.imp (pe_callB hc hg hm hv ha hn hdb he hpl) fun _ _ _ h => b_read h
theorem me_callT (hc : CallR X (.type T) (rB X.K CT g)) (hm : X.mg x = none) (hv : bootBuiltins x = some (.type T)) (hg : Gl X x) (ha : PA X (e :: es) (upA X.K CT E mr)) (hn : x ≠ "__name__" := by decide) (hdb : (x == ("__debug__" : Str)) = false := by decide)
    (he : starEach (e :: es) X.env = (false, eval e X.env) :: starEach es X.env := by rfl) (hpl : (backTo pos (starEach es X.env)).any (·.1) = false := by rfl) : PE X (.Call (.Name x p) (e :: es) [] pos) (up X.K CT E (vB g mr)) :=
  PE.imp (pe_callTy hc hg hm hv ha hn hdb he hpl) fun _ _ _ h => b_read h
end
end Bf
/-! The mirror layer: statements, loops, calls of defs, a def's promise. -/
namespace Bf
open PySem PySem.Spec PyProof.Rows L2
/-- what a context must have: the exceptions that are wished for are taken -/
structure Cq (X : Cx) (E : Sto → XK) : Prop where
  calm : X.calm = true
  po : PassesOwn (model X.prog X.w) X.A X.env X.xe
  pass : ∀ σ, PassesAt (L2.CX X.prog X.w) X σ (E σ)
  nd : X.N.Nodup
  tk : Takes X (fun c d σ H => E σ c d H)
theorem passAt0 {X : Cx} {σ : Sto} : PassesAt (L2.CX X.prog X.w) X σ (fun _ _ _ => False) := fun _ _ _ _ _ _ ⟨_, _, _, _, _, _, _, _, _, _, _, _, h⟩ => h.elim
section
variable {X : Cx} {CT : Ctx} {E : Sto → XK} {pos p : Pos} {st : Stmt} {rest : List Stmt} {ma mb : MS} {e : Expr} {m : ME}
/-- the part's outcome, the rest as it stands -/
theorem Out.bind0 {K : PySem.W.Frag} {F : Hp} {as : List Addr} {α β : Type} {ok ok' : Sto → Prop} {r : R α} {f : α → PS → R β} {Q : β → PS → Hp → List Addr → Sto → Hp → Prop} (h : Out K CT ok' E F as (r.bind f) Q) (ho : ∀ σ, ok σ → ok' σ) :
    Out K CT ok E F as r fun a s _ _ _ _ => Out K CT ok' E F as (f a s) Q := by
  cases r with
  | ok a s => exact fun F2 as2 σ2 H2 o e2 n => h
  | err x s => exact fun c dx F2 as2 σ2 H2 o e2 n q => h c dx F2 as2 σ2 H2 (ho _ o) e2 n q
  | stuck => exact h
theorem ms_nil : PSs X [] (upS X.K CT E sNx) := ⟨fun pins s σ H D I ⟨F, as, S, n, h⟩ => pss_nil.run pins s σ H D I (h.here trivial n)⟩
theorem ms_cons (h1 : L2.PS X st (upS X.K CT E ma)) (h2 : PSs X rest (upS X.K CT E mb)) : PSs X (st :: rest) (upS X.K CT E (sSeq ma mb)) :=
  PSs.imp (pss_cons h1 h2) fun D σ H ⟨F, as, s, n, h⟩ => ⟨F, as, s, n, (h.bind fun _ z => z).imp (fun _ z => z) fun f s' F' as' σ' H' _ _ ex n' q => by
    cases f with
    | nx => exact ⟨F', as', s', n', q⟩
    | bk => exact q.here trivial n'
    | ct => exact q.here trivial n'
    | rt x => exact q.here trivial n'⟩
theorem ms_one (h1 : L2.PS X st (upS X.K CT E ma)) : PSs X [st] (upS X.K CT E ma) := pss_one h1
theorem ms_ret (h : PE X e (up X.K CT E m)) : L2.PS X (.Return (some e) pos) (upS X.K CT E (sRet m)) :=
  ps_imp (ps_ret h) fun D σ H ⟨F, as, s, n, h⟩ => up_seq n h trivial fun v x s1 F1 as1 H1 e1 n1 r1 h1 => h1.here (σ := σ) trivial n1 v r1
theorem ms_expr (h : PE X e (up X.K CT E m)) (hs : swapsWith e none pos.line X.env = pure false := by rfl) : L2.PS X (.Expr e pos) (upS X.K CT E (sExp m)) :=
  ps_imp (ps_expr h hs) fun D σ H ⟨F, as, s, n, h⟩ => up_seq n h trivial fun v x s1 F1 as1 H1 e1 n1 r1 h1 => h1.here (σ := σ) trivial n1
theorem upS_at {m : MS} {σ : Sto} {H : Hp} {F : Hp} {as : List Addr} {s : PS} {D : Ends} (n : Env X.K CT F as H σ s) (h : Out X.K CT (fun _ => True) E F as (m s) fun f _ F' as' σ' H' => match f with
  | .nx => D.nx σ' H'
  | .bk => D.bk σ' H'
  | .ct => D.ct σ' H'
  | .rt x => ∀ v, RepS X.K CT F' as' v x → D.rt v H') : upS X.K CT E m D σ H := ⟨F, as, s, n, h⟩
theorem ms_if {t : MT} {c : Expr} {A B : List Stmt} (hc : PT X c (upT X.K CT E t)) (ha : PSs X A (upS X.K CT E ma)) (hb : PSs X B (upS X.K CT E mb)) : L2.PS X (.If c A B pos) (upS X.K CT E (sIf t ma mb)) :=
  ps_imp (ps_if hc ha hb) fun D σ H ⟨F, as, s, n, h⟩ => upT_seq n h trivial fun c s1 F1 as1 H1 e1 n1 h1 => by
    cases c with
    | true => exact upS_at n1 h1
    | false => exact upS_at n1 h1
/-! ### targets -/
theorem Env.setG {K : PySem.W.Frag} {F H : Hp} {as : List Addr} {σ : Sto} {s : PS} {i : Nat} {v : V} {x : SV} (n : Env K CT F as H σ s) (r : RepS K CT F as v x) (hi : i < s.g.length) : Env K CT F as H (σ.set i (some v)) { s with g := s.g.set i (some x) } := by
  refine ⟨n.sub, n.wk, by simp [n.gl], fun j y h => ?_⟩
  have h : (s.g.set i (some x))[j]? = some (some y) := h
  by_cases hj : j = i
  · subst hj
    rw [List.getElem?_set_self hi] at h
    cases h
    exact ⟨v, List.getElem?_set_self (by rw [← n.gl]; exact hi), r⟩
  · rw [List.getElem?_set_ne (Ne.symm hj)] at h
    obtain ⟨w, h1, h2⟩ := n.sl j y h
    exact ⟨w, by rw [List.getElem?_set_ne (Ne.symm hj)]; exact h1, h2⟩
variable {β : Type} {φ : Sto → β}
theorem mg_name {i : Nat} {x : Str} (hN : X.N.Nodup) (hφ : ∀ (σ : Sto) v, φ (σ.set i (some v)) = φ σ) (hi : X.N[i]? = some x) (hx : Loc X.env.scope x) (hf : X.fn x = true ∨ X.env.scope.names.lookup x = some .local := by first | exact .inl rfl | exact .inr rfl | assumption) :
    PG X (.Name x pos) (upG X.K CT φ E (hName i)) :=
  PG.imp (pg_name hN hi hx hf) fun v σ H Q ⟨F, as, s, y, n, r, h⟩ => by
    unfold hName at h
    split at h
    · rename_i hl
      exact h.here (σ := σ.set i (some v)) (hφ σ v) (n.setG r hl) (hφ σ v)
    · exact h.elim
/-- several targets -/
def upGs (K : PySem.W.Frag) (CT : Ctx) (φ : Sto → β) (E : Sto → XK) (gs : List MG) : TGs := fun vs σ H Q => ∃ F as s xs, Env K CT F as H σ s ∧ Reps K CT F vs xs ∧ Out K CT (fun σ' => φ σ' = φ σ) E F as (hAll gs xs s) fun _ _ _ _ σ' H' => φ σ' = φ σ → Q σ' H'
theorem mgs_nil : PGs X [] (upGs X.K CT φ E []) := ⟨fun pins s σ H vs us Q I r ⟨F, as, S, xs, n, rx, h⟩ => pgs_nil.run pins s σ H vs us Q I r (by
  cases xs with
  | nil =>
    cases rx
    exact ⟨rfl, h.here (σ := σ) rfl n rfl⟩
  | cons => exact h.elim)⟩
theorem mgs_cons {es : List Expr} {g : MG} {gs : List MG} (h1 : PG X e (upG X.K CT φ E g)) (h2 : PGs X es (upGs X.K CT φ E gs))
    (hs : (assignEach (e :: es) X.env).map (·.2) = assign e X.env :: (assignEach es X.env).map (·.2) := by rfl) : PGs X (e :: es) (upGs X.K CT φ E (g :: gs)) := ⟨fun pins s σ H vs us Q I r ⟨F, as, S, xs, n, rx, h⟩ => (pgs_cons h1 h2 hs).run pins s σ H vs us Q I r (by
  cases xs with
  | nil => exact h.elim
  | cons x xs =>
    cases rx with
    | cons r1 r2 =>
      refine ⟨_, _, rfl, F, as, S, .d x, n, r1, (h.bind fun _ z => z).imp (fun _ z => z) fun _ s' F' as' σ' H' _ o ex n' q hφ => ?_⟩
      exact ⟨F', as', s', xs, n', Reps.mono _ _ ex.1 _ _ r2, q.imp (fun σ2 z => z.trans hφ) fun _ _ _ _ σ2 _ _ o2 _ _ w z => w (z.trans hφ)⟩)⟩
theorem PG.or {t t' : TG} (h : PG X e t) (h' : PG X e t') : PG X e (fun v σ H Q => t v σ H Q ∨ t' v σ H Q) := ⟨fun pins s σ H v u Q I r q => by
  rcases q with q | q
  · exact h.run pins s σ H v u Q I r q
  · exact h'.run pins s σ H v u Q I r q⟩
theorem mg_tup {es : List Expr} {k : Nat} {gs : List MG} (hc : X.calm = true) (h : PGs X es (upGs X.K CT φ E gs)) (hn : (assignEach es X.env).length = gs.length := by rfl) (hst : (assignEach es X.env).findIdx? (·.1) = none := by rfl) :
    PG X (.Tuple es k pos) (upG X.K CT φ E (hTup gs)) :=
  PG.imp (PG.or (pg_tup hc h hn hst) (pg_unl hc h hn hst)) fun v σ H Q ⟨F, as, s, x, n, r, h⟩ => by
    unfold hTup at h
    cases q : rd s x with
    | none => simp only [q] at h; exact h.elim
    | some d =>
      have rr := n.rd r q
      cases d with
      | tup xs =>
        simp only [q] at h
        split at h
        · rename_i hl
          obtain ⟨a, vs, rfl, q1, r1⟩ := rr.tup' n.sub
          exact .inl ⟨a, vs, rfl, q1, by rw [r1.length]; exact hl, F, as, s, xs, n, r1, h⟩
        · exact h.elim
      | lst xs =>
        simp only [q] at h
        split at h
        · rename_i hl
          obtain ⟨a, vs, rfl, q1, r1⟩ := rr.lst' n.sub
          exact .inr ⟨a, vs, rfl, SqL.of q1, by rw [r1.length]; exact hl, F, as, s, xs, n, r1, h⟩
        · exact h.elim
      | _ => simp only [q] at h; exact h.elim
/-- o[i] = .., o a list's cell -/
theorem mg_sub {o i : Expr} {mo mi : ME} (ho : PE X o (up X.K CT E mo)) (hi : PE X i (up X.K CT E mi)) (ha : ∀ v, assign (.Subscript o i pos) X.env v = (do
      let ov ← holding [v] (eval o X.env)
      let iv ← holding [v, ov] (eval i X.env)
      standAt pos
      holding [v, ov, iv] (setItem ov iv v)
      release [v, ov, iv] []) := by intro _; rfl) : PG X (.Subscript o i pos) (upG X.K CT (fun _ => ()) E (hSub mo mi)) :=
  PG.imp (pg_sub ho hi set_list ha) fun v σ H Q ⟨F, as, s, x, n, r, h⟩ => by
    refine up_seq n h rfl fun ov oo s1 F1 as1 H1 e1 n1 r1 h1 => ?_
    refine up_seq n1 h1 rfl fun iv ii s2 F2 as2 H2 e2 n2 r2 h2 => ?_
    cases q : frz s2 x with
    | none => simp only [q] at h2; exact h2.elim
    | some p =>
      obtain ⟨y, s3⟩ := p
      simp only [q] at h2
      obtain ⟨F3, e3, q3, n3⟩ := n2.frz ((r.mono e1).mono e2) q
      cases q4 : rd s3 ii with
      | none => simp only [q4] at h2; exact h2.elim
      | some di =>
        simp only [q4] at h2
        have ri := n3.rd (r2.mono e3) q4
        cases oo with
        | d z => exact h2.elim
        | cell k =>
          cases di with
          | int z =>
            obtain rfl := ri.int'
            unfold setL at h2
            cases q5 : s3.w[k]? with
            | none => simp only [q5] at h2; exact h2.elim
            | some c =>
              cases c with
              | lst xs =>
                simp only [q5] at h2
                cases q6 : ixN xs.length z with
                | none => simp only [q6] at h2; exact h2.elim
                | some j =>
                  simp only [q6, Option.map_some] at h2
                  obtain ⟨a, vs, ha, hf, hh, rr⟩ := n3.cell q5
                  obtain ⟨b, hb, rfl⟩ := (r1.mono e2).mono e3
                  rw [ha] at hb
                  cases hb
                  refine ⟨a, vs, z, j, rfl, rfl, hh, by rw [rr.length]; exact q6, ?_⟩
                  exact h2.there (σ := σ) (by first | rfl | trivial) e3 (n3.setC q5 ha hf (rr.set j q3)) (by first | rfl | trivial)
              | _ => simp only [q5] at h2; exact h2.elim
          | _ => exact h2.elim
theorem ms_asg {tg : Expr} {g : MG} (hg : PG X tg (upG X.K CT φ E g)) (he : PE X e (up X.K CT E m)) (hs : swapsWithSole [tg] e pos.line X.env = pure false := by rfl) (hw : swappedStores [tg] e X.env = pure none := by rfl)
    (h1 : (assignEach [tg] X.env).map (·.2) = [assign tg X.env] := by rfl) : L2.PS X (.Assign [tg] e pos) (upS X.K CT E (sAsg m g)) :=
  ps_imp (ps_asg he hg hs hw h1) fun D σ H ⟨F, as, s, n, h⟩ => up_seq n h trivial fun v x s1 F1 as1 H1 e1 n1 r1 h1 => by
    refine ⟨F1, as1, s1, x, n1, r1, (h1.bind fun _ _ => trivial).imp (fun _ z => z) fun _ s2 F2 as2 σ2 H2 _ _ e2 n2 q _ => q.here trivial n2⟩
/-! ### what is walked -/
section
variable {K : PySem.W.Frag} {F H : Hp} {as : List Addr} {σ : Sto} {s : PS} {J : It} {it : It'}
theorem It'.stop {i : Nat} (n : Env K CT F as H σ s) (r : ItOk K CT F as J it) (e : it.at s i = some none) : J.stop i H := by
  cases it with
  | seq xs =>
    have e : xs[i]? = none := by simpa [It'.at] using e
    have hi : xs.length ≤ i := List.getElem?_eq_none_iff.mp e
    rcases r with ⟨a, vs, rfl, h1, h2⟩ | ⟨a, vs, rfl, h1, h2⟩ | ⟨x, rfl, rfl, _⟩
    · exact ⟨vs, n.sub.sqL K h1, by rw [h2.length]; exact hi⟩
    · exact ⟨vs, n.sub.sqT K h1, by rw [h2.length]; exact hi⟩
    · show x.cps.size ≤ i
      simpa [signsD] using hi
  | cell k =>
    obtain ⟨a, ha, rfl⟩ := r
    unfold It'.at at e
    cases q : s.w[k]? with
    | none => simp only [q] at e; cases e
    | some c =>
      cases c with
      | lst xs =>
        simp only [q, Option.some.injEq] at e
        obtain ⟨b, vs, hb, hf, hh, rr⟩ := n.cell q
        rw [ha] at hb
        cases hb
        exact ⟨vs, SqL.of hh, by rw [rr.length]; exact List.getElem?_eq_none_iff.mp e⟩
      | _ => simp only [q] at e; cases e
  | rng lo m =>
    obtain rfl := r
    unfold It'.at at e
    dsimp only at e
    split at e
    · cases e
    · show m ≤ i
      omega
  | rngC lo c m =>
    obtain rfl := r
    unfold It'.at at e
    dsimp only at e
    split at e
    · cases e
    · show m ≤ i
      omega
  | prs ps =>
    obtain ⟨vs, ws, h1, h2, h3⟩ := r
    unfold It'.at at e
    simp only [Option.some.injEq, Option.map_eq_none_iff] at e
    exact (h3 H n.sub).2.1 i (List.getElem?_eq_none_iff.mp e)
  | kys xs =>
    obtain ⟨h0, ks, h1, h3⟩ := r
    unfold It'.at at e
    simp only [Option.some.injEq, Option.map_eq_none_iff] at e
    have q := List.getElem?_eq_none_iff.mp e
    rw [h1, List.length_map] at q
    exact (h3 H n.sub).2.1 i q
  | its ps =>
    obtain ⟨h0, kvs, h1, h3⟩ := r
    unfold It'.at at e
    simp only [Option.some.injEq, Option.map_eq_none_iff] at e
    have q := List.getElem?_eq_none_iff.mp e
    rw [← h1.len] at q
    exact (h3 H n.sub).2.1 i q
theorem It'.go {i : Nat} {x : D} (n : Env K CT F as H σ s) (r : ItOk K CT F as J it) (e : it.at s i = some (some x)) : J.go i H := by
  cases it with
  | seq xs =>
    have e : xs[i]? = some x := by simpa [It'.at] using e
    rcases r with ⟨a, vs, rfl, h1, h2⟩ | ⟨a, vs, rfl, h1, h2⟩ | ⟨x, rfl, rfl, _⟩
    · obtain ⟨v, h3, _⟩ := h2.get e
      exact ⟨vs, v, n.sub.sqL K h1, h3⟩
    · obtain ⟨v, h3, _⟩ := h2.get e
      exact ⟨vs, v, n.sub.sqT K h1, h3⟩
    · show i < x.cps.size
      have := (List.getElem?_eq_some_iff.mp e).1
      simpa [signsD] using this
  | cell k =>
    obtain ⟨a, ha, rfl⟩ := r
    unfold It'.at at e
    cases q : s.w[k]? with
    | none => simp only [q] at e; cases e
    | some c =>
      cases c with
      | lst xs =>
        simp only [q, Option.some.injEq] at e
        obtain ⟨b, vs, hb, hf, hh, rr⟩ := n.cell q
        rw [ha] at hb
        cases hb
        obtain ⟨v, h3, _⟩ := rr.get e
        exact ⟨vs, v, SqL.of hh, h3⟩
      | _ => simp only [q] at e; cases e
  | rng lo m =>
    obtain rfl := r
    unfold It'.at at e
    dsimp only at e
    split at e
    · assumption
    · cases e
  | rngC lo c m =>
    obtain rfl := r
    unfold It'.at at e
    dsimp only at e
    split at e
    · assumption
    · cases e
  | prs ps =>
    obtain ⟨vs, ws, h1, h2, h3⟩ := r
    unfold It'.at at e
    simp only [Option.some.injEq, Option.map_eq_some_iff] at e
    obtain ⟨p, e, _⟩ := e
    exact (h3 H n.sub).1 i (List.getElem?_eq_some_iff.mp e).1
  | kys xs =>
    obtain ⟨h0, ks, h1, h3⟩ := r
    unfold It'.at at e
    simp only [Option.some.injEq, Option.map_eq_some_iff] at e
    obtain ⟨p, e, _⟩ := e
    have q := (List.getElem?_eq_some_iff.mp e).1
    rw [h1, List.length_map] at q
    exact (h3 H n.sub).1 i q
  | its ps =>
    obtain ⟨h0, kvs, h1, h3⟩ := r
    unfold It'.at at e
    simp only [Option.some.injEq, Option.map_eq_some_iff] at e
    obtain ⟨p, e, _⟩ := e
    have q := (List.getElem?_eq_some_iff.mp e).1
    rw [← h1.len] at q
    exact (h3 H n.sub).1 i q
theorem It'.yld0 {i : Nat} {x : D} {v : V} {H' : Hp} (n : Env K CT F as H σ s) (r : ItOk K CT F as J it) (hp : (∀ ps, it ≠ .prs ps) ∧ (∀ ps, it ≠ .kys ps) ∧ ∀ ps, it ≠ .its ps) (e : it.at s i = some (some x)) (y : J.yld i H v H') : H' = H ∧ Rep K CT F v x := by
  cases it with
  | seq xs =>
    have e : xs[i]? = some x := by simpa [It'.at] using e
    rcases r with ⟨a, vs, rfl, h1, h2⟩ | ⟨a, vs, rfl, h1, h2⟩ | ⟨z, rfl, rfl, so⟩
    · obtain ⟨rfl, y⟩ := y
      obtain ⟨w, h3, h4⟩ := h2.get e
      have q := y vs (n.sub.sqL K h1)
      rw [h3] at q
      cases q
      exact ⟨rfl, h4⟩
    · obtain ⟨rfl, y⟩ := y
      obtain ⟨w, h3, h4⟩ := h2.get e
      have q := y vs (n.sub.sqT K h1)
      rw [h3] at q
      cases q
      exact ⟨rfl, h4⟩
    · obtain ⟨rfl, c, h1, rfl⟩ := y
      refine ⟨rfl, ?_⟩
      have e2 : z.cps.toList[i]? = some c := by simpa using h1
      unfold signsD at e
      rw [List.getElem?_map, e2] at e
      simp only [Option.map_some, Option.some.injEq] at e
      subst e
      refine .str _ line_one ?_
      unfold PyData.strOk at *
      rw [Array.all_eq_true] at so
      obtain ⟨hk, e3⟩ := List.getElem?_eq_some_iff.mp e2
      have q := so i (by simpa using hk)
      simp only [Array.getElem_toList] at e3
      rw [e3] at q
      simpa using q
  | cell k =>
    obtain ⟨a, ha, rfl⟩ := r
    unfold It'.at at e
    cases q : s.w[k]? with
    | none => simp only [q] at e; cases e
    | some c =>
      cases c with
      | lst xs =>
        simp only [q, Option.some.injEq] at e
        obtain ⟨b, vs, hb, hf, hh, rr⟩ := n.cell q
        rw [ha] at hb
        cases hb
        obtain ⟨rfl, y⟩ := y
        obtain ⟨w, h3, h4⟩ := rr.get e
        have q := y vs (SqL.of hh)
        rw [h3] at q
        cases q
        exact ⟨rfl, h4⟩
      | _ => simp only [q] at e; cases e
  | rng lo m =>
    obtain rfl := r
    unfold It'.at at e
    dsimp only at e
    split at e
    · obtain ⟨rfl, rfl⟩ := y
      cases e
      exact ⟨rfl, .int _⟩
    · cases e
  | rngC lo c m =>
    obtain rfl := r
    unfold It'.at at e
    dsimp only at e
    split at e
    · obtain ⟨rfl, rfl⟩ := y
      cases e
      exact ⟨rfl, .int _⟩
    · cases e
  | prs ps => exact absurd rfl (hp.1 ps)
  | kys ps => exact absurd rfl (hp.2.1 ps)
  | its ps => exact absurd rfl (hp.2.2 ps)
theorem It'.yld {i : Nat} {x : D} {v : V} {H' : Hp} (n : Env K CT F as H σ s) (r : ItOk K CT F as J it) (e : it.at s i = some (some x)) (y : J.yld i H v H') : ∃ F', Ext F as F' as ∧ Env K CT F' as H' σ s ∧ Rep K CT F' v x := by
  cases it with
  | prs ps =>
    obtain ⟨vs, ws, h1, h2, h3⟩ := r
    unfold It'.at at e
    simp only [Option.some.injEq, Option.map_eq_some_iff] at e
    obtain ⟨p, e, rfl⟩ := e
    obtain ⟨a, ha, ra⟩ := h1.get (i := i) (d := p.1) (by rw [List.getElem?_map, e]; rfl)
    obtain ⟨b, hb, rb⟩ := h2.get (i := i) (d := p.2) (by rw [List.getElem?_map, e]; rfl)
    obtain ⟨T, rfl, hT, rfl⟩ := (h3 H n.sub).2.2 i v H' a b ha hb y
    obtain ⟨e1, n1⟩ := n.new (.tup [a, b]) hT
    exact ⟨_, e1, n1, .tup (vs := [a, b]) upd_same (.cons (Rep.mono K CT e1.1 _ _ ra) (.cons (Rep.mono K CT e1.1 _ _ rb) .nil))⟩
  | kys xs =>
    obtain ⟨h0, ks, h1, h3⟩ := r
    unfold It'.at at e
    simp only [Option.some.injEq, Option.map_eq_some_iff] at e
    obtain ⟨p, e, rfl⟩ := e
    have hi := h0 p (List.mem_of_getElem? e)
    rw [h1, List.getElem?_map, Option.map_eq_some_iff] at e
    obtain ⟨k, e, rfl⟩ := e
    obtain ⟨rfl, q, rfl, hq⟩ := (h3 H n.sub).2.2 i v H' k e y
    obtain ⟨F', e1, n1, q1⟩ := n.learn hq
    exact ⟨F', e1, n1, .tup q1 (reps_keyi k hi)⟩
  | its ps =>
    obtain ⟨h0, kvs, h1, h3⟩ := r
    unfold It'.at at e
    simp only [Option.some.injEq, Option.map_eq_some_iff] at e
    obtain ⟨p, e, rfl⟩ := e
    have hi := h0 p (List.mem_of_getElem? e)
    obtain ⟨k, w, ek, e1, rw'⟩ := h1.get e
    obtain ⟨T, q, rfl, hT, hq, rfl⟩ := (h3 H n.sub).2.2 i v H' k w ek y
    obtain ⟨F1, x1, n1, q1⟩ := n.learn hq
    obtain ⟨x2, n2⟩ := n1.new (.tup [.ref q, w]) hT
    rw [e1] at hi ⊢
    exact ⟨_, x1.trans x2, n2, .tup (vs := [.ref q, w]) upd_same (.cons (.tup (x2.1 _ _ q1) (reps_keyi k hi)) (.cons (Rep.mono K CT (x1.trans x2).1 _ _ rw') .nil))⟩
  | seq xs =>
    obtain ⟨rfl, q⟩ := It'.yld0 n r ⟨(fun _ h => nomatch h), (fun _ h => nomatch h), (fun _ h => nomatch h)⟩ e y
    exact ⟨F, Ext.refl, n, q⟩
  | cell k =>
    obtain ⟨rfl, q⟩ := It'.yld0 n r ⟨(fun _ h => nomatch h), (fun _ h => nomatch h), (fun _ h => nomatch h)⟩ e y
    exact ⟨F, Ext.refl, n, q⟩
  | rng lo m =>
    obtain ⟨rfl, q⟩ := It'.yld0 n r ⟨(fun _ h => nomatch h), (fun _ h => nomatch h), (fun _ h => nomatch h)⟩ e y
    exact ⟨F, Ext.refl, n, q⟩
  | rngC lo c m =>
    obtain ⟨rfl, q⟩ := It'.yld0 n r ⟨(fun _ h => nomatch h), (fun _ h => nomatch h), (fun _ h => nomatch h)⟩ e y
    exact ⟨F, Ext.refl, n, q⟩
/-- the cells from k on are forgotten -/
theorem below_mono {K : PySem.W.Frag} {v : V} {x : SV} {k : Nat} (hb : below k x = true) (r : RepS K CT F as v x) : RepS K CT F (as.take k) v x := by
  cases x with
  | d y => exact r
  | cell j =>
    obtain ⟨a, h1, h2⟩ := r
    have hj : j < k := of_decide_eq_true hb
    exact ⟨a, by rw [List.getElem?_take_of_lt hj]; exact h1, h2⟩
theorem belowF {K : PySem.W.Frag} {k : Nat} : ∀ {fs : List (Str × SV)} {vs : List (Str × V)}, (fs.all fun p => below k p.2) = true → RepSF K CT F as vs fs → RepSF K CT F (as.take k) vs fs
  | [], _, _, r => by cases r; exact .nil
  | (f, x) :: fs, _, h, r => by
    cases r with
    | cons r1 r2 =>
      rw [List.all_cons, Bool.and_eq_true] at h
      exact .cons (below_mono h.1 r1) (belowF h.2 r2)
theorem belowS {K : PySem.W.Frag} {k : Nat} : ∀ {xs : List SV} {vs : List V}, (xs.all (below k)) = true → RepSs K CT F as vs xs → RepSs K CT F (as.take k) vs xs
  | [], _, _, r => by cases r; exact .nil
  | x :: xs, _, h, r => by
    cases r with
    | cons r1 r2 =>
      rw [List.all_cons, Bool.and_eq_true] at h
      exact .cons (below_mono h.1 r1) (belowS h.2 r2)
theorem CellOk.take {K : PySem.W.Frag} {k : Nat} {a : Addr} {c : Cell} (hb : cellBelow k c = true) (h : CellOk K CT F as H a c) : CellOk K CT F (as.take k) H a c := by
  cases c with
  | lst xs => exact h
  | dic kvs => exact h
  | dit kvs => exact h
  | ins c fs =>
    obtain ⟨h0, dx, vs, h1, h2⟩ := h
    exact ⟨h0, dx, vs, h1, belowF hb h2⟩
  | gone => trivial
  | lsv xs =>
    obtain ⟨h0, vs, h1, h2⟩ := h
    exact ⟨h0, vs, h1, belowS hb h2⟩
theorem Wk.take {K : PySem.W.Frag} {w : List Cell} (k : Nat) (n : Wk K CT F as H w) (hb : ((w.take k).all (cellBelow k)) = true) : Wk K CT F (as.take k) H (w.take k) := by
  refine ⟨by rw [List.length_take, List.length_take, n.len], n.nd.sublist (List.take_sublist _ _), n.tb.sub (fun a m => List.mem_of_mem_take m), fun a m => n.live a (List.mem_of_mem_take m), fun j c a h1 h2 => ?_⟩
  have hj : j < k := by
    have := (List.getElem?_eq_some_iff.mp h1).1
    rw [List.length_take] at this
    omega
  have hc := List.all_eq_true.mp hb c (List.mem_of_getElem? h1)
  rw [List.getElem?_take_of_lt hj] at h1 h2
  exact (n.ok j c a h1 h2).take hc
theorem Env.trunc {K : PySem.W.Frag} {k : Nat} {s' : PS} (n : Env K CT F as H σ s) (h : trunc k s = some s') : Env K CT F (as.take k) H σ s' := by
  unfold Bf.trunc at h
  split at h
  · rename_i hb
    cases h
    refine ⟨n.sub, n.wk.take k hb, by simp [n.gl], fun i x hx => ?_⟩
    have hx : (s.g.map (dropG k))[i]? = some (some x) := hx
    rw [List.getElem?_map] at hx
    cases q : s.g[i]? with
    | none => rw [q] at hx; cases hx
    | some o =>
      rw [q] at hx
      have hx : dropG k o = some x := by simpa using hx
      cases o with
      | none => cases hx
      | some y =>
        obtain ⟨v, h1, h2⟩ := n.sl i y q
        cases y with
        | d z =>
          cases hx
          exact ⟨v, h1, h2⟩
        | cell j =>
          unfold dropG at hx
          by_cases hj : j < k
          · have hx : (if j < k then some (SV.cell j) else none) = some x := hx
            rw [if_pos hj] at hx
            cases hx
            exact ⟨v, h1, below_mono (decide_eq_true hj) h2⟩
          · have hx : (if j < k then some (SV.cell j) else none) = some x := hx
            rw [if_neg hj] at hx
            cases hx
  · cases h
end
end
end Bf
/-! The mirror layer: loops, comprehensions, calls of defs, a def's promise. -/
namespace Bf
open PySem PySem.Spec PyProof.Rows L2
section
variable {X : Cx} {CT : Ctx} {E : Sto → XK} {pos p : Pos}
theorem take_ext {as as' : List Addr} {F F' : Hp} {n : Nat} (e : Ext F as F' as') (h : as.length = n) : as'.take n = as := by
  obtain ⟨_, t, rfl⟩ := e
  rw [← h, List.take_left]
theorem ms_for {tg iter : Expr} {body : List Stmt} {mi : MI} {g : MG} {mb : MS} (hx : Cq X E) (hi : PI X tg iter (upI X.K CT E mi)) (hg : PG X tg (upG X.K CT (fun _ => ()) E g)) (hb : PSs X body (upS X.K CT E mb))
    (hs : ∀ x, foldedSetIterable iter X.env x = pure x := by intro _; rfl) : L2.PS X (.For tg iter body [] pos) (upS X.K CT E (sFor mi g mb)) :=
  ps_imp (ps_for hx.po hx.calm hi hg hb hs) fun D σ H ⟨F, as, s, n, h⟩ => by
    refine upI_seq n h trivial fun J it s1 F1 as1 H1 e1 n1 r1 h1 => ?_
    generalize hk : s1.w.length = k at h1
    have hk' : as1.length = k := by rw [← n1.wk.len]; exact hk
    refine ⟨fun i m σ H => ∃ F as s, Env X.K CT F as H σ s ∧ as.length = k ∧ ItOk X.K CT F as J it ∧ Out X.K CT (fun _ => True) E F as (forGo it k g mb m i s) fun f _ F' as' σ' H' => match f with
      | .nx => D.nx σ' H'
      | .bk => D.bk σ' H'
      | .ct => D.ct σ' H'
      | .rt x => ∀ v, RepS X.K CT F' as' v x → D.rt v H', ⟨it.fuel s1, F1, as1, s1, n1, hk', r1, h1⟩, ?_⟩
    rintro i m σ H ⟨F, as, s, n, hl, r, h⟩
    cases q : it.at s i with
    | none => cases m <;> (unfold forGo at h; simp only [q] at h; exact h.elim)
    | some o =>
      cases o with
      | none =>
        refine .inl ⟨It'.stop n r q, ?_⟩
        cases m <;> (unfold forGo at h; simp only [q] at h; exact h.here trivial n)
      | some x =>
        cases m with
        | zero => unfold forGo at h; simp only [q] at h; exact h.elim
        | succ m =>
          unfold forGo at h
          simp only [q] at h
          refine .inr ⟨It'.go n r q, fun σ' H' => ∃ F as s, Env X.K CT F as H' σ' s ∧ as.length = k ∧ ItOk X.K CT F as J it ∧ Out X.K CT (fun _ => True) E F as (forGo it k g mb m (i + 1) s) fun f _ F' as' σ' H' => match f with
            | .nx => D.nx σ' H'
            | .bk => D.bk σ' H'
            | .ct => D.ct σ' H'
            | .rt x => ∀ v, RepS X.K CT F' as' v x → D.rt v H', fun σ' H' z => ⟨m, Nat.lt_succ_self m, z⟩, fun v H' y => ?_⟩
          obtain ⟨F, e0, n, rv⟩ := It'.yld n r q y
          replace r := r.mono e0
          replace h := Out.ext e0 h
          refine ⟨F, as, s, .d x, n, rv, (h.bind0 fun _ _ => trivial).imp (fun _ z => z) fun _ s2 F2 as2 σ2 H2 _ _ e2 n2 h2 _ => ?_⟩
          refine ⟨F2, as2, s2, n2, ((Out.ext e2 h2).bind0 fun _ _ => trivial).imp (fun _ z => z) fun f s3 F3 as3 σ3 H3 qb _ e3 n3 h3 => ?_⟩
          rw [qb] at h2
          have h2 : Out X.K CT (fun _ => True) E F as (match f with
            | .nx => match trunc k s3 with
              | some s => forGo it k g mb m (i + 1) s
              | none => .stuck
            | .ct => match trunc k s3 with
              | some s => forGo it k g mb m (i + 1) s
              | none => .stuck
            | .bk => .ok .nx s3
            | .rt x => .ok (.rt x) s3) _ := h2
          have next : Out X.K CT (fun _ => True) E F as (match trunc k s3 with
              | some s => forGo it k g mb m (i + 1) s
              | none => .stuck) (fun f _ F' as' σ' H' => match f with
            | .nx => D.nx σ' H'
            | .bk => D.bk σ' H'
            | .ct => D.ct σ' H'
            | .rt x => ∀ v, RepS X.K CT F' as' v x → D.rt v H') → ∃ F as s, Env X.K CT F as H3 σ3 s ∧ as.length = k ∧ ItOk X.K CT F as J it ∧ Out X.K CT (fun _ => True) E F as (forGo it k g mb m (i + 1) s) fun f _ F' as' σ' H' => match f with
            | .nx => D.nx σ' H'
            | .bk => D.bk σ' H'
            | .ct => D.ct σ' H'
            | .rt x => ∀ v, RepS X.K CT F' as' v x → D.rt v H' := fun w => by
            cases qt : trunc k s3 with
            | none => simp only [qt] at w; exact w.elim
            | some s4 =>
              simp only [qt] at w
              have e := e2.trans e3
              have n4 := n3.trunc qt
              rw [take_ext e hl] at n4
              have ef : Ext F as F3 as := Ext.sub e.1
              exact ⟨F3, as, s4, n4, hl, r.mono ef, Out.ext ef w⟩
          cases f with
          | nx => exact next h2
          | ct => exact next h2
          | bk => exact Out.there h2 trivial (e2.trans e3) n3
          | rt x => exact Out.there h2 trivial (e2.trans e3) n3
/-! ### sources -/
variable {a b : Expr} {tg : Expr} {m m' : ME}
theorem PI.or {e : Expr} {t t' : TI} (h : PI X tg e t) (h' : PI X tg e t') : PI X tg e (fun σ H R => t σ H R ∨ t' σ H R) := ⟨fun pins s σ H R I q => by
  rcases q with q | q
  · exact h.run pins s σ H R I q
  · exact h'.run pins s σ H R I q⟩
/-- a list or a tuple, by what the mirror says it is -/
theorem mi_seq (h : PE X a (up X.K CT E m)) : PI X tg a (upI X.K CT E (jSeq m)) :=
  PI.imp (PI.or (pi_list h) (PI.or (pi_tup h) (pi_str h))) fun σ H R ⟨F, as, s, n, o⟩ => by
    cases q : m s with
    | err e s1 =>
      rw [jSeq, q] at o
      exact .inl ⟨F, as, s, n, by rw [q]; exact o⟩
    | stuck =>
      rw [jSeq, q] at o
      exact o.elim
    | ok x s1 =>
      rw [jSeq, q, bind_ok] at o
      cases x with
      | d y =>
        cases y with
        | lst xs => exact .inl ⟨F, as, s, n, by
            rw [q]
            intro F1 as1 σ1 H1 o1 e1 n1 v r
            subst o1
            have r : Rep X.K CT F1 v (.lst xs) := r
            cases r with
            | lst q1 q2 => exact ⟨_, rfl, ⟨_, SqL.of (n1.sub _ _ q1)⟩, o.there (σ := σ1) rfl e1 n1 _ (.inl ⟨_, _, rfl, SqL.of q1, q2⟩)⟩⟩
        | str z => exact .inr (.inr ⟨F, as, s, n, by
            rw [q]
            intro F1 as1 σ1 H1 o1 e1 n1 v r
            subst o1
            have r : Rep X.K CT F1 v (.str z) := r
            cases r with
            | str _ q1 q2 => exact ⟨z, rfl, o.there (σ := σ1) rfl e1 n1 _ (.inr (.inr ⟨z, rfl, rfl, q2⟩))⟩⟩)
        | tup xs => exact .inr (.inl ⟨F, as, s, n, by
            rw [q]
            intro F1 as1 σ1 H1 o1 e1 n1 v r
            subst o1
            have r : Rep X.K CT F1 v (.tup xs) := r
            cases r with
            | tup q1 q2 => exact ⟨_, rfl, ⟨_, SqT.of (n1.sub _ _ q1)⟩, o.there (σ := σ1) rfl e1 n1 _ (.inr (.inl ⟨_, _, rfl, SqT.of q1, q2⟩))⟩⟩)
        | _ => exact o.elim
      | cell k =>
        cases w : s1.w[k]? with
        | none => simp only [w] at o; exact o.elim
        | some c =>
          cases c with
          | lst xs =>
            simp only [w] at o
            exact .inl ⟨F, as, s, n, by
              rw [q]
              intro F1 as1 σ1 H1 o1 e1 n1 v r
              subst o1
              obtain ⟨b, hb, rfl⟩ := r
              obtain ⟨a', vs, ha, hf, hh, rr⟩ := n1.cell w
              rw [hb] at ha
              cases ha
              exact ⟨_, rfl, ⟨_, SqL.of hh⟩, o.there (σ := σ1) rfl e1 n1 _ ⟨_, hb, rfl⟩⟩⟩
          | _ => simp only [w] at o; exact o.elim
theorem rngOk_of {i : Int} (h : rngOk i = true) : -(2 ^ 62) ≤ i ∧ i < 2 ^ 62 := by
  unfold rngOk at h
  rw [Bool.and_eq_true] at h
  exact ⟨of_decide_eq_true h.1, of_decide_eq_true h.2⟩
theorem mi_rng1 (hm : X.mg "range" = none) (h : PE X a (up X.K CT E m)) (hg : Gl X "range") (h1 : starEach [a] X.env = (false, eval a X.env) :: starEach [] X.env := by rfl) (hs : starEach [a] X.env = [(false, eval a X.env)] := by rfl) : PI X tg (.Call (.Name "range" p) [a] [] pos) (upI X.K CT E (jRng1 m)) :=
  PI.imp (pi_range1 hg hm (pa_cons h pa_nil h1) hs) fun σ H R ⟨F, as, s, n, h⟩ => by
    refine up_seq n h rfl fun v x s1 F1 as1 H1 e1 n1 r1 h1 => ?_
    cases x with
    | d y =>
      cases y with
      | int j =>
        have r1 : Rep X.K CT F1 v (.int j) := r1
        cases r1
        by_cases q : rngOk j = true
        · simp only [q, if_true] at h1
          obtain ⟨q1, q2⟩ := rngOk_of q
          exact ⟨j, rfl, q1, q2, h1.here (σ := σ) rfl n1 _ rfl⟩
        · simp only [q] at h1; exact h1.elim
      | _ => exact h1.elim
    | cell k => exact h1.elim
/-! ### comprehensions -/
theorem wipeG_len (vs : List Nat) (g : List (Option SV)) : (wipeG vs g).length = g.length := by
  induction vs with
  | nil => rfl
  | cons v vs ih => show ((wipeG vs g).set v none).length = _; rw [List.length_set, ih]
theorem wipeG_some {g : List (Option SV)} {i : Nat} {x : SV} : ∀ {vs : List Nat}, (wipeG vs g)[i]? = some (some x) → g[i]? = some (some x) ∧ i ∉ vs
  | [], h => ⟨h, by simp⟩
  | v :: vs, h => by
    have h : ((wipeG vs g).set v none)[i]? = some (some x) := h
    by_cases hi : v = i
    · subst hi
      by_cases hv : v < (wipeG vs g).length
      · rw [List.getElem?_set_self hv] at h; cases h
      · rw [List.getElem?_eq_none (by simpa using hv)] at h; cases h
    · rw [List.getElem?_set_ne hi] at h
      obtain ⟨h1, h2⟩ := wipeG_some h
      exact ⟨h1, by simp only [List.mem_cons, not_or]; exact ⟨fun e => hi e.symm, h2⟩⟩
theorem wipe_keep {σ : Sto} {i : Nat} : ∀ {vs : List Nat}, i ∉ vs → (wipe σ vs)[i]? = σ[i]?
  | [], _ => rfl
  | v :: vs, h => by
    have h1 : v ≠ i := fun e => h (by rw [e]; exact List.mem_cons_self)
    have h2 : i ∉ vs := fun m => h (List.mem_cons_of_mem _ m)
    unfold wipe
    rw [List.getElem?_set_ne h1]
    exact wipe_keep h2
theorem Env.wipe {K : PySem.W.Frag} {F H : Hp} {as : List Addr} {σ : Sto} {s : PS} (n : Env K CT F as H σ s) (vs : List Nat) : Env K CT F as H (L2.wipe σ vs) { s with g := wipeG vs s.g } := by
  refine ⟨n.sub, n.wk, by rw [wipeG_len, wipe_length]; exact n.gl, fun i x h => ?_⟩
  obtain ⟨h1, h2⟩ := wipeG_some h
  obtain ⟨v, h3, h4⟩ := n.sl i x h1
  exact ⟨v, by rw [wipe_keep h2]; exact h3, h4⟩
/-- the slots that a block has left, wiped again -/
theorem Env.wiped {K : PySem.W.Frag} {F H : Hp} {as : List Addr} {σ σ2 : Sto} {s : PS} (n : Env K CT F as H σ2 s) {vs : List Nat} (e : L2.wipe σ2 vs = L2.wipe σ vs) : Env K CT F as H (L2.wipe σ vs) { s with g := wipeG vs s.g } := by
  rw [← e]
  exact n.wipe vs
theorem backG_len (vs : List Nat) (g0 g : List (Option SV)) : (backG vs g0 g).length = g.length := by
  induction vs with
  | nil => rfl
  | cons v vs ih => show ((backG vs g0 g).set v _).length = _; rw [List.length_set, ih]
theorem backG_some {g0 g : List (Option SV)} {i : Nat} {x : SV} : ∀ {vs : List Nat}, (backG vs g0 g)[i]? = some (some x) → (i ∈ vs ∧ ∃ y, x = .d y ∧ g0[i]? = some (some (.d y))) ∨ (i ∉ vs ∧ g[i]? = some (some x))
  | [], h => .inr ⟨by simp, h⟩
  | v :: vs, h => by
    have h : ((backG vs g0 g).set v (match g0[v]? with
      | some (some (.d x)) => some (.d x)
      | _ => none))[i]? = some (some x) := h
    by_cases hi : v = i
    · subst hi
      by_cases hv : v < (backG vs g0 g).length
      · rw [List.getElem?_set_self hv] at h
        left
        refine ⟨List.mem_cons_self, ?_⟩
        split at h
        · rename_i y q
          simp only [Option.some.injEq] at h
          exact ⟨y, h.symm, q⟩
        · cases h
      · rw [List.getElem?_eq_none (by simpa using hv)] at h; cases h
    · rw [List.getElem?_set_ne hi] at h
      rcases backG_some h with ⟨h1, h2⟩ | ⟨h1, h2⟩
      · exact .inl ⟨List.mem_cons_of_mem _ h1, h2⟩
      · exact .inr ⟨by simp only [List.mem_cons, not_or]; exact ⟨fun e => hi e.symm, h1⟩, h2⟩
theorem Env.back {K : PySem.W.Frag} {F F0 H H0 : Hp} {as as0 : List Addr} {σ : Sto} {s s0 : PS} {vs : List Nat} (n : Env K CT F as H (L2.wipe σ vs) s) (n0 : Env K CT F0 as0 H0 σ s0) (e : Sub F0 F) : Env K CT F as H σ { s with g := backG vs s0.g s.g } := by
  refine ⟨n.sub, n.wk, by rw [backG_len, n.gl, wipe_length], fun i x h => ?_⟩
  rcases backG_some h with ⟨h1, y, rfl, h2⟩ | ⟨h1, h2⟩
  · obtain ⟨v, h3, h4⟩ := n0.sl i _ h2
    exact ⟨v, h3, Rep.mono K CT e y v h4⟩
  · obtain ⟨v, h3, h4⟩ := n.sl i x h2
    rw [wipe_keep h1] at h3
    exact ⟨v, h3, h4⟩
abbrev EF : Sto → XK := fun _ _ _ _ => False
theorem Out.ns {α : Type} {K : PySem.W.Frag} {F : Hp} {as : List Addr} {ok : Sto → Prop} {r : R α} {Q : α → PS → Hp → List Addr → Sto → Hp → Prop} (h : Out K CT ok E F as r Q) : r ≠ .stuck := fun e => by rw [e] at h; exact h
/-- the reading of a comprehension whose list is a cell -/
theorem lc_read {mi : MI} {own : List Nat} {g : MG} {t : MT} {e : ME} {σ : Sto} {H : Hp} {Q : VK} (h : up X.K CT E (vLcN mi own g t e) σ H Q) :
    tLc (upI X.K CT E mi) (upG X.K CT (fun σ => L2.wipe σ own) EF g) (upT X.K CT EF t) (up X.K CT EF e) own σ H Q := by
  obtain ⟨F, as, s, n, h⟩ := h
  refine upI_seq n h rfl fun J it s1 F1 as1 H1 e1 n1 r1 h1 => ?_
  intro D hD
  obtain ⟨eN, nN⟩ := n1.newC (p := D) (vs := []) (xs := []) hD .nil
  generalize hk : s1.w.length = k at h1
  have hk' : as1.length = k := by rw [← n1.wk.len]; exact hk
  let Qf : SV → PS → Hp → List Addr → Sto → Hp → Prop := fun x _ F' as' _ H' => ∀ v, RepS X.K CT F' as' v x → Q v H'
  let P : Nat → Nat → Hp → Prop := fun i m H => ∃ F s, Sub F1 F ∧ Env X.K CT F (as1 ++ [D]) H (L2.wipe σ own) s ∧ Out X.K CT (fun σ' => σ' = σ) E F1 as1 ((lcGo it k own g t e m i s).bind fun _ s' => .ok (.cell k) { s' with g := backG own s1.g s'.g }) Qf
  refine ⟨P, ⟨it.fuel s1, F1, _, Sub.refl F1, nN.wipe own, h1⟩, ?_⟩
  rintro i m H ⟨F, s, eF, n, h⟩
  have eD : Ext F1 as1 F (as1 ++ [D]) := ⟨eF, [D], rfl⟩
  have r := r1.mono eD
  have stop : it.at s i = some none → lcGo it k own g t e m i s = .ok () s → (J.stop i H ∧ Q (.ref D) H) := fun q hq => by
    rw [hq] at h
    refine ⟨It'.stop n r q, ?_⟩
    exact Out.there h (σ := σ) rfl eD (n.back n1 eF) _ ⟨D, by rw [← hk', List.getElem?_append_right (Nat.le_refl _)]; simp, rfl⟩
  cases q : it.at s i with
  | none => cases m <;> (unfold lcGo at h; simp only [q] at h; exact h.elim)
  | some o =>
    cases o with
    | none =>
      refine .inl ?_
      cases m with
      | zero => exact stop q (by unfold lcGo; simp only [q])
      | succ m => exact stop q (by unfold lcGo; simp only [q])
    | some x =>
      cases m with
      | zero => unfold lcGo at h; simp only [q] at h; exact h.elim
      | succ m =>
        unfold lcGo at h
        simp only [q] at h
        refine .inr ⟨It'.go n r q, P (i + 1) m, fun H' z => ⟨m, Nat.lt_succ_self m, z⟩, fun v H' y => ?_⟩
        obtain ⟨F, e0, n, rv⟩ := It'.yld n r q y
        replace r := r.mono e0
        replace eF := eF.trans e0.1
        replace eD := eD.trans e0
        -- the turn's outcome is known part by part
        have ns1 := h.ns
        cases qg : g (.d x) s with
        | err => rw [qg] at h; exact h.elim
        | stuck => rw [qg] at h; exact h.elim
        | ok u s2 =>
          rw [qg, nox_ok, bind_ok] at h
          refine ⟨F, _, s, .d x, n, rv, ?_⟩
          rw [qg]
          intro F2 as2 σ2 H2 o2 e2 n2 hφ
          have w2 : L2.wipe σ2 own = L2.wipe σ own := by
            have o2 : L2.wipe σ2 own = L2.wipe (L2.wipe σ own) own := o2
            have id : ∀ (vs : List Nat), (∀ v ∈ vs, v ∈ own) → L2.wipe (L2.wipe σ own) vs = L2.wipe σ own := by
              intro vs
              induction vs with
              | nil => intro _; rfl
              | cons v vs ih =>
                intro hv
                show (L2.wipe (L2.wipe σ own) vs).set v none = _
                rw [ih fun w hw => hv w (List.mem_cons_of_mem _ hw)]
                refine List.ext_getElem? fun j => ?_
                by_cases hj : v = j
                · subst hj
                  by_cases hl : v < (L2.wipe σ own).length
                  · rw [List.getElem?_set_self hl]
                    cases z : (L2.wipe σ own)[v]? with
                    | none => rw [List.getElem?_eq_getElem hl] at z; cases z
                    | some o =>
                      cases o with
                      | none => rfl
                      | some a => exact absurd (hv v List.mem_cons_self) (wipe_some z).2
                  · rw [List.getElem?_eq_none (by simpa using hl), List.getElem?_eq_none (by simpa using hl)]
                · rw [List.getElem?_set_ne hj]
            rw [o2]
            exact id own fun _ z => z
          refine ⟨w2, ?_⟩
          cases qt : t s2 with
          | err => rw [qt] at h; exact h.elim
          | stuck => rw [qt] at h; exact h.elim
          | ok c s3 =>
            rw [qt, nox_ok, bind_ok] at h
            refine ⟨F2, as2, s2, n2, ?_⟩
            rw [qt]
            intro F3 as3 σ3 H3 o3 e3 n3
            subst o3
            have e23 : Ext F (as1 ++ [D]) F3 as3 := e2.trans e3
            have hl1 : (as1 ++ [D]).length = k + 1 := by rw [List.length_append, hk']; rfl
            cases c with
            | false =>
              simp only [Bool.false_eq_true, if_false] at h ⊢
              cases qr : trunc (k + 1) s3 with
              | none => rw [qr] at h; exact h.elim
              | some s4 =>
                simp only [qr] at h
                have n4 := n3.trunc qr
                rw [take_ext e23 hl1] at n4
                exact ⟨F3, _, eF.trans e23.1, n4.wiped w2, h⟩
            | true =>
              simp only [if_true] at h ⊢
              cases qe : e s3 with
              | err => rw [qe] at h; exact h.elim
              | stuck => rw [qe] at h; exact h.elim
              | ok z s4 =>
                rw [qe, nox_ok, bind_ok] at h
                refine ⟨F3, as3, s3, n3, ?_⟩
                rw [qe]
                intro F4 as4 σ4 H4 o4 e4 n4 w rw'
                subst o4
                cases qz : frz s4 z with
                | none => simp only [qz] at h; exact h.elim
                | some pp =>
                  obtain ⟨yd, s5⟩ := pp
                  simp only [qz] at h
                  obtain ⟨F5, e5, q5, n5⟩ := n4.frz rw' qz
                  cases qw : s5.w[k]? with
                  | none => simp only [qw] at h; exact h.elim
                  | some c =>
                    cases c with
                    | lst acc =>
                      simp only [qw] at h
                      by_cases hz : acc.length < sizeLine
                      · simp only [hz, if_true] at h
                        have e05 : Ext F (as1 ++ [D]) F5 as4 := e23.trans (e4.trans e5)
                        obtain ⟨aD, vs, ha, hf, hh, rr⟩ := n5.cell qw
                        have hD' : as4[k]? = some D := e05.at (by rw [← hk', List.getElem?_append_right (Nat.le_refl _)]; simp)
                        rw [hD'] at ha
                        cases ha
                        refine ⟨vs, hh, by rw [rr.length]; exact hz, ?_⟩
                        have n6 := n5.setC (ws := vs ++ [w]) (ys := acc ++ [yd]) qw hD' hf (rr.append (.one q5))
                        cases qr : trunc (k + 1) { s5 with w := s5.w.set k (.lst (acc ++ [yd])) } with
                        | none => rw [qr] at h; exact h.elim
                        | some s6 =>
                          simp only [qr] at h
                          have n7 := n6.trunc qr
                          rw [take_ext e05 hl1] at n7
                          exact ⟨F5, _, eF.trans e05.1, n7.wiped w2, h⟩
                      · simp only [hz, if_false] at h; exact h.elim
                    | _ => simp only [qw] at h; exact h.elim
end
end Bf
/-! The mirror layer: comprehensions as terms, calls of defs, a def's promise. -/
namespace Bf
open PySem PySem.Spec PyProof.Rows L2
section
variable {X : Cx} {CT : Ctx} {E : Sto → XK} {pos p spos : Pos}
/-! ### comprehensions -/
theorem mts_nil {X : Cx} {E : Sto → XK} : PTs X [] (upT X.K CT E cYes) := ⟨fun pins s σ H Q I ⟨F, as, S, n, h⟩ => pts_nil.run pins s σ H Q I (h.here rfl n)⟩
theorem mts_one {X : Cx} {E : Sto → XK} {c : Expr} {t : MT} (h : PT X c (upT X.K CT E t)) : PTs X [c] (upT X.K CT E t) := pts_one h
/-- a block's context -/
abbrev Bk (X : Cx) (scope : Scope) (s : Shared) (H : Hp) (C : Addr) (cl : List (Str × Addr)) (fp : List Addr) : Cx := X.blk s H scope (compEnvC scope cl C X.env) fp
theorem bk_cq (hx : Cq X E) {scope : Scope} {s : Shared} {H : Hp} {C : Addr} {cl : List (Str × Addr)} {fp : List Addr} : Cq (Bk X scope s H C cl fp) EF := ⟨hx.calm, PassesOwn.never, fun _ => passAt0, hx.nd, LamX.takes0⟩
variable {elt tg iter : Expr} {ifs : List Expr} {scope : Scope} {own : List (Str × Nat)} {mi : MI} {g : MG} {t : MT} {e : ME}
theorem me_lcN (hx : Cq X E) (hi : PI X tg iter (upI X.K CT E mi)) (ok : BlkOk X.N X.env.scope scope own)
    (hg : ∀ s H C cl fp, PG (Bk X scope s H C cl fp) tg (upG X.K CT (fun σ => L2.wipe σ (own.map (·.2))) EF g)) (ht : ∀ s H C cl fp, PTs (Bk X scope s H C cl fp) ifs (upT X.K CT EF t))
    (he : ∀ s H C cl fp, PE (Bk X scope s H C cl fp) elt (up X.K CT EF e)) (hs : ∀ x, foldedSetIterable iter X.env x = pure x := by intro _; rfl) :
    PE X (.ListComp elt [⟨tg, iter, ifs, 0⟩] scope pos) (up X.K CT E (vLcN mi (own.map (·.2)) g t e)) :=
  PE.imp (pe_lc hx.calm hx.nd hi ok hg ht he hs) fun _ _ _ h => lc_read h
/-- .. frozen at once -/
theorem ms_setLc {i : Nat} {y : Str} {py : Pos} (hx : Cq X E) (hy : X.N[i]? = some y) (hyl : X.env.scope.names.lookup y = some .local)
    (hsw : swapsWith (.ListComp elt [⟨tg, iter, ifs, 0⟩] scope pos) (some (.Name y py)) spos.line X.env = pure true) (hi : PI X tg iter (upI X.K CT E mi)) (ok : BlkOk X.N X.env.scope scope own)
    (hg : ∀ s H C cl fp, PG (Bk X scope s H C cl fp) tg (upG X.K CT (fun σ => L2.wipe σ (own.map (·.2))) EF g)) (ht : ∀ s H C cl fp, PTs (Bk X scope s H C cl fp) ifs (upT X.K CT EF t))
    (he : ∀ s H C cl fp, PE (Bk X scope s H C cl fp) elt (up X.K CT EF e)) (hs : ∀ x, foldedSetIterable iter X.env x = pure x := by intro _; rfl) :
    L2.PS X (.Assign [.Name y py] (.ListComp elt [⟨tg, iter, ifs, 0⟩] scope pos) spos) (upS X.K CT E (sAsg (vFrz (vLcN mi (own.map (·.2)) g t e)) (hName i))) :=
  ps_imp (L2.ps_setLc hx.calm hx.nd hy hyl hsw hi ok hg ht he hs) fun D σ H ⟨F, as, s, n, h⟩ => by
    refine lc_read (Q := fun x H1 => D.nx (σ.set i (some x)) H1) ?_
    have h : Out X.K CT (fun _ => True) E F as (((vLcN mi (own.map (·.2)) g t e s).bind fun x s => R.of ((frz s x).map fun p => SV.d p.1) (match frz s x with
      | some p => p.2
      | none => s)).bind fun x s => (hName i x s).bind fun _ s => R.ok Fl.nx s) _ := h
    have as1 : ∀ (r : R SV), (r.bind fun x s => R.of ((frz s x).map fun p => SV.d p.1) (match frz s x with
      | some p => p.2
      | none => s)).bind (fun x s => (hName i x s).bind fun _ s => R.ok Fl.nx s) = r.bind fun x s => (R.of ((frz s x).map fun p => SV.d p.1) (match frz s x with
      | some p => p.2
      | none => s)).bind fun x s => (hName i x s).bind fun _ s => R.ok Fl.nx s := fun r => by cases r <;> rfl
    rw [as1] at h
    refine up_seq n h trivial fun v x s1 F1 as1 H1 e1 n1 r1 h1 => ?_
    cases q : frz s1 x with
    | none => simp only [q] at h1; exact h1.elim
    | some pp =>
      obtain ⟨y, s2⟩ := pp
      simp only [q] at h1
      obtain ⟨F2, e2, q2, n2⟩ := n1.frz r1 q
      have h1 : Out X.K CT (fun _ => True) E F1 as1 ((hName i (.d y) s2).bind fun _ s => R.ok Fl.nx s) _ := h1
      unfold hName at h1
      split at h1
      · rename_i hl
        have q2' : RepS X.K CT F2 as1 v (.d y) := q2
        exact Out.there h1 (σ := σ.set i (some v)) trivial e2 (n2.setG q2' hl)
      · exact h1.elim
/-! ### a def's promise -/
/-- the promise: what the mirror f says -/
def spF (K : PySem.W.Frag) (CT : Ctx) (n : Nat) (f : Fn) : Sp := fun vs H Q E => vs.length = n ∧ ∃ F as w xs, Sub F H ∧ Wk K CT F as H w ∧ RepSs K CT F as vs xs ∧ match f xs w with
  | .ok x w' => ∀ v F' as' H', Ext F as F' as' → Sub F' H' → Wk K CT F' as' H' w' → RepS K CT F' as' v x → Q v H'
  | .err e w' => ∀ c dx F' as' H', Ext F as F' as' → Sub F' H' → Wk K CT F' as' H' w' → ExcOk K CT F' H' e c dx → E c dx H'
  | .stuck => False
/-- the def at fa keeps it -/
abbrev Fq (P : Program) (w : World) (K : PySem.W.Frag) (mg : Str → Option Value) (base : Heap) (CT : Ctx) (k : Nat) (fa : Addr) (fd : FuncData) (ps : List Str) (f : Fn) : Prop := FnOk P w K mg base (L2.CX P w) k fa fd ps (spF K CT ps.length f)
variable {x : Str} {k : Nat} {fa : Addr} {fd : FuncData} {ps : List Str} {f : Fn} {a : Expr} {es : List Expr} {mr : MA}
theorem call_read {σ : Sto} {H : Hp} {Q : VK} {n : Nat} (hl : ∀ s xs s', mr s = .ok xs s' → xs.length = n) (h : up X.K CT E (vCall f mr) σ H Q) : tCallS (spF X.K CT n f) E (upA X.K CT E mr) σ H Q := by
  obtain ⟨F, as, s, n1, h⟩ := h
  refine ⟨F, as, s, n1, (h.bind (ok := fun σ' => σ' = σ) fun _ z => z).imp (fun _ z => z) fun xs s1 F1 as1 σ1 H1 q0 o1 e1 n2 h1 vs r1 => ?_⟩
  subst o1
  refine ⟨by rw [r1.length]; exact hl _ _ _ q0, F1, as1, s1.w, xs, n2.sub, n2.wk, r1, ?_⟩
  have env : ∀ {w : List Cell} {F' : Hp} {as' : List Addr} {H' : Hp}, Ext F1 as1 F' as' → Sub F' H' → Wk X.K CT F' as' H' w → Env X.K CT F' as' H' σ1 { s1 with w := w } := fun ex sb wk => ⟨sb, wk, n2.gl, fun i x hx => by
    obtain ⟨v, h1, h2⟩ := n2.sl i x hx
    exact ⟨v, h1, h2.mono ex⟩⟩
  cases q : f xs s1.w with
  | ok x w =>
    simp only [q] at h1
    exact fun v F' as' H' ex sb wk r => h1.there (σ := σ1) rfl ex (env ex sb wk) v r
  | err e w =>
    simp only [q] at h1
    exact fun c dx F' as' H' ex sb wk r => h1 c dx F' as' σ1 H' rfl ex (env ex sb wk) r
  | stuck =>
    simp only [q] at h1
    exact h1.elim
/-- f(a, ..) -/
theorem me_call (hx : Cq X E) (Fk : Fq X.prog X.w X.K X.mg X.base CT k fa fd ps f) (hm : X.mg x = some (.ref fa)) (hk : PySem.W.keepIn X.K (.ref fa) = true) (hb : Binds X.K fd ps []) (hr : Room k X.A) (hg : Gl X x)
    (ha : PA X (a :: es) (upA X.K CT E mr)) (hl : ∀ s xs s', mr s = .ok xs s' → xs.length = ps.length) (hdb : (x == ("__debug__" : Str)) = false := by decide) (he : starEach (a :: es) X.env = (false, eval a X.env) :: starEach es X.env := by rfl) (hpl : (backTo pos (starEach es X.env)).any (·.1) = false := by rfl) :
    PE X (.Call (.Name x p) (a :: es) [] pos) (up X.K CT E (vCall f mr)) :=
  PE.imp (pe_callS (E := E) Fk hr hg hm hk hb hx.pass ha hdb he hpl) fun _ _ _ h => call_read hl h
theorem len_nil : ∀ s xs s', aNil s = .ok xs s' → xs.length = 0 := fun s xs s' h => by
  cases h
  rfl
theorem len_cons {m : ME} {n : Nat} (h : ∀ s xs s', mr s = .ok xs s' → xs.length = n) : ∀ s xs s', aCons m mr s = .ok xs s' → xs.length = n + 1 := fun s xs s' q => by
  unfold aCons at q
  cases q1 : m s with
  | ok x s1 =>
    rw [q1, bind_ok] at q
    cases q2 : mr s1 with
    | ok ys s2 =>
      rw [q2, bind_ok] at q
      cases q
      rw [List.length_cons, h _ _ _ q2]
    | err => rw [q2] at q; cases q
    | stuck => rw [q2] at q; cases q
  | err => rw [q1] at q; cases q
  | stuck => rw [q1] at q; cases q
end
section
variable {P : Program} {w : World} {K : PySem.W.Frag} {mg : Str → Option Value} {base : Heap} {CT : Ctx} {k : Nat} {fa : Addr} {fd : FuncData} {x qual : Str} {st : Stmt} {N ps : List Str} {mb : MS}
theorem RepSs.get {F : Hp} {as : List Addr} {vs : List V} {xs : List SV} (r : RepSs K CT F as vs xs) : ∀ {i : Nat} {y : SV}, xs[i]? = some y → ∃ v, vs[i]? = some v ∧ RepS K CT F as v y := by
  induction r with
  | nil => intro i y h; simp at h
  | cons h1 _ ih =>
    intro i y h
    cases i with
    | zero =>
      simp at h
      subst h
      exact ⟨_, rfl, h1⟩
    | succ i =>
      obtain ⟨v, e, q⟩ := ih (i := i) (y := y) (by simpa using h)
      exact ⟨v, by simpa using e, q⟩
theorem retW_take {n : Nat} {x y : SV} {w w' : List Cell} {F H : Hp} {as : List Addr} {v : V} (wk : Wk K CT F as H w) (r : RepS K CT F as v x) (h : retW n x w = some (y, w')) (hn : n ≤ w.length) :
    ∃ as', (as'.take n = as.take n) ∧ n ≤ as'.length ∧ Wk K CT F as' H w' ∧ RepS K CT F as' v y := by
  unfold retW at h
  split at h
  · rename_i hb
    cases x with
    | d z =>
      simp only [Option.some.injEq, Prod.mk.injEq] at h
      obtain ⟨rfl, rfl⟩ := h
      exact ⟨as.take n, by rw [List.take_take, Nat.min_self], by rw [List.length_take, ← wk.len]; omega, wk.take n hb, r⟩
    | cell k =>
      dsimp only at h
      split at h
      · rename_i hk
        simp only [Option.some.injEq, Prod.mk.injEq] at h
        obtain ⟨rfl, rfl⟩ := h
        exact ⟨as.take n, by rw [List.take_take, Nat.min_self], by rw [List.length_take, ← wk.len]; omega, wk.take n hb, below_mono (decide_eq_true hk) r⟩
      · rename_i hk
        cases q : w[k]? with
        | none => simp only [q] at h; cases h
        | some c =>
          simp only [q] at h
          split at h
          · rename_i hc
            simp only [Option.some.injEq, Prod.mk.injEq] at h
            obtain ⟨rfl, rfl⟩ := h
            obtain ⟨a, ha, rfl⟩ := r
            have t := wk.take n hb
            have l1 : (w.take n).length = n := by rw [List.length_take]; omega
            have l2 : (as.take n).length = n := by rw [← t.len]; exact l1
            have na : a ∉ as.take n := fun m => by
              obtain ⟨j, hj⟩ := List.getElem?_of_mem m
              have hjn : j < n := by
                have := (List.getElem?_eq_some_iff.mp hj).1
                omega
              rw [List.getElem?_take_of_lt hjn] at hj
              have := nodup_at wk.nd hj ha
              omega
            refine ⟨as.take n ++ [a], by rw [List.take_append_of_le_length (by omega), List.take_take, Nat.min_self], by simp [l2], ⟨by simp [l1, l2], List.nodup_append.mpr ⟨t.nd, by simp, fun b m d md => ?_⟩, wk.tb.sub (fun b m => (List.mem_append.mp m).elim (fun z => List.mem_of_mem_take z) fun z => by rw [List.mem_singleton.mp z]; exact List.mem_of_getElem? ha), fun b m => ?_, fun j d b h1 h2 => ?_⟩, ⟨a, by rw [List.getElem?_append_right (by omega), l2]; simp, rfl⟩⟩
            · rw [List.mem_singleton] at md
              subst md
              exact fun z => na (z ▸ m)
            · rcases List.mem_append.mp m with m | m
              · exact t.live b m
              · rw [List.mem_singleton] at m
                subst m
                exact wk.live _ (List.mem_of_getElem? ha)
            · have tk : ∀ {c : Cell} {b : Addr}, cellBelow n c = true → CellOk K CT F as H b c → CellOk K CT F (as.take n ++ [a]) H b c := fun {c b} hc hh => by
                have q1 := hh.take (k := n) hc
                rcases q1.none with z | z
                · subst z; trivial
                · exact q1.mono ⟨Sub.refl F, [a], rfl⟩ z rfl
              by_cases hj : j < n
              · rw [List.getElem?_append_left (by omega)] at h1 h2
                have hcb := List.all_eq_true.mp hb d (List.mem_of_getElem? h1)
                rw [List.getElem?_take_of_lt hj] at h1 h2
                exact tk hcb (wk.ok j d b h1 h2)
              · rw [List.getElem?_append_right (by omega)] at h1 h2
                rw [l1] at h1
                rw [l2] at h2
                cases jj : j - n with
                | zero =>
                  rw [jj] at h1 h2
                  simp at h1 h2
                  subst h1 h2
                  exact tk hc (wk.ok k _ _ q ha)
                | succ m => rw [jj] at h2; simp at h2
          · cases h
  · cases h
theorem ext_of_take {F F' : Hp} {as as1 as2 : List Addr} {n : Nat} (e : Ext F as F' as1) (hn : as.length = n) (ht : as2.take n = as1.take n) (hl : n ≤ as2.length) : Ext F as F' as2 := by
  obtain ⟨e1, t, rfl⟩ := e
  refine ⟨e1, as2.drop n, ?_⟩
  rw [← hn, List.take_left] at ht
  rw [← hn]
  conv => lhs; rw [← List.take_append_drop as.length as2]
  rw [ht]
/-- THE RULE: the body's mirror is the def's -/
theorem fn_q (Fn' : Fun K x qual st fa fd) (S : FnScope N ps (defScope st)) (hN : ps.length ≤ N.length)
    (hbody : ∀ (cdv : Value) (A : Around) (outer : List PySem.Env) (s : Shared) (H : Hp) (E : XK), Room k (cxOf (L2.CX P w) P w K mg base N qual (defScope st) fa cdv A outer s H E).A → Cq (cxOf (L2.CX P w) P w K mg base N qual (defScope st) fa cdv A outer s H E) (fun _ => E) →
      PSs (cxOf (L2.CX P w) P w K mg base N qual (defScope st) fa cdv A outer s H E) (defBody st) (upS K CT (fun _ => E) mb)) :
    Fq P w K mg base CT (k + 1) fa fd ps (fnM N.length mb) := by
  refine Fn'.okX S (fun vs H Q E h => h.1) (fun cdv A outer s H vs Q E hr h => ?_)
  obtain ⟨hl, F, as, ws, xs, sub, wk, r, h⟩ := h
  let X := cxOf (L2.CX P w) P w K mg base N qual (defScope st) fa cdv A outer s H E
  have hcq : Cq X (fun _ => E) := ⟨rfl, passes_of rfl, fun σ => passAt (W := fun c d _ H => E c d H) (takes_of rfl rfl rfl rfl) σ, S.nd, takes_of rfl rfl rfl rfl⟩
  refine ⟨_, hbody cdv A outer s H E hr hcq, ?_⟩
  have hlx : vs.length = xs.length := r.length
  have env : Env K CT F as H (L2.start N vs) { g := xs.map some ++ List.replicate (N.length - xs.length) none, w := ws } := by
    refine ⟨sub, wk, ?_, fun i y hy => ?_⟩
    · unfold L2.start
      simp only [List.length_append, List.length_map, List.length_replicate]
      omega
    · have hy : (xs.map some ++ List.replicate (N.length - xs.length) none)[i]? = some (some y) := hy
      by_cases hi : i < xs.length
      · rw [List.getElem?_append_left (by simpa using hi), List.getElem?_map] at hy
        cases q : xs[i]? with
        | none => rw [q] at hy; cases hy
        | some z =>
          rw [q] at hy
          cases hy
          obtain ⟨v, h1, h2⟩ := r.get q
          refine ⟨v, ?_, h2⟩
          unfold L2.start
          rw [List.getElem?_append_left (by simp; omega), List.getElem?_map, h1]
          rfl
      · rw [List.getElem?_append_right (by simpa using hi), List.getElem?_replicate] at hy
        split at hy <;> cases hy
  refine ⟨F, as, _, env, ?_⟩
  have hw : ws.length = as.length := wk.len
  -- the wanted ends, from the mirror's outcome
  have fin : ∀ {y z : SV} {s1 : PS} {w1 : List Cell} {F' : Hp} {as' : List Addr} {H' : Hp} {σ' : Sto} {v : V}, Env K CT F' as' H' σ' s1 → Ext F as F' as' → RepS K CT F' as' v y → retW ws.length y s1.w = some (z, w1) →
      ∃ as2, Ext F as F' as2 ∧ Wk K CT F' as2 H' w1 ∧ RepS K CT F' as2 v z := fun {y z s1 w1 F' as' H' σ' v} n e rv q => by
    have hle : ws.length ≤ s1.w.length := by
      rw [n.wk.len, hw]
      obtain ⟨_, t, rfl⟩ := e
      simp
    obtain ⟨as2, h1, h2, h3, h4⟩ := retW_take n.wk rv q hle
    rw [hw] at h1 h2
    exact ⟨as2, ext_of_take e rfl h1 h2, h3, h4⟩
  unfold fnM at h
  cases q : mb { g := xs.map some ++ List.replicate (N.length - xs.length) none, w := ws } with
  | stuck => rw [q] at h; exact h.elim
  | err e s1 =>
    rw [q] at h
    intro c dx F' as' σ' H' _ ex n rx
    cases q2 : retW ws.length (.d .non) s1.w with
    | none => simp only [q2] at h; try exact h.elim
    | some pp =>
      obtain ⟨z, w1⟩ := pp
      simp only [q2] at h
      obtain ⟨as2, e2, wk2, _⟩ := fin (y := .d .non) (v := .non) n ex Rep.non q2
      exact h c dx F' as2 H' e2 n.sub wk2 rx
  | ok fl s1 =>
    rw [q] at h
    intro F' as' σ' H' _ ex n
    cases fl with
    | nx =>
      cases q2 : retW ws.length (.d .non) s1.w with
      | none => simp only [q2] at h; try exact h.elim
      | some pp =>
        obtain ⟨z, w1⟩ := pp
        simp only [q2] at h
        obtain ⟨as2, e2, wk2, r2⟩ := fin (y := .d .non) (v := .non) n ex Rep.non q2
        exact h .non F' as2 H' e2 n.sub wk2 r2
    | rt y =>
      intro v rv
      cases q2 : retW ws.length y s1.w with
      | none => simp only [q2] at h; try exact h.elim
      | some pp =>
        obtain ⟨z, w1⟩ := pp
        simp only [q2] at h
        obtain ⟨as2, e2, wk2, r2⟩ := fin n ex rv q2
        exact h v F' as2 H' e2 n.sub wk2 r2
    | bk => exact h.elim
    | ct => exact h.elim
end
end Bf
/-! The mirror layer: built-in functions and methods, slices from behind. -/
namespace Bf
open PySem PySem.Spec PyProof.Rows L2
/-! ### on data -/
def lenB : List D → Option D
  | [x] => lenD x
  | _ => none
def absB : List D → Option D
  | [.int i] => some (.int (if i < 0 then -i else i))
  | _ => none
def intB : List D → Option D
  | [.int i] => some (.int i)
  | [.bl b] => some (.int (if b then 1 else 0))
  | _ => none
def maxB : List D → Option D
  | [.int i, .int j] => some (.int (if j > i then j else i))
  | _ => none
def minB : List D → Option D
  | [.int i, .int j] => some (.int (if j < i then j else i))
  | _ => none
def tupleB : List D → Option D
  | [.lst xs] => some (.tup xs)
  | [.tup xs] => some (.tup xs)
  | _ => none
def isiB : List D → Option D
  | [x, .raw (.ty T)] => isiD T x
  | _ => none
def boolsD : List D → Option (List Bool)
  | [] => some []
  | .bl b :: r => match boolsD r with
    | some bs => some (b :: bs)
    | none => none
  | _ => none
def allB : List D → Option D
  | [.lst xs] => match boolsD xs with
    | some bs => some (.bl (bs.all id))
    | none => none
  | _ => none
def intsD : List D → Option (List Int)
  | [] => some []
  | .int b :: r => match intsD r with
    | some bs => some (b :: bs)
    | none => none
  | _ => none
def sumB : List D → Option D
  | [.lst xs] => match intsD xs with
    | some ns => some (.int ns.sum)
    | none => none
  | _ => none
section
variable {K : PySem.W.Frag} {CT : Ctx} {F H : Hp} {as : List Addr} {σ : Sto} {S : PS} {vs : List V} {v : V} {x y : D}
theorem Rdbs.one (h : Rdbs K CT F H vs [x]) : ∃ v, vs = [v] ∧ Rdb K CT F H v x := by
  cases h with
  | cons h1 h2 =>
    cases h2
    exact ⟨_, rfl, h1⟩
theorem Rdbs.two (h : Rdbs K CT F H vs [x, y]) : ∃ v w, vs = [v, w] ∧ Rdb K CT F H v x ∧ Rdb K CT F H w y := by
  cases h with
  | cons h1 h2 =>
    cases h2 with
    | cons h3 h4 =>
      cases h4
      exact ⟨_, _, rfl, h1, h3⟩
theorem reps_bools : ∀ {xs : List D} {vs : List V} {bs : List Bool}, Reps K CT F vs xs → boolsD xs = some bs → vs = bs.map V.bl
  | [], _, bs, r, e => by
    cases r
    simp only [boolsD, Option.some.injEq] at e
    subst e
    rfl
  | x :: xs, _, bs, r, e => by
    cases r with
    | cons r1 r2 =>
      cases x with
      | bl b =>
        unfold boolsD at e
        cases q : boolsD xs with
        | none => simp only [q] at e; cases e
        | some cs =>
          simp only [q, Option.some.injEq] at e
          subst e
          cases r1
          rw [reps_bools r2 q]
          rfl
      | _ => simp only [boolsD] at e; cases e
theorem reps_ints : ∀ {xs : List D} {vs : List V} {bs : List Int}, Reps K CT F vs xs → intsD xs = some bs → vs = bs.map V.int
  | [], _, bs, r, e => by
    cases r
    simp only [intsD, Option.some.injEq] at e
    subst e
    rfl
  | x :: xs, _, bs, r, e => by
    cases r with
    | cons r1 r2 =>
      cases x with
      | int b =>
        unfold intsD at e
        cases q : intsD xs with
        | none => simp only [q] at e; cases e
        | some cs =>
          simp only [q, Option.some.injEq] at e
          subst e
          cases r1
          rw [reps_ints r2 q]
          rfl
      | _ => simp only [intsD] at e; cases e
end
section
variable {X : Cx} {CT : Ctx} {E : Sto → XK} {pos p : Pos}
theorem cb_len : CallR X (.builtin "len") (rB X.K CT lenB) := callr_imp (call_len (X := X)) fun vs H Q h => by
  obtain ⟨F, as, σ, S, ds, z, n, r, e, f⟩ := h
  unfold lenB at e
  split at e
  · rename_i x
    obtain ⟨v, rfl, rv⟩ := r.one
    unfold lenD at e
    split at e
    · cases e
      obtain ⟨a, rfl, q1⟩ := rv.scr' n.sub
      exact ⟨_, _, rfl, .inl ⟨_, q1, by rw [List.length_map]⟩, f.flat n (.int _)⟩
    · cases e
      obtain ⟨rfl, hl, _⟩ := rv.str'
      exact ⟨_, _, rfl, ⟨hl, rfl⟩, f.flat n (.int _)⟩
    · cases e
      obtain ⟨a, ws, rfl, q1, r1⟩ := rv.tup' n.sub
      exact ⟨_, _, rfl, .inr ⟨ws, q1, rfl⟩, by rw [r1.length]; exact f.flat n (.int _)⟩
    · cases e
      obtain ⟨a, ws, rfl, q1, r1⟩ := rv.lst' n.sub
      exact ⟨_, _, rfl, .inl ⟨ws, SqL.of q1, rfl⟩, by rw [r1.length]; exact f.flat n (.int _)⟩
    · cases e
  · cases e
theorem cb_abs : CallR X (.builtin "abs") (rB X.K CT absB) := callr_imp (call_abs (X := X)) fun vs H Q h => by
  obtain ⟨F, as, σ, S, ds, z, n, r, e, f⟩ := h
  unfold absB at e
  split at e
  · cases e
    obtain ⟨v, rfl, rv⟩ := r.one
    obtain rfl := rv.int'
    exact ⟨_, rfl, f.flat n (.int _)⟩
  · cases e
theorem cb_int : CallR X (.type "int") (rB X.K CT intB) := callr_imp (call_int1 (X := X)) fun vs H Q h => by
  obtain ⟨F, as, σ, S, ds, z, n, r, e, f⟩ := h
  unfold intB at e
  split at e
  · cases e
    obtain ⟨v, rfl, rv⟩ := r.one
    obtain rfl := rv.int'
    exact .inl ⟨_, rfl, f.flat n (.int _)⟩
  · cases e
    obtain ⟨v, rfl, rv⟩ := r.one
    obtain rfl := rv.bl'
    exact .inr ⟨_, rfl, f.flat n (.int _)⟩
  · cases e
theorem cb_max (hc : X.calm = true) : CallR X (.builtin "max") (rB X.K CT maxB) := callr_imp (call_max2 (X := X) hc) fun vs H Q h => by
  obtain ⟨F, as, σ, S, ds, z, n, r, e, f⟩ := h
  unfold maxB at e
  split at e
  · cases e
    obtain ⟨v, w, rfl, r1, r2⟩ := r.two
    obtain rfl := r1.int'
    obtain rfl := r2.int'
    exact ⟨_, _, rfl, f.flat n (.int _)⟩
  · cases e
theorem cb_min (hc : X.calm = true) : CallR X (.builtin "min") (rB X.K CT minB) := callr_imp (call_min2 (X := X) hc) fun vs H Q h => by
  obtain ⟨F, as, σ, S, ds, z, n, r, e, f⟩ := h
  unfold minB at e
  split at e
  · cases e
    obtain ⟨v, w, rfl, r1, r2⟩ := r.two
    obtain rfl := r1.int'
    obtain rfl := r2.int'
    exact ⟨_, _, rfl, f.flat n (.int _)⟩
  · cases e
theorem cb_tuple : CallR X (.type "tuple") (rB X.K CT tupleB) := callr_imp (call_tuple_of (X := X)) fun vs H Q h => by
  obtain ⟨F, as, σ, S, ds, z, n, r, e, f⟩ := h
  unfold tupleB at e
  split at e
  · cases e
    obtain ⟨v, rfl, rv⟩ := r.one
    obtain ⟨a, ws, rfl, q1, r1⟩ := rv.lst' n.sub
    exact ⟨a, ws, rfl, .inl ⟨SqL.of q1, fun l hl => f.tup n hl r1⟩⟩
  · cases e
    obtain ⟨v, rfl, rv⟩ := r.one
    obtain ⟨a, ws, rfl, q1, r1⟩ := rv.tup' n.sub
    refine ⟨a, ws, rfl, .inr ⟨q1, ?_⟩⟩
    cases rv with
    | rep rv => exact f.flat n rv
  · cases e
/-- the built-in class of what is read -/
theorem ty_of {K : PySem.W.Frag} {F H : Hp} {as : List Addr} {σ : Sto} {S : PS} {v : V} {x : D} {t : String} (n : Env K CT F as H σ S) (r : Rdb K CT F H v x) (e : tyD x = some t) : TyX K H v (.type t) := by
  unfold tyD at e
  split at e
  · cases e
    obtain rfl := r.non'
    exact .base .non
  · cases e
    obtain rfl := r.bl'
    exact .base (.bl _)
  · cases e
    obtain rfl := r.int'
    exact .base (.int _)
  · cases e
    obtain ⟨rfl, _⟩ := r.str'
    exact .base (.str _)
  · cases e
    obtain ⟨a, ws, rfl, q1, r1⟩ := r.tup' n.sub
    rcases q1 with (q1 | ⟨o, q1⟩) | ⟨o, its, m, q1, q2, _⟩
    · exact .base (.tup q1)
    · exact .fTuple q1
    · exact .kTuple q1 q2
  · cases e
    obtain ⟨a, ws, rfl, q1, r1⟩ := r.lst' n.sub
    exact .base (.lst q1)
  · cases e
    cases r with
    | rep r =>
      cases r with
      | dK h1 h2 => exact .base (.dK (n.sub _ _ h1))
    | dic h1 h2 => exact .base (.dK h1)
  · cases e
theorem cb_isi : CallR X (.builtin "isinstance") (rB X.K CT isiB) := callr_imp (call_isi (X := X)) fun vs H Q h => by
  obtain ⟨F, as, σ, S, ds, z, n, r, e, f⟩ := h
  unfold isiB at e
  split at e
  · rename_i x T
    obtain ⟨v, w, rfl, r1, r2⟩ := r.two
    have hw : w = .ty T := by
      cases r2 with
      | rep r => cases r; rfl
    subst hw
    unfold isiD at e
    cases q1 : tyD x with
    | none => simp only [q1] at e; cases e
    | some t =>
      simp only [q1] at e
      cases q2 : kitB t T with
      | none => simp only [q2] at e; cases e
      | some b =>
        simp only [q2, Option.map_some, Option.some.injEq] at e
        subst e
        exact ⟨v, _, _, _, b, rfl, .ty T, ty_of n r1 q1, kit_ty q2, f.flat n (.bl b)⟩
  · cases e
theorem cb_all (hc : X.calm = true) : CallR X (.builtin "all") (rB X.K CT allB) := callr_imp (cr_all (X := X) hc) fun vs H Q h => by
  obtain ⟨F, as, σ, S, ds, z, n, r, e, f⟩ := h
  unfold allB at e
  split at e
  · rename_i xs
    cases q : boolsD xs with
    | none => simp only [q] at e; cases e
    | some bs =>
      simp only [q, Option.some.injEq] at e
      subst e
      obtain ⟨v, rfl, rv⟩ := r.one
      obtain ⟨a, ws, rfl, q1, r1⟩ := rv.lst' n.sub
      obtain rfl := reps_bools r1 q
      exact ⟨a, bs, rfl, SqL.of q1, f.flat n (.bl _)⟩
  · cases e
theorem cb_sum (hc : X.calm = true) : CallR X (.builtin "sum") (rB X.K CT sumB) := callr_imp (cr_sum (X := X) hc) fun vs H Q h => by
  obtain ⟨F, as, σ, S, ds, z, n, r, e, f⟩ := h
  unfold sumB at e
  split at e
  · rename_i xs
    cases q : intsD xs with
    | none => simp only [q] at e; cases e
    | some bs =>
      simp only [q, Option.some.injEq] at e
      subst e
      obtain ⟨v, rfl, rv⟩ := r.one
      obtain ⟨a, ws, rfl, q1, r1⟩ := rv.lst' n.sub
      obtain rfl := reps_ints r1 q
      exact ⟨a, bs, rfl, SqL.of q1, f.flat n (.int _)⟩
  · cases e
/-! ### methods -/
end
/-- o.m(..) of a built-in kind T -/
def vM (T : String) (g : D → List D → Option D) (o : ME) (as : MA) : ME := fun s => (o s).bind fun x s => match (rd s x).bind tyD with
  | some t => if t = T then (as s).bind fun ys s => match rd s x, rds s ys with
      | some x, some ys => R.of ((g x ys).map .d) s
      | _, _ => .stuck
    else .stuck
  | none => .stuck
/-- o.m(..), o a list's cell, which it changes -/
def vMu (g : List D → List D → Option (List D × D)) (o : ME) (as : MA) : ME := fun s => (o s).bind fun x s => match x with
  | .cell k => match s.w[k]? with
    | some (.lst _) => (as s).bind fun ys s => match frzs s ys with
      | some (ys, s) => match s.w[k]? with
        | some (.lst xs) => match g xs ys with
          | some (zs, z) => .ok (.d z) { s with w := s.w.set k (.lst zs) }
          | none => .stuck
        | _ => .stuck
      | none => .stuck
    | _ => .stuck
  | _ => .stuck
def appM : List D → List D → Option (List D × D)
  | xs, [y] => if xs.length < sizeLine then some (xs ++ [y], .non) else none
  | _, _ => none
def extM : List D → List D → Option (List D × D)
  | xs, [.lst ys] => if xs.length + ys.length ≤ sizeLine then some (xs ++ ys, .non) else none
  | _, _ => none
def popM : List D → List D → Option (List D × D)
  | xs, [] => match xs[xs.length - 1]? with
    | some y => some (xs.dropLast, y)
    | none => none
  | xs, [.int i] => if -(2 ^ 63) ≤ i ∧ i < 2 ^ 63 then match seqIndex? i xs.length with
      | some k => match xs[k]? with
        | some y => some (xs.eraseIdx k, y)
        | none => none
      | none => none
    else none
  | _, _ => none
section
variable (K : PySem.W.Frag) (CT : Ctx)
def rMu (g : List D → List D → Option (List D × D)) : V → List V → Hp → VK → Prop := fun vx vs H Q => ∃ F as σ S a ws xs ds zs z, Env K CT F as H σ S ∧ vx = .ref a ∧ H a = some (.lst ws) ∧ Reps K CT F ws xs ∧ Reps K CT F vs ds ∧ g xs ds = some (zs, z) ∧ ∀ v us, Reps K CT F us zs → Rep K CT F v z → Q v (upd H a (.lst us))
end
section
variable {X : Cx} {CT : Ctx} {E : Sto → XK} {pos p : Pos} {o a : Expr} {es : List Expr} {mo m : ME} {mr : MA} {apos cpos : Pos} {name : Str} {T id : String} {g : D → List D → Option D} {gu : List D → List D → Option (List D × D)}
theorem mtr_imp {id : String} {r r' : V → List V → Hp → VK → Prop} (h : MtR X id r) (hr : ∀ x xs H Q, r' x xs H Q → r x xs H Q) : MtR X id r' := by
  intro pins s σ H x xs v us Q I rx rv q
  exact h pins s σ H x xs v us Q I rx rv (hr x xs H Q q)
/-! a list's cell is changed -/
theorem mu_read {σ : Sto} {H : Hp} {Q : VK} (h : up X.K CT E (vMu gu mo mr) σ H Q) : tBM X.K "list" (rMu X.K CT gu) (up X.K CT E mo) (upA X.K CT E mr) σ H Q := by
  obtain ⟨F, as, s, n, h⟩ := h
  refine up_seq n h rfl fun v x s1 F1 as1 H1 e1 n1 r1 h1 => ?_
  cases x with
  | d y => exact h1.elim
  | cell k =>
    cases q : s1.w[k]? with
    | none => simp only [q] at h1; exact h1.elim
    | some c =>
      cases c with
      | lst xs0 =>
        simp only [q] at h1
        obtain ⟨a, ws0, ha, hf, hh, rr⟩ := n1.cell q
        obtain ⟨b, hb, rfl⟩ := r1
        rw [ha] at hb
        cases hb
        refine ⟨.inl ⟨rfl, ws0, SqL.of hh⟩, upA_seq n1 h1 rfl fun vs ys s2 F2 as2 H2 e2 n2 r2 h2 => ?_⟩
        cases q1 : frzs s2 ys with
        | none => simp only [q1] at h2; exact h2.elim
        | some pp =>
          obtain ⟨ds, s3⟩ := pp
          simp only [q1] at h2
          obtain ⟨F3, e3, q3, n3⟩ := n2.frzs r2 q1
          cases q4 : s3.w[k]? with
          | none => simp only [q4] at h2; exact h2.elim
          | some c =>
            cases c with
            | lst xs =>
              simp only [q4] at h2
              cases q5 : gu xs ds with
              | none => simp only [q5] at h2; exact h2.elim
              | some pp =>
                obtain ⟨zs, z⟩ := pp
                simp only [q5] at h2
                obtain ⟨a', ws, ha', hf', hh', rr'⟩ := n3.cell q4
                have hb' := (e2.trans e3).at ha
                rw [hb'] at ha'
                cases ha'
                refine ⟨F3, as2, σ, s3, a, ws, xs, ds, zs, z, n3, rfl, hh', rr', q3, q5, fun v us ru rz => ?_⟩
                exact h2.there (σ := σ) rfl e3 (n3.setC q4 hb' hf' ru) v rz
            | _ => simp only [q4] at h2; exact h2.elim
      | _ => simp only [q] at h1; exact h1.elim
theorem me_mu (slot : Slot "list" name id) (hty : typeOf (.builtin id) = pure (.type "method_descriptor")) (hm : MtR X id (rMu X.K CT gu)) (ho : PE X o (up X.K CT E mo)) (ha : PA X (a :: es) (upA X.K CT E mr))
    (hbase : attributeBase o name X.env (eval o X.env) = eval o X.env := by rfl)
    (hfew : ((backTo cpos (starEach (a :: es) X.env)).all (fun x => !x.1) && (backToKw cpos (keywordEach [] X.env)).all (fun x => x.1.isSome)
      && decide ((a :: es).length + ([] : List Keyword).length + (if ([] : List Keyword).isEmpty then 0 else 1) < 30)) = true := by rfl)
    (hline : (apos.endLine == cpos.line) = true := by rfl) (hs : starEach (a :: es) X.env = (false, eval a X.env) :: starEach es X.env := by rfl) (hplain : (backTo cpos (starEach es X.env)).any (·.1) = false := by rfl) :
    PE X (.Call (.Attribute o name apos) (a :: es) [] cpos) (up X.K CT E (vMu gu mo mr)) :=
  PE.imp (pe_bm PySem.F.plainAttrs_list slot hty hm ho ha hbase hfew hline hs hplain) fun _ _ _ h => mu_read h
theorem me_mu0 (slot : Slot "list" name id) (hty : typeOf (.builtin id) = pure (.type "method_descriptor")) (hm : MtR X id (rMu X.K CT gu)) (ho : PE X o (up X.K CT E mo))
    (hbase : attributeBase o name X.env (eval o X.env) = eval o X.env := by rfl) (hline : (apos.endLine == cpos.line) = true := by rfl) :
    PE X (.Call (.Attribute o name apos) [] [] cpos) (up X.K CT E (vMu gu mo aNil)) :=
  PE.imp (pe_bm0 PySem.F.plainAttrs_list slot hty hm ho hbase hline) fun σ H Q h => by
    obtain ⟨F, as, s, n, o⟩ := mu_read (X := X) h
    refine ⟨F, as, s, n, o.imp (fun _ z => z) fun x s1 F1 as1 σ1 H1 _ o1 e1 n1 q v r => ?_⟩
    obtain ⟨h1, F2, as2, s2, n2, o2⟩ := q v r
    exact ⟨h1, o2.here (σ := σ) rfl n2 _ .nil⟩
theorem Reps.nil' {K : PySem.W.Frag} {F : Hp} {vs : List V} (h : Reps K CT F vs []) : vs = [] := by
  cases h
  rfl
theorem Reps.one' {K : PySem.W.Frag} {F : Hp} {vs : List V} {x : D} (h : Reps K CT F vs [x]) : ∃ v, vs = [v] ∧ Rep K CT F v x := by
  cases h with
  | cons h1 h2 =>
    cases h2
    exact ⟨_, rfl, h1⟩
theorem mm_append : MtR X "list.append" (rMu X.K CT appM) := mtr_imp (mt_append (X := X)) fun x vs H Q h => by
  obtain ⟨F, as, σ, S, a, ws, xs, ds, zs, z, n, rfl, hh, rr, rv, e, f⟩ := h
  unfold appM at e
  split at e
  · split at e
    · rename_i hz
      cases e
      obtain ⟨v, rfl, r1⟩ := rv.one'
      exact ⟨a, ws, v, rfl, rfl, hh, by rw [rr.length]; exact hz, f _ _ (rr.append (.one r1)) .non⟩
    · cases e
  · cases e
theorem mm_extend : MtR X "list.extend" (rMu X.K CT extM) := mtr_imp (mt_extend (X := X)) fun x vs H Q h => by
  obtain ⟨F, as, σ, S, a, ws, xs, ds, zs, z, n, rfl, hh, rr, rv, e, f⟩ := h
  unfold extM at e
  split at e
  · split at e
    · rename_i hz
      cases e
      obtain ⟨v, rfl, r1⟩ := rv.one'
      cases r1 with
      | lst h1 h2 => exact ⟨a, _, ws, _, rfl, rfl, hh, n.sub _ _ h1, by rw [rr.length, h2.length]; exact hz, f _ _ (rr.append h2) .non⟩
    · cases e
  · cases e
theorem Reps.dropLast {K : PySem.W.Frag} {F : Hp} {vs : List V} {ds : List D} (h : Reps K CT F vs ds) : Reps K CT F vs.dropLast ds.dropLast := by
  rw [List.dropLast_eq_take, List.dropLast_eq_take, h.length]
  exact h.take _
theorem Reps.erase {K : PySem.W.Frag} {F : Hp} {vs : List V} {ds : List D} (h : Reps K CT F vs ds) (k : Nat) : Reps K CT F (vs.eraseIdx k) (ds.eraseIdx k) := by
  rw [List.eraseIdx_eq_take_drop_succ, List.eraseIdx_eq_take_drop_succ]
  exact (h.take _).append (h.drop _)
theorem mm_pop : MtR X "list.pop" (rMu X.K CT popM) := mtr_imp (MtR.or (mt_pop (X := X)) mt_popAt) fun x vs H Q h => by
  obtain ⟨F, as, σ, S, a, ws, xs, ds, zs, z, n, rfl, hh, rr, rv, e, f⟩ := h
  unfold popM at e
  split at e
  · obtain rfl := rv.nil'
    cases q : xs[xs.length - 1]? with
    | none => simp only [q] at e; cases e
    | some y =>
      simp only [q, Option.some.injEq, Prod.mk.injEq] at e
      obtain ⟨rfl, rfl⟩ := e
      obtain ⟨v, h1, h2⟩ := rr.get q
      exact .inl ⟨a, ws, v, rfl, rfl, hh, by rw [rr.length]; exact h1, f _ _ rr.dropLast h2⟩
  · split at e
    · rename_i i hi
      obtain ⟨v, rfl, r1⟩ := rv.one'
      cases r1
      cases q0 : seqIndex? i xs.length with
      | none => simp only [q0] at e; cases e
      | some k =>
        cases q : xs[k]? with
        | none => simp only [q0, q] at e; cases e
        | some y =>
          simp only [q0, q, Option.some.injEq, Prod.mk.injEq] at e
          obtain ⟨rfl, rfl⟩ := e
          obtain ⟨v, h1, h2⟩ := rr.get q
          exact .inr ⟨a, ws, i, k, v, rfl, rfl, hh, hi.1, hi.2, by rw [rr.length]; exact q0, h1, f _ _ (rr.erase k) h2⟩
    · cases e
  · cases e
end
end Bf
/-! The mirror layer: slices from behind; the end of a law's row. -/
namespace Bf
open PySem PySem.Spec PyProof.Rows L2
section
variable {X : Cx} {CT : Ctx} {E : Sto → XK} {pos p1 p2 p3 : Pos} {e : Expr} {m : ME} {k : Nat}
theorem PE.or {t t' : TE} (h : PE X e t) (h' : PE X e t') : PE X e (fun σ H Q => t σ H Q ∨ t' σ H Q) := ⟨fun pins s σ H Q I q => by
  rcases q with q | q
  · exact h.run pins s σ H Q I q
  · exact h'.run pins s σ H Q I q⟩
/-- {} -/
def vDic0 : ME := fun s => .ok (.d (.dic [])) s
end
/-! ### the end -/
section
variable {K : PySem.W.Frag} {CT : Ctx}
/-- without the tables -/
def noT (H : Hp) : Hp := fun b => match H b with
  | some (.tbl _) => none
  | o => o
theorem noT_at {H : Hp} {b : Addr} {o : HO} (h : H b = some o) (n : ∀ ps, o ≠ .tbl ps) : noT H b = some o := by
  unfold noT
  rw [h]
  split
  · rename_i q e
    exact absurd (Option.some.inj e) (n q)
  · rfl
theorem noT_sub (H : Hp) : Sub (noT H) H := fun b o h => by
  unfold noT at h
  split at h
  · cases h
  · exact h
theorem noT_tbl (H : Hp) : ∀ a ps, noT H a ≠ some (.tbl ps) := fun a ps h => by
  have q := noT_sub H a _ h
  unfold noT at h
  rw [q] at h
  cases h
theorem noT_sq {K : PySem.W.Frag} {H : Hp} {a : Addr} {xs : List V} (h : SqL K H a xs) : SqL K (noT H) a xs := by
  rcases h with (h | ⟨o, h⟩) | h
  · exact .inl (.inl (noT_at h (by intro _ z; cases z)))
  · exact .inl (.inr ⟨o, noT_at h (by intro _ z; cases z)⟩)
  · exact .inr h
/-- the law's promise, from what its mirror says of every script -/
theorem law_sp {n : Nat} {f : Fn} (h : ∀ ns : List Int, ns.length ≤ n → ∃ w, f [.d (.scr ns)] [] = .ok (.d (.bl true)) w) {H : Hp} {a : Addr} {ns : List Int} (hl : ns.length ≤ n) (hS : SqL K H a (ns.map V.int)) (hT : LamX.Tabs CT.tabs H) :
    spF K CT 1 f [.ref a] H (fun v _ => v = .bl true) fun _ _ _ => False := by
  obtain ⟨w, e⟩ := h ns hl
  refine ⟨rfl, noT H, [], [], [.d (.scr ns)], noT_sub H, ⟨rfl, .nil, ⟨hT, noT_tbl H, fun _ m => by simp at m⟩, fun _ m => by simp at m, fun k c a h => by simp at h⟩, .cons (Rep.scr (noT_sq hS)) .nil, ?_⟩
  rw [e]
  intro v F' as' H' _ _ _ r
  have r : Rep K CT F' v (.bl true) := r
  cases r
  rfl
theorem cx_none {P : Program} {w : World} (H : Hp) (s : Shared) (e : Value) (s' : Shared) : L2.CX P w [] H s (fun _ _ _ => False) e s' → False := fun ⟨_, _, _, _, _, _, _, _, _, _, _, _, h⟩ => h
end
end Bf
/-! The mirror layer: short rules for printed derivations. -/
namespace Bf
open PySem PySem.Spec PyProof.Rows L2
section
variable {X : Cx} {CT : Ctx} {E : Sto → XK} {pos p : Pos} {k : Nat}
theorem hu64 (r : Room k X.A) : X.A.units + 64 < cLine := r.units
theorem hu65 (r : Room k X.A) : X.A.units + 65 < cLine := by have := r.un; omega
/-- the name in slot i -/
theorem mv (i : Nat) {x : Str} (hN : X.N[i]? = some x := by rfl) (hv : Vis X.env.scope x := by first | exact Or.inl rfl | exact Or.inr (Or.inl rfl) | exact Or.inr (Or.inr rfl)) (hd : (x == ("__debug__" : Str)) = false := by decide) (hcd : (x == ("__classdict__" : Str)) = false := by decide) :
    PE X (.Name x p) (up X.K CT E (vVar i)) := me_var hN hv hd hcd
/-- the target in slot i -/
theorem mn (i : Nat) {x : Str} (hx : X.N.Nodup) (hi : X.N[i]? = some x := by rfl) (hl : Loc X.env.scope x := by first | exact Or.inl rfl | exact Or.inr rfl) (hf : X.fn x = true ∨ X.env.scope.names.lookup x = some .local := by first | exact .inl rfl | exact .inr rfl) :
    PG X (.Name x p) (upG X.K CT (fun _ => ()) E (hName i)) := mg_name hx (fun _ _ => rfl) hi hl hf
/-- .. a comprehension's own name -/
theorem wipe_set {own : List Nat} {i : Nat} (hi : i ∈ own) : ∀ (σ : Sto) (v : V), L2.wipe (σ.set i (some v)) own = L2.wipe σ own := by
  have out : ∀ (own : List Nat) (σ : Sto) (v : V), i ∉ own → L2.wipe (σ.set i (some v)) own = (L2.wipe σ own).set i (some v) := fun own => by
    induction own with
    | nil => intro σ v _; rfl
    | cons j js ih =>
      intro σ v h
      rw [List.mem_cons, not_or] at h
      show (L2.wipe (σ.set i (some v)) js).set j none = _
      rw [ih σ v h.2, List.set_comm _ _ h.1]
      rfl
  induction own with
  | nil => cases hi
  | cons j js ih =>
    intro σ v
    show (L2.wipe (σ.set i (some v)) js).set j none = (L2.wipe σ js).set j none
    by_cases h : i ∈ js
    · rw [ih h σ v]
    · rcases List.mem_cons.mp hi with rfl | h2
      · rw [out js σ v h, List.set_set]
      · exact absurd h2 h
theorem mn' (i : Nat) {own : List Nat} {x : Str} (hx : X.N.Nodup) (hm : i ∈ own := by decide) (hi : X.N[i]? = some x := by rfl) (hl : Loc X.env.scope x := by first | exact Or.inl rfl | exact Or.inr rfl) (hf : X.fn x = true ∨ X.env.scope.names.lookup x = some .local := by first | exact .inl rfl | exact .inr rfl) :
    PG X (.Name x p) (upG X.K CT (fun σ => L2.wipe σ own) E (hName i)) := mg_name hx (fun σ v => wipe_set hm σ v) hi hl hf
/-- a built-in class as a value -/
theorem me_ty {x : Str} {T : String} (hm : X.mg x = none) (hv : bootBuiltins x = some (.type T) := by rfl) (hg : Gl X x := by rfl) (hn : x ≠ "__name__" := by decide) (hd : (x == ("__debug__" : Str)) = false := by decide) : PE X (.Name x p) (up X.K CT E (vC (.raw (.ty T)))) :=
  me_c (v := .ty T) (pe_bltn hg hm hv (by exact rfl) hn hd) fun _ => .raw _
theorem me_gint {x : Str} {n : Int} {t : _} (hm : X.mg x = some (.int n t)) (hg : Gl X x := by rfl) (hd : (x == ("__debug__" : Str)) = false := by decide) : PE X (.Name x p) (up X.K CT E (vC (.int n))) :=
  me_glob (v := .int n) hm ⟨_, rfl⟩ (fun _ => .int _) hg hd
theorem me_gstr {x y : Str} {t : _} (hm : X.mg x = some (.str y t)) (hg : Gl X x := by rfl) (h1 : y.length ≤ 100000 := by decide +kernel) (h2 : PyData.strOk y = true := by decide +kernel) (hd : (x == ("__debug__" : Str)) = false := by decide) : PE X (.Name x p) (up X.K CT E (vC (.str y))) :=
  me_glob (v := .str y) hm ⟨_, rfl⟩ (fun _ => .str _ (Nat.le_trans h1 (by rw [sizeLine_eq]; decide)) h2) hg hd
theorem mt_w {e : Expr} {t : TT} (h : PW X e t) : PT X e t := h.pt
variable {mr : MA} {px py pz pt : Pos} {kt k2 : _} {pt2 : Pos} {a b c : Expr}
theorem ms_par {i j : Nat} {x y : Str} (hx : Cq X E) (hi : X.N[i]? = some x) (hj : X.N[j]? = some y) (hij : i ≠ j)
    (lx : X.env.scope.names.lookup x = some .local) (ly : X.env.scope.names.lookup y = some .local) (ha : PA X [a, b] (upA X.K CT E mr))
    (hw : swappedStores [.Tuple [.Name x px, .Name y py] kt pt] (.Tuple [a, b] k2 pt2) X.env = pure (some [x, y]))
    (hs : swapsWithSole [.Tuple [.Name x px, .Name y py] kt pt] (.Tuple [a, b] k2 pt2) pos.line X.env = pure false := by rfl) :
    L2.PS X (.Assign [.Tuple [.Name x px, .Name y py] kt pt] (.Tuple [a, b] k2 pt2) pos) (upS X.K CT E (sPar i j mr)) :=
  ps_imp (ps_par hx.calm hx.nd hi hj hij lx ly ha hw hs) fun D σ H ⟨F, as, s, n, h⟩ => by
    refine upA_seq n h trivial fun vs xs s1 F1 as1 H1 e1 n1 r1 h1 => ?_
    cases r1 with
    | nil => exact h1.elim
    | cons r1 r2 =>
      cases r2 with
      | nil => exact h1.elim
      | cons r2 r3 =>
        cases r3 with
        | cons _ _ => exact h1.elim
        | nil =>
          rename_i v1 x1 v2 x2
          dsimp only at h1
          split at h1
          · rename_i hl
            refine ⟨_, _, rfl, ?_⟩
            have n2 := n1.setG r1 hl.1
            have n3 := n2.setG (i := j) r2 (by simpa using hl.2)
            exact h1.here (σ := (σ.set i (some v1)).set j (some v2)) trivial n3
          · exact h1.elim
theorem ms_par3 {i j l : Nat} {x y z : Str} (hx : Cq X E) (hi : X.N[i]? = some x) (hj : X.N[j]? = some y) (hl : X.N[l]? = some z) (hij : i ≠ j) (hil : i ≠ l) (hjl : j ≠ l)
    (lx : X.env.scope.names.lookup x = some .local) (ly : X.env.scope.names.lookup y = some .local) (lz : X.env.scope.names.lookup z = some .local) (ha : PA X [a, b, c] (upA X.K CT E mr))
    (hw : swappedStores [.Tuple [.Name x px, .Name y py, .Name z pz] kt pt] (.Tuple [a, b, c] k2 pt2) X.env = pure (some [x, y, z]))
    (hs : swapsWithSole [.Tuple [.Name x px, .Name y py, .Name z pz] kt pt] (.Tuple [a, b, c] k2 pt2) pos.line X.env = pure false := by rfl) :
    L2.PS X (.Assign [.Tuple [.Name x px, .Name y py, .Name z pz] kt pt] (.Tuple [a, b, c] k2 pt2) pos) (upS X.K CT E (sPar3 i j l mr)) :=
  ps_imp (ps_par3 hx.calm hx.nd hi hj hl hij hil hjl lx ly lz ha hw hs) fun D σ H ⟨F, as, s, n, h⟩ => by
    refine upA_seq n h trivial fun vs xs s1 F1 as1 H1 e1 n1 r1 h1 => ?_
    cases r1 with
    | nil => exact h1.elim
    | cons r1 r2 =>
      cases r2 with
      | nil => exact h1.elim
      | cons r2 r3 =>
        cases r3 with
        | nil => exact h1.elim
        | cons r3 r4 =>
          cases r4 with
          | cons _ _ => exact h1.elim
          | nil =>
            rename_i v1 x1 v2 x2 v3 x3
            dsimp only at h1
            split at h1
            · rename_i hl
              refine ⟨_, _, _, rfl, ?_⟩
              have n2 := n1.setG r1 hl.1
              have n3 := n2.setG (i := j) r2 (by simpa using hl.2.1)
              have n4 := n3.setG (i := l) r3 (by simpa using hl.2.2)
              exact h1.here (σ := ((σ.set i (some v1)).set j (some v2)).set l (some v3)) trivial n4
            · exact h1.elim
end
end Bf
/-! The mirror layer: plain reasoning about mirrors. -/
namespace Bf
open PySem L2
@[irreducible] def T {α : Type} (r : R α) (Q : α → PS → Prop) : Prop := match r with
  | .ok a s => Q a s
  | _ => False
@[simp ↓] theorem T_ok {α : Type} {a : α} {s : PS} {Q : α → PS → Prop} : T (.ok a s) Q ↔ Q a s := by unfold T; exact Iff.rfl
@[simp ↓] theorem T_stuck {α : Type} {Q : α → PS → Prop} : T (.stuck : R α) Q ↔ False := by unfold T; exact Iff.rfl
@[simp ↓] theorem T_err {α : Type} {e : Exc} {s : PS} {Q : α → PS → Prop} : T (.err e s : R α) Q ↔ False := by unfold T; exact Iff.rfl
theorem T.imp {α : Type} {r : R α} {Q Q' : α → PS → Prop} (h : T r Q) (i : ∀ a s, Q a s → Q' a s) : T r Q' := by
  unfold T at h ⊢
  cases r with
  | ok a s => exact i a s h
  | err => exact h
  | stuck => exact h
def OD {α : Type} (o : Option α) (P : α → Prop) : Prop := match o with
  | some a => P a
  | none => False
@[simp ↓] theorem OD_some {α : Type} {a : α} {P : α → Prop} : OD (some a) P ↔ P a := Iff.rfl
@[simp ↓] theorem OD_none {α : Type} {P : α → Prop} : OD (none : Option α) P ↔ False := Iff.rfl
theorem OD.of {α : Type} {o : Option α} {a : α} {P : α → Prop} (h : o = some a) (p : P a) : OD o P := by
  rw [h]
  exact p
def LS (x : D) (P : List D → Prop) : Prop := match x with
  | .lst xs => P xs
  | _ => False
@[simp ↓] theorem LS_lst {xs : List D} {P : List D → Prop} : LS (.lst xs) P ↔ P xs := Iff.rfl
def IN (x : SV) (P : Int → Prop) : Prop := match x with
  | .d (.int i) => P i
  | _ => False
@[simp ↓] theorem IN_int {i : Int} {P : Int → Prop} : IN (.d (.int i)) P ↔ P i := Iff.rfl
def CL (x : SV) (P : Nat → Prop) : Prop := match x with
  | .cell i => P i
  | _ => False
@[simp ↓] theorem CL_cell {i : Nat} {P : Nat → Prop} : CL (.cell i) P ↔ P i := Iff.rfl
def LC (c : Option Cell) (P : List D → Prop) : Prop := match c with
  | some (.lst xs) => P xs
  | _ => False
@[simp ↓] theorem LC_lst {xs : List D} {P : List D → Prop} : LC (some (.lst xs)) P ↔ P xs := Iff.rfl
def L2' (xs : List SV) (P : SV → SV → Prop) : Prop := match xs with
  | [x, y] => P x y
  | _ => False
@[simp ↓] theorem L2_two {x y : SV} {P : SV → SV → Prop} : L2' [x, y] P ↔ P x y := Iff.rfl
@[simp ↓] theorem T_bind {α β : Type} {r : R α} {f : α → PS → R β} {Q : β → PS → Prop} : T (r.bind f) Q ↔ T r fun a s => T (f a s) Q := by cases r <;> (unfold T; exact Iff.rfl)
theorem T_of {α : Type} {o : Option α} {s : PS} {Q : α → PS → Prop} : T (R.of o s) Q ↔ OD o fun a => Q a s := by
  cases o with
  | none => simp [R.of]
  | some a => simp [R.of]
@[simp ↓] theorem T_nox {α : Type} {r : R α} {Q : α → PS → Prop} : T r.nox Q ↔ T r Q := by cases r <;> (unfold T; exact Iff.rfl)
theorem T_ofd {o : Option D} {s : PS} {Q : SV → PS → Prop} : T (R.of (o.map .d) s) Q ↔ OD o fun z => Q (.d z) s := by
  cases o <;> simp [R.of]
/-- a def's outcome -/
@[irreducible] def FT (f : Fn) (xs : List SV) (w : List Cell) (Q : SV → List Cell → Prop) : Prop := match f xs w with
  | .ok x w => Q x w
  | _ => False
theorem FT.imp {f : Fn} {xs : List SV} {w : List Cell} {Q Q' : SV → List Cell → Prop} (h : FT f xs w Q) (i : ∀ x w, Q x w → Q' x w) : FT f xs w Q' := by
  unfold FT at *
  cases q : f xs w with
  | ok a s => rw [q] at h; exact i a s h
  | err => rw [q] at h; exact h
  | stuck => rw [q] at h; exact h
section
variable {s : PS} {Q : SV → PS → Prop} {a b c : ME}
@[simp ↓] theorem T_var {i : Nat} : T (vVar i s) Q ↔ OD s.g[i]? fun o => OD o fun x => Q x s := by
  unfold vVar
  cases h : s.g[i]? with
  | none => simp
  | some o => cases o <;> simp
@[simp ↓] theorem T_c {x : D} : T (vC x s) Q ↔ Q (.d x) s := by unfold T; exact Iff.rfl
@[simp ↓] theorem T_un {f : D → Option D} : T (vUn f a s) Q ↔ T (a s) fun x s => OD (rd s x) fun dx => OD (f dx) fun z => Q (.d z) s := by
  unfold vUn
  rw [T_bind]
  refine iff_of_eq (congrArg (T _) (funext fun x => funext fun s => propext ?_))
  cases rd s x with
  | none => simp
  | some dx => simp only [T_ofd, OD_some]
@[simp ↓] theorem T_op {f : D → D → Option D} : T (vOp f a b s) Q ↔ T (a s) fun x s => T (b s) fun y s => OD (rd s x) fun dx => OD (rd s y) fun dy => OD (f dx dy) fun z => Q (.d z) s := by
  unfold vOp
  simp only [T_bind]
  refine iff_of_eq (congrArg (T _) (funext fun x => funext fun s => propext (iff_of_eq (congrArg (T _) (funext fun y => funext fun s => propext ?_)))))
  cases rd s x with
  | none => simp
  | some dx =>
    cases rd s y with
    | none => simp
    | some dy => simp only [T_ofd, OD_some]
@[simp ↓] theorem T_opN {f : D → D → Option D} : T (vOpN f a b s) Q ↔ T (a s) fun x s => T (b s) fun y s => OD (rd s x) fun dx => OD (rd s y) fun dy => OD (f dx dy) fun z => LS z fun zs => Q (.cell s.w.length) { s with w := s.w ++ [.lst zs] } := by
  unfold vOpN
  simp only [T_bind]
  refine iff_of_eq (congrArg (T _) (funext fun x => funext fun s => propext (iff_of_eq (congrArg (T _) (funext fun y => funext fun s => propext ?_)))))
  cases rd s x with
  | none => simp
  | some dx =>
    cases rd s y with
    | none => simp
    | some dy =>
      cases h : f dx dy with
      | none => simp [h]
      | some z => cases z <;> simp [h, LS]
def OP {α β : Type} (o : Option (α × β)) (P : α → β → Prop) : Prop := match o with
  | some p => P p.1 p.2
  | none => False
@[simp ↓] theorem OP_some {α β : Type} {p : α × β} {P : α → β → Prop} : OP (some p) P ↔ P p.1 p.2 := Iff.rfl
@[simp ↓] theorem OP_none {α β : Type} {P : α → β → Prop} : OP (none : Option (α × β)) P ↔ False := Iff.rfl
@[simp ↓] theorem OP_map {α β γ δ : Type} {o : Option (α × β)} {f : α × β → γ × δ} {P : γ → δ → Prop} : OP (o.map f) P ↔ OP o fun a b => P (f (a, b)).1 (f (a, b)).2 := by cases o <;> exact Iff.rfl
def BL (x : SV) (P : Bool → Prop) : Prop := match x with
  | .d (.bl b) => P b
  | _ => False
@[simp ↓] theorem BL_bl {b : Bool} {P : Bool → Prop} : BL (.d (.bl b)) P ↔ P b := Iff.rfl
@[simp ↓] theorem T_isB {x : SV} {Q : Bool → PS → Prop} : T (isB x s) Q ↔ BL x fun b => Q b s := by
  cases x with
  | cell => unfold T; exact Iff.rfl
  | d y => cases y <;> (unfold T; exact Iff.rfl)
variable {t u : MT} {QB : Bool → PS → Prop}
@[simp ↓] theorem T_cVal : T (cVal a s) QB ↔ T (a s) fun x s => BL x fun b => QB b s := by
  unfold cVal
  simp only [T_bind, T_isB]
@[simp ↓] theorem T_cTru : T (cTru a s) QB ↔ T (a s) fun x s => OD (rd s x) fun dx => OD (truD dx) fun b => QB b s := by
  unfold cTru
  rw [T_bind]
  refine iff_of_eq (congrArg (T _) (funext fun x => funext fun s => propext ?_))
  cases rd s x with
  | none => simp
  | some dx => simp only [T_of, OD_some]
@[simp ↓] theorem T_cYes : T (cYes s) QB ↔ QB true s := by unfold T; exact Iff.rfl
@[simp ↓] theorem T_cAnd : T (cAnd t u s) QB ↔ T (t s) fun c s => if c = true then T (u s) QB else QB false s := by
  unfold cAnd
  rw [T_bind]
  refine iff_of_eq (congrArg (T _) (funext fun c => funext fun s => ?_))
  cases c <;> first | rfl | simp
@[simp ↓] theorem T_cOr : T (cOr t u s) QB ↔ T (t s) fun c s => if c = true then QB true s else T (u s) QB := by
  unfold cOr
  rw [T_bind]
  refine iff_of_eq (congrArg (T _) (funext fun c => funext fun s => ?_))
  cases c <;> first | rfl | simp
@[simp ↓] theorem T_cNot : T (cNot t s) QB ↔ T (t s) fun c s => QB (!c) s := by
  unfold cNot
  rw [T_bind]
  simp only [T_ok]
@[simp ↓] theorem T_vAnd : T (vAnd a b s) Q ↔ T (a s) fun x s => BL x fun c => if c = true then T (b s) Q else Q (.d (.bl false)) s := by
  unfold vAnd
  simp only [T_bind, T_isB]
  refine iff_of_eq (congrArg (T _) (funext fun x => funext fun s => congrArg (BL x) (funext fun c => ?_)))
  cases c <;> first | rfl | simp
@[simp ↓] theorem T_vOr : T (vOr a b s) Q ↔ T (a s) fun x s => BL x fun c => if c = true then Q (.d (.bl true)) s else T (b s) Q := by
  unfold vOr
  simp only [T_bind, T_isB]
  refine iff_of_eq (congrArg (T _) (funext fun x => funext fun s => congrArg (BL x) (funext fun c => ?_)))
  cases c <;> first | rfl | simp
@[simp ↓] theorem T_vNot : T (vNot a s) Q ↔ T (a s) fun x s => BL x fun c => Q (.d (.bl (!c))) s := by
  unfold vNot
  simp only [T_bind, T_isB, T_ok]
@[simp ↓] theorem T_vIf : T (vIf t a b s) Q ↔ T (t s) fun c s => if c = true then T (a s) Q else T (b s) Q := by
  unfold vIf
  rw [T_bind]
  refine iff_of_eq (congrArg (T _) (funext fun c => funext fun s => ?_))
  cases c <;> first | rfl | simp
@[simp ↓] theorem T_chain {f f' : D → D → Option D} : T (vChain f f' a b c s) Q ↔ T (a s) fun x s => T (b s) fun y s => OD (rd s x) fun dx => OD (rd s y) fun dy => OD (f dx dy) fun z => BL (.d z) fun k =>
    if k = true then T (c s) fun z s => OD (rd s y) fun dy => OD (rd s z) fun dz => OD (f' dy dz) fun r => Q (.d r) s else Q (.d (.bl false)) s := by
  unfold vChain
  simp only [T_bind]
  refine iff_of_eq (congrArg (T _) (funext fun x => funext fun s => propext (iff_of_eq (congrArg (T _) (funext fun y => funext fun s => propext ?_)))))
  cases rd s x with
  | none => simp
  | some dx =>
    cases rd s y with
    | none => simp
    | some dy =>
      cases h : f dx dy with
      | none => simp [h]
      | some z =>
        cases z with
        | bl k =>
          cases k with
          | false => simp [h]
          | true =>
            simp only [h, T_bind, if_true, OD_some, BL_bl]
            refine iff_of_eq (congrArg (T _) (funext fun z => funext fun s => propext ?_))
            cases rd s y with
            | none => simp
            | some dy =>
              cases rd s z with
              | none => simp
              | some dz => simp only [T_ofd, OD_some]
        | _ => simp [h, BL]
variable {r : MA} {QA : List SV → PS → Prop}
@[simp ↓] theorem T_nil : T (aNil s) QA ↔ QA [] s := by unfold T; exact Iff.rfl
@[simp ↓] theorem T_cons : T (aCons a r s) QA ↔ T (a s) fun x s => T (r s) fun xs s => QA (x :: xs) s := by
  unfold aCons
  simp only [T_bind, T_ok]
@[simp ↓] theorem T_tup : T (vTup r s) Q ↔ T (r s) fun xs s => OP (frzs s xs) fun ys s => ys.length ≤ sizeLine ∧ Q (.d (.tup ys)) s := by
  unfold vTup
  rw [T_bind]
  refine iff_of_eq (congrArg (T _) (funext fun xs => funext fun s => propext ?_))
  cases frzs s xs with
  | none => simp
  | some p =>
    obtain ⟨ys, s'⟩ := p
    by_cases h : ys.length ≤ sizeLine <;> simp [h]
@[simp ↓] theorem T_lst : T (vLst r s) Q ↔ T (r s) fun xs s => OP (frzs s xs) fun ys s => ys.length ≤ sizeLine ∧ Q (.d (.lst ys)) s := by
  unfold vLst
  rw [T_bind]
  refine iff_of_eq (congrArg (T _) (funext fun xs => funext fun s => propext ?_))
  cases frzs s xs with
  | none => simp
  | some p =>
    obtain ⟨ys, s'⟩ := p
    by_cases h : ys.length ≤ sizeLine <;> simp [h]
@[simp ↓] theorem T_lstN : T (vLstN r s) Q ↔ T (r s) fun xs s => OP (frzs s xs) fun ys s => ys.length ≤ sizeLine ∧ Q (.cell s.w.length) { s with w := s.w ++ [.lst ys] } := by
  unfold vLstN
  rw [T_bind]
  refine iff_of_eq (congrArg (T _) (funext fun xs => funext fun s => propext ?_))
  cases frzs s xs with
  | none => simp
  | some p =>
    obtain ⟨ys, s'⟩ := p
    by_cases h : ys.length ≤ sizeLine <;> simp [h]
@[simp ↓] theorem T_frz : T (vFrz a s) Q ↔ T (a s) fun x s => OP (frz s x) fun y s => Q (.d y) s := by
  unfold vFrz
  rw [T_bind]
  refine iff_of_eq (congrArg (T _) (funext fun xs => funext fun s => propext ?_))
  cases frz s xs with
  | none => simp [T_of]
  | some p => simp [T_of]
variable {lo hi : MO} {QO : Option Int → PS → Prop}
@[simp ↓] theorem T_oNone : T (oNone s) QO ↔ QO none s := by unfold T; exact Iff.rfl
@[simp ↓] theorem T_oSome : T (oSome a s) QO ↔ T (a s) fun x s => IN x fun i => QO (some i) s := by
  unfold oSome
  rw [T_bind]
  refine iff_of_eq (congrArg (T _) (funext fun x => funext fun s => propext ?_))
  cases x with
  | cell => simp [IN]
  | d y => cases y <;> simp [IN]
@[simp ↓] theorem T_sl : T (vSl a lo hi s) Q ↔ T (a s) fun x s => T (lo s) fun l s => T (hi s) fun h s => OD (rd s x) fun dx => OD (slD dx l h) fun z => Q (.d z) s := by
  unfold vSl
  simp only [T_bind]
  refine iff_of_eq (congrArg (T _) (funext fun x => funext fun s => congrArg (T _) (funext fun l => funext fun s => congrArg (T _) (funext fun h => funext fun s => propext ?_))))
  cases rd s x with
  | none => simp
  | some dx => simp only [T_ofd, OD_some]
@[simp ↓] theorem T_B {f : List D → Option D} : T (vB f r s) Q ↔ T (r s) fun xs s => OD (rds s xs) fun ys => OD (f ys) fun z => Q (.d z) s := by
  unfold vB
  rw [T_bind]
  refine iff_of_eq (congrArg (T _) (funext fun x => funext fun s => propext ?_))
  cases rds s x with
  | none => simp
  | some dx => simp only [T_ofd, OD_some]
@[simp ↓] theorem T_call {f : Fn} : T (vCall f r s) Q ↔ T (r s) fun xs s => FT f xs s.w fun x w => Q x { s with w := w } := by
  unfold vCall
  rw [T_bind]
  refine iff_of_eq (congrArg (T _) (funext fun x => funext fun s => propext ?_))
  unfold FT
  cases f x s.w <;> simp
@[simp ↓] theorem T_m {ty : String} {g : D → List D → Option D} : T (vM ty g a r s) Q ↔ T (a s) fun x s => (rd s x).bind tyD = some ty ∧ T (r s) fun ys s => OD (rd s x) fun dx => OD (rds s ys) fun dy => OD (g dx dy) fun z => Q (.d z) s := by
  unfold vM
  rw [T_bind]
  refine iff_of_eq (congrArg (T _) (funext fun x => funext fun s => propext ?_))
  cases (rd s x).bind tyD with
  | none => simp
  | some t =>
    by_cases h : t = ty
    · subst h
      simp only [if_true, T_bind, true_and]
      refine iff_of_eq (congrArg (T _) (funext fun ys => funext fun s => propext ?_))
      cases rd s x with
      | none => simp
      | some dx =>
        cases rds s ys with
        | none => simp
        | some dy => simp only [T_ofd, OD_some]
    · simp [h]
@[simp ↓] theorem T_mu {g : List D → List D → Option (List D × D)} : T (vMu g a r s) Q ↔ T (a s) fun x s => CL x fun k => (∃ xs, s.w[k]? = some (.lst xs)) ∧ T (r s) fun ys s => OP (frzs s ys) fun ys s => LC s.w[k]? fun xs => OP (g xs ys) fun zs z => Q (.d z) { s with w := s.w.set k (.lst zs) } := by
  unfold vMu
  rw [T_bind]
  refine iff_of_eq (congrArg (T _) (funext fun x => funext fun s => propext ?_))
  cases x with
  | d => simp [CL]
  | cell k =>
    simp only [CL_cell]
    cases h : s.w[k]? with
    | none => simp
    | some c =>
      cases c with
      | lst xs =>
        simp only [T_bind, Option.some.injEq, Cell.lst.injEq, exists_eq', true_and]
        refine iff_of_eq (congrArg (T _) (funext fun ys => funext fun s => propext ?_))
        cases frzs s ys with
        | none => simp
        | some p =>
          obtain ⟨p, s1⟩ := p
          simp only [OP_some]
          cases h : s1.w[k]? with
          | none => simp [LC]
          | some c =>
            cases c with
            | lst xs =>
              simp only [LC_lst]
              cases g xs p <;> simp
            | _ => simp [LC]
      | _ => simp
/-! statements -/
variable {m n : MS} {QS : Fl → PS → Prop}
@[simp ↓] theorem T_sNx : T (sNx s) QS ↔ QS .nx s := by unfold T; exact Iff.rfl
@[simp ↓] theorem T_seq : T (sSeq m n s) QS ↔ T (m s) fun f s => match f with
    | .nx => T (n s) QS
    | f => QS f s := by
  unfold sSeq
  rw [T_bind]
  refine iff_of_eq (congrArg (T _) (funext fun f => funext fun s => ?_))
  cases f <;> first | rfl | simp
@[simp ↓] theorem T_ret : T (sRet a s) QS ↔ T (a s) fun x s => QS (.rt x) s := by
  unfold sRet
  rw [T_bind]
  simp only [T_ok]
@[simp ↓] theorem T_exp : T (sExp a s) QS ↔ T (a s) fun _ s => QS .nx s := by
  unfold sExp
  rw [T_bind]
  simp only [T_ok]
@[simp ↓] theorem T_sIf : T (sIf t m n s) QS ↔ T (t s) fun c s => if c = true then T (m s) QS else T (n s) QS := by
  unfold sIf
  rw [T_bind]
  refine iff_of_eq (congrArg (T _) (funext fun c => funext fun s => ?_))
  cases c <;> first | rfl | simp
variable {g : MG} {QU : Unit → PS → Prop}
@[simp ↓] theorem T_asg : T (sAsg a g s) QS ↔ T (a s) fun x s => T (g x s) fun _ s => QS .nx s := by
  unfold sAsg
  simp only [T_bind, T_ok]
@[simp ↓] theorem T_name {i : Nat} {x : SV} : T (hName i x s) QU ↔ i < s.g.length ∧ QU () { s with g := s.g.set i (some x) } := by
  unfold hName
  by_cases h : i < s.g.length <;> simp [h]
@[simp ↓] theorem T_hSub {x : SV} : T (hSub a b x s) QU ↔ T (a s) fun o s => T (b s) fun i s => OP (frz s x) fun y s => OD (rd s i) fun di => OD (setL s o di y) fun s' => QU () s' := by
  unfold hSub
  simp only [T_bind]
  refine iff_of_eq (congrArg (T _) (funext fun o => funext fun s => congrArg (T _) (funext fun i => funext fun s => propext ?_)))
  cases frz s x with
  | none => simp
  | some p =>
    obtain ⟨p, s1⟩ := p
    simp only [OP_some]
    cases rd s1 i with
    | none => simp
    | some di =>
      simp only [OD_some]
      cases setL s1 o di p <;> simp
@[simp ↓] theorem T_par {i j : Nat} : T (sPar i j r s) QS ↔ T (r s) fun xs s => L2' xs fun x y => i < s.g.length ∧ j < s.g.length ∧ QS .nx { s with g := (s.g.set i (some x)).set j (some y) } := by
  unfold sPar
  rw [T_bind]
  refine iff_of_eq (congrArg (T _) (funext fun xs => funext fun s => propext ?_))
  match xs with
  | [] => simp [L2']
  | [_] => simp [L2']
  | [x, y] =>
    by_cases h : i < s.g.length ∧ j < s.g.length
    · simp [L2', h]
    · simp only [h, if_false, T_stuck, false_iff]
      rintro ⟨h1, h2, _⟩
      exact h ⟨h1, h2⟩
  | _ :: _ :: _ :: _ => simp [L2']
/-! what is walked -/
variable {QI : It' → PS → Prop}
def SQ (s : PS) (x : SV) (P : It' → Prop) : Prop := match x with
  | .d (.lst xs) => P (.seq xs)
  | .d (.tup xs) => P (.seq xs)
  | .d (.str x) => P (.seq (signsD x))
  | .cell k => (∃ xs, s.w[k]? = some (.lst xs)) ∧ P (.cell k)
  | _ => False
@[simp ↓] theorem T_jSeq : T (jSeq a s) QI ↔ T (a s) fun x s => SQ s x fun it => QI it s := by
  unfold jSeq
  rw [T_bind]
  refine iff_of_eq (congrArg (T _) (funext fun x => funext fun s => propext ?_))
  cases x with
  | d y => cases y <;> (unfold T; exact Iff.rfl)
  | cell k =>
    unfold SQ
    dsimp only
    cases h : s.w[k]? with
    | none => simp
    | some c => cases c <;> simp
@[simp ↓] theorem SQ_lst {xs : List D} {P : It' → Prop} : SQ s (.d (.lst xs)) P ↔ P (.seq xs) := Iff.rfl
@[simp ↓] theorem SQ_tup {xs : List D} {P : It' → Prop} : SQ s (.d (.tup xs)) P ↔ P (.seq xs) := Iff.rfl
@[simp ↓] theorem SQ_str {x : Str} {P : It' → Prop} : SQ s (.d (.str x)) P ↔ P (.seq (signsD x)) := Iff.rfl
@[simp ↓] theorem T_jRng1 : T (jRng1 a s) QI ↔ T (a s) fun x s => IN x fun j => rngOk j = true ∧ QI (.rng 0 j.toNat) s := by
  unfold jRng1
  rw [T_bind]
  refine iff_of_eq (congrArg (T _) (funext fun x => funext fun s => propext ?_))
  cases x with
  | d y =>
    cases y with
    | int j => by_cases h : rngOk j = true <;> simp [h]
    | _ => simp [IN]
  | cell k => simp [IN]
@[simp ↓] theorem T_jRng2 : T (jRng2 a b s) QI ↔ T (a s) fun x s => T (b s) fun y s => IN x fun i => IN y fun j => rngOk i = true ∧ rngOk j = true ∧ QI (.rng i (j - i).toNat) s := by
  unfold jRng2
  simp only [T_bind]
  refine iff_of_eq (congrArg (T _) (funext fun x => funext fun s => congrArg (T _) (funext fun y => funext fun s => propext ?_)))
  cases x with
  | d x =>
    cases x with
    | int i =>
      cases y with
      | d y =>
        cases y with
        | int j =>
          by_cases h : rngOk i = true <;> by_cases h' : rngOk j = true <;> simp [h, h']
        | _ => simp [IN]
      | cell k => simp [IN]
    | _ => simp [IN]
  | cell k => simp [IN]
@[simp ↓] theorem T_jRng3 {c : ME} : T (jRng3 a b c s) QI ↔ T (a s) fun x s => T (b s) fun y s => T (c s) fun z s => IN x fun i => IN y fun j => IN z fun k => rngCOk i j k = true ∧ QI (.rngC i k (PySem.Builtin.Range.rangeSize i j k).toNat) s := by
  unfold jRng3
  simp only [T_bind]
  refine iff_of_eq (congrArg (T _) (funext fun x => funext fun s => congrArg (T _) (funext fun y => funext fun s => congrArg (T _) (funext fun z => funext fun s => propext ?_))))
  cases x with
  | d x =>
    cases x with
    | int i =>
      cases y with
      | d y =>
        cases y with
        | int j =>
          cases z with
          | d z =>
            cases z with
            | int k => by_cases h : rngCOk i j k = true <;> simp [h]
            | _ => simp [IN]
          | cell k => simp [IN]
        | _ => simp [IN]
      | cell k => simp [IN]
    | _ => simp [IN]
  | cell k => simp [IN]
end
/-! ### walks -/
/-- the items, where they do not hang on the state -/
def It'.list : It' → Option (List D)
  | .seq xs => some xs
  | .cell _ => none
  | .rng lo n => some ((List.range n).map fun (i : Nat) => .int (lo + i))
  | .rngC lo c n => some ((List.range n).map fun (i : Nat) => .int (lo + (i : Nat) * c))
  | .prs ps => some (ps.map fun p => .tup [p.1, p.2])
  | .kys xs => some (xs.map .tup)
  | .its ps => some (ps.map fun p => .tup [.tup p.1, p.2])
theorem It'.at_list {it : It'} {xs : List D} (h : it.list = some xs) (s : PS) (i : Nat) : it.at s i = some xs[i]? := by
  cases it with
  | seq ys => cases h; rfl
  | cell => cases h
  | rng lo n =>
    cases h
    unfold It'.at
    by_cases hi : i < n
    · simp [hi]
    · simp [hi]
  | rngC lo c n =>
    cases h
    unfold It'.at
    by_cases hi : i < n
    · simp [hi]
    · simp [hi]
  | prs ps =>
    cases h
    unfold It'.at
    simp
  | kys xs =>
    cases h
    unfold It'.at
    simp
  | its ps =>
    cases h
    unfold It'.at
    simp
theorem It'.fuel_list {it : It'} {xs : List D} (h : it.list = some xs) (s : PS) : it.fuel s = xs.length := by
  cases it with
  | seq ys => cases h; rfl
  | cell => cases h
  | rng lo n => cases h; simp [It'.fuel]
  | rngC lo c n => cases h; simp [It'.fuel]
  | prs ps => cases h; simp [It'.fuel]
  | kys ps => cases h; simp [It'.fuel]
  | its ps => cases h; simp [It'.fuel]
theorem T_for {it : It'} {xs : List D} {n : Nat} {g : MG} {body : MS} {Q : Fl → PS → Prop} (hl : it.list = some xs) (Inv : Nat → PS → Prop)
    (step : ∀ i x s, xs[i]? = some x → Inv i s → T (g (.d x) s) fun _ s => T (body s) fun fl s => match fl with
      | .nx => ∃ s', trunc n s = some s' ∧ Inv (i + 1) s'
      | .ct => ∃ s', trunc n s = some s' ∧ Inv (i + 1) s'
      | .bk => Q .nx s
      | .rt x => Q (.rt x) s) (stop : ∀ s, Inv xs.length s → Q .nx s) : ∀ (m i : Nat) (s : PS), i + m = xs.length → Inv i s → T (forGo it n g body m i s) Q := by
  intro m
  induction m with
  | zero =>
    intro i s hi h
    unfold forGo
    rw [It'.at_list hl, List.getElem?_eq_none (by omega)]
    exact T_ok.mpr (stop s (by rw [← hi]; exact h))
  | succ m ih =>
    intro i s hi h
    unfold forGo
    obtain ⟨x, hx⟩ : ∃ x, xs[i]? = some x := ⟨xs[i]'(by omega), List.getElem?_eq_getElem (by omega)⟩
    rw [It'.at_list hl, hx]
    simp only [T_bind]
    refine (step i x s hx h).imp fun _ s1 h1 => h1.imp fun fl s2 h2 => ?_
    cases fl with
    | nx =>
      obtain ⟨s', e, h3⟩ := h2
      simp only [e]
      exact ih (i + 1) s' (by omega) h3
    | ct =>
      obtain ⟨s', e, h3⟩ := h2
      simp only [e]
      exact ih (i + 1) s' (by omega) h3
    | bk => exact T_ok.mpr h2
    | rt x => exact T_ok.mpr h2
theorem T_sFor {it : MI} {g : MG} {body : MS} {s : PS} {Q : Fl → PS → Prop} : T (sFor it g body s) Q ↔ T (it s) fun it s => T (forGo it s.w.length g body (it.fuel s) 0 s) Q := by
  unfold sFor
  rw [T_bind]
theorem T_lcGo {it : It'} {xs : List D} {n : Nat} {own : List Nat} {g : MG} {t : MT} {e : ME} {Q : Unit → PS → Prop} (hl : it.list = some xs) (Inv : Nat → List D → PS → Prop)
    (step : ∀ i x acc s, xs[i]? = some x → Inv i acc s → T (g (.d x) s) fun _ s => T (t s) fun c s => if c = true then T (e s) fun y s => OP (frz s y) fun z s => s.w[n]? = some (.lst acc) ∧
        ∃ s', trunc (n + 1) { s with w := s.w.set n (.lst (acc ++ [z])) } = some s' ∧ Inv (i + 1) (acc ++ [z]) { s' with g := wipeG own s'.g }
      else ∃ s', trunc (n + 1) s = some s' ∧ Inv (i + 1) acc { s' with g := wipeG own s'.g }) (stop : ∀ acc s, Inv xs.length acc s → Q () s) (hz : xs.length ≤ sizeLine) :
    ∀ (m i : Nat) (acc : List D) (s : PS), i + m = xs.length → acc.length ≤ i → Inv i acc s → T (lcGo it n own g t e m i s) Q := by
  intro m
  induction m with
  | zero =>
    intro i acc s hi ha h
    unfold lcGo
    rw [It'.at_list hl, List.getElem?_eq_none (by omega)]
    exact T_ok.mpr (stop acc s (by rw [← hi]; exact h))
  | succ m ih =>
    intro i acc s hi ha h
    unfold lcGo
    obtain ⟨x, hx⟩ : ∃ x, xs[i]? = some x := ⟨xs[i]'(by omega), List.getElem?_eq_getElem (by omega)⟩
    rw [It'.at_list hl, hx]
    simp only [T_bind, T_nox]
    refine (step i x acc s hx h).imp fun _ s1 h1 => h1.imp fun c s2 h2 => ?_
    cases c with
    | false =>
      simp only [Bool.false_eq_true, if_false] at h2 ⊢
      obtain ⟨s', e, h3⟩ := h2
      simp only [e]
      exact ih (i + 1) acc _ (by omega) (by omega) h3
    | true =>
      simp only [if_true, T_bind, T_nox] at h2 ⊢
      refine h2.imp fun y s3 hp => ?_
      cases e1 : frz s3 y with
      | none => rw [e1] at hp; exact hp.elim
      | some p =>
      rw [e1] at hp
      obtain ⟨e2, s', e3, h3⟩ := hp
      obtain ⟨y', s4⟩ := p
      dsimp only at e2 e3 h3
      simp only [e2]
      rw [if_pos (by omega)]
      simp only [e3]
      exact ih (i + 1) _ _ (by omega) (by simp; omega) h3
theorem T_lc {it : MI} {own : List Nat} {g : MG} {t : MT} {e : ME} {s : PS} {Q : SV → PS → Prop} : T (vLcN it own g t e s) Q ↔ T (it s) fun it s =>
    T (lcGo it s.w.length own g t e (it.fuel s) 0 { g := wipeG own s.g, w := s.w ++ [.lst []] }) fun _ s' => Q (.cell s.w.length) { s' with g := backG own s.g s'.g } := by
  unfold vLcN
  simp only [T_bind, T_ok]
/-! ### defs -/
theorem FT_fn {k : Nat} {body : MS} {xs : List SV} {w : List Cell} {Q : SV → List Cell → Prop} : FT (fnM k body) xs w Q ↔ T (body { g := xs.map some ++ List.replicate (k - xs.length) none, w := w }) fun fl s => match fl with
    | .nx => OP (retW w.length (.d .non) s.w) Q
    | .rt x => OP (retW w.length x s.w) Q
    | _ => False := by
  unfold FT fnM
  cases h : body { g := xs.map some ++ List.replicate (k - xs.length) none, w := w } with
  | stuck => simp
  | err e s =>
    simp only [T_err]
    cases retW w.length (.d .non) s.w with
    | none => simp
    | some p => simp
  | ok fl s =>
    cases fl with
    | nx =>
      simp only [T_ok]
      cases retW w.length (.d .non) s.w with
      | none => simp
      | some p => obtain ⟨x, w⟩ := p; simp
    | rt x =>
      simp only [T_ok]
      cases retW w.length x s.w with
      | none => simp
      | some p => obtain ⟨x, w⟩ := p; simp
    | bk => simp
    | ct => simp
/-! ### flat worlds -/
def isDat : SV → Bool
  | .d _ => true
  | .cell _ => false
def flatC : Cell → Bool
  | .ins _ fs => fs.all fun p => isDat p.2
  | .lsv xs => xs.all isDat
  | _ => true
def Flat (w : List Cell) : Prop := ∀ c ∈ w, flatC c = true
theorem flat_below {c : Cell} (h : flatC c = true) (n : Nat) : cellBelow n c = true := by
  cases c with
  | ins c fs =>
    refine List.all_eq_true.mpr fun p hp => ?_
    have q : isDat p.2 = true := List.all_eq_true.mp (show (fs.all fun p => isDat p.2) = true from h) p hp
    cases e : p.2 with
    | d x => rfl
    | cell k => rw [e] at q; cases q
  | lsv xs =>
    refine List.all_eq_true.mpr fun p hp => ?_
    have q : isDat p = true := List.all_eq_true.mp (show xs.all isDat = true from h) p hp
    cases p with
    | d x => rfl
    | cell k => cases q
  | _ => rfl
theorem Flat.take {w : List Cell} (h : Flat w) (n : Nat) : Flat (w.take n) := fun c m => h c (List.mem_of_mem_take m)
theorem Flat.all {w : List Cell} (h : Flat w) (n : Nat) : w.all (cellBelow n) = true := List.all_eq_true.mpr fun c m => flat_below (h c m) n
theorem Flat.nil : Flat [] := fun _ m => by simp at m
theorem Flat.append {w v : List Cell} (h : Flat w) (h' : Flat v) : Flat (w ++ v) := fun c m => (List.mem_append.mp m).elim (h c) (h' c)
theorem Flat.one {c : Cell} (h : flatC c = true) : Flat [c] := fun c' m => by rw [List.mem_singleton] at m; rw [m]; exact h
theorem Flat.set {w : List Cell} {k : Nat} {c : Cell} (h : Flat w) (hc : flatC c = true) : Flat (w.set k c) := fun c' m => by
  rcases List.mem_or_eq_of_mem_set m with m | rfl
  · exact h c' m
  · exact hc
theorem Flat.trunc {s : PS} (h : Flat s.w) (n : Nat) : Bf.trunc n s = some { g := s.g.map (dropG n), w := s.w.take n } := by
  unfold Bf.trunc
  rw [if_pos ((h.take n).all n)]
theorem Flat.ret {w : List Cell} (h : Flat w) {n : Nat} {x : D} : retW n (.d x) w = some (.d x, w.take n) := by
  unfold retW
  rw [if_pos ((h.take n).all n)]
theorem Flat.retC {w : List Cell} (h : Flat w) {n k : Nat} {c : Cell} (hk : n ≤ k) (hc : w[k]? = some c) : retW n (.cell k) w = some (.cell n, w.take n ++ [c]) := by
  unfold retW
  rw [if_pos ((h.take n).all n)]
  dsimp only
  rw [if_neg (by omega)]
  simp only [hc]
  rw [if_pos (flat_below (h c (List.mem_of_getElem? hc)) n)]
theorem rd_lst' {s : PS} {k : Nat} {xs : List D} (h : s.w[k]? = some (.lst xs)) : rd s (.cell k) = some (.lst xs) := by
  unfold rd
  simp only [h]
@[simp] theorem rd_d {s : PS} {x : D} : rd s (.d x) = some x := rfl
@[simp] theorem frz_d {s : PS} {x : D} : frz s (.d x) = some (x, s) := rfl
@[simp] theorem frzs_nil {s : PS} : frzs s [] = some ([], s) := rfl
@[simp] theorem frzs_d {s : PS} {x : D} {xs : List SV} : frzs s (.d x :: xs) = (frzs s xs).map fun p => (x :: p.1, p.2) := by
  rw [frzs, frz_d]
  dsimp only
  cases frzs s xs <;> rfl
@[simp] theorem rds_nil {s : PS} : rds s [] = some [] := rfl
@[simp] theorem rds_d {s : PS} {x : D} {xs : List SV} : rds s (.d x :: xs) = (rds s xs).map (x :: ·) := by
  rw [rds, rd_d]
  cases rds s xs <;> rfl
@[simp] theorem dropG_none {n : Nat} : dropG n none = none := rfl
@[simp] theorem dropG_d {n : Nat} {x : D} : dropG n (some (.d x)) = some (.d x) := rfl
theorem dropG_lt {n k : Nat} (h : k < n) : dropG n (some (.cell k)) = some (.cell k) := by
  show (if k < n then _ else _) = _
  rw [if_pos h]
theorem dropG_ge {n k : Nat} (h : n ≤ k) : dropG n (some (.cell k)) = none := by
  show (if k < n then _ else _) = _
  rw [if_neg (by omega)]
end Bf
/-! The mirror layer: comprehensions without trace, kinds of values, worlds with a die. -/
namespace Bf
open PySem PySem.Spec PyProof.Rows L2
@[simp] theorem Flat_append {w v : List Cell} : Flat (w ++ v) ↔ Flat w ∧ Flat v := ⟨fun h => ⟨fun c m => h c (List.mem_append_left _ m), fun c m => h c (List.mem_append_right _ m)⟩, fun h => h.1.append h.2⟩
@[simp] theorem Flat_cons {c : Cell} {v : List Cell} : Flat (c :: v) ↔ flatC c = true ∧ Flat v := ⟨fun h => ⟨h c (by simp), fun d m => h d (List.mem_cons_of_mem _ m)⟩, fun h d m => by
  rcases List.mem_cons.mp m with rfl | m
  · exact h.1
  · exact h.2 d m⟩
@[simp] theorem Flat_nil : Flat [] := Flat.nil
@[simp] theorem flatC_lst {xs : List D} : flatC (.lst xs) = true := rfl
@[simp] theorem flatC_gone : flatC .gone = true := rfl
@[simp] theorem retW_flat {w : List Cell} {n : Nat} {x : D} (h : Flat w) : retW n (.d x) w = some (.d x, w.take n) := h.ret
@[simp] theorem trunc_flat {s : PS} {n : Nat} (h : Flat s.w) : trunc n s = some { g := s.g.map (dropG n), w := s.w.take n } := h.trunc n
@[simp] theorem eqD_int {a b : Int} : eqD (.int a) (.int b) = some (.bl (decide (a = b))) := rfl
@[simp] theorem neD_int {a b : Int} : neD (.int a) (.int b) = some (.bl (!decide (a = b))) := rfl
@[simp] theorem neD_str {a b : Str} : neD (.str a) (.str b) = some (.bl (!(a == b))) := rfl
@[simp] theorem leD_int {a b : Int} : leD (.int a) (.int b) = some (.bl (decide (a ≤ b))) := rfl
@[simp] theorem ltD_int {a b : Int} : ltD (.int a) (.int b) = some (.bl (decide (a < b))) := rfl
@[simp] theorem gtD_int {a b : Int} : gtD (.int a) (.int b) = some (.bl (decide (b < a))) := rfl
@[simp] theorem geD_int {a b : Int} : geD (.int a) (.int b) = some (.bl (decide (b ≤ a))) := rfl
@[simp] theorem addD_int {a b : Int} : addD (.int a) (.int b) = some (.int (a + b)) := rfl
@[simp] theorem subD_int {a b : Int} : subD (.int a) (.int b) = some (.int (a - b)) := rfl
@[simp] theorem negD_int {a : Int} : negD (.int a) = some (.int (-a)) := rfl
theorem mulD_int {a b : Int} (h : mulOk a b = true) : mulD (.int a) (.int b) = some (.int (a * b)) := by
  show (if mulOk a b = true then _ else _) = _
  rw [if_pos h]
@[simp] theorem mulD_left {a b : Int} (h : a.natAbs < 2 ^ 64) : mulD (.int a) (.int b) = some (.int (a * b)) := mulD_int (by simp only [mulOk, h, decide_true, Bool.true_or])
@[simp] theorem mulD_right {a b : Int} (h : b.natAbs < 2 ^ 64) : mulD (.int a) (.int b) = some (.int (a * b)) := mulD_int (by simp only [mulOk, h, decide_true, Bool.true_or, Bool.or_true])
@[simp] theorem modD_int {a b : Int} (h : 0 < b) : modD (.int a) (.int b) = some (.int (a % b)) := by
  show (if 0 < b then _ else _) = _
  rw [if_pos h]
theorem divD_int {a b : Int} (h : 0 < b ∧ b.natAbs.log2 < 9000) : divD (.int a) (.int b) = some (.int (a / b)) := by
  show (if 0 < b ∧ b.natAbs.log2 < 9000 then _ else _) = _
  rw [if_pos h]
theorem powD_int {a : Int} {n : Nat} (h : (Builtin.Int.intBits a : Int) * n ≤ 2 ^ 27) : powD (.int a) (.int n) = some (.int (a ^ n)) := by
  show (if 0 ≤ (n : Int) ∧ (Builtin.Int.intBits a : Int) * n ≤ 2 ^ 27 then _ else _) = _
  rw [if_pos ⟨Int.natCast_nonneg _, h⟩]
  rfl
@[simp] theorem intB_int {a : Int} : intB [.int a] = some (.int a) := rfl
@[simp] theorem intB_bl {b : Bool} : intB [.bl b] = some (.int (if b then 1 else 0)) := rfl
@[simp] theorem absB_int {a : Int} : absB [.int a] = some (.int (if a < 0 then -a else a)) := rfl
@[simp] theorem maxB_int {a b : Int} : maxB [.int a, .int b] = some (.int (if b > a then b else a)) := rfl
@[simp] theorem minB_int {a b : Int} : minB [.int a, .int b] = some (.int (if b < a then b else a)) := rfl
@[simp] theorem lenB_scr {ns : List Int} : lenB [.scr ns] = some (.int ns.length) := rfl
@[simp] theorem lenB_lst {xs : List D} : lenB [.lst xs] = some (.int xs.length) := rfl
@[simp] theorem lenB_tup {xs : List D} : lenB [.tup xs] = some (.int xs.length) := rfl
@[simp] theorem lenB_str {x : Str} : lenB [.str x] = some (.int x.length) := rfl
@[simp] theorem idxD_tup {xs : List D} {i : Int} : idxD (.tup xs) (.int i) = atI xs i := rfl
@[simp] theorem idxD_lst {xs : List D} {i : Int} : idxD (.lst xs) (.int i) = atI xs i := rfl
@[simp] theorem idxD_scr {xs : List Int} {i : Int} : idxD (.scr xs) (.int i) = (atI xs i).map .int := rfl
@[simp] theorem idxD_str {x : Str} {i : Int} : idxD (.str x) (.int i) = (atI x.cps.toList i).map fun c => .str ⟨#[c]⟩ := rfl
theorem atI_of {α : Type} {xs : List α} {i : Int} (h : 0 ≤ i) (h2 : i < xs.length) : atI xs i = xs[i.toNat]? := by
  unfold atI ixN
  rw [if_pos h, if_pos h2]
  rfl
@[simp] theorem at_0 {α : Type} {x : α} {xs : List α} : atI (x :: xs) 0 = some x := by
  rw [atI_of (by decide) (by simp)]
  rfl
@[simp] theorem at_1 {α : Type} {x y : α} {xs : List α} : atI (x :: y :: xs) 1 = some y := by
  rw [atI_of (by decide) (by simp; omega)]
  rfl
@[simp] theorem at_2 {α : Type} {x y z : α} {xs : List α} : atI (x :: y :: z :: xs) 2 = some z := by
  rw [atI_of (by decide) (by simp; omega)]
  rfl
theorem atI_mem {α : Type} {xs : List α} {i : Int} (h : 0 ≤ i) (h2 : i < xs.length) : ∃ x ∈ xs, atI xs i = some x := by
  rw [atI_of h h2]
  have hl : i.toNat < xs.length := by omega
  exact ⟨xs[i.toNat], List.getElem_mem hl, List.getElem?_eq_getElem hl⟩
/-! ### kinds -/
def tys : List String := ["NoneType", "bool", "int", "str", "tuple", "list", "dict"]
theorem kit_all : ∀ t ∈ tys, ∀ u ∈ ["int", "bool", "str", "tuple", "list"], kitB t u = some (decide (t = u) || (decide (t = "bool") && decide (u = "int"))) := by decide +kernel
def Known (x : D) : Prop := (tyD x).isSome = true
def isIntD : D → Bool
  | .int _ => true
  | _ => false
def isBlD : D → Bool
  | .bl _ => true
  | _ => false
def isStrD : D → Bool
  | .str _ => true
  | _ => false
def isTupD : D → Bool
  | .tup _ => true
  | _ => false
theorem isiB_eq {x : D} {t T : String} (h : tyD x = some t) : isiB [x, .raw (.ty T)] = (kitB t T).map .bl := by
  show (match tyD x with
    | some t => (kitB t T).map D.bl
    | none => none) = _
  rw [h]
@[simp] theorem isi_int {x : D} (h : Known x) : isiB [x, .raw (.ty "int")] = some (.bl (isIntD x || isBlD x)) := by
  cases x <;> first | (rw [isiB_eq rfl, kit_all _ (by decide) _ (by decide)]; rfl) | exact absurd h (by simp [Known, tyD])
@[simp] theorem isi_bool {x : D} (h : Known x) : isiB [x, .raw (.ty "bool")] = some (.bl (isBlD x)) := by
  cases x <;> first | (rw [isiB_eq rfl, kit_all _ (by decide) _ (by decide)]; rfl) | exact absurd h (by simp [Known, tyD])
@[simp] theorem isi_str {x : D} (h : Known x) : isiB [x, .raw (.ty "str")] = some (.bl (isStrD x)) := by
  cases x <;> first | (rw [isiB_eq rfl, kit_all _ (by decide) _ (by decide)]; rfl) | exact absurd h (by simp [Known, tyD])
@[simp] theorem isi_tuple {x : D} (h : Known x) : isiB [x, .raw (.ty "tuple")] = some (.bl (isTupD x)) := by
  cases x <;> first | (rw [isiB_eq rfl, kit_all _ (by decide) _ (by decide)]; rfl) | exact absurd h (by simp [Known, tyD])
@[simp] theorem Known_int {i : Int} : Known (.int i) := rfl
@[simp] theorem Known_bl {i : Bool} : Known (.bl i) := rfl
@[simp] theorem Known_str {i : Str} : Known (.str i) := rfl
@[simp] theorem Known_non : Known .non := rfl
@[simp] theorem Known_tup {xs : List D} : Known (.tup xs) := rfl
@[simp] theorem Known_lst {xs : List D} : Known (.lst xs) := rfl
@[simp] theorem Known_dic {xs : List (D × D)} : Known (.dic xs) := rfl
/-! ### comprehensions without trace -/
/-- the slots' cells are there -/
def Slots (n : Nat) (g : List (Option SV)) : Prop := ∀ k, some (.cell k) ∈ g → k < n
theorem Slots.drop {n m : Nat} {g : List (Option SV)} (h : Slots n g) (hm : n ≤ m) : g.map (dropG m) = g := by
  conv => rhs; rw [← List.map_id g]
  refine List.map_congr_left fun o ho => ?_
  cases o with
  | none => rfl
  | some x =>
    cases x with
    | d => rfl
    | cell k => exact dropG_lt (Nat.lt_of_lt_of_le (h k ho) hm)
theorem Slots.sub {n : Nat} {x : D} {g : List (Option SV)} (h : Slots n g) : g.map (subG n x) = g := by
  conv => rhs; rw [← List.map_id g]
  refine List.map_congr_left fun o ho => ?_
  cases o with
  | none => rfl
  | some y =>
    cases y with
    | d => rfl
    | cell k =>
      show (if k = n then _ else _) = _
      rw [if_neg (by have := h k ho; omega)]
      rfl
theorem Slots.set {n i : Nat} {x : D} {g : List (Option SV)} (h : Slots n g) : Slots n (g.set i (some (.d x))) := fun k m => by
  rcases List.mem_or_eq_of_mem_set m with m | m
  · exact h k m
  · cases m
theorem T_lc_map {it : It'} {xs : List D} {i : Nat} {g0 : List (Option SV)} {w : List Cell} {t : MT} {e : ME} {f : D → D} {p : D → Bool} {Q : SV → PS → Prop} {m : Nat} (hl : it.list = some xs) (hm : m = xs.length)
    (hi : g0[i]? = some none) (hg : Slots w.length g0) (hw : Flat w) (hz : xs.length ≤ sizeLine)
    (step : ∀ x ∈ xs, ∀ v, Flat v → T (t ⟨g0.set i (some (.d x)), w ++ v⟩) fun c s => c = p x ∧ s = ⟨g0.set i (some (.d x)), w ++ v⟩ ∧ (c = true → T (e s) fun y s' => y = .d (f x) ∧ s' = s))
    (h : Q (.cell w.length) ⟨g0, w ++ [.lst ((xs.filter p).map f)]⟩) :
    T (lcGo it w.length [i] (hName i) t e m 0 { g := wipeG [i] g0, w := w ++ [.lst []] }) fun _ s' => Q (.cell w.length) { s' with g := backG [i] g0 s'.g } := by
  have wg : wipeG [i] g0 = g0 := by
    show g0.set i none = g0
    refine List.ext_getElem? fun j => ?_
    by_cases hj : i = j
    · subst hj
      rw [hi, List.getElem?_set_self (List.getElem?_eq_some_iff.mp hi).1]
    · rw [List.getElem?_set_ne hj]
  have sw : ∀ x, wipeG [i] (g0.set i (some (.d x))) = g0 := fun x => by
    show (g0.set i _).set i none = g0
    rw [List.set_set]
    exact wg
  have hil : i < g0.length := (List.getElem?_eq_some_iff.mp hi).1
  subst hm
  refine T_lcGo hl (Inv := fun j acc s => s = ⟨g0, w ++ [.lst acc]⟩ ∧ acc = ((xs.take j).filter p).map f) (fun j x acc s hx hI => ?_) (fun acc s hI => ?_) hz _ 0 [] _ (by simp) (by simp) ⟨by rw [wg], by simp⟩
  · obtain ⟨rfl, ha⟩ := hI
    rw [T_name]
    refine ⟨hil, ?_⟩
    have hxm : x ∈ xs := List.mem_of_getElem? hx
    have tk : (xs.take (j + 1)).filter p = (xs.take j).filter p ++ if p x = true then [x] else [] := by
      rw [List.take_add_one, hx, List.filter_append]
      by_cases hp : p x = true <;> simp [hp]
    refine (step x hxm [.lst acc] (by simp)).imp fun c s hc => ?_
    obtain ⟨rfl, rfl, he⟩ := hc
    cases hp : p x with
    | false =>
      simp only [Bool.false_eq_true, if_false]
      rw [Flat.trunc (by simp [hw])]
      refine ⟨_, rfl, ?_, by rw [tk, ha, hp]; simp⟩
      simp only [(hg.set).drop (Nat.le_succ _), sw]
      rw [List.take_of_length_le (by simp)]
    | true =>
      simp only [if_true]
      refine (he hp).imp fun y s' hy => ?_
      obtain ⟨rfl, rfl⟩ := hy
      rw [frz_d]
      refine ⟨by simp, _, Flat.trunc (by simp [hw, Flat.set]) _, ?_, by rw [tk, ha, hp]; simp⟩
      simp only [(hg.set).drop (Nat.le_succ _), sw]
      rw [List.take_of_length_le (by simp)]
      simp
  · obtain ⟨rfl, ha⟩ := hI
    rw [List.take_length] at ha
    subst ha
    have bg : backG [i] g0 g0 = g0 := by
      show g0.set i (match g0[i]? with
        | some (some (.d x)) => some (.d x)
        | _ => none) = g0
      rw [hi]
      exact wg
    rw [bg]
    exact h
theorem FT_iff {f : Fn} {xs : List SV} {w v : List Cell} {y : SV} {Q : SV → List Cell → Prop} (h : FT f xs w fun x w' => x = y ∧ w' = v) : FT f xs w Q ↔ Q y v := by
  unfold FT at *
  cases q : f xs w with
  | ok a s =>
    rw [q] at h
    obtain ⟨rfl, rfl⟩ := h
    exact Iff.rfl
  | err => rw [q] at h; exact h.elim
  | stuck => rw [q] at h; exact h.elim
theorem frz_last {g : List (Option SV)} {w : List Cell} {ys : List D} (h : Slots w.length g) : frz ⟨g, w ++ [.lst ys]⟩ (.cell w.length) = some (.lst ys, ⟨g, w ++ [.gone]⟩) := by
  unfold frz
  simp [h.sub]
/-- a frozen comprehension without trace -/
theorem T_flc_map {it : It'} {xs : List D} {i : Nat} {g0 : List (Option SV)} {w : List Cell} {mi : MI} {t : MT} {e : ME} {f : D → D} {p : D → Bool} {Q : D → PS → Prop} (hit : T (mi ⟨g0, w⟩) fun j s => j = it ∧ s = ⟨g0, w⟩) (hl : it.list = some xs)
    (hi : g0[i]? = some none) (hg : Slots w.length g0) (hw : Flat w) (hz : xs.length ≤ sizeLine)
    (step : ∀ x ∈ xs, ∀ v, Flat v → T (t ⟨g0.set i (some (.d x)), w ++ v⟩) fun c s => c = p x ∧ s = ⟨g0.set i (some (.d x)), w ++ v⟩ ∧ (c = true → T (e s) fun y s' => y = .d (f x) ∧ s' = s))
    (h : Q (.lst ((xs.filter p).map f)) ⟨g0, w ++ [.gone]⟩) : T (vLcN mi [i] (hName i) t e ⟨g0, w⟩) fun x s => OP (frz s x) fun y s => Q y s := by
  rw [T_lc]
  refine hit.imp fun j s ⟨e1, e2⟩ => ?_
  subst e1 e2
  rw [It'.fuel_list hl]
  refine T_lc_map (Q := fun x s => OP (frz s x) fun y s => Q y s) hl rfl hi hg hw hz step ?_
  dsimp only
  rw [frz_last hg]
  exact h
theorem boolsD_map {α : Type} {xs : List α} {f : α → Bool} : boolsD (xs.map fun d => D.bl (f d)) = some (xs.map f) := by
  induction xs with
  | nil => rfl
  | cons x xs ih =>
    show (match boolsD (xs.map fun d => D.bl (f d)) with
      | some bs => some (f x :: bs)
      | none => none) = _
    rw [ih]
    rfl
@[simp] theorem allB_map {α : Type} {xs : List α} {f : α → Bool} : allB [.lst (xs.map fun d => D.bl (f d))] = some (.bl (xs.all f)) := by
  show (match boolsD (xs.map fun d => D.bl (f d)) with
    | some bs => some (D.bl (bs.all id))
    | none => none) = _
  rw [boolsD_map]
  show some (D.bl ((xs.map f).all id)) = _
  rw [List.all_map]
  rfl
end Bf
/-! The mirror layer: worlds with a die. -/
namespace Bf
open PySem PySem.Spec PyProof.Rows L2
structure DOk (w : List Cell) (k : Nat) : Prop where
  flat : Flat w
  ex : ∃ a b c : Int, w[k]? = some (.lst [.int a, .int b, .int c])
theorem DOk.lt {w : List Cell} {k : Nat} (h : DOk w k) : k < w.length := by
  obtain ⟨a, b, c, e⟩ := h.ex
  exact (List.getElem?_eq_some_iff.mp e).1
/-- the world w' comes after w: the die may be another, further cells may be there -/
structure Upd (k : Nat) (w w' : List Cell) : Prop where
  len : w.length ≤ w'.length
  same : ∀ j, j < w.length → j ≠ k → w'[j]? = w[j]?
  ok : DOk w' k
theorem Upd.refl {k : Nat} {w : List Cell} (h : DOk w k) : Upd k w w := ⟨Nat.le_refl _, fun _ _ _ => rfl, h⟩
theorem Upd.trans {k : Nat} {w v u : List Cell} (h : Upd k w v) (h' : Upd k v u) : Upd k w u := ⟨Nat.le_trans h.len h'.len, fun j hj hk => (h'.same j (Nat.lt_of_lt_of_le hj h.len) hk).trans (h.same j hj hk), h'.ok⟩
theorem DOk.append {w v : List Cell} {k : Nat} (h : DOk w k) (hv : Flat v) : DOk (w ++ v) k := ⟨h.flat.append hv, by
  obtain ⟨a, b, c, e⟩ := h.ex
  exact ⟨a, b, c, by rw [List.getElem?_append_left h.lt]; exact e⟩⟩
theorem Upd.append {k : Nat} {w v : List Cell} (h : DOk w k) (hv : Flat v) : Upd k w (w ++ v) := ⟨by simp, fun j hj _ => List.getElem?_append_left hj, h.append hv⟩
theorem DOk.append_upd {k : Nat} {w v : List Cell} (h : DOk w k) (hv : Flat v) : Upd k w (w ++ v) := Upd.append h hv
theorem Upd.set {k : Nat} {w : List Cell} {a b c : Int} (h : DOk w k) : Upd k w (w.set k (.lst [.int a, .int b, .int c])) := ⟨by simp, fun j hj hk => List.getElem?_set_ne (Ne.symm hk), h.flat.set rfl, a, b, c, List.getElem?_set_self h.lt⟩
/-- another cell is changed -/
theorem Upd.set' {k j : Nat} {w v : List Cell} {c : Cell} (h : Upd k w v) (hj : w.length ≤ j) (hk : k < w.length) (hc : flatC c = true) : Upd k w (v.set j c) := ⟨by simpa using h.len, fun i hi hk => by
  rw [List.getElem?_set_ne (by omega)]
  exact h.same i hi hk, h.ok.flat.set hc, by
  obtain ⟨a, b, c, e⟩ := h.ok.ex
  exact ⟨a, b, c, by rw [List.getElem?_set_ne (by omega)]; exact e⟩⟩
theorem Upd.take {k n : Nat} {w v : List Cell} (h : Upd k w v) (hk : k < w.length) (hn : w.length ≤ n) : Upd k w (v.take n) := ⟨by rw [List.length_take]; have := h.len; omega, fun j hj hk => by
  rw [List.getElem?_take_of_lt (by omega)]
  exact h.same j hj hk, h.ok.flat.take _, by
  obtain ⟨a, b, c, e⟩ := h.ok.ex
  exact ⟨a, b, c, by rw [List.getElem?_take_of_lt (by omega)]; exact e⟩⟩
theorem Upd.take_len {k : Nat} {w v : List Cell} (h : Upd k w v) : (v.take w.length).length = w.length := by
  rw [List.length_take]
  have := h.len
  omega
/-- what a def with a die does -/
def Dies (f : Fn) (args : List SV) (P : D → Prop) : Prop := ∀ (k : Nat) (w : List Cell), DOk w k → FT f (.cell k :: args) w fun x w' => (Upd k w w' ∧ w'.length = w.length) ∧ ∃ y, x = .d y ∧ P y
/-- .. as the end of its body -/
theorem die_end {k : Nat} {w v : List Cell} {y : D} {P : D → Prop} (h : Upd k w v) (hk : DOk w k) (p : P y) : OP (retW w.length (.d y) v) fun x w' => (Upd k w w' ∧ w'.length = w.length) ∧ ∃ y, x = .d y ∧ P y := by
  rw [h.ok.flat.ret]
  exact ⟨⟨h.take hk.lt (Nat.le_refl _), h.take_len⟩, y, rfl, p⟩
@[simp] theorem ixN30 : ixN 3 0 = some 0 := rfl
@[simp] theorem ixN32 : ixN 3 2 = some 2 := rfl
theorem rd_set {g : List (Option SV)} {w : List Cell} {k : Nat} {xs : List D} (h : k < w.length) : rd ⟨g, w.set k (.lst xs)⟩ (.cell k) = some (.lst xs) := rd_lst' (by simp [h])
theorem log_ok {t : Int} (h : t ≤ 10 ^ 40) (h0 : 0 < t) : t.natAbs.log2 < 9000 := by
  have : t.natAbs < 2 ^ 200 := by
    have : (2 : Nat) ^ 200 = 1606938044258990275541962092341162602522202993782792835301376 := by decide
    rw [this]
    have e : (10 : Int) ^ 40 = 10000000000000000000000000000000000000000 := by decide
    rw [e] at h
    omega
  have h2 : t.natAbs ≠ 0 := by omega
  have := (Nat.log2_lt h2).mpr this
  omega
@[simp] theorem T_dic0 {s : PS} {Q : SV → PS → Prop} : T (vDic0 s) Q ↔ Q (.d (.dic [])) s := by unfold T; exact Iff.rfl
theorem small {n : Nat} (h : n ≤ 100000) : n ≤ sizeLine := by
  rw [sizeLine_eq]
  omega
theorem Dies.imp {f : Fn} {args : List SV} {P P' : D → Prop} (h : Dies f args P) (i : ∀ y, P y → P' y) : Dies f args P' := fun k w hw => (h k w hw).imp fun x w' ⟨a, y, e, p⟩ => ⟨a, y, e, i y p⟩
@[simp] theorem at_app0 {w r : List Cell} {c : Cell} : (w ++ c :: r)[w.length]? = some c := by simp
@[simp] theorem at_app1 {w r : List Cell} {a c : Cell} : (w ++ a :: c :: r)[w.length + 1]? = some c := by
  rw [List.getElem?_append_right (by omega)]
  have : w.length + 1 - w.length = 1 := by omega
  rw [this]
  rfl
@[simp] theorem at_app2 {w r : List Cell} {a b c : Cell} : (w ++ a :: b :: c :: r)[w.length + 1 + 1]? = some c := by
  rw [List.getElem?_append_right (by omega)]
  have : w.length + 1 + 1 - w.length = 2 := by omega
  rw [this]
  rfl
@[simp] theorem rd_app0 {g : List (Option SV)} {w r : List Cell} {xs : List D} : rd ⟨g, w ++ .lst xs :: r⟩ (.cell w.length) = some (.lst xs) := rd_lst' at_app0
@[simp] theorem rd_app1 {g : List (Option SV)} {w r : List Cell} {a : Cell} {xs : List D} : rd ⟨g, w ++ a :: .lst xs :: r⟩ (.cell (w.length + 1)) = some (.lst xs) := rd_lst' at_app1
@[simp] theorem rd_app2 {g : List (Option SV)} {w r : List Cell} {a b : Cell} {xs : List D} : rd ⟨g, w ++ a :: b :: .lst xs :: r⟩ (.cell (w.length + 1 + 1)) = some (.lst xs) := rd_lst' at_app2
theorem sl_str (s : Str) (a b : Option Int) : ∃ t : Str, slD (.str s) a b = some (.str t) ∧ t.length ≤ s.length := by
  refine ⟨_, rfl, ?_⟩
  have e : s.cps.toList.length = s.length := Array.length_toList
  show (cutD s.cps.toList a b).toArray.size ≤ _
  unfold cutD
  rw [List.size_toArray, List.length_take, List.length_drop]
  omega
end Bf
/-! The mirror layer: what is never run; max and min of several numbers or of a list. -/
namespace Bf
open PySem PySem.Spec PyProof.Rows L2
def sStuck : MS := fun _ => .stuck
theorem ms_stuck {X : Cx} {CT : Ctx} {E : Sto → XK} {st : Stmt} : L2.PS X st (upS X.K CT E sStuck) := ⟨fun _ _ _ _ _ _ ⟨_, _, _, _, h⟩ => h.elim⟩
/-- max, min of a list, or of two up to six numbers -/
def numsD (f : List Int → Option Int) (ds : List D) : Option D := match ds with
  | [.lst xs] => ((intsD xs).bind f).map .int
  | [.tup xs] => none
  | ds => if 2 ≤ ds.length ∧ ds.length ≤ 6 then ((intsD ds).bind f).map .int else none
@[simp ↓] theorem T_hTup2 {g1 g2 : MG} {a b : D} {s : PS} {Q : Unit → PS → Prop} : T (hTup [g1, g2] (.d (.tup [a, b])) s) Q ↔ T (g1 (.d a) s) fun _ s => T (g2 (.d b) s) Q := by
  unfold hTup
  simp only [rd_d]
  rw [if_pos (show [a, b].length = [g1, g2].length from rfl)]
  unfold hAll
  rw [T_bind]
  unfold hAll
  simp only [T_bind]
  unfold hAll
  refine iff_of_eq (congrArg (T _) (funext fun _ => funext fun s => ?_))
  refine congrArg (T _) (funext fun u => funext fun s => ?_)
  cases u
  exact propext T_ok
@[simp ↓] theorem T_hTup3 {g1 g2 g3 : MG} {a b c : D} {s : PS} {Q : Unit → PS → Prop} : T (hTup [g1, g2, g3] (.d (.tup [a, b, c])) s) Q ↔ T (g1 (.d a) s) fun _ s => T (g2 (.d b) s) fun _ s => T (g3 (.d c) s) Q := by
  unfold hTup
  simp only [rd_d]
  rw [if_pos (show [a, b, c].length = [g1, g2, g3].length from rfl)]
  unfold hAll
  rw [T_bind]
  unfold hAll
  simp only [T_bind]
  unfold hAll
  simp only [T_bind]
  unfold hAll
  refine iff_of_eq (congrArg (T _) (funext fun _ => funext fun s => congrArg (T _) (funext fun _ => funext fun s => ?_)))
  refine congrArg (T _) (funext fun u => funext fun s => ?_)
  cases u
  exact propext T_ok
@[simp] theorem neD_bl {a b : Bool} : neD (.bl a) (.bl b) = some (.bl (!(a == b))) := rfl
@[simp] theorem eqD_bl {a b : Bool} : eqD (.bl a) (.bl b) = some (.bl (a == b)) := rfl
theorem log_small {a : Int} (h : a.natAbs ≤ 10 ^ 40) : a.natAbs.log2 < 200 := by
  by_cases h0 : a.natAbs = 0
  · rw [h0]
    decide
  · refine (Nat.log2_lt h0).mpr (Nat.lt_of_le_of_lt h ?_)
    decide +kernel
theorem mulOk_le {a b : Int} (ha : a.natAbs ≤ 10 ^ 40) (hb : b.natAbs ≤ 10 ^ 40) : mulOk a b = true := by
  have h1 := log_small ha
  have h2 := log_small hb
  unfold mulOk
  have : a.natAbs.log2 + b.natAbs.log2 < 1000000 := by omega
  rw [decide_eq_true this, Bool.or_true]
def Dat' (o : Option SV) : Prop := o = none ∨ ∃ d, o = some (.d d)
theorem Dat'.drop {o : Option SV} (h : Dat' o) (n : Nat) : dropG n o = o := by
  rcases h with rfl | ⟨d, rfl⟩ <;> rfl
theorem T_seq_of {m n : MS} {s : PS} {Q : Fl → PS → Prop} (P : PS → Prop) (h1 : T (m s) fun fl s => fl = .nx ∧ P s) (h2 : ∀ s, P s → T (n s) Q) : T (sSeq m n s) Q := by
  rw [T_seq]
  refine h1.imp fun fl s h => ?_
  obtain ⟨rfl, h⟩ := h
  exact h2 s h
end Bf
/-! The mirror layer: constants that are tuples; sorted. -/
namespace Bf
open PySem PySem.Spec PyProof.Rows L2
/-- a constant of the text that is a tuple -/
structure GT (K : PySem.W.Frag) (mg : Str → Option Value) (x : Str) (ds : List D) : Prop where
  ex : ∃ (a : Addr) (o : Obj) (its : Array Value) (n : Nat) (vs : List V), mg x = some (.ref a) ∧ K.lookup a = some o ∧ o.cls = .type "tuple" ∧ o.data = .seq its n ∧ its.size ≤ sizeLine ∧ Vals vs its.toList ∧ ∀ CT F, Reps K CT F vs ds
theorem me_gt {X : Cx} {CT : Ctx} {E : Sto → XK} {p : Pos} {x : Str} {ds : List D} (g : GT X.K X.mg x ds) (hg : Gl X x := by rfl) (hd : (x == ("__debug__" : Str)) = false := by decide) : PE X (.Name x p) (up X.K CT E (vC (.kup ds))) := by
  obtain ⟨a, o, its, n, vs, hm, hl, hc, hs, hz, hv, hr⟩ := g.ex
  exact me_glob (v := .ref a) hm rfl (fun F => Rep.kup (.inr ⟨o, its, n, hl, hc, hs, hz, hv⟩) (hr CT F)) hg hd
theorem str_rep {K : PySem.W.Frag} {CT : Ctx} {F : Hp} {x : Str} (h1 : x.length ≤ 100000 := by decide +kernel) (h2 : PyData.strOk x = true := by decide +kernel) : Rep K CT F (.str x) (.str x) := .str x (Nat.le_trans h1 (by rw [sizeLine_eq]; decide)) h2
/-- a or b, of values -/
def vOrV (a b : ME) : ME := fun s => (a s).bind fun x s => match rd s x with
  | some d => match truD d with
    | some k => if k = true then .ok x s else b s
    | none => .stuck
  | none => .stuck
@[simp ↓] theorem T_orV {a b : ME} {s : PS} {Q : SV → PS → Prop} : T (vOrV a b s) Q ↔ T (a s) fun x s => OD (rd s x) fun d => OD (truD d) fun k => if k = true then Q x s else T (b s) Q := by
  unfold vOrV
  rw [T_bind]
  refine iff_of_eq (congrArg (T _) (funext fun x => funext fun s => propext ?_))
  cases rd s x with
  | none => simp
  | some d =>
    simp only [OD_some]
    cases h : truD d with
    | none => simp
    | some k => cases k <;> simp
end Bf
namespace Bf
open PySem PySem.SeqAt
open PySem.MeetsSeq
open AutoSeq1 (wpAny_loadPart')
theorem dict_eq_declines_str (l : Addr) (o : Obj) (b : Str) (u : Tok) :
    Meets (Builtin.«dict.__eq__» ⟨[.ref l, .str b u], []⟩) (fun _ R s => s.heap.get? l = some o ∧ o.cls = .type "dict" ∧ R (.ok (.ret .notImplemented)) s) :=
  .of_wp fun prog w A R s h => by obtain ⟨hp, g, d, tk, os⟩ := s; obtain ⟨cls, dd, data, sl⟩ := o; obtain ⟨hl, hc, h⟩ := h; simp only at hc; subst hc; have f1 := F.sub_str_dict; wp_walk using wpAny_loadPart' hl, wpAny_load hl; exact ⟨_, rfl, h⟩
theorem str_eq_declines_dict (l : Addr) (o : Obj) (es : Array DictEntry) (ep : Nat) (b : Str) (u : Tok) :
    Meets (Builtin.«str.__eq__» ⟨[.str b u, .ref l], []⟩) (fun _ R s => s.heap.get? l = some o ∧ o.data = .dict es ep ∧ R (.ok (.ret .notImplemented)) s) :=
  .of_wp fun prog w A R s h => by obtain ⟨hp, g, d, tk, os⟩ := s; obtain ⟨cls, dd, data, sl⟩ := o; obtain ⟨hl, hc, h⟩ := h; simp only at hc; subst hc; wp_walk using wpAny_loadPart' hl, wpAny_load hl; exact ⟨_, rfl, h⟩
section
variable {A : Around} {s : Shared}
theorem RcAt.str_dict {l : Addr} {o : Obj} {es : Array DictEntry} {ep : Nat} (b : Str) (u : Tok) (ho : s.heap.get? l = some o) (hc : o.cls = .type "dict") (hd : o.data = .dict es ep) (hu : A.units < cLine) : RcAt A s (.str b u) (.ref l) false := fun prog w E Q h => by
  exact rc_eq_decline_or (k := false) (typeIs_str s b u) ⟨_, ho, by rw [hc]⟩ (by decide) F.sub_dict_str F.slot_str_eq F.slot_dict_eq_refl
    (fun _ hq => call_meets F.slot_str_eq (typeIs_str s b u) F.entry_str_eq (F.args_str_eq_2 _ _) (str_eq_declines_dict l o es ep b u) ⟨ho, hd, hq⟩)
    (fun _ hq => call_meets F.slot_dict_eq_refl ⟨_, ho, by rw [hc]⟩ F.entry_dict_eq (F.args_dict_eq_2 _ _) (dict_eq_declines_str l o b u) ⟨ho, hc, hq⟩)
    (fun _ hq => wpAny_of_eq (rfl : isSame (.str b u) (.ref l) = pure false) hq) (.inr hu) h
theorem EqAt.str_dict {l : Addr} {o : Obj} {es : Array DictEntry} {ep : Nat} (b : Str) (u : Tok) (ho : s.heap.get? l = some o) (hc : o.cls = .type "dict") (hd : o.data = .dict es ep) (hu : A.units < cLine) : EqAt A s (.str b u) (.ref l) false := fun prog w E Q h => by
  unfold eqBool
  refine wpAny_holding ?_
  refine wpAny_ite_split (fun hab => absurd (eq_of_beq hab) nofun) (fun _ => ?_)
  exact wpAny_bind (RcAt.str_dict b u ho hc hd hu prog w E _ (wpAny_truthy_bool h))
end
theorem Rdb.dic' {K : PySem.W.Frag} {CT : Ctx} {F H : L2.Hp} (S : Bf.Sub F H) {ds : List (D × D)} {v : L2.V} (h : Bf.Rdb K CT F H v (.dic ds)) : ∃ a kvs, v = .ref a ∧ L2.Rd H a (.dK kvs) := by
  cases h with
  | rep h => cases h with
    | dK h1 h2 => exact ⟨_, _, rfl, .inl (S _ _ h1)⟩
  | dic h1 h2 => exact ⟨_, _, rfl, .inl h1⟩
def isStrsP : List PyData → Bool
  | [] => true
  | .str _ :: r => isStrsP r
  | _ => false
theorem strs_mem {h : Heap} : ∀ (xs : List PyData) (vs : List Value) (as : List Addr), isStrsP xs = true → ReadsAll h vs xs as → ∀ y ∈ vs, ∃ b u, y = .str b u
  | [], _, _, _, r, y, hy => by cases r; cases hy
  | x :: xs, _, _, p, r, y, hy => by
    cases r with
    | cons r1 r2 =>
      cases x <;> simp only [isStrsP, Bool.false_eq_true] at p
      rcases List.mem_cons.mp hy with rfl | hy
      · cases r1; exact ⟨_, _, rfl⟩
      · exact strs_mem xs _ _ p r2 y hy
section
open L2
variable {X : Cx} {CT : Ctx}
def rDicIn (K : PySem.W.Frag) (g : Bool) : R2 := fun x y H Q => ∃ a kvs ys, x = .ref a ∧ Rd H a (.dK kvs) ∧ Dp K H y (.tuple ys) ∧ isStrsP ys = true ∧ Q (.bl g) H
theorem dict_obj {P : Program} {w : World} {H : Hp} {h : Heap} {a : Addr} {kvs : List (Key × V)} (ok : HOk P w H h) (e : Rd H a (.dK kvs)) : ∃ o es ep, h.get? a = some o ∧ o.cls = .type "dict" ∧ o.data = .dict es ep := by
  obtain ⟨_, _, vs, _, o, es, ep, h1, h2, h3, _⟩ := dk_rd ok e
  exact ⟨o, es, ep, h1, h2.1, h3⟩
theorem op_dicNin (hu : X.A.units + 65 < cLine) : OpR X (compareOp .NotIn) (rDicIn X.K true) := by
  intro pins s σ H x y v u Q I rx ry h
  obtain ⟨a, kvs, ys, rfl, hd, hy, hs, q⟩ := h
  cases rx
  obtain ⟨o, es, ep, h1, h2, h3⟩ := dict_obj I.hok hd
  obtain ⟨bs, r2⟩ := Dp.reads I (.tuple ys) y u hy ry
  cases r2 with
  | tuple t1 t2 t3 t4 =>
    refine notIn_tupleAt (fun _ => false) ⟨_, t1, t2, _, t3⟩ (fun z hz => ?_) ?_
    · obtain ⟨b, t, rfl⟩ := strs_mem ys _ _ hs t4 z (by simpa using hz)
      exact EqAt.str_dict b t h1 h2 h3 (by show X.A.units + 1 < cLine; omega)
    · have e : ∀ l : Array Value, l.any (fun _ => false) = false := fun l => by rw [Array.any_eq_false]; simp
      rw [e]; exact ⟨.bl _, H, I, rfl, q⟩
/-- as inD, and a dict beside texts -/
def isStrs : List D → Bool
  | [] => true
  | .str _ :: r => isStrs r
  | _ => false
theorem isStrs_py : ∀ ys : List D, isStrs ys = true → isStrsP (D.pys ys) = true ∧ D.plains ys = true
  | [], _ => ⟨rfl, rfl⟩
  | .str _ :: r, h => by
    obtain ⟨a, b⟩ := isStrs_py r h
    exact ⟨by rw [D.pys, D.py, isStrsP]; exact a, by rw [D.plains, D.plain, b]; rfl⟩
def inX (x y : D) : Option D := match x, y with
  | .dic _, .tup ys => if isStrs ys = true then some (.bl false) else none
  | x, y => inD x y
def ninX (x y : D) : Option D := match x, y with
  | .dic _, .tup ys => if isStrs ys = true then some (.bl true) else none
  | x, y => ninD x y
def eqX (x y : D) : Option D := match x, y with
  | .dic _, .tup ys => if D.plains ys = true then some (.bl false) else none
  | x, y => eqD x y
@[simp] theorem inX_dic {k : List (D × D)} {ys : List D} : inX (.dic k) (.tup ys) = if isStrs ys = true then some (.bl false) else none := rfl
@[simp] theorem ninX_dic {k : List (D × D)} {ys : List D} : ninX (.dic k) (.tup ys) = if isStrs ys = true then some (.bl true) else none := rfl
@[simp] theorem eqX_dic {k : List (D × D)} {ys : List D} : eqX (.dic k) (.tup ys) = if D.plains ys = true then some (.bl false) else none := rfl
def isDicD : D → Bool
  | .dic _ => true
  | _ => false
theorem ninX_of {x y : D} (h : isDicD x = false) : ninX x y = ninD x y := by cases x <;> first | rfl | cases h
theorem opX_nin (hu : X.A.units + 65 < cLine) : OpR X (compareOp .NotIn) (rD X.K CT ninX) := opr_imp (L2.OpR.or (opD_nin hu) (op_dicNin hu)) fun vx vy H Q h => by
  obtain ⟨F, as, σ, S, x, y, z, n, hx, hy, e, f⟩ := h
  unfold ninX at e
  split at e
  · split at e
    · rename_i q
      cases e
      obtain ⟨a, kvs, rfl, h1⟩ := hx.dic' n.sub
      obtain ⟨q1, q2⟩ := isStrs_py _ q
      obtain ⟨a1, a2⟩ := hy.dp n.sub (d := .tup _) (by rw [D.plain]; exact q2)
      exact .inr ⟨a, kvs, _, rfl, h1, a1, q1, f.flat n (.bl _)⟩
    · cases e
  · exact .inl ⟨F, as, σ, S, x, y, z, n, hx, hy, e, f⟩
end
end Bf
namespace PyProof.Rows
open PySem
section
variable {prog : Program} {w : World} {A : Around} {E : Value → Shared → Prop} {s : Shared}
theorem collect_tuple {l : Addr} {vs : List Value} {Q : List Value → Shared → Prop} (hl : s.heap.IsTuple l vs.toArray)
    (h : Q vs { s with heap := (s.heap.push (seqObj "list" #[] 0)).update s.heap.objs.size (Obj.mapSeq (· ++ vs.toArray)) }) (hsz : vs.length ≤ sizeLine := by size_fits) :
    wpAny (model prog w) A (collect (.ref l)) Q E s := by
  obtain ⟨o, ho, hc, n, hd⟩ := id hl
  unfold collect
  refine wpAny_bind (wpAny_runValue (codeAny_builtin entry_proto_collect' ?_))
  show wpAny _ _ (do again (.builtin "list.__iadd__" ⟨[← newList [], .ref l], []⟩)) _ _ s
  refine wpAny_bind (wpAny_newList (wpAny_pure ⟨Code.quiet_builtin _ (by decide +kernel), codeAny_builtin entry_list_iadd' ?_⟩))
  show wpAny _ _ (Builtin.List.listExtendWith (.ref s.heap.objs.size) (.ref l) (.ref s.heap.objs.size)) _ _ { s with heap := s.heap.push (seqObj "list" #[] 0) }
  unfold Builtin.List.listExtendWith
  have ho' : (s.heap.push (seqObj "list" #[] 0)).get? l = some o := Heap.get?_push_of_some _ ho
  refine wpAny_bind (wpAny_typeOf (T := "tuple") ⟨o, ho', hc⟩ ?_)
  have ht : (Value.type "tuple" == Value.type "tuple") = true := by rfl
  rw [if_pos (by rw [ht]; simp)]
  refine wpAny_bind (listItems_at ho' hd ?_)
  refine wpAny_bind (listItems_at (xs := #[]) (n := 0) (Heap.get?_push_size _ rfl) rfl ?_)
  rw [if_neg (by simp)]
  refine wpAny_bind (listUpdate_at (xs := #[]) (n := 0) (Heap.get?_push_size _ rfl) rfl ?_ (Nat.zero_le _) (by show (#[] ++ vs.toArray).size ≤ sizeLine + 1; simp only [Array.size_append, List.size_toArray, List.length_nil]; omega))
  refine wpAny_pure ?_
  show wpAny (model prog w) A (do
      let o ← load s.heap.objs.size
      match o.data with
      | .seq xs _ => pure xs.toList
      | _ => unsupported "internal:collect") Q E { s with heap := (s.heap.push (seqObj "list" #[] 0)).update s.heap.objs.size (Obj.mapSeq (· ++ vs.toArray)) }
  refine wpAny_bind (wpAny_load (get?_update_seq (Heap.get?_push_size _ rfl) _) ?_)
  show wpAny _ _ (pure ((#[] : Array Value) ++ vs.toArray).toList) Q E _
  rw [show ((#[] : Array Value) ++ vs.toArray).toList = vs by simp]
  exact wpAny_pure h
end
end PyProof.Rows
namespace Bf
open PySem PySem.Spec PyProof.Rows L2
open PySem.W (AlikeAll min_tuple_data max_tuple_data minD_ints maxD_ints)
section
variable {X : Cx} {CT : Ctx}
/-- ints, sorted -/
def insZ (a : Int) : List Int → List Int
  | [] => [a]
  | b :: r => if a ≤ b then a :: b :: r else b :: insZ a r
def sortZ : List Int → List Int
  | [] => []
  | a :: r => insZ a (sortZ r)
theorem insZ_perm (a : Int) : ∀ r, (insZ a r).Perm (a :: r)
  | [] => .refl _
  | b :: r => by
    unfold insZ
    split
    · exact .refl _
    · exact ((insZ_perm a r).cons b).trans (.swap _ _ _)
theorem sortZ_perm : ∀ r, (sortZ r).Perm r
  | [] => .refl _
  | a :: r => (insZ_perm a _).trans ((sortZ_perm r).cons a)
theorem insZ_rises (a : Int) : ∀ r : List Int, r.Pairwise (· ≤ ·) → (insZ a r).Pairwise (· ≤ ·)
  | [], _ => by simp [insZ]
  | b :: r, h => by
    unfold insZ
    obtain ⟨h1, h2⟩ := List.pairwise_cons.mp h
    split
    · rename_i q
      refine List.pairwise_cons.mpr ⟨fun c hc => ?_, h⟩
      rcases List.mem_cons.mp hc with rfl | hc
      · exact q
      · exact Int.le_trans q (h1 c hc)
    · rename_i q
      refine List.pairwise_cons.mpr ⟨fun c hc => ?_, insZ_rises a r h2⟩
      rcases List.mem_cons.mp ((insZ_perm a r).mem_iff.mp hc) with rfl | hc
      · omega
      · exact h1 c hc
theorem sortZ_rises : ∀ r, (sortZ r).Pairwise (· ≤ ·)
  | [] => .nil
  | a :: r => insZ_rises a _ (sortZ_rises r)
theorem ints_reps {K : PySem.W.Frag} {F : Hp} : ∀ ns : List Int, Reps K CT F (ns.map V.int) (ns.map D.int)
  | [] => .nil
  | n :: r => .cons (.int n) (ints_reps r)
/-! ### max, min of a tuple of ints -/
/-- as numsD, and of a tuple -/
def numsT (f : List Int → Option Int) (ds : List D) : Option D := match ds with
  | [.tup xs] => ((intsD xs).bind f).map .int
  | ds => numsD f ds
@[simp] theorem numsT_tup {f : List Int → Option Int} {xs : List D} : numsT f [.tup xs] = ((intsD xs).bind f).map .int := rfl
end
end Bf
/-! The mirror layer: instances: fields read and stored. -/
namespace Bf
open PySem PySem.Spec PyProof.Rows L2
/-! ### states with an instance's cell -/
section
variable {K : PySem.W.Frag} {CT : Ctx} {F F' : Hp} {as as' : List Addr} {H H' : Hp} {σ σ' : Sto} {s s' : PS} {v : V} {x : SV} {E : Sto → XK}
/-- an object that no data tells of -/
theorem Env.other (n : Env K CT F as H σ s) {p : Addr} (o : HO) (hp : H p = none) : Env K CT F as (upd H p o) σ s := by
  obtain ⟨fp, pa⟩ := n.free hp
  refine ⟨fun a u h => ?_, ⟨n.wk.len, n.wk.nd, n.wk.tb.other hp pa, fun a m => ?_, fun k c a h1 h2 => ?_⟩, n.gl, n.sl⟩
  · have ha : a ≠ p := fun z => by rw [z, fp] at h; cases h
    rw [upd_ne ha]
    exact n.sub a u h
  · have ha : a ≠ p := fun z => pa (z ▸ m)
    rw [upd_ne ha]
    exact n.live m
  · have ha : a ≠ p := fun z => pa (z ▸ List.mem_of_getElem? h2)
    have q := n.wk.ok k c a h1 h2
    rcases q.none with z | z
    · subst z; trivial
    · exact q.mono .refl z (upd_ne ha)
/-- a new instance at p -/
theorem Env.newI (n : Env K CT F as H σ s) {p dx : Addr} {c : Nat} (hp : H p = none) :
    Ext F as F (as ++ [p]) ∧ Env K CT F (as ++ [p]) (upd H p (.ins (CT c) dx [])) σ { s with w := s.w ++ [.ins c []] } := by
  obtain ⟨fp, pa⟩ := n.free hp
  have e : Ext F as F (as ++ [p]) := ⟨Sub.refl F, [p], rfl⟩
  refine ⟨e, ⟨fun a u h => ?_, ⟨by simp [n.wk.len], List.nodup_append.mpr ⟨n.wk.nd, by simp, fun a m b mb => ?_⟩, n.wk.tb.newC hp noTab_ins.1, fun a m => ?_, fun k d a h1 h2 => ?_⟩, n.gl, fun i x h => ?_⟩⟩
  · have ha : a ≠ p := fun z => by rw [z, fp] at h; cases h
    rw [upd_ne ha]
    exact n.sub a u h
  · rw [List.mem_singleton] at mb
    subst mb
    exact fun z => pa (z ▸ m)
  · by_cases ha : a = p
    · rw [ha, upd_same]; simp
    · rw [upd_ne ha]
      rcases List.mem_append.mp m with m | m
      · exact n.live m
      · exact absurd (List.mem_singleton.mp m) ha
  · have h1 : (s.w ++ [Cell.ins c []])[k]? = some d := h1
    by_cases hk : k < as.length
    · rw [List.getElem?_append_left hk] at h2
      rw [List.getElem?_append_left (by rw [n.wk.len]; exact hk)] at h1
      have ha : a ≠ p := fun z => pa (z ▸ List.mem_of_getElem? h2)
      have q := n.wk.ok k d a h1 h2
      rcases q.none with z | z
      · subst z; trivial
      · exact q.mono e z (upd_ne ha)
    · rw [List.getElem?_append_right (by omega)] at h2
      rw [List.getElem?_append_right (by rw [n.wk.len]; omega)] at h1
      rw [n.wk.len] at h1
      cases j : k - as.length with
      | zero =>
        rw [j] at h1 h2
        simp at h1 h2
        subst h1 h2
        exact ⟨fp, dx, [], upd_same, .nil⟩
      | succ m => rw [j] at h2; simp at h2
  · obtain ⟨v, h1, h2⟩ := n.sl i x h
    exact ⟨v, h1, h2.mono e⟩
/-- the instance of the cell k -/
theorem Env.cellI (n : Env K CT F as H σ s) {k c : Nat} {fs : List (Str × SV)} (h : s.w[k]? = some (.ins c fs)) : ∃ a dx vs, as[k]? = some a ∧ F a = none ∧ H a = some (.ins (CT c) dx vs) ∧ RepSF K CT F as vs fs := by
  have hk : k < as.length := by
    rw [← n.wk.len]
    exact (List.getElem?_eq_some_iff.mp h).1
  obtain ⟨h1, dx, vs, h2, h3⟩ := n.wk.ok k _ _ h (List.getElem?_eq_getElem hk)
  exact ⟨_, dx, vs, List.getElem?_eq_getElem hk, h1, h2, h3⟩
/-- the instance's fields are changed -/
theorem Env.setI (n : Env K CT F as H σ s) {k c : Nat} {a dx : Addr} {fs : List (Str × SV)} {ws : List (Str × V)} {ys : List (Str × SV)} (h : s.w[k]? = some (.ins c fs)) (ha : as[k]? = some a) (hf : F a = none) (r : RepSF K CT F as ws ys) :
    Env K CT F as (upd H a (.ins (CT c) dx ws)) σ { s with w := s.w.set k (.ins c ys) } := by
  obtain ⟨a', dx', vs', ha', _, hh', _⟩ := n.cellI h
  rw [ha] at ha'
  cases ha'
  refine ⟨fun b u hb => ?_, ⟨by simp [n.wk.len], n.wk.nd, n.wk.tb.set hh' noTab_ins noTab_ins.1, fun b m => ?_, fun j d b h1 h2 => ?_⟩, n.gl, n.sl⟩
  · have hab : b ≠ a := fun z => by rw [z, hf] at hb; cases hb
    rw [upd_ne hab]
    exact n.sub b u hb
  · by_cases hb : b = a
    · rw [hb, upd_same]; simp
    · rw [upd_ne hb]
      exact n.live m
  · have h1 : (s.w.set k (Cell.ins c ys))[j]? = some d := h1
    by_cases hj : j = k
    · subst hj
      rw [List.getElem?_set_self (by rw [n.wk.len]; exact (List.getElem?_eq_some_iff.mp h2).1)] at h1
      cases h1
      rw [ha] at h2
      cases h2
      exact ⟨hf, dx, ws, upd_same, r⟩
    · rw [List.getElem?_set_ne (Ne.symm hj)] at h1
      have hb : b ≠ a := fun z => hj (nodup_at n.wk.nd (z ▸ h2) ha)
      have q := n.wk.ok j d b h1 h2
      rcases q.none with z | z
      · subst z; trivial
      · exact q.mono .refl z (upd_ne hb)
/-- fields that are data -/
def datF : List (Str × SV) → Option (List (Str × D))
  | [] => some []
  | (f, .d x) :: r => (datF r).map ((f, x) :: ·)
  | (_, .cell _) :: _ => none
theorem datF_rep {vs : List (Str × V)} {fs : List (Str × SV)} (r : RepSF K CT F as vs fs) : ∀ {gs : List (Str × D)}, datF fs = some gs → RepF K CT F vs gs := by
  induction r with
  | nil =>
    intro gs e
    cases e
    exact .nil
  | cons h1 _ ih =>
    intro gs e
    rename_i f v x vs xs _
    cases x with
    | d y =>
      unfold datF at e
      cases q : datF xs with
      | none => rw [q] at e; cases e
      | some hs =>
        rw [q] at e
        cases e
        exact .cons h1 (ih q)
    | cell k => cases e
/-- the instance of the cell k is frozen -/
theorem Env.freezeI (n : Env K CT F as H σ s) {k c : Nat} {fs : List (Str × SV)} {gs : List (Str × D)} (h : s.w[k]? = some (.ins c fs)) (hg : datF fs = some gs) :
    ∃ a F', as[k]? = some a ∧ Ext F as F' as ∧ Rep K CT F' (.ref a) (.ins c gs) ∧ Env K CT F' as H σ { g := s.g.map (subG k (.ins c gs)), w := s.w.set k .gone } := by
  obtain ⟨a, dx, vs, ha, hf, hh, r⟩ := n.cellI h
  have e : Ext F as (upd F a (.ins (CT c) dx vs)) as := Ext.sub (Sub.new hf)
  have q : Rep K CT (upd F a (.ins (CT c) dx vs)) (.ref a) (.ins c gs) := .ins upd_same (RepF.mono K CT e.1 _ _ (datF_rep r hg))
  refine ⟨a, _, ha, e, q, ⟨fun b u hb => ?_, ⟨by simp [n.wk.len], n.wk.nd, n.wk.tb.frz noTab_ins.1, n.wk.live, fun j c b h1 h2 => ?_⟩, by simp [n.gl], fun i x hx => ?_⟩⟩
  · by_cases hba : b = a
    · subst hba
      rw [upd_same] at hb
      rw [hh]
      exact hb
    · rw [upd_ne hba] at hb
      exact n.sub b u hb
  · have h1 : (s.w.set k Cell.gone)[j]? = some c := h1
    by_cases hj : j = k
    · subst hj
      rw [List.getElem?_set_self (by rw [n.wk.len]; exact (List.getElem?_eq_some_iff.mp h2).1)] at h1
      cases h1
      trivial
    · rw [List.getElem?_set_ne (Ne.symm hj)] at h1
      have hb : b ≠ a := fun z => hj (nodup_at n.wk.nd (z ▸ h2) ha)
      have q := n.wk.ok j c b h1 h2
      rcases q.none with z | z
      · subst z; trivial
      · exact q.mono e (by rw [upd_ne hb]; exact z) rfl
  · rcases subG_get hx with ⟨h1, rfl⟩ | h1
    · obtain ⟨v, h2, b, h3, h4⟩ := n.sl i _ h1
      rw [ha] at h3
      cases h3
      subst h4
      exact ⟨_, h2, q⟩
    · obtain ⟨v, h2, h3⟩ := n.sl i _ h1
      exact ⟨v, h2, h3.mono e⟩
theorem RepF.look {vs : List (Str × V)} {gs : List (Str × D)} : ∀ (r : RepF K CT F vs gs) {f : Str} {d : D}, gs.lookup f = some d → ∃ v, vs.lookup f = some v ∧ Rep K CT F v d := by
  induction gs generalizing vs with
  | nil => intro r f d h; cases h
  | cons p gs ih =>
    intro r f d h
    cases r with
    | cons h1 h2 =>
      rename_i g v y ws
      rw [List.lookup_cons] at h ⊢
      cases q : f == g with
      | true =>
        rw [q] at h
        cases h
        exact ⟨_, rfl, h1⟩
      | false =>
        rw [q] at h
        exact ih h2 h
theorem RepSF.look {vs : List (Str × V)} {gs : List (Str × SV)} (r : RepSF K CT F as vs gs) : ∀ {f : Str} {d : SV}, gs.lookup f = some d → ∃ v, vs.lookup f = some v ∧ RepS K CT F as v d := by
  induction r with
  | nil => intro f d h; cases h
  | cons h1 _ ih =>
    intro f d h
    rw [List.lookup_cons] at h ⊢
    rename_i g _ _ _ _ _
    cases q : f == g with
    | true =>
      rw [q] at h
      cases h
      exact ⟨_, rfl, h1⟩
    | false =>
      rw [q] at h
      exact ih h
def putS (f : Str) (v : SV) : List (Str × SV) → List (Str × SV)
  | [] => [(f, v)]
  | (g, x) :: r => if g = f then (g, v) :: r else (g, x) :: putS f v r
theorem RepSF.put {f : Str} {v : V} {x : SV} {vs : List (Str × V)} {gs : List (Str × SV)} (r : RepSF K CT F as vs gs) (h : RepS K CT F as v x) : RepSF K CT F as (putF f v vs) (putS f x gs) := by
  induction r with
  | nil => exact .cons h .nil
  | cons h1 h2 ih =>
    unfold putF putS
    split
    · exact .cons h h2
    · exact .cons h1 ih
theorem RepSF.length {vs : List (Str × V)} {gs : List (Str × SV)} (r : RepSF K CT F as vs gs) : vs.length = gs.length := by
  induction r with
  | nil => rfl
  | cons _ _ ih => rw [List.length_cons, List.length_cons, ih]
end
/-! ### fields -/
def fldOf (cs : List Nat) (f : Str) (s : PS) (x : SV) : Option SV := match x with
  | .d (.ins c gs) => if c ∈ cs then (gs.lookup f).map .d else none
  | .cell k => match s.w[k]? with
    | some (.ins c fs) => if c ∈ cs then fs.lookup f else none
    | _ => none
  | _ => none
/-- e.f -/
def vFld (cs : List Nat) (f : Str) (a : ME) : ME := fun s => (a s).bind fun x s => R.of (fldOf cs f s x) s
/-- o.f = e -/
def sFldA (cs : List Nat) (f : Str) (o a : ME) : MS := fun s => (a s).bind fun y s => match frz s y with
  | some (d, s) => (o s).bind fun x s => match x with
    | .cell k => match s.w[k]? with
      | some (.ins c fs) => if c ∈ cs ∧ fs.length < 1000 then .ok .nx { s with w := s.w.set k (.ins c (putS f (.d d) fs)) } else .stuck
      | _ => .stuck
    | _ => .stuck
  | none => .stuck
/-- what the classes cs are -/
def ClsF (K : PySem.W.Frag) (CT : Ctx) (cs : List Nat) (f : Str) : Prop := ∀ c ∈ cs, Cls K (CT c) ∧ NoAttr K (CT c) f
section
variable {X : Cx} {CT : Ctx} {E : Sto → XK} {e o : Expr} {f : Str} {m mo : ME} {cs : List Nat} {pos pos' : Pos}
theorem me_fld (hc : ClsF X.K CT cs f) (he : PE X e (up X.K CT E m)) (hb : attributeBase e f X.env (eval e X.env) = eval e X.env := by rfl) : PE X (.Attribute e f pos) (up X.K CT E (vFld cs f m)) :=
  PE.imp (pe_fld he hb) fun σ H Q ⟨F, as, s, n, h⟩ => up_seq n h rfl fun v x s1 F1 as1 H1 e1 n1 r1 h1 => by
    unfold fldOf at h1
    split at h1
    · rename_i c gs
      split at h1
      · rename_i hm
        obtain ⟨hC, hN⟩ := hc c hm
        cases q : gs.lookup f with
        | none => rw [q] at h1; exact h1.elim
        | some d =>
          rw [q] at h1
          cases r1 with
          | ins g1 g2 =>
            obtain ⟨u, l, ru⟩ := g2.look q
            exact ⟨_, _, _, _, u, rfl, n1.sub _ _ g1, hC, hN, l, h1.here (σ := σ) rfl n1 _ ru⟩
      · exact h1.elim
    · rename_i k
      cases q : s1.w[k]? with
      | none => simp only [q] at h1; exact h1.elim
      | some cl =>
        cases cl with
        | ins c fs =>
          simp only [q] at h1
          split at h1
          · rename_i hm
            obtain ⟨hC, hN⟩ := hc c hm
            obtain ⟨a, dx, vs, ha, hf, hh, rr⟩ := n1.cellI q
            obtain ⟨b, hb, rfl⟩ := r1
            rw [ha] at hb
            cases hb
            cases q2 : fs.lookup f with
            | none => rw [q2] at h1; exact h1.elim
            | some y =>
              rw [q2] at h1
              obtain ⟨u, l, ru⟩ := rr.look q2
              exact ⟨_, _, _, _, u, rfl, hh, hC, hN, l, h1.here (σ := σ) rfl n1 _ ru⟩
          · exact h1.elim
        | _ => simp only [q] at h1; exact h1.elim
    · exact h1.elim
theorem ms_fld (hc : ClsF X.K CT cs f) (ho : PE X o (up X.K CT E mo)) (he : PE X e (up X.K CT E m)) (hs : swapsWith e (some (.Attribute o f pos')) pos.line X.env = pure false := by rfl) : L2.PS X (.Assign [.Attribute o f pos'] e pos) (upS X.K CT E (sFldA cs f mo m)) :=
  ps_imp (L2.ps_fld ho he hs) fun D σ H ⟨F, as, s, n, h⟩ => up_seq n h trivial fun v y s1 F1 as1 H1 e1 n1 r1 h1 => by
    cases q : frz s1 y with
    | none => simp only [q] at h1; exact h1.elim
    | some p =>
      obtain ⟨d, s2⟩ := p
      simp only [q] at h1
      obtain ⟨F2, e2, q2, n2⟩ := n1.frz r1 q
      refine up_seq n2 (h1.ext e2) trivial fun ov x s3 F3 as3 H3 e3 n3 r3 h3 => ?_
      cases x with
      | d z => exact h3.elim
      | cell k =>
        cases q5 : s3.w[k]? with
        | none => simp only [q5] at h3; exact h3.elim
        | some cl =>
          cases cl with
          | ins c fs =>
            simp only [q5] at h3
            split at h3
            · rename_i hm
              obtain ⟨hC, hN⟩ := hc c hm.1
              obtain ⟨a, dx, vs, ha, hf, hh, rr⟩ := n3.cellI q5
              obtain ⟨b, hb, rfl⟩ := r3
              rw [ha] at hb
              cases hb
              have q2' : RepS X.K CT F3 as3 v (.d d) := RepS.mono e3 (show RepS X.K CT F2 as1 v (.d d) from q2)
              exact ⟨a, _, dx, vs, rfl, hh, hC, hN, by rw [rr.length]; exact hm.2, h3.here trivial (n3.setI q5 ha hf (rr.put q2'))⟩
            · exact h3.elim
          | _ => simp only [q5] at h3; exact h3.elim
end
end Bf
/-! The mirror layer: instances made, star arguments, classmethods. -/
namespace Bf
open PySem PySem.Spec PyProof.Rows L2
section
variable {P : Program} {w : World} {K : PySem.W.Frag} {mg : Str → Option Value} {base : Heap} {CT : Ctx} {k : Nat} {fa : Addr} {fd : FuncData} {x qual : Str} {st : Stmt} {N ps : List Str} {mb : MS}
/-- a body's mirror, as the runs of defs ask it -/
theorem body_q {fa' : Addr} (S : FnScope N ps (defScope st)) (hN : ps.length ≤ N.length)
    (cdv : Value) (A : Around) (outer : List PySem.Env) (s : Shared) (H : Hp) (vs : List V) (Q : VK) (E : XK)
    (hbody : Room k (cxOf (L2.CX P w) P w K mg base N qual (defScope st) fa cdv A outer s H E).A → Cq (cxOf (L2.CX P w) P w K mg base N qual (defScope st) fa cdv A outer s H E) (fun _ => E) →
      PSs (cxOf (L2.CX P w) P w K mg base N qual (defScope st) fa cdv A outer s H E) (defBody st) (upS K CT (fun _ => E) mb))
    (hr : Room k (cxOf (L2.CX P w) P w K mg base N qual (defScope st) fa cdv A outer s H E).A) (h : spF K CT ps.length (fnM N.length mb) vs H Q E) :
    ∃ t, PSs (cxOf (L2.CX P w) P w K mg base N qual (defScope st) fa cdv A outer s H E) (defBody st) t ∧ t { nx := fun _ H' => Q .non H', rt := Q } (L2.start N vs) H := by
  obtain ⟨hl, F, as, ws, xs, sub, wk, r, h⟩ := h
  let X := cxOf (L2.CX P w) P w K mg base N qual (defScope st) fa cdv A outer s H E
  have hcq : Cq X (fun _ => E) := ⟨rfl, passes_of rfl, fun σ => passAt (W := fun c d _ H => E c d H) (takes_of rfl rfl rfl rfl) σ, S.nd, takes_of rfl rfl rfl rfl⟩
  refine ⟨_, hbody hr hcq, ?_⟩
  have hlx : vs.length = xs.length := r.length
  have env : Env K CT F as H (L2.start N vs) { g := xs.map some ++ List.replicate (N.length - xs.length) none, w := ws } := by
    refine ⟨sub, wk, ?_, fun i y hy => ?_⟩
    · unfold L2.start
      simp only [List.length_append, List.length_map, List.length_replicate]
      omega
    · have hy : (xs.map some ++ List.replicate (N.length - xs.length) none)[i]? = some (some y) := hy
      by_cases hi : i < xs.length
      · rw [List.getElem?_append_left (by simpa using hi), List.getElem?_map] at hy
        cases q : xs[i]? with
        | none => rw [q] at hy; cases hy
        | some z =>
          rw [q] at hy
          cases hy
          obtain ⟨v, h1, h2⟩ := r.get q
          refine ⟨v, ?_, h2⟩
          unfold L2.start
          rw [List.getElem?_append_left (by simp; omega), List.getElem?_map, h1]
          rfl
      · rw [List.getElem?_append_right (by simpa using hi), List.getElem?_replicate] at hy
        split at hy <;> cases hy
  refine ⟨F, as, _, env, ?_⟩
  have hw : ws.length = as.length := wk.len
  -- the wanted ends, from the mirror's outcome
  have fin : ∀ {y z : SV} {s1 : PS} {w1 : List Cell} {F' : Hp} {as' : List Addr} {H' : Hp} {σ' : Sto} {v : V}, Env K CT F' as' H' σ' s1 → Ext F as F' as' → RepS K CT F' as' v y → retW ws.length y s1.w = some (z, w1) →
      ∃ as2, Ext F as F' as2 ∧ Wk K CT F' as2 H' w1 ∧ RepS K CT F' as2 v z := fun {y z s1 w1 F' as' H' σ' v} n e rv q => by
    have hle : ws.length ≤ s1.w.length := by
      rw [n.wk.len, hw]
      obtain ⟨_, t, rfl⟩ := e
      simp
    obtain ⟨as2, h1, h2, h3, h4⟩ := retW_take n.wk rv q hle
    rw [hw] at h1 h2
    exact ⟨as2, ext_of_take e rfl h1 h2, h3, h4⟩
  unfold fnM at h
  cases q : mb { g := xs.map some ++ List.replicate (N.length - xs.length) none, w := ws } with
  | stuck => rw [q] at h; exact h.elim
  | err e s1 =>
    rw [q] at h
    intro c dx F' as' σ' H' _ ex n rx
    cases q2 : retW ws.length (.d .non) s1.w with
    | none => simp only [q2] at h; try exact h.elim
    | some pp =>
      obtain ⟨z, w1⟩ := pp
      simp only [q2] at h
      obtain ⟨as2, e2, wk2, _⟩ := fin (y := .d .non) (v := .non) n ex Rep.non q2
      exact h c dx F' as2 H' e2 n.sub wk2 rx
  | ok fl s1 =>
    rw [q] at h
    intro F' as' σ' H' _ ex n
    cases fl with
    | nx =>
      cases q2 : retW ws.length (.d .non) s1.w with
      | none => simp only [q2] at h; try exact h.elim
      | some pp =>
        obtain ⟨z, w1⟩ := pp
        simp only [q2] at h
        obtain ⟨as2, e2, wk2, r2⟩ := fin (y := .d .non) (v := .non) n ex Rep.non q2
        exact h .non F' as2 H' e2 n.sub wk2 r2
    | rt y =>
      intro v rv
      cases q2 : retW ws.length y s1.w with
      | none => simp only [q2] at h; try exact h.elim
      | some pp =>
        obtain ⟨z, w1⟩ := pp
        simp only [q2] at h
        obtain ⟨as2, e2, wk2, r2⟩ := fin n ex rv q2
        exact h v F' as2 H' e2 n.sub wk2 r2
    | bk => exact h.elim
    | ct => exact h.elim
/-! ### promises of any number of arguments -/
def spV (K : PySem.W.Frag) (CT : Ctx) (f : Fn) : Sp := fun vs H Q E => ∃ F as w xs, Sub F H ∧ Wk K CT F as H w ∧ RepSs K CT F as vs xs ∧ match f xs w with
  | .ok x w' => ∀ v F' as' H', Ext F as F' as' → Sub F' H' → Wk K CT F' as' H' w' → RepS K CT F' as' v x → Q v H'
  | .err e w' => ∀ c dx F' as' H', Ext F as F' as' → Sub F' H' → Wk K CT F' as' H' w' → ExcOk K CT F' H' e c dx → E c dx H'
  | .stuck => False
abbrev Fv (P : Program) (w : World) (K : PySem.W.Frag) (mg : Str → Option Value) (base : Heap) (CT : Ctx) (k : Nat) (fa : Addr) (f : Fn) : Prop := FnR P w K mg base (L2.CX P w) k fa (spV K CT f)
def lenF (n : Nat) (f : Fn) : Fn := fun xs w => if xs.length = n then f xs w else .stuck
theorem fv_of {f : Fn} (Fk : Fq P w K mg base CT k fa fd ps f) (hb : Binds K fd ps []) : Fv P w K mg base CT k fa (lenF ps.length f) :=
  (FnOk.raw Fk hb .nil).imp fun vs H Q E ⟨F, as, w, xs, sub, wk, r, h⟩ => by
    rw [List.append_nil]
    unfold lenF at h
    by_cases hl : xs.length = ps.length
    · rw [if_pos hl] at h
      exact ⟨r.length.trans hl, F, as, w, xs, sub, wk, r, h⟩
    · rw [if_neg hl] at h
      exact h.elim
def datS : List SV → Option (List D)
  | [] => some []
  | .d x :: r => match datS r with
    | some ds => some (x :: ds)
    | none => none
  | .cell _ :: _ => none
/-- what is left over is a tuple -/
def starF (n : Nat) (f : Fn) : Fn := fun xs w => if n ≤ xs.length then match datS (xs.drop n) with
    | some ds => if ds.length ≤ sizeLine then f (xs.take n ++ [.d (.tup ds)]) w else .stuck
    | none => .stuck
  else .stuck
theorem datS_rep {F : Hp} {as : List Addr} {vs : List V} {xs : List SV} (r : RepSs K CT F as vs xs) : ∀ {ds : List D}, datS xs = some ds → Reps K CT F vs ds := by
  induction r with
  | nil =>
    intro ds e
    cases e
    exact .nil
  | cons h1 _ ih =>
    intro ds e
    rename_i v x vs xs _
    cases x with
    | d y =>
      unfold datS at e
      cases q : datS xs with
      | none => rw [q] at e; cases e
      | some hs =>
        rw [q] at e
        cases e
        exact .cons h1 (ih q)
    | cell k => cases e
theorem RepSs.split {F : Hp} {as : List Addr} {vs : List V} {xs : List SV} (r : RepSs K CT F as vs xs) (n : Nat) : RepSs K CT F as (vs.take n) (xs.take n) ∧ RepSs K CT F as (vs.drop n) (xs.drop n) := by
  induction r generalizing n with
  | nil => simp only [List.take_nil, List.drop_nil]; exact ⟨.nil, .nil⟩
  | cons h1 h2 ih =>
    cases n with
    | zero => exact ⟨.nil, .cons h1 h2⟩
    | succ n =>
      obtain ⟨a, b⟩ := ih n
      exact ⟨.cons h1 a, b⟩
theorem RepSs.app {F : Hp} {as : List Addr} {vs us : List V} {xs ys : List SV} (r : RepSs K CT F as vs xs) (r2 : RepSs K CT F as us ys) : RepSs K CT F as (vs ++ us) (xs ++ ys) := by
  induction r with
  | nil => exact r2
  | cons h1 _ ih => exact .cons h1 ih
theorem Wk.new {F H : Hp} {as : List Addr} {ws : List Cell} (sub : Sub F H) (wk : Wk K CT F as H ws) {p : Addr} (o : HO) (hp : H p = none) (no : ∀ ps, o ≠ .tbl ps := by intro _ z; cases z) : Ext F as (upd F p o) as ∧ Sub (upd F p o) (upd H p o) ∧ Wk K CT (upd F p o) as (upd H p o) ws := by
  have n : Env K CT F as H [] { g := [], w := ws } := ⟨sub, wk, rfl, fun i x h => by simp at h⟩
  obtain ⟨e, n2⟩ := n.new o hp no
  exact ⟨e, n2.sub, n2.wk⟩
/-- def f(a, .., *v) -/
theorem fv_star {pv : Str} (Fn' : Fun K x qual st fa fd) (S : FnScope N (ps ++ [pv]) (defScope st)) (hN : (ps ++ [pv]).length ≤ N.length)
    (hb : ∀ us rest : List Value, us.length = ps.length → bindArgs fd ⟨us ++ rest, []⟩ = (newTuple rest >>= fun t => pure (ps.zip us ++ [(pv, t)])))
    (hbody : ∀ (cdv : Value) (A : Around) (outer : List PySem.Env) (s : Shared) (H : Hp) (E : XK), Room k (cxOf (L2.CX P w) P w K mg base N qual (defScope st) fa cdv A outer s H E).A → Cq (cxOf (L2.CX P w) P w K mg base N qual (defScope st) fa cdv A outer s H E) (fun _ => E) →
      PSs (cxOf (L2.CX P w) P w K mg base N qual (defScope st) fa cdv A outer s H E) (defBody st) (upS K CT (fun _ => E) mb)) :
    Fv P w K mg base CT (k + 1) fa (starF ps.length (fnM N.length mb)) := by
  obtain ⟨oc, od, kV, doc, pm, an, cdv, ct, osl, rfl, lk, hcd⟩ := Fn'.ex
  refine (StX.fn_star (sp := spF K CT (ps ++ [pv]).length (fnM N.length mb)) lk hcd S StX.cxUp hb (fun A outer s H vs Q E hr h => body_q (fa' := fa) S hN cdv A outer s H vs Q E (hbody cdv A outer s H E) hr h)).imp fun vs H Q E ⟨F, as, ws, xs, sub, wk, r, h⟩ => ?_
  unfold starF at h
  by_cases hl : ps.length ≤ xs.length
  · rw [if_pos hl] at h
    cases q : datS (xs.drop ps.length) with
    | none => simp only [q] at h
    | some ds =>
      simp only [q] at h
      by_cases hz : ds.length ≤ sizeLine
      · rw [if_pos hz] at h
        obtain ⟨r1, r2⟩ := r.split ps.length
        have rd := datS_rep r2 q
        refine ⟨vs.take ps.length, vs.drop ps.length, (List.take_append_drop _ _).symm, ?_, by rw [rd.length]; exact hz, fun p hp => ?_⟩
        · rw [List.length_take, r.length]; omega
        · obtain ⟨e, sub2, wk2⟩ := wk.new sub (.tup (vs.drop ps.length)) hp
          refine ⟨?_, upd F p (.tup (vs.drop ps.length)), as, ws, _, sub2, wk2, (r1.mono e).app (.cons (show RepS K CT _ as (.ref p) (.d (.tup ds)) from .tup upd_same (Reps.mono K CT e.1 _ _ rd)) .nil), ?_⟩
          · rw [List.length_append, List.length_append, List.length_take, r.length]
            have : min ps.length xs.length = ps.length := by omega
            rw [this]
            rfl
          · cases q2 : fnM N.length mb (xs.take ps.length ++ [.d (.tup ds)]) ws with
            | ok y w' => rw [q2] at h; exact fun v F' as' H' ex => h v F' as' H' (e.trans ex)
            | err y w' => rw [q2] at h; exact fun c dx F' as' H' ex => h c dx F' as' H' (e.trans ex)
            | stuck => rw [q2] at h; exact h
      · rw [if_neg hz] at h
        exact h.elim
  · rw [if_neg hl] at h
    exact h.elim
end
section
variable {X : Cx} {CT : Ctx} {E : Sto → XK}
/-- a call's outcome from a promise -/
def runF (f : Fn) (xs : List SV) (s : PS) : R SV := match f xs s.w with
  | .ok x w => .ok x { s with w := w }
  | .err e w => .err e { s with w := w }
  | .stuck => .stuck
theorem spV_of {f : Fn} {F H : Hp} {as : List Addr} {σ : Sto} {s : PS} {vs : List V} {xs : List SV} {Q : VK} (n : Env X.K CT F as H σ s) (r : RepSs X.K CT F as vs xs)
    (h : Out X.K CT (fun σ' => σ' = σ) E F as (runF f xs s) fun x _ F' as' _ H' => ∀ v, RepS X.K CT F' as' v x → Q v H') : spV X.K CT f vs H Q (E σ) := by
  refine ⟨F, as, s.w, xs, n.sub, n.wk, r, ?_⟩
  have env : ∀ {w : List Cell} {F' : Hp} {as' : List Addr} {H' : Hp}, Ext F as F' as' → Sub F' H' → Wk X.K CT F' as' H' w → Env X.K CT F' as' H' σ { s with w := w } := fun ex sb wk => ⟨sb, wk, n.gl, fun i x hx => by
    obtain ⟨v, h1, h2⟩ := n.sl i x hx
    exact ⟨v, h1, h2.mono ex⟩⟩
  unfold runF at h
  cases q : f xs s.w with
  | ok x w =>
    simp only [q] at h
    exact fun v F' as' H' ex sb wk r => h.there (σ := σ) rfl ex (env ex sb wk) v r
  | err e w =>
    simp only [q] at h
    exact fun c dx F' as' H' ex sb wk r => h c dx F' as' σ H' rfl ex (env ex sb wk) r
  | stuck =>
    simp only [q] at h
    exact h.elim
end
end Bf
/-! The mirror layer: calls of classes and of classmethods, star arguments. -/
namespace Bf
open PySem PySem.Spec PyProof.Rows L2
section
variable {X : Cx} {CT : Ctx} {E : Sto → XK} {e : Expr} {es : List Expr} {m : ME} {mr : MA} {p pos : Pos}
/-- *a, .. -/
def aStar (a : ME) (r : MA) : MA := fun s => (a s).bind fun x s => match rd s x with
  | some (.tup ds) => (r s).bind fun ys s => .ok (ds.map .d ++ ys) s
  | some (.lst ds) => (r s).bind fun ys s => .ok (ds.map .d ++ ys) s
  | _ => .stuck
theorem reps_data {K : PySem.W.Frag} {F : Hp} {as : List Addr} : ∀ {ds : List D} {vs : List V}, Reps K CT F vs ds → RepSs K CT F as vs (ds.map .d)
  | [], _, r => by cases r; exact .nil
  | d :: ds, _, r => by
    cases r with
    | cons h1 h2 => exact .cons h1 (reps_data h2)
theorem ma_star (he : PE X e (up X.K CT E m)) (hr : PA X es (upA X.K CT E mr)) (hs : starEach (.Starred e p :: es) X.env = (true, eval e X.env) :: starEach es X.env := by rfl) : PA X (.Starred e p :: es) (upA X.K CT E (aStar m mr)) :=
  ⟨fun pos pins s σ H Q I ⟨F, as, st, n, h⟩ => (StX.pa_star he hr hs).run pos pins s σ H Q I (up_seq n h rfl fun v x s1 F1 as1 H1 e1 n1 r1 h1 => by
    have go : ∀ {ds : List D} {vs : List V}, Reps X.K CT F1 vs ds → Out X.K CT (fun σ' => σ' = σ) E F1 as1 ((mr s1).bind fun ys s => R.ok (ds.map .d ++ ys) s) (fun xs _ F' as' _ H' => ∀ vs, RepSs X.K CT F' as' vs xs → Q vs H') →
        upA X.K CT E mr σ H1 fun ys H2 => Q (vs ++ ys) H2 := fun {ds vs} r o =>
      ⟨F1, as1, s1, n1, (o.bind (ok := fun σ' => σ' = σ) fun _ z => z).imp (fun _ z => z) fun ys s2 F2 as2 σ2 H2 _ o2 e2 n2 q us ru => q.here (σ := σ2) (by exact o2) n2 _ ((RepSs.mono e2 (reps_data (as := as1) r)).app ru)⟩
    cases q : rd s1 x with
    | none => simp only [q] at h1; exact h1.elim
    | some d =>
      have rr := n1.rd r1 q
      cases d with
      | tup ds =>
        simp only [q] at h1
        obtain ⟨a, ws, rfl, h2, h3⟩ := rr.tup' n1.sub
        exact ⟨a, ws, rfl, .inl h2, go h3 h1⟩
      | lst ds =>
        simp only [q] at h1
        obtain ⟨a, ws, rfl, h2, h3⟩ := rr.lst' n1.sub
        exact ⟨a, ws, rfl, .inr (SqL.of h2), go h3 h1⟩
      | _ => simp only [q] at h1; exact h1.elim)⟩
end
/-! ### instances made -/
def frzI (c k : Nat) (s : PS) : R SV := match s.w[k]? with
  | some (.ins c' fs) => if c' = c then match datF fs with
      | some gs => .ok (.d (.ins c gs)) { g := s.g.map (subG k (.ins c gs)), w := s.w.set k .gone }
      | none => .stuck
    else .stuck
  | _ => .stuck
def vMk (c : Nat) (f : Fn) (callee : ME) (args : MA) : ME := fun s => (callee s).bind fun x s => match x with
  | .d (.cls c') => if c' = c then (args s).bind fun xs s => (runF f (.cell s.w.length :: xs) { s with w := s.w ++ [.ins c []] }).bind fun y s' => match y with
      | .d .non => frzI c s.w.length s'
      | _ => .stuck
    else .stuck
  | _ => .stuck
/-- C.m(..), a classmethod -/
def vCM (c : Nat) (f : Fn) (callee : ME) (args : MA) : ME := fun s => (callee s).bind fun x s => match x with
  | .d (.cls c') => if c' = c then (args s).bind fun xs s => runF f (.d (.cls c) :: xs) s else .stuck
  | _ => .stuck
def tMkE (C : Addr) (sp : Sp) (E0 : XK) (te : TE) (t : TA) : TE := fun σ H Q => te σ H fun v H1 => v = .ref C ∧ t σ H1 fun vs H2 => ∀ x dx, H2 x = none → H2 dx = none → dx ≠ x →
  sp (.ref x :: vs) (upd (upd H2 dx (.own x)) x (.ins C dx [])) (fun v H3 => v = .non ∧ Q (.ref x) H3) E0
section
variable {X : Cx} {CT : Ctx} {E0 : XK} {e o : Expr} {es : List Expr} {mc : ME} {mr : MA} {p pos apos : Pos} {k c : Nat} {fI : Addr} {f : Fn} {x : Str} {CX : CXT} {C : Addr} {sp : Sp} {te : TE} {t : TA}
theorem pe_mkE (M : Mk X.K C fI) (F : FnR X.prog X.w X.K X.mg X.base CX k fI sp) (hr : Room (k + 1) X.A) (hx : Passes CX X E0) (hn : PE X (.Name x p) te) (ha : PA X (e :: es) t)
    (he : starEach (e :: es) X.env = (false, eval e X.env) :: starEach es X.env := by rfl) (hpl : (backTo pos (starEach es X.env)).any (·.1) = false := by rfl) : PE X (.Call (.Name x p) (e :: es) [] pos) (tMkE C sp E0 te t) := by
  refine ⟨fun pins s σ H Q I h => ?_⟩
  refine wpAny_Call_Name_kw (thn (hn.run pins s σ H _ I h) fun u s1 ⟨v, H1, I1, r1, ev, q1⟩ => ?_)
  subst ev
  obtain rfl : u = Value.ref C := r1
  refine PySem.W.callWith_K (h₀ := X.base) I.ok.mod.kin M.kp (thn (ha.run pos pins s1 σ _ _ I1 q1) fun us s2 ⟨vs, H2, I2, r, q⟩ => ⟨I2.kIn, ?_⟩) he hpl
  exact StX.run_makeR M F hr hx I2 r q
theorem pe_mkS (M : Mk X.K C fI) (F : FnR X.prog X.w X.K X.mg X.base CX k fI sp) (hr : Room (k + 1) X.A) (hx : Passes CX X E0) (hn : PE X (.Name x p) te) (ha : PA X (e :: es) t)
    (he : starEach (e :: es) X.env = (false, eval e X.env) :: starEach es X.env := by rfl) (hst : (backTo pos (starEach es X.env)).any (·.1) = true := by rfl) : PE X (.Call (.Name x p) (e :: es) [] pos) (tMkE C sp E0 te t) := by
  refine ⟨fun pins s σ H Q I h => ?_⟩
  refine wpAny_Call_Name_kw (thn (hn.run pins s σ H _ I h) fun u s1 ⟨v, H1, I1, r1, ev, q1⟩ => ?_)
  subst ev
  obtain rfl : u = Value.ref C := r1
  refine PySem.W.callWith_S2 (h₀ := X.base) I.ok.mod.kin M.kp (thn (ha.run pos pins s1 σ _ _ I1 q1) fun us s2 ⟨vs, H2, I2, r, q⟩ => ⟨I2.kIn, ?_⟩) he hst
  exact StX.run_makeR M F hr hx I2 r q
theorem mk_read {σ : Sto} {H : Hp} {Q : VK} (h : up X.K CT (fun _ => E0) (vMk c f mc mr) σ H Q) : tMkE (CT c) (spV X.K CT f) E0 (up X.K CT (fun _ => E0) mc) (upA X.K CT (fun _ => E0) mr) σ H Q := by
  obtain ⟨F, as, s, n, h⟩ := h
  refine up_seq n h rfl fun v y s1 F1 as1 H1 e1 n1 r1 h1 => ?_
  cases y with
  | cell j => exact h1.elim
  | d z =>
    cases z with
    | cls c' =>
      dsimp only at h1
      by_cases hc : c' = c
      · rw [if_pos hc] at h1
        subst hc
        cases r1
        refine ⟨rfl, F1, as1, s1, n1, (h1.bind (ok := fun σ' => σ' = σ) fun _ z => z).imp (fun _ z => z) fun xs s2 F2 as2 σ2 H2 _ o2 e2 n2 h2 vs r2 => ?_⟩
        subst o2
        intro a dx ha hdx hne
        have n3 := n2.other (.own a) hdx
        obtain ⟨e4, n4⟩ := n3.newI (p := a) (dx := dx) (c := c') (by rw [upd_ne (Ne.symm hne)]; exact ha)
        have hl : as2.length = s2.w.length := n2.wk.len.symm
        have ra : RepS X.K CT F2 (as2 ++ [a]) (.ref a) (.cell s2.w.length) := ⟨a, by rw [← hl]; simp, rfl⟩
        refine spV_of (E := fun _ => E0) n4 (.cons ra (r2.mono e4)) ?_
        refine ((Out.ext e4 h2).bind (ok := fun σ' => σ' = σ2) fun _ z => z).imp (fun _ z => z) fun y s5 F5 as5 σ5 H5 _ o5 e5 n5 h5 v rv => ?_
        subst o5
        cases y with
        | cell j => exact h5.elim
        | d z =>
          cases z with
          | non =>
            cases rv
            refine ⟨rfl, ?_⟩
            unfold frzI at h5
            cases q : s5.w[s2.w.length]? with
            | none => simp only [q] at h5; exact h5.elim
            | some cl =>
              cases cl with
              | ins c2 fs =>
                simp only [q] at h5
                by_cases hc2 : c2 = c'
                · rw [if_pos hc2] at h5
                  subst hc2
                  cases q2 : datF fs with
                  | none => simp only [q2] at h5; exact h5.elim
                  | some gs =>
                    simp only [q2] at h5
                    obtain ⟨b, F6, hb, e6, r6, n6⟩ := n5.freezeI q q2
                    have hb2 : as5[s2.w.length]? = some a := e5.at (by rw [← hl]; simp)
                    rw [hb2] at hb
                    cases hb
                    exact h5.there (σ := σ5) rfl e6 n6 _ r6
                · rw [if_neg hc2] at h5
                  exact h5.elim
              | _ => simp only [q] at h5; exact h5.elim
          | _ => exact h5.elim
      · rw [if_neg hc] at h1
        exact h1.elim
    | _ => exact h1.elim
theorem Cq.all (hx : Cq X (fun _ => E0)) : Passes (L2.CX X.prog X.w) X E0 := fun pins σ H s e s' I c => hx.pass σ pins H s e s' I c
/-- C(a, ..) -/
theorem me_mk (hx : Cq X (fun _ => E0)) (M : Mk X.K (CT c) fI) (F : Fv X.prog X.w X.K X.mg X.base CT k fI f) (hr : Room (k + 1) X.A) (hn : PE X (.Name x p) (up X.K CT (fun _ => E0) mc)) (ha : PA X (e :: es) (upA X.K CT (fun _ => E0) mr))
    (he : starEach (e :: es) X.env = (false, eval e X.env) :: starEach es X.env := by rfl) (hpl : (backTo pos (starEach es X.env)).any (·.1) = false := by rfl) : PE X (.Call (.Name x p) (e :: es) [] pos) (up X.K CT (fun _ => E0) (vMk c f mc mr)) :=
  PE.imp (pe_mkE (E0 := E0) M F hr hx.all hn ha he hpl) fun _ _ _ h => mk_read h
/-- C(a, *b) -/
theorem me_mkS (hx : Cq X (fun _ => E0)) (M : Mk X.K (CT c) fI) (F : Fv X.prog X.w X.K X.mg X.base CT k fI f) (hr : Room (k + 1) X.A) (hn : PE X (.Name x p) (up X.K CT (fun _ => E0) mc)) (ha : PA X (e :: es) (upA X.K CT (fun _ => E0) mr))
    (he : starEach (e :: es) X.env = (false, eval e X.env) :: starEach es X.env := by rfl) (hst : (backTo pos (starEach es X.env)).any (·.1) = true := by rfl) : PE X (.Call (.Name x p) (e :: es) [] pos) (up X.K CT (fun _ => E0) (vMk c f mc mr)) :=
  PE.imp (pe_mkS (E0 := E0) M F hr hx.all hn ha he hst) fun _ _ _ h => mk_read h
/-- C.m(a, ..) -/
theorem me_cm {m : Str} {pl : Sem Bool} {mcv : Value} {pr g : Addr} (hx : Cq X (fun _ => E0)) (ho : PE X o (up X.K CT (fun _ => E0) mc)) (r : ClX.CRead X.K (CT c) mcv) (cm : ClX.CMet X.K (CT c) mcv m pr g) (F : Fv X.prog X.w X.K X.mg X.base CT k g f) (hr : Room k X.A) (ha : PA X (e :: es) (upA X.K CT (fun _ => E0) mr))
    (hst : starEach (e :: es) X.env = (false, eval e X.env) :: starEach es X.env := by rfl) (hpl : (backTo pos (starEach es X.env)).any (·.1) = false := by rfl)
    (ht : eval (.Call (.Attribute o m apos) (e :: es) [] pos) X.env = (do
      let ov ← eval o X.env
      standAt apos.atName
      let (f, first) ← holding [ov] (getMethod ov m pl)
      callWith pos f first (backTo pos (starEach (e :: es) X.env)) (backToKw pos (keywordEach [] X.env))) := by rfl) : PE X (.Call (.Attribute o m apos) (e :: es) [] pos) (up X.K CT (fun _ => E0) (vCM c f mc mr)) :=
  PE.imp (ClX.pe_cmeth (E := E0) (pl := pl) ho r cm F hr hx.all ha hst hpl ht) fun σ H Q ⟨F, as, s, n, h⟩ => up_seq n h rfl fun v y s1 F1 as1 H1 e1 n1 r1 h1 => by
    cases y with
    | cell j => exact h1.elim
    | d z =>
      cases z with
      | cls c' =>
        dsimp only at h1
        by_cases hc : c' = c
        · rw [if_pos hc] at h1
          subst hc
          cases r1
          refine ⟨rfl, F1, as1, s1, n1, (h1.bind (ok := fun σ' => σ' = σ) fun _ z => z).imp (fun _ z => z) fun xs s2 F2 as2 σ2 H2 _ o2 e2 n2 h2 vs r2 => ?_⟩
          subst o2
          exact spV_of (E := fun _ => E0) n2 (.cons (show RepS X.K CT F2 as2 (.ref (CT c')) (.d (.cls c')) from .cls c') r2) h2
        · rw [if_neg hc] at h1
          exact h1.elim
      | _ => exact h1.elim
/-- the name of an own class -/
theorem me_cls (hm : X.mg x = some (.ref (CT c))) (hg : Gl X x := by rfl) (hd : (x == ("__debug__" : Str)) = false := by decide) : PE X (.Name x p) (up X.K CT (fun _ => E0) (vC (.cls c))) :=
  me_glob (v := .ref (CT c)) hm rfl (fun F => .cls c) hg hd
end
end Bf
/-! The mirror layer: sorted of alike data, of lists and tuples. -/
namespace PyProof.Rows
open PySem PySem.W PySem.Calls
section
variable {prog : Program} {w : World} {A : Around} {E : Value → Shared → Prop} {s : Shared} {κ : KeyKind}
theorem sorted_of_sortT {l : Addr} {vs : List Value} {Q : Value → Shared → Prop} (hl : s.heap.IsTuple l vs.toArray) (hL : vs.length ≤ sizeLine)
    (body : ∀ E' : Value → Shared → Prop, wpAny (model prog w) A.in1.in1 (Builtin.«list.sort» ⟨[.ref (s.heap.objs.size + 1)], []⟩) (fun f s' => f = .done (.ret .none) ∧ Q (.ref (s.heap.objs.size + 1)) s') E' { s with heap := copyHeap s.heap vs }) :
    wpAny (model prog w) A (call (.builtin "sorted") [.ref l] []) Q E s := by
  refine call_function_entry_kw kind_sorted plain_sorted entry_sorted (args_sorted1 _) ?_
  unfold Builtin.«sorted»
  refine wpAny_bind (m := checkCount "sorted" 1 1 _) (wpAny_pure ?_)
  refine wpAny_bind (collect_tuple hl ?_ hL)
  refine wpAny_bind (wpAny_newList ?_ hL)
  have hsz : ((s.heap.push (seqObj "list" #[] 0)).update s.heap.objs.size (Obj.mapSeq (· ++ vs.toArray))).objs.size = s.heap.objs.size + 1 := by
    rw [Heap.size_update, size_push']
  show wpAny _ _ _ _ _ { s with heap := copyHeap s.heap vs }
  rw [hsz]
  refine wpAny_bind (wpAny_holding (wpAny_call_entry_kw slot_list_sort ⟨_, copyHeap_at s.heap vs, rfl⟩ entry_list_sort ?body (args_list_sort _)))
  case body =>
    show wpAny (model prog w) A.in1.in1 (Builtin.«list.sort» ⟨[.ref (s.heap.objs.size + 1)], []⟩) _ _ _
    refine wpAny_mono (body _) (fun f s' hf => ?_) fun _ _ e => e
    obtain ⟨rfl, hq⟩ := hf
    exact ⟨_, rfl, wpAny_pure ⟨_, rfl, hq⟩⟩
theorem sorted_dataT {l : Addr} {β : Type} {vs : List Value} {bs : List β} {enc : β → PyData} {R : Value → β → Prop} {Q : Value → Shared → Prop} (hl : s.heap.IsTuple l vs.toArray) (e : EachIs R vs bs) (er : EachIs (fun v b => ∃ as, Reads s.heap v (enc b) as) vs bs) (hal : AllAlike (bs.map enc)) (hk : Sortable (bs.map enc)) (hL : bs.length ≤ sizeLine)
    (hu : ∀ b, b ∈ bs → A.units + 2 + (enc b).depth < cLine) (h : ∀ out, out.length = bs.length → EachIs R out (bs.mergeSort (dataLe false enc)) → Q (.ref (s.heap.objs.size + 1)) { s with heap := sortedAll s.heap vs (List.toArray out) }) :
    wpAny (model prog w) A (call (.builtin "sorted") [.ref l]) Q E s := by
  have er' : EachIs (fun v b => ∃ as, Reads (sortingHeap (copyHeap s.heap vs) (s.heap.objs.size + 1) vs) v (enc b) as) vs bs := er.mono fun _ _ ⟨as, r⟩ => ⟨as, PyProof.Rows.Reads.keeps (fun _ _ => sorting_copy_old) r⟩
  have S := SortsAt.data (prog := prog) (w := w) (A := A.in1.in1) (s := { s with heap := sortingHeap (copyHeap s.heap vs) (s.heap.objs.size + 1) vs }) (each_map (R := fun v d => ∃ as, Reads (sortingHeap (copyHeap s.heap vs) (s.heap.objs.size + 1) vs) v d as) enc er') hal hk (bound_map hu)
  exact sorted_of_sortT hl (by rw [e.length]; exact hL) fun _ => list_sort_vals (s := { s with heap := copyHeap s.heap vs }) (copyHeap_at s.heap vs) S (by rw [e.length]; exact hL) ⟨rfl, h _ (by rw [sortVals_length false rfl]; exact e.length) (sortVals_data false e er' hal)⟩
end
end PyProof.Rows
namespace Bf
open PySem PySem.Spec PyProof.Rows L2
open PySem.W (AllAlike Sortable EachIs dataLe alike)
/-- the order of alike data -/
def leS (a b : D) : Bool := dataLe false D.py a b
def sortD (ds : List D) : List D := ds.mergeSort leS
def alikeB (ds : List D) : Bool := ds.all fun a => ds.all fun b => alike a.py b.py
def rowB : D → Bool
  | .tup (_ :: _) => true
  | _ => false
def atmB : D → Bool
  | .non => false
  | .tup _ => false
  | .kup _ => false
  | _ => true
def sortableB (ds : List D) : Bool := ds.all rowB || ds.all atmB
def sorD (ds : List D) : Option D := if D.plains ds = true ∧ alikeB ds = true ∧ sortableB ds = true ∧ ds.length ≤ sizeLine ∧ (ds.all fun a => decide (a.py.depth ≤ 60)) = true then some (.lst (sortD ds)) else none
/-- sorted(x), x a list or a tuple of alike data -/
def sortedX : List D → Option D
  | [.lst xs] => sorD xs
  | [.tup xs] => sorD xs
  | _ => none
section
variable {X : Cx} {CT : Ctx}
theorem py_tup {d : D} (h : rowB d = true) : ∃ x r, d.py = .tuple (x :: r) := by
  unfold rowB at h
  split at h
  · exact ⟨_, _, by rw [D.py, D.pys]⟩
  · cases h
theorem py_not {d : D} (p : d.plain = true) (h : atmB d = true) : d.py ≠ .none ∧ ∀ xs, d.py ≠ .tuple xs := by
  cases d with
  | bl => exact ⟨fun z => (by rw [D.py] at z; cases z), fun xs z => (by rw [D.py] at z; cases z)⟩
  | int => exact ⟨fun z => (by rw [D.py] at z; cases z), fun xs z => (by rw [D.py] at z; cases z)⟩
  | str => exact ⟨fun z => (by rw [D.py] at z; cases z), fun xs z => (by rw [D.py] at z; cases z)⟩
  | lst => exact ⟨fun z => (by rw [D.py] at z; cases z), fun xs z => (by rw [D.py] at z; cases z)⟩
  | non => cases h
  | tup => cases h
  | kup => cases h
  | _ => rw [D.plain] at p; cases p
theorem sortable_of {ds : List D} (p : D.plains ds = true) (h : sortableB ds = true) : Sortable (ds.map D.py) := by
  unfold sortableB at h
  rw [Bool.or_eq_true] at h
  rw [D.plains_all] at p
  rcases h with h | h
  · left
    intro d hd
    obtain ⟨x, hx, rfl⟩ := List.mem_map.mp hd
    exact py_tup (List.all_eq_true.mp h x hx)
  · right
    intro d hd
    obtain ⟨x, hx, rfl⟩ := List.mem_map.mp hd
    exact py_not (List.all_eq_true.mp p x hx) (List.all_eq_true.mp h x hx)
theorem alike_of {ds : List D} (h : alikeB ds = true) : AllAlike (ds.map D.py) := by
  intro d hd d' hd'
  obtain ⟨x, hx, rfl⟩ := List.mem_map.mp hd
  obtain ⟨y, hy, rfl⟩ := List.mem_map.mp hd'
  exact List.all_eq_true.mp (List.all_eq_true.mp h x hx) y hy
/-- values, what they stand for, their data -/
theorem zip3 {K : PySem.W.Frag} {F : Hp} : ∀ {ds : List D} {vs : List V} {us : List Value}, Vals vs us → Reps K CT F vs ds → EachIs (fun (u : Value) (b : V × D) => RelV b.1 u ∧ Rep K CT F b.1 b.2) us (vs.zip ds) ∧ (vs.zip ds).map (·.2) = ds
  | [], _, _, r1, r2 => by
    cases r2
    cases r1
    exact ⟨.nil, rfl⟩
  | d :: ds, _, _, r1, r2 => by
    cases r2 with
    | cons h1 h2 =>
      cases r1 with
      | cons g1 g2 =>
        obtain ⟨a, b⟩ := zip3 g2 h2
        exact ⟨.cons ⟨g1, h1⟩ a, by rw [List.zip_cons_cons, List.map_cons, b]⟩
theorem unzip3 {K : PySem.W.Frag} {F : Hp} : ∀ {bs : List (V × D)} {us : List Value}, EachIs (fun (u : Value) (b : V × D) => RelV b.1 u ∧ Rep K CT F b.1 b.2) us bs → Vals (bs.map (·.1)) us ∧ Reps K CT F (bs.map (·.1)) (bs.map (·.2))
  | [], _, r => by cases r; exact ⟨.nil, .nil⟩
  | b :: bs, _, r => by
    cases r with
    | cons h1 h2 =>
      obtain ⟨a, c⟩ := unzip3 h2
      exact ⟨.cons h1.1 a, .cons h1.2 c⟩
def rSortX (K : PySem.W.Frag) (CT : Ctx) : List V → Hp → VK → Prop := fun vs H Q => ∃ (F : Hp) (a : Addr) (xs : List V) (ds : List D), vs = [V.ref a] ∧ Sub F H ∧ (SqL K H a xs ∨ SqT K H a xs) ∧ Reps K CT F xs ds ∧ D.plains ds = true ∧ alikeB ds = true ∧ sortableB ds = true ∧ ds.length ≤ sizeLine ∧ (∀ d ∈ ds, d.py.depth ≤ 60) ∧
  ∀ ys p, Reps K CT F ys (sortD ds) → H p = none → Q (.ref p) (upd H p (.lst ys))
theorem cr_sortX (hu : X.A.units + 64 < cLine) : CallR X (.builtin "sorted") (rSortX X.K CT) := by
  intro pins s σ H vs us Q I r h
  obtain ⟨F, a, xs, ds, rfl, sub, hs, rr, hp, hal, hsb, hz, hdp, q⟩ := h
  have hu2 : ∀ b, b ∈ (xs.zip ds) → X.A.units + 2 + (D.py b.2).depth < cLine := fun b hb => by
    have := hdp b.2 (List.of_mem_zip hb).2
    omega
  have fin : ∀ its : List Value, Vals xs its → (∀ (R : Value → V × D → Prop), True) →
      (∀ out : List Value, out.length = (xs.zip ds).length → EachIs (fun (u : Value) (b : V × D) => RelV b.1 u ∧ Rep X.K CT F b.1 b.2) out ((xs.zip ds).mergeSort (dataLe false fun b => D.py b.2)) → EP X pins σ Q (.ref (s.heap.objs.size + 1)) { s with heap := sortedAll s.heap its (List.toArray out) }) := fun its rv _ out hl ho => by
    obtain ⟨h1, h2⟩ := unzip3 ho
    have e : ((xs.zip ds).mergeSort (dataLe false fun b => D.py b.2)).map (·.2) = sortD ds := by
      unfold sortD
      have e0 := List.map_mergeSort (r := dataLe false fun b : V × D => D.py b.2) (s := leS) (f := fun b : V × D => b.2) (l := xs.zip ds) (fun a _ b _ => rfl)
      rw [(zip3 rv rr).2] at e0
      exact e0
    rw [e] at h2
    obtain ⟨ep, he'⟩ := PyProof.Rows.sortedAll_at s.heap its (List.toArray out)
    have hlen : ∀ ys : List V, Vals ys out → ys.length ≤ sizeLine := fun ys hy => by
      rw [hy.length, hl, List.length_zip, rr.length]
      omega
    exact ⟨.ref _, upd H (s.heap.objs.size + 1) (.lst _), I.laid (t' := s.toks) (fun _ _ => PyProof.Rows.sortedAll_old) (Nat.le_succ _) ⟨hlen _ h1, out, ep, h1, he'⟩, rfl, q _ _ h2 (I.hok.fresh (Nat.le_succ _))⟩
  rw [Vals.ref1 r]
  have map1 : (xs.zip ds).map (fun b => D.py b.2) = ds.map D.py → AllAlike ((xs.zip ds).map fun b => D.py b.2) ∧ Sortable ((xs.zip ds).map fun b => D.py b.2) := fun e => by
    rw [e]
    exact ⟨alike_of hal, sortable_of hp hsb⟩
  have reads : ∀ its : List Value, Vals xs its → EachIs (fun (v : Value) (b : V × D) => ∃ as, Reads s.heap v (D.py b.2) as) its (xs.zip ds) := fun its rv => by
    have z := (zip3 rv rr).1
    have pl : ∀ b ∈ xs.zip ds, b.2.plain = true := fun b hb => by
      rw [D.plains_all] at hp
      exact List.all_eq_true.mp hp b.2 (List.of_mem_zip hb).2
    clear fin map1 hu2 rv
    generalize xs.zip ds = bs at z pl
    induction z with
    | nil => exact .nil
    | cons h1 _ ih =>
      refine .cons ?_ (ih fun b hb => pl b (List.mem_cons_of_mem _ hb))
      obtain ⟨d1, _⟩ := Rep.dp _ _ (pl _ List.mem_cons_self) h1.2
      obtain ⟨as, r⟩ := Dp.reads I _ _ _ (Dp.sub sub _ _ d1) h1.1
      exact ⟨as, r⟩
  have em : ∀ its : List Value, Vals xs its → (xs.zip ds).map (fun b => D.py b.2) = ds.map D.py := fun its rv => by
    rw [← (zip3 rv rr).2, List.map_map, (zip3 rv rr).2]
    rfl
  rcases hs with hs | hs
  · obtain ⟨its, rv, hl, _⟩ := I.list hs
    obtain ⟨m1, m2⟩ := map1 (em its rv)
    exact PySem.W.sorted_data hl.isList (zip3 rv rr).1 (reads its rv) m1 m2 (by rw [List.length_zip]; omega) hu2 (fin its rv fun _ => trivial)
  · obtain ⟨its, rv, hl, _⟩ := I.tuple hs
    obtain ⟨m1, m2⟩ := map1 (em its rv)
    exact sorted_dataT hl (zip3 rv rr).1 (reads its rv) m1 m2 (by rw [List.length_zip]; omega) hu2 (fin its rv fun _ => trivial)
theorem cb_sortX (hu : X.A.units + 64 < cLine) : CallR X (.builtin "sorted") (rB X.K CT sortedX) := callr_imp (cr_sortX (CT := CT) hu) fun vs H Q h => by
  obtain ⟨F, as, σ, S, ds, z, n, r, e, f⟩ := h
  have go : ∀ {xs : List D}, sorD xs = some z → z = .lst (sortD xs) ∧ D.plains xs = true ∧ alikeB xs = true ∧ sortableB xs = true ∧ xs.length ≤ sizeLine ∧ (∀ d ∈ xs, d.py.depth ≤ 60) := fun {xs} e => by
    unfold sorD at e
    split at e
    · rename_i c
      cases e
      exact ⟨rfl, c.1, c.2.1, c.2.2.1, c.2.2.2.1, fun d hd => of_decide_eq_true (List.all_eq_true.mp c.2.2.2.2 d hd)⟩
    · cases e
  unfold sortedX at e
  split at e
  · obtain ⟨rfl, c1, c2, c3, c4, c5⟩ := go e
    obtain ⟨v, rfl, rv⟩ := r.one
    obtain ⟨a, ws, rfl, q1, r1⟩ := rv.lst' n.sub
    exact ⟨F, a, ws, _, rfl, n.sub, .inl (SqL.of q1), r1, c1, c2, c3, c4, c5, fun ys p ry hp => f.list n p _ hp ry⟩
  · obtain ⟨rfl, c1, c2, c3, c4, c5⟩ := go e
    obtain ⟨v, rfl, rv⟩ := r.one
    obtain ⟨a, ws, rfl, q1, r1⟩ := rv.tup' n.sub
    exact ⟨F, a, ws, _, rfl, n.sub, .inr q1, r1, c1, c2, c3, c4, c5, fun ys p ry hp => f.list n p _ hp ry⟩
  · cases e
end
end Bf
/-! The mirror layer: comprehensions of two clauses. -/
namespace Bf
open PySem PySem.Spec PyProof.Rows L2
section
variable {X : Cx} {CT : Ctx} {E : Sto → XK}
/-- a comprehension's loop, whatever follows it -/
theorem lcGo_walk {β : Type} {own : List Nat} {it : It'} {J : It} {g : MG} {t : MT} {e : ME} {k : Nat} {D : Addr} {as1 : List Addr} {F1 F0 : Hp} {σ : Sto} {κ : PS → R β} {Qf : β → PS → Hp → List Addr → Sto → Hp → Prop} {okσ : Sto → Prop} {P : Nat → Nat → Hp → Prop}
    (hP : P = fun i m H => ∃ F s, Sub F0 F ∧ Env X.K CT F (as1 ++ [D]) H (L2.wipe σ own) s ∧ Out X.K CT okσ E F1 as1 ((lcGo it k own g t e m i s).bind fun _ s' => κ s') Qf)
    (hk' : as1.length = k) (hF : Sub F1 F0) (r1 : ItOk X.K CT F0 (as1 ++ [D]) J it) (stopQ : Hp → Prop)
    (hstop : ∀ F s H, Sub F0 F → Env X.K CT F (as1 ++ [D]) H (L2.wipe σ own) s → Out X.K CT okσ E F1 as1 (κ s) Qf → stopQ H) :
    ∀ i m H, P i m H → (J.stop i H ∧ stopQ H) ∨ (J.go i H ∧ ∃ Nx : Hp → Prop, (∀ H', Nx H' → ∃ m', m' < m ∧ P (i + 1) m' H') ∧ ∀ x H', J.yld i H x H' → upG X.K CT (fun σ => L2.wipe σ own) EF g x (L2.wipe σ own) H' fun σ2 H2 => L2.wipe σ2 own = L2.wipe σ own ∧ upT X.K CT EF t σ2 H2 fun b H3 =>
      if b = true then up X.K CT EF e σ2 H3 fun y H4 => ∃ acc, H4 D = some (.lst acc) ∧ acc.length < sizeLine ∧ Nx (upd H4 D (.lst (acc ++ [y]))) else Nx H3) := by
  subst hP
  rintro i m H ⟨F, s, eF, n, h⟩
  have eD : Ext F1 as1 F (as1 ++ [D]) := ⟨hF.trans eF, [D], rfl⟩
  have r := r1.mono (Ext.sub eF)
  let P : Nat → Nat → Hp → Prop := fun i m H => ∃ F s, Sub F0 F ∧ Env X.K CT F (as1 ++ [D]) H (L2.wipe σ own) s ∧ Out X.K CT okσ E F1 as1 ((lcGo it k own g t e m i s).bind fun _ s' => κ s') Qf
  have stop : it.at s i = some none → lcGo it k own g t e m i s = .ok () s → (J.stop i H ∧ stopQ H) := fun q hq => by
    rw [hq] at h
    exact ⟨It'.stop n r q, hstop F s H eF n h⟩
  cases q : it.at s i with
  | none => cases m <;> (unfold lcGo at h; simp only [q] at h; exact h.elim)
  | some o =>
    cases o with
    | none =>
      refine .inl ?_
      cases m with
      | zero => exact stop q (by unfold lcGo; simp only [q])
      | succ m => exact stop q (by unfold lcGo; simp only [q])
    | some x =>
      cases m with
      | zero => unfold lcGo at h; simp only [q] at h; exact h.elim
      | succ m =>
        unfold lcGo at h
        simp only [q] at h
        refine .inr ⟨It'.go n r q, P (i + 1) m, fun H' z => ⟨m, Nat.lt_succ_self m, z⟩, fun v H' y => ?_⟩
        obtain ⟨F, e0, n, rv⟩ := It'.yld n r q y
        replace r := r.mono e0
        replace eF := eF.trans e0.1
        replace eD := eD.trans e0
        -- the turn's outcome is known part by part
        have ns1 := h.ns
        cases qg : g (.d x) s with
        | err => rw [qg] at h; exact h.elim
        | stuck => rw [qg] at h; exact h.elim
        | ok u s2 =>
          rw [qg, nox_ok, bind_ok] at h
          refine ⟨F, _, s, .d x, n, rv, ?_⟩
          rw [qg]
          intro F2 as2 σ2 H2 o2 e2 n2 hφ
          have w2 : L2.wipe σ2 own = L2.wipe σ own := by
            have o2 : L2.wipe σ2 own = L2.wipe (L2.wipe σ own) own := o2
            have id : ∀ (vs : List Nat), (∀ v ∈ vs, v ∈ own) → L2.wipe (L2.wipe σ own) vs = L2.wipe σ own := by
              intro vs
              induction vs with
              | nil => intro _; rfl
              | cons v vs ih =>
                intro hv
                show (L2.wipe (L2.wipe σ own) vs).set v none = _
                rw [ih fun w hw => hv w (List.mem_cons_of_mem _ hw)]
                refine List.ext_getElem? fun j => ?_
                by_cases hj : v = j
                · subst hj
                  by_cases hl : v < (L2.wipe σ own).length
                  · rw [List.getElem?_set_self hl]
                    cases z : (L2.wipe σ own)[v]? with
                    | none => rw [List.getElem?_eq_getElem hl] at z; cases z
                    | some o =>
                      cases o with
                      | none => rfl
                      | some a => exact absurd (hv v List.mem_cons_self) (wipe_some z).2
                  · rw [List.getElem?_eq_none (by simpa using hl), List.getElem?_eq_none (by simpa using hl)]
                · rw [List.getElem?_set_ne hj]
            rw [o2]
            exact id own fun _ z => z
          refine ⟨w2, ?_⟩
          cases qt : t s2 with
          | err => rw [qt] at h; exact h.elim
          | stuck => rw [qt] at h; exact h.elim
          | ok c s3 =>
            rw [qt, nox_ok, bind_ok] at h
            refine ⟨F2, as2, s2, n2, ?_⟩
            rw [qt]
            intro F3 as3 σ3 H3 o3 e3 n3
            subst o3
            have e23 : Ext F (as1 ++ [D]) F3 as3 := e2.trans e3
            have hl1 : (as1 ++ [D]).length = k + 1 := by rw [List.length_append, hk']; rfl
            cases c with
            | false =>
              simp only [Bool.false_eq_true, if_false] at h ⊢
              cases qr : trunc (k + 1) s3 with
              | none => rw [qr] at h; exact h.elim
              | some s4 =>
                simp only [qr] at h
                have n4 := n3.trunc qr
                rw [take_ext e23 hl1] at n4
                exact ⟨F3, _, eF.trans e23.1, n4.wiped w2, h⟩
            | true =>
              simp only [if_true] at h ⊢
              cases qe : e s3 with
              | err => rw [qe] at h; exact h.elim
              | stuck => rw [qe] at h; exact h.elim
              | ok z s4 =>
                rw [qe, nox_ok, bind_ok] at h
                refine ⟨F3, as3, s3, n3, ?_⟩
                rw [qe]
                intro F4 as4 σ4 H4 o4 e4 n4 w rw'
                subst o4
                cases qz : frz s4 z with
                | none => simp only [qz] at h; exact h.elim
                | some pp =>
                  obtain ⟨yd, s5⟩ := pp
                  simp only [qz] at h
                  obtain ⟨F5, e5, q5, n5⟩ := n4.frz rw' qz
                  cases qw : s5.w[k]? with
                  | none => simp only [qw] at h; exact h.elim
                  | some c =>
                    cases c with
                    | lst acc =>
                      simp only [qw] at h
                      by_cases hz : acc.length < sizeLine
                      · simp only [hz, if_true] at h
                        have e05 : Ext F (as1 ++ [D]) F5 as4 := e23.trans (e4.trans e5)
                        obtain ⟨aD, vs, ha, hf, hh, rr⟩ := n5.cell qw
                        have hD' : as4[k]? = some D := e05.at (by rw [← hk', List.getElem?_append_right (Nat.le_refl _)]; simp)
                        rw [hD'] at ha
                        cases ha
                        refine ⟨vs, hh, by rw [rr.length]; exact hz, ?_⟩
                        have n6 := n5.setC (ws := vs ++ [w]) (ys := acc ++ [yd]) qw hD' hf (rr.append (.one q5))
                        cases qr : trunc (k + 1) { s5 with w := s5.w.set k (.lst (acc ++ [yd])) } with
                        | none => rw [qr] at h; exact h.elim
                        | some s6 =>
                          simp only [qr] at h
                          have n7 := n6.trunc qr
                          rw [take_ext e05 hl1] at n7
                          exact ⟨F5, _, eF.trans e05.1, n7.wiped w2, h⟩
                      · simp only [hz, if_false] at h; exact h.elim
                    | _ => simp only [qw] at h; exact h.elim
theorem bind_assoc' {α β γ : Type} {r : R α} {f : α → PS → R β} {h : β → PS → R γ} : (r.bind f).bind h = r.bind fun a s => (f a s).bind h := by cases r <;> rfl
theorem wipe_at {σ : Sto} {vs : List Nat} {j : Nat} : (L2.wipe σ vs)[j]? = if j ∈ vs then (if j < σ.length then some none else none) else σ[j]? := by
  by_cases hj : j ∈ vs
  · rw [if_pos hj]
    by_cases hl : j < σ.length
    · rw [if_pos hl]
      cases z : (L2.wipe σ vs)[j]? with
      | none =>
        rw [List.getElem?_eq_none_iff, wipe_length] at z
        omega
      | some o =>
        cases o with
        | none => rfl
        | some a => exact absurd hj (wipe_some z).2
    · rw [if_neg hl, List.getElem?_eq_none (by rw [wipe_length]; omega)]
  · rw [if_neg hj, wipe_keep hj]
theorem wipe_wipe {σ : Sto} {vs own : List Nat} (h : ∀ i ∈ vs, i ∈ own) : L2.wipe (L2.wipe σ vs) own = L2.wipe σ own := by
  refine List.ext_getElem? fun j => ?_
  rw [wipe_at (σ := L2.wipe σ vs) (vs := own), wipe_at (σ := σ) (vs := own), wipe_length]
  by_cases hj : j ∈ own
  · rw [if_pos hj, if_pos hj]
  · rw [if_neg hj, if_neg hj, wipe_at, if_neg fun z => hj (h j z)]
def isFix : It' → Bool
  | .cell _ => false
  | _ => true
def lc2Go (it : It') (n : Nat) (own : List Nat) (g : MG) (t : MT) (i1 : MI) (own1 : List Nat) (g1 : MG) (t1 : MT) (e : ME) : Nat → Nat → PS → R Unit
  | 0, i, s => match it.at s i with
    | some none => .ok () s
    | _ => .stuck
  | f + 1, i, s => match it.at s i with
    | some (some x) => (g (.d x) s).nox.bind fun _ s => (t s).nox.bind fun c s => if c = true then
        (i1 s).nox.bind fun j s => if isFix j = true then match trunc (n + 1) s with
            | some s => (lcGo j n own1 g1 t1 e (j.fuel s) 0 { s with g := wipeG own1 s.g }).bind fun _ s => lc2Go it n own g t i1 own1 g1 t1 e f (i + 1) { s with g := wipeG own s.g }
            | none => .stuck
          else .stuck
      else match trunc (n + 1) s with
        | some s => lc2Go it n own g t i1 own1 g1 t1 e f (i + 1) { s with g := wipeG own s.g }
        | none => .stuck
    | some none => .ok () s
    | none => .stuck
/-- [e for .. if .. for .. if ..], a cell -/
def vLc2N (it : MI) (own : List Nat) (g : MG) (t : MT) (i1 : MI) (own1 : List Nat) (g1 : MG) (t1 : MT) (e : ME) : ME := fun s => (it s).bind fun it s =>
  (lc2Go it s.w.length own g t i1 own1 g1 t1 e (it.fuel s) 0 { g := wipeG own s.g, w := s.w ++ [.lst []] }).bind fun _ s' => .ok (.cell s.w.length) { s' with g := backG own s.g s'.g }
/-- the reading of a comprehension whose list is a cell -/
theorem lc2_read {mi i1 : MI} {own own1 : List Nat} {g g1 : MG} {t t1 : MT} {e : ME} (hv : ∀ i ∈ own1, i ∈ own) {σ : Sto} {H : Hp} {Q : VK} (h : up X.K CT E (vLc2N mi own g t i1 own1 g1 t1 e) σ H Q) :
    tLc2 (upI X.K CT E mi) (upG X.K CT (fun σ => L2.wipe σ own) EF g) (upT X.K CT EF t) (upI X.K CT EF i1) (upG X.K CT (fun σ => L2.wipe σ own1) EF g1) (upT X.K CT EF t1) (up X.K CT EF e) own own1 σ H Q := by
  obtain ⟨F, as, s, n, h⟩ := h
  refine upI_seq n h rfl fun J it s1 F1 as1 H1 e1 n1 r1 h1 => ?_
  intro D hD
  obtain ⟨eN, nN⟩ := n1.newC (p := D) (vs := []) (xs := []) hD .nil
  generalize hk : s1.w.length = k at h1
  have hk' : as1.length = k := by rw [← n1.wk.len]; exact hk
  let Qf : SV → PS → Hp → List Addr → Sto → Hp → Prop := fun x _ F' as' _ H' => ∀ v, RepS X.K CT F' as' v x → Q v H'
  let P : Nat → Nat → Hp → Prop := fun i m H => ∃ F s, Sub F1 F ∧ Env X.K CT F (as1 ++ [D]) H (L2.wipe σ own) s ∧ Out X.K CT (fun σ' => σ' = σ) E F1 as1 ((lc2Go it k own g t i1 own1 g1 t1 e m i s).bind fun _ s' => .ok (.cell k) { s' with g := backG own s1.g s'.g }) Qf
  refine ⟨P, ⟨it.fuel s1, F1, _, Sub.refl F1, nN.wipe own, h1⟩, ?_⟩
  rintro i m H ⟨F, s, eF, n, h⟩
  have eD : Ext F1 as1 F (as1 ++ [D]) := ⟨eF, [D], rfl⟩
  have r := r1.mono eD
  have stop : it.at s i = some none → lc2Go it k own g t i1 own1 g1 t1 e m i s = .ok () s → (J.stop i H ∧ Q (.ref D) H) := fun q hq => by
    rw [hq] at h
    refine ⟨It'.stop n r q, ?_⟩
    exact Out.there h (σ := σ) rfl eD (n.back n1 eF) _ ⟨D, by rw [← hk', List.getElem?_append_right (Nat.le_refl _)]; simp, rfl⟩
  cases q : it.at s i with
  | none => cases m <;> (unfold lc2Go at h; simp only [q] at h; exact h.elim)
  | some o =>
    cases o with
    | none =>
      refine .inl ?_
      cases m with
      | zero => exact stop q (by unfold lc2Go; simp only [q])
      | succ m => exact stop q (by unfold lc2Go; simp only [q])
    | some x =>
      cases m with
      | zero => unfold lc2Go at h; simp only [q] at h; exact h.elim
      | succ m =>
        unfold lc2Go at h
        simp only [q] at h
        refine .inr ⟨It'.go n r q, P (i + 1) m, fun H' z => ⟨m, Nat.lt_succ_self m, z⟩, fun v H' y => ?_⟩
        obtain ⟨F, e0, n, rv⟩ := It'.yld n r q y
        replace r := r.mono e0
        replace eF := eF.trans e0.1
        replace eD := eD.trans e0
        -- the turn's outcome is known part by part
        have ns1 := h.ns
        cases qg : g (.d x) s with
        | err => rw [qg] at h; exact h.elim
        | stuck => rw [qg] at h; exact h.elim
        | ok u s2 =>
          rw [qg, nox_ok, bind_ok] at h
          refine ⟨F, _, s, .d x, n, rv, ?_⟩
          rw [qg]
          intro F2 as2 σ2 H2 o2 e2 n2 hφ
          have w2 : L2.wipe σ2 own = L2.wipe σ own := by
            have o2 : L2.wipe σ2 own = L2.wipe (L2.wipe σ own) own := o2
            have id : ∀ (vs : List Nat), (∀ v ∈ vs, v ∈ own) → L2.wipe (L2.wipe σ own) vs = L2.wipe σ own := by
              intro vs
              induction vs with
              | nil => intro _; rfl
              | cons v vs ih =>
                intro hv
                show (L2.wipe (L2.wipe σ own) vs).set v none = _
                rw [ih fun w hw => hv w (List.mem_cons_of_mem _ hw)]
                refine List.ext_getElem? fun j => ?_
                by_cases hj : v = j
                · subst hj
                  by_cases hl : v < (L2.wipe σ own).length
                  · rw [List.getElem?_set_self hl]
                    cases z : (L2.wipe σ own)[v]? with
                    | none => rw [List.getElem?_eq_getElem hl] at z; cases z
                    | some o =>
                      cases o with
                      | none => rfl
                      | some a => exact absurd (hv v List.mem_cons_self) (wipe_some z).2
                  · rw [List.getElem?_eq_none (by simpa using hl), List.getElem?_eq_none (by simpa using hl)]
                · rw [List.getElem?_set_ne hj]
            rw [o2]
            exact id own fun _ z => z
          refine ⟨w2, ?_⟩
          cases qt : t s2 with
          | err => rw [qt] at h; exact h.elim
          | stuck => rw [qt] at h; exact h.elim
          | ok c s3 =>
            rw [qt, nox_ok, bind_ok] at h
            refine ⟨F2, as2, s2, n2, ?_⟩
            rw [qt]
            intro F3 as3 σ3 H3 o3 e3 n3
            subst o3
            have e23 : Ext F (as1 ++ [D]) F3 as3 := e2.trans e3
            have hl1 : (as1 ++ [D]).length = k + 1 := by rw [List.length_append, hk']; rfl
            cases c with
            | false =>
              simp only [Bool.false_eq_true, if_false] at h ⊢
              cases qr : trunc (k + 1) s3 with
              | none => rw [qr] at h; exact h.elim
              | some s4 =>
                simp only [qr] at h
                have n4 := n3.trunc qr
                rw [take_ext e23 hl1] at n4
                exact ⟨F3, _, eF.trans e23.1, n4.wiped w2, h⟩
            | true =>
              simp only [if_true] at h ⊢
              cases qi : i1 s3 with
              | err => rw [qi] at h; exact h.elim
              | stuck => rw [qi] at h; exact h.elim
              | ok j s4 =>
                rw [qi, nox_ok, bind_ok] at h
                refine ⟨F3, as3, s3, n3, ?_⟩
                rw [qi]
                intro F4 as4 σ4 H4 o4 e4 n4 J1 rJ
                subst o4
                by_cases hj : isFix j = true
                · rw [if_pos hj] at h
                  cases qr : trunc (k + 1) s4 with
                  | none => simp only [qr] at h; exact h.elim
                  | some s5 =>
                    simp only [qr] at h
                    have n5 := n4.trunc qr
                    rw [take_ext (e23.trans e4) hl1] at n5
                    have rJ2 : ItOk X.K CT F4 (as1 ++ [D]) J1 j := by
                      cases j with
                      | cell c => cases hj
                      | seq ds => exact rJ
                      | rng lo n => exact rJ
                      | rngC lo c n => exact rJ
                      | prs ps => exact rJ
                      | kys xs => exact rJ
                      | its ps => exact rJ
                    have eF4 : Sub F1 F4 := eF.trans (e23.trans e4).1
                    rw [bind_assoc'] at h
                    refine ⟨fun j' m' H' => ∃ F s, Sub F4 F ∧ Env X.K CT F (as1 ++ [D]) H' (L2.wipe σ4 own1) s ∧ Out X.K CT (fun σ' => σ' = σ) E F1 as1 ((lcGo j k own1 g1 t1 e m' j' s).bind fun _ s' => (lc2Go it k own g t i1 own1 g1 t1 e m (i + 1) { s' with g := wipeG own s'.g }).bind fun _ s' => R.ok (.cell k) { s' with g := backG own s1.g s'.g }) Qf, ⟨j.fuel s5, F4, _, Sub.refl F4, n5.wipe own1, h⟩, ?_⟩
                    refine lcGo_walk rfl hk' eF4 rJ2 (P (i + 1) m) fun F6 s6 H6 eF6 n6 h6 => ?_
                    exact ⟨F6, _, eF4.trans eF6, n6.wiped (by rw [wipe_wipe hv]; exact w2), h6⟩
                · rw [if_neg hj] at h
                  exact h.elim
end
end Bf
/-! The mirror layer: comprehensions of two clauses, as rules; what they compute. -/
namespace Bf
open PySem PySem.Spec PyProof.Rows L2
section
variable {X : Cx} {CT : Ctx} {E : Sto → XK} {elt tg iter tg1 iter1 : Expr} {ifs ifs1 : List Expr} {scope : Scope} {own : List (Str × Nat)} {own1 : List Nat} {pos spos : Pos} {mi i1 : MI} {g g1 : MG} {t t1 : MT} {e : ME}
theorem me_lc2N (hx : Cq X E) (hi : PI X tg iter (upI X.K CT E mi)) (ok : BlkOk X.N X.env.scope scope own) (hv : ∀ i ∈ own1, i ∈ own.map (·.2))
    (hg : ∀ s H C cl fp, PG (Bk X scope s H C cl fp) tg (upG X.K CT (fun σ => L2.wipe σ (own.map (·.2))) EF g)) (ht : ∀ s H C cl fp, PTs (Bk X scope s H C cl fp) ifs (upT X.K CT EF t))
    (hi1 : ∀ s H C cl fp, PI (Bk X scope s H C cl fp) tg1 iter1 (upI X.K CT EF i1)) (hg1 : ∀ s H C cl fp, PG (Bk X scope s H C cl fp) tg1 (upG X.K CT (fun σ => L2.wipe σ own1) EF g1)) (ht1 : ∀ s H C cl fp, PTs (Bk X scope s H C cl fp) ifs1 (upT X.K CT EF t1))
    (he : ∀ s H C cl fp, PE (Bk X scope s H C cl fp) elt (up X.K CT EF e)) (hs : ∀ x, foldedSetIterable iter X.env x = pure x := by intro _; rfl) (hs1 : ∀ env x, foldedSetIterable iter1 env x = pure x := by intro _ _; rfl) :
    PE X (.ListComp elt [⟨tg, iter, ifs, 0⟩, ⟨tg1, iter1, ifs1, 0⟩] scope pos) (up X.K CT E (vLc2N mi (own.map (·.2)) g t i1 own1 g1 t1 e)) :=
  PE.imp (pe_lc2 hx.calm hx.nd hi ok hv hg ht hi1 hg1 ht1 he hs hs1) fun _ _ _ h => lc2_read hv h
/-- .. frozen at once -/
theorem ms_setLc2 {i : Nat} {y : Str} {py : Pos} (hx : Cq X E) (hy : X.N[i]? = some y) (hyl : X.env.scope.names.lookup y = some .local)
    (hsw : swapsWith (.ListComp elt [⟨tg, iter, ifs, 0⟩, ⟨tg1, iter1, ifs1, 0⟩] scope pos) (some (.Name y py)) spos.line X.env = pure true) (hi : PI X tg iter (upI X.K CT E mi)) (ok : BlkOk X.N X.env.scope scope own) (hv : ∀ i ∈ own1, i ∈ own.map (·.2))
    (hg : ∀ s H C cl fp, PG (Bk X scope s H C cl fp) tg (upG X.K CT (fun σ => L2.wipe σ (own.map (·.2))) EF g)) (ht : ∀ s H C cl fp, PTs (Bk X scope s H C cl fp) ifs (upT X.K CT EF t))
    (hi1 : ∀ s H C cl fp, PI (Bk X scope s H C cl fp) tg1 iter1 (upI X.K CT EF i1)) (hg1 : ∀ s H C cl fp, PG (Bk X scope s H C cl fp) tg1 (upG X.K CT (fun σ => L2.wipe σ own1) EF g1)) (ht1 : ∀ s H C cl fp, PTs (Bk X scope s H C cl fp) ifs1 (upT X.K CT EF t1))
    (he : ∀ s H C cl fp, PE (Bk X scope s H C cl fp) elt (up X.K CT EF e)) (hs : ∀ x, foldedSetIterable iter X.env x = pure x := by intro _; rfl) (hs1 : ∀ env x, foldedSetIterable iter1 env x = pure x := by intro _ _; rfl) :
    L2.PS X (.Assign [.Name y py] (.ListComp elt [⟨tg, iter, ifs, 0⟩, ⟨tg1, iter1, ifs1, 0⟩] scope pos) spos) (upS X.K CT E (sAsg (vFrz (vLc2N mi (own.map (·.2)) g t i1 own1 g1 t1 e)) (hName i))) :=
  ps_imp (L2.ps_setLc2 hx.calm hx.nd hy hyl hsw hi ok hv hg ht hi1 hg1 ht1 he hs hs1) fun D σ H ⟨F, as, s, n, h⟩ => by
    refine lc2_read hv (Q := fun x H1 => D.nx (σ.set i (some x)) H1) ?_
    have h : Out X.K CT (fun _ => True) E F as (((vLc2N mi (own.map (·.2)) g t i1 own1 g1 t1 e s).bind fun x s => R.of ((frz s x).map fun p => SV.d p.1) (match frz s x with
      | some p => p.2
      | none => s)).bind fun x s => (hName i x s).bind fun _ s => R.ok Fl.nx s) _ := h
    have as1 : ∀ (r : R SV), (r.bind fun x s => R.of ((frz s x).map fun p => SV.d p.1) (match frz s x with
      | some p => p.2
      | none => s)).bind (fun x s => (hName i x s).bind fun _ s => R.ok Fl.nx s) = r.bind fun x s => (R.of ((frz s x).map fun p => SV.d p.1) (match frz s x with
      | some p => p.2
      | none => s)).bind fun x s => (hName i x s).bind fun _ s => R.ok Fl.nx s := fun r => by cases r <;> rfl
    rw [as1] at h
    refine up_seq n h trivial fun v x s1 F1 as1 H1 e1 n1 r1 h1 => ?_
    cases q : frz s1 x with
    | none => simp only [q] at h1; exact h1.elim
    | some pp =>
      obtain ⟨y, s2⟩ := pp
      simp only [q] at h1
      obtain ⟨F2, e2, q2, n2⟩ := n1.frz r1 q
      have h1 : Out X.K CT (fun _ => True) E F1 as1 ((hName i (.d y) s2).bind fun _ s => R.ok Fl.nx s) _ := h1
      unfold hName at h1
      split at h1
      · rename_i hl
        have q2' : RepS X.K CT F2 as1 v (.d y) := q2
        exact Out.there h1 (σ := σ.set i (some v)) trivial e2 (n2.setG q2' hl)
      · exact h1.elim
end
end Bf
namespace Bf
open PySem PySem.Spec PyProof.Rows L2
/-- the loop of one clause of a comprehension, of any kind: body is what a turn does behind its tests -/
theorem clause_turns {prog : Program} {w : World} {A : Around} {R : Result → Shared → Prop} {s : Shared} {e tg : Expr} {d : Nat} {p : Pos} {ifs : List Expr} {it acc : Value} {env : PySem.Env} {body : Sem PySem.Fin}
    (eq : compTurn e d it acc env = (do
      standAt p
      match ← pyNext it with
      | none => pure (.done .next)
      | some v =>
        letOwnedTupleGo tg it v
        assign tg env v
        let mut ok := true
        for c in ifs do
          if ok then ok ← isTrue c env (eval c env)
        if ok then body else again (.compLoop e d it acc env))) (hA : A.under (.compLoop e d it acc env) = A) (hd : (model prog w).den (.compLoop e d it acc env) = (compTurn e d it acc env).onRaise (fun x => do noteFrame x env; theTreesLotGoes x)) (I : Nat → Shared → Prop)
    (turn : ∀ n s, I n s → wpAny (model prog w) A (pyNext it) (fun r s1 => match r with
      | none => R (.ok .next) s1
      | some v => wpAny (model prog w) A (letOwnedTupleGo tg it v) (fun _ s2 => wpAny (model prog w) A (assign tg env v) (fun _ s3 =>
          wpAny (model prog w) A (forIn ifs true fun c r => if r = true then do let ok ← isTrue c env (eval c env); pure (ForInStep.yield ok) else pure (ForInStep.yield r)) (fun ok s4 =>
            if ok = true then wpAny (model prog w) A body (fun fin s5 => fin = .again (.compLoop e d it acc env) ∧ ∃ m, m < n ∧ I m s5) (fun _ _ => False) s4 else ∃ m, m < n ∧ I m s4) (fun _ _ => False) s3) (fun _ _ => False) s2) (fun _ _ => False) s1) (fun _ _ => False) s)
    (n : Nat) (h : I n s) : codeAny (model prog w) A (.compLoop e d it acc env) R s := by
  refine codeAny_loop rfl I (fun n s hI => ?_) n h
  rw [hA, hd]
  refine wpAny_noted ?_
  rw [eq]
  have no : ∀ {α : Type} {t : Sem α} {Q : α → Shared → Prop} {E : Value → Shared → Prop} {s : Shared}, wpAny (model prog w) A t Q (fun _ _ => False) s → wpAny (model prog w) A t Q E s := fun h => wpAny_mono h (fun _ _ z => z) fun _ _ z => z.elim
  refine wpAny_bind (wpAny_standAt (wpAny_bind (no (wpAny_mono (turn n s hI) (fun r s1 h1 => ?_) fun _ _ z => z))))
  cases r with
  | none => exact wpAny_pure h1
  | some v =>
    refine wpAny_bind (no (wpAny_mono h1 (fun _ s2 h2 => wpAny_bind (no (wpAny_mono h2 (fun _ s3 h3 => wpAny_bind (no (wpAny_mono h3 (fun ok s4 h4 => ?_) fun _ _ z => z))) fun _ _ z => z))) fun _ _ z => z))
    cases ok with
    | false => exact wpAny_pure ⟨rfl, h4⟩
    | true => exact no (wpAny_mono h4 (fun fin s5 h5 => by obtain ⟨rfl, h5⟩ := h5; exact ⟨rfl, h5⟩) fun _ _ z => z)
theorem dc1_in {kx vx t0 i0 : Expr} {ifs0 : List Expr} {scope : Scope} {pos : Pos} {it : Value} {D : Addr} {env : PySem.Env} :
    compTurn (.DictComp kx vx [⟨t0, i0, ifs0, 0⟩] scope pos) 0 it (.ref D) env = (do
      standAt i0.pos
      match ← pyNext it with
      | none => pure (.done .next)
      | some v =>
        letOwnedTupleGo t0 it v
        assign t0 env v
        let mut ok := true
        for c in ifs0 do
          if ok then ok ← isTrue c env (eval c env)
        if ok then (do
          (do
            let kv ← eval kx env
            let vv ← holding [kv] (eval vx env)
            standAt { kx.pos with endLine := vx.pos.endLine, endCol := vx.pos.endCol }
            holding [kv, vv] (dictSet D kv vv))
          again (.compLoop (.DictComp kx vx [⟨t0, i0, ifs0, 0⟩] scope pos) 0 it (.ref D) env))
        else again (.compLoop (.DictComp kx vx [⟨t0, i0, ifs0, 0⟩] scope pos) 0 it (.ref D) env)) := by rfl
/-- a clause's loop in a block's context -/
theorem clause_walk {Y : Cx} {e tg : Expr} {d : Nat} {p : Pos} {ifs : List Expr} {it : Addr} {acc : Value} {body : Sem PySem.Fin} {R : Result → Shared → Prop} {pins : List (Addr × Obj)} {σ0 : L2.St} {vs : List Nat} {J : It} {fp : List Addr} {tn : Nat → Heap → Prop} {g : TG} {tt : TT} {tb : L2.St → Hp → (Hp → Prop) → Prop}
    (eq : compTurn e d (.ref it) acc Y.env = (do
      standAt p
      match ← pyNext (.ref it) with
      | none => pure (.done .next)
      | some v =>
        letOwnedTupleGo tg (.ref it) v
        assign tg Y.env v
        let mut ok := true
        for c in ifs do
          if ok then ok ← isTrue c Y.env (eval c Y.env)
        if ok then body else again (.compLoop e d (.ref it) acc Y.env)))
    (hA : Y.A.under (.compLoop e d (.ref it) acc Y.env) = Y.A) (hd : (model Y.prog Y.w).den (.compLoop e d (.ref it) acc Y.env) = (compTurn e d (.ref it) acc Y.env).onRaise (fun x => do noteFrame x Y.env; theTreesLotGoes x))
    (hc : Y.calm = true) (hxe : ∀ u s, ¬ Y.xe u s) (T : Turn Y.prog Y.w Y.K tg J fp it tn) (pg : PG Y tg g) (pt : PTs Y ifs tt)
    (pb : ∀ (pins' : List (Addr × Obj)) (s : Shared) (σ : L2.St) (H : Hp) (N : Hp → Prop), Inv Y pins' σ H s → L2.wipe σ vs = L2.wipe σ0 vs → tb σ H N → wpAny (model Y.prog Y.w) Y.A body (fun fin s' => fin = .again (.compLoop e d (.ref it) acc Y.env) ∧ ∃ H', Inv Y pins' (L2.wipe σ0 vs) H' s' ∧ N H') (fun _ _ => False) s)
    (stat : ∀ (H' : Hp), (∀ b ∈ fp, H' b = none) → ∀ b ∈ fp, FpOk Y pins H' b) {W : Nat → Nat → Hp → Prop} {Qd : Hp → Prop}
    (turn : ∀ i m H, W i m H → (J.stop i H ∧ Qd H) ∨ (J.go i H ∧ ∃ Nx : Hp → Prop, (∀ H', Nx H' → ∃ m', m' < m ∧ W (i + 1) m' H') ∧ ∀ x H', J.yld i H x H' → g x (L2.wipe σ0 vs) H' fun σ2 H2 => L2.wipe σ2 vs = L2.wipe σ0 vs ∧ tt σ2 H2 fun b H3 =>
      if b = true then tb σ2 H3 Nx else Nx H3))
    (hdone : ∀ s' H', Inv Y pins (L2.wipe σ0 vs) H' s' → Qd H' → R (.ok .next) s') {s : Shared} {m : Nat} {H : Hp} (I : Inv Y pins (L2.wipe σ0 vs) H s) (st : tn 0 s.heap) (hn : ∀ b ∈ fp, H b = none) (w0 : W 0 m H) :
    codeAny (model Y.prog Y.w) Y.A (.compLoop e d (.ref it) acc Y.env) R s := by
  have cut : ∀ {α : Type} {t : Sem α} {Q Q' : α → Shared → Prop} {s : Shared}, wpAny (model Y.prog Y.w) Y.A t Q Y.xe s → (∀ a s, Q a s → Q' a s) → wpAny (model Y.prog Y.w) Y.A t Q' (fun _ _ => False) s := fun h k => wpAny_mono h k fun u s z => hxe u s z
  refine clause_turns eq hA hd (fun n s' => ∃ i H', Inv Y pins (L2.wipe σ0 vs) H' s' ∧ tn i s'.heap ∧ (∀ b ∈ fp, H' b = none) ∧ W i n H') ?_ m ⟨0, H, I, st, hn, w0⟩
  rintro n s1 ⟨i, H1, I1, st1, n1, w1⟩
  rcases turn i n H1 w1 with ⟨stop, qd⟩ | ⟨go, Nx, hNx, step⟩
  · refine wpAny_mono (T.done Y rfl rfl rfl hc i pins s1 _ H1 (fun _ _ => False) I1 (stat H1 n1) st1 stop) (fun r s2 ⟨hr, I2⟩ => ?_) fun _ _ z => z
    subst hr
    exact hdone s2 H1 I2 qd
  · refine wpAny_mono (T.item Y rfl rfl rfl hc i pins s1 _ H1 (fun _ _ => False) I1 (stat H1 n1) st1 go) (fun r s2 ⟨u, hr, h2⟩ => ?_) fun _ _ z => z
    subst hr
    refine wpAny_mono h2 (fun _ s3 ⟨x, H3, I3, r3, y3, st3, n3⟩ => ?_) fun _ _ z => z
    have I3p := I3.pinned (stat H3 n3) (T.obj _ _ st3)
    refine cut (pg.run _ s3 _ H3 x u _ I3p r3 (step x H3 y3)) fun _ s4 ⟨σ4, H4, I4, hw4, q4⟩ => ?_
    refine cut (pt.run _ s4 σ4 H4 _ I4 q4) fun b s5 ⟨H5, I5, q5⟩ => ?_
    have fin : ∀ {s' : Shared} {H' : Hp}, Inv Y (pins ++ pinsAt fp s3.heap) (L2.wipe σ0 vs) H' s' → Nx H' → ∃ m, m < n ∧ ∃ i H', Inv Y pins (L2.wipe σ0 vs) H' s' ∧ tn i s'.heap ∧ (∀ b ∈ fp, H' b = none) ∧ W i m H' := fun {s' H'} I' nx => by
      obtain ⟨m', hm, w'⟩ := hNx H' nx
      have at_ : ∀ b ∈ fp, ∀ o, s3.heap.get? b = some o → s'.heap.get? b = some o ∧ H' b = none := fun b hb o e => by
        have z := I'.pin (b, o) (List.mem_append_right _ (List.mem_append_right _ (mem_pinsAt hb e)))
        exact ⟨z.1, z.2.1⟩
      refine ⟨m', hm, i + 1, H', I'.unpinned, T.keep _ _ _ st3 fun b hb o e => (at_ b hb o e).1, fun b hb => ?_, w'⟩
      obtain ⟨o, e, _⟩ := T.obj _ _ st3 b hb
      exact (at_ b hb o e).2
    cases b with
    | false =>
      simp only [Bool.false_eq_true, if_false] at q5 ⊢
      refine fin (I5.weak (by rw [← hw4, wipe_length]) fun j v e => ?_) q5
      rw [← hw4] at e
      exact (wipe_some e).1
    | true =>
      simp only [if_true] at q5 ⊢
      refine wpAny_mono (pb _ s5 σ4 H5 Nx I5 hw4 q5) (fun f s6 ⟨hf, H6, I6, nx⟩ => ⟨hf, fin I6 nx⟩) fun _ _ z => z
end Bf
/-! The mirror layer: dict comprehensions with tuples as keys. -/
namespace Bf
open PySem PySem.Spec PyProof.Rows L2
/-- d[k] = v by a comprehension, k a tuple of ints and texts -/
theorem d_dictSetT {X : Cx} {pins : List (Addr × Obj)} {σ : L2.St} {H : Hp} {s : Shared} {E : Value → Shared → Prop} {D b : Addr} {kvs : List (List Key × V)} {k : List Key} {v : V} {u r : Value} {Q : Unit → Shared → Prop} (hu : X.A.units < cLine) (I : Inv X pins σ H s) (hD : H D = some (.dT kvs)) (hz : kvs.length < sizeLine)
    (ry : RelV (.ref b) u) (eb : H b = some (.tup (k.map kV))) (rv : RelV v r) (h : ∀ s', Inv X pins σ (upd H D (.dT (putK kvs k v))) s' → Q () s') : wpAny (model X.prog X.w) X.A (dictSet D u r) Q E s := by
  cases (show u = Value.ref b from ry)
  obtain ⟨z, hd, xs, rel, dd⟩ := dt_of I.hok hD
  have hzv : xs.length ≤ sizeLine := by rw [← Paired.length rel]; exact z
  have hl : (putK kvs k v).length ≤ sizeLine := by have := length_putK kvs k v; omega
  refine wpAny_dictSet_heap (hsz := hzv) (knd := tupleKind (mixKind X.prog X.w)) hu (key_of I.hok eb) dd fun h' dd' hs => h _ ?_
  obtain ⟨q, es, ep, hq, h2, h3, h4, _, h5⟩ := dd'
  refine d_write I (by rw [hD]; exact True.intro) hs ⟨q, hq⟩ ⟨hl, hd, _, (rel.put k eb rv).keeps fun c ys ec => ?_, q, es, ep, hq, h2, h3, h4, h5⟩
  rw [upd_ne (ne_of ec hD (fun z => nomatch z))]
  exact ec
/-- a dict comprehension, read: tb: what a turn does behind the tests of the first clause -/
def tDcT (wi : TI) (g : TG) (tt : TT) (tb : Addr → L2.St → Hp → (Hp → Prop) → Prop) (vs : List Nat) : TE := fun σ H Q => wi σ H fun J H1 => ∀ D, H1 D = none → ∃ W : Nat → Nat → Hp → Prop, (∃ m, W 0 m (upd H1 D (.dT []))) ∧ ∀ i m H, W i m H →
  (J.stop i H ∧ Q (.ref D) H) ∨ (J.go i H ∧ ∃ Nx : Hp → Prop, (∀ H', Nx H' → ∃ m', m' < m ∧ W (i + 1) m' H') ∧ ∀ x H', J.yld i H x H' → g x (L2.wipe σ vs) H' fun σ2 H2 => L2.wipe σ2 vs = L2.wipe σ vs ∧ tt σ2 H2 fun b H3 =>
    if b = true then tb D σ2 H3 Nx else Nx H3)
section
variable {X : Cx}
theorem dT_core {pins : List (Addr × Obj)} {s : Shared} {σ : L2.St} {H : Hp} {Q : VK} {kx vx tg iter : Expr} {ifs : List Expr} {rest : List Comprehension} {scope : Scope} {own : List (Str × Nat)} {pos pos' : Pos} {wi : TI} {g : TG} {tt : TT} {tb : Addr → L2.St → Hp → (Hp → Prop) → Prop} {body : PySem.Env → Value → Addr → Sem PySem.Fin} {use : Option (Value → Sem Unit)} {Qf : Value → Shared → Prop}
    (eq : ∀ env it D, compTurn (.DictComp kx vx (⟨tg, iter, ifs, 0⟩ :: rest) scope pos) 0 it (.ref D) env = (do
      standAt iter.pos
      match ← pyNext it with
      | none => pure (.done .next)
      | some v =>
        letOwnedTupleGo tg it v
        assign tg env v
        let mut ok := true
        for c in ifs do
          if ok then ok ← isTrue c env (eval c env)
        if ok then body env it D else again (.compLoop (.DictComp kx vx (⟨tg, iter, ifs, 0⟩ :: rest) scope pos) 0 it (.ref D) env)))
    (hc : X.calm = true) (hN : X.N.Nodup) (I : Inv X pins σ H s) (hi : PI X tg iter wi) (ok : BlkOk X.N X.env.scope scope own)
    (hg : ∀ s H C cl fp, PG (Bk X scope s H C cl fp) tg g) (ht : ∀ s H C cl fp, PTs (Bk X scope s H C cl fp) ifs tt)
    (hb : ∀ s H C cl fp it D (pins' : List (Addr × Obj)) (s' : Shared) (σ' : L2.St) (H' : Hp) (N : Hp → Prop), Inv (Bk X scope s H C cl fp) pins' σ' H' s' → L2.wipe σ' (own.map (·.2)) = L2.wipe σ (own.map (·.2)) → tb D σ' H' N →
      wpAny (model X.prog X.w) X.A (body (compEnvC scope cl C X.env) it D) (fun fin s'' => fin = .again (.compLoop (.DictComp kx vx (⟨tg, iter, ifs, 0⟩ :: rest) scope pos) 0 it (.ref D) (compEnvC scope cl C X.env)) ∧ ∃ H'', Inv (Bk X scope s H C cl fp) pins' (L2.wipe σ (own.map (·.2))) H'' s'' ∧ N H'') (fun _ _ => False) s')
    (hs : ∀ x, foldedSetIterable iter X.env x = pure x)
    (h : tDcT wi g tt tb (own.map (·.2)) σ H Q)
    (hRR : ∀ D C s' m H', Inv X pins σ H' s' → Q (.ref D) H' → s'.heap.Ns C m → FpOk X pins H' C → compPost (model X.prog X.w) X.A X.xe use Qf (.ref D) C (.ok .next) s') :
    wpAny (model X.prog X.w) X.A (comprehension (.DictComp kx vx (⟨tg, iter, ifs, 0⟩ :: rest) scope pos) scope X.env pos' newDict false (eval iter X.env) use) Qf X.xe s := by
  have hfree : ∀ y ∈ scope.names, y.2 = .free → ∃ c, X.env.cells.lookup y.1 = some c := fun y hy e => by
    rcases ok.free y hy e with k | k
    · exact I.ok.has _ (.inl k)
    · exact I.ok.has _ (.inr k)
  refine wpAny_comprehension_free (use := use) rfl hs (closure_ok hfree) ok.kind (fun y hy e => by rw [ok.uniq y hy, e])
    (thn (hi.run pins s σ H _ I h) fun xv s1 hx => thn hx fun itv s2 h2 => ?_)
  obtain ⟨it, fp, tn, J, H2, e, I2, T, st2, f2, q⟩ := h2
  subst e
  refine wpAny_newObj_type (newEnv_comp ?_)
  generalize hD : s2.heap.objs.size = D
  have hDn : H2 D = none := I2.hok.fresh (Nat.le_of_eq hD)
  obtain ⟨W, ⟨m0, w0⟩, turn⟩ := q D hDn
  generalize hs3 : ({ s2 with heap := s2.heap.push { cls := .type "dict", data := .dict #[] } } : Shared) = s3
  have I3 : Inv X pins σ (upd H2 D (.dT [])) s3 := by
    rw [← hs3]
    refine I2.laid (t' := s2.toks) (fun b o e => Heap.get?_push_of_some _ e) (Nat.le_of_eq hD) ?_
    rw [← hD]
    exact dt_empty s2.heap I2.big
  have h3 : s3.heap = s2.heap.push { cls := .type "dict", data := .dict #[] } := by rw [← hs3]
  have sz : ∀ b ∈ fp, b < s2.heap.objs.size := fun b hb => by
    obtain ⟨o, e, _⟩ := T.obj _ _ st2 b hb
    exact Heap.lt_size e
  have f3 : ∀ b ∈ fp, FpOk X pins (upd H2 D (.dT [])) b ∧ b < s3.heap.objs.size := fun b hb => by
    have hlt := sz b hb
    refine ⟨⟨?_, (f2 b hb).2⟩, by rw [h3, Heap.size_push]; exact Nat.lt_succ_of_lt hlt⟩
    rw [upd_ne (by rw [← hD]; exact Nat.ne_of_lt hlt)]
    exact (f2 b hb).1
  have st3 : tn 0 s3.heap := T.keep _ _ _ st2 fun b _ o e => by rw [h3]; exact Heap.get?_push_of_some _ e
  have I4 := block_start I3 ok hN f3
  have pg := hg s3 (upd H2 D (.dT [])) s3.heap.objs.size (cellsFrom (s3.heap.objs.size + 1) scope.names (cloFrom X.env.cells scope.names [])) fp
  have pt := ht s3 (upd H2 D (.dT [])) s3.heap.objs.size (cellsFrom (s3.heap.objs.size + 1) scope.names (cloFrom X.env.cells scope.names [])) fp
  have pb := hb s3 (upd H2 D (.dT [])) s3.heap.objs.size (cellsFrom (s3.heap.objs.size + 1) scope.names (cloFrom X.env.cells scope.names [])) fp (.ref it) D
  show codeAny _ _ (.compStart (.DictComp kx vx (⟨tg, iter, ifs, 0⟩ :: rest) scope pos) 0 (.ref it) (.ref D) (compEnvC scope (cellsFrom (s3.heap.objs.size + 1) scope.names (cloFrom X.env.cells scope.names [])) s3.heap.objs.size X.env)) (compPost (model X.prog X.w) X.A X.xe use Qf (.ref D) s3.heap.objs.size) { s3 with heap := pushCells (s3.heap.push { cls := .type "dict", data := .dict #[] }) scope.names }
  have nfp : ∀ b ∈ fp, (upd H2 D (.dT [])) b = none := fun b hb => (f3 b hb).1.1
  unfold Bk at pg pt pb
  generalize hce : compEnvC scope (cellsFrom (s3.heap.objs.size + 1) scope.names (cloFrom X.env.cells scope.names [])) s3.heap.objs.size X.env = ce at I4 pg pt pb ⊢
  have cL : ce.locals = s3.heap.objs.size := by subst hce; rfl
  generalize hH3 : upd H2 D (.dT []) = H3 at I3 I4 pg pt pb w0 nfp f3
  generalize hs4 : ({ s3 with heap := pushCells (s3.heap.push { cls := .type "dict", data := .dict #[] }) scope.names } : Shared) = s4 at I4 ⊢
  have st4 : tn 0 s4.heap := T.keep _ _ _ st3 fun b _ o e => by rw [← hs4]; exact pushCells_keeps _ _ _ _ (Heap.get?_push_of_some _ e)
  have loop : codeAny (model X.prog X.w) X.A (.compLoop (.DictComp kx vx (⟨tg, iter, ifs, 0⟩ :: rest) scope pos) 0 (.ref it) (.ref D) ce) (compPost (model X.prog X.w) X.A X.xe use Qf (.ref D) s3.heap.objs.size) s4 := by
    refine clause_walk (Y := X.blk s3 H3 scope ce fp) (body := body ce (.ref it) D) (σ0 := σ) (vs := own.map (·.2)) (tb := tb D) (pins := []) (W := W) (Qd := fun H => Q (.ref D) H) (m := m0) (H := H3) (eq ce (.ref it) D) rfl rfl hc (fun _ _ z => z) T pg pt
      (fun pins' s' σ' H' N I' hw ht => pb pins' s' σ' H' N I' hw ht)
      (fun H' hn b hb => ⟨hn b hb, (I4.ok.exf b hb).1, I4.ok.exfs b hb, .inl hb, fun x c e => (I4.ok.exf b hb).2 x c e, fun p hp => absurd (show p ∈ ([] : List (Addr × Obj)) ++ [] from hp) (by simp)⟩)
      turn (fun s6 H5 I6 qq => ?_) I4 st4 nfp w0
    have I7 : Inv X pins σ H5 s6 := I3.call' (ch := fp) I6.os I6.base I6.hok I6.bare fun b hb => ⟨(f3 b hb).1.2.2.2.1, (f3 b hb).1.2.1, (f3 b hb).1.2.2.2.2.1, (f3 b hb).1.2.2.2.2.2⟩
    have nC : H5 s3.heap.objs.size = none := by
      have z : H5 ce.locals = none := I6.free
      rw [cL] at z
      exact z
    obtain ⟨m, hn, _⟩ := I6.loc
    have hn : s6.heap.Ns ce.locals m := hn
    rw [cL] at hn
    exact hRR D s3.heap.objs.size s6 m H5 I7 qq hn (I3.fpOk (Nat.le_refl _) nC)
  exact codeAny_compStart_dict loop (T.self X.A 0 _ _ _ st4 loop)
end
end Bf
/-! The mirror layer: dict comprehensions with tuples as keys, one clause and two. -/
namespace Bf
open PySem PySem.Spec PyProof.Rows L2
/-- the pair is put -/
def tPut (tk tv : TE) (D : Addr) (σ : L2.St) (H : Hp) (N : Hp → Prop) : Prop := tk σ H fun y H4 => tv σ H4 fun z H5 => ∃ kvs k b, y = .ref b ∧ H5 b = some (.tup (k.map kV)) ∧ H5 D = some (.dT kvs) ∧ kvs.length < sizeLine ∧ N (upd H5 D (.dT (putK kvs k z)))
section
variable {Y : Cx} {pins' : List (Addr × Obj)} {s' : Shared} {σ' : L2.St} {H' : Hp} {N : Hp → Prop}
theorem put_run {kx vx : Expr} {tk tv : TE} {D : Addr} {p : Pos} {c : Code} (hu : Y.A.units < cLine) (hxe : ∀ u s, ¬ Y.xe u s) (pk : PE Y kx tk) (pv : PE Y vx tv) (I : Inv Y pins' σ' H' s') (ht : tPut tk tv D σ' H' N) {Z : Shared → Prop} (hz : ∀ s H, Inv Y pins' σ' H s → N H → Z s) :
    wpAny (model Y.prog Y.w) Y.A (do
          (do
            let kv ← eval kx Y.env
            let vv ← holding [kv] (eval vx Y.env)
            standAt p
            holding [kv, vv] (dictSet D kv vv))
          again c) (fun fin s'' => fin = .again c ∧ Z s'') (fun _ _ => False) s' := by
  have cut : ∀ {α : Type} {t : Sem α} {Q Q' : α → Shared → Prop} {s : Shared}, wpAny (model Y.prog Y.w) Y.A t Q Y.xe s → (∀ a s, Q a s → Q' a s) → wpAny (model Y.prog Y.w) Y.A t Q' (fun _ _ => False) s := fun h k => wpAny_mono h k fun u s z => hxe u s z
  refine wpAny_bind (wpAny_bind (cut (pk.run _ _ _ _ _ I ht) fun u s1 ⟨y, H1, I1, r1, q1⟩ => wpAny_bind (wpAny_holding (cut (pv.run _ _ _ _ _ I1 q1) fun u2 s2 ⟨z, H2, I2, r2, kvs, k, b, ey, eb, eD, hl, nx⟩ => wpAny_bind (wpAny_standAt (wpAny_holding ?_))))))
  subst ey
  exact d_dictSetT hu I2 eD hl r1 eb r2 fun s3 I3 => wpAny_pure ⟨rfl, hz _ _ I3 nx⟩
end
section
variable {X : Cx}
theorem pe_dcT1 {kx vx tg iter : Expr} {ifs : List Expr} {scope : Scope} {own : List (Str × Nat)} {pos : Pos} {wi : TI} {g : TG} {tt : TT} {tk tv : TE} (hu : X.A.units < cLine) (hc : X.calm = true) (hN : X.N.Nodup) (hi : PI X tg iter wi) (ok : BlkOk X.N X.env.scope scope own)
    (hg : ∀ s H C cl fp, PG (Bk X scope s H C cl fp) tg g) (ht : ∀ s H C cl fp, PTs (Bk X scope s H C cl fp) ifs tt)
    (hk : ∀ s H C cl fp, PE (Bk X scope s H C cl fp) kx tk) (he : ∀ s H C cl fp, PE (Bk X scope s H C cl fp) vx tv) (hs : ∀ x, foldedSetIterable iter X.env x = pure x := by intro _; rfl) :
    PE X (.DictComp kx vx [⟨tg, iter, ifs, 0⟩] scope pos) (tDcT wi g tt (tPut tk tv) (own.map (·.2))) := by
  refine ⟨fun pins s σ H Q I h => ?_⟩
  rw [arm_eval_DictComp]
  refine dT_core (fun env it D => dc1_in) hc hN I hi ok hg ht (fun s H C cl fp it D pins' s' σ' H' N I' hw ht => ?_) hs h fun D C s' m H' I' q hn f => ⟨m, hn, fun h'' sb => ?_⟩
  · exact put_run (Y := Bk X scope s H C cl fp) hu (fun _ _ z => z) (hk s H C cl fp) (he s H C cl fp) I' ht fun s4 H4 I4 n4 => ⟨H4, I4.weak (by rw [← hw, wipe_length]) (fun j v e => by rw [← hw] at e; exact (wipe_some e).1), n4⟩
  · obtain ⟨f0, f1, f2, f3, f4, f5⟩ := f
    exact ⟨.ref D, H', I'.turned (t' := s'.toks) (fun b o hb e => (sb.2 b hb).trans e) f0 f1 f3 f4 f5, rfl, q⟩
end
end Bf
/-! The mirror layer: what dict comprehensions with tuples as keys compute. -/
namespace Bf
open PySem PySem.Spec PyProof.Rows L2
/-- a tuple's items as a key -/
def keysD : List D → Option (List Key)
  | [] => some []
  | .int i :: r => (keysD r).map (Sum.inl i :: ·)
  | .str x :: r => (keysD r).map (Sum.inr x :: ·)
  | _ => none
def keyS : SV → Option (List Key)
  | .d (.tup xs) => keysD xs
  | _ => none
def putD (kvs : List (List D × D)) (k : List Key) (d : D) : List (List D × D) :=
  if (kvs.any fun p => decide (keysD p.1 = some k)) = true then kvs.map (fun p => if keysD p.1 = some k then (p.1, d) else p) else kvs ++ [(k.map keyD, d)]
theorem keysD_map : ∀ k : List Key, keysD (k.map keyD) = some k
  | [] => rfl
  | .inl i :: r => by rw [List.map_cons, keyD, keysD, keysD_map r]; rfl
  | .inr x :: r => by rw [List.map_cons, keyD, keysD, keysD_map r]; rfl
def dcGo (it : It') (n : Nat) (own : List Nat) (g : MG) (t : MT) (ek ev : ME) : Nat → Nat → PS → R Unit
  | 0, i, s => match it.at s i with
    | some none => .ok () s
    | _ => .stuck
  | f + 1, i, s => match it.at s i with
    | some (some x) => (g (.d x) s).nox.bind fun _ s => (t s).nox.bind fun c s => if c = true then
        (ek s).nox.bind fun y s => (ev s).nox.bind fun z s => match keyS y with
          | some ky => match frz s z with
            | some (z, s) => match s.w[n]? with
              | some (.dit acc) => if acc.length < sizeLine then match trunc (n + 1) { s with w := s.w.set n (.dit (putD acc ky z)) } with
                  | some s => dcGo it n own g t ek ev f (i + 1) { s with g := wipeG own s.g }
                  | none => .stuck
                else .stuck
              | _ => .stuck
            | none => .stuck
          | none => .stuck
      else match trunc (n + 1) s with
        | some s => dcGo it n own g t ek ev f (i + 1) { s with g := wipeG own s.g }
        | none => .stuck
    | some none => .ok () s
    | none => .stuck
/-- {k: v for .. if ..}, a cell -/
def vDcN (it : MI) (own : List Nat) (g : MG) (t : MT) (ek ev : ME) : ME := fun s => (it s).bind fun it s =>
  (dcGo it s.w.length own g t ek ev (it.fuel s) 0 { g := wipeG own s.g, w := s.w ++ [.dit []] }).bind fun _ s' => .ok (.cell s.w.length) { s' with g := backG own s.g s'.g }
section
variable {K : PySem.W.Frag} {CT : Ctx} {F : Hp} {as : List Addr} {H : Hp} {σ : Sto} {s : PS}
/-- a new cell at p -/
theorem Env.newT (n : Env K CT F as H σ s) {p : Addr} {vs : List (List Key × V)} {xs : List (List D × D)} (hp : H p = none) (r : RepT K CT F vs xs) :
    Ext F as F (as ++ [p]) ∧ Env K CT F (as ++ [p]) (upd H p (.dT vs)) σ { s with w := s.w ++ [.dit xs] } := by
  obtain ⟨fp, pa⟩ := n.free hp
  have e : Ext F as F (as ++ [p]) := ⟨Sub.refl F, [p], rfl⟩
  refine ⟨e, ⟨fun a u h => ?_, ⟨by simp [n.wk.len], List.nodup_append.mpr ⟨n.wk.nd, by simp, fun a m b mb => ?_⟩, n.wk.tb.newC hp noTab_dT.1, fun a m => ?_, fun k c a h1 h2 => ?_⟩, n.gl, fun i x h => ?_⟩⟩
  · have ha : a ≠ p := fun z => by rw [z, fp] at h; cases h
    rw [upd_ne ha]
    exact n.sub a u h
  · rw [List.mem_singleton] at mb
    subst mb
    exact fun z => pa (z ▸ m)
  · by_cases ha : a = p
    · rw [ha, upd_same]; simp
    · rw [upd_ne ha]
      rcases List.mem_append.mp m with m | m
      · exact n.live m
      · exact absurd (List.mem_singleton.mp m) ha
  · have h1 : (s.w ++ [Cell.dit xs])[k]? = some c := h1
    by_cases hk : k < as.length
    · rw [List.getElem?_append_left hk] at h2
      rw [List.getElem?_append_left (by rw [n.wk.len]; exact hk)] at h1
      have ha : a ≠ p := fun z => pa (z ▸ List.mem_of_getElem? h2)
      have q := n.wk.ok k c a h1 h2
      rcases q.none with z | z
      · subst z; trivial
      · exact q.mono e z (upd_ne ha)
    · rw [List.getElem?_append_right (by omega)] at h2
      rw [List.getElem?_append_right (by rw [n.wk.len]; omega)] at h1
      rw [n.wk.len] at h1
      cases j : k - as.length with
      | zero =>
        rw [j] at h1 h2
        simp at h1 h2
        subst h1 h2
        exact ⟨fp, vs, upd_same, r⟩
      | succ m => rw [j] at h2; simp at h2
  · obtain ⟨v, h1, h2⟩ := n.sl i x h
    exact ⟨v, h1, h2.mono e⟩
/-- the cell k is changed -/
theorem Env.setT (n : Env K CT F as H σ s) {k : Nat} {a : Addr} {xs : List (List D × D)} {ws : List (List Key × V)} {ys : List (List D × D)} (h : s.w[k]? = some (.dit xs)) (ha : as[k]? = some a) (hf : F a = none) (r : RepT K CT F ws ys) :
    Env K CT F as (upd H a (.dT ws)) σ { s with w := s.w.set k (.dit ys) } := by
  obtain ⟨a', vs', ha', _, hh', _⟩ := n.cellT h
  rw [ha] at ha'
  cases ha'
  refine ⟨fun b u hb => ?_, ⟨by simp [n.wk.len], n.wk.nd, n.wk.tb.set hh' noTab_dT noTab_dT.1, fun b m => ?_, fun j c b h1 h2 => ?_⟩, n.gl, n.sl⟩
  · have hab : b ≠ a := fun z => by rw [z, hf] at hb; cases hb
    rw [upd_ne hab]
    exact n.sub b u hb
  · by_cases hb : b = a
    · rw [hb, upd_same]; simp
    · rw [upd_ne hb]
      exact n.live m
  · have h1 : (s.w.set k (Cell.dit ys))[j]? = some c := h1
    by_cases hj : j = k
    · subst hj
      rw [List.getElem?_set_self (by rw [n.wk.len]; exact (List.getElem?_eq_some_iff.mp h2).1)] at h1
      cases h1
      rw [ha] at h2
      cases h2
      exact ⟨hf, ws, upd_same, r⟩
    · rw [List.getElem?_set_ne (Ne.symm hj)] at h1
      have hb : b ≠ a := fun z => hj (nodup_at n.wk.nd (z ▸ h2) ha)
      have q := n.wk.ok j c b h1 h2
      rcases q.none with z | z
      · subst z; trivial
      · exact q.mono .refl z (upd_ne hb)
theorem reps_keys : ∀ {xs : List D} {vs : List V} {k : List Key}, Reps K CT F vs xs → keysD xs = some k → vs = k.map kV
  | [], _, k, r, e => by
    cases r
    cases e
    rfl
  | x :: xs, _, k, r, e => by
    cases r with
    | cons r1 r2 =>
      cases x with
      | int i =>
        cases r1
        unfold keysD at e
        cases q : keysD xs with
        | none => rw [q] at e; cases e
        | some k' =>
          rw [q] at e
          cases e
          rw [reps_keys r2 q]
          rfl
      | str y =>
        cases r1
        unfold keysD at e
        cases q : keysD xs with
        | none => rw [q] at e; cases e
        | some k' =>
          rw [q] at e
          cases e
          rw [reps_keys r2 q]
          rfl
      | _ => unfold keysD at e; cases e
theorem keyS_rep {v : V} {y : SV} {k : List Key} (e : keyS y = some k) (r : RepS K CT F as v y) : ∃ b, v = .ref b ∧ F b = some (.tup (k.map kV)) := by
  cases y with
  | cell n => cases e
  | d x =>
    cases x with
    | tup xs =>
      have r : Rep K CT F v (.tup xs) := r
      cases r with
      | tup h1 h2 => exact ⟨_, rfl, by rw [← reps_keys h2 e]; exact h1⟩
    | _ => cases e
theorem RepT.length : ∀ {vs : List (List Key × V)} {ds : List (List D × D)}, RepT K CT F vs ds → vs.length = ds.length
  | _, [], r => by cases r; rfl
  | _, _ :: ds, r => by
    cases r with
    | cons r1 r2 => rw [List.length_cons, List.length_cons, RepT.length r2]
theorem RepT.snoc {k : List Key} {v : V} {d : D} (h : Rep K CT F v d) : ∀ {vs : List (List Key × V)} {ds : List (List D × D)}, RepT K CT F vs ds → RepT K CT F (vs ++ [(k, v)]) (ds ++ [(k.map keyD, d)])
  | _, [], r => by cases r; exact .cons h .nil
  | _, _ :: ds, r => by
    cases r with
    | cons r1 r2 => exact .cons r1 (RepT.snoc h r2)
theorem RepT.any {k : List Key} : ∀ {vs : List (List Key × V)} {ds : List (List D × D)}, RepT K CT F vs ds → (vs.any fun p => decide (p.1 = k)) = ds.any fun p => decide (keysD p.1 = some k)
  | _, [], r => by cases r; rfl
  | _, _ :: ds, r => by
    cases r with
    | cons r1 r2 =>
      rw [List.any_cons, List.any_cons, RepT.any r2]
      simp only [keysD_map, Option.some.injEq]
theorem RepT.repl {k : List Key} {v : V} {d : D} (h : Rep K CT F v d) : ∀ {vs : List (List Key × V)} {ds : List (List D × D)}, RepT K CT F vs ds → RepT K CT F (vs.map fun p => if p.1 = k then (p.1, v) else p) (ds.map fun p => if keysD p.1 = some k then (p.1, d) else p)
  | _, [], r => by cases r; exact .nil
  | _, _ :: ds, r => by
    cases r with
    | @cons k' v' d' vs' _ r1 r2 =>
      rw [List.map_cons, List.map_cons]
      simp only [keysD_map, Option.some.injEq]
      by_cases e : k' = k
      · rw [if_pos e, if_pos e]; exact .cons h (RepT.repl h r2)
      · rw [if_neg e, if_neg e]; exact .cons r1 (RepT.repl h r2)
theorem RepT.put {k : List Key} {v : V} {d : D} {vs : List (List Key × V)} {ds : List (List D × D)} (r : RepT K CT F vs ds) (h : Rep K CT F v d) : RepT K CT F (putK vs k v) (putD ds k d) := by
  unfold putK putD
  rw [r.any]
  split
  · exact r.repl h
  · exact r.snoc h
end
section
variable {X : Cx} {CT : Ctx} {E : Sto → XK}
/-- a comprehension's loop, whatever follows it -/
theorem dcGo_walk {β : Type} {own : List Nat} {it : It'} {J : It} {g : MG} {t : MT} {ek ev : ME} {k : Nat} {D : Addr} {as1 : List Addr} {F1 F0 : Hp} {σ : Sto} {κ : PS → R β} {Qf : β → PS → Hp → List Addr → Sto → Hp → Prop} {okσ : Sto → Prop} {P : Nat → Nat → Hp → Prop}
    (hP : P = fun i m H => ∃ F s, Sub F0 F ∧ Env X.K CT F (as1 ++ [D]) H (L2.wipe σ own) s ∧ Out X.K CT okσ E F1 as1 ((dcGo it k own g t ek ev m i s).bind fun _ s' => κ s') Qf)
    (hk' : as1.length = k) (hF : Sub F1 F0) (r1 : ItOk X.K CT F0 (as1 ++ [D]) J it) (stopQ : Hp → Prop)
    (hstop : ∀ F s H, Sub F0 F → Env X.K CT F (as1 ++ [D]) H (L2.wipe σ own) s → Out X.K CT okσ E F1 as1 (κ s) Qf → stopQ H) :
    ∀ i m H, P i m H → (J.stop i H ∧ stopQ H) ∨ (J.go i H ∧ ∃ Nx : Hp → Prop, (∀ H', Nx H' → ∃ m', m' < m ∧ P (i + 1) m' H') ∧ ∀ x H', J.yld i H x H' → upG X.K CT (fun σ => L2.wipe σ own) EF g x (L2.wipe σ own) H' fun σ2 H2 => L2.wipe σ2 own = L2.wipe σ own ∧ upT X.K CT EF t σ2 H2 fun b H3 =>
      if b = true then tPut (up X.K CT EF ek) (up X.K CT EF ev) D σ2 H3 Nx else Nx H3) := by
  subst hP
  rintro i m H ⟨F, s, eF, n, h⟩
  have eD : Ext F1 as1 F (as1 ++ [D]) := ⟨hF.trans eF, [D], rfl⟩
  have r := r1.mono (Ext.sub eF)
  let P : Nat → Nat → Hp → Prop := fun i m H => ∃ F s, Sub F0 F ∧ Env X.K CT F (as1 ++ [D]) H (L2.wipe σ own) s ∧ Out X.K CT okσ E F1 as1 ((dcGo it k own g t ek ev m i s).bind fun _ s' => κ s') Qf
  have stop : it.at s i = some none → dcGo it k own g t ek ev m i s = .ok () s → (J.stop i H ∧ stopQ H) := fun q hq => by
    rw [hq] at h
    exact ⟨It'.stop n r q, hstop F s H eF n h⟩
  cases q : it.at s i with
  | none => cases m <;> (unfold dcGo at h; simp only [q] at h; exact h.elim)
  | some o =>
    cases o with
    | none =>
      refine .inl ?_
      cases m with
      | zero => exact stop q (by unfold dcGo; simp only [q])
      | succ m => exact stop q (by unfold dcGo; simp only [q])
    | some x =>
      cases m with
      | zero => unfold dcGo at h; simp only [q] at h; exact h.elim
      | succ m =>
        unfold dcGo at h
        simp only [q] at h
        refine .inr ⟨It'.go n r q, P (i + 1) m, fun H' z => ⟨m, Nat.lt_succ_self m, z⟩, fun v H' y => ?_⟩
        obtain ⟨F, e0, n, rv⟩ := It'.yld n r q y
        replace r := r.mono e0
        replace eF := eF.trans e0.1
        replace eD := eD.trans e0
        -- the turn's outcome is known part by part
        have ns1 := h.ns
        cases qg : g (.d x) s with
        | err => rw [qg] at h; exact h.elim
        | stuck => rw [qg] at h; exact h.elim
        | ok u s2 =>
          rw [qg, nox_ok, bind_ok] at h
          refine ⟨F, _, s, .d x, n, rv, ?_⟩
          rw [qg]
          intro F2 as2 σ2 H2 o2 e2 n2 hφ
          have w2 : L2.wipe σ2 own = L2.wipe σ own := by
            have o2 : L2.wipe σ2 own = L2.wipe (L2.wipe σ own) own := o2
            have id : ∀ (vs : List Nat), (∀ v ∈ vs, v ∈ own) → L2.wipe (L2.wipe σ own) vs = L2.wipe σ own := by
              intro vs
              induction vs with
              | nil => intro _; rfl
              | cons v vs ih =>
                intro hv
                show (L2.wipe (L2.wipe σ own) vs).set v none = _
                rw [ih fun w hw => hv w (List.mem_cons_of_mem _ hw)]
                refine List.ext_getElem? fun j => ?_
                by_cases hj : v = j
                · subst hj
                  by_cases hl : v < (L2.wipe σ own).length
                  · rw [List.getElem?_set_self hl]
                    cases z : (L2.wipe σ own)[v]? with
                    | none => rw [List.getElem?_eq_getElem hl] at z; cases z
                    | some o =>
                      cases o with
                      | none => rfl
                      | some a => exact absurd (hv v List.mem_cons_self) (wipe_some z).2
                  · rw [List.getElem?_eq_none (by simpa using hl), List.getElem?_eq_none (by simpa using hl)]
                · rw [List.getElem?_set_ne hj]
            rw [o2]
            exact id own fun _ z => z
          refine ⟨w2, ?_⟩
          cases qt : t s2 with
          | err => rw [qt] at h; exact h.elim
          | stuck => rw [qt] at h; exact h.elim
          | ok c s3 =>
            rw [qt, nox_ok, bind_ok] at h
            refine ⟨F2, as2, s2, n2, ?_⟩
            rw [qt]
            intro F3 as3 σ3 H3 o3 e3 n3
            subst o3
            have e23 : Ext F (as1 ++ [D]) F3 as3 := e2.trans e3
            have hl1 : (as1 ++ [D]).length = k + 1 := by rw [List.length_append, hk']; rfl
            cases c with
            | false =>
              simp only [Bool.false_eq_true, if_false] at h ⊢
              cases qr : trunc (k + 1) s3 with
              | none => rw [qr] at h; exact h.elim
              | some s4 =>
                simp only [qr] at h
                have n4 := n3.trunc qr
                rw [take_ext e23 hl1] at n4
                exact ⟨F3, _, eF.trans e23.1, n4.wiped w2, h⟩
            | true =>
              simp only [if_true] at h ⊢
              cases qk : ek s3 with
              | err => rw [qk] at h; exact h.elim
              | stuck => rw [qk] at h; exact h.elim
              | ok y s4 =>
              rw [qk, nox_ok, bind_ok] at h
              refine ⟨F3, as3, s3, n3, ?_⟩
              rw [qk]
              intro F4 as4 σ4 H4 o4 e4 n4 wk rk
              subst o4
              cases qe : ev s4 with
              | err => rw [qe] at h; exact h.elim
              | stuck => rw [qe] at h; exact h.elim
              | ok z s4' =>
              rw [qe, nox_ok, bind_ok] at h
              refine ⟨F4, as4, s4, n4, ?_⟩
              rw [qe]
              intro F4' as4' σ4' H4' o4' e4' n4' w rw'
              subst o4'
              cases qy : keyS y with
              | none => simp only [qy] at h; exact h.elim
              | some ky =>
              simp only [qy] at h
              cases qz : frz s4' z with
              | none => simp only [qz] at h; exact h.elim
              | some pp =>
              obtain ⟨yd, s5⟩ := pp
              simp only [qz] at h
              obtain ⟨F5, e5, q5, n5⟩ := n4'.frz rw' qz
              obtain ⟨kb, ekb, hkb⟩ := keyS_rep qy (rk.mono (e4'.trans e5))
              subst ekb
              cases qw : s5.w[k]? with
              | none => simp only [qw] at h; exact h.elim
              | some c =>
              cases c with
              | dit acc =>
                simp only [qw] at h
                by_cases hz : acc.length < sizeLine
                · simp only [hz, if_true] at h
                  have e05 : Ext F (as1 ++ [D]) F5 as4' := e23.trans (e4.trans (e4'.trans e5))
                  obtain ⟨aD, vs, ha, hf, hh, rr⟩ := n5.cellT qw
                  have hD' : as4'[k]? = some D := e05.at (by rw [← hk', List.getElem?_append_right (Nat.le_refl _)]; simp)
                  rw [hD'] at ha
                  cases ha
                  refine ⟨vs, ky, kb, rfl, n5.sub _ _ hkb, hh, by rw [rr.length]; exact hz, ?_⟩
                  have n6 := n5.setT (ws := putK vs ky w) (ys := putD acc ky yd) qw hD' hf (rr.put q5)
                  cases qr : trunc (k + 1) { s5 with w := s5.w.set k (.dit (putD acc ky yd)) } with
                  | none => rw [qr] at h; exact h.elim
                  | some s6 =>
                    simp only [qr] at h
                    have n7 := n6.trunc qr
                    rw [take_ext e05 hl1] at n7
                    exact ⟨F5, _, eF.trans e05.1, n7.wiped w2, h⟩
                · simp only [hz, if_false] at h; exact h.elim
              | _ => simp only [qw] at h; exact h.elim
/-- the reading of a dict comprehension of one clause -/
theorem dc1_read {mi : MI} {own : List Nat} {g : MG} {t : MT} {ek ev : ME} {σ : Sto} {H : Hp} {Q : VK} (h : up X.K CT E (vDcN mi own g t ek ev) σ H Q) :
    tDcT (upI X.K CT E mi) (upG X.K CT (fun σ => L2.wipe σ own) EF g) (upT X.K CT EF t) (tPut (up X.K CT EF ek) (up X.K CT EF ev)) own σ H Q := by
  obtain ⟨F, as, s, n, h⟩ := h
  refine upI_seq n h rfl fun J it s1 F1 as1 H1 e1 n1 r1 h1 => ?_
  intro D hD
  obtain ⟨eN, nN⟩ := n1.newT (p := D) (vs := []) (xs := []) hD .nil
  generalize hk : s1.w.length = k at h1
  have hk' : as1.length = k := by rw [← n1.wk.len]; exact hk
  refine ⟨_, ⟨it.fuel s1, F1, _, Sub.refl F1, nN.wipe own, h1⟩, dcGo_walk rfl hk' (Sub.refl F1) (r1.mono eN) (fun H => Q (.ref D) H) fun F s H eF n h => ?_⟩
  have eD : Ext F1 as1 F (as1 ++ [D]) := ⟨eF, [D], rfl⟩
  exact Out.there h (σ := σ) rfl eD (n.back n1 eF) _ ⟨D, by rw [← hk', List.getElem?_append_right (Nat.le_refl _)]; simp, rfl⟩
end
end Bf
/-! The mirror layer: rules for classes' texts: dict comprehensions, len, sum, isinstance, xs[i] += e, range with a step. -/
namespace Bf
open PySem PySem.Spec PyProof.Rows L2
section
variable {X : Cx} {CT : Ctx} {E : Sto → XK}
section
variable {kx vx tg iter tg1 iter1 : Expr} {ifs ifs1 : List Expr} {scope : Scope} {own : List (Str × Nat)} {own1 : List Nat} {pos : Pos} {mi i1 : MI} {g g1 : MG} {t t1 : MT} {ek ev : ME}
theorem me_dcN {k : Nat} (hr : Room k X.A) (hx : Cq X E) (hi : PI X tg iter (upI X.K CT E mi)) (ok : BlkOk X.N X.env.scope scope own)
    (hg : ∀ s H C cl fp, PG (Bk X scope s H C cl fp) tg (upG X.K CT (fun σ => L2.wipe σ (own.map (·.2))) EF g)) (ht : ∀ s H C cl fp, PTs (Bk X scope s H C cl fp) ifs (upT X.K CT EF t))
    (hk : ∀ s H C cl fp, PE (Bk X scope s H C cl fp) kx (up X.K CT EF ek)) (he : ∀ s H C cl fp, PE (Bk X scope s H C cl fp) vx (up X.K CT EF ev)) (hs : ∀ x, foldedSetIterable iter X.env x = pure x := by intro _; rfl) :
    PE X (.DictComp kx vx [⟨tg, iter, ifs, 0⟩] scope pos) (up X.K CT E (vDcN mi (own.map (·.2)) g t ek ev)) :=
  PE.imp (pe_dcT1 (by have := hr.un; omega) hx.calm hx.nd hi ok hg ht hk he hs) fun _ _ _ h => dc1_read h
end
/-! ### len, sum -/
def rSumTu (K : PySem.W.Frag) : List V → Hp → VK → Prop := fun vs H Q => ∃ (a : Addr) (ns : List Int), vs = [V.ref a] ∧ SqT K H a (ns.map V.int) ∧ Q (.int ns.sum) H
theorem call_sumTu (hc : X.calm = true) : CallR X (.builtin "sum") (rSumTu X.K) := by
  intro pins s σ H vs us Q I r h
  obtain ⟨a, ns, rfl, hs, q⟩ := h
  obtain ⟨its, rv, ⟨o, ho, hcl, n, hd⟩, _⟩ := I.tuple hs
  rw [Vals.ref1 r]
  have hi : IntsAre its ns := rv.ints
  obtain ⟨xs, hx⟩ := hi.allInts.items
  have hn : numsOf its.toArray.toList = ns := by rw [show its.toArray.toList = its from by simp, hi.numsOf]
  have hl : s.heap.IsTuple a its.toArray := ⟨o, ho, hcl, n, hd⟩
  rw [hx] at hl hn
  rw [nums_intItems] at hn
  refine PySem.W.ktm_sumG (I.ok.hd hc) hl fun h' tk t' hk => ?_
  have e : preSum (numAt xs) xs.size = ns.sum := by rw [preSum_eq, List.take_of_length_le (by simp), hn]
  rw [e]
  exact ⟨.int _, H, I.kept hk, ⟨_, rfl⟩, q⟩
def sumX : List D → Option D
  | [.tup xs] => (intsD xs).map fun ns => .int ns.sum
  | ds => sumB ds
theorem cb_sumX (hc : X.calm = true) : CallR X (.builtin "sum") (rB X.K CT sumX) := callr_imp (CallR.or (call_sumTu (X := X) hc) (cb_sum (X := X) (CT := CT) hc)) fun vs H Q h => by
  obtain ⟨F, as, σ, S, ds, z, n, r, e, f⟩ := h
  unfold sumX at e
  split at e
  · rename_i xs
    cases q : intsD xs with
    | none => rw [q] at e; cases e
    | some ns =>
      rw [q] at e
      cases e
      obtain ⟨v, rfl, rv⟩ := r.one
      obtain ⟨a, ws, rfl, q1, r1⟩ := rv.tup' n.sub
      obtain rfl := reps_ints r1 q
      exact .inl ⟨a, ns, rfl, q1, f.flat n (.int _)⟩
  · exact .inr ⟨F, as, σ, S, _, z, n, r, e, f⟩
/-! ### isinstance(x, C), x of the class -/
/-! ### xs[i] += e -/
/-! ### range with a step -/
end
/-- the address that a name of the module holds -/
def clsAt (K : PySem.W.Frag) (names : List Str) (c : Nat) : Addr := match names[c]? with
  | some x => match PySem.W.nsIn K mainGlobals x with
    | some (some (.ref a)) => a
    | _ => 0
  | none => 0
theorem clsAt_of {K : PySem.W.Frag} {names : List Str} {c : Nat} {x : Str} {a : Addr} (h : names[c]? = some x) (e : PySem.W.nsIn K mainGlobals x = some (some (.ref a))) : clsAt K names c = a := by
  unfold clsAt
  rw [h]
  dsimp only
  rw [e]
/-! ### the row, with own classes -/
theorem walk_mc {l : PySem.W.OpenLaw} {n k : Nat} {q : Program} {loose : List Str} {XP : (Str → Option Value) → Heap → Prop} {YP : World → Heap → Prop} {d : DefRec} {K : Params → PySem.W.Frag} {x : Str} {f : Fn} (names : List Str)
    (hn : l.most = some n) (hn2 : n ≤ sizeLine) (hdf : d.params.defaults = []) (hr : Room k callerA) (hY : ∀ (w : World) (h : Heap), YP w h → (K w.params).In h)
    (hf : ∀ ns : List Int, ns.length ≤ n → ∃ w, f [.d (.scr ns)] [] = .ok (.d (.bl true)) w)
    (F : ∀ (w : World) (mg : Str → Option Value) (fa : Addr) (h : Heap), (K w.params).In h → h.Ns mainGlobals mg → mg d.name = some (.ref fa) →
      ∃ fd : FuncData, (∀ (s : Shared) (u : Value), BindsTo s fd ⟨[u], []⟩ [(x, u)]) ∧ ∀ (P : Program) (w' : World) (base : Heap), FnOk P w' (K w.params) mg base (L2.CX P w') k fa fd [x] (spF (K w.params) ⟨clsAt (K w.params) names, []⟩ 1 f)) :
    PySem.W.WalkO q loose XP YP l.row.toRowW d [] (fun f vs => PySem.call f vs) :=
  L2.walk_of (CX := fun w => L2.CX l.prog w) (sp := fun w => spF (K w.params) ⟨clsAt (K w.params) names, []⟩ 1 f) hn hn2 hdf hr hY (fun w mg fa h KX G hm => (F w mg fa h KX G hm).imp fun fd z => ⟨z.1, fun base _ _ => z.2 l.prog w base⟩)
    (fun w H a ns hl _ hS => law_sp hf hl hS fun _ m => by cases m) (fun w H s e s' h => cx_none H s e s' h)
end Bf
/-! The mirror layer: comprehensions without trace, of two clauses, of dicts; fields. -/
namespace Bf
open PySem PySem.Spec PyProof.Rows L2
theorem wipeG_one {j : Nat} {g : List (Option SV)} (h : g[j]? = some none) : wipeG [j] g = g := by
  show g.set j none = g
  refine List.ext_getElem? fun k => ?_
  by_cases hj : j = k
  · subst hj
    rw [h, List.getElem?_set_self (List.getElem?_eq_some_iff.mp h).1]
  · rw [List.getElem?_set_ne hj]
theorem wipeG_set {j : Nat} {x : Option SV} {g : List (Option SV)} (h : g[j]? = some none) : wipeG [j] (g.set j x) = g := by
  show (g.set j x).set j none = g
  rw [List.set_set]
  exact wipeG_one h
theorem wipeG_two {i j : Nat} {x : Option SV} {g : List (Option SV)} (h : g[i]? = some none) (hj : g[j]? = some none) (hij : i ≠ j) : wipeG [i, j] (g.set i x) = g := by
  show ((g.set i x).set j none).set i none = g
  rw [List.set_comm _ _ hij, List.set_set]
  rw [show g.set j none = g from wipeG_one hj]
  exact wipeG_one h
theorem back_two {i j : Nat} {g : List (Option SV)} (h : g[i]? = some none) (hj : g[j]? = some none) : backG [i, j] g g = g := by
  have e : backG [i, j] g g = (g.set j none).set i none := by
    show (g.set j (match g[j]? with
      | some (some (.d x)) => some (.d x)
      | _ => none)).set i (match g[i]? with
      | some (some (.d x)) => some (.d x)
      | _ => none) = _
    rw [h, hj]
  rw [e, show g.set j none = g from wipeG_one hj]
  exact wipeG_one h
theorem back_one {i : Nat} {g : List (Option SV)} (h : g[i]? = some none) : backG [i] g g = g := by
  have e : backG [i] g g = g.set i none := by
    show g.set i (match g[i]? with
      | some (some (.d x)) => some (.d x)
      | _ => none) = _
    rw [h]
  rw [e]
  exact wipeG_one h
theorem getset_ne {i j : Nat} {x : Option SV} {g : List (Option SV)} (hj : g[j]? = some none) (hij : i ≠ j) : (g.set i x)[j]? = some none := by
  rw [List.getElem?_set_ne hij]
  exact hj
/-- the loop of a clause of a list comprehension, its list whatever it is -/
theorem T_lcIn {it : It'} {ys : List D} {j : Nat} {g0 : List (Option SV)} {w : List Cell} {e : ME} {f : D → D} (hl : it.list = some ys) (hj : g0[j]? = some none) (hg : Slots w.length g0) (hw : Flat w)
    (step : ∀ y ∈ ys, ∀ v, Flat v → T (e ⟨g0.set j (some (.d y)), w ++ v⟩) fun z s => z = .d (f y) ∧ s = ⟨g0.set j (some (.d y)), w ++ v⟩) :
    ∀ (m i : Nat) (acc : List D), i + m = ys.length → acc.length + m ≤ sizeLine → T (lcGo it w.length [j] (hName j) cYes e m i ⟨g0, w ++ [.lst acc]⟩) fun _ s => s = ⟨g0, w ++ [.lst (acc ++ (ys.drop i).map f)]⟩ := by
  intro m
  induction m with
  | zero =>
    intro i acc hi hz
    unfold lcGo
    rw [It'.at_list hl, List.getElem?_eq_none (by omega)]
    simp only [T_ok]
    rw [List.drop_of_length_le (by omega)]
    simp
  | succ m ih =>
    intro i acc hi hz
    unfold lcGo
    have hlt : i < ys.length := by omega
    rw [It'.at_list hl, List.getElem?_eq_getElem hlt]
    have hil : j < g0.length := (List.getElem?_eq_some_iff.mp hj).1
    simp only [T_bind, T_nox, T_name, cYes, T_ok, if_true]
    refine ⟨hil, ?_⟩
    refine (step _ (List.getElem_mem hlt) [.lst acc] (by simp)).imp fun z s ⟨e1, e2⟩ => ?_
    subst e1 e2
    simp only [frz]
    have e3 : (w ++ [Cell.lst acc])[w.length]? = some (.lst acc) := by simp
    simp only [e3]
    rw [if_pos (by omega)]
    have e4 : trunc (w.length + 1) { g := g0.set j (some (SV.d ys[i])), w := (w ++ [Cell.lst acc]).set w.length (.lst (acc ++ [f ys[i]])) } = some ⟨g0.set j (some (SV.d ys[i])), w ++ [.lst (acc ++ [f ys[i]])]⟩ := by
      rw [Flat.trunc (by simp [hw, Flat.set])]
      simp only [(hg.set).drop (Nat.le_succ _)]
      rw [List.take_of_length_le (by simp)]
      simp
    simp only [e4]
    rw [wipeG_set hj]
    refine (ih (i + 1) (acc ++ [f ys[i]]) (by omega) (by simp; omega)).imp fun _ s e => ?_
    rw [e, List.drop_eq_getElem_cons hlt, List.map_cons, List.append_assoc]
    rfl
/-- .. of two clauses -/
theorem T_lc2Go {it : It'} {xs : List D} {i j : Nat} {g0 : List (Option SV)} {w : List Cell} {i1 : MI} {e : ME} {ys : D → List D} {f : D → D → D} (hl : it.list = some xs) (hi : g0[i]? = some none) (hj : g0[j]? = some none) (hij : i ≠ j) (hg : Slots w.length g0) (hw : Flat w)
    (inner : ∀ x ∈ xs, ∀ v, Flat v → T (i1 ⟨g0.set i (some (.d x)), w ++ v⟩) fun it1 s => it1.list = some (ys x) ∧ isFix it1 = true ∧ s = ⟨g0.set i (some (.d x)), w ++ v⟩)
    (step : ∀ x ∈ xs, ∀ y ∈ ys x, ∀ v, Flat v → T (e ⟨(g0.set i (some (.d x))).set j (some (.d y)), w ++ v⟩) fun z s => z = .d (f x y) ∧ s = ⟨(g0.set i (some (.d x))).set j (some (.d y)), w ++ v⟩) :
    ∀ (m p : Nat) (acc : List D), p + m = xs.length → acc.length + ((xs.drop p).flatMap fun x => (ys x).map (f x)).length ≤ sizeLine → T (lc2Go it w.length [i, j] (hName i) cYes i1 [j] (hName j) cYes e m p ⟨g0, w ++ [.lst acc]⟩) fun _ s => s = ⟨g0, w ++ [.lst (acc ++ (xs.drop p).flatMap fun x => (ys x).map (f x))]⟩ := by
  intro m
  induction m with
  | zero =>
    intro p acc hp hz
    unfold lc2Go
    rw [It'.at_list hl, List.getElem?_eq_none (by omega)]
    simp only [T_ok]
    rw [List.drop_of_length_le (by omega)]
    simp
  | succ m ih =>
    intro p acc hp hz
    unfold lc2Go
    have hlt : p < xs.length := by omega
    rw [It'.at_list hl, List.getElem?_eq_getElem hlt]
    have hil : i < g0.length := (List.getElem?_eq_some_iff.mp hi).1
    have hx := List.getElem_mem hlt
    rw [List.drop_eq_getElem_cons hlt, List.flatMap_cons] at hz ⊢
    generalize xs[p] = x at *
    simp only [T_bind, T_nox, T_name, cYes, T_ok, if_true]
    refine ⟨hil, ?_⟩
    refine (inner x hx [.lst acc] (by simp)).imp fun it1 s ⟨e1, e2, e3⟩ => ?_
    subst e3
    rw [if_pos e2]
    have e4 : trunc (w.length + 1) { g := g0.set i (some (SV.d x)), w := w ++ [Cell.lst acc] } = some ⟨g0.set i (some (SV.d x)), w ++ [.lst acc]⟩ := by
      rw [Flat.trunc (by simp [hw])]
      simp only [(hg.set).drop (Nat.le_succ _)]
      rw [List.take_of_length_le (by simp)]
    simp only [e4, T_bind]
    have hj' := getset_ne (x := some (SV.d x)) hj hij
    rw [wipeG_one hj', It'.fuel_list e1]
    rw [List.length_append, List.length_map] at hz
    refine (T_lcIn e1 hj' hg.set hw (step x hx) (ys x).length 0 acc (by simp) (by omega)).imp fun _ s e5 => ?_
    subst e5
    rw [wipeG_two hi hj hij, List.drop_zero]
    refine (ih (p + 1) (acc ++ (ys x).map (f x)) (by omega) (by rw [List.length_append, List.length_map]; omega)).imp fun _ s e => ?_
    rw [e, List.append_assoc]
theorem T_flc2 {it : It'} {xs : List D} {i j : Nat} {g0 : List (Option SV)} {w : List Cell} {mi i1 : MI} {e : ME} {ys : D → List D} {f : D → D → D} {Q : D → PS → Prop} (hit : T (mi ⟨g0, w⟩) fun j s => j = it ∧ s = ⟨g0, w⟩) (hl : it.list = some xs) (hi : g0[i]? = some none) (hj : g0[j]? = some none) (hij : i ≠ j) (hg : Slots w.length g0) (hw : Flat w)
    (inner : ∀ x ∈ xs, ∀ v, Flat v → T (i1 ⟨g0.set i (some (.d x)), w ++ v⟩) fun it1 s => it1.list = some (ys x) ∧ isFix it1 = true ∧ s = ⟨g0.set i (some (.d x)), w ++ v⟩)
    (step : ∀ x ∈ xs, ∀ y ∈ ys x, ∀ v, Flat v → T (e ⟨(g0.set i (some (.d x))).set j (some (.d y)), w ++ v⟩) fun z s => z = .d (f x y) ∧ s = ⟨(g0.set i (some (.d x))).set j (some (.d y)), w ++ v⟩)
    (hz : (xs.flatMap fun x => (ys x).map (f x)).length ≤ sizeLine) (q : Q (.lst (xs.flatMap fun x => (ys x).map (f x))) ⟨g0, w ++ [.gone]⟩) :
    T (vLc2N mi [i, j] (hName i) cYes i1 [j] (hName j) cYes e ⟨g0, w⟩) fun x s => OP (frz s x) fun y s => Q y s := by
  unfold vLc2N
  simp only [T_bind, T_ok]
  refine hit.imp fun it' s ⟨e1, e2⟩ => ?_
  subst e1 e2
  dsimp only
  have wg : wipeG [i, j] g0 = g0 := by
    have := wipeG_two (x := none) hi hj hij
    rwa [show g0.set i none = g0 from wipeG_one hi] at this
  rw [wg, It'.fuel_list hl]
  refine (T_lc2Go hl hi hj hij hg hw inner step xs.length 0 [] (by simp) (by simpa using hz)).imp fun _ s e => ?_
  subst e
  dsimp only
  rw [back_two hi hj, frz_last hg]
  simpa using q
/-! ### dicts -/
def putAll (acc : List (List D × D)) (l : List (List Key × D)) : List (List D × D) := l.foldl (fun a p => putD a p.1 p.2) acc
theorem putD_len (acc : List (List D × D)) (k : List Key) (d : D) : (putD acc k d).length ≤ acc.length + 1 := by
  unfold putD
  split <;> simp
theorem T_dcIn {it : It'} {ys : List D} {j : Nat} {g0 : List (Option SV)} {w : List Cell} {ek ev : ME} {key : D → List Key} {val : D → D} (hl : it.list = some ys) (hj : g0[j]? = some none) (hg : Slots w.length g0) (hw : Flat w)
    (step : ∀ y ∈ ys, ∀ v, Flat v → T (ek ⟨g0.set j (some (.d y)), w ++ v⟩) fun z s => z = .d (.tup ((key y).map keyD)) ∧ s = ⟨g0.set j (some (.d y)), w ++ v⟩ ∧ T (ev s) fun z s' => z = .d (val y) ∧ s' = s) :
    ∀ (m i : Nat) (acc : List (List D × D)), i + m = ys.length → acc.length + m ≤ sizeLine → T (dcGo it w.length [j] (hName j) cYes ek ev m i ⟨g0, w ++ [.dit acc]⟩) fun _ s => s = ⟨g0, w ++ [.dit (putAll acc ((ys.drop i).map fun y => (key y, val y)))]⟩ := by
  intro m
  induction m with
  | zero =>
    intro i acc hi hz
    unfold dcGo
    rw [It'.at_list hl, List.getElem?_eq_none (by omega)]
    simp only [T_ok]
    rw [List.drop_of_length_le (by omega)]
    rfl
  | succ m ih =>
    intro i acc hi hz
    unfold dcGo
    have hlt : i < ys.length := by omega
    rw [It'.at_list hl, List.getElem?_eq_getElem hlt]
    have hil : j < g0.length := (List.getElem?_eq_some_iff.mp hj).1
    have hy := List.getElem_mem hlt
    rw [List.drop_eq_getElem_cons hlt]
    generalize ys[i] = y at *
    simp only [T_bind, T_nox, T_name, cYes, T_ok, if_true]
    refine ⟨hil, ?_⟩
    refine (step _ hy [.dit acc] (by simp [Flat, flatC])).imp fun z s ⟨e1, e2, h2⟩ => ?_
    subst e1 e2
    refine h2.imp fun z s ⟨e1, e2⟩ => ?_
    subst e1 e2
    have ek' : keyS (.d (.tup ((key y).map keyD))) = some (key y) := keysD_map _
    simp only [ek', frz]
    have e3 : (w ++ [Cell.dit acc])[w.length]? = some (.dit acc) := by simp
    simp only [e3]
    rw [if_pos (by omega)]
    have e4 : trunc (w.length + 1) { g := g0.set j (some (SV.d y)), w := (w ++ [Cell.dit acc]).set w.length (.dit (putD acc (key y) (val y))) } = some ⟨g0.set j (some (SV.d y)), w ++ [.dit (putD acc (key y) (val y))]⟩ := by
      rw [Flat.trunc (Flat.set (hw.append (Flat.one rfl)) rfl)]
      simp only [(hg.set).drop (Nat.le_succ _)]
      rw [List.take_of_length_le (by simp)]
      simp
    simp only [e4]
    rw [wipeG_set hj]
    have hlen := putD_len acc (key y) (val y)
    exact ih (i + 1) (putD acc (key y) (val y)) (by omega) (by omega)
theorem frz_lastT {g : List (Option SV)} {w : List Cell} {ys : List (List D × D)} (h : Slots w.length g) : frz ⟨g, w ++ [.dit ys]⟩ (.cell w.length) = some (.dit ys, ⟨g, w ++ [.gone]⟩) := by
  unfold frz
  simp [h.sub]
theorem T_fdc {it : It'} {ys : List D} {j : Nat} {g0 : List (Option SV)} {w : List Cell} {mi : MI} {ek ev : ME} {key : D → List Key} {val : D → D} {Q : D → PS → Prop} (hit : T (mi ⟨g0, w⟩) fun j s => j = it ∧ s = ⟨g0, w⟩) (hl : it.list = some ys) (hj : g0[j]? = some none) (hg : Slots w.length g0) (hw : Flat w)
    (step : ∀ y ∈ ys, ∀ v, Flat v → T (ek ⟨g0.set j (some (.d y)), w ++ v⟩) fun z s => z = .d (.tup ((key y).map keyD)) ∧ s = ⟨g0.set j (some (.d y)), w ++ v⟩ ∧ T (ev s) fun z s' => z = .d (val y) ∧ s' = s)
    (hz : ys.length ≤ sizeLine) (q : Q (.dit (putAll [] (ys.map fun y => (key y, val y)))) ⟨g0, w ++ [.gone]⟩) :
    T (vDcN mi [j] (hName j) cYes ek ev ⟨g0, w⟩) fun x s => OP (frz s x) fun y s => Q y s := by
  unfold vDcN
  simp only [T_bind, T_ok]
  refine hit.imp fun it' s ⟨e1, e2⟩ => ?_
  subst e1 e2
  dsimp only
  rw [wipeG_one hj, It'.fuel_list hl]
  refine (T_dcIn hl hj hg hw step ys.length 0 [] (by simp) (by simpa using hz)).imp fun _ s e => ?_
  subst e
  dsimp only
  rw [back_one hj, frz_lastT hg, List.drop_zero]
  exact q
/-! ### fields -/
theorem T_fldA {cs : List Nat} {f : Str} {o a : ME} {s : PS} {Q : Fl → PS → Prop} (h : T (a s) fun y s => OP (frz s y) fun d s => T (o s) fun x s => ∃ k c fs, x = .cell k ∧ s.w[k]? = some (.ins c fs) ∧ c ∈ cs ∧ fs.length < 1000 ∧ Q .nx { s with w := s.w.set k (.ins c (putS f (.d d) fs)) }) : T (sFldA cs f o a s) Q := by
  unfold sFldA
  rw [T_bind]
  refine h.imp fun y s h => ?_
  cases q : frz s y with
  | none => rw [q] at h; exact h.elim
  | some p =>
    rw [q] at h
    obtain ⟨d, s1⟩ := p
    dsimp only
    rw [T_bind]
    refine T.imp h fun x s2 ⟨k, c, fs, e1, e2, e3, e4, e5⟩ => ?_
    subst e1
    simp only [e2]
    rw [if_pos ⟨e3, e4⟩]
    exact T_ok.mpr e5
theorem T_fld {cs : List Nat} {f : Str} {a : ME} {s : PS} {Q : SV → PS → Prop} : T (vFld cs f a s) Q ↔ T (a s) fun x s => OD (fldOf cs f s x) fun y => Q y s := by
  unfold vFld
  rw [T_bind]
  refine iff_of_eq (congrArg (T _) (funext fun x => funext fun s => propext ?_))
  exact T_of
/-! ### instances made -/
theorem T_runF {f : Fn} {xs : List SV} {s : PS} {Q : SV → PS → Prop} : T (runF f xs s) Q ↔ FT f xs s.w fun x w => Q x { s with w := w } := by
  unfold runF FT
  cases f xs s.w <;> simp
theorem FT_star {n : Nat} {f : Fn} {xs : List SV} {ds : List D} {w : List Cell} {Q : SV → List Cell → Prop} (hn : n ≤ xs.length) (hd : datS (xs.drop n) = some ds) (hz : ds.length ≤ sizeLine) (h : FT f (xs.take n ++ [.d (.tup ds)]) w Q) : FT (starF n f) xs w Q := by
  unfold FT starF at *
  rw [if_pos hn]
  simp only [hd]
  rw [if_pos hz]
  exact h
theorem FT_len {n : Nat} {f : Fn} {xs : List SV} {w : List Cell} {Q : SV → List Cell → Prop} (hn : xs.length = n) (h : FT f xs w Q) : FT (lenF n f) xs w Q := by
  unfold FT lenF at *
  rw [if_pos hn]
  exact h
theorem datS_d : ∀ ds : List D, datS (ds.map .d) = some ds
  | [] => rfl
  | d :: ds => by rw [List.map_cons, datS, datS_d ds]
theorem datF_d : ∀ fs : List (Str × D), datF (fs.map fun p => (p.1, .d p.2)) = some fs
  | [] => rfl
  | (f, d) :: fs => by rw [List.map_cons, datF, datF_d fs]; rfl
theorem T_mk {c : Nat} {f : Fn} {callee : ME} {args : MA} {s : PS} {Q : SV → PS → Prop} (h : T (callee s) fun x s => x = .d (.cls c) ∧ T (args s) fun xs s => FT f (.cell s.w.length :: xs) (s.w ++ [.ins c []]) fun y w' => y = .d .non ∧ T (frzI c s.w.length { s with w := w' }) Q) : T (vMk c f callee args s) Q := by
  unfold vMk
  rw [T_bind]
  refine h.imp fun x s ⟨e, h⟩ => ?_
  subst e
  dsimp only
  rw [if_pos rfl, T_bind]
  refine h.imp fun xs s h => ?_
  rw [T_bind, T_runF]
  refine h.imp fun y w' ⟨e, h⟩ => ?_
  subst e
  exact h
theorem T_cm {c : Nat} {f : Fn} {callee : ME} {args : MA} {s : PS} {Q : SV → PS → Prop} (h : T (callee s) fun x s => x = .d (.cls c) ∧ T (args s) fun xs s => FT f (.d (.cls c) :: xs) s.w fun y w' => Q y { s with w := w' }) : T (vCM c f callee args s) Q := by
  unfold vCM
  rw [T_bind]
  refine h.imp fun x s ⟨e, h⟩ => ?_
  subst e
  dsimp only
  rw [if_pos rfl, T_bind]
  refine h.imp fun xs s h => ?_
  rw [T_runF]
  exact h
theorem T_star {a : ME} {r : MA} {s : PS} {Q : List SV → PS → Prop} (h : T (a s) fun x s => ∃ ds, (rd s x = some (.tup ds) ∨ rd s x = some (.lst ds)) ∧ T (r s) fun ys s => Q (ds.map .d ++ ys) s) : T (aStar a r s) Q := by
  unfold aStar
  rw [T_bind]
  refine h.imp fun x s ⟨ds, h, q⟩ => ?_
  rcases h with h | h <;> simp only [h, T_bind] <;> exact q.imp fun ys s z => T_ok.mpr z
theorem T_frzI {c k : Nat} {s : PS} {fs : List (Str × SV)} {gs : List (Str × D)} {Q : SV → PS → Prop} (h : s.w[k]? = some (.ins c fs)) (hg : datF fs = some gs) (q : Q (.d (.ins c gs)) { g := s.g.map (subG k (.ins c gs)), w := s.w.set k .gone }) : T (frzI c k s) Q := by
  unfold frzI
  simp only [h, hg, if_true]
  exact T_ok.mpr q
end Bf
/-! The mirror layer: methods, properties, == of own classes. -/
namespace Bf
open PySem PySem.Spec PyProof.Rows L2
section
variable {X : Cx} {CT : Ctx} {E0 : XK} {E : Sto → XK} {e o a b : Expr} {es : List Expr} {mo ma mb : ME} {mr : MA} {p pos apos : Pos} {k c : Nat} {fa : Addr} {fd : FuncData} {ps : List Str} {f : Fn} {m x : Str}
theorem RepF.lookN {K : PySem.W.Frag} {F : Hp} {vs : List (Str × V)} {gs : List (Str × D)} (r : RepF K CT F vs gs) {f : Str} (h : gs.lookup f = none) : vs.lookup f = none := by
  induction gs generalizing vs with
  | nil => cases r; rfl
  | cons q gs ih =>
    cases r with
    | cons h1 h2 =>
      rename_i g v y ws
      rw [List.lookup_cons] at h ⊢
      cases q : f == g with
      | true => rw [q] at h; cases h
      | false =>
        rw [q] at h
        exact ih h2 h
theorem spF_of {n : Nat} {F H : Hp} {as : List Addr} {σ : Sto} {s : PS} {vs : List V} {xs : List SV} {Q : VK} (n1 : Env X.K CT F as H σ s) (r : RepSs X.K CT F as vs xs) (hn : xs.length = n)
    (h : Out X.K CT (fun σ' => σ' = σ) E F as (runF f xs s) fun x _ F' as' _ H' => ∀ v, RepS X.K CT F' as' v x → Q v H') : spF X.K CT n f vs H Q (E σ) := ⟨r.length.trans hn, spV_of n1 r h⟩
/-- o.m() -/
def vMe0 (c : Nat) (m : Str) (f : Fn) (o : ME) : ME := fun s => (o s).bind fun x s => match x with
  | .d (.ins c' gs) => if c' = c ∧ gs.lookup m = none then runF f [x] s else .stuck
  | _ => .stuck
theorem me_meth0 {pl : Sem Bool} (hx : Cq X (fun _ => E0)) (he : PE X o (up X.K CT (fun _ => E0) mo)) (hc : L2.Cls X.K (CT c)) (hm : L2.Meth X.K (CT c) m fa) (Fk : Fq X.prog X.w X.K X.mg X.base CT k fa fd ps f) (hp : ps.length = 1) (hr : Room k X.A) (hb : Binds X.K fd ps [])
    (ht : eval (.Call (.Attribute o m apos) [] [] pos) X.env = (do
      let ov ← eval o X.env
      standAt apos.atName
      let (f, first) ← holding [ov] (getMethod ov m pl)
      callWith pos f first (backTo pos (starEach [] X.env)) (backToKw pos (keywordEach [] X.env))) := by rfl) : PE X (.Call (.Attribute o m apos) [] [] pos) (up X.K CT (fun _ => E0) (vMe0 c m f mo)) :=
  PE.imp (L2.pe_meth0 (E := E0) (pl := pl) he hc hm Fk hr hb .nil hx.all ht) fun σ H Q ⟨F, as, s, n, h⟩ => up_seq n h rfl fun v y s1 F1 as1 H1 e1 n1 r1 h1 => by
    cases y with
    | cell j => exact h1.elim
    | d z =>
      cases z with
      | ins c' gs =>
        dsimp only at h1
        by_cases hc : c' = c ∧ gs.lookup m = none
        · rw [if_pos hc] at h1
          obtain ⟨rfl, hl⟩ := hc
          have r1' := r1
          cases r1 with
          | ins g1 g2 =>
            refine ⟨_, _, _, rfl, n1.sub _ _ g1, g2.lookN hl, ?_⟩
            exact spF_of (E := fun _ => E0) n1 (.cons r1' .nil) hp.symm h1
        · rw [if_neg hc] at h1
          exact h1.elim
      | _ => exact h1.elim
/-- o.m(a, ..) -/
def vMe (c : Nat) (m : Str) (f : Fn) (o : ME) (as : MA) : ME := fun s => (o s).bind fun x s => match x with
  | .d (.ins c' gs) => if c' = c ∧ gs.lookup m = none then (as s).bind fun xs s => runF f (x :: xs) s else .stuck
  | _ => .stuck
theorem me_meth {pl : Sem Bool} (hx : Cq X (fun _ => E0)) (he : PE X o (up X.K CT (fun _ => E0) mo)) (hc : L2.Cls X.K (CT c)) (hm : L2.Meth X.K (CT c) m fa) (F : Fv X.prog X.w X.K X.mg X.base CT k fa f) (hr : Room k X.A) (ha : PA X (e :: es) (upA X.K CT (fun _ => E0) mr))
    (hst : starEach (e :: es) X.env = (false, eval e X.env) :: starEach es X.env := by rfl) (hpl : (backTo pos (starEach es X.env)).any (·.1) = false := by rfl)
    (ht : eval (.Call (.Attribute o m apos) (e :: es) [] pos) X.env = (do
      let ov ← eval o X.env
      standAt apos.atName
      let (f, first) ← holding [ov] (getMethod ov m pl)
      callWith pos f first (backTo pos (starEach (e :: es) X.env)) (backToKw pos (keywordEach [] X.env))) := by rfl) : PE X (.Call (.Attribute o m apos) (e :: es) [] pos) (up X.K CT (fun _ => E0) (vMe c m f mo mr)) :=
  PE.imp (L2.pe_methR (E := E0) (pl := pl) he hc hm F hr hx.all ha hst hpl ht) fun σ H Q ⟨F, as, s, n, h⟩ => up_seq n h rfl fun v y s1 F1 as1 H1 e1 n1 r1 h1 => by
    cases y with
    | cell j => exact h1.elim
    | d z =>
      cases z with
      | ins c' gs =>
        dsimp only at h1
        by_cases hc : c' = c ∧ gs.lookup m = none
        · rw [if_pos hc] at h1
          obtain ⟨rfl, hl⟩ := hc
          have r1' := r1
          cases r1 with
          | ins g1 g2 =>
            refine ⟨_, _, _, rfl, n1.sub _ _ g1, g2.lookN hl, ?_⟩
            refine ⟨F1, as1, s1, n1, (h1.bind (ok := fun σ' => σ' = σ) fun _ z => z).imp (fun _ z => z) fun xs s2 F2 as2 σ2 H2 _ o2 e2 n2 h2 vs r2 => ?_⟩
            subst o2
            exact spV_of (E := fun _ => E0) n2 (.cons (r1'.mono e2) r2) h2
        · rw [if_neg hc] at h1
          exact h1.elim
      | _ => exact h1.elim
/-! ### == and != by an own __eq__ -/
end
end Bf
/-! The mirror layer: min and max of a list of tuples of ints and texts; comprehensions over pairs and triples. -/
/-! The mirror layer: comprehensions over pairs and triples. -/
namespace Bf
open PySem PySem.Spec PyProof.Rows L2
def setG : List Nat → List D → List (Option SV) → List (Option SV)
  | i :: is, y :: ys, g => setG is ys (g.set i (some (.d y)))
  | _, _, g => g
end Bf
/-! The mirror layer: a, b = x, y where inner blocks read the names. -/
namespace Bf
open PySem PySem.Spec PyProof.Rows L2
section
variable {X : Cx} {CT : Ctx} {E : Sto → XK} {a b : Expr} {mr : MA} {pos px py pt pt2 : Pos} {kt k2 : _} {x y : Str}
theorem ms_parC {i j : Nat} (hx : Cq X E) (hi : X.N[i]? = some x) (hj : X.N[j]? = some y)
    (lx : Loc X.env.scope x) (ly : Loc X.env.scope y) (fx : X.fn x = true ∨ X.env.scope.names.lookup x = some .local) (fy : X.fn y = true ∨ X.env.scope.names.lookup y = some .local) (ha : PA X [a, b] (upA X.K CT E mr))
    (hs : swapsWithSole [.Tuple [.Name x px, .Name y py] kt pt] (.Tuple [a, b] k2 pt2) pos.line X.env = pure false := by rfl) (hw : swappedStores [.Tuple [.Name x px, .Name y py] kt pt] (.Tuple [a, b] k2 pt2) X.env = pure none := by rfl)
    (h1 : (assignEach [.Tuple [.Name x px, .Name y py] kt pt] X.env).map (·.2) = [assign (.Tuple [.Name x px, .Name y py] kt pt) X.env] := by rfl) :
    L2.PS X (.Assign [.Tuple [.Name x px, .Name y py] kt pt] (.Tuple [a, b] k2 pt2) pos) (upS X.K CT E (sPar i j mr)) :=
  ps_imp (ps_asg (pe_tup ha) (pg_tup hx.calm (pgs_cons (pg_name hx.nd hi lx fx) (pgs_cons (pg_name hx.nd hj ly fy) pgs_nil))) hs hw h1) fun D σ H ⟨F, as, s, n, h⟩ => by
    refine upA_seq n h trivial fun vs xs s1 F1 as1 H1 e1 n1 r1 h1 => ?_
    cases r1 with
    | nil => exact h1.elim
    | cons r1 r2 =>
      cases r2 with
      | nil => exact h1.elim
      | cons r2 r3 =>
        cases r3 with
        | cons _ _ => exact h1.elim
        | nil =>
          rename_i v1 x1 v2 x2
          dsimp only at h1
          split at h1
          · rename_i hl
            refine ⟨small (by simp), fun p hp => ⟨p, [v1, v2], rfl, SqT.of upd_same, rfl, ?_⟩⟩
            have n0 := n1.other (.tup [v1, v2]) hp
            have n2 := n0.setG r1 hl.1
            have n3 := n2.setG (i := j) r2 (by simpa using hl.2)
            exact ⟨_, _, rfl, _, _, rfl, rfl, h1.here (σ := (σ.set i (some v1)).set j (some v2)) trivial n3⟩
          · exact h1.elim
end
end Bf
/-! enumerate of a tuple; the mirror of enumerate. -/
namespace PySem
open Sem (wp)
open AutoSeq1 (wpAny_loadPart')
theorem meets_enum_tuple (l : Addr) (items : Array Value) (n : Nat) (dct : Option Addr) (sl : Array (Option Value)) :
    Meets (Builtin.«enumerate.__new__» ⟨[.type "enumerate", .ref l], []⟩) (fun _ R s => s.heap.get? l = some { cls := .type "tuple", dict := dct, data := .seq items n, slots := sl } ∧
      R (.ok (.ret (.ref (s.heap.push { cls := .type "tuple_iterator", data := .fields #[.ref l, .int 0 0] }).objs.size)))
        { s with heap := (s.heap.push { cls := .type "tuple_iterator", data := .fields #[.ref l, .int 0 0] }).push { cls := .type "enumerate", data := .fields #[.none, .bool false, .ref s.heap.objs.size, rawInt 0, .none, .none] } }) :=
  .of_wp fun prog w A R s h => by
    obtain ⟨hp, g, d, tk, os⟩ := s
    obtain ⟨hl, h⟩ := h
    have hsub := sub_enumerate
    have hL : Heap.IsTuple (Shared.heap ⟨hp, g, d, tk, os⟩) l items := ⟨_, hl, rfl, n, rfl⟩
    wp_walk using wpAny_loadPart' hl
    refine wpAny_stack_any fun st => wpAny_pure ?_
    split
    · rename_i c _ _ _ _ _
      cases (c == Value.type "enumerate") <;> (wp_walk using wpAny_loadPart' hl, wpAny_pyIter_tuple hL; exact ⟨_, rfl, h⟩)
    · wp_walk using wpAny_loadPart' hl, wpAny_pyIter_tuple hL
      exact ⟨_, rfl, h⟩
section
variable {prog : Program} {w : World} {A : Around} {E : Value → Shared → Prop} {s : Shared}
theorem call_enum_tuple {l : Addr} {items : Array Value} {Q : Value → Shared → Prop} (hL : s.heap.IsTuple l items)
    (h : ∀ h', IsEnum h' (s.heap.objs.size + 1) s.heap.objs.size 0 .none → h'.IsTupleIter s.heap.objs.size l 0 → h'.objs.size = s.heap.objs.size + 2 →
      (∀ b o, s.heap.get? b = some o → h'.get? b = some o) → Q (.ref (s.heap.objs.size + 1)) { s with heap := h' }) :
    wpAny (model prog w) A (call (.type "enumerate") [.ref l]) Q E s := by
  obtain ⟨⟨c, dct, dt, sl⟩, hl, hc, n, hd⟩ := hL
  have hc : c = .type "tuple" := hc
  have hd : dt = .seq items n := hd
  subst hc hd
  refine callType_new F.called_enumerate (by decide) (F.typeCall_enumerate_1 _) (F.newCall_enumerate_1 _) (fun obj => F.args_object_init_2 obj _) F.entry_enumerate_new
    (meets_enum_tuple l items n dct sl) ⟨hl, ?_⟩
  have hz : (s.heap.push { cls := .type "tuple_iterator", data := .fields #[.ref l, .int 0 0] }).objs.size = s.heap.objs.size + 1 := Heap.size_push ..
  show _ ∧ _
  rw [hz]
  have q := Heap.get?_push_size (s.heap.push { cls := .type "tuple_iterator", data := .fields #[.ref l, .int 0 0] }) (o := { cls := .type "enumerate", data := .fields #[.none, .bool false, .ref s.heap.objs.size, rawInt 0, .none, .none] }) rfl
  rw [hz] at q
  exact ⟨⟨_, q, rfl⟩, h _ q ⟨_, Heap.get?_push_of_some _ (Heap.get?_push_size _ rfl), rfl, rfl⟩ (by rw [Heap.size_push, hz]) fun b o x => Heap.get?_push_of_some _ (Heap.get?_push_of_some _ x)⟩
end
end PySem
namespace L2
open PySem PySem.Spec PyProof.Rows
/-- enumerate of the tuple at a -/
def IteT (K : PySem.W.Frag) (a : Addr) : It :=
  ⟨fun i H => ∃ (xs : List V) (x : V), SqT K H a xs ∧ xs[i]? = some x, fun i H v H' => ∃ T x, v = .ref T ∧ H T = none ∧ H' = upd H T (.tup [.int (i : Nat), x]) ∧ ∀ xs, SqT K H a xs → xs[i]? = some x, fun i H => ∃ xs : List V, SqT K H a xs ∧ xs.length ≤ i⟩
theorem turn_enumT {P : Program} {w : World} {K : PySem.W.Frag} {elts : List Expr} {kk : Nat} {tpos : Pos} (a e it : Addr) :
    Turn P w K (.Tuple elts kk tpos) (IteT K a) [e, it] e (fun i h => (∃ old, IsEnum h e it ((i : Nat) : Int) old) ∧ h.IsTupleIter it a i ∧ e ≠ it ∧ a ≠ it ∧ a ≠ e) where
  mem := by simp
  obj := fun i h st b hb => by
    obtain ⟨⟨old, he⟩, ⟨o, ho, hc, hd⟩, _⟩ := st
    have e' : b = e ∨ b = it := by simpa using hb
    rcases e' with z | z
    · rw [z]; exact ⟨_, he, fun v q => nomatch q⟩
    · rw [z]; exact ⟨o, ho, fun v q => by rw [hd] at q; cases q⟩
  keep := fun i h h' st k => by
    obtain ⟨⟨old, he⟩, hi, hne⟩ := st
    exact ⟨⟨old, k e (by simp) _ he⟩, hi.at fun o q => k it (by simp) o q, hne⟩
  item := by
    intro X hP hw hK hc i pins s σ H E I hf st hg
    subst hP hw hK
    obtain ⟨⟨old, he⟩, hit, hne, hai, hae⟩ := st
    obtain ⟨xs, x, hq, hx⟩ := hg
    obtain ⟨its, rv, p, hz⟩ := I.tuple hq
    obtain ⟨u, hu, ru⟩ := rv.get hx
    have hel : e < s.heap.objs.size := Heap.lt_size he
    have hil : it < s.heap.objs.size := by obtain ⟨_, q, _⟩ := hit; exact Heap.lt_size q
    have hh : X.A.in1.handled = none := I.ok.hd hc
    have hlt : i < its.toArray.size := by
      have := (List.getElem?_eq_some_iff.mp hu).1
      simpa using this
    refine wpAny_pyNext_enum_itemD (Draws.tuple (A := X.A.in1) hh it a hai its.toArray) he ⟨hit, p⟩ hlt hne (by simp [hne, Ne.symm hae]) fun y h' tk hy ho hit' hT hsz hk => ?_
    have hy : y = u := by
      have hu' : its.toArray[i]? = some u := by simpa using hu
      rw [hu'] at hy
      exact (Option.some.inj hy).symm
    subst hy
    refine ⟨_, rfl, wpAny_letOwnedTupleGo_enum (s := { s with heap := h', toks := tk + 1 }) ho fun h'' he' sb => ?_⟩
    have hT2 : h''.get? s.heap.objs.size = some { cls := .type "tuple", data := .seq #[.int i tk, y] } := (sb.2 _ (Nat.ne_of_gt hel)).trans hT
    have new : ObjOk X.prog X.w (upd H s.heap.objs.size (.tup [.int (i : Nat), x])) h'' s.heap.objs.size (.tup [.int (i : Nat), x]) :=
      ⟨by show 2 ≤ sizeLine; decide, [.int i tk, y], .cons ⟨_, rfl⟩ (.cons ru .nil), ⟨_, hT2, rfl, _, rfl⟩⟩
    have I1 : Inv X pins σ (upd H s.heap.objs.size (.tup [.int (i : Nat), x])) { s with heap := h'', toks := tk + 1 } :=
      I.turnedNew (ch := [e, it]) (fun b ob hb q => (sb.2 b (fun z => hb (by simp [z]))).trans (hk b ob (fun z => hb (by simp [z])) (fun z => hb (by simp [z])) q)) hf (Nat.le_refl _) new
    refine ⟨.ref s.heap.objs.size, _, I1, rfl, ⟨_, x, rfl, I.hok.fresh (Nat.le_refl _), rfl, fun ys hy => by rw [I.tuple_inj hy hq]; exact hx⟩, ⟨⟨y, ?_⟩, hit'.1.at fun o q => (sb.2 it (Ne.symm hne)).trans q, hne, hai, hae⟩, fun b hb => ?_⟩
    · have e1 : ((i + 1 : Nat) : Int) = (i : Int) + 1 := by omega
      rw [e1]; exact he'
    · have hb' : b < s.heap.objs.size := by
        have e' : b = e ∨ b = it := by simpa using hb
        rcases e' with z | z
        · rw [z]; exact hel
        · rw [z]; exact hil
      rw [upd_ne (Nat.ne_of_lt hb')]
      exact (hf b hb).1
  done := by
    intro X hP hw hK hc i pins s σ H E I hf st hg
    subst hP hw hK
    obtain ⟨⟨old, he⟩, hit, hne, hai, hae⟩ := st
    obtain ⟨xs, hq, hx⟩ := hg
    obtain ⟨its, rv, p, hz⟩ := I.tuple hq
    obtain ⟨f0, f1, f2, f3, f4, f5⟩ := hf it (by simp)
    have hl := rv.length
    have hh : X.A.in1.handled = none := I.ok.hd hc
    have D : Draws X.prog X.w X.A.in1 it [it, a] 0 (fun _ _ => False) (fun _ h => h.IsTupleIter it a i ∧ h.IsTuple a its.toArray) :=
      { live := fun _ _ st => let ⟨o, ho, _⟩ := st.1; ⟨o, ho⟩
        frame := fun _ _ _ st hk => ⟨st.1.at fun o e => hk it (by simp) o e, st.2.at fun o e => hk a (by simp) o e⟩
        item := fun _ _ _ _ h => absurd h (Nat.not_lt_zero _)
        done := fun s Q E st hE => wpAny_nextOf_tuple_end hh st.1 st.2 (by simp; omega) hE }
    exact wpAny_pyNext_enum_endD D he ⟨hit, p⟩ fun h' eb => ⟨rfl, I.turned (t' := s.toks) (fun b o hb q => eb b o hb q) f0 f1 f3 f4 f5⟩
  self := fun A i s Q E st h => by
    obtain ⟨⟨_, he⟩, _⟩ := st
    exact wpAny_pyIter_enum he h
def iEnumT (K : PySem.W.Frag) (ta : TA) : TI := fun σ H R => ta σ H fun vs H1 => ∃ a xs, vs = [.ref a] ∧ SqT K H1 a xs ∧ R (IteT K a) H1
theorem pi_enumT {X : Cx} {e : Expr} {ta : TA} {p pos tpos : Pos} {elts : List Expr} {kk : Nat} (hg : Gl X "enumerate") (hm : X.mg "enumerate" = none) (ha : PA X [e] ta) (hs : starEach [e] X.env = [(false, eval e X.env)] := by rfl) :
    PI X (.Tuple elts kk tpos) (.Call (.Name "enumerate" p) [e] [] pos) (iEnumT X.K ta) := by
  refine ⟨fun pins s σ H R I h => ?_⟩
  refine Call_ (ld_blt I hg hm boot_enumerate (PyProof.Rows.callWith_type1 (thn (ha.run pos pins s σ H _ I h) fun us s1 ⟨vs, H1, I1, r1, q1⟩ => ?_) hs rfl))
  obtain ⟨a, xs, ex, hq, q⟩ := q1
  subst ex
  cases r1 with
  | cons r rr =>
    cases rr
    cases r
    obtain ⟨its, rv, p', hz⟩ := I1.tuple hq
    have hal : a < s1.heap.objs.size := by
      obtain ⟨_, e, _⟩ := id p'
      exact Heap.lt_size e
    refine call_enum_tuple p' fun h' he hit hsz hk => wpAny_pyIter_enum he ?_
    have I2 : Inv X pins σ H1 { s1 with heap := h' } := I1.kept (t' := s1.toks) hk
    refine ⟨s1.heap.objs.size + 1, [s1.heap.objs.size + 1, s1.heap.objs.size], _, _, H1, rfl, I2, turn_enumT a (s1.heap.objs.size + 1) s1.heap.objs.size, ⟨⟨.none, he⟩, hit, Nat.succ_ne_self _, Nat.ne_of_lt hal, Nat.ne_of_lt (Nat.lt_succ_of_lt hal)⟩, fun b hb => ?_, q⟩
    have e' : b = s1.heap.objs.size + 1 ∨ b = s1.heap.objs.size := by simpa using hb
    have hle : s1.heap.objs.size ≤ b := by
      rcases e' with z | z
      · rw [z]; exact Nat.le_add_right _ _
      · rw [z]; exact Nat.le_refl _
    exact I1.fpOk hle (I1.hok.fresh hle)
end L2
namespace Bf
open PySem PySem.Spec PyProof.Rows L2
/-! ### enumerate -/
def numB (xs : List D) : List (D × D) := xs.zipIdx.map fun p => (.int (p.2 : Int), p.1)
theorem numB_at (xs : List D) (i : Nat) : (numB xs)[i]? = xs[i]?.map fun x => (.int (i : Int), x) := by
  unfold numB
  rw [List.getElem?_map, List.getElem?_zipIdx]
  cases xs[i]? <;> simp
theorem numB_len (xs : List D) : (numB xs).length = xs.length := by unfold numB; simp
theorem numB_snd (xs : List D) : (numB xs).map Prod.snd = xs := by
  unfold numB
  rw [List.map_map]
  exact List.zipIdx_map_fst 0 xs
theorem numB_fst (xs : List D) : (numB xs).map Prod.fst = (List.range xs.length).map fun (i : Nat) => D.int i := by
  refine List.ext_getElem? fun i => ?_
  rw [List.getElem?_map, numB_at, List.getElem?_map]
  by_cases h : i < xs.length
  · rw [List.getElem?_eq_getElem h, List.getElem?_range h]
    rfl
  · rw [List.getElem?_eq_none (by omega), List.getElem?_eq_none (by simp; omega)]
    rfl
/-- enumerate(e), e a list or a tuple that is not written any more -/
def jEnum (a : ME) : MI := fun s => (a s).bind fun x s => match x with
  | .d (.lst xs) => .ok (.prs (numB xs)) s
  | .d (.tup xs) => .ok (.prs (numB xs)) s
  | _ => .stuck
section
variable {X : Cx} {CT : Ctx} {E : Sto → XK} {a : Expr} {m : ME} {p pos tpos : Pos} {elts : List Expr} {kk : Nat}
theorem nums_reps {K : PySem.W.Frag} {F : Hp} (xs : List D) : Reps K CT F ((List.range xs.length).map fun (i : Nat) => V.int i) ((numB xs).map Prod.fst) := by
  rw [numB_fst]
  generalize List.range xs.length = l
  induction l with
  | nil => exact .nil
  | cons i l ih => exact .cons (.int _) ih
theorem mi_enum (hm : X.mg "enumerate" = none) (h : PE X a (up X.K CT E m)) (hg : Gl X "enumerate") (h1 : starEach [a] X.env = (false, eval a X.env) :: starEach [] X.env := by rfl) (hs : starEach [a] X.env = [(false, eval a X.env)] := by rfl) :
    PI X (.Tuple elts kk tpos) (.Call (.Name "enumerate" p) [a] [] pos) (upI X.K CT E (jEnum m)) :=
  PI.imp (PI.or (pi_enum hg hm (pa_cons h pa_nil h1) hs) (pi_enumT hg hm (pa_cons h pa_nil h1) hs)) fun σ H R ⟨F, as, s, n, o⟩ => by
    cases q : m s with
    | err e s1 =>
      rw [jEnum, q] at o
      exact .inl ⟨F, as, s, n, by rw [q]; exact o⟩
    | stuck =>
      rw [jEnum, q] at o
      exact o.elim
    | ok x s1 =>
      rw [jEnum, q, bind_ok] at o
      cases x with
      | d y =>
        cases y with
        | lst xs => exact .inl ⟨F, as, s, n, by
            rw [q]
            intro F1 as1 σ1 H1 o1 e1 n1 v r
            subst o1
            have r : Rep X.K CT F1 v (.lst xs) := r
            cases r with
            | lst q1 q2 =>
              rename_i a' vs
              refine ⟨a', vs, rfl, SqL.of (n1.sub _ _ q1), o.there (σ := σ1) rfl e1 n1 _ ⟨_, vs, nums_reps xs, by rw [numB_snd]; exact q2, fun H2 s2 => ?_⟩⟩
              have w := walk_enum (K := X.K) (a := a') (xs := vs)
              have sq : SqL X.K H2 a' vs := SqL.of (s2 _ _ q1)
              have hl := q2.length
              refine ⟨fun i hi => w.goes i H2 (by rw [hl, ← numB_len xs]; exact hi) sq, fun i hi => ⟨vs, sq, by rw [hl, ← numB_len xs]; exact hi⟩, fun i v2 H3 a2 b2 ha hb y => ?_⟩
              obtain ⟨T, x2, h1, h2, h3, h4⟩ := y
              have hx := h4 vs sq
              rw [hb] at hx
              cases hx
              rw [List.getElem?_map] at ha
              cases hi : (List.range xs.length)[i]? with
              | none => rw [hi] at ha; cases ha
              | some j =>
                rw [hi] at ha
                cases ha
                have hj : j = i := by
                  have hl' := (List.getElem?_eq_some_iff.mp hi).1
                  rw [List.length_range] at hl'
                  rw [List.getElem?_range hl'] at hi
                  exact (Option.some.inj hi).symm
                subst hj
                exact ⟨T, h1, h2, h3⟩⟩
        | tup xs => exact .inr ⟨F, as, s, n, by
            rw [q]
            intro F1 as1 σ1 H1 o1 e1 n1 v r
            subst o1
            have r : Rep X.K CT F1 v (.tup xs) := r
            cases r with
            | tup q1 q2 =>
              rename_i a' vs
              refine ⟨a', vs, rfl, SqT.of (n1.sub _ _ q1), o.there (σ := σ1) rfl e1 n1 _ ⟨_, vs, nums_reps xs, by rw [numB_snd]; exact q2, fun H2 s2 => ?_⟩⟩
              have sq : SqT X.K H2 a' vs := SqT.of (s2 _ _ q1)
              have hl := q2.length
              refine ⟨fun i hi => ?_, fun i hi => ⟨vs, sq, by rw [hl, ← numB_len xs]; exact hi⟩, fun i v2 H3 a2 b2 ha hb y => ?_⟩
              · rw [numB_len, ← hl] at hi
                exact ⟨vs, vs[i], sq, List.getElem?_eq_getElem hi⟩
              obtain ⟨T, x2, h1, h2, h3, h4⟩ := y
              have hx := h4 vs sq
              rw [hb] at hx
              cases hx
              rw [List.getElem?_map] at ha
              cases hi : (List.range xs.length)[i]? with
              | none => rw [hi] at ha; cases ha
              | some j =>
                rw [hi] at ha
                cases ha
                have hj : j = i := by
                  have hl' := (List.getElem?_eq_some_iff.mp hi).1
                  rw [List.length_range] at hl'
                  rw [List.getElem?_range hl'] at hi
                  exact (Option.some.inj hi).symm
                subst hj
                exact ⟨T, h1, h2, h3⟩⟩
        | _ => exact o.elim
      | cell k => exact o.elim
end
end Bf
/-! The mirror layer: len(o), o an instance of a class with its own __len__. -/
/-! Dicts with tuples as keys: del, pop, walks over keys and items, a copy. -/
namespace L2
open PySem PySem.Spec PyProof.Rows
/-! ### for (k, v) in d.items() -/
/-! ### dict(list(d.items())) -/
end L2
/-! Mirrors of dicts with tuples as keys: read. -/
namespace L2
open PySem PySem.Spec PyProof.Rows
end L2
namespace Bf
open PySem PySem.Spec PyProof.Rows L2
def ditOf : D → Option (List (List D × D))
  | .dit k => some k
  | .dtl k => some k
  | _ => none
def keyT : D → Option (List Key)
  | .tup xs => keysD xs
  | _ => none
def lookT (ds : List (List D × D)) (k : List Key) : Option D := (ds.find? fun p => decide (keysD p.1 = some k)).map (·.2)
def dropD (ds : List (List D × D)) (k : List Key) : List (List D × D) := ds.filter fun p => decide (keysD p.1 ≠ some k)
def getT (x y : D) : Option D := match ditOf x, keyT y with
  | some ds, some k => lookT ds k
  | _, _ => none
def inT (y x : D) : Option D := match ditOf x, keyT y with
  | some ds, some k => some (.bl (lookT ds k).isSome)
  | _, _ => none
def ninT (y x : D) : Option D := match ditOf x, keyT y with
  | some ds, some k => some (.bl (!(lookT ds k).isSome))
  | _, _ => none
theorem lookT_cons (p : List D × D) (ds : List (List D × D)) (k : List Key) : lookT (p :: ds) k = if keysD p.1 = some k then some p.2 else lookT ds k := by
  unfold lookT
  rw [List.find?_cons]
  by_cases h : keysD p.1 = some k
  · rw [if_pos h, decide_eq_true h]; rfl
  · rw [if_neg h, decide_eq_false h]
section
variable {X : Cx} {CT : Ctx} {F H : Hp} {v : V} {y : D} {as : List Addr} {σ : Sto} {s : PS}
theorem RepT.look {k : List Key} : ∀ {vs : List (List Key × V)} {ds : List (List D × D)}, RepT X.K CT F vs ds → (∀ d, lookT ds k = some d → ∃ v, valV vs k = some v ∧ Rep X.K CT F v d) ∧ (lookT ds k = none → valV vs k = none)
  | _, [], r => by
    cases r
    exact ⟨(fun d e => by cases e), fun _ => rfl⟩
  | _, _ :: ds, r => by
    cases r with
    | @cons k' v' d' vs' _ r1 r2 =>
      rw [lookT_cons]
      simp only [keysD_map, Option.some.injEq]
      by_cases e : k' = k
      · rw [if_pos e, valV_pos (p := (k', v')) e]
        exact ⟨(fun d q => by cases q; exact ⟨_, rfl, r1⟩), (fun q => by cases q)⟩
      · rw [if_neg e, valV_neg (p := (k', v')) e]
        exact RepT.look r2
theorem RepT.drop {k : List Key} : ∀ {vs : List (List Key × V)} {ds : List (List D × D)}, RepT X.K CT F vs ds → RepT X.K CT F (dropK vs k) (dropD ds k)
  | _, [], r => by cases r; exact .nil
  | _, _ :: ds, r => by
    cases r with
    | @cons k' v' d' vs' _ r1 r2 =>
      unfold dropK dropD
      rw [List.filter_cons, List.filter_cons]
      simp only [keysD_map, ne_eq, Option.some.injEq]
      by_cases e : k' = k
      · simp only [e, not_true, decide_false, Bool.false_eq_true, if_false]
        exact RepT.drop r2
      · simp only [e, not_false_iff, decide_true, if_true]
        exact .cons r1 (RepT.drop r2)
/-! ### [], in, get -/
/-- d.get(y) -/
def vDGet1 (d i : ME) : ME := fun s => (d s).bind fun x s => match (rd s x).bind ditOf with
  | none => .stuck
  | some _ => (i s).bind fun y s => match (rd s x).bind ditOf, (rd s y).bind keyT with
    | some ds, some k => .ok (.d ((lookT ds k).getD .non)) s
    | _, _ => .stuck
end
end Bf
/-! Mirrors of dicts with tuples as keys: written, made, walked. -/
namespace Bf
open PySem PySem.Spec PyProof.Rows L2
/-! ### {}, d[y] = v, del d[y], d.pop(y) -/
def vDit0 : ME := fun s => .ok (.cell s.w.length) { s with w := s.w ++ [.dit []] }
def sDPut (d i v : ME) : MS := fun s => (v s).bind fun x s => (d s).bind fun o s => (i s).bind fun y s => match frz s x with
  | some (z, s) => match o, (rd s y).bind keyT with
    | .cell k, some ky => match s.w[k]? with
      | some (.dit acc) => if acc.length < sizeLine then .ok .nx { s with w := s.w.set k (.dit (putD acc ky z)) } else .stuck
      | _ => .stuck
    | _, _ => .stuck
  | none => .stuck
def sDDel (d i : ME) : MS := fun s => (d s).bind fun o s => (i s).bind fun y s => match o, (rd s y).bind keyT with
  | .cell k, some ky => match s.w[k]? with
    | some (.dit acc) => match lookT acc ky with
      | some _ => .ok .nx { s with w := s.w.set k (.dit (dropD acc ky)) }
      | none => .stuck
    | _ => .stuck
  | _, _ => .stuck
def vDPop (d i : ME) : ME := fun s => (d s).bind fun o s => match (rd s o).bind ditOf with
  | none => .stuck
  | some _ => (i s).bind fun y s => match o, (rd s y).bind keyT with
    | .cell k, some ky => match s.w[k]? with
      | some (.dit acc) => match lookT acc ky with
        | some z => .ok (.d z) { s with w := s.w.set k (.dit (dropD acc ky)) }
        | none => .stuck
      | _ => .stuck
    | _, _ => .stuck
def vDCopy (d : ME) : ME := fun s => (d s).bind fun x s => match (rd s x).bind ditOf with
  | some ds => .ok (.cell s.w.length) { s with w := s.w ++ [.dit ds] }
  | none => .stuck
/-- a dict that is not written any more -/
def vLock (d : ME) : ME := fun s => (d s).bind fun x s => match x with
  | .cell k => match s.w[k]? with
    | some (.dit ds) => .ok (.d (.dtl ds)) { g := s.g.map (subG k (.dtl ds)), w := s.w.set k .gone }
    | _ => .stuck
  | .d y => .ok (.d y) s
def jKeys (d : ME) : MI := fun s => (d s).bind fun x s => match x with
  | .d (.dtl ds) => if (ds.all fun p => p.1.all intD) = true then .ok (.kys (ds.map Prod.fst)) s else .stuck
  | _ => .stuck
def jItems (d : ME) : MI := fun s => (d s).bind fun x s => match x with
  | .d (.dtl ds) => if (ds.all fun p => p.1.all intD) = true then .ok (.its ds) s else .stuck
  | _ => .stuck
end Bf
/-! list of a dict; what the dicts' mirrors compute. -/
namespace Bf
open PySem PySem.Spec PyProof.Rows L2
/-! ### weakest preconditions -/
def DC (c : Option Cell) (P : List (List D × D) → Prop) : Prop := match c with
  | some (.dit xs) => P xs
  | _ => False
@[simp ↓] theorem DC_dit {xs : List (List D × D)} {P : List (List D × D) → Prop} : DC (some (.dit xs)) P ↔ P xs := Iff.rfl
@[simp] theorem getT_dtl {ds : List (List D × D)} {x y : Int} : getT (.dtl ds) (.tup [.int x, .int y]) = lookT ds [.inl x, .inl y] := rfl
@[simp] theorem getT_dit {ds : List (List D × D)} {x y : Int} : getT (.dit ds) (.tup [.int x, .int y]) = lookT ds [.inl x, .inl y] := rfl
@[simp] theorem inT_dtl {ds : List (List D × D)} {x y : Int} : inT (.tup [.int x, .int y]) (.dtl ds) = some (.bl (lookT ds [.inl x, .inl y]).isSome) := rfl
@[simp] theorem inT_dit {ds : List (List D × D)} {x y : Int} : inT (.tup [.int x, .int y]) (.dit ds) = some (.bl (lookT ds [.inl x, .inl y]).isSome) := rfl
@[simp] theorem ninT_dtl {ds : List (List D × D)} {x y : Int} : ninT (.tup [.int x, .int y]) (.dtl ds) = some (.bl (!(lookT ds [.inl x, .inl y]).isSome)) := rfl
@[simp] theorem ninT_dit {ds : List (List D × D)} {x y : Int} : ninT (.tup [.int x, .int y]) (.dit ds) = some (.bl (!(lookT ds [.inl x, .inl y]).isSome)) := rfl
@[simp] theorem keyT_two {x y : Int} : keyT (.tup [.int x, .int y]) = some [.inl x, .inl y] := rfl
@[simp] theorem ditOf_dit {ds : List (List D × D)} : ditOf (.dit ds) = some ds := rfl
@[simp] theorem ditOf_dtl {ds : List (List D × D)} : ditOf (.dtl ds) = some ds := rfl
section
variable {a b d : ME} {s : PS} {Q : SV → PS → Prop} {QS : Fl → PS → Prop} {QI : It' → PS → Prop}
@[simp ↓] theorem T_dget1 : T (vDGet1 a b s) Q ↔ T (a s) fun x s => OD ((rd s x).bind ditOf) fun _ => T (b s) fun y s => OD ((rd s x).bind ditOf) fun ds => OD ((rd s y).bind keyT) fun k => Q (.d ((lookT ds k).getD .non)) s := by
  unfold vDGet1
  rw [T_bind]
  refine iff_of_eq (congrArg (T _) (funext fun x => funext fun s => propext ?_))
  cases (rd s x).bind ditOf with
  | none => simp
  | some ds =>
    simp only [OD_some, T_bind]
    refine iff_of_eq (congrArg (T _) (funext fun y => funext fun s => propext ?_))
    cases (rd s x).bind ditOf with
    | none => simp
    | some ds =>
      cases (rd s y).bind keyT with
      | none => simp
      | some k => simp
@[simp ↓] theorem T_dit0 : T (vDit0 s) Q ↔ Q (.cell s.w.length) { s with w := s.w ++ [.dit []] } := by
  unfold vDit0
  rw [T_ok]
@[simp ↓] theorem T_dput : T (sDPut a b d s) QS ↔ T (d s) fun x s => T (a s) fun o s => T (b s) fun y s => OP (frz s x) fun z s => CL o fun k => OD ((rd s y).bind keyT) fun ky => DC s.w[k]? fun acc => acc.length < sizeLine ∧ QS .nx { s with w := s.w.set k (.dit (putD acc ky z)) } := by
  unfold sDPut
  simp only [T_bind]
  refine iff_of_eq (congrArg (T _) (funext fun x => funext fun s => congrArg (T _) (funext fun o => funext fun s => congrArg (T _) (funext fun y => funext fun s => propext ?_))))
  cases frz s x with
  | none => simp
  | some p =>
    obtain ⟨z, s1⟩ := p
    simp only [OP_some]
    cases o with
    | d => simp [CL]
    | cell k =>
      simp only [CL_cell]
      cases (rd s1 y).bind keyT with
      | none => simp
      | some ky =>
        simp only [OD_some]
        cases s1.w[k]? with
        | none => simp [DC]
        | some c =>
          cases c with
          | dit acc =>
            simp only [DC_dit]
            by_cases h : acc.length < sizeLine <;> simp [h]
          | _ => simp [DC]
@[simp ↓] theorem T_ddel : T (sDDel a b s) QS ↔ T (a s) fun o s => T (b s) fun y s => CL o fun k => OD ((rd s y).bind keyT) fun ky => DC s.w[k]? fun acc => OD (lookT acc ky) fun _ => QS .nx { s with w := s.w.set k (.dit (dropD acc ky)) } := by
  unfold sDDel
  simp only [T_bind]
  refine iff_of_eq (congrArg (T _) (funext fun o => funext fun s => congrArg (T _) (funext fun y => funext fun s => propext ?_)))
  cases o with
  | d => simp [CL]
  | cell k =>
    simp only [CL_cell]
    cases (rd s y).bind keyT with
    | none => simp
    | some ky =>
      simp only [OD_some]
      cases s.w[k]? with
      | none => simp [DC]
      | some c =>
        cases c with
        | dit acc =>
          simp only [DC_dit]
          cases lookT acc ky <;> simp
        | _ => simp [DC]
@[simp ↓] theorem T_dpop : T (vDPop a b s) Q ↔ T (a s) fun o s => OD ((rd s o).bind ditOf) fun _ => T (b s) fun y s => CL o fun k => OD ((rd s y).bind keyT) fun ky => DC s.w[k]? fun acc => OD (lookT acc ky) fun z => Q (.d z) { s with w := s.w.set k (.dit (dropD acc ky)) } := by
  unfold vDPop
  rw [T_bind]
  refine iff_of_eq (congrArg (T _) (funext fun o => funext fun s => propext ?_))
  cases (rd s o).bind ditOf with
  | none => simp
  | some ds =>
    simp only [OD_some, T_bind]
    refine iff_of_eq (congrArg (T _) (funext fun y => funext fun s => propext ?_))
    cases o with
    | d => simp [CL]
    | cell k =>
      simp only [CL_cell]
      cases (rd s y).bind keyT with
      | none => simp
      | some ky =>
        simp only [OD_some]
        cases s.w[k]? with
        | none => simp [DC]
        | some c =>
          cases c with
          | dit acc =>
            simp only [DC_dit]
            cases lookT acc ky <;> simp
          | _ => simp [DC]
@[simp ↓] theorem T_dcopy : T (vDCopy a s) Q ↔ T (a s) fun x s => OD ((rd s x).bind ditOf) fun ds => Q (.cell s.w.length) { s with w := s.w ++ [.dit ds] } := by
  unfold vDCopy
  rw [T_bind]
  refine iff_of_eq (congrArg (T _) (funext fun x => funext fun s => propext ?_))
  cases (rd s x).bind ditOf <;> simp
def LKd (s : PS) (x : SV) (P : D → PS → Prop) : Prop := match x with
  | .d y => P y s
  | .cell k => DC s.w[k]? fun ds => P (.dtl ds) { g := s.g.map (subG k (.dtl ds)), w := s.w.set k .gone }
@[simp ↓] theorem LKd_d {y : D} {P : D → PS → Prop} : LKd s (.d y) P ↔ P y s := Iff.rfl
@[simp ↓] theorem LKd_cell {k : Nat} {P : D → PS → Prop} : LKd s (.cell k) P ↔ DC s.w[k]? fun ds => P (.dtl ds) { g := s.g.map (subG k (.dtl ds)), w := s.w.set k .gone } := Iff.rfl
@[simp ↓] theorem T_lock : T (vLock a s) Q ↔ T (a s) fun x s => LKd s x fun y s => Q (.d y) s := by
  unfold vLock
  rw [T_bind]
  refine iff_of_eq (congrArg (T _) (funext fun x => funext fun s => propext ?_))
  cases x with
  | d y => simp [LKd]
  | cell k =>
    simp only [LKd_cell]
    cases s.w[k]? with
    | none => simp [DC]
    | some c => cases c <;> simp [DC]
def DL (x : SV) (P : List (List D × D) → Prop) : Prop := match x with
  | .d (.dtl ds) => (ds.all fun p => p.1.all intD) = true ∧ P ds
  | _ => False
@[simp ↓] theorem DL_dtl {ds : List (List D × D)} {P : List (List D × D) → Prop} : DL (.d (.dtl ds)) P ↔ (ds.all fun p => p.1.all intD) = true ∧ P ds := Iff.rfl
@[simp ↓] theorem T_jKeys : T (jKeys a s) QI ↔ T (a s) fun x s => DL x fun ds => QI (.kys (ds.map Prod.fst)) s := by
  unfold jKeys
  rw [T_bind]
  refine iff_of_eq (congrArg (T _) (funext fun x => funext fun s => propext ?_))
  cases x with
  | cell k => simp [DL]
  | d y =>
    cases y with
    | dtl ds =>
      dsimp only [DL]
      by_cases h : (ds.all fun p => p.1.all intD) = true
      · rw [if_pos h, T_ok]; exact ⟨fun q => ⟨h, q⟩, fun q => q.2⟩
      · rw [if_neg h, T_stuck]; exact ⟨fun q => q.elim, fun q => (h q.1).elim⟩
    | _ => simp [DL]
@[simp ↓] theorem T_jItems : T (jItems a s) QI ↔ T (a s) fun x s => DL x fun ds => QI (.its ds) s := by
  unfold jItems
  rw [T_bind]
  refine iff_of_eq (congrArg (T _) (funext fun x => funext fun s => propext ?_))
  cases x with
  | cell k => simp [DL]
  | d y =>
    cases y with
    | dtl ds =>
      dsimp only [DL]
      by_cases h : (ds.all fun p => p.1.all intD) = true
      · rw [if_pos h, T_ok]; exact ⟨fun q => ⟨h, q⟩, fun q => q.2⟩
      · rw [if_neg h, T_stuck]; exact ⟨fun q => q.elim, fun q => (h q.1).elim⟩
    | _ => simp [DL]
end
end Bf
/-! Lists that hold lists that are written. -/
namespace Bf
open PySem PySem.Spec PyProof.Rows L2
/-- a new list of what may be written -/
def vLstS (as : MA) : ME := fun s => (as s).bind fun xs s => if xs.length ≤ sizeLine then .ok (.cell s.w.length) { s with w := s.w ++ [.lsv xs] } else .stuck
/-- one of them -/
def vIxS (o i : ME) : ME := fun s => (o s).bind fun o s => (i s).bind fun i s => match o, i with
  | .cell k, .d (.int j) => match s.w[k]? with
    | some (.lsv xs) => R.of (atI xs j) s
    | _ => .stuck
  | _, _ => .stuck
section
variable {K : PySem.W.Frag} {CT : Ctx} {F H : Hp} {as : List Addr} {σ : Sto} {s : PS}
theorem RepSs.at {vs : List V} {xs : List SV} {i : Int} {x : SV} (r : RepSs K CT F as vs xs) (e : atI xs i = some x) : ∃ v, atI vs i = some v ∧ RepS K CT F as v x := by
  unfold atI at e ⊢
  rw [r.length]
  cases q : ixN xs.length i with
  | none => rw [q] at e; cases e
  | some j =>
    rw [q] at e
    exact r.get e
end
/-! ### weakest preconditions -/
def VC (c : Option Cell) (P : List SV → Prop) : Prop := match c with
  | some (.lsv xs) => P xs
  | _ => False
@[simp ↓] theorem VC_lsv {xs : List SV} {P : List SV → Prop} : VC (some (.lsv xs)) P ↔ P xs := Iff.rfl
section
variable {a b : ME} {r : MA} {s : PS} {Q : SV → PS → Prop}
@[simp ↓] theorem T_lstS : T (vLstS r s) Q ↔ T (r s) fun xs s => xs.length ≤ sizeLine ∧ Q (.cell s.w.length) { s with w := s.w ++ [.lsv xs] } := by
  unfold vLstS
  rw [T_bind]
  refine iff_of_eq (congrArg (T _) (funext fun xs => funext fun s => propext ?_))
  by_cases h : xs.length ≤ sizeLine
  · rw [if_pos h, T_ok]; exact ⟨fun q => ⟨h, q⟩, fun q => q.2⟩
  · rw [if_neg h, T_stuck]; exact ⟨fun q => q.elim, fun q => h q.1⟩
@[simp ↓] theorem T_ixS : T (vIxS a b s) Q ↔ T (a s) fun o s => T (b s) fun i s => CL o fun k => IN i fun j => VC s.w[k]? fun xs => OD (atI xs j) fun x => Q x s := by
  unfold vIxS
  simp only [T_bind]
  refine iff_of_eq (congrArg (T _) (funext fun o => funext fun s => congrArg (T _) (funext fun i => funext fun s => propext ?_)))
  cases o with
  | d y => simp [CL]
  | cell k =>
    simp only [CL_cell]
    cases i with
    | cell j => simp [IN]
    | d y =>
      cases y with
      | int j =>
        simp only [IN_int]
        cases s.w[k]? with
        | none => simp [VC]
        | some c =>
          cases c with
          | lsv xs =>
            simp only [VC_lsv]
            cases atI xs j with
            | none => rw [OD_none]; exact Iff.of_eq (by unfold R.of; simp)
            | some x => rw [OD_some]; exact T_ok
          | _ => simp [VC]
      | _ => simp [IN]
end
end Bf
/-! The mirror layer: own exceptions are made: an __init__ that says super().__init__(v) and keeps v. -/
/-! The mirror layer: own exceptions are made: the class called. -/
/-! The mirror layer: raise of own exceptions: the expressions that make them. -/
/-! The mirror layer: raise. -/
/-! The mirror layer: defs that run where nothing is being shown (no guards), repr of data, calls of them. -/
/-! The mirror layer: try with clauses of both kinds, with a name and without. -/
namespace Bf
open PySem PySem.Spec PyProof.Rows L2
section
variable {X : Cx} {pins : List (Addr × Obj)} {σ : Sto} {H : Hp} {s : Shared} {a : Addr} {cls : Value} {d : Option Addr} {D : Ends} {Wo : WX} {B : Heap} {sI : Shared}
/-- an exception that lies caught: sI the state without it, B the ground -/
structure Caught (X : Cx) (pins : List (Addr × Obj)) (σ : Sto) (H : Hp) (s : Shared) (a : Addr) (cls : Value) (d : Option Addr) (B : Heap) (sI : Shared) : Prop where
  inv : Inv X pins σ H sI
  nb : ∀ b o, sI.heap.get? b = some o → b ∉ frs X.stack → B.get? b = some o
  up : sI.heap.UpToSlots s.heap
  fly : HandSPX.FlyingZ B (X.env :: X.outer) a (Zc cls d) s.heap
  na : H a = none
  os : s.os = sI.os
  ag : AllBare s.gens
  nl : a ≠ X.env.locals
  nf : a ∉ X.fs
theorem Caught.here (C : Caught X pins σ H s a cls d B sI) : Inv X pins σ H s := C.inv.landed C.nb C.fly.1 C.up C.os C.ag
end
end Bf
/-! The mirror layer: a def that calls what it got and tells the error: its clauses, lambdas handed to it. -/
namespace Bf
open PySem PySem.Spec PyProof.Rows L2
/-- the error told: sel its text, ret where there is none -/
def okStr : D → Option SV
  | .str t => if (decide (t.length ≤ sizeLine) && PyData.strOk t) = true then some (.d (.str t)) else none
  | _ => none
def vMet (sel : Exc → Option D) (ret : Str) (m : ME) : ME := fun s => match m s with
  | .ok _ s => .ok (.d (.str ret)) s
  | .err e s => R.of ((sel e).bind okStr) s
  | .stuck => .stuck
end Bf
/-! The mirror layer: f(lambda: ..), f a def that calls it and tells the error. -/
/-! The mirror layer: calls of a name that holds one of several defs. -/
/-! The mirror layer: the row's end where code objects have tables, and nothing is being shown. -/
/-! The mirror layer: short forms for printed derivations with errors. -/
namespace Bf
open PySem PySem.Spec PyProof.Rows L2 LamX
/-- {6: 5} -/
def vDic1 (i j : Int) : ME := fun s => .ok (.d (.dic [(.int i, .int j)])) s
end Bf
/-! The mirror layer: plain reasoning about mirrors that may raise. -/
namespace Bf
open PySem L2
@[irreducible] def TE {α : Type} (r : R α) (Q : α → PS → Prop) (E : Exc → PS → Prop) : Prop := match r with
  | .ok a s => Q a s
  | .err e s => E e s
  | .stuck => False
/-- a def's outcome, or what it raises -/
@[irreducible] def FE (f : Fn) (xs : List SV) (w : List Cell) (Q : SV → List Cell → Prop) (E : Exc → List Cell → Prop) : Prop := match f xs w with
  | .ok x w => Q x w
  | .err e w => E e w
  | .stuck => False
theorem TE_ok {α : Type} {a : α} {s : PS} {Q : α → PS → Prop} {E : Exc → PS → Prop} : TE (.ok a s) Q E ↔ Q a s := by unfold TE; exact Iff.rfl
theorem TE_err {α : Type} {e : Exc} {s : PS} {Q : α → PS → Prop} {E : Exc → PS → Prop} : TE (.err e s : R α) Q E ↔ E e s := by unfold TE; exact Iff.rfl
theorem TE_stuck {α : Type} {Q : α → PS → Prop} {E : Exc → PS → Prop} : TE (.stuck : R α) Q E ↔ False := by unfold TE; exact Iff.rfl
theorem TE.imp {α : Type} {r : R α} {Q Q' : α → PS → Prop} {E E' : Exc → PS → Prop} (h : TE r Q E) (i : ∀ a s, Q a s → Q' a s) (j : ∀ e s, E e s → E' e s) : TE r Q' E' := by
  unfold TE at h ⊢
  cases r with
  | ok a s => exact i a s h
  | err e s => exact j e s h
  | stuck => exact h
theorem FE.imp {f : Fn} {xs : List SV} {w : List Cell} {Q Q' : SV → List Cell → Prop} {E E' : Exc → List Cell → Prop} (h : FE f xs w Q E) (i : ∀ x w, Q x w → Q' x w) (j : ∀ e w, E e w → E' e w) : FE f xs w Q' E' := by
  unfold FE at *
  cases q : f xs w with
  | ok a s => rw [q] at h; exact i a s h
  | err e s => rw [q] at h; exact j e s h
  | stuck => rw [q] at h; exact h
/-! the teller -/
section
variable {s : PS} {Q : SV → PS → Prop} {a : ME} {sel : Exc → Option D} {ret : Str}
@[simp ↓] theorem T_met : T (vMet sel ret a s) Q ↔ TE (a s) (fun _ s => Q (.d (.str ret)) s) fun e s => OD ((sel e).bind okStr) fun z => Q z s := by
  unfold vMet
  cases a s with
  | ok x s => rw [TE_ok, T_ok]
  | err e s =>
    rw [TE_err]
    dsimp only
    rw [T_of]
  | stuck => rw [TE_stuck, T_stuck]
@[simp ↓] theorem T_dic1 {i j : Int} : T (vDic1 i j s) Q ↔ Q (.d (.dic [(.int i, .int j)])) s := by unfold vDic1; exact T_ok
end
end Bf
/-! The mirror layer: what repr shows of plain data. -/
/-! The mirror layer: isinstance(x, C), both answers. -/
namespace Bf
open PySem PySem.Spec PyProof.Rows L2
def notc (K : PySem.W.Frag) (C : Addr) : Bool := ["NoneType", "bool", "int", "str", "tuple", "list", "dict"].all fun T => PySem.W.kitOne K (.type T) (.ref C) == some false
end Bf
/-! The mirror layer: tellers in use. -/
namespace Bf
open PySem PySem.Spec PyProof.Rows L2
/-- f raises e of these -/
def Ra (f : Fn) (xs : List SV) (w : List Cell) (e : Exc) : Prop := ∀ {Q : SV → List Cell → Prop} {E : Exc → List Cell → Prop}, E e w → FE f xs w Q E
/-- a world with the die at k and, at its end, the list told -/
structure Tl (k : Nat) (w v : List Cell) (ts : List D) : Prop where
  up : Upd k w v
  len : v.length = w.length + 1
  at_ : v[w.length]? = some (.lst ts)
theorem Tl.app {k : Nat} {w v : List Cell} {ts : List D} {x : D} (h : Tl k w v ts) (hk : k < w.length) : Tl k w (v.set w.length (.lst (ts ++ [x]))) (ts ++ [x]) := ⟨h.up.set' (Nat.le_refl _) hk rfl, by simp [h.len], by rw [List.getElem?_set_self (by have := h.len; omega)]⟩
theorem Tl.die {k : Nat} {w v u : List Cell} {ts : List D} (h : Tl k w v ts) (hk : k < w.length) (h2 : Upd k v u) (hl : u.length = v.length) : Tl k w u ts := ⟨h.up.trans h2, by rw [hl, h.len], by rw [h2.same _ (by have := h.len; omega) (by omega)]; exact h.at_⟩
theorem Tl.new {k : Nat} {w v : List Cell} {ts : List D} (h : Upd k w v) (hl : v.length = w.length) : Tl k w (v ++ [.lst ts]) ts := ⟨h.trans (h.ok.append_upd (Flat.one rfl)), by simp [hl], by rw [← hl]; simp⟩
theorem Tl.flat {k : Nat} {w v : List Cell} {ts : List D} (h : Tl k w v ts) : Flat v := h.up.ok.flat
theorem Tl.rd {k : Nat} {w v : List Cell} {ts : List D} (h : Tl k w v ts) (g : List (Option SV)) : rd ⟨g, v⟩ (.cell w.length) = some (.lst ts) := rd_lst' h.at_
end Bf
/-! The mirror layer: methods, class methods and calls of classes that may raise. -/
namespace Bf
open PySem PySem.Spec PyProof.Rows L2
section
variable {f : Fn} {xs : List SV} {w : List Cell} {Q : SV → List Cell → Prop} {E : Exc → List Cell → Prop} {n : Nat}
theorem FE_len (hn : xs.length = n) (h : FE f xs w Q E) : FE (lenF n f) xs w Q E := by
  unfold FE lenF at *
  rw [if_pos hn]
  exact h
theorem Ra.go {e : Exc} (h : Ra f xs w e) (q : E e w) : FE f xs w Q E := h q
theorem Ra.len {e : Exc} (hn : xs.length = n) (h : Ra f xs w e) : Ra (lenF n f) xs w e := fun q => FE_len hn (h q)
end
end Bf
/-! The mirror layer: tellers that answer True where there was an error, and False. -/
namespace Bf
open PySem PySem.Spec PyProof.Rows L2 LamX
def vFlag (sel : Exc → Bool) (m : ME) : ME := fun s => match m s with
  | .ok _ s => .ok (.d (.bl false)) s
  | .err e s => if sel e = true then .ok (.d (.bl true)) s else .stuck
  | .stuck => .stuck
section
variable {s : PS} {Q : SV → PS → Prop} {a : ME} {sel : Exc → Bool}
@[simp ↓] theorem T_flag : T (vFlag sel a s) Q ↔ TE (a s) (fun _ s => Q (.d (.bl false)) s) fun e s => sel e = true ∧ Q (.d (.bl true)) s := by
  unfold vFlag
  cases a s with
  | ok x s => rw [TE_ok, T_ok]
  | err e s =>
    rw [TE_err]
    dsimp only
    by_cases h : sel e = true
    · rw [if_pos h, T_ok]; exact ⟨fun q => ⟨h, q⟩, fun q => q.2⟩
    · rw [if_neg h, T_stuck]; exact ⟨False.elim, fun q => h q.1⟩
  | stuck => rw [TE_stuck, T_stuck]
end
end Bf
/-! The mirror layer: a dict of tuples, == {}. -/
/-! The mirror layer: None == an instance of a class with its own __eq__. -/
/-! The mirror layer: x == y, y of the class, x of it or None. -/
/-! The mirror layer: == of two dicts of tuples. -/
namespace Bf
open PySem PySem.Spec PyProof.Rows L2 PySem.SeqAt
section
variable {prog : Program} {w : World} {K : Type} [DecidableEq K] {knd : HeapKind prog w K} {A : Around} {E : Value → Shared → Prop} {s : Shared}
inductive HitsH {K : Type} [DecidableEq K] (prog : Program) (w : World) (A : Around) (s : Shared) (kb : List (K × Addr × Value)) : List (K × Addr × Value) → Bool → Prop
  | nil : HitsH prog w A s kb [] true
  | miss {k : K} {a : Addr} {v : Value} {r : List (K × Addr × Value)} : (∀ (j : Nat) (p : Addr × Value), kb[j]? ≠ some (k, p)) → HitsH prog w A s kb ((k, a, v) :: r) false
  | hit {k : K} {a : Addr} {v : Value} {r : List (K × Addr × Value)} {e b : Bool} : (∃ (j : Nat) (p : Addr × Value), kb[j]? = some (k, p)) → (∀ (j : Nat) (p : Addr × Value), kb[j]? = some (k, p) → SeqAt.EqP prog w A s v p.2 e) → HitsH prog w A s kb r b → HitsH prog w A s kb ((k, a, v) :: r) (e && b)
theorem HitsH.inv {kb : List (K × Addr × Value)} {k : K} {a : Addr} {v : Value} {r : List (K × Addr × Value)} {b : Bool} (h : HitsH prog w A s kb ((k, a, v) :: r) b) :
    ((∀ (j : Nat) (p : Addr × Value), kb[j]? ≠ some (k, p)) ∧ b = false) ∨ ∃ e b', (∃ (j : Nat) (p : Addr × Value), kb[j]? = some (k, p)) ∧ (∀ (j : Nat) (p : Addr × Value), kb[j]? = some (k, p) → SeqAt.EqP prog w A s v p.2 e) ∧ HitsH prog w A s kb r b' ∧ b = (e && b') := by
  cases h with
  | miss hn => exact .inl ⟨hn, rfl⟩
  | hit h1 h2 h3 => exact .inr ⟨_, _, h1, h2, h3, rfl⟩
end
end Bf
/-! The mirror layer: == of two dicts of tuples whose values are texts. -/
/-! The mirror layer: is True, is not False, .. of two booleans. -/
/-! The mirror layer: tellers that hand back what a call returns, or a constant where there was an error. -/
namespace Bf
open PySem PySem.Spec PyProof.Rows L2 LamX
def cstOk : D → Bool
  | .str t => decide (t.length ≤ sizeLine) && PyData.strOk t
  | .bl _ => true
  | .non => true
  | _ => false
def vTry (sel : Exc → Option D) (m : ME) : ME := fun s => match m s with
  | .ok x s => .ok x s
  | .err e s => match sel e with
    | some d => if cstOk d = true then .ok (.d d) s else .stuck
    | none => .stuck
  | .stuck => .stuck
section
variable {s : PS} {Q : SV → PS → Prop} {a : ME} {sel : Exc → Option D}
@[simp ↓] theorem T_try : T (vTry sel a s) Q ↔ TE (a s) Q fun e s => OD (sel e) fun d => cstOk d = true ∧ Q (.d d) s := by
  unfold vTry
  cases a s with
  | ok x s => rw [TE_ok, T_ok]
  | err e s =>
    rw [TE_err]
    dsimp only
    cases sel e with
    | none => rw [T_stuck]; exact Iff.rfl
    | some d =>
      dsimp only
      rw [OD_some]
      by_cases h : cstOk d = true
      · rw [if_pos h, T_ok]; exact ⟨fun q => ⟨h, q⟩, fun q => q.2⟩
      · rw [if_neg h, T_stuck]; exact ⟨False.elim, fun q => h q.1⟩
  | stuck => rw [TE_stuck, T_stuck]
end
end Bf
/-! The mirror layer: o == x and o != x, o an instance of a class with its own __eq__, x data. -/
namespace Bf
open PySem PySem.Spec PyProof.Rows L2
def noty (K : PySem.W.Frag) (C : Addr) : Bool := ["NoneType", "bool", "int", "str", "tuple", "list", "dict"].all fun T => PySem.W.subIn K (.type T) (.ref C) == some false
end Bf
/-! The mirror layer: == and != of lists, whatever is in them, if their lengths differ. -/
namespace Bf
open PySem PySem.Spec PyProof.Rows L2
section
variable {X : Cx} {CT : Ctx}
/-- .. as eqD, neD, but two lists may hold anything where their lengths differ -/
def eqN (x y : D) : Option D := match x, y with
  | .lst xs, .lst ys => if xs.length ≠ ys.length then some (.bl false) else eqD x y
  | _, _ => eqD x y
def neN (x y : D) : Option D := match x, y with
  | .lst xs, .lst ys => if xs.length ≠ ys.length then some (.bl true) else neD x y
  | _, _ => neD x y
@[simp] theorem neN_nil {xs : List D} : neN (.lst xs) (.lst []) = some (.bl (!xs.isEmpty)) := by
  unfold neN
  cases xs with
  | nil => rfl
  | cons x xs => rfl
@[simp] theorem eqN_nil {xs : List D} : eqN (.lst xs) (.lst []) = some (.bl xs.isEmpty) := by
  unfold eqN
  cases xs with
  | nil => rfl
  | cons x xs => rfl
end
end Bf
/-! The mirror layer: x in o, str(o), o an instance of a class with its own __contains__, __str__; f-strings of texts and ints. -/
/-! The mirror layer: comprehensions within comprehensions. -/
/-! Comprehensions whose name holds a value already: it comes back. -/
namespace Bf
open PySem PySem.Spec PyProof.Rows L2
theorem T_flc_mapD {it : It'} {xs : List D} {i : Nat} {d0 : D} {g0 : List (Option SV)} {w : List Cell} {mi : MI} {t : MT} {e : ME} {f : D → D} {p : D → Bool} {Q : D → PS → Prop} (hit : T (mi ⟨g0, w⟩) fun j s => j = it ∧ s = ⟨g0, w⟩) (hl : it.list = some xs)
    (hi : g0[i]? = some (some (.d d0))) (hg : Slots w.length g0) (hw : Flat w) (hz : xs.length ≤ sizeLine)
    (step : ∀ x ∈ xs, ∀ v, Flat v → T (t ⟨g0.set i (some (.d x)), w ++ v⟩) fun c s => c = p x ∧ s = ⟨g0.set i (some (.d x)), w ++ v⟩ ∧ (c = true → T (e s) fun y s' => y = .d (f x) ∧ s' = s))
    (h : Q (.lst ((xs.filter p).map f)) ⟨g0, w ++ [.gone]⟩) : T (vLcN mi [i] (hName i) t e ⟨g0, w⟩) fun x s => OP (frz s x) fun y s => Q y s := by
  rw [T_lc]
  refine hit.imp fun j s ⟨e1, e2⟩ => ?_
  subst e1 e2
  rw [It'.fuel_list hl]
  have hil : i < g0.length := (List.getElem?_eq_some_iff.mp hi).1
  have h1 : (g0.set i none)[i]? = some none := List.getElem?_set_self hil
  have sl : Slots w.length (g0.set i none) := fun k m => by
    rcases List.mem_or_eq_of_mem_set m with m | m
    · exact hg k m
    · cases m
  have e1 : wipeG [i] (g0.set i none) = wipeG [i] g0 := by
    show (g0.set i none).set i none = g0.set i none
    rw [List.set_set]
  have e0 : (g0.set i none).set i (some (.d d0)) = g0 := by
    rw [List.set_set]
    refine List.ext_getElem? fun j => ?_
    by_cases hj : i = j
    · subst hj
      rw [hi, List.getElem?_set_self hil]
    · rw [List.getElem?_set_ne hj]
  have key := T_lc_map (t := t) (e := e) (f := f) (p := p) (i := i) (g0 := g0.set i none) (w := w) (m := xs.length) (Q := fun x s => OP (frz { s with g := s.g.set i (some (.d d0)) } x) fun y s => Q y s) hl rfl h1 sl hw hz (fun x hx v hv => by
    rw [List.set_set]
    exact step x hx v hv) (by
      dsimp only
      rw [e0, frz_last hg]
      exact h)
  rw [e1] at key
  refine key.imp fun u s q => ?_
  have eb : backG [i] g0 s.g = (backG [i] (g0.set i none) s.g).set i (some (.d d0)) := by
    show s.g.set i (match g0[i]? with
        | some (some (.d x)) => some (.d x)
        | _ => none) = (s.g.set i (match (g0.set i none)[i]? with
        | some (some (.d x)) => some (.d x)
        | _ => none)).set i (some (.d d0))
    rw [hi, h1, List.set_set]
  rw [eb]
  exact q
theorem T_flc_mapA {it : It'} {xs : List D} {i : Nat} {o : Option SV} {g0 : List (Option SV)} {w : List Cell} {mi : MI} {t : MT} {e : ME} {f : D → D} {p : D → Bool} {Q : D → PS → Prop} (hit : T (mi ⟨g0, w⟩) fun j s => j = it ∧ s = ⟨g0, w⟩) (hl : it.list = some xs)
    (hi : g0[i]? = some o) (ho : Dat' o) (hg : Slots w.length g0) (hw : Flat w) (hz : xs.length ≤ sizeLine)
    (step : ∀ x ∈ xs, ∀ v, Flat v → T (t ⟨g0.set i (some (.d x)), w ++ v⟩) fun c s => c = p x ∧ s = ⟨g0.set i (some (.d x)), w ++ v⟩ ∧ (c = true → T (e s) fun y s' => y = .d (f x) ∧ s' = s))
    (h : Q (.lst ((xs.filter p).map f)) ⟨g0, w ++ [.gone]⟩) : T (vLcN mi [i] (hName i) t e ⟨g0, w⟩) fun x s => OP (frz s x) fun y s => Q y s := by
  rcases ho with rfl | ⟨d, rfl⟩
  · exact T_flc_map hit hl hi hg hw hz step h
  · exact T_flc_mapD hit hl hi hg hw hz step h
end Bf
/-! The mirror layer: instances that stay cells: fields that hold cells, methods of such an instance, an __init__ that keeps the cells it makes, a method that calls itself. -/
namespace Bf
open PySem PySem.Spec PyProof.Rows L2
section
variable {X : Cx} {CT : Ctx} {E0 : XK} {E : Sto → XK} {e o : Expr} {es : List Expr} {m mo mc : ME} {mr : MA} {p pos pos' apos : Pos} {k c : Nat} {fI fa : Addr} {f : Fn} {x fl mn : Str} {cs : List Nat}
theorem RepSF.lookN {K : PySem.W.Frag} {F : Hp} {as : List Addr} {vs : List (Str × V)} {gs : List (Str × SV)} (r : RepSF K CT F as vs gs) {f : Str} (h : gs.lookup f = none) : vs.lookup f = none := by
  induction r with
  | nil => rfl
  | cons h1 _ ih =>
    rw [List.lookup_cons] at h ⊢
    rename_i g _ _ _ _ _
    cases q : f == g with
    | true => rw [q] at h; cases h
    | false =>
      rw [q] at h
      exact ih h
end
/-! ### name = {..} on one line, the name a local -/
end Bf
/-! Weakest preconditions with errors: loops, instances that stay cells; worlds whose cells know nothing behind them. -/
namespace Bf
open PySem PySem.Spec PyProof.Rows L2
/-- no cell of w knows a cell behind n -/
def Clo (n : Nat) (w : List Cell) : Prop := (w.take n).all (cellBelow n) = true
theorem Clo.trunc {n : Nat} {s : PS} (h : Clo n s.w) : Bf.trunc n s = some { g := s.g.map (dropG n), w := s.w.take n } := by
  unfold Clo at h
  unfold Bf.trunc
  rw [if_pos h]
theorem Clo.ret {n : Nat} {w : List Cell} {x : D} (h : Clo n w) : retW n (.d x) w = some (.d x, w.take n) := by
  unfold Clo at h
  unfold retW
  rw [if_pos h]
end Bf
/-! A part that may raise, within a part: the part's value is put in its place. -/
namespace Bf
open PySem PySem.Spec PyProof.Rows L2
section
variable {s : PS} {a : ME} {r : MA} {mi : MI} {E : Exc → PS → Prop}
/-- a value that is there already -/
def vK (x : SV) : ME := fun s => .ok x s
def aK (xs : List SV) : MA := fun s => .ok xs s
def jK (it : It') : MI := fun s => .ok it s
@[simp ↓] theorem T_vK {x : SV} {Q : SV → PS → Prop} : T (vK x s) Q ↔ Q x s := T_ok
@[simp ↓] theorem T_aK {xs : List SV} {Q : List SV → PS → Prop} : T (aK xs s) Q ↔ Q xs s := T_ok
@[simp ↓] theorem T_jK {it : It'} {Q : It' → PS → Prop} : T (jK it s) Q ↔ Q it s := T_ok
end
end Bf
/-! The mirror layer: defs with one keyword-only parameter that has a default. -/
namespace Bf
open PySem PySem.Spec PyProof.Rows L2
section
variable {X : Cx} {CT : Ctx} {E : Sto → XK} {x nm : Str} {k n : Nat} {i : Int} {fa : Addr} {fd : FuncData} {ps ks : List Str} {f : Fn} {a : Expr} {es : List Expr} {kws : List Keyword} {mr mk : MA} {m : ME} {pos p kpos : Pos}
theorem PK.imp {t t' : TA} (h : PK X kws t) (hi : ∀ σ H Q, t' σ H Q → t σ H Q) : PK X kws t' := ⟨fun pos pins s σ H Q I q => h.run pos pins s σ H Q I (hi _ _ _ q)⟩
theorem RepSs.append {K : PySem.W.Frag} {F : Hp} {as : List Addr} {vs zs : List V} {xs ys : List SV} (h : RepSs K CT F as vs xs) (g : RepSs K CT F as zs ys) : RepSs K CT F as (vs ++ zs) (xs ++ ys) := by
  induction h with
  | nil => exact g
  | cons h1 _ ih => exact .cons h1 ih
end
end Bf
/-! The mirror layer: dict comprehensions with whole numbers or texts as keys (printed by p74.py out of P25..P28). -/
namespace Bf
open PySem PySem.Spec PyProof.Rows L2
def keyO : D → Option Key
  | .int i => some (.inl i)
  | .str x => some (.inr x)
  | _ => none
def putI (kvs : List (D × D)) (k : Key) (d : D) : List (D × D) :=
  if (kvs.any fun p => decide (keyO p.1 = some k)) = true then kvs.map (fun p => if keyO p.1 = some k then (p.1, d) else p) else kvs ++ [(keyD k, d)]
theorem keyO_map : ∀ k : Key, keyO (keyD k) = some k
  | .inl i => rfl
  | .inr x => rfl
section
variable {K : PySem.W.Frag} {CT : Ctx} {F : Hp} {as : List Addr} {H : Hp} {σ : Sto} {s : PS}
theorem RepK.length : ∀ {vs : List (Key × V)} {ds : List (D × D)}, RepK K CT F vs ds → vs.length = ds.length
  | _, [], r => by cases r; rfl
  | _, _ :: ds, r => by
    cases r with
    | cons r1 r2 => rw [List.length_cons, List.length_cons, RepK.length r2]
theorem RepK.snoc {k : Key} {v : V} {d : D} (h : Rep K CT F v d) : ∀ {vs : List (Key × V)} {ds : List (D × D)}, RepK K CT F vs ds → RepK K CT F (vs ++ [(k, v)]) (ds ++ [(keyD k, d)])
  | _, [], r => by cases r; exact .cons h .nil
  | _, _ :: ds, r => by
    cases r with
    | cons r1 r2 => exact .cons r1 (RepK.snoc h r2)
theorem RepK.any {k : Key} : ∀ {vs : List (Key × V)} {ds : List (D × D)}, RepK K CT F vs ds → (vs.any fun p => decide (p.1 = k)) = ds.any fun p => decide (keyO p.1 = some k)
  | _, [], r => by cases r; rfl
  | _, _ :: ds, r => by
    cases r with
    | cons r1 r2 =>
      rw [List.any_cons, List.any_cons, RepK.any r2]
      simp only [keyO_map, Option.some.injEq]
theorem RepK.repl {k : Key} {v : V} {d : D} (h : Rep K CT F v d) : ∀ {vs : List (Key × V)} {ds : List (D × D)}, RepK K CT F vs ds → RepK K CT F (vs.map fun p => if p.1 = k then (p.1, v) else p) (ds.map fun p => if keyO p.1 = some k then (p.1, d) else p)
  | _, [], r => by cases r; exact .nil
  | _, _ :: ds, r => by
    cases r with
    | @cons k' v' d' vs' _ r1 r2 =>
      rw [List.map_cons, List.map_cons]
      simp only [keyO_map, Option.some.injEq]
      by_cases e : k' = k
      · rw [if_pos e, if_pos e]; exact .cons h (RepK.repl h r2)
      · rw [if_neg e, if_neg e]; exact .cons r1 (RepK.repl h r2)
theorem RepK.put {k : Key} {v : V} {d : D} {vs : List (Key × V)} {ds : List (D × D)} (r : RepK K CT F vs ds) (h : Rep K CT F v d) : RepK K CT F (putK vs k v) (putI ds k d) := by
  unfold putK putI
  rw [r.any]
  split
  · exact r.repl h
  · exact r.snoc h
end
end Bf
/-! The mirror layer: in a dict of whole numbers; dict(pairs) and d.update(d2), tuples as keys. -/
namespace L2
open PySem PySem.Spec PyProof.Rows
/-! ### d.update(d2) -/
end L2
/-! The mirror layer: in a dict of whole numbers, dict(pairs), d.update(d2), while. -/
namespace Bf
open PySem PySem.Spec PyProof.Rows L2
/-! ### y in a dict of whole numbers or texts -/
def lookI (ds : List (D × D)) (k : Key) : Option D := (ds.find? fun p => decide (keyO p.1 = some k)).map (·.2)
theorem lookI_cons (p : D × D) (ds : List (D × D)) (k : Key) : lookI (p :: ds) k = if keyO p.1 = some k then some p.2 else lookI ds k := by
  unfold lookI
  rw [List.find?_cons]
  by_cases h : keyO p.1 = some k
  · rw [if_pos h, decide_eq_true h]; rfl
  · rw [if_neg h, decide_eq_false h]
section
variable {X : Cx} {CT : Ctx} {F H : Hp} {v : V} {y : D} {as : List Addr} {σ : Sto} {s : PS}
theorem RepK.look {k : Key} : ∀ {vs : List (Key × V)} {ds : List (D × D)}, RepK X.K CT F vs ds → (∀ d, lookI ds k = some d → ∃ v, valV vs k = some v ∧ Rep X.K CT F v d) ∧ (lookI ds k = none → valV vs k = none)
  | _, [], r => by
    cases r
    exact ⟨(fun d e => by cases e), fun _ => rfl⟩
  | _, _ :: ds, r => by
    cases r with
    | @cons k' v' d' vs' _ r1 r2 =>
      rw [lookI_cons]
      simp only [keyO_map, Option.some.injEq]
      by_cases e : k' = k
      · rw [if_pos e, valV_pos (p := (k', v')) e]
        exact ⟨(fun d q => by cases q; exact ⟨_, rfl, r1⟩), (fun q => by cases q)⟩
      · rw [if_neg e, valV_neg (p := (k', v')) e]
        exact RepK.look r2
end
/-! ### dict(pairs) -/
end Bf
/-! The mirror layer: while, while (x := e) is not None; rules for dict(pairs), update, in a dict of whole numbers. -/
namespace Bf
open PySem PySem.Spec PyProof.Rows L2
def whGo (n : Nat) (t : MT) (body : MS) : Nat → PS → R Fl
  | 0, _ => .stuck
  | f + 1, s => (t s).bind fun c s => if c = true then (body s).bind fun fl s => match fl with
      | .nx => match trunc n s with
        | some s => whGo n t body f s
        | none => .stuck
      | .ct => match trunc n s with
        | some s => whGo n t body f s
        | none => .stuck
      | .bk => .ok .nx s
      | .rt x => .ok (.rt x) s
    else .ok .nx s
@[irreducible] def fuelW : Nat := 2 ^ 64
def sWhile (t : MT) (body : MS) : MS := fun s => whGo s.w.length t body fuelW s
section
variable {X : Cx} {CT : Ctx} {E : Sto → XK} {pos p ppos : Pos}
theorem ms_while {c : Expr} {body : List Stmt} {mt : MT} {mb : MS} (hx : Cq X E) (hc : PT X c (upT X.K CT E mt)) (hb : PSs X body (upS X.K CT E mb)) : L2.PS X (.While c body [] pos) (upS X.K CT E (sWhile mt mb)) :=
  ps_imp (ps_while hx.po hc hb) fun D σ H ⟨F, as, s, n, h⟩ => by
    have h : Out X.K CT (fun _ => True) E F as (whGo s.w.length mt mb fuelW s) _ := h
    generalize hk : s.w.length = k at h
    have hk' : as.length = k := by rw [← n.wk.len]; exact hk
    refine ⟨fun m σ H => ∃ F as s, Env X.K CT F as H σ s ∧ as.length = k ∧ Out X.K CT (fun _ => True) E F as (whGo k mt mb m s) fun f _ F' as' σ' H' => match f with
      | .nx => D.nx σ' H'
      | .bk => D.bk σ' H'
      | .ct => D.ct σ' H'
      | .rt x => ∀ v, RepS X.K CT F' as' v x → D.rt v H', ⟨fuelW, F, as, s, n, hk', h⟩, ?_⟩
    rintro m σ H ⟨F, as, s, n, hl, h⟩
    cases m with
    | zero => unfold whGo at h; exact h.elim
    | succ m =>
      unfold whGo at h
      refine ⟨F, as, s, n, (h.bind0 fun _ _ => trivial).imp (fun _ z => z) fun b s1 F1 as1 σ1 H1 q0 o1 e1 n1 _ => ?_⟩
      subst o1
      have h1 := h
      rw [q0, bind_ok] at h1
      cases b with
      | false =>
        rw [if_neg Bool.false_ne_true] at h1 ⊢
        exact Out.there h1 trivial e1 n1
      | true =>
        rw [if_pos rfl] at h1 ⊢
        refine ⟨fun σ' H' => ∃ F as s, Env X.K CT F as H' σ' s ∧ as.length = k ∧ Out X.K CT (fun _ => True) E F as (whGo k mt mb m s) fun f _ F' as' σ' H' => match f with
          | .nx => D.nx σ' H'
          | .bk => D.bk σ' H'
          | .ct => D.ct σ' H'
          | .rt x => ∀ v, RepS X.K CT F' as' v x → D.rt v H', fun σ' H' z => ⟨m, Nat.lt_succ_self m, z⟩, ?_⟩
        refine ⟨F1, as1, s1, n1, ((Out.ext e1 h1).bind0 fun _ _ => trivial).imp (fun _ z => z) fun f s3 F3 as3 σ3 H3 qb _ e3 n3 h3 => ?_⟩
        rw [qb] at h1
        have h2 : Out X.K CT (fun _ => True) E F as (match f with
          | .nx => match trunc k s3 with
            | some s => whGo k mt mb m s
            | none => .stuck
          | .ct => match trunc k s3 with
            | some s => whGo k mt mb m s
            | none => .stuck
          | .bk => .ok .nx s3
          | .rt x => .ok (.rt x) s3) _ := h1
        have next : Out X.K CT (fun _ => True) E F as (match trunc k s3 with
            | some s => whGo k mt mb m s
            | none => .stuck) (fun f _ F' as' σ' H' => match f with
          | .nx => D.nx σ' H'
          | .bk => D.bk σ' H'
          | .ct => D.ct σ' H'
          | .rt x => ∀ v, RepS X.K CT F' as' v x → D.rt v H') → ∃ F as s, Env X.K CT F as H3 σ3 s ∧ as.length = k ∧ Out X.K CT (fun _ => True) E F as (whGo k mt mb m s) fun f _ F' as' σ' H' => match f with
          | .nx => D.nx σ' H'
          | .bk => D.bk σ' H'
          | .ct => D.ct σ' H'
          | .rt x => ∀ v, RepS X.K CT F' as' v x → D.rt v H' := fun w => by
          cases qt : trunc k s3 with
          | none => simp only [qt] at w; exact w.elim
          | some s4 =>
            simp only [qt] at w
            have e := e1.trans e3
            have n4 := n3.trunc qt
            rw [take_ext e hl] at n4
            have ef : Ext F as F3 as := Ext.sub e.1
            exact ⟨F3, as, s4, n4, hl, Out.ext ef w⟩
        cases f with
        | nx => exact next h2
        | ct => exact next h2
        | bk => exact Out.there h2 trivial (e1.trans e3) n3
        | rt x => exact Out.there h2 trivial (e1.trans e3) n3
end
end Bf
/-! Weakest preconditions of P76, P77: in a dict of whole numbers, dict(pairs), update, while. -/
namespace Bf
open PySem L2
theorem fuelW_lt {m : Nat} (h : m < 2 ^ 64) : m < fuelW := by unfold fuelW; exact h
section
variable {s : PS} {n : Nat} {t : MT} {body : MS} {Q : Fl → PS → Prop} {E : Exc → PS → Prop}
/-- what a turn leaves: the next turn's invariant with a smaller measure -/
def WhN (n : Nat) (Inv : Nat → PS → Prop) (m : Nat) (Q : Fl → PS → Prop) (fl : Fl) (s : PS) : Prop := match fl with
  | .nx => ∃ s', trunc n s = some s' ∧ ∃ m', m' < m ∧ Inv m' s'
  | .ct => ∃ s', trunc n s = some s' ∧ ∃ m', m' < m ∧ Inv m' s'
  | .bk => Q .nx s
  | .rt x => Q (.rt x) s
@[simp] theorem WhN_nx {Inv : Nat → PS → Prop} {m : Nat} : WhN n Inv m Q .nx s ↔ ∃ s', trunc n s = some s' ∧ ∃ m', m' < m ∧ Inv m' s' := Iff.rfl
@[simp] theorem WhN_ct {Inv : Nat → PS → Prop} {m : Nat} : WhN n Inv m Q .ct s ↔ ∃ s', trunc n s = some s' ∧ ∃ m', m' < m ∧ Inv m' s' := Iff.rfl
@[simp] theorem WhN_bk {Inv : Nat → PS → Prop} {m : Nat} : WhN n Inv m Q .bk s ↔ Q .nx s := Iff.rfl
@[simp] theorem WhN_rt {Inv : Nat → PS → Prop} {m : Nat} {x : SV} : WhN n Inv m Q (.rt x) s ↔ Q (.rt x) s := Iff.rfl
theorem T_whGo (Inv : Nat → PS → Prop) (step : ∀ m s, Inv m s → T (t s) fun c s => if c = true then T (body s) (WhN n Inv m Q) else Q .nx s) : ∀ (f m : Nat) (s : PS), m < f → Inv m s → T (whGo n t body f s) Q := by
  intro f
  induction f with
  | zero => intro m s h; omega
  | succ f ih =>
    intro m s hm h
    unfold whGo
    simp only [T_bind]
    refine (step m s h).imp fun c s1 h1 => ?_
    cases c with
    | false => rw [if_neg Bool.false_ne_true] at h1 ⊢; exact T_ok.mpr h1
    | true =>
      rw [if_pos rfl] at h1 ⊢
      rw [T_bind]
      refine h1.imp fun fl s2 h2 => ?_
      cases fl with
      | nx => obtain ⟨s', e, m', h3, h4⟩ := h2; simp only [e]; exact ih m' s' (by omega) h4
      | ct => obtain ⟨s', e, m', h3, h4⟩ := h2; simp only [e]; exact ih m' s' (by omega) h4
      | bk => exact T_ok.mpr h2
      | rt x => exact T_ok.mpr h2
theorem T_sWhile (Inv : Nat → PS → Prop) (m : Nat) (hm : m < 2 ^ 64) (h0 : Inv m s) (step : ∀ m s1, Inv m s1 → T (t s1) fun c s2 => if c = true then T (body s2) (WhN s.w.length Inv m Q) else Q .nx s2) : T (sWhile t body s) Q :=
  T_whGo Inv step fuelW m s (fuelW_lt hm) h0
variable {i : Nat} {e : ME}
end
end Bf
/-! Hashes of cells: those of one bar are different. -/
/-! Comprehensions: any target, parts that leave cells behind, slots that held data. -/
namespace Bf
open PySem L2
theorem wipe_get (g : List (Option SV)) (j : Nat) : ∀ own : List Nat, (wipeG own g)[j]? = if j ∈ own ∧ j < g.length then some none else g[j]?
  | [] => by simp [wipeG]
  | i :: own => by
    show ((wipeG own g).set i none)[j]? = _
    have ih := wipe_get g j own
    have hl : (wipeG own g).length = g.length := by
      clear ih
      induction own with
      | nil => rfl
      | cons k own ih => show ((wipeG own g).set k none).length = _; rw [List.length_set, ih]
    by_cases hij : i = j
    · subst hij
      by_cases hlt : i < g.length
      · rw [List.getElem?_set_self (by omega), if_pos ⟨List.mem_cons_self, hlt⟩]
      · rw [if_neg fun h => hlt h.2, List.getElem?_eq_none (by rw [List.length_set]; omega), List.getElem?_eq_none (by omega)]
    · rw [List.getElem?_set_ne hij, ih]
      have : (j ∈ i :: own) ↔ j ∈ own := by
        rw [List.mem_cons]
        exact ⟨fun h => h.resolve_left fun e => hij e.symm, .inr⟩
      simp only [this]
theorem back_get (g0 g : List (Option SV)) (j : Nat) : ∀ own : List Nat, (backG own g0 g)[j]? = if j ∈ own ∧ j < g.length then some (match g0[j]? with
    | some (some (.d x)) => some (.d x)
    | _ => none) else g[j]?
  | [] => by simp [backG]
  | i :: own => by
    show ((backG own g0 g).set i (match g0[i]? with
      | some (some (.d x)) => some (.d x)
      | _ => none))[j]? = _
    have ih := back_get g0 g j own
    have hl : (backG own g0 g).length = g.length := by
      clear ih
      induction own with
      | nil => rfl
      | cons k own ih => show ((backG own g0 g).set k _).length = _; rw [List.length_set, ih]
    by_cases hij : i = j
    · subst hij
      by_cases hlt : i < g.length
      · rw [List.getElem?_set_self (by omega), if_pos ⟨List.mem_cons_self, hlt⟩]
      · rw [if_neg fun h => hlt h.2, List.getElem?_eq_none (by rw [List.length_set]; omega), List.getElem?_eq_none (by omega)]
    · rw [List.getElem?_set_ne hij, ih]
      have : (j ∈ i :: own) ↔ j ∈ own := by
        rw [List.mem_cons]
        exact ⟨fun h => h.resolve_left fun e => hij e.symm, .inr⟩
      simp only [this]
theorem wipe_len (g : List (Option SV)) : ∀ own : List Nat, (wipeG own g).length = g.length
  | [] => rfl
  | i :: own => by show ((wipeG own g).set i none).length = _; rw [List.length_set, wipe_len g own]
theorem back_dat {own : List Nat} {g0 : List (Option SV)} (ho : ∀ i ∈ own, ∃ o, g0[i]? = some o ∧ Dat' o) : backG own g0 (wipeG own g0) = g0 := by
  refine List.ext_getElem? fun j => ?_
  rw [back_get, wipe_get, wipe_len]
  by_cases h : j ∈ own ∧ j < g0.length
  · rw [if_pos h]
    obtain ⟨o, e, d⟩ := ho j h.1
    rw [e]
    rcases d with rfl | ⟨x, rfl⟩ <;> rfl
  · rw [if_neg h, if_neg h]
/-- a list comprehension, a cell -/
theorem T_lcG {it : It'} {xs : List D} {own : List Nat} {G : MG} {s0 : PS} {g0 g1 : List (Option SV)} {w : List Cell} {mi : MI} {t : MT} {e : ME} {f : D → D} {p : D → Bool} {R : SV → PS → Prop} (tg : D → List (Option SV)) (hit : T (mi s0) fun j s => j = it ∧ s = ⟨g0, w⟩) (hl : it.list = some xs)
    (ho : ∀ i ∈ own, ∃ o, g0[i]? = some o ∧ Dat' o) (hw0 : wipeG own g0 = g1) (hw : Flat w) (hz : xs.length ≤ sizeLine)
    (hT : ∀ y ∈ xs, ∀ v, T (G (.d y) ⟨g1, w ++ v⟩) fun _ s => s = ⟨tg y, w ++ v⟩) (hg : ∀ y ∈ xs, Slots w.length (tg y)) (hwp : ∀ y ∈ xs, wipeG own (tg y) = g1)
    (step : ∀ y ∈ xs, ∀ v, Flat v → T (t ⟨tg y, w ++ v⟩) fun c s => c = p y ∧ ∃ v', Flat v' ∧ s = ⟨tg y, w ++ v ++ v'⟩ ∧ (c = true → T (e s) fun z s' => z = .d (f y) ∧ ∃ v'', Flat v'' ∧ s' = ⟨tg y, w ++ v ++ v''⟩))
    (h : R (.cell w.length) ⟨g0, w ++ [.lst ((xs.filter p).map f)]⟩) : T (vLcN mi own G t e s0) R := by
  rw [T_lc]
  refine hit.imp fun j s ⟨e1, e2⟩ => ?_
  subst e1 e2
  rw [It'.fuel_list hl]
  refine T_lcGo hl (Inv := fun j acc s => s = ⟨g1, w ++ [.lst acc]⟩ ∧ acc = ((xs.take j).filter p).map f) (fun j x acc s hxj hI => ?_) (fun acc s hI => ?_) hz _ 0 [] _ (by simp) (by simp) ⟨by rw [hw0], by simp⟩
  · obtain ⟨rfl, ha⟩ := hI
    have hxm : x ∈ xs := List.mem_of_getElem? hxj
    refine (hT x hxm [.lst acc]).imp fun _ s e0 => ?_
    subst e0
    have tk : (xs.take (j + 1)).filter p = (xs.take j).filter p ++ if p x = true then [x] else [] := by
      rw [List.take_add_one, hxj, List.filter_append]
      by_cases hp : p x = true <;> simp [hp]
    refine (step x hxm [.lst acc] (by simp)).imp fun c s hc => ?_
    obtain ⟨rfl, v', fv, rfl, he⟩ := hc
    have cut : ∀ (a : List D) (v : List Cell), List.take (w.length + 1) (w ++ [Cell.lst a] ++ v) = w ++ [Cell.lst a] := fun a v => by
      have := List.take_left' (l₁ := w ++ [Cell.lst a]) (l₂ := v) (i := w.length + 1) (by simp)
      exact this
    cases hp : p x with
    | false =>
      simp only [Bool.false_eq_true, if_false]
      rw [Flat.trunc ((hw.append (Flat.one rfl)).append fv)]
      refine ⟨_, rfl, ?_, by rw [tk, ha, hp]; simp⟩
      simp only [(hg x hxm).drop (Nat.le_succ _), hwp x hxm]
      rw [cut]
    | true =>
      simp only [if_true]
      refine (he hp).imp fun y s' hy => ?_
      obtain ⟨rfl, v'', fv', rfl⟩ := hy
      rw [frz_d]
      have hset : (w ++ [Cell.lst acc] ++ v'').set w.length (.lst (acc ++ [f x])) = w ++ [Cell.lst (acc ++ [f x])] ++ v'' := by simp
      refine ⟨by simp, ⟨(tg x).map (dropG (w.length + 1)), List.take (w.length + 1) (w ++ [Cell.lst (acc ++ [f x])] ++ v'')⟩, ?_, ?_, by rw [tk, ha, hp]; simp⟩
      · dsimp only
        rw [hset]
        exact Flat.trunc ((hw.append (Flat.one rfl)).append fv') _
      · simp only [(hg x hxm).drop (Nat.le_succ _), hwp x hxm]
        rw [cut]
  · obtain ⟨rfl, ha⟩ := hI
    rw [List.take_length] at ha
    subst ha
    dsimp only
    rw [← hw0, back_dat ho]
    exact h
/-- .. frozen -/
theorem T_flcN {it : It'} {xs : List D} {own : List Nat} {G : MG} {s0 : PS} {g0 g1 : List (Option SV)} {w : List Cell} {mi : MI} {t : MT} {e : ME} {f : D → D} {p : D → Bool} {R : D → PS → Prop} (tg : D → List (Option SV)) (hit : T (mi s0) fun j s => j = it ∧ s = ⟨g0, w⟩) (hl : it.list = some xs)
    (ho : ∀ i ∈ own, ∃ o, g0[i]? = some o ∧ Dat' o) (hw0 : wipeG own g0 = g1) (hg0 : Slots w.length g0) (hw : Flat w) (hz : xs.length ≤ sizeLine)
    (hT : ∀ y ∈ xs, ∀ v, T (G (.d y) ⟨g1, w ++ v⟩) fun _ s => s = ⟨tg y, w ++ v⟩) (hg : ∀ y ∈ xs, Slots w.length (tg y)) (hwp : ∀ y ∈ xs, wipeG own (tg y) = g1)
    (step : ∀ y ∈ xs, ∀ v, Flat v → T (t ⟨tg y, w ++ v⟩) fun c s => c = p y ∧ ∃ v', Flat v' ∧ s = ⟨tg y, w ++ v ++ v'⟩ ∧ (c = true → T (e s) fun z s' => z = .d (f y) ∧ ∃ v'', Flat v'' ∧ s' = ⟨tg y, w ++ v ++ v''⟩))
    (h : R (.lst ((xs.filter p).map f)) ⟨g0, w ++ [.gone]⟩) : T (vLcN mi own G t e s0) fun x s => OP (frz s x) fun y s => R y s := by
  refine T_lcG tg hit hl ho hw0 hw hz hT hg hwp step ?_
  rw [frz_last hg0]
  exact h
end Bf
/-! Comprehensions over a list's cell (printed by p81.py out of P11 and P80). -/
namespace Bf
open PySem L2
structure Lists (it : It') (xs : List D) (w : List Cell) : Prop where
  at' : ∀ g v i, it.at ⟨g, w ++ v⟩ i = some xs[i]?
  fuel : ∀ g, it.fuel ⟨g, w⟩ = xs.length
theorem Lists.of {it : It'} {xs : List D} {w : List Cell} (h : it.list = some xs) : Lists it xs w := ⟨fun g v i => It'.at_list h _ i, fun g => It'.fuel_list h _⟩
theorem Lists.cell {c : Nat} {xs : List D} {w : List Cell} (h : w[c]? = some (.lst xs)) : Lists (.cell c) xs w := by
  have hc : c < w.length := (List.getElem?_eq_some_iff.mp h).1
  refine ⟨fun g v i => ?_, fun g => ?_⟩
  · show (match (w ++ v)[c]? with
      | some (.lst xs) => some xs[i]?
      | _ => none) = _
    rw [List.getElem?_append_left hc, h]
  · show (match w[c]? with
      | some (.lst xs) => xs.length
      | _ => 0) = _
    rw [h]
end Bf
/-! Dict comprehensions of two clauses with whole numbers or texts as keys. -/
/-! The mirror layer: == of pairs of an own object and texts; a tuple times a number. -/
namespace Bf
open PySem PySem.Spec PyProof.Rows L2
/-! ### growth: tables may grow -/
structure Gr (T : List (Addr × Str)) (H H' : Hp) : Prop where
  ext : LamX.ExtN H H'
  tabs : LamX.Tabs T H → LamX.Tabs T H'
theorem Gr.refl {T : List (Addr × Str)} {H : Hp} : Gr T H H := ⟨.refl H, id⟩
theorem Gr.trans {T : List (Addr × Str)} {H H1 H2 : Hp} (a : Gr T H H1) (b : Gr T H1 H2) : Gr T H H2 := ⟨a.ext.trans b.ext, fun t => b.tabs (a.tabs t)⟩
theorem Gr.of {T : List (Addr × Str)} {H H' : Hp} (e : L2.Ext H H') : Gr T H H' := ⟨.of e, fun t => t.ext e⟩
theorem Gr.lst {T : List (Addr × Str)} {H H' : Hp} (g : Gr T H H') {a : Addr} {vs : List V} (h : H a = some (.lst vs)) : H' a = some (.lst vs) := g.ext _ _ h fun _ z => nomatch z
theorem Gr.sqT {T : List (Addr × Str)} {K : PySem.W.Frag} {H H' : Hp} (g : Gr T H H') {a : Addr} {vs : List V} (h : SqT K H a vs) : SqT K H' a vs := by
  rcases h with h | h
  · rcases h with h | ⟨o, h⟩
    · exact .inl (.inl (g.ext _ _ h fun _ z => nomatch z))
    · exact .inl (.inr ⟨o, g.ext _ _ h fun _ z => nomatch z⟩)
  · exact .inr h
section
variable {K : PySem.W.Frag} {CT : Ctx} {F H H' : Hp} {as : List Addr} {σ : Sto} {s : PS}
theorem Gr.cell (g : Gr CT.tabs H H') {a : Addr} {c : Cell} (h : CellOk K CT F as H a c) : CellOk K CT F as H' a c := by
  cases c with
  | lst xs =>
    obtain ⟨h0, vs, h1, h2⟩ := h
    exact ⟨h0, vs, g.ext _ _ h1 (fun _ z => nomatch z), h2⟩
  | dic xs =>
    obtain ⟨h0, vs, h1, h2⟩ := h
    exact ⟨h0, vs, g.ext _ _ h1 (fun _ z => nomatch z), h2⟩
  | dit xs =>
    obtain ⟨h0, vs, h1, h2⟩ := h
    exact ⟨h0, vs, g.ext _ _ h1 (fun _ z => nomatch z), h2⟩
  | ins c fs =>
    obtain ⟨h0, dx, vs, h1, h2⟩ := h
    exact ⟨h0, dx, vs, g.ext _ _ h1 (fun _ z => nomatch z), h2⟩
  | gone => trivial
  | lsv xs =>
    obtain ⟨h0, vs, h1, h2⟩ := h
    exact ⟨h0, vs, g.ext _ _ h1 (fun _ z => nomatch z), h2⟩
end
/-! ### == that answers True -/
section
variable {X : Cx} {CT : Ctx} {n m k c : Nat} {Dq Dq' : Eqv} {E0 : XK} {fa : Addr} {fd : FuncData} {ps : List Str} {f : Fn}
def EqT (X : Cx) (T : List (Addr × Str)) (n : Nat) (Dq : Eqv) : Prop := ∀ (A : Around) (pins : List (Addr × Obj)) (s : Shared) (σ : Sto) (H : Hp) (x y : V) (u v : Value), L2.Sub X n A → Inv X pins σ H s → RelV x u → RelV y v → Dq x y H →
  wpAny (model X.prog X.w) A (eqBool u v) (fun r s' => r = true ∧ ∃ H', Inv X pins σ H' s' ∧ Gr T H H') X.xe s
theorem EqT.of {T : List (Addr × Str)} (h : EqG X n Dq) : EqT X T n Dq := fun A pins s σ H x y u v sb I rx ry d =>
  wpAny_mono (h A pins s σ H x y u v sb I rx ry d) (fun r s' ⟨e, H', I', z⟩ => ⟨e, H', I', .of z⟩) fun _ _ z => z
theorem EqT.or {T : List (Addr × Str)} (h : EqT X T n Dq) (h' : EqT X T m Dq') : EqT X T (max n m) (fun x y H => Dq x y H ∨ Dq' x y H) := fun A pins s σ H x y u v sb I rx ry d => d.elim
  (h A pins s σ H x y u v (sb.mono (Nat.le_max_left _ _)) I rx ry) (h' A pins s σ H x y u v (sb.mono (Nat.le_max_right _ _)) I rx ry)
/-! ### two items -/
def Two (Dq Dq' : Eqv) (xs ys : List V) (H : Hp) : Prop := ∃ x x' y y', xs = [x, x'] ∧ ys = [y, y'] ∧ Dq x y H ∧ Dq' x' y' H
theorem Two.len {xs ys : List V} {H : Hp} (p : Two Dq Dq' xs ys H) : xs.length = 2 ∧ ys.length = 2 := by
  obtain ⟨x, x', y, y', rfl, rfl, _⟩ := p
  exact ⟨rfl, rfl⟩
/-! ### the mirror -/
theorem EqT.up {T : List (Addr × Str)} {Dq : Eqv} (h : EqT X T n Dq) (e : n ≤ m) : EqT X T m Dq := fun A pins s σ H x y u v sb => h A pins s σ H x y u v (sb.mono e)
variable {a b : Expr} {ma mb : ME} {pos : Pos}
/-! ### a tuple times a number -/
end
end Bf
/-! The mirror layer: a try statement whose clauses return texts, in the middle of a def. -/
/-! The mirror layer: methods of an instance's cell: without arguments, with a keyword-only one; properties. -/
/-! The mirror layer: name += a number. -/
namespace Bf
open PySem PySem.Spec PyProof.Rows L2
def sAugN (i : Nat) (e : ME) : MS := fun s => match s.g[i]? with
  | some (some (.d (.int a))) => (e s).bind fun y s => match y with
    | .d (.int b) => if i < s.g.length then .ok .nx { s with g := s.g.set i (some (.d (.int (a + b)))) } else .stuck
    | _ => .stuck
  | _ => .stuck
section
variable {X : Cx} {CT : Ctx} {E : Sto → XK} {e : Expr} {m : ME} {i : Nat} {x : Str} {pos pos' : Pos}
theorem ms_augN (hx : Cq X E) (hi : X.N[i]? = some x) (hl : Loc X.env.scope x) (he : PE X e (up X.K CT E m)) (hf : X.fn x = true ∨ X.env.scope.names.lookup x = some .local := by first | exact .inl rfl | exact .inr rfl) :
    L2.PS X (.AugAssign (.Name x pos') .Add e pos) (upS X.K CT E (sAugN i m)) :=
  ps_imp (ps_aug hx.nd hi hl he ip_add hf) fun D σ H ⟨F, as, s, n, h⟩ => by
    unfold sAugN at h
    cases q : s.g[i]? with
    | none => simp only [q] at h; exact h.elim
    | some o =>
      cases o with
      | none => simp only [q] at h; exact h.elim
      | some y =>
        cases y with
        | cell k => simp only [q] at h; exact h.elim
        | d z =>
          cases z with
          | int a =>
            simp only [q] at h
            obtain ⟨v, e1, r⟩ := n.sl i _ q
            cases r
            refine ⟨.int a, e1, up_seq n h trivial fun w y s1 F1 as1 H1 x1 n1 r1 h1 => ?_⟩
            cases y with
            | cell k => exact h1.elim
            | d z =>
              cases z with
              | int b =>
                dsimp only at h1
                split at h1
                · rename_i hl
                  cases r1
                  exact ⟨a, b, rfl, rfl, h1.here (σ := σ.set i (some (.int (a + b)))) trivial (n1.setG (v := .int (a + b)) (x := .d (.int (a + b))) (Rep.int (a + b)) hl)⟩
                · exact h1.elim
              | _ => exact h1.elim
          | _ => simp only [q] at h; exact h.elim
end
section
variable {e : ME} {s : PS} {R : Fl → PS → Prop} {i : Nat} {a : Int}
theorem T_augN (h : s.g[i]? = some (some (.d (.int a)))) (q : T (e s) fun y s => ∃ b, y = .d (.int b) ∧ i < s.g.length ∧ R .nx { s with g := s.g.set i (some (.d (.int (a + b)))) }) : T (sAugN i e s) R := by
  unfold sAugN
  simp only [h]
  rw [T_bind]
  refine q.imp fun y s ⟨b, e1, hl, q⟩ => ?_
  subst e1
  dsimp only
  rw [if_pos hl]
  exact T_ok.mpr q
end
end Bf
/-! [e for a, b in .. for c in ..] -/
namespace Bf
open PySem L2
theorem wipe_to {own : List Nat} {g g0 : List (Option SV)} (h0 : ∀ i ∈ own, g0[i]? = some none) (hl : g.length = g0.length) (hs : ∀ j, j ∉ own → g[j]? = g0[j]?) : wipeG own g = g0 := by
  refine List.ext_getElem? fun j => ?_
  rw [wipe_get]
  by_cases h : j ∈ own
  · rw [if_pos ⟨h, by rw [hl]; exact (List.getElem?_eq_some_iff.mp (h0 j h)).1⟩, h0 j h]
  · rw [if_neg fun z => h z.1, hs j h]
section
variable {it : It'} {ps : List (D × D)} {i k j : Nat} {g0 : List (Option SV)} {w : List Cell} {mi i1 : MI} {e : ME} {ys : D × D → List D} {f : D × D → D → D}
theorem T_lc2PGo (hl : it.list = some (ps.map fun p => .tup [p.1, p.2])) (hi : g0[i]? = some none) (hk : g0[k]? = some none) (hj : g0[j]? = some none) (hik : i ≠ k) (hij : i ≠ j) (hkj : k ≠ j) (hg : Slots w.length g0) (hw : Flat w)
    (inner : ∀ p ∈ ps, ∀ v, Flat v → T (i1 ⟨(g0.set i (some (.d p.1))).set k (some (.d p.2)), w ++ v⟩) fun it1 s => it1.list = some (ys p) ∧ isFix it1 = true ∧ s = ⟨(g0.set i (some (.d p.1))).set k (some (.d p.2)), w ++ v⟩)
    (step : ∀ p ∈ ps, ∀ y ∈ ys p, ∀ v, Flat v → T (e ⟨((g0.set i (some (.d p.1))).set k (some (.d p.2))).set j (some (.d y)), w ++ v⟩) fun z s => z = .d (f p y) ∧ s = ⟨((g0.set i (some (.d p.1))).set k (some (.d p.2))).set j (some (.d y)), w ++ v⟩) :
    ∀ (m p : Nat) (acc : List D), p + m = ps.length → acc.length + ((ps.drop p).flatMap fun x => (ys x).map (f x)).length ≤ sizeLine → T (lc2Go it w.length [i, k, j] (hTup [hName i, hName k]) cYes i1 [j] (hName j) cYes e m p ⟨g0, w ++ [.lst acc]⟩) fun _ s => s = ⟨g0, w ++ [.lst (acc ++ (ps.drop p).flatMap fun x => (ys x).map (f x))]⟩ := by
  intro m
  induction m with
  | zero =>
    intro p acc hp hz
    unfold lc2Go
    rw [It'.at_list hl, List.getElem?_eq_none (by rw [List.length_map]; omega)]
    simp only [T_ok]
    rw [List.drop_of_length_le (by omega)]
    simp
  | succ m ih =>
    intro p acc hp hz
    unfold lc2Go
    have hlt : p < ps.length := by omega
    rw [It'.at_list hl, List.getElem?_map, List.getElem?_eq_getElem hlt]
    have hil : i < g0.length := (List.getElem?_eq_some_iff.mp hi).1
    have hkl : k < g0.length := (List.getElem?_eq_some_iff.mp hk).1
    have hx := List.getElem_mem hlt
    rw [List.drop_eq_getElem_cons hlt, List.flatMap_cons] at hz ⊢
    generalize ps[p] = x at *
    simp only [Option.map_some, T_bind, T_nox, T_hTup2, T_name, cYes, T_ok, if_true, List.length_set]
    refine ⟨hil, hkl, ?_⟩
    refine (inner x hx [.lst acc] (by simp)).imp fun it1 s ⟨e1, e2, e3⟩ => ?_
    subst e3
    rw [if_pos e2]
    have hs2 : Slots w.length ((g0.set i (some (SV.d x.1))).set k (some (SV.d x.2))) := (hg.set).set
    have e4 : trunc (w.length + 1) { g := (g0.set i (some (SV.d x.1))).set k (some (SV.d x.2)), w := w ++ [Cell.lst acc] } = some ⟨(g0.set i (some (SV.d x.1))).set k (some (SV.d x.2)), w ++ [.lst acc]⟩ := by
      rw [Flat.trunc (by simp [hw])]
      simp only [hs2.drop (Nat.le_succ _)]
      rw [List.take_of_length_le (by simp)]
    simp only [e4, T_bind]
    have hj' : ((g0.set i (some (SV.d x.1))).set k (some (SV.d x.2)))[j]? = some none := by
      rw [List.getElem?_set_ne hkj, List.getElem?_set_ne hij, hj]
    rw [wipeG_one hj', It'.fuel_list e1]
    rw [List.length_append, List.length_map] at hz
    refine (T_lcIn e1 hj' hs2 hw (step x hx) (ys x).length 0 acc (by simp) (by omega)).imp fun _ s e5 => ?_
    subst e5
    have wb : wipeG [i, k, j] ((g0.set i (some (SV.d x.1))).set k (some (SV.d x.2))) = g0 := by
      refine wipe_to (fun n hn => ?_) (by simp) fun n hn => ?_
      · simp only [List.mem_cons, List.not_mem_nil, or_false] at hn
        rcases hn with rfl | rfl | rfl <;> assumption
      · simp only [List.mem_cons, List.not_mem_nil, or_false, not_or] at hn
        rw [List.getElem?_set_ne (Ne.symm hn.2.1), List.getElem?_set_ne (Ne.symm hn.1)]
    have wb' := wb
    simp only [wb', List.drop_zero]
    refine (ih (p + 1) (acc ++ (ys x).map (f x)) (by omega) (by rw [List.length_append, List.length_map]; omega)).imp fun _ s e => ?_
    rw [e, List.append_assoc]
theorem T_flc2P {Q : D → PS → Prop} (hit : T (mi ⟨g0, w⟩) fun j s => j = it ∧ s = ⟨g0, w⟩) (hl : it.list = some (ps.map fun p => .tup [p.1, p.2])) (hi : g0[i]? = some none) (hk : g0[k]? = some none) (hj : g0[j]? = some none) (hik : i ≠ k) (hij : i ≠ j) (hkj : k ≠ j) (hg : Slots w.length g0) (hw : Flat w)
    (inner : ∀ p ∈ ps, ∀ v, Flat v → T (i1 ⟨(g0.set i (some (.d p.1))).set k (some (.d p.2)), w ++ v⟩) fun it1 s => it1.list = some (ys p) ∧ isFix it1 = true ∧ s = ⟨(g0.set i (some (.d p.1))).set k (some (.d p.2)), w ++ v⟩)
    (step : ∀ p ∈ ps, ∀ y ∈ ys p, ∀ v, Flat v → T (e ⟨((g0.set i (some (.d p.1))).set k (some (.d p.2))).set j (some (.d y)), w ++ v⟩) fun z s => z = .d (f p y) ∧ s = ⟨((g0.set i (some (.d p.1))).set k (some (.d p.2))).set j (some (.d y)), w ++ v⟩)
    (hz : (ps.flatMap fun x => (ys x).map (f x)).length ≤ sizeLine) (q : Q (.lst (ps.flatMap fun x => (ys x).map (f x))) ⟨g0, w ++ [.gone]⟩) :
    T (vLc2N mi [i, k, j] (hTup [hName i, hName k]) cYes i1 [j] (hName j) cYes e ⟨g0, w⟩) fun x s => OP (frz s x) fun y s => Q y s := by
  unfold vLc2N
  simp only [T_bind, T_ok]
  refine hit.imp fun it' s ⟨e1, e2⟩ => ?_
  subst e1 e2
  dsimp only
  have own : ∀ n ∈ [i, k, j], g0[n]? = some none := fun n hn => by
    simp only [List.mem_cons, List.not_mem_nil, or_false] at hn
    rcases hn with rfl | rfl | rfl <;> assumption
  have wg : wipeG [i, k, j] g0 = g0 := wipe_to own rfl fun _ _ => rfl
  rw [wg, It'.fuel_list hl, List.length_map]
  refine (T_lc2PGo hl hi hk hj hik hij hkj hg hw inner step ps.length 0 [] (by simp) (by simpa using hz)).imp fun _ s e => ?_
  subst e
  dsimp only
  have bk : backG [i, k, j] g0 g0 = g0 := by
    have := back_dat (own := [i, k, j]) (g0 := g0) fun n hn => ⟨_, own n hn, .inl rfl⟩
    rwa [wg] at this
  rw [bk, frz_last hg]
  simpa using q
end
end Bf
/-! The mirror layer: f(). -/
/-! The mirror layer: sorted(set(ints)). -/
namespace Bf
open PySem PySem.Spec PyProof.Rows L2
section
variable {P : Program} {w : World} {A : Around} {E : Value → Shared → Prop} {s : Shared}
/-- a new set, as code_set_led1 leaves it -/
def setNw (w : World) : Obj := { cls := .type "set", dict := none, data := .set #[] 0 (.fresh 0 0 (!w.params.followText "set-order")) }
set_option maxRecDepth 100000 in
set_option maxHeartbeats 3200000 in
theorem set_lst {l : Addr} {items : Array Value} (ns : List Int) {Q : Value → Shared → Prop} (hh : A.handled = none) (hl : s.heap.IsList l items) (hit : IntsAre items.toList ns) (hb : ns.length + 1 < scanBound)
    (h : ∀ (h' : Heap) (tk c : Nat), SetR w h' s.heap.objs.size (fun j => decide (j ∈ ns)) c → c ≤ ns.length → (∀ b o, s.heap.get? b = some o → h'.get? b = some o) → Q (.ref s.heap.objs.size) { s with heap := h', toks := tk }) :
    wpAny (model P w) A (call (.type "set") [.ref l]) Q E s := by
  have hsz : items.size = ns.length := by
    have q := IntsAre.length hit
    rwa [Array.length_toList] at q
  obtain ⟨c, tl, hmro⟩ := F.called_set.mro
  have m1 := F.called_set.made
  have m2 := F.called_set.sub
  refine wpAny_call (codeAny_of_tree ?_)
  show wpAny _ _ (callAny (.type "set") _) _ _ _
  refine wpAny_pure ⟨Code.quiet_builtin _ (by decide +kernel), codeAny_builtin F.entry_type_call ?_⟩
  rw [Around.under_plain (weight_type_call_type "set" [.ref l] []) rfl]
  have m3 := F.called_set.notType
  have m4 := F.called_set.canCreate
  have m5 := F.typeCall_set_1 (.ref l)
  repeat (any_goals (first | assumption | wp_step))
  refine codeAny_mono (code_set_led1 (.ref l) (E := E) (Q₁ := fun obj s₁ => obj = .ref s.heap.objs.size ∧ s₁ = { s with heap := s.heap.push (setNw w) }) ⟨rfl, rfl⟩) fun r s₁ hr => ?_
  rcases r with e | fl
  · exact hr
  cases fl with
  | ret obj =>
    obtain ⟨rfl, rfl⟩ := hr
    have hS : (s.heap.push (setNw w)).get? s.heap.objs.size = some (setNw w) := Heap.get?_push_size _ rfl
    have hT : Shared.TypeIs { s with heap := s.heap.push (setNw w) } (.ref s.heap.objs.size) "set" := ⟨_, hS, rfl⟩
    have m6 := F.called_set.init.lookup
    have m7 := F.called_set.init.bind (.ref s.heap.objs.size)
    repeat (any_goals (first | assumption | wp_step))
    refine codeAny_mono (codeAny_call_builtin (R := wants (fun r s₂ => r = .none ∧ ∃ h' tk c, s₂ = { s with heap := h', toks := tk } ∧ SetR w h' s.heap.objs.size (fun j => decide (j ∈ ns)) c ∧ c ≤ ns.length ∧
          (∀ b o, s.heap.get? b = some o → h'.get? b = some o)) E) F.called_set.init.plain F.entry_set_init (check_set_init_1 hT ?_)) fun r₂ s₂ hr₂ => ?_
    · obtain ⟨⟨oc, od, oa, os⟩, hol, hcl, nl, hdl⟩ := hl
      simp only at hcl hdl
      subst hcl hdl
      have hol' : (s.heap.push (setNw w)).get? l = some { cls := .type "list", dict := od, data := .seq items nl, slots := os } := Heap.get?_push_of_some _ hol
      have b1 := F.sub_list_set
      have b2 := F.sub_list_frozenset
      have b3 : (Value.type "list" == Value.type "dict") = false := by decide
      have hl1 : (s.heap.push (setNw w)).IsList l items := ⟨_, hol', rfl, nl, rfl⟩
      unfold Builtin.«set.__init__» noKeywords Builtin.Frozenset.updateFrom
      generalize hPI : pyIter = PI
      wp_walk
      subst hPI
      refine wpAny_pyIter_list hl1 ?_
      refine wpAny_bind (wpAny_runValue ?_)
      have hlt : l < s.heap.objs.size := Heap.lt_size hol
      have h3 : A.in1.in1.in1.handled = none := by simp [hh]
      have ne1 : l ≠ (s.heap.push (setNw w)).objs.size := by
        rw [Heap.size_push]
        exact Nat.ne_of_lt (Nat.lt_succ_of_lt hlt)
      have ni : s.heap.objs.size ∉ [(s.heap.push (setNw w)).objs.size, l] := by
        rw [Heap.size_push]
        simp only [List.mem_cons, List.not_mem_nil, or_false, not_or]
        exact ⟨Nat.ne_of_lt (Nat.lt_succ_self _), Nat.ne_of_gt hlt⟩
      refine set_update_ints ((Walks.list h3 _ l ne1 items).toS) s.heap.objs.size ni ns hsz hb (fun i v hv => ?_) (items.size - 0) 0 _ (by omega) (Nat.zero_le _) ⟨⟨_, Heap.get?_push_size _ rfl, rfl, rfl⟩, (hl1.push _)⟩ ?_ fun s' c' hm hc' hS' => ?_
      · have hi : i < ns.length := by
          rw [← hsz]
          exact (Array.getElem?_eq_some_iff.mp hv).1
        obtain ⟨t, e⟩ := PyProof.Rows.IntsAre.int_at hit i v (by rw [Array.getElem?_toList]; exact hv)
        exact ⟨ns[i], t, List.getElem?_eq_getElem hi, by rw [e, List.getD_eq_getElem?_getD, List.getElem?_eq_getElem hi] <;> rfl⟩
      · exact ⟨0, Nat.le_refl 0, setR_new_at (Heap.get?_push_of_some _ hS)⟩
      · obtain ⟨h', g2, d', tk', os'⟩ := s'
        obtain rfl : g2 = s.gens := hm.gens
        obtain rfl : d' = s.drawn := hm.drawn
        obtain rfl : os' = s.os := hm.os
        show wpAny _ _ _ _ _ _
        refine wpAny_pure ?_
        show wpAny _ _ (ret Value.none) _ _ _
        rw [hsz] at hc'
        refine wpAny_pure ⟨rfl, h', tk', c', rfl, hS', hc', fun b o e => ?_⟩
        have lt0 : b < s.heap.objs.size := Heap.lt_size e
        have lt2 : b ≠ (s.heap.push (setNw w)).objs.size := by
          rw [Heap.size_push]
          exact Nat.ne_of_lt (Nat.lt_succ_of_lt lt0)
        exact hm.heap b o (by simp only [List.mem_cons, List.not_mem_nil, or_false, not_or]; exact ⟨Nat.ne_of_lt lt0, lt2⟩) (Heap.get?_push_of_some _ (Heap.get?_push_of_some _ e))
    · rcases r₂ with e | fl₂
      · exact hr₂
      cases fl₂ with
      | ret r =>
        obtain ⟨rfl, h', tk, c', rfl, hS', hc', hk'⟩ := hr₂
        repeat (any_goals (first | assumption | wp_step))
        exact h _ _ _ hS' hc' hk'
      | _ => exact hr₂.elim
  | _ => exact hr.elim
end
/-! ### the mirror -/
/-- the different numbers of a list -/
def difZ : List Int → List Int
  | [] => []
  | x :: r => if x ∈ difZ r then difZ r else x :: difZ r
theorem mem_difZ {k : Int} : ∀ {r : List Int}, k ∈ difZ r ↔ k ∈ r
  | [] => Iff.rfl
  | x :: r => by
    have ih := mem_difZ (k := k) (r := r)
    unfold difZ
    split
    · rename_i h
      rw [ih, List.mem_cons]
      refine ⟨.inr, fun q => q.elim (fun e => ?_) id⟩
      subst e
      exact mem_difZ.mp h
    · rw [List.mem_cons, List.mem_cons, ih]
theorem nodup_difZ : ∀ r : List Int, (difZ r).Nodup
  | [] => .nil
  | x :: r => by
    unfold difZ
    split
    · exact nodup_difZ r
    · rename_i h
      exact List.nodup_cons.mpr ⟨h, nodup_difZ r⟩
/-- .. in their order -/
def ssZ (r : List Int) : List Int := sortZ (difZ r)
theorem mem_ssZ {k : Int} {r : List Int} : k ∈ ssZ r ↔ k ∈ r := ((sortZ_perm _).mem_iff).trans mem_difZ
theorem lt_ssZ (r : List Int) : (ssZ r).Pairwise (· < ·) := lt_of_le_nodup _ (sortZ_rises _) ((sortZ_perm _).nodup_iff.mpr (nodup_difZ r))
theorem ssZ_of {r ns : List Int} (h : ns.Pairwise (· < ·)) (hm : ∀ k, k ∈ ns ↔ k ∈ r) : ns = ssZ r := by
  have n1 : ns.Nodup := h.imp fun q => Int.ne_of_lt q
  have n2 : (ssZ r).Nodup := (lt_ssZ r).imp fun q => Int.ne_of_lt q
  have p : ns.Perm (ssZ r) := (List.perm_ext_iff_of_nodup n1 n2).mpr fun k => (hm k).trans mem_ssZ.symm
  exact List.Perm.eq_of_pairwise (fun _ _ _ _ a b => by omega) h (lt_ssZ r) p
def ssB : List D → Option D
  | [.lst xs] => match intsD xs with
    | some ns => if ns.length < 64 then some (.lst ((ssZ ns).map .int)) else none
    | none => none
  | _ => none
section
variable {X : Cx} {CT : Ctx} {E0 : Sto → XK} {x y : Str}
def rSetL (X : Cx) : List V → Hp → VK → Prop := fun vs H Q => ∃ (l : Addr) (ns : List Int), vs = [V.ref l] ∧ SqL X.K H l (ns.map V.int) ∧ ns.length < 64 ∧
  ∀ p c, H p = none → c ≤ ns.length → Q (.ref p) (upd H p (SetO X.w p (fun j => decide (j ∈ ns)) c))
theorem cr_setL (hc : X.calm = true) : CallR X (.type "set") (rSetL X) := by
  intro pins s σ H vs us Q I r h
  obtain ⟨l, ns, rfl, hs, h64, q⟩ := h
  obtain ⟨its, rv, hl, hz⟩ := I.list hs
  rw [Vals.ref1 r]
  refine set_lst ns (I.ok.hd hc) hl.isList (by simpa using rv.ints) (by unfold scanBound; omega) fun h' tk c hS hc' hk => ?_
  exact ⟨.ref _, upd H s.heap.objs.size (SetO X.w s.heap.objs.size (fun j => decide (j ∈ ns)) c), I.laid (t' := tk) (fun b u e => hk b u e) (Nat.le_refl _) (setO_new hS), rfl, q _ c (I.hok.fresh (Nat.le_refl _)) hc'⟩
theorem me_sortset {e : Expr} {p p2 q pos : Pos} {mr : MA} (hc : X.calm = true) (hm : X.mg "sorted" = none) (hm2 : X.mg "set" = none) (hg : Gl X "sorted") (hg2 : Gl X "set") (ha : PA X [e] (upA X.K CT E0 mr))
    (he : starEach [e] X.env = (false, eval e X.env) :: starEach [] X.env := by rfl) :
    PE X (.Call (.Name "sorted" p) [.Call (.Name "set" p2) [e] [] q] [] pos) (up X.K CT E0 (vB ssB mr)) :=
  PE.imp (pe_callB (cr_sortedSet hc) hg hm rfl (pa_cons (pe_callTy (cr_setL hc) hg2 hm2 rfl ha (by decide) (by decide) he rfl) pa_nil)) fun σ H Q h => by
    obtain ⟨F0, as0, s0, n0, o0⟩ := b_read h
    refine ⟨F0, as0, s0, n0, o0.imp (fun _ h => h) fun xs s1 F1 as1 σ1 H1 _ _ _ _ g vs r1 => ?_⟩
    have g := g vs r1
    clear r1
    obtain ⟨F, as, σ1, S, ds, z, n, r, e, f⟩ := g
    unfold ssB at e
    split at e
    · rename_i xs
      cases q : intsD xs with
      | none => rw [q] at e; cases e
      | some ns =>
        simp only [q] at e
        split at e
        · rename_i h64
          cases e
          obtain ⟨v, rfl, rv⟩ := r.one
          obtain ⟨a, ws, rfl, q1, r1⟩ := rv.lst' n.sub
          obtain rfl := reps_ints r1 q
          refine ⟨a, ns, rfl, SqL.of q1, h64, fun p c hp hc' => ⟨p, _, c, rfl, upd_same, by omega, fun ns' p' h1 h2 h3 hp' => ?_⟩⟩
          obtain ⟨e1, n1⟩ := n.new (SetO X.w p (fun j => decide (j ∈ ns)) c) hp
          obtain ⟨e2, n2⟩ := n1.new (.lst (ns'.map V.int)) hp'
          have en : ns' = ssZ ns := ssZ_of h1 fun k => (h2 k).trans (by simp)
          rw [← en] at f
          exact f _ _ _ (e1.trans e2) n2 (.lst upd_same (ints_reps _))
        · cases e
    · cases e
end
end Bf
/-! The mirror layer: zip of two lists or of two tuples. -/
namespace Bf
open PySem PySem.Spec PyProof.Rows L2
/-- zip(a, b) -/
def jZip (m : MA) : MI := fun s => (m s).bind fun x s => match x with
  | [.d (.lst xs), .d (.lst ys)] => .ok (.prs (xs.zip ys)) s
  | [.d (.tup xs), .d (.tup ys)] => .ok (.prs (xs.zip ys)) s
  | _ => .stuck
section
variable {K : PySem.W.Frag} {CT : Ctx} {F : Hp}
theorem zip_reps1 : ∀ {vs us : List V} {xs ys : List D}, Reps K CT F vs xs → Reps K CT F us ys → Reps K CT F ((vs.zip us).map Prod.fst) ((xs.zip ys).map Prod.fst)
  | _, _, _, _, .nil, _ => .nil
  | _, _, _, _, .cons _ _, .nil => .nil
  | _, _, _, _, .cons a r, .cons _ q => .cons a (zip_reps1 r q)
theorem zip_reps2 : ∀ {vs us : List V} {xs ys : List D}, Reps K CT F vs xs → Reps K CT F us ys → Reps K CT F ((vs.zip us).map Prod.snd) ((xs.zip ys).map Prod.snd)
  | _, _, _, _, .nil, _ => .nil
  | _, _, _, _, .cons _ _, .nil => .nil
  | _, _, _, _, .cons _ r, .cons b q => .cons b (zip_reps2 r q)
theorem zip_fst {α β : Type} {xs : List α} {ys : List β} {i : Nat} {a : α} (h : ((xs.zip ys).map Prod.fst)[i]? = some a) : xs[i]? = some a := by
  rw [List.getElem?_map] at h
  cases e : (xs.zip ys)[i]? with
  | none => rw [e] at h; cases h
  | some p =>
    rw [e] at h
    cases h
    exact (List.getElem?_zip_eq_some.mp e).1
theorem zip_snd {α β : Type} {xs : List α} {ys : List β} {i : Nat} {a : β} (h : ((xs.zip ys).map Prod.snd)[i]? = some a) : ys[i]? = some a := by
  rw [List.getElem?_map] at h
  cases e : (xs.zip ys)[i]? with
  | none => rw [e] at h; cases h
  | some p =>
    rw [e] at h
    cases h
    exact (List.getElem?_zip_eq_some.mp e).2
end
section
variable {X : Cx} {CT : Ctx} {E : Sto → XK} {a b : Expr} {m : MA} {p pos tpos : Pos} {elts : List Expr} {kk : Nat}
theorem mi_zip (hm : X.mg "zip" = none) (ha : PA X [a, b] (upA X.K CT E m)) (hg : Gl X "zip")
    (hs : starEach [a, b] X.env = (false, eval a X.env) :: starEach [b] X.env := by rfl) (hpl : (backTo pos (starEach [b] X.env)).any (·.1) = false := by rfl) :
    PI X (.Tuple elts kk tpos) (.Call (.Name "zip" p) [a, b] [] pos) (upI X.K CT E (jZip m)) :=
  PI.imp (RZ.pi_zipA hg hm ha hs hpl) fun σ H R ⟨F, as, s, n, o⟩ => by
    cases q : m s with
    | err e s1 =>
      rw [jZip, q] at o
      exact ⟨F, as, s, n, by rw [q]; exact o⟩
    | stuck =>
      rw [jZip, q] at o
      exact o.elim
    | ok x s1 =>
      rw [jZip, q, bind_ok] at o
      refine ⟨F, as, s, n, ?_⟩
      rw [q]
      intro F1 as1 σ1 H1 o1 e1 n1 vs r
      subst o1
      split at o
      · rename_i xs ys
        cases r with
        | cons r1 r =>
          cases r with
          | cons r2 r =>
            cases r
            have r1 : Rep X.K CT F1 _ (.lst xs) := r1
            have r2 : Rep X.K CT F1 _ (.lst ys) := r2
            cases r1 with
            | lst q1 p1 =>
              cases r2 with
              | lst q2 p2 =>
                rename_i a' vs b' us
                refine ⟨a', b', vs, us, rfl, .inl ⟨SqL.of (n1.sub _ _ q1), SqL.of (n1.sub _ _ q2), o.there (σ := σ1) rfl e1 n1 _ ⟨_, _, zip_reps1 p1 p2, zip_reps2 p1 p2, fun H2 s2 => ?_⟩⟩⟩
                have z1 : SqL X.K H2 a' vs := SqL.of (s2 _ _ q1)
                have z2 : SqL X.K H2 b' us := SqL.of (s2 _ _ q2)
                have l1 := p1.length
                have l2 := p2.length
                rw [List.length_zip]
                refine ⟨fun i hi => ⟨vs, us, vs[i], us[i], z1, z2, List.getElem?_eq_getElem _, List.getElem?_eq_getElem _⟩, fun i hi => ⟨vs, us, z1, z2, by omega⟩, fun i v2 H3 x y hx hy yl => ?_⟩
                obtain ⟨T, x2, y2, h1, h2, h3, h4, h5⟩ := yl
                have e4 := h4 vs z1
                rw [zip_fst hx] at e4
                have e5 := h5 us z2
                rw [zip_snd hy] at e5
                cases e4
                cases e5
                exact ⟨T, h1, h2, h3⟩
      · rename_i xs ys
        cases r with
        | cons r1 r =>
          cases r with
          | cons r2 r =>
            cases r
            have r1 : Rep X.K CT F1 _ (.tup xs) := r1
            have r2 : Rep X.K CT F1 _ (.tup ys) := r2
            cases r1 with
            | tup q1 p1 =>
              cases r2 with
              | tup q2 p2 =>
                rename_i a' vs b' us
                refine ⟨a', b', vs, us, rfl, .inr ⟨SqT.of (n1.sub _ _ q1), SqT.of (n1.sub _ _ q2), o.there (σ := σ1) rfl e1 n1 _ ⟨_, _, zip_reps1 p1 p2, zip_reps2 p1 p2, fun H2 s2 => ?_⟩⟩⟩
                have z1 : SqT X.K H2 a' vs := SqT.of (s2 _ _ q1)
                have z2 : SqT X.K H2 b' us := SqT.of (s2 _ _ q2)
                have l1 := p1.length
                have l2 := p2.length
                rw [List.length_zip]
                refine ⟨fun i hi => ⟨vs, us, vs[i], us[i], z1, z2, List.getElem?_eq_getElem _, List.getElem?_eq_getElem _⟩, fun i hi => ⟨vs, us, z1, z2, by omega⟩, fun i v2 H3 x y hx hy yl => ?_⟩
                obtain ⟨T, x2, y2, h1, h2, h3, h4, h5⟩ := yl
                have e4 := h4 vs z1
                rw [zip_fst hx] at e4
                have e5 := h5 us z2
                rw [zip_snd hy] at e5
                cases e4
                cases e5
                exact ⟨T, h1, h2, h3⟩
      · exact o.elim
end
/-- two lists or two tuples -/
def ZQ (x : List SV) (P : It' → Prop) : Prop := match x with
  | [.d (.lst xs), .d (.lst ys)] => P (.prs (xs.zip ys))
  | [.d (.tup xs), .d (.tup ys)] => P (.prs (xs.zip ys))
  | _ => False
@[simp] theorem ZQ_lst {xs ys : List D} {P : It' → Prop} : ZQ [.d (.lst xs), .d (.lst ys)] P ↔ P (.prs (xs.zip ys)) := Iff.rfl
@[simp] theorem ZQ_tup {xs ys : List D} {P : It' → Prop} : ZQ [.d (.tup xs), .d (.tup ys)] P ↔ P (.prs (xs.zip ys)) := Iff.rfl
@[simp ↓] theorem T_jZip {m : MA} {s : PS} {QI : It' → PS → Prop} : T (jZip m s) QI ↔ T (m s) fun x s => ZQ x fun it => QI it s := by
  unfold jZip
  rw [T_bind]
  refine iff_of_eq (congrArg (T _) (funext fun x => funext fun s => propext ?_))
  unfold ZQ
  split <;> (unfold T; exact Iff.rfl)
end Bf
/-! The mirror layer: o.m(*y). -/
namespace L2
open PySem PySem.Spec PyProof.Rows
theorem lone_of {M : Model} {A : Around} {E : Value → Shared → Prop} {s : Shared} {env : Env} {o e : Expr} {m : Str} {p apos pos : Pos} {Q : Value → Shared → Prop} (hbase : attributeBase o m env (eval o env) = eval o env)
    (hst : starEach [.Starred e p] env = [(true, eval e env)])
    (h : wpAny M A (eval o env) (fun ov s₁ => wpAny M A (getAttr ov m true) (fun f s₂ => wpAny M A (callWith pos f [] (backTo pos [(true, eval e env)]) []) Q E s₂) E s₁) E s) :
    wpAny M A (eval (.Call (.Attribute o m apos) [.Starred e p] [] pos) env) Q E s := by
  have k1 : backToKw pos (keywordEach [] env) = [] := rfl
  have k2 : methodCallForm ([Expr.Starred e p].length + ([] : List Keyword).length) (backTo pos [(true, eval e env)]) [] = false := rfl
  have k3 : methodCallPos false o env apos pos = pure pos := rfl
  have k4 : ∀ ov, calleeOf false o env ov m = (getAttr ov m true >>= fun v => pure (v, [])) := fun _ => rfl
  rw [arm_eval_Call, hbase, hst, k1]
  refine wpAny_bind (wpAny_mono h (fun ov s₁ h₁ => ?_) fun _ _ x => x)
  refine wpAny_bind (wpAny_standAt ?_)
  unfold methodCall
  rw [k2, k3, k4]
  refine wpAny_bind (wpAny_holding (wpAny_bind (wpAny_mono h₁ (fun f s₂ h₂ => wpAny_pure ?_) fun _ _ x => x)))
  exact wpAny_bind (wpAny_pure h₂)
def tMethL (K : PySem.W.Frag) (C : Addr) (m : Str) (g : Addr) (sp : Sp) (E : XK) (ta t1 : TE) : TE := fun σ H Q => ta σ H fun x H1 => ∃ a dx fs, x = .ref a ∧ H1 a = some (.ins C dx fs) ∧ fs.lookup m = none ∧
  ∀ q, H1 q = none → t1 σ (upd H1 q (.met g a)) fun y H2 => ∃ b vs, y = .ref b ∧ (SqT K H2 b vs ∨ SqL K H2 b vs) ∧ H2 q = some (.met g a) ∧ sp (.ref a :: vs) H2 Q E
theorem pe_methL {X : Cx} {CX : CXT} {k : Nat} {C g : Addr} {m : Str} {sp : Sp} {E : XK} {o e : Expr} {ta t1 : TE} {p apos pos : Pos} (he : PE X o ta) (c : Cls X.K C) (b : BMeth X.K C m g) (F : FnR X.prog X.w X.K X.mg X.base CX k g sp) (hr : Room k X.A)
    (hx : Passes CX X E) (h1 : PE X e t1) (hbase : attributeBase o m X.env (eval o X.env) = eval o X.env := by rfl)
    (hst : starEach [.Starred e p] X.env = [(true, eval e X.env)] := by rfl) : PE X (.Call (.Attribute o m apos) [.Starred e p] [] pos) (tMethL X.K C m g sp E ta t1) := by
  refine ⟨fun pins s σ H Q I h => ?_⟩
  refine lone_of hbase hst (thn (he.run pins s σ H _ I h) fun u s1 ⟨x, H1, I1, rx, a, dx, fs, ex, ea, l, q⟩ => ?_)
  subst ex
  obtain rfl : u = Value.ref a := rx
  refine getbound_ok I1 ea c b l fun q1 s2 hq1 I2 => ?_
  refine PySem.W.ks_call (P := PySem.W.MethP X.K q1 g (.ref a)) rfl (PySem.W.keeps_M b.fi) (PySem.W.ks_lone (thn (h1.run pins s2 σ _ _ I2 (q q1 hq1)) fun v1 s3 ⟨y1, H2, I3, ry1, t, vs, ey, ht, hm, hsp⟩ => ?_))
  subst ey
  obtain rfl : v1 = Value.ref t := ry1
  refine StX.star_any I3 ht fun us s5 I5 rv => ?_
  exact ⟨met_P I5 hm, wpAny_call (PySem.W.method_call (met_P I5 hm).1 (run_fnR (us := Value.ref a :: us) (vs := V.ref a :: vs) F hr hx I5 (.cons rfl rv) hsp))⟩
end L2
namespace Bf
open PySem PySem.Spec PyProof.Rows L2
/-- o.m(*y), y a tuple -/
def vMeL (c : Nat) (m : Str) (f : Fn) (o a : ME) : ME := fun s => (o s).bind fun x s => match x with
  | .d (.ins c' gs) => if c' = c ∧ gs.lookup m = none then (a s).bind fun y s => match y with
      | .d (.tup xs) => runF f (x :: xs.map .d) s
      | _ => .stuck
    else .stuck
  | _ => .stuck
section
variable {X : Cx} {CT : Ctx} {E0 : XK} {k c : Nat} {fa : Addr} {f : Fn} {o e : Expr} {m : Str} {p apos pos : Pos} {mo ma : ME}
theorem me_methL (hx : Cq X (fun _ => E0)) (he : PE X o (up X.K CT (fun _ => E0) mo)) (hc : L2.Cls X.K (CT c)) (hm : L2.BMeth X.K (CT c) m fa) (F : Fv X.prog X.w X.K X.mg X.base CT k fa f) (hr : Room k X.A) (h1 : PE X e (up X.K CT (fun _ => E0) ma))
    (hbase : attributeBase o m X.env (eval o X.env) = eval o X.env := by rfl) (hst : starEach [.Starred e p] X.env = [(true, eval e X.env)] := by rfl) : PE X (.Call (.Attribute o m apos) [.Starred e p] [] pos) (up X.K CT (fun _ => E0) (vMeL c m f mo ma)) :=
  PE.imp (pe_methL (E := E0) he hc hm F hr hx.all h1 hbase hst) fun σ H Q ⟨F, as, s, n, h⟩ => up_seq n h rfl fun v y s1 F1 as1 H1 e1 n1 r1 h1 => by
    cases y with
    | cell j => exact h1.elim
    | d z =>
      cases z with
      | ins c' gs =>
        dsimp only at h1
        by_cases hq : c' = c ∧ gs.lookup m = none
        · rw [if_pos hq] at h1
          obtain ⟨rfl, hl⟩ := hq
          have r1' := r1
          cases r1 with
          | ins g1 g2 =>
            refine ⟨_, _, _, rfl, n1.sub _ _ g1, g2.lookN hl, fun q hq => ?_⟩
            obtain ⟨e4, n4⟩ := n1.new (.met fa _) hq
            refine ⟨_, as1, s1, n4, Out.ext e4 ((h1.bind (ok := fun σ' => σ' = σ) fun _ z => z).imp (fun _ z => z) fun y s2 F2 as2 σ2 H2 _ o2 e2 n2 h2 => h2) |>.imp (fun _ z => z) fun y s2 F2 as2 σ2 H2 _ o2 e2 n2 h2 v r2 => ?_⟩
            subst o2
            cases y with
            | cell j => exact h2.elim
            | d z =>
              cases z with
              | tup xs =>
                have r2 : Rep X.K CT F2 v (.tup xs) := r2
                cases r2 with
                | tup q1 q2 => exact ⟨_, _, rfl, .inl (SqT.of (n2.sub _ _ q1)), n2.sub _ _ (e2.1 _ _ upd_same), spV_of (E := fun _ => E0) n2 (.cons (r1'.mono (e4.trans e2)) (reps_data q2)) h2⟩
              | _ => exact h2.elim
        · rw [if_neg hq] at h1
          exact h1.elim
      | _ => exact h1.elim
end
end Bf
/-! The mirror layer: a, b, c = x, y, z with names that an inner scope reads. -/
namespace Bf
open PySem PySem.Spec PyProof.Rows L2
section
variable {X : Cx} {CT : Ctx} {E : Sto → XK} {a b c : Expr} {mr : MA} {pos px py pz pt pt2 : Pos} {kt k2 : _} {x y z : Str}
theorem ms_parC3 {i j l : Nat} (hx : Cq X E) (hi : X.N[i]? = some x) (hj : X.N[j]? = some y) (hl : X.N[l]? = some z)
    (lx : Loc X.env.scope x) (ly : Loc X.env.scope y) (lz : Loc X.env.scope z) (fx : X.fn x = true ∨ X.env.scope.names.lookup x = some .local) (fy : X.fn y = true ∨ X.env.scope.names.lookup y = some .local) (fz : X.fn z = true ∨ X.env.scope.names.lookup z = some .local) (ha : PA X [a, b, c] (upA X.K CT E mr))
    (hs : swapsWithSole [.Tuple [.Name x px, .Name y py, .Name z pz] kt pt] (.Tuple [a, b, c] k2 pt2) pos.line X.env = pure false := by rfl) (hw : swappedStores [.Tuple [.Name x px, .Name y py, .Name z pz] kt pt] (.Tuple [a, b, c] k2 pt2) X.env = pure none := by rfl)
    (h1 : (assignEach [.Tuple [.Name x px, .Name y py, .Name z pz] kt pt] X.env).map (·.2) = [assign (.Tuple [.Name x px, .Name y py, .Name z pz] kt pt) X.env] := by rfl) :
    L2.PS X (.Assign [.Tuple [.Name x px, .Name y py, .Name z pz] kt pt] (.Tuple [a, b, c] k2 pt2) pos) (upS X.K CT E (sPar3 i j l mr)) :=
  ps_imp (ps_asg (pe_tup ha) (pg_tup hx.calm (pgs_cons (pg_name hx.nd hi lx fx) (pgs_cons (pg_name hx.nd hj ly fy) (pgs_cons (pg_name hx.nd hl lz fz) pgs_nil)))) hs hw h1) fun D σ H ⟨F, as, s, n, h⟩ => by
    refine upA_seq n h trivial fun vs xs s1 F1 as1 H1 e1 n1 r1 h1 => ?_
    cases r1 with
    | nil => exact h1.elim
    | cons r1 r2 =>
      cases r2 with
      | nil => exact h1.elim
      | cons r2 r3 =>
        cases r3 with
        | nil => exact h1.elim
        | cons r3 r4 =>
          cases r4 with
          | cons _ _ => exact h1.elim
          | nil =>
            rename_i v1 x1 v2 x2 v3 x3
            dsimp only at h1
            split at h1
            · rename_i hl
              refine ⟨small (by simp), fun p hp => ⟨p, [v1, v2, v3], rfl, SqT.of upd_same, rfl, ?_⟩⟩
              have n0 := n1.other (.tup [v1, v2, v3]) hp
              have n2 := n0.setG r1 hl.1
              have n3 := n2.setG (i := j) r2 (by simpa using hl.2.1)
              have n4 := n3.setG (i := l) r3 (by simpa using hl.2.2)
              exact ⟨_, _, rfl, _, _, rfl, _, _, rfl, rfl, h1.here (σ := ((σ.set i (some v1)).set j (some v2)).set l (some v3)) trivial n4⟩
            · exact h1.elim
end
end Bf
/-! The mirror layer: weakest preconditions of method calls, both ways. -/
namespace Bf
open PySem PySem.Spec PyProof.Rows L2
section
variable {c : Nat} {m : Str} {f : Fn} {o a : ME} {r : MA} {s : PS} {Q : SV → PS → Prop} {R : SV → List Cell → Prop} {n : Nat} {xs : List SV} {w : List Cell}
def InsQ (c : Nat) : SV → (List (Str × D) → Prop) → Prop
  | .d (.ins c' gs), P => c' = c ∧ P gs
  | _, _ => False
@[simp] theorem InsQ_ins {c' : Nat} {gs : List (Str × D)} {P : List (Str × D) → Prop} : InsQ c (.d (.ins c' gs)) P ↔ c' = c ∧ P gs := Iff.rfl
def TupQ : SV → (List D → Prop) → Prop
  | .d (.tup xs), P => P xs
  | _, _ => False
@[simp] theorem TupQ_tup {xs : List D} {P : List D → Prop} : TupQ (.d (.tup xs)) P ↔ P xs := Iff.rfl
@[simp] theorem FT_lenF : FT (lenF n f) xs w R ↔ xs.length = n ∧ FT f xs w R := by
  by_cases h : xs.length = n
  · refine ⟨fun q => ⟨h, ?_⟩, fun q => FT_len h q.2⟩
    unfold FT lenF at q
    rw [if_pos h] at q
    unfold FT
    exact q
  · refine ⟨fun q => ?_, fun q => absurd q.1 h⟩
    unfold FT lenF at q
    rw [if_neg h] at q
    exact q.elim
@[simp ↓] theorem T_meA : T (vMe c m f o r s) Q ↔ T (o s) fun x s => InsQ c x fun gs => gs.lookup m = none ∧ T (r s) fun xs s => FT f (x :: xs) s.w fun y w' => Q y { s with w := w' } := by
  unfold vMe
  rw [T_bind]
  refine iff_of_eq (congrArg (T _) (funext fun x => funext fun s => propext ?_))
  cases x with
  | d x =>
    cases x with
    | ins c' gs =>
      dsimp only
      rw [InsQ_ins]
      by_cases h1 : c' = c
      · by_cases h2 : gs.lookup m = none
        · rw [if_pos ⟨h1, h2⟩, T_bind]
          simp only [T_runF]
          exact ⟨fun h => ⟨h1, h2, h⟩, fun h => h.2.2⟩
        · rw [if_neg fun h => h2 h.2, T_stuck]
          exact ⟨False.elim, fun h => h2 h.2.1⟩
      · rw [if_neg fun h => h1 h.1, T_stuck]
        exact ⟨False.elim, fun h => h1 h.1⟩
    | _ => unfold T InsQ; exact Iff.rfl
  | cell k => unfold T InsQ; exact Iff.rfl
@[simp ↓] theorem T_meL : T (vMeL c m f o a s) Q ↔ T (o s) fun x s => InsQ c x fun gs => gs.lookup m = none ∧ T (a s) fun y s => TupQ y fun xs => FT f (x :: xs.map .d) s.w fun y w' => Q y { s with w := w' } := by
  unfold vMeL
  rw [T_bind]
  refine iff_of_eq (congrArg (T _) (funext fun x => funext fun s => propext ?_))
  cases x with
  | d x =>
    cases x with
    | ins c' gs =>
      dsimp only
      rw [InsQ_ins]
      by_cases h1 : c' = c
      · by_cases h2 : gs.lookup m = none
        · rw [if_pos ⟨h1, h2⟩, T_bind]
          refine Iff.trans (iff_of_eq (congrArg (T _) (funext fun y => funext fun s => propext ?_))) (show _ ↔ c' = c ∧ gs.lookup m = none ∧ _ from ⟨fun h => ⟨h1, h2, h⟩, fun h => h.2.2⟩)
          cases y with
          | d y => cases y <;> first | exact T_runF | (unfold T TupQ; exact Iff.rfl)
          | cell k => unfold T TupQ; exact Iff.rfl
        · rw [if_neg fun h => h2 h.2, T_stuck]
          exact ⟨False.elim, fun h => h2 h.2.1⟩
      · rw [if_neg fun h => h1 h.1, T_stuck]
        exact ⟨False.elim, fun h => h1 h.1⟩
    | _ => unfold T InsQ; exact Iff.rfl
  | cell k => unfold T InsQ; exact Iff.rfl
end
def Thr (xs : List SV) (P : SV → SV → SV → Prop) : Prop := match xs with
  | [x, y, z] => P x y z
  | _ => False
@[simp ↓] theorem Thr_three {x y z : SV} {P : SV → SV → SV → Prop} : Thr [x, y, z] P ↔ P x y z := Iff.rfl
@[simp ↓] theorem T_parT {i j l : Nat} {r : MA} {s : PS} {QS : Fl → PS → Prop} : T (sPar3 i j l r s) QS ↔ T (r s) fun xs s => Thr xs fun x y z => i < s.g.length ∧ j < s.g.length ∧ l < s.g.length ∧ QS .nx { s with g := ((s.g.set i (some x)).set j (some y)).set l (some z) } := by
  unfold sPar3
  rw [T_bind]
  refine iff_of_eq (congrArg (T _) (funext fun xs => funext fun s => propext ?_))
  match xs with
  | [] => simp [Thr]
  | [_] => simp [Thr]
  | [_, _] => simp [Thr]
  | [x, y, z] =>
    simp only [Thr_three]
    by_cases h : i < s.g.length ∧ j < s.g.length ∧ l < s.g.length
    · rw [if_pos h, T_ok]
      exact ⟨fun q => ⟨h.1, h.2.1, h.2.2, q⟩, fun q => q.2.2.2⟩
    · rw [if_neg h, T_stuck]
      exact ⟨fun q => q.elim, fun q => h ⟨q.1, q.2.1, q.2.2.1⟩⟩
  | _ :: _ :: _ :: _ :: _ => simp [Thr]
end Bf
/-! The mirror layer: a module's constant tuple that is walked. -/
namespace Bf
open PySem PySem.Spec PyProof.Rows L2
def jKup (a : ME) : MI := fun s => (a s).bind fun x s => match x with
  | .d (.kup xs) => .ok (.seq xs) s
  | _ => .stuck
section
variable {X : Cx} {CT : Ctx} {E : Sto → XK} {a : Expr} {tg : Expr} {m : ME}
theorem mi_kup (h : PE X a (up X.K CT E m)) : PI X tg a (upI X.K CT E (jKup m)) :=
  PI.imp (pi_tup h) fun σ H R ⟨F, as, s, n, o⟩ => by
    cases q : m s with
    | err e s1 =>
      rw [jKup, q] at o
      exact ⟨F, as, s, n, by rw [q]; exact o⟩
    | stuck =>
      rw [jKup, q] at o
      exact o.elim
    | ok x s1 =>
      rw [jKup, q, bind_ok] at o
      cases x with
      | d y =>
        cases y with
        | kup xs => exact ⟨F, as, s, n, by
            rw [q]
            intro F1 as1 σ1 H1 o1 e1 n1 v r
            subst o1
            have r : Rep X.K CT F1 v (.kup xs) := r
            cases r with
            | kup q1 q2 => exact ⟨_, rfl, ⟨_, n1.sub.sqT X.K q1⟩, o.there (σ := σ1) rfl e1 n1 _ (.inr (.inl ⟨_, _, rfl, q1, q2⟩))⟩⟩
        | _ => exact o.elim
      | cell k => exact o.elim
end
def KupQ : SV → (List D → Prop) → Prop
  | .d (.kup xs), P => P xs
  | _, _ => False
@[simp] theorem KupQ_kup {xs : List D} {P : List D → Prop} : KupQ (.d (.kup xs)) P ↔ P xs := Iff.rfl
@[simp ↓] theorem T_jKup {a : ME} {s : PS} {QI : It' → PS → Prop} : T (jKup a s) QI ↔ T (a s) fun x s => KupQ x fun xs => QI (.seq xs) s := by
  unfold jKup
  rw [T_bind]
  refine iff_of_eq (congrArg (T _) (funext fun x => funext fun s => propext ?_))
  cases x with
  | d y => cases y <;> (unfold T KupQ; exact Iff.rfl)
  | cell k => unfold T KupQ; exact Iff.rfl
end Bf
/-! The mirror layer: range(a, b) with ends of any size. -/
namespace Bf
open PySem PySem.Spec PyProof.Rows L2
/-- the long iterator, walked -/
theorem turn_long {P : Program} {w : World} {K : PySem.W.Frag} {tg : Expr} (it : Addr) (lo : Int) (n : Nat) : Turn P w K tg (Itr lo n) [it] it (fun i h => IsLongIter h it (lo + (i : Nat) * 1) ((n : Int) - (i : Nat)) 1) where
  mem := by simp
  obj := fun i h st b hb => by
    have e : b = it := by simpa using hb
    subst e
    exact ⟨_, st, fun v z => by
      have z' : Data.fields _ = Data.cell v := z
      cases z'⟩
  keep := fun i h h' st k => k it (by simp) _ st
  item := by
    intro X hP hw hK hc i pins s σ H E I hf st hg
    subst hP hw hK
    obtain ⟨f0, f1, f2, f3, f4, f5⟩ := hf it (by simp)
    refine (Walks.longrange (prog := X.prog) (w := X.w) (I.ok.hd hc) it lo 1 n).item i s _ _ hg st fun v h' tk hv st' kk => ?_
    obtain ⟨t, rfl⟩ := hv
    have I1 : Inv X pins σ H { s with heap := h', toks := tk } := I.turned (fun b o hb e => kk b o (by simpa using hb) e) f0 f1 f3 f4 f5
    refine ⟨_, rfl, go_of (s := { s with heap := h', toks := tk }) (n := "longrange_iterator") st' rfl rfl (by decide) ⟨.int (lo + i), H, I1, ⟨t, by rw [Int.mul_one]⟩, ⟨rfl, rfl⟩, st', fun b hb => (hf b hb).1⟩⟩
  done := by
    intro X hP hw hK hc i pins s σ H E I hf st hg
    subst hP hw hK
    obtain ⟨f0, f1, f2, f3, f4, f5⟩ := hf it (by simp)
    exact wpAny_pyNext_long_end (I.ok.hd hc) st (by have : n ≤ i := hg; omega) fun h' eb => ⟨rfl, I.turned (t' := s.toks) (fun b o hb e => eb b o hb e) f0 f1 f3 f4 f5⟩
  self := fun _ _ _ _ _ st h => wpAny_pyIter_longiter st h
section
variable {X : Cx} {tg : Expr}
theorem range_any {pins : List (Addr × Obj)} {σ : L2.St} {H : Hp} {s : Shared} {R : It → Hp → Prop} {E : Value → Shared → Prop} {lo hi : Int} {t u v : Tok} {tk : Nat} (I : Inv X pins σ H s)
    (q : R (Itr lo (hi - lo).toNat) H) : wpAny (model X.prog X.w) X.A (pyIter (.ref s.heap.objs.size)) (PIE X pins σ tg R) E { s with heap := s.heap.push { cls := .type "range", data := .fields #[.int lo t, .int hi u, .int 1 v] }, toks := tk } := by
  have e1 : lo + ((0 : Nat) : Int) * 1 = lo := by simp
  have e2 : (((hi - lo).toNat : Nat) : Int) - ((0 : Nat) : Int) = Builtin.Range.rangeSize lo hi 1 := by rw [rangeSize_one]; split <;> omega
  have I1 : Inv X pins σ H { s with heap := s.heap.push { cls := .type "range", data := .fields #[.int lo t, .int hi u, .int 1 v] }, toks := tk } := I.kept fun b o e => Heap.get?_push_of_some _ e
  have hfp : ∀ b ∈ [(s.heap.push { cls := .type "range", data := .fields #[.int lo t, .int hi u, .int 1 v] }).objs.size], FpOk X pins H b := fun b hb => by
    have e : b = (s.heap.push { cls := .type "range", data := .fields #[.int lo t, .int hi u, .int 1 v] }).objs.size := by simpa using hb
    subst e
    exact I1.fpOk (Nat.le_refl _) (I1.hok.fresh (Nat.le_refl _))
  cases hs : Builtin.Range.small lo hi 1 with
  | true =>
    refine wpAny_pyIter_range (IsRange.new ..) hs ⟨_, _, _, _, H, rfl, I1.kept (t' := tk) fun b o e => Heap.get?_push_of_some _ e, turn_range _ lo (hi - lo).toNat, ?_, hfp, q⟩
    show IsRangeIter _ _ (lo + ((0 : Nat) : Int) * 1) ((((hi - lo).toNat : Nat) : Int) - ((0 : Nat) : Int)) 1
    rw [e1, e2]
    exact Heap.get?_push_size _ rfl
  | false =>
    refine wpAny_pyIter_longrange (IsRange.new ..) hs ⟨_, _, _, _, H, rfl, I1.kept (t' := tk) fun b o e => Heap.get?_push_of_some _ e, turn_long _ lo (hi - lo).toNat, ?_, hfp, q⟩
    show IsLongIter _ _ (lo + ((0 : Nat) : Int) * 1) ((((hi - lo).toNat : Nat) : Int) - ((0 : Nat) : Int)) 1
    rw [e1, e2]
    exact Heap.get?_push_size _ rfl
def iRngB (ta : TA) : TI := fun σ H R => ta σ H fun vs H1 => ∃ i j : Int, vs = [.int i, .int j] ∧ R (Itr i (j - i).toNat) H1
theorem pi_rangeB {a b : Expr} {ta : TA} {p pos : Pos} (hg : Gl X "range") (hm : X.mg "range" = none) (ha : PA X [a, b] ta) (hs : starEach [a, b] X.env = [(false, eval a X.env), (false, eval b X.env)] := by rfl) (hs2 : starEach [b] X.env = [(false, eval b X.env)] := by rfl) :
    PI X tg (.Call (.Name "range" p) [a, b] [] pos) (iRngB ta) := by
  refine ⟨fun pins s σ H R I h => Call_ (ld_blt I hg hm boot_range (PyProof.Rows.callWith_type1 (thn (ha.run pos pins s σ H _ I h) fun us s1 ⟨vs, H1, I1, r1, q1⟩ => ?_) (by rw [hs, hs2]) (by rw [hs2]; rfl)))⟩
  obtain ⟨i, j, e, q⟩ := q1
  subst e
  cases r1 with
  | cons r rr =>
    cases rr with
    | cons r' rr =>
      cases rr
      obtain ⟨t, rfl⟩ := r
      obtain ⟨t', rfl⟩ := r'
      exact call_range_2 (range_any I1 q)
end
def jRngB (a b : ME) : MI := fun s => (a s).bind fun x s => (b s).bind fun y s => match x, y with
  | .d (.int i), .d (.int j) => .ok (.rng i (j - i).toNat) s
  | _, _ => .stuck
section
variable {X : Cx} {CT : Ctx} {E : Sto → XK} {a b : Expr} {tg : Expr} {m m' : ME} {p pos : Pos}
theorem mi_rngB (hm : X.mg "range" = none) (ha : PE X a (up X.K CT E m)) (hb : PE X b (up X.K CT E m')) (hg : Gl X "range") (h1 : starEach [a, b] X.env = (false, eval a X.env) :: starEach [b] X.env := by rfl) (h2 : starEach [b] X.env = (false, eval b X.env) :: starEach [] X.env := by rfl)
    (hs : starEach [a, b] X.env = [(false, eval a X.env), (false, eval b X.env)] := by rfl) (hs2 : starEach [b] X.env = [(false, eval b X.env)] := by rfl) : PI X tg (.Call (.Name "range" p) [a, b] [] pos) (upI X.K CT E (jRngB m m')) :=
  PI.imp (pi_rangeB hg hm (pa_cons ha (pa_cons hb pa_nil h2) h1) hs hs2) fun σ H R ⟨F, as, s, n, h⟩ => by
    refine up_seq n h rfl fun v x s1 F1 as1 H1 e1 n1 r1 h1 => ?_
    refine up_seq n1 h1 rfl fun v2 x2 s2 F2 as2 H2 e2 n2 r2 h2 => ?_
    cases x with
    | d y =>
      cases x2 with
      | d y2 =>
        cases y with
        | int i =>
          cases y2 with
          | int j =>
            have r1 : Rep X.K CT F1 v (.int i) := r1
            cases r1
            have r2 : Rep X.K CT F2 v2 (.int j) := r2
            cases r2
            exact ⟨i, j, rfl, h2.here (σ := σ) rfl n2 _ rfl⟩
          | _ => exact h2.elim
        | _ => exact h2.elim
      | cell k => cases y <;> exact h2.elim
    | cell k => exact h2.elim
end
@[simp ↓] theorem T_jRngB {a b : ME} {s : PS} {QI : It' → PS → Prop} : T (jRngB a b s) QI ↔ T (a s) fun x s => T (b s) fun y s => IN x fun i => IN y fun j => QI (.rng i (j - i).toNat) s := by
  unfold jRngB
  simp only [T_bind]
  refine iff_of_eq (congrArg (T _) (funext fun x => funext fun s => congrArg (T _) (funext fun y => funext fun s => propext ?_)))
  cases x with
  | d x =>
    cases y with
    | d y => cases x <;> cases y <;> (unfold T IN; first | exact Iff.rfl | simp)
    | cell k => cases x <;> (unfold T IN; first | exact Iff.rfl | simp)
  | cell k => unfold T IN; first | exact Iff.rfl | simp
end Bf
/-! The mirror layer: weakest preconditions of o.m(), both ways. -/
namespace Bf
open PySem PySem.Spec PyProof.Rows L2
section
variable {c : Nat} {m : Str} {f : Fn} {o : ME} {s : PS} {Q : SV → PS → Prop}
@[simp ↓] theorem T_me0 : T (vMe0 c m f o s) Q ↔ T (o s) fun x s => InsQ c x fun gs => gs.lookup m = none ∧ FT f [x] s.w fun y w' => Q y { s with w := w' } := by
  unfold vMe0
  rw [T_bind]
  refine iff_of_eq (congrArg (T _) (funext fun x => funext fun s => propext ?_))
  cases x with
  | d x =>
    cases x with
    | ins c' gs =>
      dsimp only
      rw [InsQ_ins]
      by_cases h1 : c' = c
      · by_cases h2 : gs.lookup m = none
        · rw [if_pos ⟨h1, h2⟩]
          simp only [T_runF]
          exact ⟨fun h => ⟨h1, h2, h⟩, fun h => h.2.2⟩
        · rw [if_neg fun h => h2 h.2, T_stuck]
          exact ⟨False.elim, fun h => h2 h.2.1⟩
      · rw [if_neg fun h => h1 h.1, T_stuck]
        exact ⟨False.elim, fun h => h1 h.1⟩
    | _ => unfold T InsQ; exact Iff.rfl
  | cell k => unfold T InsQ; exact Iff.rfl
end
end Bf
namespace Bf
open PySem PySem.Spec PyProof.Rows L2
def top (i : Nat) : Stmt := PySem.Challenge.pw_bondfloors_k22_whole_great_plans.main.body.getD i (.Pass ⟨0, 0, 0, 0⟩)
def top2 (i j : Nat) : Stmt := match top i with
  | .ClassDef _ _ _ b _ _ _ _ _ _ _ => b.getD j (.Pass ⟨0, 0, 0, 0⟩)
  | s => s
abbrev s_is_integer : Stmt := top 7
abbrev n_is_integer : List Str := ["value"]
abbrev p_is_integer : List Str := ["value"]
def b_is_integer : MS := sRet (vAnd (vB isiB (aCons (vVar 0) (aCons (vC (.raw (.ty "int"))) (aNil)))) (vNot (vB isiB (aCons (vVar 0) (aCons (vC (.raw (.ty "bool"))) (aNil))))))
def m_is_integer : Fn := fnM 1 b_is_integer
abbrev s_is_row : Stmt := top 9
abbrev n_is_row : List Str := ["value", "many"]
abbrev p_is_row : List Str := ["value", "many"]
def b_is_row : MS := sRet (vAnd (vB isiB (aCons (vVar 0) (aCons (vC (.raw (.ty "tuple"))) (aNil)))) (vOp eqD (vB lenB (aCons (vVar 0) (aNil))) (vVar 1)))
def m_is_row : Fn := fnM 2 b_is_row
abbrev s_is_word_of : Stmt := top 10
abbrev n_is_word_of : List Str := ["value", "words"]
abbrev p_is_word_of : List Str := ["value", "words"]
def b_is_word_of : MS := sRet (vAnd (vB isiB (aCons (vVar 0) (aCons (vC (.raw (.ty "str"))) (aNil)))) (vOp inD (vVar 0) (vVar 1)))
def m_is_word_of : Fn := fnM 2 b_is_word_of
abbrev s_exchanged_size : Stmt := top 12
abbrev n_exchanged_size : List Str := ["size"]
abbrev p_exchanged_size : List Str := ["size"]
def b_exchanged_size : MS := sRet (vTup (aCons (vOp idxD (vVar 0) (vC (.int 1))) (aCons (vOp idxD (vVar 0) (vC (.int 0))) (aCons (vOp idxD (vVar 0) (vC (.int 2))) (aNil)))))
def m_exchanged_size : Fn := fnM 1 b_exchanged_size
abbrev s_other_way : Stmt := top 17
abbrev n_other_way : List Str := ["way"]
abbrev p_other_way : List Str := ["way"]
def b_other_way : MS := sRet (vIf (cVal (vOp eqD (vVar 0) (vC (.str "across")))) (vC (.str "down")) (vC (.str "across")))
def m_other_way : Fn := fnM 1 b_other_way
abbrev s_are_apart : Stmt := top 27
abbrev n_are_apart : List Str := ["one", "other"]
abbrev p_are_apart : List Str := ["one", "other"]
def b_are_apart : MS := sSeq (sIf (cOr (cVal (vOp leD (vOp addD (vOp idxD (vVar 0) (vC (.int 0))) (vOp idxD (vVar 0) (vC (.int 2)))) (vOp idxD (vVar 1) (vC (.int 0))))) (cVal (vOp leD (vOp addD (vOp idxD (vVar 1) (vC (.int 0))) (vOp idxD (vVar 1) (vC (.int 2)))) (vOp idxD (vVar 0) (vC (.int 0)))))) (sRet (vC (.bl true))) (sNx)) (sRet (vOr (vOp leD (vOp addD (vOp idxD (vVar 0) (vC (.int 1))) (vOp idxD (vVar 0) (vC (.int 3)))) (vOp idxD (vVar 1) (vC (.int 1)))) (vOp leD (vOp addD (vOp idxD (vVar 1) (vC (.int 1))) (vOp idxD (vVar 1) (vC (.int 3)))) (vOp idxD (vVar 0) (vC (.int 1))))))
def m_are_apart : Fn := fnM 2 b_are_apart
abbrev s_many_between : Stmt := top 30
abbrev n_many_between : List Str := ["first", "last", "remainder", "length"]
abbrev p_many_between : List Str := ["first", "last", "remainder", "length"]
def b_many_between : MS := sRet (vOp subD (vOp divD (vOp subD (vOp subD (vVar 1) (vC (.int 1))) (vVar 2)) (vVar 3)) (vOp divD (vOp subD (vVar 0) (vVar 2)) (vVar 3)))
def m_many_between : Fn := fnM 4 b_many_between
abbrev s_Plan_spans : Stmt := top2 31 5
abbrev n_Plan_spans : List Str := ["self", "kind", "x", "y", "width", "height", "way"]
abbrev p_Plan_spans : List Str := ["self", "kind"]
def b_Plan_spans : MS := sSeq (sIf (cVal (vOp eqD (vVar 1) (vC (.str "upright")))) (sRet (vFrz (vLcN (jSeq (vFld [0] "own_blocks" (vVar 0))) [2, 3, 4, 5, 6] (hTup [hName 2, hName 3, hName 4, hName 5, hName 6]) (cVal (vOp eqD (vVar 6) (vC (.str "across")))) (vTup (aCons (vVar 2) (aCons (vOp addD (vVar 2) (vVar 4)) (aCons (vVar 5) (aNil)))))))) (sNx)) (sRet (vFrz (vLcN (jSeq (vFld [0] "own_blocks" (vVar 0))) [2, 3, 4, 5, 6] (hTup [hName 2, hName 3, hName 4, hName 5, hName 6]) (cVal (vOp eqD (vVar 6) (vC (.str "down")))) (vTup (aCons (vVar 3) (aCons (vOp addD (vVar 3) (vVar 5)) (aCons (vVar 4) (aNil))))))))
def m_Plan_spans : Fn := fnM 7 b_Plan_spans
def w_Plan_spans : Fn := lenF 2 m_Plan_spans
abbrev s__law_urn : Stmt := top 33
abbrev n__law_urn : List Str := ["script", "at", "cell", "great", "seed"]
abbrev p__law_urn : List Str := ["script", "at"]
def b__law_urn : MS := sSeq (sAsg (vIf (cVal (vOp ltD (vVar 1) (vB lenB (aCons (vVar 0) (aNil))))) (vOp idxD (vVar 0) (vVar 1)) (vOp addD (vOp mulD (vC (.int 83)) (vVar 1)) (vC (.int 37)))) (hName 2)) (sSeq (sAsg (vOp modD (vB intB (aCons (vB absB (aCons (vVar 2) (aNil))) (aNil))) (vOp powD (vOp powD (vC (.int 10)) (vC (.int 60))) (vC (.int 9)))) (hName 3)) (sSeq (sAsg (vOp modD (vB intB (aCons (vOp addD (vOp addD (vOp addD (vOp mulD (vVar 3) (vC (.int 104651))) (vOp mulD (vC (.int 15331)) (vVar 1))) (vOp mulD (vC (.int 43)) (vB intB (aCons (vOp ltD (vVar 2) (vC (.int 0))) (aNil))))) (vC (.int 19))) (aNil))) (vC (.int 2305843009213693921))) (hName 4)) (sRet (vLstN (aCons (vB maxB (aCons (vC (.int 0)) (aCons (vOp subD (vVar 3) (vOp powD (vC (.int 10)) (vC (.int 17)))) (aNil)))) (aCons (vVar 4) (aCons (vC (.int 0)) (aNil))))))))
def m__law_urn : Fn := fnM 5 b__law_urn
abbrev s__law_take : Stmt := top 34
abbrev n__law_take : List Str := ["urn", "total", "found", "one", "two", "three"]
abbrev p__law_take : List Str := ["urn", "total"]
def b__law_take : MS := sSeq (sIf (cVal (vOp gtD (vOp idxD (vVar 0) (vC (.int 0))) (vC (.int 0)))) (sSeq (sAsg (vOp modD (vB intB (aCons (vOp idxD (vVar 0) (vC (.int 0))) (aNil))) (vVar 1)) (hName 2)) (sSeq (sAsg (vOp divD (vOp idxD (vVar 0) (vC (.int 0))) (vVar 1)) (hSub (vVar 0) (vC (.int 0)))) (sRet (vVar 2)))) (sNx)) (sSeq (sAsg (vOp addD (vOp idxD (vVar 0) (vC (.int 2))) (vC (.int 1))) (hSub (vVar 0) (vC (.int 2)))) (sSeq (sAsg (vOp modD (vB intB (aCons (vOp addD (vOp idxD (vVar 0) (vC (.int 1))) (vOp mulD (vC (.int 1299709)) (vOp idxD (vVar 0) (vC (.int 2))))) (aNil))) (vC (.int 2305843009213693951))) (hName 3)) (sSeq (sAsg (vOp modD (vB intB (aCons (vOp addD (vOp mulD (vVar 3) (vVar 3)) (vOp mulD (vC (.int 7919)) (vOp idxD (vVar 0) (vC (.int 2))))) (aNil))) (vC (.int 1000000000039))) (hName 4)) (sSeq (sAsg (vOp modD (vB intB (aCons (vOp addD (vOp mulD (vVar 4) (vVar 4)) (vVar 3)) (aNil))) (vC (.int 998244353))) (hName 5)) (sRet (vOp modD (vB intB (aCons (vOp divD (vVar 5) (vC (.int 61))) (aNil))) (vVar 1)))))))
def m__law_take : Fn := fnM 6 b__law_take
abbrev s__law_is_laid : Stmt := top 37
abbrev n__law_is_laid : List Str := ["size"]
abbrev p__law_is_laid : List Str := ["size"]
def b__law_is_laid : MS := sRet (vOr (vOp eqD (vOp modD (vOp idxD (vVar 0) (vC (.int 0))) (vOp idxD (vVar 0) (vC (.int 2)))) (vC (.int 0))) (vOp eqD (vOp modD (vOp idxD (vVar 0) (vC (.int 1))) (vOp idxD (vVar 0) (vC (.int 2)))) (vC (.int 0))))
def m__law_is_laid : Fn := fnM 1 b__law_is_laid
abbrev s__law_remainder : Stmt := top 40
abbrev n__law_remainder : List Str := ["size", "line"]
abbrev p__law_remainder : List Str := ["size", "line"]
def b__law_remainder : MS := sSeq (sIf (cVal (vOp eqD (vOp modD (vOp idxD (vVar 1) (vC (.int 1))) (vOp idxD (vVar 0) (vC (.int 2)))) (vC (.int 0)))) (sRet (vC (.int 0))) (sNx)) (sRet (vOp modD (vIf (cVal (vOp eqD (vOp idxD (vVar 1) (vC (.int 0))) (vC (.str "upright")))) (vOp idxD (vVar 0) (vC (.int 1))) (vOp idxD (vVar 0) (vC (.int 0)))) (vOp idxD (vVar 0) (vC (.int 2)))))
def m__law_remainder : Fn := fnM 2 b__law_remainder
abbrev s__law_count : Stmt := top 48
abbrev n__law_count : List Str := ["size", "blocks", "line", "found", "kind", "at", "x", "y", "width", "height", "way", "first", "side", "broad"]
abbrev p__law_count : List Str := ["size", "blocks", "line"]
def b__law_count : MS := sSeq (sPar3 3 4 5 (aCons (vC (.int 0)) (aCons (vOp idxD (vVar 2) (vC (.int 0))) (aCons (vOp idxD (vVar 2) (vC (.int 1))) (aNil))))) (sSeq (sFor (jSeq (vVar 1)) (hTup [hName 6, hName 7, hName 8, hName 9, hName 10]) (sSeq (sAsg (vIf (cVal (vOp eqD (vVar 10) (vC (.str "across")))) (vTup (aCons (vVar 6) (aCons (vVar 8) (aCons (vVar 9) (aNil))))) (vTup (aCons (vVar 7) (aCons (vVar 9) (aCons (vVar 8) (aNil)))))) (hTup [hName 11, hName 12, hName 13])) (sIf (cAnd (cVal (vOp eqD (vOp eqD (vVar 10) (vC (.str "across"))) (vOp eqD (vVar 4) (vC (.str "upright"))))) (cAnd (cVal (vChain ltD ltD (vVar 11) (vVar 5) (vOp addD (vVar 11) (vVar 12)))) (cVal (vOp gtD (vOp modD (vOp subD (vVar 5) (vVar 11)) (vOp idxD (vVar 0) (vC (.int 2)))) (vC (.int 0)))))) (sAsg (vOp addD (vVar 3) (vVar 13)) (hName 3)) (sNx)))) (sRet (vVar 3)))
def m__law_count : Fn := fnM 14 b__law_count
abbrev s__law_ends : Stmt := top 49
abbrev n__law_ends : List Str := ["size", "blocks", "way", "found", "block"]
abbrev p__law_ends : List Str := ["size", "blocks", "way"]
def b__law_ends : MS := sSeq (sAsg (vLstN (aCons (vC (.int 0)) (aCons (vIf (cVal (vOp eqD (vVar 2) (vC (.str "upright")))) (vOp idxD (vVar 0) (vC (.int 0))) (vOp idxD (vVar 0) (vC (.int 1)))) (aNil)))) (hName 3)) (sSeq (sFor (jSeq (vVar 1)) (hName 4) (sExp (vMu extM (vVar 3) (aCons (vIf (cVal (vOp eqD (vVar 2) (vC (.str "upright")))) (vLst (aCons (vOp idxD (vVar 4) (vC (.int 0))) (aCons (vOp addD (vOp idxD (vVar 4) (vC (.int 0))) (vOp idxD (vVar 4) (vC (.int 2)))) (aNil)))) (vLst (aCons (vOp idxD (vVar 4) (vC (.int 1))) (aCons (vOp addD (vOp idxD (vVar 4) (vC (.int 1))) (vOp idxD (vVar 4) (vC (.int 3)))) (aNil))))) (aNil))))) (sRet (vB ssB (aCons (vVar 3) (aNil)))))
def m__law_ends : Fn := fnM 5 b__law_ends
abbrev s__law_many_of : Stmt := top 50
abbrev n__law_many_of : List Str := ["first", "last", "remainder", "length", "begin"]
abbrev p__law_many_of : List Str := ["first", "last", "remainder", "length"]
def b__law_many_of : MS := sSeq (sAsg (vOp addD (vOp addD (vVar 0) (vC (.int 1))) (vOp modD (vOp subD (vOp subD (vVar 2) (vVar 0)) (vC (.int 1))) (vVar 3))) (hName 4)) (sRet (vIf (cVal (vOp geD (vVar 4) (vVar 1))) (vC (.int 0)) (vOp addD (vOp divD (vOp subD (vOp subD (vVar 1) (vC (.int 1))) (vVar 4)) (vVar 3)) (vC (.int 1)))))
def m__law_many_of : Fn := fnM 5 b__law_many_of
abbrev s_is_from : Stmt := top 8
abbrev n_is_from : List Str := ["value", "first", "last"]
abbrev p_is_from : List Str := ["value", "first", "last"]
def b_is_from : MS := sRet (vAnd (vCall m_is_integer (aCons (vVar 0) (aNil))) (vChain leD leD (vVar 1) (vVar 0) (vVar 2)))
def m_is_from : Fn := fnM 3 b_is_from
abbrev s_exchanged_block : Stmt := top 29
abbrev n_exchanged_block : List Str := ["block", "x", "y", "width", "height", "way"]
abbrev p_exchanged_block : List Str := ["block"]
def b_exchanged_block : MS := sSeq (sAsg (vVar 0) (hTup [hName 1, hName 2, hName 3, hName 4, hName 5])) (sRet (vTup (aCons (vVar 2) (aCons (vVar 1) (aCons (vVar 4) (aCons (vVar 3) (aCons (vCall m_other_way (aCons (vVar 5) (aNil))) (aNil))))))))
def m_exchanged_block : Fn := fnM 6 b_exchanged_block
abbrev s_Plan_count_at : Stmt := top2 31 6
abbrev n_Plan_count_at : List Str := ["self", "kind", "at", "found", "span", "first", "last", "broad"]
abbrev p_Plan_count_at : List Str := ["self", "kind", "at"]
def b_Plan_count_at : MS := sSeq (sAsg (vFrz (vLcN (jSeq (vMe 0 "spans" w_Plan_spans (vVar 0) (aCons (vVar 1) (aNil)))) [4] (hName 4) (cVal (vChain ltD ltD (vOp idxD (vVar 4) (vC (.int 0))) (vVar 2) (vOp idxD (vVar 4) (vC (.int 1))))) (vVar 4))) (hName 3)) (sRet (vB sumX (aCons (vFrz (vLcN (jSeq (vVar 3)) [5, 6, 7] (hTup [hName 5, hName 6, hName 7]) (cVal (vOp neD (vOp modD (vOp subD (vVar 2) (vVar 5)) (vOp idxD (vFld [0] "own_size" (vVar 0)) (vC (.int 2)))) (vC (.int 0)))) (vVar 7))) (aNil))))
def m_Plan_count_at : Fn := fnM 8 b_Plan_count_at
def w_Plan_count_at : Fn := lenF 3 m_Plan_count_at
abbrev s_Plan_cuts : Stmt := top2 31 7
abbrev n_Plan_cuts : List Str := ["self", "kind", "side", "ends", "span", "end"]
abbrev p_Plan_cuts : List Str := ["self", "kind"]
def b_Plan_cuts : MS := sSeq (sAsg (vIf (cVal (vOp eqD (vVar 1) (vC (.str "upright")))) (vOp idxD (vFld [0] "own_size" (vVar 0)) (vC (.int 0))) (vOp idxD (vFld [0] "own_size" (vVar 0)) (vC (.int 1)))) (hName 2)) (sSeq (sAsg (vFrz (vLc2N (jSeq (vMe 0 "spans" w_Plan_spans (vVar 0) (aCons (vVar 1) (aNil)))) [4, 5] (hName 4) (cYes) (jSeq (vSl (vVar 4) (oNone) (oSome (vC (.int 2))))) [5] (hName 5) (cYes) (vVar 5))) (hName 3)) (sRet (vB ssB (aCons (vOp addD (vLst (aCons (vC (.int 0)) (aCons (vVar 2) (aNil)))) (vVar 3)) (aNil)))))
def m_Plan_cuts : Fn := fnM 6 b_Plan_cuts
def w_Plan_cuts : Fn := lenF 2 m_Plan_cuts
abbrev s_Plan_remainders : Stmt := top2 31 8
abbrev n_Plan_remainders : List Str := ["self", "kind", "first", "last", "found", "span"]
abbrev p_Plan_remainders : List Str := ["self", "kind", "first", "last"]
def b_Plan_remainders : MS := sSeq (sAsg (vFrz (vLcN (jSeq (vMe 0 "spans" w_Plan_spans (vVar 0) (aCons (vVar 1) (aNil)))) [5] (hName 5) (cAnd (cVal (vOp leD (vOp idxD (vVar 5) (vC (.int 0))) (vVar 2))) (cVal (vOp leD (vVar 3) (vOp idxD (vVar 5) (vC (.int 1)))))) (vOp modD (vOp idxD (vVar 5) (vC (.int 0))) (vOp idxD (vFld [0] "own_size" (vVar 0)) (vC (.int 2)))))) (hName 4)) (sRet (vB ssB (aCons (vVar 4) (aNil))))
def m_Plan_remainders : Fn := fnM 6 b_Plan_remainders
def w_Plan_remainders : Fn := lenF 4 m_Plan_remainders
abbrev s__law_one : Stmt := top 35
abbrev n__law_one : List Str := ["urn", "items"]
abbrev p__law_one : List Str := ["urn", "items"]
def b__law_one : MS := sRet (vOp idxD (vVar 1) (vCall m__law_take (aCons (vVar 0) (aCons (vB lenB (aCons (vVar 1) (aNil))) (aNil)))))
def m__law_one : Fn := fnM 2 b__law_one
abbrev s__law_seams_between : Stmt := top 51
abbrev n__law_seams_between : List Str := ["size", "blocks", "way", "first", "last", "length", "found", "marks", "mark", "many", "line", "other", "free", "end", "at"]
abbrev p__law_seams_between : List Str := ["size", "blocks", "way", "first", "last"]
def b__law_seams_between : MS := sSeq (sPar 5 6 (aCons (vOp idxD (vVar 0) (vC (.int 2))) (aCons (vC (.int 0)) (aNil)))) (sSeq (sAsg (vB ssB (aCons (vFrz (vLcN (jSeq (vCall m__law_ends (aCons (vVar 0) (aCons (vVar 1) (aCons (vVar 2) (aNil)))))) [13] (hName 13) (cYes) (vOp modD (vVar 13) (vVar 5)))) (aNil))) (hName 7)) (sSeq (sFor (jSeq (vVar 7)) (hName 8) (sSeq (sAsg (vCall m__law_many_of (aCons (vVar 3) (aCons (vVar 4) (aCons (vVar 8) (aCons (vVar 5) (aNil)))))) (hName 9)) (sSeq (sAsg (vTup (aCons (vVar 2) (aCons (vOp addD (vOp addD (vVar 3) (vC (.int 1))) (vOp modD (vOp subD (vOp subD (vVar 8) (vVar 3)) (vC (.int 1))) (vVar 5))) (aNil)))) (hName 10)) (sIf (cAnd (cVal (vOp gtD (vVar 9) (vC (.int 0)))) (cVal (vOp eqD (vCall m__law_count (aCons (vVar 0) (aCons (vVar 1) (aCons (vVar 10) (aNil))))) (vC (.int 0))))) (sAsg (vOp addD (vVar 6) (vVar 9)) (hName 6)) (sNx))))) (sSeq (sAsg (vOp subD (vOp subD (vOp subD (vVar 4) (vVar 3)) (vC (.int 1))) (vB sumX (aCons (vFrz (vLcN (jSeq (vVar 7)) [8] (hName 8) (cYes) (vCall m__law_many_of (aCons (vVar 3) (aCons (vVar 4) (aCons (vVar 8) (aCons (vVar 5) (aNil)))))))) (aNil)))) (hName 11)) (sSeq (sAsg (vFrz (vLcN (jRngB (vOp addD (vVar 3) (vC (.int 1))) (vB minB (aCons (vVar 4) (aCons (vOp addD (vOp addD (vVar 3) (vC (.int 2))) (vB lenB (aCons (vVar 7) (aNil)))) (aNil))))) [14] (hName 14) (cVal (vOp ninX (vOp modD (vVar 14) (vVar 5)) (vVar 7))) (vVar 14))) (hName 12)) (sSeq (sIf (cAnd (cVal (vOp gtD (vVar 11) (vC (.int 0)))) (cAnd (cVal (vOp neD (vVar 12) (vLst (aNil)))) (cVal (vOp eqD (vCall m__law_count (aCons (vVar 0) (aCons (vVar 1) (aCons (vTup (aCons (vVar 2) (aCons (vOp idxD (vVar 12) (vC (.int 0))) (aNil)))) (aNil))))) (vC (.int 0)))))) (sAsg (vOp addD (vVar 6) (vVar 11)) (hName 6)) (sNx)) (sRet (vVar 6)))))))
def m__law_seams_between : Fn := fnM 15 b__law_seams_between
abbrev s_is_size : Stmt := top 11
abbrev n_is_size : List Str := ["value"]
abbrev p_is_size : List Str := ["value"]
def b_is_size : MS := sSeq (sIf (cOr (cNot (cVal (vCall m_is_row (aCons (vVar 0) (aCons (vC (.int 3)) (aNil)))))) (cOr (cNot (cVal (vCall m_is_from (aCons (vOp idxD (vVar 0) (vC (.int 0))) (aCons (vC (.int 1)) (aCons (vC (.int (10 ^ 30))) (aNil))))))) (cNot (cVal (vCall m_is_from (aCons (vOp idxD (vVar 0) (vC (.int 1))) (aCons (vC (.int 1)) (aCons (vC (.int (10 ^ 30))) (aNil))))))))) (sRet (vC (.bl false))) (sNx)) (sRet (vCall m_is_from (aCons (vOp idxD (vVar 0) (vC (.int 2))) (aCons (vC (.int 2)) (aCons (vC (.int (10 ^ 30))) (aNil))))))
def m_is_size : Fn := fnM 1 b_is_size
abbrev s_is_plain_line : Stmt := top 22
abbrev n_is_plain_line : List Str := ["size", "value"]
abbrev p_is_plain_line : List Str := ["size", "value"]
def b_is_plain_line : MS := sSeq (sIf (cOr (cNot (cVal (vCall m_is_row (aCons (vVar 1) (aCons (vC (.int 2)) (aNil)))))) (cNot (cVal (vCall m_is_word_of (aCons (vOp idxD (vVar 1) (vC (.int 0))) (aCons (vC (.kup [.str "upright", .str "level"])) (aNil))))))) (sRet (vC (.bl false))) (sNx)) (sRet (vCall m_is_from (aCons (vOp idxD (vVar 1) (vC (.int 1))) (aCons (vC (.int 1)) (aCons (vOp subD (vIf (cVal (vOp eqD (vOp idxD (vVar 1) (vC (.int 0))) (vC (.str "upright")))) (vOp idxD (vVar 0) (vC (.int 0))) (vOp idxD (vVar 0) (vC (.int 1)))) (vC (.int 1))) (aNil))))))
def m_is_plain_line : Fn := fnM 2 b_is_plain_line
abbrev s_is_block : Stmt := top 26
abbrev n_is_block : List Str := ["size", "value", "x", "y", "width", "height", "way"]
abbrev p_is_block : List Str := ["size", "value"]
def b_is_block : MS := sSeq (sIf (cOr (cNot (cVal (vCall m_is_row (aCons (vVar 1) (aCons (vC (.int 5)) (aNil)))))) (cNot (cVal (vCall m_is_word_of (aCons (vOp idxD (vVar 1) (vC (.int 4))) (aCons (vC (.kup [.str "across", .str "down"])) (aNil))))))) (sRet (vC (.bl false))) (sNx)) (sSeq (sAsg (vVar 1) (hTup [hName 2, hName 3, hName 4, hName 5, hName 6])) (sSeq (sIf (cOr (cNot (cVal (vCall m_is_from (aCons (vVar 2) (aCons (vC (.int 0)) (aCons (vOp subD (vOp idxD (vVar 0) (vC (.int 0))) (vC (.int 1))) (aNil))))))) (cNot (cVal (vCall m_is_from (aCons (vVar 3) (aCons (vC (.int 0)) (aCons (vOp subD (vOp idxD (vVar 0) (vC (.int 1))) (vC (.int 1))) (aNil)))))))) (sRet (vC (.bl false))) (sNx)) (sSeq (sIf (cOr (cNot (cVal (vCall m_is_from (aCons (vVar 4) (aCons (vC (.int 1)) (aCons (vOp subD (vOp idxD (vVar 0) (vC (.int 0))) (vVar 2)) (aNil))))))) (cNot (cVal (vCall m_is_from (aCons (vVar 5) (aCons (vC (.int 1)) (aCons (vOp subD (vOp idxD (vVar 0) (vC (.int 1))) (vVar 3)) (aNil)))))))) (sRet (vC (.bl false))) (sNx)) (sRet (vOp eqD (vOp modD (vIf (cVal (vOp eqD (vVar 6) (vC (.str "across")))) (vVar 4) (vVar 5)) (vOp idxD (vVar 0) (vC (.int 2)))) (vC (.int 0)))))))
def m_is_block : Fn := fnM 7 b_is_block
abbrev s_Plan_many_inside : Stmt := top2 31 9
abbrev n_Plan_many_inside : List Str := ["self", "kind", "first", "last", "found"]
abbrev p_Plan_many_inside : List Str := ["self", "kind", "first", "last"]
def b_Plan_many_inside : MS := sSeq (sAsg (vMe 0 "remainders" w_Plan_remainders (vVar 0) (aCons (vVar 1) (aCons (vVar 2) (aCons (vVar 3) (aNil))))) (hName 4)) (sSeq (sIf (cVal (vOp eqD (vVar 4) (vLst (aNil)))) (sRet (vOp subD (vOp subD (vVar 3) (vVar 2)) (vC (.int 1)))) (sNx)) (sRet (vIf (cVal (vOp eqD (vB lenB (aCons (vVar 4) (aNil))) (vC (.int 1)))) (vCall m_many_between (aCons (vVar 2) (aCons (vVar 3) (aCons (vOp idxD (vVar 4) (vC (.int 0))) (aCons (vOp idxD (vFld [0] "own_size" (vVar 0)) (vC (.int 2))) (aNil)))))) (vC (.int 0)))))
def m_Plan_many_inside : Fn := fnM 5 b_Plan_many_inside
def w_Plan_many_inside : Fn := lenF 4 m_Plan_many_inside
abbrev s__law_great : Stmt := top 44
abbrev n__law_great : List Str := ["urn", "length", "most", "sides", "turn", "times", "more"]
abbrev p__law_great : List Str := ["urn"]
def b__law_great : MS := sSeq (sAsg (vCall m__law_one (aCons (vVar 0) (aCons (vLst (aCons (vC (.int 2)) (aCons (vC (.int 3)) (aCons (vC (.int 4)) (aCons (vC (.int 7)) (aCons (vC (.int 10)) (aCons (vC (.int 2)) (aCons (vC (.int 3)) (aCons (vC (.int 1000)) (aCons (vOp addD (vOp powD (vC (.int 10)) (vC (.int 9))) (vC (.int 7))) (aCons (vOp powD (vC (.int 10)) (vC (.int 20))) (aCons (vOp addD (vOp powD (vC (.int 10)) (vC (.int 29))) (vC (.int 3))) (aNil))))))))))))) (aNil)))) (hName 1)) (sSeq (sAsg (vOp divD (vOp powD (vC (.int 10)) (vC (.int 30))) (vVar 1)) (hName 2)) (sSeq (sAsg (vLstN (aNil)) (hName 3)) (sSeq (sFor (jRng1 (vC (.int 2))) (hName 4) (sSeq (sAsg (vCall m__law_one (aCons (vVar 0) (aCons (vLst (aCons (vC (.int 1)) (aCons (vC (.int 2)) (aCons (vC (.int 3)) (aCons (vC (.int 4)) (aCons (vOp powD (vC (.int 10)) (vC (.int 6))) (aCons (vOp subD (vVar 2) (vC (.int 1))) (aCons (vOp divD (vVar 2) (vC (.int 3))) (aNil))))))))) (aNil)))) (hName 5)) (sSeq (sAsg (vCall m__law_one (aCons (vVar 0) (aCons (vLst (aCons (vC (.int 0)) (aCons (vC (.int 0)) (aCons (vC (.int 1)) (aCons (vOp subD (vVar 1) (vC (.int 1))) (aCons (vOp divD (vVar 1) (vC (.int 2))) (aNil))))))) (aNil)))) (hName 6)) (sExp (vMu appM (vVar 3) (aCons (vB maxB (aCons (vC (.int 1)) (aCons (vB minB (aCons (vOp powD (vC (.int 10)) (vC (.int 30))) (aCons (vOp addD (vOp mulD (vB minB (aCons (vVar 5) (aCons (vVar 2) (aNil)))) (vVar 1)) (vVar 6)) (aNil)))) (aNil)))) (aNil))))))) (sRet (vTup (aCons (vOp idxD (vVar 3) (vC (.int 0))) (aCons (vOp idxD (vVar 3) (vC (.int 1))) (aCons (vVar 1) (aNil)))))))))
def m__law_great : Fn := fnM 7 b__law_great
abbrev s__law_cut : Stmt := top 45
abbrev n__law_cut : List Str := ["urn", "side", "step", "most"]
abbrev p__law_cut : List Str := ["urn", "side", "step"]
def b__law_cut : MS := sSeq (sAsg (vOp divD (vOp subD (vVar 1) (vC (.int 1))) (vVar 2)) (hName 3)) (sRet (vOp mulD (vVar 2) (vCall m__law_one (aCons (vVar 0) (aCons (vLst (aCons (vC (.int 1)) (aCons (vVar 3) (aCons (vOp addD (vC (.int 1)) (vOp divD (vVar 3) (vC (.int 2)))) (aCons (vOp addD (vC (.int 1)) (vCall m__law_take (aCons (vVar 0) (aCons (vVar 3) (aNil))))) (aCons (vOp addD (vC (.int 1)) (vCall m__law_take (aCons (vVar 0) (aCons (vVar 3) (aNil))))) (aNil))))))) (aNil))))))
def m__law_cut : Fn := fnM 4 b__law_cut
abbrev s__law_many_seams : Stmt := top 52
abbrev n__law_many_seams : List Str := ["size", "blocks", "found", "way", "ends_here", "first", "last", "at"]
abbrev p__law_many_seams : List Str := ["size", "blocks"]
def b__law_many_seams : MS := sSeq (sAsg (vC (.int 0)) (hName 2)) (sSeq (sFor (jSeq (vLst (aCons (vC (.str "upright")) (aCons (vC (.str "level")) (aNil))))) (hName 3) (sSeq (sAsg (vCall m__law_ends (aCons (vVar 0) (aCons (vVar 1) (aCons (vVar 3) (aNil))))) (hName 4)) (sSeq (sAsg (vOp addD (vVar 2) (vB lenB (aCons (vFrz (vLcN (jSeq (vSl (vVar 4) (oSome (vC (.int 1))) (oSome (vUn negD (vC (.int 1)))))) [7] (hName 7) (cVal (vOp eqD (vCall m__law_count (aCons (vVar 0) (aCons (vVar 1) (aCons (vTup (aCons (vVar 3) (aCons (vVar 7) (aNil)))) (aNil))))) (vC (.int 0)))) (vVar 7))) (aNil)))) (hName 2)) (sFor (jZip (aCons (vVar 4) (aCons (vSl (vVar 4) (oSome (vC (.int 1))) (oNone)) (aNil)))) (hTup [hName 5, hName 6]) (sAsg (vOp addD (vVar 2) (vCall m__law_seams_between (aCons (vVar 0) (aCons (vVar 1) (aCons (vVar 3) (aCons (vVar 5) (aCons (vVar 6) (aNil)))))))) (hName 2)))))) (sRet (vVar 2)))
def m__law_many_seams : Fn := fnM 8 b__law_many_seams
abbrev s_require_line : Stmt := top 23
abbrev n_require_line : List Str := ["size", "line"]
abbrev p_require_line : List Str := ["size", "line"]
def b_require_line : MS := sIf (cNot (cVal (vCall m_is_plain_line (aCons (vVar 0) (aCons (vVar 1) (aNil)))))) (sStuck) (sNx)
def m_require_line : Fn := fnM 2 b_require_line
abbrev s_are_blocks : Stmt := top 28
abbrev n_are_blocks : List Str := ["size", "values", "value", "block", "at", "one", "other"]
abbrev p_are_blocks : List Str := ["size", "values"]
def b_are_blocks : MS := sSeq (sIf (cOr (cVal (vOp gtD (vB lenB (aCons (vVar 1) (aNil))) (vC (.int (64))))) (cNot (cVal (vB allB (aCons (vFrz (vLcN (jSeq (vVar 1)) [2] (hName 2) (cYes) (vCall m_is_block (aCons (vVar 0) (aCons (vVar 2) (aNil)))))) (aNil)))))) (sRet (vC (.bl false))) (sNx)) (sSeq (sIf (cVal (vOp neD (vB sumX (aCons (vFrz (vLcN (jSeq (vVar 1)) [3] (hName 3) (cYes) (vOp mulD (vOp idxD (vVar 3) (vC (.int 2))) (vOp idxD (vVar 3) (vC (.int 3)))))) (aNil))) (vOp mulD (vOp idxD (vVar 0) (vC (.int 0))) (vOp idxD (vVar 0) (vC (.int 1)))))) (sRet (vC (.bl false))) (sNx)) (sRet (vB allB (aCons (vFrz (vLc2N (jEnum (vVar 1)) [4, 5, 6] (hTup [hName 4, hName 5]) (cYes) (jSeq (vSl (vVar 1) (oSome (vOp addD (vVar 4) (vC (.int 1)))) (oNone))) [6] (hName 6) (cYes) (vCall m_are_apart (aCons (vVar 5) (aCons (vVar 6) (aNil)))))) (aNil)))))
def m_are_blocks : Fn := fnM 7 b_are_blocks
abbrev s_Plan_many_seams : Stmt := top2 31 13
abbrev n_Plan_many_seams : List Str := ["self", "found", "kind", "cuts", "at", "first", "last"]
abbrev p_Plan_many_seams : List Str := ["self"]
def b_Plan_many_seams : MS := sSeq (sAsg (vC (.int 0)) (hName 1)) (sSeq (sFor (jKup (vC (.kup [.str "upright", .str "level"]))) (hName 2) (sSeq (sAsg (vMe 0 "cuts" w_Plan_cuts (vVar 0) (aCons (vVar 2) (aNil))) (hName 3)) (sSeq (sAugN 1 (vB lenB (aCons (vFrz (vLcN (jSeq (vSl (vVar 3) (oSome (vC (.int 1))) (oSome (vUn negD (vC (.int 1)))))) [4] (hName 4) (cVal (vOp eqD (vMe 0 "count_at" w_Plan_count_at (vVar 0) (aCons (vVar 2) (aCons (vVar 4) (aNil)))) (vC (.int 0)))) (vVar 4))) (aNil)))) (sAugN 1 (vB sumX (aCons (vFrz (vLcN (jZip (aCons (vVar 3) (aCons (vSl (vVar 3) (oSome (vC (.int 1))) (oNone)) (aNil)))) [5, 6] (hTup [hName 5, hName 6]) (cYes) (vMe 0 "many_inside" w_Plan_many_inside (vVar 0) (aCons (vVar 2) (aCons (vVar 5) (aCons (vVar 6) (aNil))))))) (aNil))))))) (sRet (vVar 1)))
def m_Plan_many_seams : Fn := fnM 7 b_Plan_many_seams
abbrev s__law_blocks : Stmt := top 46
abbrev n__law_blocks : List Str := ["urn", "size", "pieces", "length", "stack", "found", "x", "y", "width", "height", "ways", "cuts", "steps", "at", "way", "side"]
abbrev p__law_blocks : List Str := ["urn", "size", "pieces"]
def b__law_blocks : MS := sSeq (sPar3 3 4 5 (aCons (vOp idxD (vVar 1) (vC (.int 2))) (aCons (vLstN (aCons (vTup (aCons (vC (.int 0)) (aCons (vC (.int 0)) (aCons (vOp idxD (vVar 1) (vC (.int 0))) (aCons (vOp idxD (vVar 1) (vC (.int 1))) (aNil)))))) (aNil))) (aCons (vLstN (aNil)) (aNil))))) (sSeq (sWhile (cVal (vOp neD (vVar 4) (vLst (aNil)))) (sSeq (sAsg (vMu popM (vVar 4) (aNil)) (hTup [hName 6, hName 7, hName 8, hName 9])) (sSeq (sAsg (vFrz (vLcN (jSeq (vLst (aCons (vTup (aCons (vC (.str "across")) (aCons (vVar 8) (aNil)))) (aCons (vTup (aCons (vC (.str "down")) (aCons (vVar 9) (aNil)))) (aNil))))) [14, 15] (hTup [hName 14, hName 15]) (cVal (vOp eqD (vOp modD (vVar 15) (vVar 3)) (vC (.int 0)))) (vVar 14))) (hName 10)) (sSeq (sAsg (vLst (aNil)) (hName 11)) (sSeq (sIf (cAnd (cVal (vOp ltD (vOp addD (vOp addD (vB lenB (aCons (vVar 4) (aNil))) (vB lenB (aCons (vVar 5) (aNil)))) (vC (.int 1))) (vVar 2))) (cVal (vOp gtD (vCall m__law_take (aCons (vVar 0) (aCons (vC (.int 5)) (aNil)))) (vC (.int 0))))) (sSeq (sAsg (vLst (aCons (vIf (cVal (vOp eqD (vOp modD (vVar 9) (vVar 3)) (vC (.int 0)))) (vC (.int 1)) (vVar 3)) (aCons (vIf (cVal (vOp eqD (vOp modD (vVar 8) (vVar 3)) (vC (.int 0)))) (vC (.int 1)) (vVar 3)) (aNil)))) (hName 12)) (sAsg (vFrz (vLcN (jEnum (vLst (aCons (vVar 8) (aCons (vVar 9) (aNil))))) [13, 15] (hTup [hName 13, hName 15]) (cVal (vOp gtD (vVar 15) (vOp idxD (vVar 12) (vVar 13)))) (vVar 13))) (hName 11))) (sNx)) (sIf (cVal (vOp eqD (vVar 11) (vLst (aNil)))) (sExp (vMu appM (vVar 5) (aCons (vTup (aCons (vVar 6) (aCons (vVar 7) (aCons (vVar 8) (aCons (vVar 9) (aCons (vCall m__law_one (aCons (vVar 0) (aCons (vVar 10) (aNil)))) (aNil))))))) (aNil)))) (sIf (cVal (vOp eqD (vCall m__law_one (aCons (vVar 0) (aCons (vVar 11) (aNil)))) (vC (.int 0)))) (sSeq (sAsg (vCall m__law_cut (aCons (vVar 0) (aCons (vVar 8) (aCons (vOp idxD (vVar 12) (vC (.int 0))) (aNil))))) (hName 13)) (sExp (vMu extM (vVar 4) (aCons (vLst (aCons (vTup (aCons (vVar 6) (aCons (vVar 7) (aCons (vVar 13) (aCons (vVar 9) (aNil)))))) (aCons (vTup (aCons (vOp addD (vVar 6) (vVar 13)) (aCons (vVar 7) (aCons (vOp subD (vVar 8) (vVar 13)) (aCons (vVar 9) (aNil)))))) (aNil)))) (aNil))))) (sSeq (sAsg (vCall m__law_cut (aCons (vVar 0) (aCons (vVar 9) (aCons (vOp idxD (vVar 12) (vC (.int 1))) (aNil))))) (hName 13)) (sExp (vMu extM (vVar 4) (aCons (vLst (aCons (vTup (aCons (vVar 6) (aCons (vVar 7) (aCons (vVar 8) (aCons (vVar 13) (aNil)))))) (aCons (vTup (aCons (vVar 6) (aCons (vOp addD (vVar 7) (vVar 13)) (aCons (vVar 8) (aCons (vOp subD (vVar 9) (vVar 13)) (aNil)))))) (aNil)))) (aNil)))))))))))) (sRet (vB sortedX (aCons (vVar 5) (aNil)))))
def m__law_blocks : Fn := fnM 16 b__law_blocks
abbrev s_Plan_init : Stmt := top2 31 0
abbrev n_Plan_init : List Str := ["self", "size", "blocks", "block"]
abbrev p_Plan_init : List Str := ["self", "size", "blocks"]
def b_Plan_init : MS := sSeq (sIf (cOr (cNot (cVal (vCall m_is_size (aCons (vVar 1) (aNil))))) (cNot (cVal (vCall m_are_blocks (aCons (vVar 1) (aCons (vVar 2) (aNil))))))) (sStuck) (sNx)) (sSeq (sFldA [0] "own_size" (vVar 0) (vVar 1)) (sSeq (sFldA [0] "own_blocks" (vVar 0) (vB tupleB (aCons (vB sortedX (aCons (vVar 2) (aNil))) (aNil)))) (sFldA [0] "own_known" (vVar 0) (vDcN (jSeq (vVar 2)) [3] (hName 3) (cYes) (vVar 3) (vC (.bl true))))))
def m_Plan_init : Fn := fnM 4 b_Plan_init
def w_Plan_init : Fn := starF 2 m_Plan_init
abbrev s_Plan_crossings : Stmt := top2 31 11
abbrev n_Plan_crossings : List Str := ["self", "line"]
abbrev p_Plan_crossings : List Str := ["self", "line"]
def b_Plan_crossings : MS := sSeq (sExp (vCall m_require_line (aCons (vFld [0] "own_size" (vVar 0)) (aCons (vVar 1) (aNil))))) (sRet (vMeL 0 "count_at" w_Plan_count_at (vVar 0) (vVar 1)))
def m_Plan_crossings : Fn := fnM 2 b_Plan_crossings
def w_Plan_crossings : Fn := lenF 2 m_Plan_crossings
abbrev s_Plan_is_seam : Stmt := top2 31 12
abbrev n_Plan_is_seam : List Str := ["self", "line"]
abbrev p_Plan_is_seam : List Str := ["self", "line"]
def b_Plan_is_seam : MS := sSeq (sExp (vCall m_require_line (aCons (vFld [0] "own_size" (vVar 0)) (aCons (vVar 1) (aNil))))) (sRet (vOp eqD (vMeL 0 "count_at" w_Plan_count_at (vVar 0) (vVar 1)) (vC (.int 0))))
def m_Plan_is_seam : Fn := fnM 2 b_Plan_is_seam
def w_Plan_is_seam : Fn := lenF 2 m_Plan_is_seam
abbrev s_Plan_of : Stmt := top2 31 1
abbrev n_Plan_of : List Str := ["cls", "size", "blocks"]
abbrev p_Plan_of : List Str := ["cls", "size", "blocks"]
def b_Plan_of : MS := sSeq (sIf (cNot (cVal (vB isiB (aCons (vVar 2) (aCons (vC (.raw (.ty "tuple"))) (aNil)))))) (sStuck) (sNx)) (sRet (vMk 0 w_Plan_init (vVar 0) (aCons (vVar 1) (aStar (vVar 2) (aNil)))))
def m_Plan_of : Fn := fnM 3 b_Plan_of
def w_Plan_of : Fn := lenF 3 m_Plan_of
abbrev s_Plan_exchanged : Stmt := top2 31 15
abbrev n_Plan_exchanged : List Str := ["self", "block"]
abbrev p_Plan_exchanged : List Str := ["self"]
def b_Plan_exchanged : MS := sRet (vCM 0 w_Plan_of (vC (.cls 0)) (aCons (vCall m_exchanged_size (aCons (vFld [0] "own_size" (vVar 0)) (aNil))) (aCons (vB tupleB (aCons (vFrz (vLcN (jSeq (vFld [0] "own_blocks" (vVar 0))) [1] (hName 1) (cYes) (vCall m_exchanged_block (aCons (vVar 1) (aNil))))) (aNil))) (aNil))))
def m_Plan_exchanged : Fn := fnM 2 b_Plan_exchanged
abbrev s__law_right : Stmt := top 53
abbrev n__law_right : List Str := ["urn", "size", "blocks", "plan", "some", "way", "side", "near", "end", "line", "due", "at"]
abbrev p__law_right : List Str := ["urn", "size"]
def b__law_right : MS := sSeq (sAsg (vCall m__law_blocks (aCons (vVar 0) (aCons (vVar 1) (aCons (vC (.int 9)) (aNil))))) (hName 2)) (sSeq (sPar 3 4 (aCons (vCM 0 w_Plan_of (vC (.cls 0)) (aCons (vVar 1) (aCons (vB tupleB (aCons (vVar 2) (aNil))) (aNil)))) (aCons (vLstN (aNil)) (aNil)))) (sSeq (sFor (jSeq (vLst (aCons (vTup (aCons (vC (.str "upright")) (aCons (vOp idxD (vVar 1) (vC (.int 0))) (aNil)))) (aCons (vTup (aCons (vC (.str "level")) (aCons (vOp idxD (vVar 1) (vC (.int 1))) (aNil)))) (aNil))))) (hTup [hName 5, hName 6]) (sSeq (sAsg (vLstN (aNil)) (hName 7)) (sSeq (sFor (jSeq (vCall m__law_ends (aCons (vVar 1) (aCons (vVar 2) (aCons (vVar 5) (aNil)))))) (hName 8) (sExp (vMu extM (vVar 7) (aCons (vLst (aCons (vOp subD (vVar 8) (vC (.int 1))) (aCons (vVar 8) (aCons (vOp addD (vVar 8) (vC (.int 1))) (aCons (vOp addD (vVar 8) (vOp idxD (vVar 1) (vC (.int 2)))) (aCons (vOp subD (vVar 8) (vOp idxD (vVar 1) (vC (.int 2)))) (aNil))))))) (aNil))))) (sExp (vMu extM (vVar 4) (aCons (vFrz (vLcN (jSeq (vOp addD (vVar 7) (vLst (aCons (vOp divD (vVar 6) (vC (.int 2))) (aCons (vOp divD (vVar 6) (vC (.int 3))) (aNil)))))) [11] (hName 11) (cVal (vChain leD ltD (vC (.int 1)) (vVar 11) (vVar 6))) (vTup (aCons (vVar 5) (aCons (vVar 11) (aNil)))))) (aNil))))))) (sSeq (sFor (jSeq (vVar 4)) (hName 9) (sSeq (sAsg (vCall m__law_count (aCons (vVar 1) (aCons (vVar 2) (aCons (vVar 9) (aNil))))) (hName 10)) (sSeq (sIf (cOr (cVal (vOp neD (vMe 0 "crossings" w_Plan_crossings (vVar 3) (aCons (vVar 9) (aNil))) (vVar 10))) (cVal (vOp neD (vMe 0 "is_seam" w_Plan_is_seam (vVar 3) (aCons (vVar 9) (aNil))) (vOp eqD (vVar 10) (vC (.int 0)))))) (sRet (vC (.bl false))) (sNx)) (sIf (cVal (vOp neD (vOp modD (vVar 10) (vOp idxD (vVar 1) (vC (.int 2)))) (vCall m__law_remainder (aCons (vVar 1) (aCons (vVar 9) (aNil)))))) (sRet (vC (.bl false))) (sNx))))) (sRet (vAnd (vOp eqD (vMe0 0 "many_seams" m_Plan_many_seams (vVar 3)) (vCall m__law_many_seams (aCons (vVar 1) (aCons (vVar 2) (aNil))))) (vOp eqD (vMe0 0 "many_seams" m_Plan_many_seams (vMe0 0 "exchanged" m_Plan_exchanged (vVar 3))) (vMe0 0 "many_seams" m_Plan_many_seams (vVar 3))))))))
def m__law_right : Fn := fnM 12 b__law_right
abbrev s_law : Stmt := top 54
abbrev n_law : List Str := ["script", "at", "urn", "turn", "size", "told"]
abbrev p_law : List Str := ["script"]
def b_law : MS := sSeq (sFor (jRng1 (vB maxB (aCons (vC (.int 1)) (aCons (vB minB (aCons (vC (.int 6)) (aCons (vB lenB (aCons (vVar 0) (aNil))) (aNil)))) (aNil))))) (hName 1) (sSeq (sAsg (vCall m__law_urn (aCons (vVar 0) (aCons (vVar 1) (aNil)))) (hName 2)) (sFor (jRng1 (vC (.int 4))) (hName 3) (sSeq (sAsg (vCall m__law_great (aCons (vVar 2) (aNil))) (hName 4)) (sIf (cAnd (cVal (vCall m__law_is_laid (aCons (vVar 4) (aNil)))) (cNot (cVal (vCall m__law_right (aCons (vVar 2) (aCons (vVar 4) (aNil))))))) (sRet (vC (.bl false))) (sNx)))))) (sSeq (sAsg (vLstN (aCons (vMe0 0 "many_seams" m_Plan_many_seams (vMk 0 w_Plan_init (vC (.cls 0)) (aCons (vTup (aCons (vOp powD (vC (.int 10)) (vC (.int 30))) (aCons (vC (.int 2)) (aCons (vC (.int 2)) (aNil))))) (aCons (vTup (aCons (vC (.int 0)) (aCons (vC (.int 0)) (aCons (vOp powD (vC (.int 10)) (vC (.int 30))) (aCons (vC (.int 2)) (aCons (vC (.str "across")) (aNil))))))) (aNil))))) (aNil))) (hName 5)) (sSeq (sExp (vMu appM (vVar 5) (aCons (vMe0 0 "many_seams" m_Plan_many_seams (vMk 0 w_Plan_init (vC (.cls 0)) (aCons (vTup (aCons (vOp powD (vC (.int 10)) (vC (.int 30))) (aCons (vC (.int 1)) (aCons (vOp powD (vC (.int 10)) (vC (.int 30))) (aNil))))) (aCons (vTup (aCons (vC (.int 0)) (aCons (vC (.int 0)) (aCons (vOp powD (vC (.int 10)) (vC (.int 30))) (aCons (vC (.int 1)) (aCons (vC (.str "across")) (aNil))))))) (aNil))))) (aNil)))) (sSeq (sExp (vMu appM (vVar 5) (aCons (vMe0 0 "many_seams" m_Plan_many_seams (vMk 0 w_Plan_init (vC (.cls 0)) (aCons (vTup (aCons (vOp powD (vC (.int 10)) (vC (.int 30))) (aCons (vC (.int 5)) (aCons (vC (.int 5)) (aNil))))) (aCons (vTup (aCons (vC (.int 0)) (aCons (vC (.int 0)) (aCons (vOp powD (vC (.int 10)) (vC (.int 30))) (aCons (vC (.int 5)) (aCons (vC (.str "down")) (aNil))))))) (aNil))))) (aNil)))) (sRet (vOp eqD (vVar 5) (vLst (aCons (vOp mulD (vC (.int 5)) (vOp powD (vC (.int 10)) (vC (.int 29)))) (aCons (vC (.int 0)) (aCons (vOp subD (vOp powD (vC (.int 10)) (vC (.int 30))) (vC (.int 1))) (aNil))))))))))
def m_law : Fn := fnM 6 b_law
structure Df (K : PySem.W.Frag) (mg : Str → Option Value) (x : Str) (st : Stmt) (ps : List Str) (fa : Addr) (fd : FuncData) : Prop where
  fn : Fun K x x st fa fd
  mg : mg x = some (.ref fa)
  bd : Binds K fd ps []
/-- what the top leaves -/
structure Tp (K : PySem.W.Frag) (mg : Str → Option Value) (CT : Ctx) where
  (a_is_integer : Addr) (d_is_integer : FuncData) (f_is_integer : Df K mg "is_integer" s_is_integer p_is_integer a_is_integer d_is_integer)
  (a_is_from : Addr) (d_is_from : FuncData) (f_is_from : Df K mg "is_from" s_is_from p_is_from a_is_from d_is_from)
  (a_is_row : Addr) (d_is_row : FuncData) (f_is_row : Df K mg "is_row" s_is_row p_is_row a_is_row d_is_row)
  (a_is_word_of : Addr) (d_is_word_of : FuncData) (f_is_word_of : Df K mg "is_word_of" s_is_word_of p_is_word_of a_is_word_of d_is_word_of)
  (a_is_size : Addr) (d_is_size : FuncData) (f_is_size : Df K mg "is_size" s_is_size p_is_size a_is_size d_is_size)
  (a_exchanged_size : Addr) (d_exchanged_size : FuncData) (f_exchanged_size : Df K mg "exchanged_size" s_exchanged_size p_exchanged_size a_exchanged_size d_exchanged_size)
  (a_other_way : Addr) (d_other_way : FuncData) (f_other_way : Df K mg "other_way" s_other_way p_other_way a_other_way d_other_way)
  (a_is_plain_line : Addr) (d_is_plain_line : FuncData) (f_is_plain_line : Df K mg "is_plain_line" s_is_plain_line p_is_plain_line a_is_plain_line d_is_plain_line)
  (a_require_line : Addr) (d_require_line : FuncData) (f_require_line : Df K mg "require_line" s_require_line p_require_line a_require_line d_require_line)
  (a_is_block : Addr) (d_is_block : FuncData) (f_is_block : Df K mg "is_block" s_is_block p_is_block a_is_block d_is_block)
  (a_are_apart : Addr) (d_are_apart : FuncData) (f_are_apart : Df K mg "are_apart" s_are_apart p_are_apart a_are_apart d_are_apart)
  (a_are_blocks : Addr) (d_are_blocks : FuncData) (f_are_blocks : Df K mg "are_blocks" s_are_blocks p_are_blocks a_are_blocks d_are_blocks)
  (a_exchanged_block : Addr) (d_exchanged_block : FuncData) (f_exchanged_block : Df K mg "exchanged_block" s_exchanged_block p_exchanged_block a_exchanged_block d_exchanged_block)
  (a_many_between : Addr) (d_many_between : FuncData) (f_many_between : Df K mg "many_between" s_many_between p_many_between a_many_between d_many_between)
  (a_Plan_init : Addr) (d_Plan_init : FuncData) (f_Plan_init : Fun K "__init__" "Plan.__init__" s_Plan_init a_Plan_init d_Plan_init)
  (b_Plan_init : ∀ us rest : List Value, us.length = 2 → bindArgs d_Plan_init ⟨us ++ rest, []⟩ = (newTuple rest >>= fun t => pure ((["self", "size"] : List Str).zip us ++ [(("blocks" : Str), t)])))
  (a_Plan_of : Addr) (d_Plan_of : FuncData) (f_Plan_of : Fun K "of" "Plan.of" s_Plan_of a_Plan_of d_Plan_of)
  (b_Plan_of : Binds K d_Plan_of p_Plan_of [])
  (pr_Plan_of : Addr) (cm_Plan_of : ClX.CMet K (CT 0) (.type "type") "of" pr_Plan_of a_Plan_of)
  (a_Plan_spans : Addr) (d_Plan_spans : FuncData) (f_Plan_spans : Fun K "spans" "Plan.spans" s_Plan_spans a_Plan_spans d_Plan_spans)
  (b_Plan_spans : Binds K d_Plan_spans p_Plan_spans [])
  (me_Plan_spans : L2.Meth K (CT 0) "spans" a_Plan_spans)
  (a_Plan_count_at : Addr) (d_Plan_count_at : FuncData) (f_Plan_count_at : Fun K "count_at" "Plan.count_at" s_Plan_count_at a_Plan_count_at d_Plan_count_at)
  (b_Plan_count_at : Binds K d_Plan_count_at p_Plan_count_at [])
  (me_Plan_count_at : L2.Meth K (CT 0) "count_at" a_Plan_count_at)
  (bm_Plan_count_at : L2.BMeth K (CT 0) "count_at" a_Plan_count_at)
  (a_Plan_cuts : Addr) (d_Plan_cuts : FuncData) (f_Plan_cuts : Fun K "cuts" "Plan.cuts" s_Plan_cuts a_Plan_cuts d_Plan_cuts)
  (b_Plan_cuts : Binds K d_Plan_cuts p_Plan_cuts [])
  (me_Plan_cuts : L2.Meth K (CT 0) "cuts" a_Plan_cuts)
  (a_Plan_remainders : Addr) (d_Plan_remainders : FuncData) (f_Plan_remainders : Fun K "remainders" "Plan.remainders" s_Plan_remainders a_Plan_remainders d_Plan_remainders)
  (b_Plan_remainders : Binds K d_Plan_remainders p_Plan_remainders [])
  (me_Plan_remainders : L2.Meth K (CT 0) "remainders" a_Plan_remainders)
  (a_Plan_many_inside : Addr) (d_Plan_many_inside : FuncData) (f_Plan_many_inside : Fun K "many_inside" "Plan.many_inside" s_Plan_many_inside a_Plan_many_inside d_Plan_many_inside)
  (b_Plan_many_inside : Binds K d_Plan_many_inside p_Plan_many_inside [])
  (me_Plan_many_inside : L2.Meth K (CT 0) "many_inside" a_Plan_many_inside)
  (a_Plan_crossings : Addr) (d_Plan_crossings : FuncData) (f_Plan_crossings : Fun K "crossings" "Plan.crossings" s_Plan_crossings a_Plan_crossings d_Plan_crossings)
  (b_Plan_crossings : Binds K d_Plan_crossings p_Plan_crossings [])
  (me_Plan_crossings : L2.Meth K (CT 0) "crossings" a_Plan_crossings)
  (a_Plan_is_seam : Addr) (d_Plan_is_seam : FuncData) (f_Plan_is_seam : Fun K "is_seam" "Plan.is_seam" s_Plan_is_seam a_Plan_is_seam d_Plan_is_seam)
  (b_Plan_is_seam : Binds K d_Plan_is_seam p_Plan_is_seam [])
  (me_Plan_is_seam : L2.Meth K (CT 0) "is_seam" a_Plan_is_seam)
  (a_Plan_many_seams : Addr) (d_Plan_many_seams : FuncData) (f_Plan_many_seams : Fun K "many_seams" "Plan.many_seams" s_Plan_many_seams a_Plan_many_seams d_Plan_many_seams)
  (b_Plan_many_seams : Binds K d_Plan_many_seams p_Plan_many_seams [])
  (me_Plan_many_seams : L2.Meth K (CT 0) "many_seams" a_Plan_many_seams)
  (a_Plan_exchanged : Addr) (d_Plan_exchanged : FuncData) (f_Plan_exchanged : Fun K "exchanged" "Plan.exchanged" s_Plan_exchanged a_Plan_exchanged d_Plan_exchanged)
  (b_Plan_exchanged : Binds K d_Plan_exchanged p_Plan_exchanged [])
  (me_Plan_exchanged : L2.Meth K (CT 0) "exchanged" a_Plan_exchanged)
  (a__law_urn : Addr) (d__law_urn : FuncData) (f__law_urn : Df K mg "_law_urn" s__law_urn p__law_urn a__law_urn d__law_urn)
  (a__law_take : Addr) (d__law_take : FuncData) (f__law_take : Df K mg "_law_take" s__law_take p__law_take a__law_take d__law_take)
  (a__law_one : Addr) (d__law_one : FuncData) (f__law_one : Df K mg "_law_one" s__law_one p__law_one a__law_one d__law_one)
  (a__law_is_laid : Addr) (d__law_is_laid : FuncData) (f__law_is_laid : Df K mg "_law_is_laid" s__law_is_laid p__law_is_laid a__law_is_laid d__law_is_laid)
  (a__law_remainder : Addr) (d__law_remainder : FuncData) (f__law_remainder : Df K mg "_law_remainder" s__law_remainder p__law_remainder a__law_remainder d__law_remainder)
  (a__law_great : Addr) (d__law_great : FuncData) (f__law_great : Df K mg "_law_great" s__law_great p__law_great a__law_great d__law_great)
  (a__law_cut : Addr) (d__law_cut : FuncData) (f__law_cut : Df K mg "_law_cut" s__law_cut p__law_cut a__law_cut d__law_cut)
  (a__law_blocks : Addr) (d__law_blocks : FuncData) (f__law_blocks : Df K mg "_law_blocks" s__law_blocks p__law_blocks a__law_blocks d__law_blocks)
  (a__law_count : Addr) (d__law_count : FuncData) (f__law_count : Df K mg "_law_count" s__law_count p__law_count a__law_count d__law_count)
  (a__law_ends : Addr) (d__law_ends : FuncData) (f__law_ends : Df K mg "_law_ends" s__law_ends p__law_ends a__law_ends d__law_ends)
  (a__law_many_of : Addr) (d__law_many_of : FuncData) (f__law_many_of : Df K mg "_law_many_of" s__law_many_of p__law_many_of a__law_many_of d__law_many_of)
  (a__law_seams_between : Addr) (d__law_seams_between : FuncData) (f__law_seams_between : Df K mg "_law_seams_between" s__law_seams_between p__law_seams_between a__law_seams_between d__law_seams_between)
  (a__law_many_seams : Addr) (d__law_many_seams : FuncData) (f__law_many_seams : Df K mg "_law_many_seams" s__law_many_seams p__law_many_seams a__law_many_seams d__law_many_seams)
  (a__law_right : Addr) (d__law_right : FuncData) (f__law_right : Df K mg "_law_right" s__law_right p__law_right a__law_right d__law_right)
  (g_Plan : mg "Plan" = some (.ref (CT 0))) (r_Plan : ClX.CRead K (CT 0) (.type "type")) (i_Plan : C8.InsC K (CT 0)) (nt_Plan : notc K (CT 0) = true) (sn_Plan : PySem.W.subIn K (.ref (CT 0)) (.type "NoneType") = some false) (ny_Plan : noty K (CT 0) = true) (z_Plan : L2.Cls K (CT 0))
  (k_Plan : L2.Mk K (CT 0) a_Plan_init)
  (fl_own_blocks : ClsF K CT [0] "own_blocks")
  (fl_own_known : ClsF K CT [0] "own_known")
  (fl_own_size : ClsF K CT [0] "own_size")
  (t_ACROSS : Tok) (c_ACROSS : mg "ACROSS" = some (.str "across" t_ACROSS))
  (t_DOWN : Tok) (c_DOWN : mg "DOWN" = some (.str "down" t_DOWN))
  (c_KINDS : GT K mg "KINDS" [.str "upright", .str "level"])
  (t_MAX_BLOCKS : Tok) (c_MAX_BLOCKS : mg "MAX_BLOCKS" = some (.int (64) t_MAX_BLOCKS))
  (t_MAX_SIDE : Tok) (c_MAX_SIDE : mg "MAX_SIDE" = some (.int (10 ^ 30) t_MAX_SIDE))
  (t_UPRIGHT : Tok) (c_UPRIGHT : mg "UPRIGHT" = some (.str "upright" t_UPRIGHT))
  (c_WAYS : GT K mg "WAYS" [.str "across", .str "down"])
  (b_abs : mg "abs" = none)
  (b_all : mg "all" = none)
  (b_bool : mg "bool" = none)
  (b_enumerate : mg "enumerate" = none)
  (b_int : mg "int" = none)
  (b_isinstance : mg "isinstance" = none)
  (b_len : mg "len" = none)
  (b_max : mg "max" = none)
  (b_min : mg "min" = none)
  (b_range : mg "range" = none)
  (b_set : mg "set" = none)
  (b_sorted : mg "sorted" = none)
  (b_str : mg "str" = none)
  (b_sum : mg "sum" = none)
  (b_tuple : mg "tuple" = none)
  (b_zip : mg "zip" = none)
section
variable {P : Program} {w : World} {K : PySem.W.Frag} {mg : Str → Option Value} {base : Heap} {CT : Ctx}
theorem sc_is_integer : FnScope n_is_integer p_is_integer (defScope s_is_integer) := ⟨rfl, rfl, rfl, by decide +kernel, rfl, by decide +kernel, by decide +kernel⟩
theorem ok_is_integer (G : Tp K mg CT) : Fq P w K mg base CT 1 G.a_is_integer G.d_is_integer p_is_integer m_is_integer :=
  fn_q (N := n_is_integer) (mb := b_is_integer) G.f_is_integer.fn sc_is_integer (by decide) fun cdv A outer s H E hr hx =>
    (ms_one (ms_ret (me_and (me_callB cb_isi G.b_isinstance rfl rfl (ma_cons (mv 0) (ma_cons (me_ty G.b_int) ma_nil))) (me_one (me_not (me_callB cb_isi G.b_isinstance rfl rfl (ma_cons (mv 0) (ma_cons (me_ty G.b_bool) ma_nil))))))))
theorem sc_is_row : FnScope n_is_row p_is_row (defScope s_is_row) := ⟨rfl, rfl, rfl, by decide +kernel, rfl, by decide +kernel, by decide +kernel⟩
theorem ok_is_row (G : Tp K mg CT) : Fq P w K mg base CT 1 G.a_is_row G.d_is_row p_is_row m_is_row :=
  fn_q (N := n_is_row) (mb := b_is_row) G.f_is_row.fn sc_is_row (by decide) fun cdv A outer s H E hr hx =>
    (ms_one (ms_ret (me_and (me_callB cb_isi G.b_isinstance rfl rfl (ma_cons (mv 0) (ma_cons (me_ty G.b_tuple) ma_nil))) (me_one (me_cmp (opD_eq (hu64 hr)) (by rfl) (me_callB cb_len G.b_len rfl rfl (ma_cons (mv 0) ma_nil)) (mv 1))))))
theorem sc_is_word_of : FnScope n_is_word_of p_is_word_of (defScope s_is_word_of) := ⟨rfl, rfl, rfl, by decide +kernel, rfl, by decide +kernel, by decide +kernel⟩
theorem ok_is_word_of (G : Tp K mg CT) : Fq P w K mg base CT 1 G.a_is_word_of G.d_is_word_of p_is_word_of m_is_word_of :=
  fn_q (N := n_is_word_of) (mb := b_is_word_of) G.f_is_word_of.fn sc_is_word_of (by decide) fun cdv A outer s H E hr hx =>
    (ms_one (ms_ret (me_and (me_callB cb_isi G.b_isinstance rfl rfl (ma_cons (mv 0) (ma_cons (me_ty G.b_str) ma_nil))) (me_one (me_cmp (opD_in (hu65 hr)) (by rfl) (mv 0) (mv 1))))))
theorem sc_exchanged_size : FnScope n_exchanged_size p_exchanged_size (defScope s_exchanged_size) := ⟨rfl, rfl, rfl, by decide +kernel, rfl, by decide +kernel, by decide +kernel⟩
theorem ok_exchanged_size (G : Tp K mg CT) : Fq P w K mg base CT 1 G.a_exchanged_size G.d_exchanged_size p_exchanged_size m_exchanged_size :=
  fn_q (N := n_exchanged_size) (mb := b_exchanged_size) G.f_exchanged_size.fn sc_exchanged_size (by decide) fun cdv A outer s H E hr hx =>
    (ms_one (ms_ret (me_tup (ma_cons (me_ix (mv 0) me_int) (ma_cons (me_ix (mv 0) me_int) (ma_cons (me_ix (mv 0) me_int) ma_nil))))))
theorem sc_other_way : FnScope n_other_way p_other_way (defScope s_other_way) := ⟨rfl, rfl, rfl, by decide +kernel, rfl, by decide +kernel, by decide +kernel⟩
theorem ok_other_way (G : Tp K mg CT) : Fq P w K mg base CT 1 G.a_other_way G.d_other_way p_other_way m_other_way :=
  fn_q (N := n_other_way) (mb := b_other_way) G.f_other_way.fn sc_other_way (by decide) fun cdv A outer s H E hr hx =>
    (ms_one (ms_ret (me_if (mt_cmp (opD_eq (hu64 hr)) (by rfl) (mv 0) (me_gstr G.c_ACROSS)) (me_gstr G.c_DOWN) (me_gstr G.c_ACROSS))))
theorem sc_are_apart : FnScope n_are_apart p_are_apart (defScope s_are_apart) := ⟨rfl, rfl, rfl, by decide +kernel, rfl, by decide +kernel, by decide +kernel⟩
theorem ok_are_apart (G : Tp K mg CT) : Fq P w K mg base CT 1 G.a_are_apart G.d_are_apart p_are_apart m_are_apart :=
  fn_q (N := n_are_apart) (mb := b_are_apart) G.f_are_apart.fn sc_are_apart (by decide) fun cdv A outer s H E hr hx =>
    (ms_cons (ms_if (mt_w (mw_or (mt_cmp opD_le (by rfl) (me_op opD_add (me_ix (mv 0) me_int) (me_ix (mv 0) me_int)) (me_ix (mv 1) me_int)) (mw_or1 (mt_cmp opD_le (by rfl) (me_op opD_add (me_ix (mv 1) me_int) (me_ix (mv 1) me_int)) (me_ix (mv 0) me_int))))) (ms_one (ms_ret me_bl)) ms_nil)
    (ms_one (ms_ret (me_or (me_cmp opD_le (by rfl) (me_op opD_add (me_ix (mv 0) me_int) (me_ix (mv 0) me_int)) (me_ix (mv 1) me_int)) (me_one (me_cmp opD_le (by rfl) (me_op opD_add (me_ix (mv 1) me_int) (me_ix (mv 1) me_int)) (me_ix (mv 0) me_int)))))))
theorem sc_many_between : FnScope n_many_between p_many_between (defScope s_many_between) := ⟨rfl, rfl, rfl, by decide +kernel, rfl, by decide +kernel, by decide +kernel⟩
theorem ok_many_between (G : Tp K mg CT) : Fq P w K mg base CT 1 G.a_many_between G.d_many_between p_many_between m_many_between :=
  fn_q (N := n_many_between) (mb := b_many_between) G.f_many_between.fn sc_many_between (by decide) fun cdv A outer s H E hr hx =>
    (ms_one (ms_ret (me_op opD_sub (me_op opD_div (me_op opD_sub (me_op opD_sub (mv 1) me_int) (mv 2)) (mv 3)) (me_op opD_div (me_op opD_sub (mv 0) (mv 2)) (mv 3)))))
theorem sc_Plan_spans : FnScope n_Plan_spans p_Plan_spans (defScope s_Plan_spans) := ⟨rfl, rfl, rfl, by decide +kernel, rfl, by decide +kernel, by decide +kernel⟩
theorem okq_Plan_spans (G : Tp K mg CT) : Fq P w K mg base CT 1 G.a_Plan_spans G.d_Plan_spans p_Plan_spans m_Plan_spans :=
  fn_q (N := n_Plan_spans) (mb := b_Plan_spans) G.f_Plan_spans sc_Plan_spans (by decide) fun cdv A outer s H E hr hx =>
    (ms_cons (ms_if (mt_cmp (opD_eq (hu64 hr)) (by rfl) (mv 1) (me_gstr G.c_UPRIGHT)) (ms_one (ms_ret (me_frz (me_lcN (own := [("x", 2), ("y", 3), ("width", 4), ("height", 5), ("way", 6)]) hx (mi_seq (me_fld G.fl_own_blocks (mv 0))) (show BlkOk n_Plan_spans (defScope s_Plan_spans) _ _ from ⟨rfl, by decide +kernel, by decide +kernel, by decide +kernel, by decide +kernel⟩) (fun s H C cl fp => (mg_tup (bk_cq hx).calm (mgs_cons (mn' 2 (own := [2, 3, 4, 5, 6]) (bk_cq hx).nd) (mgs_cons (mn' 3 (own := [2, 3, 4, 5, 6]) (bk_cq hx).nd) (mgs_cons (mn' 4 (own := [2, 3, 4, 5, 6]) (bk_cq hx).nd) (mgs_cons (mn' 5 (own := [2, 3, 4, 5, 6]) (bk_cq hx).nd) (mgs_cons (mn' 6 (own := [2, 3, 4, 5, 6]) (bk_cq hx).nd) mgs_nil))))))) (fun s H C cl fp => (mts_one (mt_cmp (opD_eq (hu64 hr)) (by rfl) (mv 6) (me_gstr G.c_ACROSS)))) (fun s H C cl fp => (me_tup (ma_cons (mv 2) (ma_cons (me_op opD_add (mv 2) (mv 4)) (ma_cons (mv 5) ma_nil))))))))) ms_nil)
    (ms_one (ms_ret (me_frz (me_lcN (own := [("x", 2), ("y", 3), ("width", 4), ("height", 5), ("way", 6)]) hx (mi_seq (me_fld G.fl_own_blocks (mv 0))) (show BlkOk n_Plan_spans (defScope s_Plan_spans) _ _ from ⟨rfl, by decide +kernel, by decide +kernel, by decide +kernel, by decide +kernel⟩) (fun s H C cl fp => (mg_tup (bk_cq hx).calm (mgs_cons (mn' 2 (own := [2, 3, 4, 5, 6]) (bk_cq hx).nd) (mgs_cons (mn' 3 (own := [2, 3, 4, 5, 6]) (bk_cq hx).nd) (mgs_cons (mn' 4 (own := [2, 3, 4, 5, 6]) (bk_cq hx).nd) (mgs_cons (mn' 5 (own := [2, 3, 4, 5, 6]) (bk_cq hx).nd) (mgs_cons (mn' 6 (own := [2, 3, 4, 5, 6]) (bk_cq hx).nd) mgs_nil))))))) (fun s H C cl fp => (mts_one (mt_cmp (opD_eq (hu64 hr)) (by rfl) (mv 6) (me_gstr G.c_DOWN)))) (fun s H C cl fp => (me_tup (ma_cons (mv 3) (ma_cons (me_op opD_add (mv 3) (mv 5)) (ma_cons (mv 4) ma_nil))))))))))
theorem ok_Plan_spans (G : Tp K mg CT) : Fv P w K mg base CT 1 G.a_Plan_spans w_Plan_spans := fv_of (ps := p_Plan_spans) (okq_Plan_spans G) G.b_Plan_spans
theorem sc__law_urn : FnScope n__law_urn p__law_urn (defScope s__law_urn) := ⟨rfl, rfl, rfl, by decide +kernel, rfl, by decide +kernel, by decide +kernel⟩
theorem ok__law_urn (G : Tp K mg CT) : Fq P w K mg base CT 1 G.a__law_urn G.d__law_urn p__law_urn m__law_urn :=
  fn_q (N := n__law_urn) (mb := b__law_urn) G.f__law_urn.fn sc__law_urn (by decide) fun cdv A outer s H E hr hx =>
    (ms_cons (ms_asg (mn 2 hx.nd) (me_if (mt_cmp opD_lt (by rfl) (mv 1) (me_callB cb_len G.b_len rfl rfl (ma_cons (mv 0) ma_nil))) (me_ix (mv 0) (mv 1)) (me_op opD_add (me_op opD_mul me_int (mv 1)) me_int)))
    (ms_cons (ms_asg (mn 3 hx.nd) (me_op opD_mod (me_callT cb_int G.b_int rfl rfl (ma_cons (me_callB cb_abs G.b_abs rfl rfl (ma_cons (mv 2) ma_nil)) ma_nil)) (me_op opD_pow (me_op opD_pow me_int me_int) me_int)))
    (ms_cons (ms_asg (mn 4 hx.nd) (me_op opD_mod (me_callT cb_int G.b_int rfl rfl (ma_cons (me_op opD_add (me_op opD_add (me_op opD_add (me_op opD_mul (mv 3) me_int) (me_op opD_mul me_int (mv 1))) (me_op opD_mul me_int (me_callT cb_int G.b_int rfl rfl (ma_cons (me_cmp opD_lt (by rfl) (mv 2) me_int) ma_nil)))) me_int) ma_nil)) me_int))
    (ms_one (ms_ret (me_lstN (ma_cons (me_callB (cb_max hx.calm) G.b_max rfl rfl (ma_cons me_int (ma_cons (me_op opD_sub (mv 3) (me_op opD_pow me_int me_int)) ma_nil))) (ma_cons (mv 4) (ma_cons me_int ma_nil)))))))))
theorem sc__law_take : FnScope n__law_take p__law_take (defScope s__law_take) := ⟨rfl, rfl, rfl, by decide +kernel, rfl, by decide +kernel, by decide +kernel⟩
theorem ok__law_take (G : Tp K mg CT) : Fq P w K mg base CT 1 G.a__law_take G.d__law_take p__law_take m__law_take :=
  fn_q (N := n__law_take) (mb := b__law_take) G.f__law_take.fn sc__law_take (by decide) fun cdv A outer s H E hr hx =>
    (ms_cons (ms_if (mt_cmp opD_gt (by rfl) (me_ix (mv 0) me_int) me_int) (ms_cons (ms_asg (mn 2 hx.nd) (me_op opD_mod (me_callT cb_int G.b_int rfl rfl (ma_cons (me_ix (mv 0) me_int) ma_nil)) (mv 1)))
    (ms_cons (ms_asg (mg_sub (mv 0) me_int) (me_op opD_div (me_ix (mv 0) me_int) (mv 1)))
    (ms_one (ms_ret (mv 2))))) ms_nil)
    (ms_cons (ms_asg (mg_sub (mv 0) me_int) (me_op opD_add (me_ix (mv 0) me_int) me_int))
    (ms_cons (ms_asg (mn 3 hx.nd) (me_op opD_mod (me_callT cb_int G.b_int rfl rfl (ma_cons (me_op opD_add (me_ix (mv 0) me_int) (me_op opD_mul me_int (me_ix (mv 0) me_int))) ma_nil)) me_int))
    (ms_cons (ms_asg (mn 4 hx.nd) (me_op opD_mod (me_callT cb_int G.b_int rfl rfl (ma_cons (me_op opD_add (me_op opD_mul (mv 3) (mv 3)) (me_op opD_mul me_int (me_ix (mv 0) me_int))) ma_nil)) me_int))
    (ms_cons (ms_asg (mn 5 hx.nd) (me_op opD_mod (me_callT cb_int G.b_int rfl rfl (ma_cons (me_op opD_add (me_op opD_mul (mv 4) (mv 4)) (mv 3)) ma_nil)) me_int))
    (ms_one (ms_ret (me_op opD_mod (me_callT cb_int G.b_int rfl rfl (ma_cons (me_op opD_div (mv 5) me_int) ma_nil)) (mv 1)))))))))
theorem sc__law_is_laid : FnScope n__law_is_laid p__law_is_laid (defScope s__law_is_laid) := ⟨rfl, rfl, rfl, by decide +kernel, rfl, by decide +kernel, by decide +kernel⟩
theorem ok__law_is_laid (G : Tp K mg CT) : Fq P w K mg base CT 1 G.a__law_is_laid G.d__law_is_laid p__law_is_laid m__law_is_laid :=
  fn_q (N := n__law_is_laid) (mb := b__law_is_laid) G.f__law_is_laid.fn sc__law_is_laid (by decide) fun cdv A outer s H E hr hx =>
    (ms_one (ms_ret (me_or (me_cmp (opD_eq (hu64 hr)) (by rfl) (me_op opD_mod (me_ix (mv 0) me_int) (me_ix (mv 0) me_int)) me_int) (me_one (me_cmp (opD_eq (hu64 hr)) (by rfl) (me_op opD_mod (me_ix (mv 0) me_int) (me_ix (mv 0) me_int)) me_int)))))
theorem sc__law_remainder : FnScope n__law_remainder p__law_remainder (defScope s__law_remainder) := ⟨rfl, rfl, rfl, by decide +kernel, rfl, by decide +kernel, by decide +kernel⟩
theorem ok__law_remainder (G : Tp K mg CT) : Fq P w K mg base CT 1 G.a__law_remainder G.d__law_remainder p__law_remainder m__law_remainder :=
  fn_q (N := n__law_remainder) (mb := b__law_remainder) G.f__law_remainder.fn sc__law_remainder (by decide) fun cdv A outer s H E hr hx =>
    (ms_cons (ms_if (mt_cmp (opD_eq (hu64 hr)) (by rfl) (me_op opD_mod (me_ix (mv 1) me_int) (me_ix (mv 0) me_int)) me_int) (ms_one (ms_ret me_int)) ms_nil)
    (ms_one (ms_ret (me_op opD_mod (me_if (mt_cmp (opD_eq (hu64 hr)) (by rfl) (me_ix (mv 1) me_int) me_str) (me_ix (mv 0) me_int) (me_ix (mv 0) me_int)) (me_ix (mv 0) me_int)))))
theorem sc__law_count : FnScope n__law_count p__law_count (defScope s__law_count) := ⟨rfl, rfl, rfl, by decide +kernel, rfl, by decide +kernel, by decide +kernel⟩
theorem ok__law_count (G : Tp K mg CT) : Fq P w K mg base CT 1 G.a__law_count G.d__law_count p__law_count m__law_count :=
  fn_q (N := n__law_count) (mb := b__law_count) G.f__law_count.fn sc__law_count (by decide) fun cdv A outer s H E hr hx =>
    (ms_cons (ms_par3 (i := 3) (j := 4) (l := 5) hx rfl rfl rfl (by decide) (by decide) (by decide) rfl rfl rfl (ma_cons me_int (ma_cons (me_ix (mv 2) me_int) (ma_cons (me_ix (mv 2) me_int) ma_nil))) rfl)
    (ms_cons (ms_for hx (mi_seq (mv 1)) (mg_tup hx.calm (mgs_cons (mn 6 hx.nd) (mgs_cons (mn 7 hx.nd) (mgs_cons (mn 8 hx.nd) (mgs_cons (mn 9 hx.nd) (mgs_cons (mn 10 hx.nd) mgs_nil)))))) (ms_cons (ms_asg (mg_tup hx.calm (mgs_cons (mn 11 hx.nd) (mgs_cons (mn 12 hx.nd) (mgs_cons (mn 13 hx.nd) mgs_nil)))) (me_if (mt_cmp (opD_eq (hu64 hr)) (by rfl) (mv 10) me_str) (me_tup (ma_cons (mv 6) (ma_cons (mv 8) (ma_cons (mv 9) ma_nil)))) (me_tup (ma_cons (mv 7) (ma_cons (mv 9) (ma_cons (mv 8) ma_nil))))))
    (ms_one (ms_if (mt_w (mw_and (mt_cmp (opD_eq (hu64 hr)) (by rfl) (me_cmp (opD_eq (hu64 hr)) (by rfl) (mv 10) me_str) (me_cmp (opD_eq (hu64 hr)) (by rfl) (mv 4) me_str)) (mw_and (mt_chain opD_lt opD_lt (mv 11) (mv 5) (me_op opD_add (mv 11) (mv 12))) (mw_and1 (mt_cmp opD_gt (by rfl) (me_op opD_mod (me_op opD_sub (mv 5) (mv 11)) (me_ix (mv 0) me_int)) me_int))))) (ms_one (ms_asg (mn 3 hx.nd) (me_op opD_add (mv 3) (mv 13)))) ms_nil))))
    (ms_one (ms_ret (mv 3)))))
theorem sc__law_ends : FnScope n__law_ends p__law_ends (defScope s__law_ends) := ⟨rfl, rfl, rfl, by decide +kernel, rfl, by decide +kernel, by decide +kernel⟩
theorem ok__law_ends (G : Tp K mg CT) : Fq P w K mg base CT 1 G.a__law_ends G.d__law_ends p__law_ends m__law_ends :=
  fn_q (N := n__law_ends) (mb := b__law_ends) G.f__law_ends.fn sc__law_ends (by decide) fun cdv A outer s H E hr hx =>
    (ms_cons (ms_asg (mn 3 hx.nd) (me_lstN (ma_cons me_int (ma_cons (me_if (mt_cmp (opD_eq (hu64 hr)) (by rfl) (mv 2) me_str) (me_ix (mv 0) me_int) (me_ix (mv 0) me_int)) ma_nil))))
    (ms_cons (ms_for hx (mi_seq (mv 1)) (mn 4 hx.nd) (ms_one (ms_expr (me_mu PySem.F.slot_list_extend PySem.F.type_list_extend mm_extend (mv 3) (ma_cons (me_if (mt_cmp (opD_eq (hu64 hr)) (by rfl) (mv 2) me_str) (me_lst (ma_cons (me_ix (mv 4) me_int) (ma_cons (me_op opD_add (me_ix (mv 4) me_int) (me_ix (mv 4) me_int)) ma_nil))) (me_lst (ma_cons (me_ix (mv 4) me_int) (ma_cons (me_op opD_add (me_ix (mv 4) me_int) (me_ix (mv 4) me_int)) ma_nil)))) ma_nil)))))
    (ms_one (ms_ret (me_sortset hx.calm G.b_sorted G.b_set rfl rfl (ma_cons (mv 3) ma_nil))))))
theorem sc__law_many_of : FnScope n__law_many_of p__law_many_of (defScope s__law_many_of) := ⟨rfl, rfl, rfl, by decide +kernel, rfl, by decide +kernel, by decide +kernel⟩
theorem ok__law_many_of (G : Tp K mg CT) : Fq P w K mg base CT 1 G.a__law_many_of G.d__law_many_of p__law_many_of m__law_many_of :=
  fn_q (N := n__law_many_of) (mb := b__law_many_of) G.f__law_many_of.fn sc__law_many_of (by decide) fun cdv A outer s H E hr hx =>
    (ms_cons (ms_asg (mn 4 hx.nd) (me_op opD_add (me_op opD_add (mv 0) me_int) (me_op opD_mod (me_op opD_sub (me_op opD_sub (mv 2) (mv 0)) me_int) (mv 3))))
    (ms_one (ms_ret (me_if (mt_cmp opD_ge (by rfl) (mv 4) (mv 1)) me_int (me_op opD_add (me_op opD_div (me_op opD_sub (me_op opD_sub (mv 1) me_int) (mv 4)) (mv 3)) me_int)))))
theorem sc_is_from : FnScope n_is_from p_is_from (defScope s_is_from) := ⟨rfl, rfl, rfl, by decide +kernel, rfl, by decide +kernel, by decide +kernel⟩
theorem ok_is_from (G : Tp K mg CT) : Fq P w K mg base CT 2 G.a_is_from G.d_is_from p_is_from m_is_from :=
  fn_q (N := n_is_from) (mb := b_is_from) G.f_is_from.fn sc_is_from (by decide) fun cdv A outer s H E hr hx =>
    (ms_one (ms_ret (me_and (me_call hx (ok_is_integer G) G.f_is_integer.mg G.f_is_integer.fn.kp G.f_is_integer.bd (hr.mono (by decide)) rfl (ma_cons (mv 0) ma_nil) (len_cons len_nil)) (me_one (me_chain opD_le opD_le (mv 1) (mv 0) (mv 2))))))
theorem sc_exchanged_block : FnScope n_exchanged_block p_exchanged_block (defScope s_exchanged_block) := ⟨rfl, rfl, rfl, by decide +kernel, rfl, by decide +kernel, by decide +kernel⟩
theorem ok_exchanged_block (G : Tp K mg CT) : Fq P w K mg base CT 2 G.a_exchanged_block G.d_exchanged_block p_exchanged_block m_exchanged_block :=
  fn_q (N := n_exchanged_block) (mb := b_exchanged_block) G.f_exchanged_block.fn sc_exchanged_block (by decide) fun cdv A outer s H E hr hx =>
    (ms_cons (ms_asg (mg_tup hx.calm (mgs_cons (mn 1 hx.nd) (mgs_cons (mn 2 hx.nd) (mgs_cons (mn 3 hx.nd) (mgs_cons (mn 4 hx.nd) (mgs_cons (mn 5 hx.nd) mgs_nil)))))) (mv 0))
    (ms_one (ms_ret (me_tup (ma_cons (mv 2) (ma_cons (mv 1) (ma_cons (mv 4) (ma_cons (mv 3) (ma_cons (me_call hx (ok_other_way G) G.f_other_way.mg G.f_other_way.fn.kp G.f_other_way.bd (hr.mono (by decide)) rfl (ma_cons (mv 5) ma_nil) (len_cons len_nil)) ma_nil)))))))))
theorem sc_Plan_count_at : FnScope n_Plan_count_at p_Plan_count_at (defScope s_Plan_count_at) := ⟨rfl, rfl, rfl, by decide +kernel, rfl, by decide +kernel, by decide +kernel⟩
theorem okq_Plan_count_at (G : Tp K mg CT) : Fq P w K mg base CT 2 G.a_Plan_count_at G.d_Plan_count_at p_Plan_count_at m_Plan_count_at :=
  fn_q (N := n_Plan_count_at) (mb := b_Plan_count_at) G.f_Plan_count_at sc_Plan_count_at (by decide) fun cdv A outer s H E hr hx =>
    (ms_cons (ms_setLc (i := 3) (own := [("span", 4)]) hx rfl rfl rfl (mi_seq (me_meth hx (mv 0) G.z_Plan G.me_Plan_spans (ok_Plan_spans G) (hr.mono (by decide)) (ma_cons (mv 1) ma_nil))) (show BlkOk n_Plan_count_at (defScope s_Plan_count_at) _ _ from ⟨rfl, by decide +kernel, by decide +kernel, by decide +kernel, by decide +kernel⟩) (fun s H C cl fp => (mn' 4 (own := [4]) (bk_cq hx).nd)) (fun s H C cl fp => (mts_one (mt_chain opD_lt opD_lt (me_ix (mv 4) me_int) (mv 2) (me_ix (mv 4) me_int)))) (fun s H C cl fp => (mv 4)))
    (ms_one (ms_ret (me_callB (cb_sumX hx.calm) G.b_sum rfl rfl (ma_cons (me_frz (me_lcN (own := [("first", 5), ("last", 6), ("broad", 7)]) hx (mi_seq (mv 3)) (show BlkOk n_Plan_count_at (defScope s_Plan_count_at) _ _ from ⟨rfl, by decide +kernel, by decide +kernel, by decide +kernel, by decide +kernel⟩) (fun s H C cl fp => (mg_tup (bk_cq hx).calm (mgs_cons (mn' 5 (own := [5, 6, 7]) (bk_cq hx).nd) (mgs_cons (mn' 6 (own := [5, 6, 7]) (bk_cq hx).nd) (mgs_cons (mn' 7 (own := [5, 6, 7]) (bk_cq hx).nd) mgs_nil))))) (fun s H C cl fp => (mts_one (mt_cmp (opD_ne (hu64 hr)) (by rfl) (me_op opD_mod (me_op opD_sub (mv 2) (mv 5)) (me_ix (me_fld G.fl_own_size (mv 0)) me_int)) me_int))) (fun s H C cl fp => (mv 7)))) ma_nil)))))
theorem ok_Plan_count_at (G : Tp K mg CT) : Fv P w K mg base CT 2 G.a_Plan_count_at w_Plan_count_at := fv_of (ps := p_Plan_count_at) (okq_Plan_count_at G) G.b_Plan_count_at
theorem sc_Plan_cuts : FnScope n_Plan_cuts p_Plan_cuts (defScope s_Plan_cuts) := ⟨rfl, rfl, rfl, by decide +kernel, rfl, by decide +kernel, by decide +kernel⟩
theorem okq_Plan_cuts (G : Tp K mg CT) : Fq P w K mg base CT 2 G.a_Plan_cuts G.d_Plan_cuts p_Plan_cuts m_Plan_cuts :=
  fn_q (N := n_Plan_cuts) (mb := b_Plan_cuts) G.f_Plan_cuts sc_Plan_cuts (by decide) fun cdv A outer s H E hr hx =>
    (ms_cons (ms_asg (mn 2 hx.nd) (me_if (mt_cmp (opD_eq (hu64 hr)) (by rfl) (mv 1) (me_gstr G.c_UPRIGHT)) (me_ix (me_fld G.fl_own_size (mv 0)) me_int) (me_ix (me_fld G.fl_own_size (mv 0)) me_int)))
    (ms_cons (ms_setLc2 (i := 3) (own := [("span", 4), ("end", 5)]) (own1 := [5]) hx rfl rfl rfl (mi_seq (me_meth hx (mv 0) G.z_Plan G.me_Plan_spans (ok_Plan_spans G) (hr.mono (by decide)) (ma_cons (mv 1) ma_nil))) (show BlkOk n_Plan_cuts (defScope s_Plan_cuts) _ _ from ⟨rfl, by decide +kernel, by decide +kernel, by decide +kernel, by decide +kernel⟩) (by decide) (fun s H C cl fp => (mn' 4 (own := [4, 5]) (bk_cq hx).nd)) (fun s H C cl fp => mts_nil) (fun s H C cl fp => (mi_seq (me_sl (mv 4) mo_none (mo_some me_int)))) (fun s H C cl fp => (mn' 5 (own := [5]) (bk_cq hx).nd)) (fun s H C cl fp => mts_nil) (fun s H C cl fp => (mv 5)))
    (ms_one (ms_ret (me_sortset hx.calm G.b_sorted G.b_set rfl rfl (ma_cons (me_op opD_add (me_lst (ma_cons me_int (ma_cons (mv 2) ma_nil))) (mv 3)) ma_nil))))))
theorem ok_Plan_cuts (G : Tp K mg CT) : Fv P w K mg base CT 2 G.a_Plan_cuts w_Plan_cuts := fv_of (ps := p_Plan_cuts) (okq_Plan_cuts G) G.b_Plan_cuts
theorem sc_Plan_remainders : FnScope n_Plan_remainders p_Plan_remainders (defScope s_Plan_remainders) := ⟨rfl, rfl, rfl, by decide +kernel, rfl, by decide +kernel, by decide +kernel⟩
theorem okq_Plan_remainders (G : Tp K mg CT) : Fq P w K mg base CT 2 G.a_Plan_remainders G.d_Plan_remainders p_Plan_remainders m_Plan_remainders :=
  fn_q (N := n_Plan_remainders) (mb := b_Plan_remainders) G.f_Plan_remainders sc_Plan_remainders (by decide) fun cdv A outer s H E hr hx =>
    (ms_cons (ms_setLc (i := 4) (own := [("span", 5)]) hx rfl rfl rfl (mi_seq (me_meth hx (mv 0) G.z_Plan G.me_Plan_spans (ok_Plan_spans G) (hr.mono (by decide)) (ma_cons (mv 1) ma_nil))) (show BlkOk n_Plan_remainders (defScope s_Plan_remainders) _ _ from ⟨rfl, by decide +kernel, by decide +kernel, by decide +kernel, by decide +kernel⟩) (fun s H C cl fp => (mn' 5 (own := [5]) (bk_cq hx).nd)) (fun s H C cl fp => (mts_one (mt_w (mw_and (mt_cmp opD_le (by rfl) (me_ix (mv 5) me_int) (mv 2)) (mw_and1 (mt_cmp opD_le (by rfl) (mv 3) (me_ix (mv 5) me_int))))))) (fun s H C cl fp => (me_op opD_mod (me_ix (mv 5) me_int) (me_ix (me_fld G.fl_own_size (mv 0)) me_int))))
    (ms_one (ms_ret (me_sortset hx.calm G.b_sorted G.b_set rfl rfl (ma_cons (mv 4) ma_nil)))))
theorem ok_Plan_remainders (G : Tp K mg CT) : Fv P w K mg base CT 2 G.a_Plan_remainders w_Plan_remainders := fv_of (ps := p_Plan_remainders) (okq_Plan_remainders G) G.b_Plan_remainders
theorem sc__law_one : FnScope n__law_one p__law_one (defScope s__law_one) := ⟨rfl, rfl, rfl, by decide +kernel, rfl, by decide +kernel, by decide +kernel⟩
theorem ok__law_one (G : Tp K mg CT) : Fq P w K mg base CT 2 G.a__law_one G.d__law_one p__law_one m__law_one :=
  fn_q (N := n__law_one) (mb := b__law_one) G.f__law_one.fn sc__law_one (by decide) fun cdv A outer s H E hr hx =>
    (ms_one (ms_ret (me_ix (mv 1) (me_call hx (ok__law_take G) G.f__law_take.mg G.f__law_take.fn.kp G.f__law_take.bd (hr.mono (by decide)) rfl (ma_cons (mv 0) (ma_cons (me_callB cb_len G.b_len rfl rfl (ma_cons (mv 1) ma_nil)) ma_nil)) (len_cons (len_cons len_nil))))))
theorem sc__law_seams_between : FnScope n__law_seams_between p__law_seams_between (defScope s__law_seams_between) := ⟨rfl, rfl, rfl, by decide +kernel, rfl, by decide +kernel, by decide +kernel⟩
theorem ok__law_seams_between (G : Tp K mg CT) : Fq P w K mg base CT 2 G.a__law_seams_between G.d__law_seams_between p__law_seams_between m__law_seams_between :=
  fn_q (N := n__law_seams_between) (mb := b__law_seams_between) G.f__law_seams_between.fn sc__law_seams_between (by decide) fun cdv A outer s H E hr hx =>
    (ms_cons (ms_parC (i := 5) (j := 6) hx rfl rfl (by first | exact Or.inl rfl | exact Or.inr rfl) (by first | exact Or.inl rfl | exact Or.inr rfl) (by first | exact Or.inl rfl | exact Or.inr rfl) (by first | exact Or.inl rfl | exact Or.inr rfl) (ma_cons (me_ix (mv 0) me_int) (ma_cons me_int ma_nil)))
    (ms_cons (ms_asg (mn 7 hx.nd) (me_sortset hx.calm G.b_sorted G.b_set rfl rfl (ma_cons (me_frz (me_lcN (own := [("end", 13)]) hx (mi_seq (me_call hx (ok__law_ends G) G.f__law_ends.mg G.f__law_ends.fn.kp G.f__law_ends.bd (hr.mono (by decide)) rfl (ma_cons (mv 0) (ma_cons (mv 1) (ma_cons (mv 2) ma_nil))) (len_cons (len_cons (len_cons len_nil))))) (show BlkOk n__law_seams_between (defScope s__law_seams_between) _ _ from ⟨rfl, by decide +kernel, by decide +kernel, by decide +kernel, by decide +kernel⟩) (fun s H C cl fp => (mn' 13 (own := [13]) (bk_cq hx).nd)) (fun s H C cl fp => mts_nil) (fun s H C cl fp => (me_op opD_mod (mv 13) (mv 5))))) ma_nil)))
    (ms_cons (ms_for hx (mi_seq (mv 7)) (mn 8 hx.nd) (ms_cons (ms_asg (mn 9 hx.nd) (me_call hx (ok__law_many_of G) G.f__law_many_of.mg G.f__law_many_of.fn.kp G.f__law_many_of.bd (hr.mono (by decide)) rfl (ma_cons (mv 3) (ma_cons (mv 4) (ma_cons (mv 8) (ma_cons (mv 5) ma_nil)))) (len_cons (len_cons (len_cons (len_cons len_nil))))))
    (ms_cons (ms_asg (mn 10 hx.nd) (me_tup (ma_cons (mv 2) (ma_cons (me_op opD_add (me_op opD_add (mv 3) me_int) (me_op opD_mod (me_op opD_sub (me_op opD_sub (mv 8) (mv 3)) me_int) (mv 5))) ma_nil))))
    (ms_one (ms_if (mt_w (mw_and (mt_cmp opD_gt (by rfl) (mv 9) me_int) (mw_and1 (mt_cmp (opD_eq (hu64 hr)) (by rfl) (me_call hx (ok__law_count G) G.f__law_count.mg G.f__law_count.fn.kp G.f__law_count.bd (hr.mono (by decide)) rfl (ma_cons (mv 0) (ma_cons (mv 1) (ma_cons (mv 10) ma_nil))) (len_cons (len_cons (len_cons len_nil)))) me_int)))) (ms_one (ms_asg (mn 6 hx.nd) (me_op opD_add (mv 6) (mv 9)))) ms_nil)))))
    (ms_cons (ms_asg (mn 11 hx.nd) (me_op opD_sub (me_op opD_sub (me_op opD_sub (mv 4) (mv 3)) me_int) (me_callB (cb_sumX hx.calm) G.b_sum rfl rfl (ma_cons (me_frz (me_lcN (own := [("mark", 8)]) hx (mi_seq (mv 7)) (show BlkOk n__law_seams_between (defScope s__law_seams_between) _ _ from ⟨rfl, by decide +kernel, by decide +kernel, by decide +kernel, by decide +kernel⟩) (fun s H C cl fp => (mn' 8 (own := [8]) (bk_cq hx).nd)) (fun s H C cl fp => mts_nil) (fun s H C cl fp => (me_call (bk_cq hx) (ok__law_many_of G) G.f__law_many_of.mg G.f__law_many_of.fn.kp G.f__law_many_of.bd (hr.mono (by decide)) rfl (ma_cons (mv 3) (ma_cons (mv 4) (ma_cons (mv 8) (ma_cons (mv 5) ma_nil)))) (len_cons (len_cons (len_cons (len_cons len_nil)))))))) ma_nil))))
    (ms_cons (ms_setLc (i := 12) (own := [("at", 14)]) hx rfl rfl rfl (mi_rngB G.b_range (me_op opD_add (mv 3) me_int) (me_callB (cb_min hx.calm) G.b_min rfl rfl (ma_cons (mv 4) (ma_cons (me_op opD_add (me_op opD_add (mv 3) me_int) (me_callB cb_len G.b_len rfl rfl (ma_cons (mv 7) ma_nil))) ma_nil))) rfl) (show BlkOk n__law_seams_between (defScope s__law_seams_between) _ _ from ⟨rfl, by decide +kernel, by decide +kernel, by decide +kernel, by decide +kernel⟩) (fun s H C cl fp => (mn' 14 (own := [14]) (bk_cq hx).nd)) (fun s H C cl fp => (mts_one (mt_cmp (opX_nin (hu65 hr)) (by rfl) (me_op opD_mod (mv 14) (mv 5)) (mv 7)))) (fun s H C cl fp => (mv 14)))
    (ms_cons (ms_if (mt_w (mw_and (mt_cmp opD_gt (by rfl) (mv 11) me_int) (mw_and (mt_cmp (opD_ne (hu64 hr)) (by rfl) (mv 12) (me_lst ma_nil)) (mw_and1 (mt_cmp (opD_eq (hu64 hr)) (by rfl) (me_call hx (ok__law_count G) G.f__law_count.mg G.f__law_count.fn.kp G.f__law_count.bd (hr.mono (by decide)) rfl (ma_cons (mv 0) (ma_cons (mv 1) (ma_cons (me_tup (ma_cons (mv 2) (ma_cons (me_ix (mv 12) me_int) ma_nil))) ma_nil))) (len_cons (len_cons (len_cons len_nil)))) me_int))))) (ms_one (ms_asg (mn 6 hx.nd) (me_op opD_add (mv 6) (mv 11)))) ms_nil)
    (ms_one (ms_ret (mv 6)))))))))
theorem sc_is_size : FnScope n_is_size p_is_size (defScope s_is_size) := ⟨rfl, rfl, rfl, by decide +kernel, rfl, by decide +kernel, by decide +kernel⟩
theorem ok_is_size (G : Tp K mg CT) : Fq P w K mg base CT 3 G.a_is_size G.d_is_size p_is_size m_is_size :=
  fn_q (N := n_is_size) (mb := b_is_size) G.f_is_size.fn sc_is_size (by decide) fun cdv A outer s H E hr hx =>
    (ms_cons (ms_if (mt_w (mw_or (mt_not (mt_val (me_call hx (ok_is_row G) G.f_is_row.mg G.f_is_row.fn.kp G.f_is_row.bd (hr.mono (by decide)) rfl (ma_cons (mv 0) (ma_cons me_int ma_nil)) (len_cons (len_cons len_nil))))) (mw_or (mt_not (mt_val (me_call hx (ok_is_from G) G.f_is_from.mg G.f_is_from.fn.kp G.f_is_from.bd (hr.mono (by decide)) rfl (ma_cons (me_ix (mv 0) me_int) (ma_cons me_int (ma_cons (me_gint G.c_MAX_SIDE) ma_nil))) (len_cons (len_cons (len_cons len_nil)))))) (mw_or1 (mt_not (mt_val (me_call hx (ok_is_from G) G.f_is_from.mg G.f_is_from.fn.kp G.f_is_from.bd (hr.mono (by decide)) rfl (ma_cons (me_ix (mv 0) me_int) (ma_cons me_int (ma_cons (me_gint G.c_MAX_SIDE) ma_nil))) (len_cons (len_cons (len_cons len_nil)))))))))) (ms_one (ms_ret me_bl)) ms_nil)
    (ms_one (ms_ret (me_call hx (ok_is_from G) G.f_is_from.mg G.f_is_from.fn.kp G.f_is_from.bd (hr.mono (by decide)) rfl (ma_cons (me_ix (mv 0) me_int) (ma_cons me_int (ma_cons (me_gint G.c_MAX_SIDE) ma_nil))) (len_cons (len_cons (len_cons len_nil)))))))
theorem sc_is_plain_line : FnScope n_is_plain_line p_is_plain_line (defScope s_is_plain_line) := ⟨rfl, rfl, rfl, by decide +kernel, rfl, by decide +kernel, by decide +kernel⟩
theorem ok_is_plain_line (G : Tp K mg CT) : Fq P w K mg base CT 3 G.a_is_plain_line G.d_is_plain_line p_is_plain_line m_is_plain_line :=
  fn_q (N := n_is_plain_line) (mb := b_is_plain_line) G.f_is_plain_line.fn sc_is_plain_line (by decide) fun cdv A outer s H E hr hx =>
    (ms_cons (ms_if (mt_w (mw_or (mt_not (mt_val (me_call hx (ok_is_row G) G.f_is_row.mg G.f_is_row.fn.kp G.f_is_row.bd (hr.mono (by decide)) rfl (ma_cons (mv 1) (ma_cons me_int ma_nil)) (len_cons (len_cons len_nil))))) (mw_or1 (mt_not (mt_val (me_call hx (ok_is_word_of G) G.f_is_word_of.mg G.f_is_word_of.fn.kp G.f_is_word_of.bd (hr.mono (by decide)) rfl (ma_cons (me_ix (mv 1) me_int) (ma_cons (me_gt G.c_KINDS) ma_nil)) (len_cons (len_cons len_nil)))))))) (ms_one (ms_ret me_bl)) ms_nil)
    (ms_one (ms_ret (me_call hx (ok_is_from G) G.f_is_from.mg G.f_is_from.fn.kp G.f_is_from.bd (hr.mono (by decide)) rfl (ma_cons (me_ix (mv 1) me_int) (ma_cons me_int (ma_cons (me_op opD_sub (me_if (mt_cmp (opD_eq (hu64 hr)) (by rfl) (me_ix (mv 1) me_int) (me_gstr G.c_UPRIGHT)) (me_ix (mv 0) me_int) (me_ix (mv 0) me_int)) me_int) ma_nil))) (len_cons (len_cons (len_cons len_nil)))))))
theorem sc_is_block : FnScope n_is_block p_is_block (defScope s_is_block) := ⟨rfl, rfl, rfl, by decide +kernel, rfl, by decide +kernel, by decide +kernel⟩
theorem ok_is_block (G : Tp K mg CT) : Fq P w K mg base CT 3 G.a_is_block G.d_is_block p_is_block m_is_block :=
  fn_q (N := n_is_block) (mb := b_is_block) G.f_is_block.fn sc_is_block (by decide) fun cdv A outer s H E hr hx =>
    (ms_cons (ms_if (mt_w (mw_or (mt_not (mt_val (me_call hx (ok_is_row G) G.f_is_row.mg G.f_is_row.fn.kp G.f_is_row.bd (hr.mono (by decide)) rfl (ma_cons (mv 1) (ma_cons me_int ma_nil)) (len_cons (len_cons len_nil))))) (mw_or1 (mt_not (mt_val (me_call hx (ok_is_word_of G) G.f_is_word_of.mg G.f_is_word_of.fn.kp G.f_is_word_of.bd (hr.mono (by decide)) rfl (ma_cons (me_ix (mv 1) me_int) (ma_cons (me_gt G.c_WAYS) ma_nil)) (len_cons (len_cons len_nil)))))))) (ms_one (ms_ret me_bl)) ms_nil)
    (ms_cons (ms_asg (mg_tup hx.calm (mgs_cons (mn 2 hx.nd) (mgs_cons (mn 3 hx.nd) (mgs_cons (mn 4 hx.nd) (mgs_cons (mn 5 hx.nd) (mgs_cons (mn 6 hx.nd) mgs_nil)))))) (mv 1))
    (ms_cons (ms_if (mt_w (mw_or (mt_not (mt_val (me_call hx (ok_is_from G) G.f_is_from.mg G.f_is_from.fn.kp G.f_is_from.bd (hr.mono (by decide)) rfl (ma_cons (mv 2) (ma_cons me_int (ma_cons (me_op opD_sub (me_ix (mv 0) me_int) me_int) ma_nil))) (len_cons (len_cons (len_cons len_nil)))))) (mw_or1 (mt_not (mt_val (me_call hx (ok_is_from G) G.f_is_from.mg G.f_is_from.fn.kp G.f_is_from.bd (hr.mono (by decide)) rfl (ma_cons (mv 3) (ma_cons me_int (ma_cons (me_op opD_sub (me_ix (mv 0) me_int) me_int) ma_nil))) (len_cons (len_cons (len_cons len_nil))))))))) (ms_one (ms_ret me_bl)) ms_nil)
    (ms_cons (ms_if (mt_w (mw_or (mt_not (mt_val (me_call hx (ok_is_from G) G.f_is_from.mg G.f_is_from.fn.kp G.f_is_from.bd (hr.mono (by decide)) rfl (ma_cons (mv 4) (ma_cons me_int (ma_cons (me_op opD_sub (me_ix (mv 0) me_int) (mv 2)) ma_nil))) (len_cons (len_cons (len_cons len_nil)))))) (mw_or1 (mt_not (mt_val (me_call hx (ok_is_from G) G.f_is_from.mg G.f_is_from.fn.kp G.f_is_from.bd (hr.mono (by decide)) rfl (ma_cons (mv 5) (ma_cons me_int (ma_cons (me_op opD_sub (me_ix (mv 0) me_int) (mv 3)) ma_nil))) (len_cons (len_cons (len_cons len_nil))))))))) (ms_one (ms_ret me_bl)) ms_nil)
    (ms_one (ms_ret (me_cmp (opD_eq (hu64 hr)) (by rfl) (me_op opD_mod (me_if (mt_cmp (opD_eq (hu64 hr)) (by rfl) (mv 6) (me_gstr G.c_ACROSS)) (mv 4) (mv 5)) (me_ix (mv 0) me_int)) me_int)))))))
theorem sc_Plan_many_inside : FnScope n_Plan_many_inside p_Plan_many_inside (defScope s_Plan_many_inside) := ⟨rfl, rfl, rfl, by decide +kernel, rfl, by decide +kernel, by decide +kernel⟩
theorem okq_Plan_many_inside (G : Tp K mg CT) : Fq P w K mg base CT 3 G.a_Plan_many_inside G.d_Plan_many_inside p_Plan_many_inside m_Plan_many_inside :=
  fn_q (N := n_Plan_many_inside) (mb := b_Plan_many_inside) G.f_Plan_many_inside sc_Plan_many_inside (by decide) fun cdv A outer s H E hr hx =>
    (ms_cons (ms_asg (mn 4 hx.nd) (me_meth hx (mv 0) G.z_Plan G.me_Plan_remainders (ok_Plan_remainders G) (hr.mono (by decide)) (ma_cons (mv 1) (ma_cons (mv 2) (ma_cons (mv 3) ma_nil)))))
    (ms_cons (ms_if (mt_cmp (opD_eq (hu64 hr)) (by rfl) (mv 4) (me_lst ma_nil)) (ms_one (ms_ret (me_op opD_sub (me_op opD_sub (mv 3) (mv 2)) me_int))) ms_nil)
    (ms_one (ms_ret (me_if (mt_cmp (opD_eq (hu64 hr)) (by rfl) (me_callB cb_len G.b_len rfl rfl (ma_cons (mv 4) ma_nil)) me_int) (me_call hx (ok_many_between G) G.f_many_between.mg G.f_many_between.fn.kp G.f_many_between.bd (hr.mono (by decide)) rfl (ma_cons (mv 2) (ma_cons (mv 3) (ma_cons (me_ix (mv 4) me_int) (ma_cons (me_ix (me_fld G.fl_own_size (mv 0)) me_int) ma_nil)))) (len_cons (len_cons (len_cons (len_cons len_nil))))) me_int)))))
theorem ok_Plan_many_inside (G : Tp K mg CT) : Fv P w K mg base CT 3 G.a_Plan_many_inside w_Plan_many_inside := fv_of (ps := p_Plan_many_inside) (okq_Plan_many_inside G) G.b_Plan_many_inside
theorem sc__law_great : FnScope n__law_great p__law_great (defScope s__law_great) := ⟨rfl, rfl, rfl, by decide +kernel, rfl, by decide +kernel, by decide +kernel⟩
theorem ok__law_great (G : Tp K mg CT) : Fq P w K mg base CT 3 G.a__law_great G.d__law_great p__law_great m__law_great :=
  fn_q (N := n__law_great) (mb := b__law_great) G.f__law_great.fn sc__law_great (by decide) fun cdv A outer s H E hr hx =>
    (ms_cons (ms_asg (mn 1 hx.nd) (me_call hx (ok__law_one G) G.f__law_one.mg G.f__law_one.fn.kp G.f__law_one.bd (hr.mono (by decide)) rfl (ma_cons (mv 0) (ma_cons (me_lst (ma_cons me_int (ma_cons me_int (ma_cons me_int (ma_cons me_int (ma_cons me_int (ma_cons me_int (ma_cons me_int (ma_cons me_int (ma_cons (me_op opD_add (me_op opD_pow me_int me_int) me_int) (ma_cons (me_op opD_pow me_int me_int) (ma_cons (me_op opD_add (me_op opD_pow me_int me_int) me_int) ma_nil)))))))))))) ma_nil)) (len_cons (len_cons len_nil))))
    (ms_cons (ms_asg (mn 2 hx.nd) (me_op opD_div (me_op opD_pow me_int me_int) (mv 1)))
    (ms_cons (ms_asg (mn 3 hx.nd) (me_lstN ma_nil))
    (ms_cons (ms_for hx (mi_rng1 G.b_range me_int rfl) (mn 4 hx.nd) (ms_cons (ms_asg (mn 5 hx.nd) (me_call hx (ok__law_one G) G.f__law_one.mg G.f__law_one.fn.kp G.f__law_one.bd (hr.mono (by decide)) rfl (ma_cons (mv 0) (ma_cons (me_lst (ma_cons me_int (ma_cons me_int (ma_cons me_int (ma_cons me_int (ma_cons (me_op opD_pow me_int me_int) (ma_cons (me_op opD_sub (mv 2) me_int) (ma_cons (me_op opD_div (mv 2) me_int) ma_nil)))))))) ma_nil)) (len_cons (len_cons len_nil))))
    (ms_cons (ms_asg (mn 6 hx.nd) (me_call hx (ok__law_one G) G.f__law_one.mg G.f__law_one.fn.kp G.f__law_one.bd (hr.mono (by decide)) rfl (ma_cons (mv 0) (ma_cons (me_lst (ma_cons me_int (ma_cons me_int (ma_cons me_int (ma_cons (me_op opD_sub (mv 1) me_int) (ma_cons (me_op opD_div (mv 1) me_int) ma_nil)))))) ma_nil)) (len_cons (len_cons len_nil))))
    (ms_one (ms_expr (me_mu PySem.F.slot_list_append PySem.F.type_list_append mm_append (mv 3) (ma_cons (me_callB (cb_max hx.calm) G.b_max rfl rfl (ma_cons me_int (ma_cons (me_callB (cb_min hx.calm) G.b_min rfl rfl (ma_cons (me_op opD_pow me_int me_int) (ma_cons (me_op opD_add (me_op opD_mul (me_callB (cb_min hx.calm) G.b_min rfl rfl (ma_cons (mv 5) (ma_cons (mv 2) ma_nil))) (mv 1)) (mv 6)) ma_nil))) ma_nil))) ma_nil)))))))
    (ms_one (ms_ret (me_tup (ma_cons (me_ix (mv 3) me_int) (ma_cons (me_ix (mv 3) me_int) (ma_cons (mv 1) ma_nil))))))))))
theorem sc__law_cut : FnScope n__law_cut p__law_cut (defScope s__law_cut) := ⟨rfl, rfl, rfl, by decide +kernel, rfl, by decide +kernel, by decide +kernel⟩
theorem ok__law_cut (G : Tp K mg CT) : Fq P w K mg base CT 3 G.a__law_cut G.d__law_cut p__law_cut m__law_cut :=
  fn_q (N := n__law_cut) (mb := b__law_cut) G.f__law_cut.fn sc__law_cut (by decide) fun cdv A outer s H E hr hx =>
    (ms_cons (ms_asg (mn 3 hx.nd) (me_op opD_div (me_op opD_sub (mv 1) me_int) (mv 2)))
    (ms_one (ms_ret (me_op opD_mul (mv 2) (me_call hx (ok__law_one G) G.f__law_one.mg G.f__law_one.fn.kp G.f__law_one.bd (hr.mono (by decide)) rfl (ma_cons (mv 0) (ma_cons (me_lst (ma_cons me_int (ma_cons (mv 3) (ma_cons (me_op opD_add me_int (me_op opD_div (mv 3) me_int)) (ma_cons (me_op opD_add me_int (me_call hx (ok__law_take G) G.f__law_take.mg G.f__law_take.fn.kp G.f__law_take.bd (hr.mono (by decide)) rfl (ma_cons (mv 0) (ma_cons (mv 3) ma_nil)) (len_cons (len_cons len_nil)))) (ma_cons (me_op opD_add me_int (me_call hx (ok__law_take G) G.f__law_take.mg G.f__law_take.fn.kp G.f__law_take.bd (hr.mono (by decide)) rfl (ma_cons (mv 0) (ma_cons (mv 3) ma_nil)) (len_cons (len_cons len_nil)))) ma_nil)))))) ma_nil)) (len_cons (len_cons len_nil)))))))
theorem sc__law_many_seams : FnScope n__law_many_seams p__law_many_seams (defScope s__law_many_seams) := ⟨rfl, rfl, rfl, by decide +kernel, rfl, by decide +kernel, by decide +kernel⟩
theorem ok__law_many_seams (G : Tp K mg CT) : Fq P w K mg base CT 3 G.a__law_many_seams G.d__law_many_seams p__law_many_seams m__law_many_seams :=
  fn_q (N := n__law_many_seams) (mb := b__law_many_seams) G.f__law_many_seams.fn sc__law_many_seams (by decide) fun cdv A outer s H E hr hx =>
    (ms_cons (ms_asg (mn 2 hx.nd) me_int)
    (ms_cons (ms_for hx (mi_seq (me_lst (ma_cons me_str (ma_cons me_str ma_nil)))) (mn 3 hx.nd) (ms_cons (ms_asg (mn 4 hx.nd) (me_call hx (ok__law_ends G) G.f__law_ends.mg G.f__law_ends.fn.kp G.f__law_ends.bd (hr.mono (by decide)) rfl (ma_cons (mv 0) (ma_cons (mv 1) (ma_cons (mv 3) ma_nil))) (len_cons (len_cons (len_cons len_nil)))))
    (ms_cons (ms_asg (mn 2 hx.nd) (me_op opD_add (mv 2) (me_callB cb_len G.b_len rfl rfl (ma_cons (me_frz (me_lcN (own := [("at", 7)]) hx (mi_seq (me_sl (mv 4) (mo_some me_int) (mo_some (me_un opU_neg me_int)))) (show BlkOk n__law_many_seams (defScope s__law_many_seams) _ _ from ⟨rfl, by decide +kernel, by decide +kernel, by decide +kernel, by decide +kernel⟩) (fun s H C cl fp => (mn' 7 (own := [7]) (bk_cq hx).nd)) (fun s H C cl fp => (mts_one (mt_cmp (opD_eq (hu64 hr)) (by rfl) (me_call (bk_cq hx) (ok__law_count G) G.f__law_count.mg G.f__law_count.fn.kp G.f__law_count.bd (hr.mono (by decide)) rfl (ma_cons (mv 0) (ma_cons (mv 1) (ma_cons (me_tup (ma_cons (mv 3) (ma_cons (mv 7) ma_nil))) ma_nil))) (len_cons (len_cons (len_cons len_nil)))) me_int))) (fun s H C cl fp => (mv 7)))) ma_nil))))
    (ms_one (ms_for hx (mi_zip G.b_zip (ma_cons (mv 4) (ma_cons (me_sl (mv 4) (mo_some me_int) mo_none) ma_nil)) rfl) (mg_tup hx.calm (mgs_cons (mn 5 hx.nd) (mgs_cons (mn 6 hx.nd) mgs_nil))) (ms_one (ms_asg (mn 2 hx.nd) (me_op opD_add (mv 2) (me_call hx (ok__law_seams_between G) G.f__law_seams_between.mg G.f__law_seams_between.fn.kp G.f__law_seams_between.bd (hr.mono (by decide)) rfl (ma_cons (mv 0) (ma_cons (mv 1) (ma_cons (mv 3) (ma_cons (mv 5) (ma_cons (mv 6) ma_nil))))) (len_cons (len_cons (len_cons (len_cons (len_cons len_nil))))))))))))))
    (ms_one (ms_ret (mv 2)))))
theorem sc_require_line : FnScope n_require_line p_require_line (defScope s_require_line) := ⟨rfl, rfl, rfl, by decide +kernel, rfl, by decide +kernel, by decide +kernel⟩
theorem ok_require_line (G : Tp K mg CT) : Fq P w K mg base CT 4 G.a_require_line G.d_require_line p_require_line m_require_line :=
  fn_q (N := n_require_line) (mb := b_require_line) G.f_require_line.fn sc_require_line (by decide) fun cdv A outer s H E hr hx =>
    (ms_one (ms_if (mt_not (mt_val (me_call hx (ok_is_plain_line G) G.f_is_plain_line.mg G.f_is_plain_line.fn.kp G.f_is_plain_line.bd (hr.mono (by decide)) rfl (ma_cons (mv 0) (ma_cons (mv 1) ma_nil)) (len_cons (len_cons len_nil))))) (ms_one ms_stuck) ms_nil))
theorem sc_are_blocks : FnScope n_are_blocks p_are_blocks (defScope s_are_blocks) := ⟨rfl, rfl, rfl, by decide +kernel, rfl, by decide +kernel, by decide +kernel⟩
theorem ok_are_blocks (G : Tp K mg CT) : Fq P w K mg base CT 4 G.a_are_blocks G.d_are_blocks p_are_blocks m_are_blocks :=
  fn_q (N := n_are_blocks) (mb := b_are_blocks) G.f_are_blocks.fn sc_are_blocks (by decide) fun cdv A outer s H E hr hx =>
    (ms_cons (ms_if (mt_w (mw_or (mt_cmp opD_gt (by rfl) (me_callB cb_len G.b_len rfl rfl (ma_cons (mv 1) ma_nil)) (me_gint G.c_MAX_BLOCKS)) (mw_or1 (mt_not (mt_val (me_callB (cb_all hx.calm) G.b_all rfl rfl (ma_cons (me_frz (me_lcN (own := [("value", 2)]) hx (mi_seq (mv 1)) (show BlkOk n_are_blocks (defScope s_are_blocks) _ _ from ⟨rfl, by decide +kernel, by decide +kernel, by decide +kernel, by decide +kernel⟩) (fun s H C cl fp => (mn' 2 (own := [2]) (bk_cq hx).nd)) (fun s H C cl fp => mts_nil) (fun s H C cl fp => (me_call (bk_cq hx) (ok_is_block G) G.f_is_block.mg G.f_is_block.fn.kp G.f_is_block.bd (hr.mono (by decide)) rfl (ma_cons (mv 0) (ma_cons (mv 2) ma_nil)) (len_cons (len_cons len_nil)))))) ma_nil))))))) (ms_one (ms_ret me_bl)) ms_nil)
    (ms_cons (ms_if (mt_cmp (opD_ne (hu64 hr)) (by rfl) (me_callB (cb_sumX hx.calm) G.b_sum rfl rfl (ma_cons (me_frz (me_lcN (own := [("block", 3)]) hx (mi_seq (mv 1)) (show BlkOk n_are_blocks (defScope s_are_blocks) _ _ from ⟨rfl, by decide +kernel, by decide +kernel, by decide +kernel, by decide +kernel⟩) (fun s H C cl fp => (mn' 3 (own := [3]) (bk_cq hx).nd)) (fun s H C cl fp => mts_nil) (fun s H C cl fp => (me_op opD_mul (me_ix (mv 3) me_int) (me_ix (mv 3) me_int))))) ma_nil)) (me_op opD_mul (me_ix (mv 0) me_int) (me_ix (mv 0) me_int))) (ms_one (ms_ret me_bl)) ms_nil)
    (ms_one (ms_ret (me_callB (cb_all hx.calm) G.b_all rfl rfl (ma_cons (me_frz (me_lc2N (own := [("at", 4), ("one", 5), ("other", 6)]) (own1 := [6]) hx (mi_enum G.b_enumerate (mv 1) rfl) (show BlkOk n_are_blocks (defScope s_are_blocks) _ _ from ⟨rfl, by decide +kernel, by decide +kernel, by decide +kernel, by decide +kernel⟩) (by decide) (fun s H C cl fp => (mg_tup (bk_cq hx).calm (mgs_cons (mn' 4 (own := [4, 5, 6]) (bk_cq hx).nd) (mgs_cons (mn' 5 (own := [4, 5, 6]) (bk_cq hx).nd) mgs_nil)))) (fun s H C cl fp => mts_nil) (fun s H C cl fp => (mi_seq (me_sl (mv 1) (mo_some (me_op opD_add (mv 4) me_int)) mo_none))) (fun s H C cl fp => (mn' 6 (own := [6]) (bk_cq hx).nd)) (fun s H C cl fp => mts_nil) (fun s H C cl fp => (me_call (bk_cq hx) (ok_are_apart G) G.f_are_apart.mg G.f_are_apart.fn.kp G.f_are_apart.bd (hr.mono (by decide)) rfl (ma_cons (mv 5) (ma_cons (mv 6) ma_nil)) (len_cons (len_cons len_nil)))))) ma_nil))))))
theorem sc_Plan_many_seams : FnScope n_Plan_many_seams p_Plan_many_seams (defScope s_Plan_many_seams) := ⟨rfl, rfl, rfl, by decide +kernel, rfl, by decide +kernel, by decide +kernel⟩
theorem okq_Plan_many_seams (G : Tp K mg CT) : Fq P w K mg base CT 4 G.a_Plan_many_seams G.d_Plan_many_seams p_Plan_many_seams m_Plan_many_seams :=
  fn_q (N := n_Plan_many_seams) (mb := b_Plan_many_seams) G.f_Plan_many_seams sc_Plan_many_seams (by decide) fun cdv A outer s H E hr hx =>
    (ms_cons (ms_asg (mn 1 hx.nd) me_int)
    (ms_cons (ms_for hx (mi_kup (me_gt G.c_KINDS)) (mn 2 hx.nd) (ms_cons (ms_asg (mn 3 hx.nd) (me_meth hx (mv 0) G.z_Plan G.me_Plan_cuts (ok_Plan_cuts G) (hr.mono (by decide)) (ma_cons (mv 2) ma_nil)))
    (ms_cons (ms_augN (i := 1) hx rfl (by first | exact Or.inl rfl | exact Or.inr rfl) (me_callB cb_len G.b_len rfl rfl (ma_cons (me_frz (me_lcN (own := [("at", 4)]) hx (mi_seq (me_sl (mv 3) (mo_some me_int) (mo_some (me_un opU_neg me_int)))) (show BlkOk n_Plan_many_seams (defScope s_Plan_many_seams) _ _ from ⟨rfl, by decide +kernel, by decide +kernel, by decide +kernel, by decide +kernel⟩) (fun s H C cl fp => (mn' 4 (own := [4]) (bk_cq hx).nd)) (fun s H C cl fp => (mts_one (mt_cmp (opD_eq (hu64 hr)) (by rfl) (me_meth (bk_cq hx) (mv 0) G.z_Plan G.me_Plan_count_at (ok_Plan_count_at G) (hr.mono (by decide)) (ma_cons (mv 2) (ma_cons (mv 4) ma_nil))) me_int))) (fun s H C cl fp => (mv 4)))) ma_nil)))
    (ms_one (ms_augN (i := 1) hx rfl (by first | exact Or.inl rfl | exact Or.inr rfl) (me_callB (cb_sumX hx.calm) G.b_sum rfl rfl (ma_cons (me_frz (me_lcN (own := [("first", 5), ("last", 6)]) hx (mi_zip G.b_zip (ma_cons (mv 3) (ma_cons (me_sl (mv 3) (mo_some me_int) mo_none) ma_nil)) rfl) (show BlkOk n_Plan_many_seams (defScope s_Plan_many_seams) _ _ from ⟨rfl, by decide +kernel, by decide +kernel, by decide +kernel, by decide +kernel⟩) (fun s H C cl fp => (mg_tup (bk_cq hx).calm (mgs_cons (mn' 5 (own := [5, 6]) (bk_cq hx).nd) (mgs_cons (mn' 6 (own := [5, 6]) (bk_cq hx).nd) mgs_nil)))) (fun s H C cl fp => mts_nil) (fun s H C cl fp => (me_meth (bk_cq hx) (mv 0) G.z_Plan G.me_Plan_many_inside (ok_Plan_many_inside G) (hr.mono (by decide)) (ma_cons (mv 2) (ma_cons (mv 5) (ma_cons (mv 6) ma_nil))))))) ma_nil)))))))
    (ms_one (ms_ret (mv 1)))))
theorem sc__law_blocks : FnScope n__law_blocks p__law_blocks (defScope s__law_blocks) := ⟨rfl, rfl, rfl, by decide +kernel, rfl, by decide +kernel, by decide +kernel⟩
theorem ok__law_blocks (G : Tp K mg CT) : Fq P w K mg base CT 4 G.a__law_blocks G.d__law_blocks p__law_blocks m__law_blocks :=
  fn_q (N := n__law_blocks) (mb := b__law_blocks) G.f__law_blocks.fn sc__law_blocks (by decide) fun cdv A outer s H E hr hx =>
    (ms_cons (ms_parC3 (i := 3) (j := 4) (l := 5) hx rfl rfl rfl (by first | exact Or.inl rfl | exact Or.inr rfl) (by first | exact Or.inl rfl | exact Or.inr rfl) (by first | exact Or.inl rfl | exact Or.inr rfl) (by first | exact Or.inl rfl | exact Or.inr rfl) (by first | exact Or.inl rfl | exact Or.inr rfl) (by first | exact Or.inl rfl | exact Or.inr rfl) (ma_cons (me_ix (mv 1) me_int) (ma_cons (me_lstN (ma_cons (me_tup (ma_cons me_int (ma_cons me_int (ma_cons (me_ix (mv 1) me_int) (ma_cons (me_ix (mv 1) me_int) ma_nil))))) ma_nil)) (ma_cons (me_lstN ma_nil) ma_nil))))
    (ms_cons (ms_while hx (mt_cmp (opD_ne (hu64 hr)) (by rfl) (mv 4) (me_lst ma_nil)) (ms_cons (ms_asg (mg_tup hx.calm (mgs_cons (mn 6 hx.nd) (mgs_cons (mn 7 hx.nd) (mgs_cons (mn 8 hx.nd) (mgs_cons (mn 9 hx.nd) mgs_nil))))) (me_mu0 PySem.F.slot_list_pop PySem.F.type_list_pop mm_pop (mv 4)))
    (ms_cons (ms_setLc (i := 10) (own := [("way", 14), ("side", 15)]) hx rfl rfl rfl (mi_seq (me_lst (ma_cons (me_tup (ma_cons me_str (ma_cons (mv 8) ma_nil))) (ma_cons (me_tup (ma_cons me_str (ma_cons (mv 9) ma_nil))) ma_nil)))) (show BlkOk n__law_blocks (defScope s__law_blocks) _ _ from ⟨rfl, by decide +kernel, by decide +kernel, by decide +kernel, by decide +kernel⟩) (fun s H C cl fp => (mg_tup (bk_cq hx).calm (mgs_cons (mn' 14 (own := [14, 15]) (bk_cq hx).nd) (mgs_cons (mn' 15 (own := [14, 15]) (bk_cq hx).nd) mgs_nil)))) (fun s H C cl fp => (mts_one (mt_cmp (opD_eq (hu64 hr)) (by rfl) (me_op opD_mod (mv 15) (mv 3)) me_int))) (fun s H C cl fp => (mv 14)))
    (ms_cons (ms_asg (mn 11 hx.nd) (me_lst ma_nil))
    (ms_cons (ms_if (mt_w (mw_and (mt_cmp opD_lt (by rfl) (me_op opD_add (me_op opD_add (me_callB cb_len G.b_len rfl rfl (ma_cons (mv 4) ma_nil)) (me_callB cb_len G.b_len rfl rfl (ma_cons (mv 5) ma_nil))) me_int) (mv 2)) (mw_and1 (mt_cmp opD_gt (by rfl) (me_call hx (ok__law_take G) G.f__law_take.mg G.f__law_take.fn.kp G.f__law_take.bd (hr.mono (by decide)) rfl (ma_cons (mv 0) (ma_cons me_int ma_nil)) (len_cons (len_cons len_nil))) me_int)))) (ms_cons (ms_asg (mn 12 hx.nd) (me_lst (ma_cons (me_if (mt_cmp (opD_eq (hu64 hr)) (by rfl) (me_op opD_mod (mv 9) (mv 3)) me_int) me_int (mv 3)) (ma_cons (me_if (mt_cmp (opD_eq (hu64 hr)) (by rfl) (me_op opD_mod (mv 8) (mv 3)) me_int) me_int (mv 3)) ma_nil))))
    (ms_one (ms_setLc (i := 11) (own := [("at", 13), ("side", 15)]) hx rfl rfl rfl (mi_enum G.b_enumerate (me_lst (ma_cons (mv 8) (ma_cons (mv 9) ma_nil))) rfl) (show BlkOk n__law_blocks (defScope s__law_blocks) _ _ from ⟨rfl, by decide +kernel, by decide +kernel, by decide +kernel, by decide +kernel⟩) (fun s H C cl fp => (mg_tup (bk_cq hx).calm (mgs_cons (mn' 13 (own := [13, 15]) (bk_cq hx).nd) (mgs_cons (mn' 15 (own := [13, 15]) (bk_cq hx).nd) mgs_nil)))) (fun s H C cl fp => (mts_one (mt_cmp opD_gt (by rfl) (mv 15) (me_ix (mv 12) (mv 13))))) (fun s H C cl fp => (mv 13))))) ms_nil)
    (ms_one (ms_if (mt_cmp (opD_eq (hu64 hr)) (by rfl) (mv 11) (me_lst ma_nil)) (ms_one (ms_expr (me_mu PySem.F.slot_list_append PySem.F.type_list_append mm_append (mv 5) (ma_cons (me_tup (ma_cons (mv 6) (ma_cons (mv 7) (ma_cons (mv 8) (ma_cons (mv 9) (ma_cons (me_call hx (ok__law_one G) G.f__law_one.mg G.f__law_one.fn.kp G.f__law_one.bd (hr.mono (by decide)) rfl (ma_cons (mv 0) (ma_cons (mv 10) ma_nil)) (len_cons (len_cons len_nil))) ma_nil)))))) ma_nil)))) (ms_one (ms_if (mt_cmp (opD_eq (hu64 hr)) (by rfl) (me_call hx (ok__law_one G) G.f__law_one.mg G.f__law_one.fn.kp G.f__law_one.bd (hr.mono (by decide)) rfl (ma_cons (mv 0) (ma_cons (mv 11) ma_nil)) (len_cons (len_cons len_nil))) me_int) (ms_cons (ms_asg (mn 13 hx.nd) (me_call hx (ok__law_cut G) G.f__law_cut.mg G.f__law_cut.fn.kp G.f__law_cut.bd (hr.mono (by decide)) rfl (ma_cons (mv 0) (ma_cons (mv 8) (ma_cons (me_ix (mv 12) me_int) ma_nil))) (len_cons (len_cons (len_cons len_nil)))))
    (ms_one (ms_expr (me_mu PySem.F.slot_list_extend PySem.F.type_list_extend mm_extend (mv 4) (ma_cons (me_lst (ma_cons (me_tup (ma_cons (mv 6) (ma_cons (mv 7) (ma_cons (mv 13) (ma_cons (mv 9) ma_nil))))) (ma_cons (me_tup (ma_cons (me_op opD_add (mv 6) (mv 13)) (ma_cons (mv 7) (ma_cons (me_op opD_sub (mv 8) (mv 13)) (ma_cons (mv 9) ma_nil))))) ma_nil))) ma_nil))))) (ms_cons (ms_asg (mn 13 hx.nd) (me_call hx (ok__law_cut G) G.f__law_cut.mg G.f__law_cut.fn.kp G.f__law_cut.bd (hr.mono (by decide)) rfl (ma_cons (mv 0) (ma_cons (mv 9) (ma_cons (me_ix (mv 12) me_int) ma_nil))) (len_cons (len_cons (len_cons len_nil)))))
    (ms_one (ms_expr (me_mu PySem.F.slot_list_extend PySem.F.type_list_extend mm_extend (mv 4) (ma_cons (me_lst (ma_cons (me_tup (ma_cons (mv 6) (ma_cons (mv 7) (ma_cons (mv 8) (ma_cons (mv 13) ma_nil))))) (ma_cons (me_tup (ma_cons (mv 6) (ma_cons (me_op opD_add (mv 7) (mv 13)) (ma_cons (mv 8) (ma_cons (me_op opD_sub (mv 9) (mv 13)) ma_nil))))) ma_nil))) ma_nil))))))))))))))
    (ms_one (ms_ret (me_callB (cb_sortX (hu64 hr)) G.b_sorted rfl rfl (ma_cons (mv 5) ma_nil))))))
theorem sc_Plan_init : FnScope n_Plan_init p_Plan_init (defScope s_Plan_init) := ⟨rfl, rfl, rfl, by decide +kernel, rfl, by decide +kernel, by decide +kernel⟩
theorem ok_Plan_init (G : Tp K mg CT) : Fv P w K mg base CT 5 G.a_Plan_init w_Plan_init :=
  fv_star (N := n_Plan_init) (ps := ["self", "size"]) (pv := "blocks") (mb := b_Plan_init) G.f_Plan_init sc_Plan_init (by decide) G.b_Plan_init fun cdv A outer s H E hr hx =>
    (ms_cons (ms_if (mt_w (mw_or (mt_not (mt_val (me_call hx (ok_is_size G) G.f_is_size.mg G.f_is_size.fn.kp G.f_is_size.bd (hr.mono (by decide)) rfl (ma_cons (mv 1) ma_nil) (len_cons len_nil)))) (mw_or1 (mt_not (mt_val (me_call hx (ok_are_blocks G) G.f_are_blocks.mg G.f_are_blocks.fn.kp G.f_are_blocks.bd (hr.mono (by decide)) rfl (ma_cons (mv 1) (ma_cons (mv 2) ma_nil)) (len_cons (len_cons len_nil)))))))) (ms_one ms_stuck) ms_nil)
    (ms_cons (ms_fld G.fl_own_size (mv 0) (mv 1))
    (ms_cons (ms_fld G.fl_own_blocks (mv 0) (me_callT cb_tuple G.b_tuple rfl rfl (ma_cons (me_callB (cb_sortX (hu64 hr)) G.b_sorted rfl rfl (ma_cons (mv 2) ma_nil)) ma_nil)))
    (ms_one (ms_fld G.fl_own_known (mv 0) (me_dcN (own := [("block", 3)]) hr hx (mi_seq (mv 2)) (show BlkOk n_Plan_init (defScope s_Plan_init) _ _ from ⟨rfl, by decide +kernel, by decide +kernel, by decide +kernel, by decide +kernel⟩) (fun s H C cl fp => (mn' 3 (own := [3]) (bk_cq hx).nd)) (fun s H C cl fp => mts_nil) (fun s H C cl fp => (mv 3)) (fun s H C cl fp => me_bl)))))))
theorem sc_Plan_crossings : FnScope n_Plan_crossings p_Plan_crossings (defScope s_Plan_crossings) := ⟨rfl, rfl, rfl, by decide +kernel, rfl, by decide +kernel, by decide +kernel⟩
theorem okq_Plan_crossings (G : Tp K mg CT) : Fq P w K mg base CT 5 G.a_Plan_crossings G.d_Plan_crossings p_Plan_crossings m_Plan_crossings :=
  fn_q (N := n_Plan_crossings) (mb := b_Plan_crossings) G.f_Plan_crossings sc_Plan_crossings (by decide) fun cdv A outer s H E hr hx =>
    (ms_cons (ms_expr (me_call hx (ok_require_line G) G.f_require_line.mg G.f_require_line.fn.kp G.f_require_line.bd (hr.mono (by decide)) rfl (ma_cons (me_fld G.fl_own_size (mv 0)) (ma_cons (mv 1) ma_nil)) (len_cons (len_cons len_nil))))
    (ms_one (ms_ret (me_methL hx (mv 0) G.z_Plan G.bm_Plan_count_at (ok_Plan_count_at G) (hr.mono (by decide)) (mv 1)))))
theorem ok_Plan_crossings (G : Tp K mg CT) : Fv P w K mg base CT 5 G.a_Plan_crossings w_Plan_crossings := fv_of (ps := p_Plan_crossings) (okq_Plan_crossings G) G.b_Plan_crossings
theorem sc_Plan_is_seam : FnScope n_Plan_is_seam p_Plan_is_seam (defScope s_Plan_is_seam) := ⟨rfl, rfl, rfl, by decide +kernel, rfl, by decide +kernel, by decide +kernel⟩
theorem okq_Plan_is_seam (G : Tp K mg CT) : Fq P w K mg base CT 5 G.a_Plan_is_seam G.d_Plan_is_seam p_Plan_is_seam m_Plan_is_seam :=
  fn_q (N := n_Plan_is_seam) (mb := b_Plan_is_seam) G.f_Plan_is_seam sc_Plan_is_seam (by decide) fun cdv A outer s H E hr hx =>
    (ms_cons (ms_expr (me_call hx (ok_require_line G) G.f_require_line.mg G.f_require_line.fn.kp G.f_require_line.bd (hr.mono (by decide)) rfl (ma_cons (me_fld G.fl_own_size (mv 0)) (ma_cons (mv 1) ma_nil)) (len_cons (len_cons len_nil))))
    (ms_one (ms_ret (me_cmp (opD_eq (hu64 hr)) (by rfl) (me_methL hx (mv 0) G.z_Plan G.bm_Plan_count_at (ok_Plan_count_at G) (hr.mono (by decide)) (mv 1)) me_int))))
theorem ok_Plan_is_seam (G : Tp K mg CT) : Fv P w K mg base CT 5 G.a_Plan_is_seam w_Plan_is_seam := fv_of (ps := p_Plan_is_seam) (okq_Plan_is_seam G) G.b_Plan_is_seam
theorem sc_Plan_of : FnScope n_Plan_of p_Plan_of (defScope s_Plan_of) := ⟨rfl, rfl, rfl, by decide +kernel, rfl, by decide +kernel, by decide +kernel⟩
theorem okq_Plan_of (G : Tp K mg CT) : Fq P w K mg base CT 7 G.a_Plan_of G.d_Plan_of p_Plan_of m_Plan_of :=
  fn_q (N := n_Plan_of) (mb := b_Plan_of) G.f_Plan_of sc_Plan_of (by decide) fun cdv A outer s H E hr hx =>
    (ms_cons (ms_if (mt_not (mt_val (me_callB cb_isi G.b_isinstance rfl rfl (ma_cons (mv 2) (ma_cons (me_ty G.b_tuple) ma_nil))))) (ms_one ms_stuck) ms_nil)
    (ms_one (ms_ret (me_mkS hx G.k_Plan (ok_Plan_init G) (hr.mono (by decide)) (mv 0) (ma_cons (mv 1) (ma_star (mv 2) ma_nil))))))
theorem ok_Plan_of (G : Tp K mg CT) : Fv P w K mg base CT 7 G.a_Plan_of w_Plan_of := fv_of (ps := p_Plan_of) (okq_Plan_of G) G.b_Plan_of
theorem sc_Plan_exchanged : FnScope n_Plan_exchanged p_Plan_exchanged (defScope s_Plan_exchanged) := ⟨rfl, rfl, rfl, by decide +kernel, rfl, by decide +kernel, by decide +kernel⟩
theorem okq_Plan_exchanged (G : Tp K mg CT) : Fq P w K mg base CT 8 G.a_Plan_exchanged G.d_Plan_exchanged p_Plan_exchanged m_Plan_exchanged :=
  fn_q (N := n_Plan_exchanged) (mb := b_Plan_exchanged) G.f_Plan_exchanged sc_Plan_exchanged (by decide) fun cdv A outer s H E hr hx =>
    (ms_one (ms_ret (me_cm hx (me_cls G.g_Plan) G.r_Plan G.cm_Plan_of (ok_Plan_of G) (hr.mono (by decide)) (ma_cons (me_call hx (ok_exchanged_size G) G.f_exchanged_size.mg G.f_exchanged_size.fn.kp G.f_exchanged_size.bd (hr.mono (by decide)) rfl (ma_cons (me_fld G.fl_own_size (mv 0)) ma_nil) (len_cons len_nil)) (ma_cons (me_callT cb_tuple G.b_tuple rfl rfl (ma_cons (me_frz (me_lcN (own := [("block", 1)]) hx (mi_seq (me_fld G.fl_own_blocks (mv 0))) (show BlkOk n_Plan_exchanged (defScope s_Plan_exchanged) _ _ from ⟨rfl, by decide +kernel, by decide +kernel, by decide +kernel, by decide +kernel⟩) (fun s H C cl fp => (mn' 1 (own := [1]) (bk_cq hx).nd)) (fun s H C cl fp => mts_nil) (fun s H C cl fp => (me_call (bk_cq hx) (ok_exchanged_block G) G.f_exchanged_block.mg G.f_exchanged_block.fn.kp G.f_exchanged_block.bd (hr.mono (by decide)) rfl (ma_cons (mv 1) ma_nil) (len_cons len_nil))))) ma_nil)) ma_nil)))))
theorem sc__law_right : FnScope n__law_right p__law_right (defScope s__law_right) := ⟨rfl, rfl, rfl, by decide +kernel, rfl, by decide +kernel, by decide +kernel⟩
theorem ok__law_right (G : Tp K mg CT) : Fq P w K mg base CT 9 G.a__law_right G.d__law_right p__law_right m__law_right :=
  fn_q (N := n__law_right) (mb := b__law_right) G.f__law_right.fn sc__law_right (by decide) fun cdv A outer s H E hr hx =>
    (ms_cons (ms_asg (mn 2 hx.nd) (me_call hx (ok__law_blocks G) G.f__law_blocks.mg G.f__law_blocks.fn.kp G.f__law_blocks.bd (hr.mono (by decide)) rfl (ma_cons (mv 0) (ma_cons (mv 1) (ma_cons me_int ma_nil))) (len_cons (len_cons (len_cons len_nil)))))
    (ms_cons (ms_par (i := 3) (j := 4) hx rfl rfl (by decide) rfl rfl (ma_cons (me_cm hx (me_cls G.g_Plan) G.r_Plan G.cm_Plan_of (ok_Plan_of G) (hr.mono (by decide)) (ma_cons (mv 1) (ma_cons (me_callT cb_tuple G.b_tuple rfl rfl (ma_cons (mv 2) ma_nil)) ma_nil))) (ma_cons (me_lstN ma_nil) ma_nil)) rfl)
    (ms_cons (ms_for hx (mi_seq (me_lst (ma_cons (me_tup (ma_cons me_str (ma_cons (me_ix (mv 1) me_int) ma_nil))) (ma_cons (me_tup (ma_cons me_str (ma_cons (me_ix (mv 1) me_int) ma_nil))) ma_nil)))) (mg_tup hx.calm (mgs_cons (mn 5 hx.nd) (mgs_cons (mn 6 hx.nd) mgs_nil))) (ms_cons (ms_asg (mn 7 hx.nd) (me_lstN ma_nil))
    (ms_cons (ms_for hx (mi_seq (me_call hx (ok__law_ends G) G.f__law_ends.mg G.f__law_ends.fn.kp G.f__law_ends.bd (hr.mono (by decide)) rfl (ma_cons (mv 1) (ma_cons (mv 2) (ma_cons (mv 5) ma_nil))) (len_cons (len_cons (len_cons len_nil))))) (mn 8 hx.nd) (ms_one (ms_expr (me_mu PySem.F.slot_list_extend PySem.F.type_list_extend mm_extend (mv 7) (ma_cons (me_lst (ma_cons (me_op opD_sub (mv 8) me_int) (ma_cons (mv 8) (ma_cons (me_op opD_add (mv 8) me_int) (ma_cons (me_op opD_add (mv 8) (me_ix (mv 1) me_int)) (ma_cons (me_op opD_sub (mv 8) (me_ix (mv 1) me_int)) ma_nil)))))) ma_nil)))))
    (ms_one (ms_expr (me_mu PySem.F.slot_list_extend PySem.F.type_list_extend mm_extend (mv 4) (ma_cons (me_frz (me_lcN (own := [("at", 11)]) hx (mi_seq (me_op opD_add (mv 7) (me_lst (ma_cons (me_op opD_div (mv 6) me_int) (ma_cons (me_op opD_div (mv 6) me_int) ma_nil))))) (show BlkOk n__law_right (defScope s__law_right) _ _ from ⟨rfl, by decide +kernel, by decide +kernel, by decide +kernel, by decide +kernel⟩) (fun s H C cl fp => (mn' 11 (own := [11]) (bk_cq hx).nd)) (fun s H C cl fp => (mts_one (mt_chain opD_le opD_lt me_int (mv 11) (mv 6)))) (fun s H C cl fp => (me_tup (ma_cons (mv 5) (ma_cons (mv 11) ma_nil)))))) ma_nil)))))))
    (ms_cons (ms_for hx (mi_seq (mv 4)) (mn 9 hx.nd) (ms_cons (ms_asg (mn 10 hx.nd) (me_call hx (ok__law_count G) G.f__law_count.mg G.f__law_count.fn.kp G.f__law_count.bd (hr.mono (by decide)) rfl (ma_cons (mv 1) (ma_cons (mv 2) (ma_cons (mv 9) ma_nil))) (len_cons (len_cons (len_cons len_nil)))))
    (ms_cons (ms_if (mt_w (mw_or (mt_cmp (opD_ne (hu64 hr)) (by rfl) (me_meth hx (mv 3) G.z_Plan G.me_Plan_crossings (ok_Plan_crossings G) (hr.mono (by decide)) (ma_cons (mv 9) ma_nil)) (mv 10)) (mw_or1 (mt_cmp (opD_ne (hu64 hr)) (by rfl) (me_meth hx (mv 3) G.z_Plan G.me_Plan_is_seam (ok_Plan_is_seam G) (hr.mono (by decide)) (ma_cons (mv 9) ma_nil)) (me_cmp (opD_eq (hu64 hr)) (by rfl) (mv 10) me_int))))) (ms_one (ms_ret me_bl)) ms_nil)
    (ms_one (ms_if (mt_cmp (opD_ne (hu64 hr)) (by rfl) (me_op opD_mod (mv 10) (me_ix (mv 1) me_int)) (me_call hx (ok__law_remainder G) G.f__law_remainder.mg G.f__law_remainder.fn.kp G.f__law_remainder.bd (hr.mono (by decide)) rfl (ma_cons (mv 1) (ma_cons (mv 9) ma_nil)) (len_cons (len_cons len_nil)))) (ms_one (ms_ret me_bl)) ms_nil)))))
    (ms_one (ms_ret (me_and (me_cmp (opD_eq (hu64 hr)) (by rfl) (me_meth0 hx (mv 3) G.z_Plan G.me_Plan_many_seams (okq_Plan_many_seams G) rfl (hr.mono (by decide)) G.b_Plan_many_seams) (me_call hx (ok__law_many_seams G) G.f__law_many_seams.mg G.f__law_many_seams.fn.kp G.f__law_many_seams.bd (hr.mono (by decide)) rfl (ma_cons (mv 1) (ma_cons (mv 2) ma_nil)) (len_cons (len_cons len_nil)))) (me_one (me_cmp (opD_eq (hu64 hr)) (by rfl) (me_meth0 hx (me_meth0 hx (mv 3) G.z_Plan G.me_Plan_exchanged (okq_Plan_exchanged G) rfl (hr.mono (by decide)) G.b_Plan_exchanged) G.z_Plan G.me_Plan_many_seams (okq_Plan_many_seams G) rfl (hr.mono (by decide)) G.b_Plan_many_seams) (me_meth0 hx (mv 3) G.z_Plan G.me_Plan_many_seams (okq_Plan_many_seams G) rfl (hr.mono (by decide)) G.b_Plan_many_seams))))))))))
theorem sc_law : FnScope n_law p_law (defScope s_law) := ⟨rfl, rfl, rfl, by decide +kernel, rfl, by decide +kernel, by decide +kernel⟩
theorem ok_law (G : Tp K mg CT) {a : Addr} {fd : FuncData} (h : Fun K "law" "law" s_law a fd) : Fq P w K mg base CT 10 a fd p_law m_law :=
  fn_q (N := n_law) (mb := b_law) h sc_law (by decide) fun cdv A outer s H E hr hx =>
    (ms_cons (ms_for hx (mi_rng1 G.b_range (me_callB (cb_max hx.calm) G.b_max rfl rfl (ma_cons me_int (ma_cons (me_callB (cb_min hx.calm) G.b_min rfl rfl (ma_cons me_int (ma_cons (me_callB cb_len G.b_len rfl rfl (ma_cons (mv 0) ma_nil)) ma_nil))) ma_nil))) rfl) (mn 1 hx.nd) (ms_cons (ms_asg (mn 2 hx.nd) (me_call hx (ok__law_urn G) G.f__law_urn.mg G.f__law_urn.fn.kp G.f__law_urn.bd (hr.mono (by decide)) rfl (ma_cons (mv 0) (ma_cons (mv 1) ma_nil)) (len_cons (len_cons len_nil))))
    (ms_one (ms_for hx (mi_rng1 G.b_range me_int rfl) (mn 3 hx.nd) (ms_cons (ms_asg (mn 4 hx.nd) (me_call hx (ok__law_great G) G.f__law_great.mg G.f__law_great.fn.kp G.f__law_great.bd (hr.mono (by decide)) rfl (ma_cons (mv 2) ma_nil) (len_cons len_nil)))
    (ms_one (ms_if (mt_w (mw_and (mt_val (me_call hx (ok__law_is_laid G) G.f__law_is_laid.mg G.f__law_is_laid.fn.kp G.f__law_is_laid.bd (hr.mono (by decide)) rfl (ma_cons (mv 4) ma_nil) (len_cons len_nil))) (mw_and1 (mt_not (mt_val (me_call hx (ok__law_right G) G.f__law_right.mg G.f__law_right.fn.kp G.f__law_right.bd (hr.mono (by decide)) rfl (ma_cons (mv 2) (ma_cons (mv 4) ma_nil)) (len_cons (len_cons len_nil)))))))) (ms_one (ms_ret me_bl)) ms_nil)))))))
    (ms_cons (ms_asg (mn 5 hx.nd) (me_lstN (ma_cons (me_meth0 hx (me_mk hx G.k_Plan (ok_Plan_init G) (hr.mono (by decide)) (me_cls G.g_Plan) (ma_cons (me_tup (ma_cons (me_op opD_pow me_int me_int) (ma_cons me_int (ma_cons me_int ma_nil)))) (ma_cons (me_tup (ma_cons me_int (ma_cons me_int (ma_cons (me_op opD_pow me_int me_int) (ma_cons me_int (ma_cons me_str ma_nil)))))) ma_nil))) G.z_Plan G.me_Plan_many_seams (okq_Plan_many_seams G) rfl (hr.mono (by decide)) G.b_Plan_many_seams) ma_nil)))
    (ms_cons (ms_expr (me_mu PySem.F.slot_list_append PySem.F.type_list_append mm_append (mv 5) (ma_cons (me_meth0 hx (me_mk hx G.k_Plan (ok_Plan_init G) (hr.mono (by decide)) (me_cls G.g_Plan) (ma_cons (me_tup (ma_cons (me_op opD_pow me_int me_int) (ma_cons me_int (ma_cons (me_op opD_pow me_int me_int) ma_nil)))) (ma_cons (me_tup (ma_cons me_int (ma_cons me_int (ma_cons (me_op opD_pow me_int me_int) (ma_cons me_int (ma_cons me_str ma_nil)))))) ma_nil))) G.z_Plan G.me_Plan_many_seams (okq_Plan_many_seams G) rfl (hr.mono (by decide)) G.b_Plan_many_seams) ma_nil)))
    (ms_cons (ms_expr (me_mu PySem.F.slot_list_append PySem.F.type_list_append mm_append (mv 5) (ma_cons (me_meth0 hx (me_mk hx G.k_Plan (ok_Plan_init G) (hr.mono (by decide)) (me_cls G.g_Plan) (ma_cons (me_tup (ma_cons (me_op opD_pow me_int me_int) (ma_cons me_int (ma_cons me_int ma_nil)))) (ma_cons (me_tup (ma_cons me_int (ma_cons me_int (ma_cons (me_op opD_pow me_int me_int) (ma_cons me_int (ma_cons me_str ma_nil)))))) ma_nil))) G.z_Plan G.me_Plan_many_seams (okq_Plan_many_seams G) rfl (hr.mono (by decide)) G.b_Plan_many_seams) ma_nil)))
    (ms_one (ms_ret (me_cmp (opD_eq (hu64 hr)) (by rfl) (mv 5) (me_lst (ma_cons (me_op opD_mul me_int (me_op opD_pow me_int me_int)) (ma_cons me_int (ma_cons (me_op opD_sub (me_op opD_pow me_int me_int) me_int) ma_nil)))))))))))
end
section
variable {K : PySem.W.Frag} {mg : Str → Option Value} {h : Heap} {fa : Addr}
set_option maxHeartbeats 0 in
theorem all_mk (KX : K.In h) (G : h.Ns mainGlobals mg) (hmg : mg "law" = some (.ref fa))
  {gk_Plan : Addr} (aC_Plan : PySem.W.nsIn K mainGlobals "Plan" = some (some (.ref gk_Plan)))
  (m1_Plan : PySem.W.makesIn K gk_Plan = true)
  (m4_Plan : PySem.W.keepIn K (.ref gk_Plan) = true)
  (c1_Plan : PySem.W.plainGet K gk_Plan Str.empty = true)
  (c2_Plan : PySem.W.hasDictIn K gk_Plan = true)
  (c3_Plan : PySem.W.plainOver K gk_Plan = true)
  (c4_Plan : PySem.W.findIn K (.ref gk_Plan) "__setattr__" = some (some (.builtin "object.__setattr__")))
  (r1_Plan : PySem.W.readsIn K gk_Plan (.type "type") = true)
  (r2_Plan : PySem.W.specialIn K (.ref gk_Plan) "__getattribute__" = some (some (.builtin "type.__getattribute__")))
  (i1_Plan : PySem.W.findIn K (.ref gk_Plan) "__class__" = some (some (.builtin "object.__class__")))
  (i2_Plan : PySem.W.specialIn K (.builtin "object.__class__") "__get__" = some (some (.builtin "getset_descriptor.__get__")))
  (i3_Plan : PySem.W.takesIn K (.builtin "object.__class__") = some true)
  (i4_Plan : PySem.W.mroIn K gk_Plan (.type "object") = some true)
  (i5_Plan : PySem.W.kitOne K (.ref gk_Plan) (.ref gk_Plan) = some true)
  (i6_Plan : notc K gk_Plan = true)
  (i7_Plan : PySem.W.subIn K (.ref gk_Plan) (.type "NoneType") = some false)
  (i8_Plan : noty K gk_Plan = true)
  (n_own_blocks_Plan : PySem.W.findIn K (.ref gk_Plan) "own_blocks" = some none)
  (n_own_known_Plan : PySem.W.findIn K (.ref gk_Plan) "own_known" = some none)
  (n_own_size_Plan : PySem.W.findIn K (.ref gk_Plan) "own_size" = some none)
  {oc0 kV0 dc0 pm0 cd0 ct0 : Value} {od0 an0 : Option Addr} {sl0 : Array (Option Value)} {g0 : Addr}
  (a0 : PySem.W.nsIn K mainGlobals "is_integer" = some (some (.ref g0))) (l0 : K.lookup g0 = some ⟨oc0, od0, .func (PySem.W.fnOf "is_integer" "is_integer" (defArgs s_is_integer) (defBody s_is_integer) (defScope s_is_integer) .none kV0 dc0 pm0 an0 cd0 ct0), sl0⟩) (c0 : PySem.W.codeIn K cd0 "is_integer" = true) (k0 : PySem.W.keepIn K (.ref g0) = true)
  {oc1 kV1 dc1 pm1 cd1 ct1 : Value} {od1 an1 : Option Addr} {sl1 : Array (Option Value)} {g1 : Addr}
  (a1 : PySem.W.nsIn K mainGlobals "is_from" = some (some (.ref g1))) (l1 : K.lookup g1 = some ⟨oc1, od1, .func (PySem.W.fnOf "is_from" "is_from" (defArgs s_is_from) (defBody s_is_from) (defScope s_is_from) .none kV1 dc1 pm1 an1 cd1 ct1), sl1⟩) (c1 : PySem.W.codeIn K cd1 "is_from" = true) (k1 : PySem.W.keepIn K (.ref g1) = true)
  {oc2 kV2 dc2 pm2 cd2 ct2 : Value} {od2 an2 : Option Addr} {sl2 : Array (Option Value)} {g2 : Addr}
  (a2 : PySem.W.nsIn K mainGlobals "is_row" = some (some (.ref g2))) (l2 : K.lookup g2 = some ⟨oc2, od2, .func (PySem.W.fnOf "is_row" "is_row" (defArgs s_is_row) (defBody s_is_row) (defScope s_is_row) .none kV2 dc2 pm2 an2 cd2 ct2), sl2⟩) (c2 : PySem.W.codeIn K cd2 "is_row" = true) (k2 : PySem.W.keepIn K (.ref g2) = true)
  {oc3 kV3 dc3 pm3 cd3 ct3 : Value} {od3 an3 : Option Addr} {sl3 : Array (Option Value)} {g3 : Addr}
  (a3 : PySem.W.nsIn K mainGlobals "is_word_of" = some (some (.ref g3))) (l3 : K.lookup g3 = some ⟨oc3, od3, .func (PySem.W.fnOf "is_word_of" "is_word_of" (defArgs s_is_word_of) (defBody s_is_word_of) (defScope s_is_word_of) .none kV3 dc3 pm3 an3 cd3 ct3), sl3⟩) (c3 : PySem.W.codeIn K cd3 "is_word_of" = true) (k3 : PySem.W.keepIn K (.ref g3) = true)
  {oc4 kV4 dc4 pm4 cd4 ct4 : Value} {od4 an4 : Option Addr} {sl4 : Array (Option Value)} {g4 : Addr}
  (a4 : PySem.W.nsIn K mainGlobals "is_size" = some (some (.ref g4))) (l4 : K.lookup g4 = some ⟨oc4, od4, .func (PySem.W.fnOf "is_size" "is_size" (defArgs s_is_size) (defBody s_is_size) (defScope s_is_size) .none kV4 dc4 pm4 an4 cd4 ct4), sl4⟩) (c4 : PySem.W.codeIn K cd4 "is_size" = true) (k4 : PySem.W.keepIn K (.ref g4) = true)
  {oc5 kV5 dc5 pm5 cd5 ct5 : Value} {od5 an5 : Option Addr} {sl5 : Array (Option Value)} {g5 : Addr}
  (a5 : PySem.W.nsIn K mainGlobals "exchanged_size" = some (some (.ref g5))) (l5 : K.lookup g5 = some ⟨oc5, od5, .func (PySem.W.fnOf "exchanged_size" "exchanged_size" (defArgs s_exchanged_size) (defBody s_exchanged_size) (defScope s_exchanged_size) .none kV5 dc5 pm5 an5 cd5 ct5), sl5⟩) (c5 : PySem.W.codeIn K cd5 "exchanged_size" = true) (k5 : PySem.W.keepIn K (.ref g5) = true)
  {oc6 kV6 dc6 pm6 cd6 ct6 : Value} {od6 an6 : Option Addr} {sl6 : Array (Option Value)} {g6 : Addr}
  (a6 : PySem.W.nsIn K mainGlobals "other_way" = some (some (.ref g6))) (l6 : K.lookup g6 = some ⟨oc6, od6, .func (PySem.W.fnOf "other_way" "other_way" (defArgs s_other_way) (defBody s_other_way) (defScope s_other_way) .none kV6 dc6 pm6 an6 cd6 ct6), sl6⟩) (c6 : PySem.W.codeIn K cd6 "other_way" = true) (k6 : PySem.W.keepIn K (.ref g6) = true)
  {oc7 kV7 dc7 pm7 cd7 ct7 : Value} {od7 an7 : Option Addr} {sl7 : Array (Option Value)} {g7 : Addr}
  (a7 : PySem.W.nsIn K mainGlobals "is_plain_line" = some (some (.ref g7))) (l7 : K.lookup g7 = some ⟨oc7, od7, .func (PySem.W.fnOf "is_plain_line" "is_plain_line" (defArgs s_is_plain_line) (defBody s_is_plain_line) (defScope s_is_plain_line) .none kV7 dc7 pm7 an7 cd7 ct7), sl7⟩) (c7 : PySem.W.codeIn K cd7 "is_plain_line" = true) (k7 : PySem.W.keepIn K (.ref g7) = true)
  {oc8 kV8 dc8 pm8 cd8 ct8 : Value} {od8 an8 : Option Addr} {sl8 : Array (Option Value)} {g8 : Addr}
  (a8 : PySem.W.nsIn K mainGlobals "require_line" = some (some (.ref g8))) (l8 : K.lookup g8 = some ⟨oc8, od8, .func (PySem.W.fnOf "require_line" "require_line" (defArgs s_require_line) (defBody s_require_line) (defScope s_require_line) .none kV8 dc8 pm8 an8 cd8 ct8), sl8⟩) (c8 : PySem.W.codeIn K cd8 "require_line" = true) (k8 : PySem.W.keepIn K (.ref g8) = true)
  {oc9 kV9 dc9 pm9 cd9 ct9 : Value} {od9 an9 : Option Addr} {sl9 : Array (Option Value)} {g9 : Addr}
  (a9 : PySem.W.nsIn K mainGlobals "is_block" = some (some (.ref g9))) (l9 : K.lookup g9 = some ⟨oc9, od9, .func (PySem.W.fnOf "is_block" "is_block" (defArgs s_is_block) (defBody s_is_block) (defScope s_is_block) .none kV9 dc9 pm9 an9 cd9 ct9), sl9⟩) (c9 : PySem.W.codeIn K cd9 "is_block" = true) (k9 : PySem.W.keepIn K (.ref g9) = true)
  {oc10 kV10 dc10 pm10 cd10 ct10 : Value} {od10 an10 : Option Addr} {sl10 : Array (Option Value)} {g10 : Addr}
  (a10 : PySem.W.nsIn K mainGlobals "are_apart" = some (some (.ref g10))) (l10 : K.lookup g10 = some ⟨oc10, od10, .func (PySem.W.fnOf "are_apart" "are_apart" (defArgs s_are_apart) (defBody s_are_apart) (defScope s_are_apart) .none kV10 dc10 pm10 an10 cd10 ct10), sl10⟩) (c10 : PySem.W.codeIn K cd10 "are_apart" = true) (k10 : PySem.W.keepIn K (.ref g10) = true)
  {oc11 kV11 dc11 pm11 cd11 ct11 : Value} {od11 an11 : Option Addr} {sl11 : Array (Option Value)} {g11 : Addr}
  (a11 : PySem.W.nsIn K mainGlobals "are_blocks" = some (some (.ref g11))) (l11 : K.lookup g11 = some ⟨oc11, od11, .func (PySem.W.fnOf "are_blocks" "are_blocks" (defArgs s_are_blocks) (defBody s_are_blocks) (defScope s_are_blocks) .none kV11 dc11 pm11 an11 cd11 ct11), sl11⟩) (c11 : PySem.W.codeIn K cd11 "are_blocks" = true) (k11 : PySem.W.keepIn K (.ref g11) = true)
  {oc12 kV12 dc12 pm12 cd12 ct12 : Value} {od12 an12 : Option Addr} {sl12 : Array (Option Value)} {g12 : Addr}
  (a12 : PySem.W.nsIn K mainGlobals "exchanged_block" = some (some (.ref g12))) (l12 : K.lookup g12 = some ⟨oc12, od12, .func (PySem.W.fnOf "exchanged_block" "exchanged_block" (defArgs s_exchanged_block) (defBody s_exchanged_block) (defScope s_exchanged_block) .none kV12 dc12 pm12 an12 cd12 ct12), sl12⟩) (c12 : PySem.W.codeIn K cd12 "exchanged_block" = true) (k12 : PySem.W.keepIn K (.ref g12) = true)
  {oc13 kV13 dc13 pm13 cd13 ct13 : Value} {od13 an13 : Option Addr} {sl13 : Array (Option Value)} {g13 : Addr}
  (a13 : PySem.W.nsIn K mainGlobals "many_between" = some (some (.ref g13))) (l13 : K.lookup g13 = some ⟨oc13, od13, .func (PySem.W.fnOf "many_between" "many_between" (defArgs s_many_between) (defBody s_many_between) (defScope s_many_between) .none kV13 dc13 pm13 an13 cd13 ct13), sl13⟩) (c13 : PySem.W.codeIn K cd13 "many_between" = true) (k13 : PySem.W.keepIn K (.ref g13) = true)
  {oc14 kV14 dc14 pm14 cd14 ct14 : Value} {od14 an14 : Option Addr} {sl14 : Array (Option Value)} {g14 : Addr}
  (a14 : PySem.W.findIn K (.ref gk_Plan) "__init__" = some (some (.ref g14)))
  (l14 : K.lookup g14 = some ⟨oc14, od14, .func (PySem.W.fnOf "__init__" "Plan.__init__" (defArgs s_Plan_init) (defBody s_Plan_init) (defScope s_Plan_init) .none kV14 dc14 pm14 an14 cd14 ct14), sl14⟩) (c14 : PySem.W.codeIn K cd14 "Plan.__init__" = true) (k14 : PySem.W.keepIn K (.ref g14) = true)
  {oc15 kV15 dc15 pm15 cd15 ct15 : Value} {od15 an15 : Option Addr} {sl15 : Array (Option Value)} {g15 : Addr}
  {gp15 : Addr} {rest15 : List Value} (a15 : PySem.W.findCls K (.ref gk_Plan) (.type "type") "of" = some (.get (.builtin "classmethod.__get__") (.ref gp15) .none (.ref gk_Plan))) (q15 : PySem.W.recIn K gp15 "classmethod" = some (.ref g15 :: rest15)) (y15 : PySem.W.fnIn K g15 = true)
  (l15 : K.lookup g15 = some ⟨oc15, od15, .func (PySem.W.fnOf "of" "Plan.of" (defArgs s_Plan_of) (defBody s_Plan_of) (defScope s_Plan_of) .none kV15 dc15 pm15 an15 cd15 ct15), sl15⟩) (c15 : PySem.W.codeIn K cd15 "Plan.of" = true) (k15 : PySem.W.keepIn K (.ref g15) = true)
  {oc16 kV16 dc16 pm16 cd16 ct16 : Value} {od16 an16 : Option Addr} {sl16 : Array (Option Value)} {g16 : Addr}
  (a16 : PySem.W.findIn K (.ref gk_Plan) "spans" = some (some (.ref g16))) (y16 : PySem.W.isFn K (.ref g16) = true)
  (l16 : K.lookup g16 = some ⟨oc16, od16, .func (PySem.W.fnOf "spans" "Plan.spans" (defArgs s_Plan_spans) (defBody s_Plan_spans) (defScope s_Plan_spans) .none kV16 dc16 pm16 an16 cd16 ct16), sl16⟩) (c16 : PySem.W.codeIn K cd16 "Plan.spans" = true) (k16 : PySem.W.keepIn K (.ref g16) = true)
  {oc17 kV17 dc17 pm17 cd17 ct17 : Value} {od17 an17 : Option Addr} {sl17 : Array (Option Value)} {g17 : Addr}
  (a17 : PySem.W.findIn K (.ref gk_Plan) "count_at" = some (some (.ref g17))) (y17 : PySem.W.isFn K (.ref g17) = true)
  (bg17 : PySem.W.specialIn K (.ref g17) "__get__" = some (some (.builtin "function.__get__"))) (bt17 : PySem.W.takesIn K (.ref g17) = some false) (bf17 : PySem.W.fnIn K g17 = true)
  (l17 : K.lookup g17 = some ⟨oc17, od17, .func (PySem.W.fnOf "count_at" "Plan.count_at" (defArgs s_Plan_count_at) (defBody s_Plan_count_at) (defScope s_Plan_count_at) .none kV17 dc17 pm17 an17 cd17 ct17), sl17⟩) (c17 : PySem.W.codeIn K cd17 "Plan.count_at" = true) (k17 : PySem.W.keepIn K (.ref g17) = true)
  {oc18 kV18 dc18 pm18 cd18 ct18 : Value} {od18 an18 : Option Addr} {sl18 : Array (Option Value)} {g18 : Addr}
  (a18 : PySem.W.findIn K (.ref gk_Plan) "cuts" = some (some (.ref g18))) (y18 : PySem.W.isFn K (.ref g18) = true)
  (l18 : K.lookup g18 = some ⟨oc18, od18, .func (PySem.W.fnOf "cuts" "Plan.cuts" (defArgs s_Plan_cuts) (defBody s_Plan_cuts) (defScope s_Plan_cuts) .none kV18 dc18 pm18 an18 cd18 ct18), sl18⟩) (c18 : PySem.W.codeIn K cd18 "Plan.cuts" = true) (k18 : PySem.W.keepIn K (.ref g18) = true)
  {oc19 kV19 dc19 pm19 cd19 ct19 : Value} {od19 an19 : Option Addr} {sl19 : Array (Option Value)} {g19 : Addr}
  (a19 : PySem.W.findIn K (.ref gk_Plan) "remainders" = some (some (.ref g19))) (y19 : PySem.W.isFn K (.ref g19) = true)
  (l19 : K.lookup g19 = some ⟨oc19, od19, .func (PySem.W.fnOf "remainders" "Plan.remainders" (defArgs s_Plan_remainders) (defBody s_Plan_remainders) (defScope s_Plan_remainders) .none kV19 dc19 pm19 an19 cd19 ct19), sl19⟩) (c19 : PySem.W.codeIn K cd19 "Plan.remainders" = true) (k19 : PySem.W.keepIn K (.ref g19) = true)
  {oc20 kV20 dc20 pm20 cd20 ct20 : Value} {od20 an20 : Option Addr} {sl20 : Array (Option Value)} {g20 : Addr}
  (a20 : PySem.W.findIn K (.ref gk_Plan) "many_inside" = some (some (.ref g20))) (y20 : PySem.W.isFn K (.ref g20) = true)
  (l20 : K.lookup g20 = some ⟨oc20, od20, .func (PySem.W.fnOf "many_inside" "Plan.many_inside" (defArgs s_Plan_many_inside) (defBody s_Plan_many_inside) (defScope s_Plan_many_inside) .none kV20 dc20 pm20 an20 cd20 ct20), sl20⟩) (c20 : PySem.W.codeIn K cd20 "Plan.many_inside" = true) (k20 : PySem.W.keepIn K (.ref g20) = true)
  {oc21 kV21 dc21 pm21 cd21 ct21 : Value} {od21 an21 : Option Addr} {sl21 : Array (Option Value)} {g21 : Addr}
  (a21 : PySem.W.findIn K (.ref gk_Plan) "crossings" = some (some (.ref g21))) (y21 : PySem.W.isFn K (.ref g21) = true)
  (l21 : K.lookup g21 = some ⟨oc21, od21, .func (PySem.W.fnOf "crossings" "Plan.crossings" (defArgs s_Plan_crossings) (defBody s_Plan_crossings) (defScope s_Plan_crossings) .none kV21 dc21 pm21 an21 cd21 ct21), sl21⟩) (c21 : PySem.W.codeIn K cd21 "Plan.crossings" = true) (k21 : PySem.W.keepIn K (.ref g21) = true)
  {oc22 kV22 dc22 pm22 cd22 ct22 : Value} {od22 an22 : Option Addr} {sl22 : Array (Option Value)} {g22 : Addr}
  (a22 : PySem.W.findIn K (.ref gk_Plan) "is_seam" = some (some (.ref g22))) (y22 : PySem.W.isFn K (.ref g22) = true)
  (l22 : K.lookup g22 = some ⟨oc22, od22, .func (PySem.W.fnOf "is_seam" "Plan.is_seam" (defArgs s_Plan_is_seam) (defBody s_Plan_is_seam) (defScope s_Plan_is_seam) .none kV22 dc22 pm22 an22 cd22 ct22), sl22⟩) (c22 : PySem.W.codeIn K cd22 "Plan.is_seam" = true) (k22 : PySem.W.keepIn K (.ref g22) = true)
  {oc23 kV23 dc23 pm23 cd23 ct23 : Value} {od23 an23 : Option Addr} {sl23 : Array (Option Value)} {g23 : Addr}
  (a23 : PySem.W.findIn K (.ref gk_Plan) "many_seams" = some (some (.ref g23))) (y23 : PySem.W.isFn K (.ref g23) = true)
  (l23 : K.lookup g23 = some ⟨oc23, od23, .func (PySem.W.fnOf "many_seams" "Plan.many_seams" (defArgs s_Plan_many_seams) (defBody s_Plan_many_seams) (defScope s_Plan_many_seams) .none kV23 dc23 pm23 an23 cd23 ct23), sl23⟩) (c23 : PySem.W.codeIn K cd23 "Plan.many_seams" = true) (k23 : PySem.W.keepIn K (.ref g23) = true)
  {oc24 kV24 dc24 pm24 cd24 ct24 : Value} {od24 an24 : Option Addr} {sl24 : Array (Option Value)} {g24 : Addr}
  (a24 : PySem.W.findIn K (.ref gk_Plan) "exchanged" = some (some (.ref g24))) (y24 : PySem.W.isFn K (.ref g24) = true)
  (l24 : K.lookup g24 = some ⟨oc24, od24, .func (PySem.W.fnOf "exchanged" "Plan.exchanged" (defArgs s_Plan_exchanged) (defBody s_Plan_exchanged) (defScope s_Plan_exchanged) .none kV24 dc24 pm24 an24 cd24 ct24), sl24⟩) (c24 : PySem.W.codeIn K cd24 "Plan.exchanged" = true) (k24 : PySem.W.keepIn K (.ref g24) = true)
  {oc25 kV25 dc25 pm25 cd25 ct25 : Value} {od25 an25 : Option Addr} {sl25 : Array (Option Value)} {g25 : Addr}
  (a25 : PySem.W.nsIn K mainGlobals "_law_urn" = some (some (.ref g25))) (l25 : K.lookup g25 = some ⟨oc25, od25, .func (PySem.W.fnOf "_law_urn" "_law_urn" (defArgs s__law_urn) (defBody s__law_urn) (defScope s__law_urn) .none kV25 dc25 pm25 an25 cd25 ct25), sl25⟩) (c25 : PySem.W.codeIn K cd25 "_law_urn" = true) (k25 : PySem.W.keepIn K (.ref g25) = true)
  {oc26 kV26 dc26 pm26 cd26 ct26 : Value} {od26 an26 : Option Addr} {sl26 : Array (Option Value)} {g26 : Addr}
  (a26 : PySem.W.nsIn K mainGlobals "_law_take" = some (some (.ref g26))) (l26 : K.lookup g26 = some ⟨oc26, od26, .func (PySem.W.fnOf "_law_take" "_law_take" (defArgs s__law_take) (defBody s__law_take) (defScope s__law_take) .none kV26 dc26 pm26 an26 cd26 ct26), sl26⟩) (c26 : PySem.W.codeIn K cd26 "_law_take" = true) (k26 : PySem.W.keepIn K (.ref g26) = true)
  {oc27 kV27 dc27 pm27 cd27 ct27 : Value} {od27 an27 : Option Addr} {sl27 : Array (Option Value)} {g27 : Addr}
  (a27 : PySem.W.nsIn K mainGlobals "_law_one" = some (some (.ref g27))) (l27 : K.lookup g27 = some ⟨oc27, od27, .func (PySem.W.fnOf "_law_one" "_law_one" (defArgs s__law_one) (defBody s__law_one) (defScope s__law_one) .none kV27 dc27 pm27 an27 cd27 ct27), sl27⟩) (c27 : PySem.W.codeIn K cd27 "_law_one" = true) (k27 : PySem.W.keepIn K (.ref g27) = true)
  {oc28 kV28 dc28 pm28 cd28 ct28 : Value} {od28 an28 : Option Addr} {sl28 : Array (Option Value)} {g28 : Addr}
  (a28 : PySem.W.nsIn K mainGlobals "_law_is_laid" = some (some (.ref g28))) (l28 : K.lookup g28 = some ⟨oc28, od28, .func (PySem.W.fnOf "_law_is_laid" "_law_is_laid" (defArgs s__law_is_laid) (defBody s__law_is_laid) (defScope s__law_is_laid) .none kV28 dc28 pm28 an28 cd28 ct28), sl28⟩) (c28 : PySem.W.codeIn K cd28 "_law_is_laid" = true) (k28 : PySem.W.keepIn K (.ref g28) = true)
  {oc29 kV29 dc29 pm29 cd29 ct29 : Value} {od29 an29 : Option Addr} {sl29 : Array (Option Value)} {g29 : Addr}
  (a29 : PySem.W.nsIn K mainGlobals "_law_remainder" = some (some (.ref g29))) (l29 : K.lookup g29 = some ⟨oc29, od29, .func (PySem.W.fnOf "_law_remainder" "_law_remainder" (defArgs s__law_remainder) (defBody s__law_remainder) (defScope s__law_remainder) .none kV29 dc29 pm29 an29 cd29 ct29), sl29⟩) (c29 : PySem.W.codeIn K cd29 "_law_remainder" = true) (k29 : PySem.W.keepIn K (.ref g29) = true)
  {oc30 kV30 dc30 pm30 cd30 ct30 : Value} {od30 an30 : Option Addr} {sl30 : Array (Option Value)} {g30 : Addr}
  (a30 : PySem.W.nsIn K mainGlobals "_law_great" = some (some (.ref g30))) (l30 : K.lookup g30 = some ⟨oc30, od30, .func (PySem.W.fnOf "_law_great" "_law_great" (defArgs s__law_great) (defBody s__law_great) (defScope s__law_great) .none kV30 dc30 pm30 an30 cd30 ct30), sl30⟩) (c30 : PySem.W.codeIn K cd30 "_law_great" = true) (k30 : PySem.W.keepIn K (.ref g30) = true)
  {oc31 kV31 dc31 pm31 cd31 ct31 : Value} {od31 an31 : Option Addr} {sl31 : Array (Option Value)} {g31 : Addr}
  (a31 : PySem.W.nsIn K mainGlobals "_law_cut" = some (some (.ref g31))) (l31 : K.lookup g31 = some ⟨oc31, od31, .func (PySem.W.fnOf "_law_cut" "_law_cut" (defArgs s__law_cut) (defBody s__law_cut) (defScope s__law_cut) .none kV31 dc31 pm31 an31 cd31 ct31), sl31⟩) (c31 : PySem.W.codeIn K cd31 "_law_cut" = true) (k31 : PySem.W.keepIn K (.ref g31) = true)
  {oc32 kV32 dc32 pm32 cd32 ct32 : Value} {od32 an32 : Option Addr} {sl32 : Array (Option Value)} {g32 : Addr}
  (a32 : PySem.W.nsIn K mainGlobals "_law_blocks" = some (some (.ref g32))) (l32 : K.lookup g32 = some ⟨oc32, od32, .func (PySem.W.fnOf "_law_blocks" "_law_blocks" (defArgs s__law_blocks) (defBody s__law_blocks) (defScope s__law_blocks) .none kV32 dc32 pm32 an32 cd32 ct32), sl32⟩) (c32 : PySem.W.codeIn K cd32 "_law_blocks" = true) (k32 : PySem.W.keepIn K (.ref g32) = true)
  {oc33 kV33 dc33 pm33 cd33 ct33 : Value} {od33 an33 : Option Addr} {sl33 : Array (Option Value)} {g33 : Addr}
  (a33 : PySem.W.nsIn K mainGlobals "_law_count" = some (some (.ref g33))) (l33 : K.lookup g33 = some ⟨oc33, od33, .func (PySem.W.fnOf "_law_count" "_law_count" (defArgs s__law_count) (defBody s__law_count) (defScope s__law_count) .none kV33 dc33 pm33 an33 cd33 ct33), sl33⟩) (c33 : PySem.W.codeIn K cd33 "_law_count" = true) (k33 : PySem.W.keepIn K (.ref g33) = true)
  {oc34 kV34 dc34 pm34 cd34 ct34 : Value} {od34 an34 : Option Addr} {sl34 : Array (Option Value)} {g34 : Addr}
  (a34 : PySem.W.nsIn K mainGlobals "_law_ends" = some (some (.ref g34))) (l34 : K.lookup g34 = some ⟨oc34, od34, .func (PySem.W.fnOf "_law_ends" "_law_ends" (defArgs s__law_ends) (defBody s__law_ends) (defScope s__law_ends) .none kV34 dc34 pm34 an34 cd34 ct34), sl34⟩) (c34 : PySem.W.codeIn K cd34 "_law_ends" = true) (k34 : PySem.W.keepIn K (.ref g34) = true)
  {oc35 kV35 dc35 pm35 cd35 ct35 : Value} {od35 an35 : Option Addr} {sl35 : Array (Option Value)} {g35 : Addr}
  (a35 : PySem.W.nsIn K mainGlobals "_law_many_of" = some (some (.ref g35))) (l35 : K.lookup g35 = some ⟨oc35, od35, .func (PySem.W.fnOf "_law_many_of" "_law_many_of" (defArgs s__law_many_of) (defBody s__law_many_of) (defScope s__law_many_of) .none kV35 dc35 pm35 an35 cd35 ct35), sl35⟩) (c35 : PySem.W.codeIn K cd35 "_law_many_of" = true) (k35 : PySem.W.keepIn K (.ref g35) = true)
  {oc36 kV36 dc36 pm36 cd36 ct36 : Value} {od36 an36 : Option Addr} {sl36 : Array (Option Value)} {g36 : Addr}
  (a36 : PySem.W.nsIn K mainGlobals "_law_seams_between" = some (some (.ref g36))) (l36 : K.lookup g36 = some ⟨oc36, od36, .func (PySem.W.fnOf "_law_seams_between" "_law_seams_between" (defArgs s__law_seams_between) (defBody s__law_seams_between) (defScope s__law_seams_between) .none kV36 dc36 pm36 an36 cd36 ct36), sl36⟩) (c36 : PySem.W.codeIn K cd36 "_law_seams_between" = true) (k36 : PySem.W.keepIn K (.ref g36) = true)
  {oc37 kV37 dc37 pm37 cd37 ct37 : Value} {od37 an37 : Option Addr} {sl37 : Array (Option Value)} {g37 : Addr}
  (a37 : PySem.W.nsIn K mainGlobals "_law_many_seams" = some (some (.ref g37))) (l37 : K.lookup g37 = some ⟨oc37, od37, .func (PySem.W.fnOf "_law_many_seams" "_law_many_seams" (defArgs s__law_many_seams) (defBody s__law_many_seams) (defScope s__law_many_seams) .none kV37 dc37 pm37 an37 cd37 ct37), sl37⟩) (c37 : PySem.W.codeIn K cd37 "_law_many_seams" = true) (k37 : PySem.W.keepIn K (.ref g37) = true)
  {oc38 kV38 dc38 pm38 cd38 ct38 : Value} {od38 an38 : Option Addr} {sl38 : Array (Option Value)} {g38 : Addr}
  (a38 : PySem.W.nsIn K mainGlobals "_law_right" = some (some (.ref g38))) (l38 : K.lookup g38 = some ⟨oc38, od38, .func (PySem.W.fnOf "_law_right" "_law_right" (defArgs s__law_right) (defBody s__law_right) (defScope s__law_right) .none kV38 dc38 pm38 an38 cd38 ct38), sl38⟩) (c38 : PySem.W.codeIn K cd38 "_law_right" = true) (k38 : PySem.W.keepIn K (.ref g38) = true)
  {oc39 kV39 dc39 pm39 cd39 ct39 : Value} {od39 an39 : Option Addr} {sl39 : Array (Option Value)} {g39 : Addr}
  (a39 : PySem.W.nsIn K mainGlobals "law" = some (some (.ref g39))) (l39 : K.lookup g39 = some ⟨oc39, od39, .func (PySem.W.fnOf "law" "law" (defArgs s_law) (defBody s_law) (defScope s_law) .none kV39 dc39 pm39 an39 cd39 ct39), sl39⟩) (c39 : PySem.W.codeIn K cd39 "law" = true) (k39 : PySem.W.keepIn K (.ref g39) = true)
  (m3_Plan : PySem.W.isFn K (.ref g14) = true)
  {t_ACROSS : Tok} (v_ACROSS : PySem.W.nsIn K mainGlobals "ACROSS" = some (some (.str "across" t_ACROSS)))
  {t_DOWN : Tok} (v_DOWN : PySem.W.nsIn K mainGlobals "DOWN" = some (some (.str "down" t_DOWN)))
  {tKINDS_0 tKINDS_1 : Tok} {g_KINDS : Addr} {od_KINDS : Option Addr} {n_KINDS : Nat} {sl_KINDS : Array (Option Value)} (v_KINDS : PySem.W.nsIn K mainGlobals "KINDS" = some (some (.ref g_KINDS))) (w_KINDS : K.lookup g_KINDS = some ⟨.type "tuple", od_KINDS, .seq #[.str "upright" tKINDS_0, .str "level" tKINDS_1] n_KINDS, sl_KINDS⟩)
  {t_MAX_BLOCKS : Tok} (v_MAX_BLOCKS : PySem.W.nsIn K mainGlobals "MAX_BLOCKS" = some (some (.int (64) t_MAX_BLOCKS)))
  {t_MAX_SIDE : Tok} (v_MAX_SIDE : PySem.W.nsIn K mainGlobals "MAX_SIDE" = some (some (.int (10 ^ 30) t_MAX_SIDE)))
  {t_UPRIGHT : Tok} (v_UPRIGHT : PySem.W.nsIn K mainGlobals "UPRIGHT" = some (some (.str "upright" t_UPRIGHT)))
  {tWAYS_0 tWAYS_1 : Tok} {g_WAYS : Addr} {od_WAYS : Option Addr} {n_WAYS : Nat} {sl_WAYS : Array (Option Value)} (v_WAYS : PySem.W.nsIn K mainGlobals "WAYS" = some (some (.ref g_WAYS))) (w_WAYS : K.lookup g_WAYS = some ⟨.type "tuple", od_WAYS, .seq #[.str "across" tWAYS_0, .str "down" tWAYS_1] n_WAYS, sl_WAYS⟩)
  (z_abs : PySem.W.nsIn K mainGlobals "abs" = some none)
  (z_all : PySem.W.nsIn K mainGlobals "all" = some none)
  (z_bool : PySem.W.nsIn K mainGlobals "bool" = some none)
  (z_enumerate : PySem.W.nsIn K mainGlobals "enumerate" = some none)
  (z_int : PySem.W.nsIn K mainGlobals "int" = some none)
  (z_isinstance : PySem.W.nsIn K mainGlobals "isinstance" = some none)
  (z_len : PySem.W.nsIn K mainGlobals "len" = some none)
  (z_max : PySem.W.nsIn K mainGlobals "max" = some none)
  (z_min : PySem.W.nsIn K mainGlobals "min" = some none)
  (z_range : PySem.W.nsIn K mainGlobals "range" = some none)
  (z_set : PySem.W.nsIn K mainGlobals "set" = some none)
  (z_sorted : PySem.W.nsIn K mainGlobals "sorted" = some none)
  (z_str : PySem.W.nsIn K mainGlobals "str" = some none)
  (z_sum : PySem.W.nsIn K mainGlobals "sum" = some none)
  (z_tuple : PySem.W.nsIn K mainGlobals "tuple" = some none)
  (z_zip : PySem.W.nsIn K mainGlobals "zip" = some none) :
  ∃ fd : FuncData, (∀ (s : Shared) (u : Value), BindsTo s fd ⟨[u], []⟩ [("script", u)]) ∧ ∀ (P : Program) (w : World) (base : Heap), FnOk P w K mg base (L2.CX P w) 10 fa fd ["script"] (spF K ⟨clsAt K ["Plan"], []⟩ 1 m_law) := by
  have e := PySem.W.mg_of KX G a39
  rw [hmg] at e
  cases e
  have e_Plan : gk_Plan = Ctx.cls (⟨clsAt K ["Plan"], []⟩ : Ctx) 0 := (clsAt_of (K := K) (names := ["Plan"]) (c := 0) rfl aC_Plan).symm
  have cl_Plan : L2.Cls K (Ctx.cls (⟨clsAt K ["Plan"], []⟩ : Ctx) 0) := e_Plan ▸ ⟨c1_Plan, c2_Plan, c3_Plan, c4_Plan⟩
  have f0 : Df K mg "is_integer" s_is_integer p_is_integer g0 _ := ⟨fun_mk l0 c0 k0, PySem.W.mg_of KX G a0, (fun_mk l0 c0 k0).binds fun _ _ _ _ _ _ us hl => match us, hl with | [_], _ => rfl⟩
  have f1 : Df K mg "is_from" s_is_from p_is_from g1 _ := ⟨fun_mk l1 c1 k1, PySem.W.mg_of KX G a1, (fun_mk l1 c1 k1).binds fun _ _ _ _ _ _ us hl => match us, hl with | [_, _, _], _ => rfl⟩
  have f2 : Df K mg "is_row" s_is_row p_is_row g2 _ := ⟨fun_mk l2 c2 k2, PySem.W.mg_of KX G a2, (fun_mk l2 c2 k2).binds fun _ _ _ _ _ _ us hl => match us, hl with | [_, _], _ => rfl⟩
  have f3 : Df K mg "is_word_of" s_is_word_of p_is_word_of g3 _ := ⟨fun_mk l3 c3 k3, PySem.W.mg_of KX G a3, (fun_mk l3 c3 k3).binds fun _ _ _ _ _ _ us hl => match us, hl with | [_, _], _ => rfl⟩
  have f4 : Df K mg "is_size" s_is_size p_is_size g4 _ := ⟨fun_mk l4 c4 k4, PySem.W.mg_of KX G a4, (fun_mk l4 c4 k4).binds fun _ _ _ _ _ _ us hl => match us, hl with | [_], _ => rfl⟩
  have f5 : Df K mg "exchanged_size" s_exchanged_size p_exchanged_size g5 _ := ⟨fun_mk l5 c5 k5, PySem.W.mg_of KX G a5, (fun_mk l5 c5 k5).binds fun _ _ _ _ _ _ us hl => match us, hl with | [_], _ => rfl⟩
  have f6 : Df K mg "other_way" s_other_way p_other_way g6 _ := ⟨fun_mk l6 c6 k6, PySem.W.mg_of KX G a6, (fun_mk l6 c6 k6).binds fun _ _ _ _ _ _ us hl => match us, hl with | [_], _ => rfl⟩
  have f7 : Df K mg "is_plain_line" s_is_plain_line p_is_plain_line g7 _ := ⟨fun_mk l7 c7 k7, PySem.W.mg_of KX G a7, (fun_mk l7 c7 k7).binds fun _ _ _ _ _ _ us hl => match us, hl with | [_, _], _ => rfl⟩
  have f8 : Df K mg "require_line" s_require_line p_require_line g8 _ := ⟨fun_mk l8 c8 k8, PySem.W.mg_of KX G a8, (fun_mk l8 c8 k8).binds fun _ _ _ _ _ _ us hl => match us, hl with | [_, _], _ => rfl⟩
  have f9 : Df K mg "is_block" s_is_block p_is_block g9 _ := ⟨fun_mk l9 c9 k9, PySem.W.mg_of KX G a9, (fun_mk l9 c9 k9).binds fun _ _ _ _ _ _ us hl => match us, hl with | [_, _], _ => rfl⟩
  have f10 : Df K mg "are_apart" s_are_apart p_are_apart g10 _ := ⟨fun_mk l10 c10 k10, PySem.W.mg_of KX G a10, (fun_mk l10 c10 k10).binds fun _ _ _ _ _ _ us hl => match us, hl with | [_, _], _ => rfl⟩
  have f11 : Df K mg "are_blocks" s_are_blocks p_are_blocks g11 _ := ⟨fun_mk l11 c11 k11, PySem.W.mg_of KX G a11, (fun_mk l11 c11 k11).binds fun _ _ _ _ _ _ us hl => match us, hl with | [_, _], _ => rfl⟩
  have f12 : Df K mg "exchanged_block" s_exchanged_block p_exchanged_block g12 _ := ⟨fun_mk l12 c12 k12, PySem.W.mg_of KX G a12, (fun_mk l12 c12 k12).binds fun _ _ _ _ _ _ us hl => match us, hl with | [_], _ => rfl⟩
  have f13 : Df K mg "many_between" s_many_between p_many_between g13 _ := ⟨fun_mk l13 c13 k13, PySem.W.mg_of KX G a13, (fun_mk l13 c13 k13).binds fun _ _ _ _ _ _ us hl => match us, hl with | [_, _, _, _], _ => rfl⟩
  have f25 : Df K mg "_law_urn" s__law_urn p__law_urn g25 _ := ⟨fun_mk l25 c25 k25, PySem.W.mg_of KX G a25, (fun_mk l25 c25 k25).binds fun _ _ _ _ _ _ us hl => match us, hl with | [_, _], _ => rfl⟩
  have f26 : Df K mg "_law_take" s__law_take p__law_take g26 _ := ⟨fun_mk l26 c26 k26, PySem.W.mg_of KX G a26, (fun_mk l26 c26 k26).binds fun _ _ _ _ _ _ us hl => match us, hl with | [_, _], _ => rfl⟩
  have f27 : Df K mg "_law_one" s__law_one p__law_one g27 _ := ⟨fun_mk l27 c27 k27, PySem.W.mg_of KX G a27, (fun_mk l27 c27 k27).binds fun _ _ _ _ _ _ us hl => match us, hl with | [_, _], _ => rfl⟩
  have f28 : Df K mg "_law_is_laid" s__law_is_laid p__law_is_laid g28 _ := ⟨fun_mk l28 c28 k28, PySem.W.mg_of KX G a28, (fun_mk l28 c28 k28).binds fun _ _ _ _ _ _ us hl => match us, hl with | [_], _ => rfl⟩
  have f29 : Df K mg "_law_remainder" s__law_remainder p__law_remainder g29 _ := ⟨fun_mk l29 c29 k29, PySem.W.mg_of KX G a29, (fun_mk l29 c29 k29).binds fun _ _ _ _ _ _ us hl => match us, hl with | [_, _], _ => rfl⟩
  have f30 : Df K mg "_law_great" s__law_great p__law_great g30 _ := ⟨fun_mk l30 c30 k30, PySem.W.mg_of KX G a30, (fun_mk l30 c30 k30).binds fun _ _ _ _ _ _ us hl => match us, hl with | [_], _ => rfl⟩
  have f31 : Df K mg "_law_cut" s__law_cut p__law_cut g31 _ := ⟨fun_mk l31 c31 k31, PySem.W.mg_of KX G a31, (fun_mk l31 c31 k31).binds fun _ _ _ _ _ _ us hl => match us, hl with | [_, _, _], _ => rfl⟩
  have f32 : Df K mg "_law_blocks" s__law_blocks p__law_blocks g32 _ := ⟨fun_mk l32 c32 k32, PySem.W.mg_of KX G a32, (fun_mk l32 c32 k32).binds fun _ _ _ _ _ _ us hl => match us, hl with | [_, _, _], _ => rfl⟩
  have f33 : Df K mg "_law_count" s__law_count p__law_count g33 _ := ⟨fun_mk l33 c33 k33, PySem.W.mg_of KX G a33, (fun_mk l33 c33 k33).binds fun _ _ _ _ _ _ us hl => match us, hl with | [_, _, _], _ => rfl⟩
  have f34 : Df K mg "_law_ends" s__law_ends p__law_ends g34 _ := ⟨fun_mk l34 c34 k34, PySem.W.mg_of KX G a34, (fun_mk l34 c34 k34).binds fun _ _ _ _ _ _ us hl => match us, hl with | [_, _, _], _ => rfl⟩
  have f35 : Df K mg "_law_many_of" s__law_many_of p__law_many_of g35 _ := ⟨fun_mk l35 c35 k35, PySem.W.mg_of KX G a35, (fun_mk l35 c35 k35).binds fun _ _ _ _ _ _ us hl => match us, hl with | [_, _, _, _], _ => rfl⟩
  have f36 : Df K mg "_law_seams_between" s__law_seams_between p__law_seams_between g36 _ := ⟨fun_mk l36 c36 k36, PySem.W.mg_of KX G a36, (fun_mk l36 c36 k36).binds fun _ _ _ _ _ _ us hl => match us, hl with | [_, _, _, _, _], _ => rfl⟩
  have f37 : Df K mg "_law_many_seams" s__law_many_seams p__law_many_seams g37 _ := ⟨fun_mk l37 c37 k37, PySem.W.mg_of KX G a37, (fun_mk l37 c37 k37).binds fun _ _ _ _ _ _ us hl => match us, hl with | [_, _], _ => rfl⟩
  have f38 : Df K mg "_law_right" s__law_right p__law_right g38 _ := ⟨fun_mk l38 c38 k38, PySem.W.mg_of KX G a38, (fun_mk l38 c38 k38).binds fun _ _ _ _ _ _ us hl => match us, hl with | [_, _], _ => rfl⟩
  exact ⟨PySem.W.fnOf "law" "law" (defArgs s_law) (defBody s_law) (defScope s_law) .none kV39 dc39 pm39 an39 cd39 ct39, fun s u => .of_eq (by rfl), fun P w base => ok_law ⟨g0, _, f0, g1, _, f1, g2, _, f2, g3, _, f3, g4, _, f4, g5, _, f5, g6, _, f6, g7, _, f7, g8, _, f8, g9, _, f9, g10, _, f10, g11, _, f11, g12, _, f12, g13, _, f13, g14, _, fun_mk l14 c14 k14, fun us rest hl => match us, rest, hl with | [_, _], [], _ => rfl | [_, _], _ :: _, _ => rfl, g15, _, fun_mk l15 c15 k15, (fun_mk l15 c15 k15).binds fun _ _ _ _ _ _ us hl => match us, hl with | [_, _, _], _ => rfl, gp15, ⟨e_Plan ▸ a15, ⟨_, q15⟩, y15⟩, g16, _, fun_mk l16 c16 k16, (fun_mk l16 c16 k16).binds fun _ _ _ _ _ _ us hl => match us, hl with | [_, _], _ => rfl, ⟨e_Plan ▸ a16, y16, k16⟩, g17, _, fun_mk l17 c17 k17, (fun_mk l17 c17 k17).binds fun _ _ _ _ _ _ us hl => match us, hl with | [_, _, _], _ => rfl, ⟨e_Plan ▸ a17, y17, k17⟩, ⟨⟨e_Plan ▸ a17, y17, k17⟩, bg17, bt17, by decide, bf17⟩, g18, _, fun_mk l18 c18 k18, (fun_mk l18 c18 k18).binds fun _ _ _ _ _ _ us hl => match us, hl with | [_, _], _ => rfl, ⟨e_Plan ▸ a18, y18, k18⟩, g19, _, fun_mk l19 c19 k19, (fun_mk l19 c19 k19).binds fun _ _ _ _ _ _ us hl => match us, hl with | [_, _, _, _], _ => rfl, ⟨e_Plan ▸ a19, y19, k19⟩, g20, _, fun_mk l20 c20 k20, (fun_mk l20 c20 k20).binds fun _ _ _ _ _ _ us hl => match us, hl with | [_, _, _, _], _ => rfl, ⟨e_Plan ▸ a20, y20, k20⟩, g21, _, fun_mk l21 c21 k21, (fun_mk l21 c21 k21).binds fun _ _ _ _ _ _ us hl => match us, hl with | [_, _], _ => rfl, ⟨e_Plan ▸ a21, y21, k21⟩, g22, _, fun_mk l22 c22 k22, (fun_mk l22 c22 k22).binds fun _ _ _ _ _ _ us hl => match us, hl with | [_, _], _ => rfl, ⟨e_Plan ▸ a22, y22, k22⟩, g23, _, fun_mk l23 c23 k23, (fun_mk l23 c23 k23).binds fun _ _ _ _ _ _ us hl => match us, hl with | [_], _ => rfl, ⟨e_Plan ▸ a23, y23, k23⟩, g24, _, fun_mk l24 c24 k24, (fun_mk l24 c24 k24).binds fun _ _ _ _ _ _ us hl => match us, hl with | [_], _ => rfl, ⟨e_Plan ▸ a24, y24, k24⟩, g25, _, f25, g26, _, f26, g27, _, f27, g28, _, f28, g29, _, f29, g30, _, f30, g31, _, f31, g32, _, f32, g33, _, f33, g34, _, f34, g35, _, f35, g36, _, f36, g37, _, f37, g38, _, f38, e_Plan ▸ PySem.W.mg_of KX G aC_Plan, ⟨e_Plan ▸ r1_Plan, e_Plan ▸ r2_Plan⟩, ⟨cl_Plan, e_Plan ▸ i1_Plan, i2_Plan, i3_Plan, e_Plan ▸ i4_Plan, e_Plan ▸ i5_Plan⟩, e_Plan ▸ i6_Plan, e_Plan ▸ i7_Plan, e_Plan ▸ i8_Plan, cl_Plan, ⟨e_Plan ▸ m1_Plan, e_Plan ▸ a14, m3_Plan, e_Plan ▸ m4_Plan⟩, fun c hc => by simp only [List.mem_cons, List.not_mem_nil, or_false] at hc; rcases hc with rfl <;> first | exact ⟨cl_Plan, e_Plan ▸ n_own_blocks_Plan⟩, fun c hc => by simp only [List.mem_cons, List.not_mem_nil, or_false] at hc; rcases hc with rfl <;> first | exact ⟨cl_Plan, e_Plan ▸ n_own_known_Plan⟩, fun c hc => by simp only [List.mem_cons, List.not_mem_nil, or_false] at hc; rcases hc with rfl <;> first | exact ⟨cl_Plan, e_Plan ▸ n_own_size_Plan⟩, _, PySem.W.mg_of KX G v_ACROSS, _, PySem.W.mg_of KX G v_DOWN, ⟨_, _, _, _, [.str "upright", .str "level"], PySem.W.mg_of KX G v_KINDS, w_KINDS, rfl, rfl, small (by simp), .cons ⟨_, rfl⟩ (.cons ⟨_, rfl⟩ (.nil)), fun _ _ => .cons str_rep (.cons str_rep (.nil))⟩, _, PySem.W.mg_of KX G v_MAX_BLOCKS, _, PySem.W.mg_of KX G v_MAX_SIDE, _, PySem.W.mg_of KX G v_UPRIGHT, ⟨_, _, _, _, [.str "across", .str "down"], PySem.W.mg_of KX G v_WAYS, w_WAYS, rfl, rfl, small (by simp), .cons ⟨_, rfl⟩ (.cons ⟨_, rfl⟩ (.nil)), fun _ _ => .cons str_rep (.cons str_rep (.nil))⟩, PySem.W.mg_none_of KX G z_abs, PySem.W.mg_none_of KX G z_all, PySem.W.mg_none_of KX G z_bool, PySem.W.mg_none_of KX G z_enumerate, PySem.W.mg_none_of KX G z_int, PySem.W.mg_none_of KX G z_isinstance, PySem.W.mg_none_of KX G z_len, PySem.W.mg_none_of KX G z_max, PySem.W.mg_none_of KX G z_min, PySem.W.mg_none_of KX G z_range, PySem.W.mg_none_of KX G z_set, PySem.W.mg_none_of KX G z_sorted, PySem.W.mg_none_of KX G z_str, PySem.W.mg_none_of KX G z_sum, PySem.W.mg_none_of KX G z_tuple, PySem.W.mg_none_of KX G z_zip⟩ (fun_mk l39 c39 k39)⟩
end
end Bf
namespace Bf
open PySem PySem.Spec PyProof.Rows L2
variable {w : List Cell} {Q : SV → List Cell → Prop}
@[simp] theorem is_integer_spec {x : D} (h : Known x) (hw : Flat w) : FT m_is_integer [.d x] w Q ↔ Q (.d (.bl (isIntD x))) w := by
  unfold m_is_integer
  rw [FT_fn]
  simp [b_is_integer, h]
  cases x <;> simp [isIntD, isBlD, hw]
def inR (x : D) (a b : Int) : Bool := match x with
  | .int i => decide (a ≤ i) && decide (i ≤ b)
  | _ => false
@[simp] theorem is_from_spec {x : D} {a b : Int} (h : Known x) (hw : Flat w) : FT m_is_from [.d x, .d (.int a), .d (.int b)] w Q ↔ Q (.d (.bl (inR x a b))) w := by
  unfold m_is_from
  rw [FT_fn]
  cases x with
  | int i => by_cases h1 : a ≤ i <;> simp [b_is_from, h, hw, isIntD, inR, h1]
  | _ => simp [b_is_from, h, hw, isIntD, inR]
def rowD (x : D) (n : Int) : Bool := match x with
  | .tup xs => decide ((xs.length : Int) = n)
  | _ => false
@[simp] theorem is_row_spec {x : D} {n : Int} (h : Known x) (hw : Flat w) : FT m_is_row [.d x, .d (.int n)] w Q ↔ Q (.d (.bl (rowD x n))) w := by
  unfold m_is_row
  rw [FT_fn]
  cases x <;> simp [b_is_row, h, isTupD, hw, rowD]
/-- what the law's values are: known, tuples of known ones -/
def Bas (x : D) : Prop := Known x ∧ match x with
  | .tup xs => ∀ y ∈ xs, Known y
  | _ => True
def sizeD (M : Int) : D → Bool
  | .tup [a, b, c] => inR a 1 M && inR b 1 M && inR c 2 M
  | _ => false
theorem sizeD_no {xs : List D} {M : Int} (h : xs.length ≠ 3) : sizeD M (.tup xs) = false := by
  match xs with
  | [] => rfl
  | [_] => rfl
  | [_, _] => rfl
  | [_, _, _] => exact absurd rfl h
  | _ :: _ :: _ :: _ :: _ => rfl
theorem is_size_spec {x : D} (h : Bas x) (hw : Flat w) : FT m_is_size [.d x] w Q ↔ Q (.d (.bl (sizeD (10 ^ 30) x))) w := by
  unfold m_is_size b_is_size
  rw [FT_fn]
  obtain ⟨h, h2⟩ := h
  generalize (10 : Int) ^ 30 = M
  cases x with
  | tup xs =>
    by_cases hl : xs.length = 3
    · match xs, hl, h2 with
      | [a, b, c], _, h2 =>
        have ha := h2 a (by simp)
        have hb := h2 b (by simp)
        have hc := h2 c (by simp)
        cases h3 : inR a 1 M <;> cases h4 : inR b 1 M <;> simp [h, hw, rowD, ha, hb, hc, h3, h4, sizeD]
    · have : ¬ ((xs.length : Int) = 3) := by omega
      simp [h, hw, rowD, sizeD_no hl, this]
  | _ => simp [h, hw, rowD, sizeD]
theorem pow30 : powD (.int 10) (.int 30) = some (.int (10 ^ 30)) := powD_int (by decide +kernel)
theorem take_spec {t : Int} (h0 : 0 < t) (h1 : t ≤ 10 ^ 40) : Dies m__law_take [.d (.int t)] fun y => ∃ r : Int, y = .int r ∧ 0 ≤ r ∧ r < t := by
  intro k w hw
  unfold m__law_take b__law_take
  rw [FT_fn]
  obtain ⟨a, b, c, hk⟩ := hw.ex
  have hr : ∀ g, rd ⟨g, w⟩ (.cell k) = some (.lst [.int a, .int b, .int c]) := fun g => rd_lst' hk
  have hl := hw.lt
  have hd : ∀ a, divD (.int a) (.int t) = some (.int (a / t)) := fun a => divD_int ⟨h0, log_ok h1 h0⟩
  by_cases ha : 0 < a
  · simp [hr, ha, h0, hd, setL, hk]
    exact die_end (Upd.set hw) hw ⟨_, rfl, Int.emod_nonneg _ (by omega), Int.emod_lt_of_pos _ h0⟩
  · simp [hr, ha, h0, hd, setL, hk, rd_set hl]
    have em : ∀ (z : Int), 0 ≤ z % 2305843009213693951 ∧ z % 2305843009213693951 < 2305843009213693951 := fun z => ⟨Int.emod_nonneg _ (by decide), Int.emod_lt_of_pos _ (by decide)⟩
    have hm : ((b + 1299709 * (c + 1)) % 2305843009213693951).natAbs < 2 ^ 64 := by
      have := em (b + 1299709 * (c + 1))
      omega
    generalize (b + 1299709 * (c + 1)) % 2305843009213693951 = one at hm ⊢
    have h61 : ∀ a, divD (.int a) (.int 61) = some (.int (a / 61)) := fun a => divD_int ⟨by decide, by decide +kernel⟩
    rw [mulD_left hm]
    simp
    have hm2 : ((one * one + 7919 * (c + 1)) % 1000000000039).natAbs < 2 ^ 64 := by
      have h2 := Int.emod_nonneg (one * one + 7919 * (c + 1)) (b := 1000000000039) (by decide)
      have h3 := Int.emod_lt_of_pos (one * one + 7919 * (c + 1)) (b := 1000000000039) (by decide)
      omega
    generalize (one * one + 7919 * (c + 1)) % 1000000000039 = two at hm2 ⊢
    rw [mulD_left hm2]
    simp [h61, h0]
    exact die_end (Upd.set hw) hw ⟨_, rfl, Int.emod_nonneg _ (by omega), Int.emod_lt_of_pos _ h0⟩
/-- drawing one of them -/
theorem one_spec {y : D} {xs : List D} (hy : ∀ i : Int, idxD y (.int i) = atI xs i) (hl : lenB [y] = some (.int xs.length)) (h0 : xs ≠ []) (h1 : (xs.length : Int) ≤ 10 ^ 40) : Dies m__law_one [.d y] fun d => d ∈ xs := by
  intro k w hw
  unfold m__law_one b__law_one
  rw [FT_fn]
  have hp : (0 : Int) < xs.length := by
    have := List.length_pos_iff.mpr h0
    omega
  simp [hl]
  refine (take_spec hp h1 k w hw).imp fun x w' ⟨⟨hu, hn⟩, z, e, r, e2, h2, h3⟩ => ?_
  subst e e2
  obtain ⟨d, hd, e⟩ := atI_mem h2 h3
  simp [hy, e]
  exact die_end hu hw hd
theorem small40 {n : Nat} (h : n ≤ 100000) : (n : Int) ≤ 10 ^ 40 := by
  have e : (10 : Int) ^ 40 = 10000000000000000000000000000000000000000 := by decide
  rw [e]
  omega
theorem one_lst {xs : List D} (h0 : xs ≠ []) (h1 : xs.length ≤ 100000) : Dies m__law_one [.d (.lst xs)] fun d => d ∈ xs := one_spec (fun _ => rfl) rfl h0 (small40 h1)
/-! ### the weights -/
/-- a size -/
structure Sz (a b L : Int) : Prop where
  a0 : 1 ≤ a
  a1 : a ≤ 1000000000000000000000000000000
  b0 : 1 ≤ b
  b1 : b ≤ 1000000000000000000000000000000
  l0 : 2 ≤ L
  l1 : L ≤ 1000000000000000000000000000000
theorem big40 : (10 : Nat) ^ 40 = 10000000000000000000000000000000000000000 := by decide
theorem Sz.size {a b L : Int} (h : Sz a b L) : sizeD (10 ^ 30) (.tup [.int a, .int b, .int L]) = true := by
  obtain ⟨h1, h2, h3, h4, h5, h6⟩ := h
  have e : (10 : Int) ^ 30 = 1000000000000000000000000000000 := by decide
  simp [sizeD, inR, h1, h2, h3, h4, h5, h6]
theorem law_laid_spec {a b L : Int} (h : Sz a b L) (hw : Flat w) : FT m__law_is_laid [.d (.tup [.int a, .int b, .int L])] w Q ↔ Q (.d (.bl (decide (a % L = 0) || decide (b % L = 0)))) w := by
  unfold m__law_is_laid
  rw [FT_fn]
  have hL : 0 < L := by have := h.l0; omega
  by_cases q : a % L = 0 <;> simp [b__law_is_laid, hL, hw, q]
end Bf
namespace Bf
open PySem PySem.Spec PyProof.Rows L2
variable {w : List Cell} {Q : SV → List Cell → Prop}
theorem rng_get {m i : Nat} {x : D} (h : ((List.range m).map fun (i : Nat) => D.int (0 + (i : Int)))[i]? = some x) : x = .int i ∧ i < m := by
  rw [List.getElem?_map] at h
  by_cases hi : i < m
  · rw [List.getElem?_range hi] at h
    simp only [Option.map_some, Option.some.injEq] at h
    subst h
    exact ⟨by rw [Int.zero_add], hi⟩
  · rw [List.getElem?_eq_none (by simpa using hi)] at h
    cases h
theorem rng_ok {i : Int} (h : 0 ≤ i) (h2 : i ≤ 100000) : rngOk i = true := by
  unfold rngOk
  rw [Bool.and_eq_true, decide_eq_true_iff, decide_eq_true_iff]
  omega
def smallL (L : Int) : Prop := L = 2 ∨ L = 3 ∨ L = 4 ∨ L = 7 ∨ L = 10
theorem great_spec : Dies m__law_great [] fun y => ∃ a b L : Int, y = .tup [.int a, .int b, .int L] ∧ Sz a b L ∧ (L ≤ 10 → smallL L) := by
  intro k w hw
  unfold m__law_great b__law_great
  rw [FT_fn]
  have big : (10 : Int) ^ 40 = 10000000000000000000000000000000000000000 := by decide
  have e30 : (10 : Int) ^ 30 = 1000000000000000000000000000000 := by decide
  have p30 : powD (.int 10) (.int 30) = some (.int 1000000000000000000000000000000) := by rw [← e30]; exact pow30
  have p9 : powD (.int 10) (.int 9) = some (.int 1000000000) := powD_int (by decide +kernel)
  have p20 : powD (.int 10) (.int 20) = some (.int 100000000000000000000) := powD_int (by decide +kernel)
  have p29 : powD (.int 10) (.int 29) = some (.int 100000000000000000000000000000) := powD_int (by decide +kernel)
  have p6 : powD (.int 10) (.int 6) = some (.int 1000000) := powD_int (by decide +kernel)
  obtain ⟨P1, hP1⟩ : ∃ P : PS → Prop, P = (fun s => ∃ (L : Int) (w1 : List Cell), (2 ≤ L ∧ L ≤ 1000000000000000000000000000000 ∧ (L ≤ 10 → smallL L)) ∧ Upd k w w1 ∧ s = ⟨[some (.cell k), some (.d (.int L)), none, none, none, none, none], w1⟩) := ⟨_, rfl⟩
  refine T_seq_of P1 ?_ fun s hs => ?_
  · simp [sizeLine_eq, p9, p20, p29]
    refine (one_lst (by simp) (by simp) k w hw).imp fun x w1 ⟨⟨hu1, hn1⟩, z, e, hz⟩ => ?_
    subst e
    have key : ∀ {xs : List D}, (∀ y ∈ xs, ∃ L : Int, y = .int L ∧ 2 ≤ L ∧ L ≤ 1000000000000000000000000000000 ∧ (L ≤ 10 → smallL L)) → z ∈ xs → ∃ L : Int, z = .int L ∧ 2 ≤ L ∧ L ≤ 1000000000000000000000000000000 ∧ (L ≤ 10 → smallL L) := fun h m => h z m
    obtain ⟨L, rfl, l1⟩ := key (by
      simp only [List.forall_mem_cons]
      refine ⟨?_, ?_, ?_, ?_, ?_, ?_, ?_, ?_, ?_, ?_, ?_, by simp⟩ <;> exact ⟨_, rfl, by decide, by decide, fun h => by unfold smallL; omega⟩) hz
    rw [hP1]
    exact ⟨L, w1, l1, hu1, rfl⟩
  rw [hP1] at hs
  obtain ⟨L, w1, ⟨l1, l2, l3⟩, hu1, e⟩ := hs
  subst e
  have hd : ∀ z, divD (.int z) (.int L) = some (.int (z / L)) := fun z => divD_int ⟨by omega, log_ok (by rw [big]; omega) (by omega)⟩
  have hd2 : ∀ z, divD (.int z) (.int 2) = some (.int (z / 2)) := fun z => divD_int ⟨by decide, by decide +kernel⟩
  have hd3 : ∀ z, divD (.int z) (.int 3) = some (.int (z / 3)) := fun z => divD_int ⟨by decide, by decide +kernel⟩
  have m0 : 0 ≤ 1000000000000000000000000000000 / L := Int.ediv_nonneg (by decide) (by omega)
  have m1 : 1000000000000000000000000000000 / L ≤ 1000000000000000000000000000000 := Int.ediv_le_self _ (by decide)
  obtain ⟨P2, hP2⟩ : ∃ P : PS → Prop, P = (fun s => ∃ (m : Int), (0 ≤ m ∧ m ≤ 1000000000000000000000000000000) ∧ s = ⟨[some (.cell k), some (.d (.int L)), some (.d (.int m)), none, none, none, none], w1⟩) := ⟨_, rfl⟩
  refine T_seq_of P2 ?_ fun s hs => ?_
  · simp [p30, hd]
    rw [hP2]
    exact ⟨_, ⟨m0, m1⟩, rfl⟩
  rw [hP2] at hs
  obtain ⟨m, ⟨m2, m3⟩, e⟩ := hs
  subst e
  clear m0 m1
  obtain ⟨P3, hP3⟩ : ∃ P : PS → Prop, P = (fun s => s = ⟨[some (.cell k), some (.d (.int L)), some (.d (.int m)), some (.cell w1.length), none, none, none], w1 ++ [.lst []]⟩) := ⟨_, rfl⟩
  refine T_seq_of P3 ?_ fun s hs => ?_
  · simp
    rw [hP3]
  rw [hP3] at hs
  subst hs
  obtain ⟨P4, hP4⟩ : ∃ P : Nat → PS → Prop, P = (fun i s => ∃ (o4 o5 o6 : Option SV) (v : List Cell) (ns : List Int), Dat' o4 ∧ Dat' o5 ∧ Dat' o6 ∧ Upd k w v ∧ v.length = w1.length + 1 ∧ v[w1.length]? = some (.lst (ns.map .int)) ∧ ns.length = i ∧ (∀ a ∈ ns, 1 ≤ a ∧ a ≤ 1000000000000000000000000000000) ∧ s = ⟨[some (.cell k), some (.d (.int L)), some (.d (.int m)), some (.cell w1.length), o4, o5, o6], v⟩) := ⟨_, rfl⟩
  refine T_seq_of (P4 2) ?_ fun s hs => ?_
  · rw [T_sFor]
    simp [rng_ok]
    refine T_for (it := .rng 0 2) (xs := (List.range 2).map fun (i : Nat) => .int (0 + i)) rfl (Inv := P4) (fun i x s hx hI => ?_) (fun s hI => ⟨rfl, hI⟩) _ 0 _ (by simp [It'.fuel]) ?_
    · rw [hP4] at hI
      obtain ⟨o4, o5, o6, v, ns, d4, d5, d6, hu, hn, hc, hl, hb, rfl⟩ := hI
      obtain ⟨rfl, hi⟩ := rng_get hx
      have hk1 : w1.length ≠ k := by have := hu1.ok.lt; omega
      simp [sizeLine_eq, p6, hd3]
      refine (one_lst (by simp) (by simp) k v hu.ok).imp fun x w2 ⟨⟨hu2, hn2⟩, z, e, hz⟩ => ?_
      subst e
      have key : ∀ {xs : List D}, (∀ y ∈ xs, ∃ t : Int, y = .int t ∧ -1 ≤ t ∧ t ≤ 1000000000000000000000000000000) → z ∈ xs → ∃ t : Int, z = .int t ∧ -1 ≤ t ∧ t ≤ 1000000000000000000000000000000 := fun h m => h z m
      obtain ⟨t, rfl, t1, t2⟩ := key (by
        simp only [List.forall_mem_cons]
        refine ⟨?_, ?_, ?_, ?_, ?_, ?_, ?_, by simp⟩ <;> exact ⟨_, rfl, by omega, by omega⟩) hz
      simp [sizeLine_eq, hd2]
      refine (one_lst (by simp) (by simp) k w2 hu2.ok).imp fun x w3 ⟨⟨hu3, hn3⟩, z, e, hz⟩ => ?_
      subst e
      have key : ∀ {xs : List D}, (∀ y ∈ xs, ∃ t : Int, y = .int t ∧ 0 ≤ t ∧ t ≤ 1000000000000000000000000000000) → z ∈ xs → ∃ t : Int, z = .int t ∧ 0 ≤ t ∧ t ≤ 1000000000000000000000000000000 := fun h m => h z m
      obtain ⟨q, rfl, q1, q2⟩ := key (by
        simp only [List.forall_mem_cons]
        refine ⟨?_, ?_, ?_, ?_, ?_, by simp⟩ <;> exact ⟨_, rfl, by omega, by omega⟩) hz
      have hc2 : w3[w1.length]? = some (.lst (ns.map .int)) := by
        rw [hu3.same _ (by omega) hk1, hu2.same _ (by omega) hk1]
        exact hc
      have hmul : mulD (.int (if m < t then m else t)) (.int L) = some (.int ((if m < t then m else t) * L)) := mulD_int (mulOk_le (by rw [big40]; split <;> omega) (by rw [big40]; omega))
      simp [hc2, p30, hmul]
      generalize hside : (if 1 < (if (if m < t then m else t) * L + q < 1000000000000000000000000000000 then (if m < t then m else t) * L + q else 1000000000000000000000000000000) then (if (if m < t then m else t) * L + q < 1000000000000000000000000000000 then (if m < t then m else t) * L + q else 1000000000000000000000000000000) else 1) = side
      have hs : 1 ≤ side ∧ side ≤ 1000000000000000000000000000000 := by
        rw [← hside]
        generalize (if m < t then m else t) * L + q = z
        split <;> split <;> omega
      have ha : appM (ns.map D.int) [.int side] = some ((ns ++ [side]).map D.int, .non) := by
        show (if (ns.map D.int).length < sizeLine then some (ns.map D.int ++ [.int side], D.non) else none) = _
        rw [if_pos (by rw [List.length_map, sizeLine_eq]; omega), List.map_append]
        rfl
      rw [ha]
      have hu' := (hu.trans hu2).trans hu3
      have hk := hw.lt
      have hlen := hu1.len
      have hs4 : Upd k w (w3.set w1.length (.lst ((ns ++ [side]).map .int))) := hu'.set' hlen hk rfl
      refine ⟨_, Flat.trunc hs4.ok.flat _, ?_⟩
      rw [hP4]
      refine ⟨some (.d (.int i)), some (.d (.int t)), some (.d (.int q)), _, ns ++ [side], .inr ⟨_, rfl⟩, .inr ⟨_, rfl⟩, .inr ⟨_, rfl⟩, hs4, by simp; omega, ?_, by simp [hl], ?_, ?_⟩
      · rw [List.getElem?_set_self (by omega)]
      · intro a ha'
        rcases List.mem_append.mp ha' with ha' | ha'
        · exact hb a ha'
        · rw [List.mem_singleton] at ha'
          subst ha'
          exact hs
      · have e1 : dropG (w1.length + 1) (some (.cell w1.length)) = some (.cell w1.length) := dropG_lt (by omega)
        have e2 : dropG (w1.length + 1) (some (.cell k)) = some (.cell k) := dropG_lt (by omega)
        simp [e1, e2]
        rw [List.take_of_length_le (by simp; omega)]
    · rw [hP4]
      exact ⟨none, none, none, _, [], .inl rfl, .inl rfl, .inl rfl, hu1.trans (hu1.ok.append_upd (by simp)), by simp, by simp, rfl, by simp, rfl⟩
  rw [hP4] at hs
  obtain ⟨o4, o5, o6, v, ns, d4, d5, d6, hu, hn, hc, hl, hb, rfl⟩ := hs
  match ns, hl, hb, hc with
  | [a, b], _, hb, hc =>
    have ha := hb a (by simp)
    have hb := hb b (by simp)
    have hr : ∀ g, rd ⟨g, v⟩ (.cell w1.length) = some (.lst [.int a, .int b]) := fun g => rd_lst' hc
    simp [hr, sizeLine_eq]
    exact die_end hu hw ⟨a, b, L, rfl, ⟨ha.1, ha.2, hb.1, hb.2, l1, l2⟩, l3⟩
end Bf
namespace Bf
open PySem PySem.Spec PyProof.Rows L2
variable {w : List Cell} {Q : SV → List Cell → Prop}
/-! ### what the size's counts say, in numbers -/
def nd (o L : Int) : Int := if 0 < o % L then o % L else L
end Bf
namespace Bf
open PySem PySem.Spec PyProof.Rows L2
variable {w : List Cell} {Q : SV → List Cell → Prop}
/-! ### rows of five -/
section
variable {α : Type} {a b c d e : α}
@[simp] theorem at5_0 : atI [a, b, c, d, e] 0 = some a := rfl
@[simp] theorem at5_1 : atI [a, b, c, d, e] 1 = some b := rfl
@[simp] theorem at5_2 : atI [a, b, c, d, e] 2 = some c := rfl
@[simp] theorem at5_3 : atI [a, b, c, d, e] 3 = some d := rfl
@[simp] theorem at5_4 : atI [a, b, c, d, e] 4 = some e := rfl
end
@[simp ↓] theorem T_hTup5 {g1 g2 g3 g4 g5 : MG} {a b c d e : D} {s : PS} {Q : Unit → PS → Prop} : T (hTup [g1, g2, g3, g4, g5] (.d (.tup [a, b, c, d, e])) s) Q ↔ T (g1 (.d a) s) fun _ s => T (g2 (.d b) s) fun _ s => T (g3 (.d c) s) fun _ s => T (g4 (.d d) s) fun _ s => T (g5 (.d e) s) Q := by
  unfold hTup
  simp only [rd_d]
  rw [if_pos (show [a, b, c, d, e].length = [g1, g2, g3, g4, g5].length from rfl)]
  unfold hAll
  rw [T_bind]
  refine iff_of_eq (congrArg (T _) (funext fun _ => funext fun s => ?_))
  unfold hAll
  rw [T_bind]
  refine congrArg (T _) (funext fun _ => funext fun s => ?_)
  unfold hAll
  rw [T_bind]
  refine congrArg (T _) (funext fun _ => funext fun s => ?_)
  unfold hAll
  rw [T_bind]
  refine congrArg (T _) (funext fun _ => funext fun s => ?_)
  unfold hAll
  rw [T_bind]
  refine congrArg (T _) (funext fun u => funext fun s => ?_)
  unfold hAll
  rw [T_ok]
/-! ### blocks -/
theorem sum_perm {l m : List Int} (h : l.Perm m) : l.sum = m.sum := by
  induction h with
  | nil => rfl
  | cons _ _ ih => rw [List.sum_cons, List.sum_cons, ih]
  | swap => simp only [List.sum_cons]; omega
  | trans _ _ h1 h2 => rw [h1, h2]
def wayS (u : Bool) : Str := if u = true then "across" else "down"
structure Blk where
  x : Int
  y : Int
  w : Int
  h : Int
  u : Bool
def blkD (p : Blk) : D := .tup [.int p.x, .int p.y, .int p.w, .int p.h, .str (wayS p.u)]
def unI : D → Int
  | .int i => i
  | _ => 0
def unU : D → Bool
  | .str s => s == "across"
  | _ => false
def unBlk : D → Blk
  | .tup [a, b, c, d, e] => ⟨unI a, unI b, unI c, unI d, unU e⟩
  | _ => ⟨0, 0, 0, 0, true⟩
theorem unBlk_d (p : Blk) : unBlk (blkD p) = p := by
  obtain ⟨x, y, w, h, u⟩ := p
  cases u <;> rfl
def blksD (bl : List Blk) : List D := bl.map blkD
theorem blks_len (bl : List Blk) : (blksD bl).length = bl.length := by unfold blksD; rw [List.length_map]
structure InB (a b L : Int) (p : Blk) : Prop where
  x0 : 0 ≤ p.x
  y0 : 0 ≤ p.y
  w0 : 1 ≤ p.w
  h0 : 1 ≤ p.h
  xw : p.x + p.w ≤ a
  yh : p.y + p.h ≤ b
  dv : (if p.u = true then p.w else p.h) % L = 0
def ApB (p q : Blk) : Prop := p.x + p.w ≤ q.x ∨ q.x + q.w ≤ p.x ∨ p.y + p.h ≤ q.y ∨ q.y + q.h ≤ p.y
theorem ApB.symm {p q : Blk} (h : ApB p q) : ApB q p := by
  unfold ApB at *
  omega
structure Blks (a b L : Int) (bl : List Blk) : Prop where
  len : bl.length ≤ 64
  inb : ∀ p ∈ bl, InB a b L p
  area : (bl.map fun p => p.w * p.h).sum = a * b
  ap : bl.Pairwise ApB
theorem Blks.perm {a b L : Int} {bl cl : List Blk} (h : Blks a b L bl) (hp : cl.Perm bl) : Blks a b L cl :=
  ⟨by rw [hp.length_eq]; exact h.len, fun p m => h.inb p (hp.mem_iff.mp m), by rw [sum_perm (hp.map _)]; exact h.area, (List.Perm.pairwise_iff (fun q => ApB.symm q) hp.symm).mp h.ap⟩
def exBlk (p : Blk) : Blk := ⟨p.y, p.x, p.h, p.w, !p.u⟩
theorem InB.ex {a b L : Int} {p : Blk} (h : InB a b L p) : InB b a L (exBlk p) := by
  obtain ⟨h1, h2, h3, h4, h5, h6, h7⟩ := h
  refine ⟨h2, h1, h4, h3, h6, h5, ?_⟩
  unfold exBlk
  cases hu : p.u <;> rw [hu] at h7 <;> simpa [hu] using h7
theorem Blks.ex {a b L : Int} {bl : List Blk} (h : Blks a b L bl) : Blks b a L (bl.map exBlk) := by
  refine ⟨by rw [List.length_map]; exact h.len, fun p m => ?_, ?_, ?_⟩
  · obtain ⟨q, hq, rfl⟩ := List.mem_map.mp m
    exact (h.inb q hq).ex
  · rw [List.map_map, Int.mul_comm b a, ← h.area]
    congr 1
    refine List.map_congr_left fun p _ => ?_
    show p.h * p.w = p.w * p.h
    exact Int.mul_comm _ _
  · rw [List.pairwise_map]
    refine h.ap.imp fun q => ?_
    unfold ApB exBlk at *
    dsimp only
    omega
/-! ### what the program says of them -/
theorem word_way (u : Bool) : inD (.str (wayS u)) (.kup [.str "across", .str "down"]) = some (.bl true) := by cases u <;> rfl
theorem way_eq (u : Bool) : eqD (.str (wayS u)) (.str "across") = some (.bl u) := by cases u <;> rfl
theorem word_of_way {u : Bool} (hw : Flat w) : FT m_is_word_of [.d (.str (wayS u)), .d (.kup [.str "across", .str "down"])] w Q ↔ Q (.d (.bl true)) w := by
  refine FT_iff ?_
  unfold m_is_word_of b_is_word_of
  rw [FT_fn]
  have e := word_way u
  generalize wayS u = s at *
  simp [e, hw]
  rfl
theorem is_block_spec {a b L : Int} {p : Blk} (h : InB a b L p) (hL : 2 ≤ L) (hw : Flat w) : FT m_is_block [.d (.tup [.int a, .int b, .int L]), .d (blkD p)] w Q ↔ Q (.d (.bl true)) w := by
  refine FT_iff ?_
  obtain ⟨x, y, pw, ph, u⟩ := p
  obtain ⟨h1, h2, h3, h4, h5, h6, h7⟩ := h
  dsimp only at h1 h2 h3 h4 h5 h6 h7
  have i1 : inR (.int x) 0 (a - 1) = true := by unfold inR; simp; omega
  have i2 : inR (.int y) 0 (b - 1) = true := by unfold inR; simp; omega
  have i3 : inR (.int pw) 1 (a - x) = true := by unfold inR; simp; omega
  have i4 : inR (.int ph) 1 (b - y) = true := by unfold inR; simp; omega
  have ml : ∀ z : Int, modD (.int z) (.int L) = some (.int (z % L)) := fun z => if_pos (by omega)
  have we := way_eq u
  have ww := fun {Q} => word_of_way (u := u) (Q := Q) hw
  unfold m_is_block b_is_block blkD
  rw [FT_fn]
  dsimp only
  generalize wayS u = s at *
  cases u <;> simp at h7 <;> simp [ww, i1, i2, i3, i4, ml, we, h7, hw, rowD]
theorem apart_spec {p q : Blk} (h : ApB p q) (hw : Flat w) : FT m_are_apart [.d (blkD p), .d (blkD q)] w Q ↔ Q (.d (.bl true)) w := by
  refine FT_iff ?_
  obtain ⟨x, y, pw, ph, u⟩ := p
  obtain ⟨x', y', pw', ph', u'⟩ := q
  unfold ApB at h
  dsimp only at h
  unfold m_are_apart b_are_apart blkD
  rw [FT_fn]
  dsimp only
  generalize wayS u = s at *
  generalize wayS u' = s' at *
  by_cases c1 : x + pw ≤ x'
  · simp [c1, leD, hw]
  · by_cases c2 : x' + pw' ≤ x
    · simp [c1, c2, leD, hw]
    · by_cases c3 : y + ph ≤ y'
      · simp [c1, c2, c3, leD, hw]
      · have c4 : y' + ph' ≤ y := by omega
        simp [c1, c2, c3, c4, leD, hw]
end Bf
namespace Bf
open PySem PySem.Spec PyProof.Rows L2
variable {w : List Cell} {Q : SV → List Cell → Prop}
/-! ### blocks that are judged -/
theorem isum {xs : List D} {ns : List Int} (h : intsD xs = some ns) : sumX [.lst xs] = some (.int ns.sum) := by
  show sumB [.lst xs] = _
  unfold sumB
  dsimp only
  rw [h]
theorem intsD_map {α : Type} {xs : List α} {f : α → Int} : intsD (xs.map fun d => D.int (f d)) = some (xs.map f) := by
  induction xs with
  | nil => rfl
  | cons x xs ih =>
    rw [List.map_cons, intsD, ih]
    rfl
theorem two200 : (2 : Nat) ^ 200 = 1606938044258990275541962092341162602522202993782792835301376 := by decide
theorem mulD_mid {x y : Int} (hx : x.natAbs < 2 ^ 200) (hy : y.natAbs < 2 ^ 200) : mulD (.int x) (.int y) = some (.int (x * y)) := by
  show (if mulOk x y = true then some (D.int (x * y)) else none) = _
  rw [if_pos]
  unfold mulOk
  have h1 : x.natAbs.log2 ≤ 200 := by
    by_cases h0 : x.natAbs = 0
    · rw [h0]; decide
    · exact Nat.le_of_lt ((Nat.log2_lt h0).mpr hx)
  have h2 : y.natAbs.log2 ≤ 200 := by
    by_cases h0 : y.natAbs = 0
    · rw [h0]; decide
    · exact Nat.le_of_lt ((Nat.log2_lt h0).mpr hy)
  have : decide (x.natAbs.log2 + y.natAbs.log2 < 1000000) = true := decide_eq_true (by omega)
  rw [this, Bool.or_true]
theorem Sz.big {a b L : Int} (h : Sz a b L) : a ≤ 1000000000000000000000000000000 ∧ b ≤ 1000000000000000000000000000000 ∧ L ≤ 1000000000000000000000000000000 := by
  obtain ⟨h1, h2, h3, h4, h5, h6⟩ := h
  omega
theorem mul_big {x y : Int} (x0 : 0 ≤ x) (x1 : x ≤ 1000000000000000000000000000000) (y0 : 0 ≤ y) (y1 : y ≤ 1000000000000000000000000000000) : mulD (.int x) (.int y) = some (.int (x * y)) :=
  mulD_mid (by rw [two200]; omega) (by rw [two200]; omega)
theorem cut_from {α : Type} (xs : List α) (i : Nat) : cutD xs (some ((i : Int) + 1)) none = xs.drop (i + 1) := by
  unfold cutD
  rw [show ((i : Int) + 1) = ((i + 1 : Nat) : Int) by omega, HT.sIx_nat, HT.sIx_none]
  by_cases h : i + 1 ≤ xs.length
  · rw [Nat.min_eq_left h, List.take_of_length_le (by rw [List.length_drop]; omega)]
  · rw [List.drop_of_length_le (by omega), List.drop_of_length_le (by omega), List.take_nil]
def prodD (d : D) : Int := (unBlk d).w * (unBlk d).h
theorem prod_blk (p : Blk) : prodD (blkD p) = p.w * p.h := by unfold prodD; rw [unBlk_d]
def restD (bl : List Blk) (p : D × D) : List D := match p.1 with
  | .int i => (blksD bl).drop (i.toNat + 1)
  | _ => []
theorem num_mem {bl : List Blk} {p : D × D} (m : p ∈ numB (blksD bl)) : ∃ (i : Nat) (q : Blk), p = (.int (i : Int), blkD q) ∧ bl[i]? = some q := by
  obtain ⟨i, hi⟩ := List.getElem?_of_mem m
  rw [numB_at] at hi
  unfold blksD at hi
  rw [List.getElem?_map] at hi
  cases q : bl[i]? with
  | none => rw [q] at hi; cases hi
  | some b =>
    rw [q] at hi
    cases hi
    exact ⟨i, b, rfl, q⟩
theorem rest_ap {a b L : Int} {bl : List Blk} (h : Blks a b L bl) {i : Nat} {q : Blk} (hq : bl[i]? = some q) : ∀ r ∈ bl.drop (i + 1), ApB q r := fun r hr => by
  have hp := h.ap
  have hi := (List.getElem?_eq_some_iff.mp hq).1
  have e : bl.drop i = q :: bl.drop (i + 1) := by
    rw [List.drop_eq_getElem_cons hi, (List.getElem?_eq_some_iff.mp hq).2]
  have := hp.drop (i := i)
  rw [e] at this
  exact (List.pairwise_cons.mp this).1 r hr
theorem flat_small {bl : List Blk} (h : bl.length ≤ 64) : ((numB (blksD bl)).flatMap fun x => (restD bl x).map fun _ => D.bl true).length ≤ 4096 := by
  have key : ∀ (l : List (D × D)), (∀ x ∈ l, x ∈ numB (blksD bl)) → (l.flatMap fun x => (restD bl x).map fun _ => D.bl true).length ≤ l.length * 64 := by
    intro l
    induction l with
    | nil => intro _; simp
    | cons x l ih =>
      intro hm
      have := ih fun y my => hm y (List.mem_cons_of_mem _ my)
      obtain ⟨i, q, rfl, _⟩ := num_mem (hm x (by simp))
      have e : (restD bl (.int (i : Int), blkD q)).length ≤ 64 := by
        show ((blksD bl).drop _).length ≤ 64
        rw [List.length_drop, blks_len]
        omega
      rw [List.flatMap_cons, List.length_append, List.length_map, List.length_cons]
      omega
  have := key _ fun x m => m
  rw [numB_len, blks_len] at this
  omega
theorem flat_true {l : List (D × D)} {ys : D × D → List D} : (l.flatMap fun x => (ys x).map fun _ => D.bl true) = (l.flatMap ys).map fun d => D.bl ((fun _ => true) d) := by
  rw [List.map_flatMap]
theorem are_blocks_spec {a b L : Int} {bl : List Blk} (hs : Sz a b L) (h : Blks a b L bl) (hw : Flat w) : FT m_are_blocks [.d (.tup [.int a, .int b, .int L]), .d (.tup (blksD bl))] w Q ↔ Q (.d (.bl true)) w := by
  refine FT_iff ?_
  have l0 := hs.l0
  have a0 := hs.a0
  have b0 := hs.b0
  obtain ⟨a9, b9, l9⟩ := hs.big
  have hlen := h.len
  have hbl := blks_len bl
  have n64 : ¬ (64 < (bl.length : Int)) := by omega
  unfold m_are_blocks b_are_blocks
  rw [FT_fn]
  generalize hg : ([SV.d (.tup [.int a, .int b, .int L]), .d (.tup (blksD bl))].map some ++ List.replicate (7 - [SV.d (.tup [.int a, .int b, .int L]), .d (.tup (blksD bl))].length) none : List (Option SV)) = g
  have hg : g = [some (.d (.tup [.int a, .int b, .int L])), some (.d (.tup (blksD bl))), none, none, none, none, none] := hg.symm
  have hsl : ∀ n, Slots n g := fun n k hk => by
    rw [hg] at hk
    simp at hk
  refine T_seq_of (fun s => s = ⟨g, w ++ [.gone]⟩) ?_ fun s e => ?_
  · subst hg
    simp [hbl, n64]
    refine T_flc_map (it := .seq (blksD bl)) (xs := blksD bl) (p := fun _ => true) (f := fun _ => .bl true) ?_ rfl rfl (hsl _) hw ?_ ?_ ?_
    · simp
    · rw [hbl, sizeLine_eq]; omega
    · intro x hx v hv
      obtain ⟨p, hp', rfl⟩ := List.mem_map.mp hx
      simp
      rw [is_block_spec (h.inb p hp') l0 (by simp [hw, hv])]
      simp
    · have e : ((blksD bl).filter (fun _ => true)).map (fun _ => D.bl true) = (blksD bl).map fun d => D.bl ((fun _ => true) d) := by rw [List.filter_eq_self.mpr (fun _ _ => rfl)]
      rw [e]
      simp
  subst e
  have fw : Flat (w ++ [Cell.gone]) := hw.append (Flat.one rfl)
  refine T_seq_of (fun s => s = ⟨g, w ++ [.gone] ++ [.gone]⟩) ?_ fun s e => ?_
  · have m1 := mul_big (x := a) (y := b) (by omega) a9 (by omega) b9
    subst hg
    simp only [T_sIf, T_cVal, T_op, T_B, T_cons, T_frz]
    refine T_flc_map (it := .seq (blksD bl)) (xs := blksD bl) (p := fun _ => true) (f := fun d => .int (prodD d)) ?_ rfl rfl (hsl _) fw ?_ ?_ ?_
    · simp
    · rw [hbl, sizeLine_eq]; omega
    · intro x hx v hv
      obtain ⟨p, hp', rfl⟩ := List.mem_map.mp hx
      have ib := h.inb p hp'
      obtain ⟨i1, i2, i3, i4, i5, i6, i7⟩ := ib
      have m2 := mul_big (x := p.w) (y := p.h) (by omega) (by omega) (by omega) (by omega)
      rw [prod_blk]
      unfold blkD
      simp [m2]
    · have e : ((blksD bl).filter (fun _ => true)).map (fun d => D.int (prodD d)) = bl.map fun p => D.int (p.w * p.h) := by
        rw [List.filter_eq_self.mpr (fun _ _ => rfl)]
        unfold blksD
        rw [List.map_map]
        refine List.map_congr_left fun p _ => ?_
        show D.int (prodD (blkD p)) = _
        rw [prod_blk]
      have sm := isum (intsD_map (xs := bl) (f := fun p : Blk => p.w * p.h))
      rw [h.area] at sm
      have ne : neD (.int (a * b)) (.int (a * b)) = some (.bl false) := by
        show some (D.bl _) = _
        simp [D.eqv, PyData.eqv, D.py]
      rw [e]
      generalize (bl.map fun p => D.int (p.w * p.h)) = XS at *
      simp [sm, m1, ne]
  subst e
  have fw2 : Flat (w ++ [Cell.gone] ++ [Cell.gone]) := fw.append (Flat.one rfl)
  subst hg
  simp only [T_ret, T_B, T_cons, T_frz]
  refine T_flc2P (it := .prs (numB (blksD bl))) (ps := numB (blksD bl)) (ys := restD bl) (f := fun _ _ => .bl true) ?_ rfl rfl rfl rfl (by decide) (by decide) (by decide) (hsl _) fw2 ?_ ?_ ?_ ?_
  · simp [jEnum]
  · intro p hp v hv
    obtain ⟨i, q, rfl, hq⟩ := num_mem hp
    simp [slD, cut_from, restD, It'.list, isFix]
  · intro p hp y hy v hv
    obtain ⟨i, q, rfl, hq⟩ := num_mem hp
    have hy : y ∈ (blksD bl).drop (i + 1) := hy
    unfold blksD at hy
    rw [← List.map_drop] at hy
    obtain ⟨r, hr, rfl⟩ := List.mem_map.mp hy
    simp
    rw [apart_spec (rest_ap h hq r hr) (by simp [hw, hv])]
    simp
  · have := flat_small hlen
    rw [sizeLine_eq]
    omega
  · rw [flat_true]
    simp [hw]
end Bf
namespace Bf
open PySem PySem.Spec PyProof.Rows L2
variable {w : List Cell} {Q : SV → List Cell → Prop}
/-! ### plans are made -/
def keyP (p : Blk) : List Key := [.inl p.x, .inl p.y, .inl p.w, .inl p.h, .inr (wayS p.u)]
def knownP (bl : List Blk) : List (List D × D) := putAll [] (bl.map fun p => (keyP p, .bl true))
def planD (bl : List Blk) (a b L : Int) : List (Str × D) := [("own_size", .tup [.int a, .int b, .int L]), ("own_blocks", .tup (sortD (blksD bl))), ("own_known", .dit (knownP bl))]
theorem blks_sort {bl : List Blk} (h : bl.length ≤ 64) : sortedX [.tup (blksD bl)] = some (.lst (sortD (blksD bl))) := by
  show sorD (blksD bl) = _
  unfold sorD
  rw [if_pos]
  refine ⟨?_, ?_, ?_, by rw [blks_len, sizeLine_eq]; omega, ?_⟩
  · rw [D.plains_all, List.all_eq_true]
    intro d hd
    obtain ⟨p, _, rfl⟩ := List.mem_map.mp hd
    rfl
  · unfold alikeB
    rw [List.all_eq_true]
    intro d hd
    rw [List.all_eq_true]
    intro e he
    obtain ⟨p, _, rfl⟩ := List.mem_map.mp hd
    obtain ⟨q, _, rfl⟩ := List.mem_map.mp he
    rfl
  · unfold sortableB
    rw [Bool.or_eq_true]
    left
    rw [List.all_eq_true]
    intro d hd
    obtain ⟨p, _, rfl⟩ := List.mem_map.mp hd
    rfl
  · rw [List.all_eq_true]
    intro d hd
    obtain ⟨p, _, rfl⟩ := List.mem_map.mp hd
    rfl
theorem sorted_blks (bl : List Blk) : ∃ bl', sortD (blksD bl) = blksD bl' ∧ bl'.Perm bl := by
  have hp : (sortD (blksD bl)).Perm (blksD bl) := List.mergeSort_perm _ _
  refine ⟨(sortD (blksD bl)).map unBlk, ?_, ?_⟩
  · unfold blksD at hp ⊢
    rw [List.map_map]
    conv => lhs; rw [← List.map_id (sortD (bl.map blkD))]
    refine List.map_congr_left fun d hd => ?_
    obtain ⟨p, _, rfl⟩ := List.mem_map.mp (hp.mem_iff.mp hd)
    show blkD p = blkD (unBlk (blkD p))
    rw [unBlk_d]
  · have := hp.map unBlk
    unfold blksD at this ⊢
    rw [List.map_map] at this
    rw [show unBlk ∘ blkD = id from funext unBlk_d, List.map_id] at this
    exact this
theorem Sz.bas {a b L : Int} : Bas (.tup [.int a, .int b, .int L]) := ⟨rfl, by simp⟩
theorem sz_spec {a b L : Int} (h : Sz a b L) (hw : Flat w) : FT m_is_size [.d (.tup [.int a, .int b, .int L])] w Q ↔ Q (.d (.bl true)) w := by
  rw [is_size_spec Sz.bas hw, h.size]
theorem pinit_spec {bl : List Blk} {a b L : Int} (hs : Sz a b L) (h : Blks a b L bl) (hw : Flat w) :
    FT m_Plan_init [.cell w.length, .d (.tup [.int a, .int b, .int L]), .d (.tup (blksD bl))] (w ++ [.ins 0 []]) fun x w' => x = .d .non ∧ w' = w ++ [.ins 0 ((planD bl a b L).map fun p => (p.1, .d p.2))] := by
  have hbl := blks_len bl
  have hlen := h.len
  have fw : Flat (w ++ [Cell.ins 0 []]) := hw.append (Flat.one rfl)
  unfold m_Plan_init b_Plan_init
  rw [FT_fn]
  generalize hg : ([SV.cell w.length, .d (.tup [.int a, .int b, .int L]), .d (.tup (blksD bl))].map some ++ List.replicate (4 - [SV.cell w.length, .d (.tup [.int a, .int b, .int L]), .d (.tup (blksD bl))].length) none : List (Option SV)) = g
  have hg : g = [some (.cell w.length), some (.d (.tup [.int a, .int b, .int L])), some (.d (.tup (blksD bl))), none] := hg.symm
  have hsl : ∀ n, w.length < n → Slots n g := fun n hn k hk => by
    rw [hg] at hk
    simp at hk
    omega
  refine T_seq_of (fun s => s = ⟨g, w ++ [.ins 0 []]⟩) ?_ fun s e => ?_
  · subst hg
    simp [sz_spec hs fw, are_blocks_spec hs h fw]
  subst e
  refine T_seq_of (fun s => s = ⟨g, w ++ [.ins 0 [("own_size", .d (.tup [.int a, .int b, .int L]))]]⟩) (T_fldA ?_) fun s e => ?_
  · subst hg
    simp
    exact ⟨0, _, ⟨rfl, rfl⟩, rfl, by simp, rfl, rfl⟩
  subst e
  refine T_seq_of (fun s => s = ⟨g, w ++ [.ins 0 [("own_size", .d (.tup [.int a, .int b, .int L])), ("own_blocks", .d (.tup (sortD (blksD bl))))]]⟩) (T_fldA ?_) fun s e => ?_
  · subst hg
    have e : ∀ xs, tupleB [.lst xs] = some (.tup xs) := fun _ => rfl
    simp [blks_sort hlen, e]
    exact ⟨0, _, ⟨rfl, rfl⟩, rfl, by simp, rfl, rfl⟩
  subst e
  refine T_fldA ?_
  refine T_fdc (it := .seq (blksD bl)) (ys := blksD bl) (key := fun x => keyP (unBlk x)) (val := fun _ => .bl true) ?_ rfl ?_ (hsl _ ?_) ?_ ?_ ?_ ?_
  · subst hg; simp
  · subst hg; rfl
  · simp
  · simp [hw, flatC]
    exact ⟨rfl, rfl⟩
  · intro x hx v hv
    obtain ⟨p, hp', rfl⟩ := List.mem_map.mp hx
    rw [unBlk_d]
    subst hg
    simp [keyP, keyD, blkD]
  · rw [hbl, sizeLine_eq]; omega
  · have e : (blksD bl).map (fun y => (keyP (unBlk y), D.bl true)) = bl.map fun p => (keyP p, .bl true) := by
      unfold blksD
      rw [List.map_map]
      refine List.map_congr_left fun p _ => ?_
      show (keyP (unBlk (blkD p)), _) = _
      rw [unBlk_d]
    rw [e]
    subst hg
    simp [hw, flatC]
    refine ⟨0, _, ⟨rfl, rfl⟩, rfl, by simp, ?_⟩
    have ep : ∀ v a1 a2 : SV, putS "own_known" v [("own_size", a1), ("own_blocks", a2)] = ([("own_size", a1), ("own_blocks", a2), ("own_known", v)] : List (Str × SV)) := fun _ _ _ => rfl
    rw [ep, Flat.ret (by simp [hw, flatC]; exact ⟨rfl, rfl, rfl⟩)]
    refine ⟨rfl, ?_⟩
    rw [List.take_append]
    simp [planD, knownP]
    exact List.take_of_length_le (by omega)
theorem pinit_of {bl : List Blk} {a b L : Int} {k : Nat} (hs : Sz a b L) (h : Blks a b L bl) (hw : Flat w) (hk : k = w.length) (q : Q (.d .non) (w ++ [.ins 0 ((planD bl a b L).map fun p => (p.1, .d p.2))])) :
    FT w_Plan_init (.cell k :: .d (.tup [.int a, .int b, .int L]) :: ((blksD bl).map .d ++ [])) (w ++ [.ins 0 []]) Q := by
  subst hk
  rw [List.append_nil]
  refine FT_star (ds := blksD bl) (by simp) (datS_d _) (by rw [blks_len, sizeLine_eq]; have := h.len; omega) ?_
  refine (pinit_spec hs h hw).imp fun x w' ⟨e1, e2⟩ => ?_
  subst e1 e2
  exact q
theorem pof_spec {bl : List Blk} {a b L : Int} (hs : Sz a b L) (h : Blks a b L bl) (hw : Flat w) : FT m_Plan_of [.d (.cls 0), .d (.tup [.int a, .int b, .int L]), .d (.tup (blksD bl))] w Q ↔ Q (.d (.ins 0 (planD bl a b L))) w := by
  refine FT_iff ?_
  unfold m_Plan_of b_Plan_of
  rw [FT_fn]
  refine T_seq_of (fun s => s = ⟨[some (.d (.cls 0)), some (.d (.tup [.int a, .int b, .int L])), some (.d (.tup (blksD bl)))], w⟩) ?_ fun s e => ?_
  · simp [isTupD]
  subst e
  rw [T_ret]
  refine T_mk ?_
  simp only [T_var, List.getElem?_cons_zero, OD_some]
  refine ⟨trivial, ?_⟩
  rw [T_cons]
  simp only [T_var, List.getElem?_cons_succ, List.getElem?_cons_zero, OD_some]
  refine T_star ?_
  simp only [T_var, List.getElem?_cons_succ, List.getElem?_cons_zero, OD_some]
  refine ⟨blksD bl, .inl rfl, ?_⟩
  simp only [T_nil]
  refine pinit_of hs h hw rfl ?_
  refine ⟨rfl, T_frzI (fs := (planD bl a b L).map fun p => (p.1, .d p.2)) (gs := planD bl a b L) ?_ (datF_d _) ?_⟩
  · simp
  · dsimp only
    simp [hw, subG]
/-! ### exchanged -/
theorem other_way {u : Bool} (hw : Flat w) : FT m_other_way [.d (.str (wayS u))] w Q ↔ Q (.d (.str (wayS (!u)))) w := by
  refine FT_iff ?_
  unfold m_other_way b_other_way
  rw [FT_fn]
  have e1 := way_eq u
  cases u
  · have e2 : wayS (!false) = "across" := rfl
    rw [e2]
    generalize wayS false = s at *
    simp [e1, hw]
  · have e2 : wayS (!true) = "down" := rfl
    rw [e2]
    generalize wayS true = s at *
    simp [e1, hw]
theorem exblk_spec {p : Blk} (hw : Flat w) : FT m_exchanged_block [.d (blkD p)] w Q ↔ Q (.d (blkD (exBlk p))) w := by
  refine FT_iff ?_
  obtain ⟨x, y, pw, ph, u⟩ := p
  have ow := fun {Q} => other_way (w := w) (Q := Q) (u := u) hw
  unfold m_exchanged_block b_exchanged_block blkD exBlk
  rw [FT_fn]
  dsimp only
  generalize wayS u = s at *
  generalize wayS (!u) = s' at *
  simp [ow, sizeLine_eq, hw]
theorem exsize_spec {a b L : Int} (hw : Flat w) : FT m_exchanged_size [.d (.tup [.int a, .int b, .int L])] w Q ↔ Q (.d (.tup [.int b, .int a, .int L])) w := by
  refine FT_iff ?_
  unfold m_exchanged_size b_exchanged_size
  rw [FT_fn]
  simp [sizeLine_eq, hw]
theorem Sz.ex {a b L : Int} (h : Sz a b L) : Sz b a L := by
  obtain ⟨h1, h2, h3, h4, h5, h6⟩ := h
  constructor <;> assumption
end Bf
namespace Bf
open PySem PySem.Spec PyProof.Rows L2
variable {w : List Cell} {Q : SV → List Cell → Prop}
/-! ### what a plan tells of itself -/
def kindS (u : Bool) : Str := if u = true then "upright" else "level"
theorem kind_eq (u : Bool) : eqD (.str (kindS u)) (.str "upright") = some (.bl u) := by cases u <;> rfl
structure Span where
  s : Int
  e : Int
  b : Int
def spanD (p : Span) : D := .tup [.int p.s, .int p.e, .int p.b]
def unSp : D → Span
  | .tup [a, b, c] => ⟨unI a, unI b, unI c⟩
  | _ => ⟨0, 0, 0⟩
theorem unSp_d (p : Span) : unSp (spanD p) = p := rfl
def spanU (u : Bool) (p : Blk) : Span := if u = true then ⟨p.x, p.x + p.w, p.h⟩ else ⟨p.y, p.y + p.h, p.w⟩
def spansP (u : Bool) (sl : List Blk) : List Span := (sl.filter fun p => p.u == u).map (spanU u)
def spansD (ss : List Span) : List D := ss.map spanD
/-- an instance that is a plan of these blocks -/
structure PlF (F : List (Str × D)) (a b L : Int) (sl : List Blk) : Prop where
  sz : ∀ s, fldOf [0] "own_size" s (.d (.ins 0 F)) = some (.d (.tup [.int a, .int b, .int L]))
  bl : ∀ s, fldOf [0] "own_blocks" s (.d (.ins 0 F)) = some (.d (.tup (blksD sl)))
  n1 : F.lookup ("spans" : Str) = none
  n2 : F.lookup ("count_at" : Str) = none
  n3 : F.lookup ("cuts" : Str) = none
  n4 : F.lookup ("remainders" : Str) = none
  n5 : F.lookup ("next_inside" : Str) = none
  n6 : F.lookup ("next_seam" : Str) = none
  n7 : F.lookup ("is_seam" : Str) = none
  n8 : F.lookup ("many_inside" : Str) = none
  n9 : F.lookup ("many_seams" : Str) = none
  hs : Sz a b L
  hB : Blks a b L sl
  few : sl.length ≤ 30
theorem plF {bl : List Blk} {a b L : Int} (hs : Sz a b L) (h : Blks a b L bl) (few : bl.length ≤ 30) : ∃ sl, sl.Perm bl ∧ PlF (planD bl a b L) a b L sl := by
  obtain ⟨sl, e1, hp⟩ := sorted_blks bl
  exact ⟨sl, hp, ⟨fun s => rfl, fun s => by rw [← e1]; rfl, rfl, rfl, rfl, rfl, rfl, rfl, rfl, rfl, rfl, hs, h.perm hp, by rw [hp.length_eq]; exact few⟩⟩
theorem filter_map' {α β : Type} (l : List α) (f : α → β) (p : β → Bool) : (l.map f).filter p = (l.filter fun x => p (f x)).map f := by rw [List.filter_map]; rfl
theorem spansP_len (u : Bool) (sl : List Blk) : (spansP u sl).length ≤ sl.length := by
  unfold spansP
  rw [List.length_map]
  exact List.length_filter_le _ _
theorem spans_spec {F : List (Str × D)} {a b L : Int} {sl : List Blk} (h : PlF F a b L sl) (u : Bool) (hw : Flat w) : FT m_Plan_spans [.d (.ins 0 F), .d (.str (kindS u))] w Q ↔ Q (.d (.lst (spansD (spansP u sl)))) w := by
  refine FT_iff ?_
  have few := h.few
  have ke := kind_eq u
  have sw : ∀ v : Bool, eqD (.str (wayS v)) (.str "across") = some (.bl v) := fun v => way_eq v
  have sw2 : ∀ v : Bool, eqD (.str (wayS v)) (.str "down") = some (.bl !v) := fun v => by cases v <;> rfl
  unfold m_Plan_spans b_Plan_spans
  rw [FT_fn]
  have el : (if u = true then ((blksD sl).filter fun d => (unBlk d).u == true).map fun d => spanD (spanU true (unBlk d)) else ((blksD sl).filter fun d => (unBlk d).u == false).map fun d => spanD (spanU false (unBlk d))) = spansD (spansP u sl) := by
    unfold blksD spansD spansP
    cases u <;> simp only [filter_map', List.map_map, Bool.false_eq_true, if_false, if_true] <;> (congr 1; exact List.filter_congr fun p _ => by rw [unBlk_d])
  have hl : (blksD sl).length ≤ sizeLine := by rw [blks_len, sizeLine_eq]; omega
  have sl7 : ∀ (k : Str) (x y p q : Int) (v : Str), Slots w.length [some (SV.d (.ins 0 F)), some (.d (.str k)), some (.d (.int x)), some (.d (.int y)), some (.d (.int p)), some (.d (.int q)), some (.d (.str v))] := fun k x y p q v m hm => by simp at hm
  have sl0 : ∀ (k : Str), Slots w.length [some (SV.d (.ins 0 F)), some (.d (.str k)), none, none, none, none, none] := fun k m hm => by simp at hm
  have own : ∀ (k : Str), ∀ i ∈ [2, 3, 4, 5, 6], ∃ o, [some (SV.d (.ins 0 F)), some (.d (.str k)), none, none, none, none, none][i]? = some o ∧ Dat' o := fun k i hi => by
    simp at hi
    rcases hi with rfl | rfl | rfl | rfl | rfl <;> exact ⟨none, rfl, .inl rfl⟩
  generalize hk : kindS u = k at *
  cases u with
  | true =>
    rw [T_seq, T_sIf]
    have c : T (cVal (vOp eqD (vVar 1) (vC (.str "upright"))) ⟨[some (SV.d (.ins 0 F)), some (.d (.str k)), none, none, none, none, none], w⟩) fun c s => c = true ∧ s = ⟨[some (SV.d (.ins 0 F)), some (.d (.str k)), none, none, none, none, none], w⟩ := by simp [ke]
    refine c.imp fun c s ⟨e1, e2⟩ => ?_
    subst e1 e2
    rw [if_pos rfl]
    rw [T_ret, T_frz]
    refine T_flcN (it := .seq (blksD sl)) (xs := blksD sl) (p := fun d => (unBlk d).u == true) (f := fun d => spanD (spanU true (unBlk d))) (g1 := [some (SV.d (.ins 0 F)), some (.d (.str k)), none, none, none, none, none]) (fun d => [some (SV.d (.ins 0 F)), some (.d (.str k)), some (.d (.int (unBlk d).x)), some (.d (.int (unBlk d).y)), some (.d (.int (unBlk d).w)), some (.d (.int (unBlk d).h)), some (.d (.str (wayS (unBlk d).u)))]) ?_ rfl (own k) rfl (sl0 k) hw hl ?_ (fun d _ => sl7 _ _ _ _ _ _) (fun _ _ => rfl) ?_ ?_
    · simp [T_fld, h.bl]
    · intro d hd v
      obtain ⟨q, hq, rfl⟩ := List.mem_map.mp hd
      rw [unBlk_d]
      unfold blkD
      simp
    · intro d hd v hv
      obtain ⟨q, hq, rfl⟩ := List.mem_map.mp hd
      rw [unBlk_d]
      obtain ⟨x, y, pw, ph, v2⟩ := q
      have := sw v2
      generalize wayS v2 = W at *
      dsimp only
      simp [this, sizeLine_eq]
      exact ⟨[], by simp, rfl, fun _ => rfl⟩
    · rw [if_pos rfl] at el
      rw [el]
      simp [hw]
  | false =>
    rw [T_seq, T_sIf]
    have c : T (cVal (vOp eqD (vVar 1) (vC (.str "upright"))) ⟨[some (SV.d (.ins 0 F)), some (.d (.str k)), none, none, none, none, none], w⟩) fun c s => c = false ∧ s = ⟨[some (SV.d (.ins 0 F)), some (.d (.str k)), none, none, none, none, none], w⟩ := by simp [ke]
    refine c.imp fun c s ⟨e1, e2⟩ => ?_
    subst e1 e2
    rw [if_neg (by decide), T_sNx]
    dsimp only
    rw [T_ret, T_frz]
    refine T_flcN (it := .seq (blksD sl)) (xs := blksD sl) (p := fun d => (unBlk d).u == false) (f := fun d => spanD (spanU false (unBlk d))) (g1 := [some (SV.d (.ins 0 F)), some (.d (.str k)), none, none, none, none, none]) (fun d => [some (SV.d (.ins 0 F)), some (.d (.str k)), some (.d (.int (unBlk d).x)), some (.d (.int (unBlk d).y)), some (.d (.int (unBlk d).w)), some (.d (.int (unBlk d).h)), some (.d (.str (wayS (unBlk d).u)))]) ?_ rfl (own k) rfl (sl0 k) hw hl ?_ (fun d _ => sl7 _ _ _ _ _ _) (fun _ _ => rfl) ?_ ?_
    · simp [T_fld, h.bl]
    · intro d hd v
      obtain ⟨q, hq, rfl⟩ := List.mem_map.mp hd
      rw [unBlk_d]
      unfold blkD
      simp
    · intro d hd v hv
      obtain ⟨q, hq, rfl⟩ := List.mem_map.mp hd
      rw [unBlk_d]
      obtain ⟨x, y, pw, ph, v2⟩ := q
      have := sw2 v2
      generalize wayS v2 = W at *
      dsimp only
      simp [this, sizeLine_eq]
      exact ⟨[], by simp, rfl, fun _ => rfl⟩
    · rw [if_neg (by decide)] at el
      rw [el]
      simp [hw]
end Bf
namespace Bf
open PySem PySem.Spec PyProof.Rows L2
variable {w : List Cell} {Q : SV → List Cell → Prop}
def insideS (t : Int) (p : Span) : Bool := decide (p.s < t) && decide (t < p.e)
def offS (L t : Int) (p : Span) : Bool := !decide ((t - p.s) % L = 0)
/-- crossings at t -/
def cntP (ss : List Span) (L t : Int) : Int := (((ss.filter (insideS t)).filter (offS L t)).map (·.b)).sum
theorem spans_filter (ss : List Span) (p : Span → Bool) : (spansD ss).filter (fun d => p (unSp d)) = spansD (ss.filter p) := by
  unfold spansD
  rw [filter_map']
  rfl
theorem ints_d (ns : List Int) : intsD (ns.map D.int) = some ns := by
  have := intsD_map (xs := ns) (f := fun n => n)
  simpa using this
theorem count_spec {F : List (Str × D)} {a b L t : Int} {sl : List Blk} (h : PlF F a b L sl) (u : Bool) (hw : Flat w) : FT m_Plan_count_at [.d (.ins 0 F), .d (.str (kindS u)), .d (.int t)] w Q ↔ Q (.d (.int (cntP (spansP u sl) L t))) w := by
  refine FT_iff ?_
  have few := h.few
  have l0 := h.hs.l0
  have sp := fun {Q} => spans_spec (w := w) (Q := Q) h u hw
  have hl := spansP_len u sl
  generalize spansP u sl = ss at *
  have ml : ∀ z : Int, modD (.int z) (.int L) = some (.int (z % L)) := fun z => if_pos (by omega)
  unfold m_Plan_count_at b_Plan_count_at
  rw [FT_fn]
  generalize kindS u = k at *
  refine T_seq_of (fun s => s = ⟨[some (.d (.ins 0 F)), some (.d (.str k)), some (.d (.int t)), some (.d (.lst (spansD (ss.filter (insideS t))))), none, none, none, none], w ++ [.gone]⟩) ?_ fun s e => ?_
  · rw [T_asg, T_frz]
    refine T_flcN (it := .seq (spansD ss)) (xs := spansD ss) (p := fun d => insideS t (unSp d)) (f := fun d => d) (g0 := [some (SV.d (.ins 0 F)), some (.d (.str k)), some (.d (.int t)), none, none, none, none, none]) (g1 := [some (SV.d (.ins 0 F)), some (.d (.str k)), some (.d (.int t)), none, none, none, none, none]) (fun d => [some (SV.d (.ins 0 F)), some (.d (.str k)), some (.d (.int t)), none, some (.d d), none, none, none]) ?_ rfl (fun i hi => ?_) rfl (fun m hm => ?_) hw (by unfold spansD; rw [List.length_map, sizeLine_eq]; omega) ?_ (fun d _ m hm => ?_) (fun _ _ => rfl) ?_ ?_
    · simp [w_Plan_spans, h.n1, sp, -List.lookup_eq_none_iff]
    · simp at hi
      subst hi
      exact ⟨none, rfl, .inl rfl⟩
    · simp at hm
    · intro d hd v
      simp
    · simp at hm
    · intro d hd v hv
      obtain ⟨q, hq, rfl⟩ := List.mem_map.mp hd
      rw [unSp_d]
      unfold spanD insideS
      by_cases c1 : q.s < t
      · simp [c1]
      · simp [c1]
    · rw [spans_filter, List.map_id']
      simp
  subst e
  have fW : Flat (w ++ [Cell.gone]) := hw.append (Flat.one rfl)
  have t1 : (w ++ [Cell.gone]).take w.length = w := by simp
  have lw : w.length ≤ (w ++ [Cell.gone]).length := by simp
  generalize w ++ [Cell.gone] = w1 at *
  have hc : cntP ss L t = (((ss.filter (insideS t)).filter (offS L t)).map (·.b)).sum := rfl
  have hl2 : (ss.filter (insideS t)).length ≤ ss.length := List.length_filter_le _ _
  rw [hc]
  generalize ss.filter (insideS t) = ts at *
  have e2 : ((spansD ts).filter fun d => offS L t (unSp d)).map (fun d => D.int (unSp d).b) = ((ts.filter (offS L t)).map (·.b)).map D.int := by
    rw [spans_filter]
    unfold spansD
    rw [List.map_map, List.map_map]
    rfl
  rw [T_ret, T_B, T_cons, T_frz]
  refine T_flcN (it := .seq (spansD ts)) (xs := spansD ts) (p := fun d => offS L t (unSp d)) (f := fun d => .int (unSp d).b) (g0 := [some (SV.d (.ins 0 F)), some (.d (.str k)), some (.d (.int t)), some (.d (.lst (spansD ts))), none, none, none, none]) (g1 := [some (SV.d (.ins 0 F)), some (.d (.str k)), some (.d (.int t)), some (.d (.lst (spansD ts))), none, none, none, none]) (fun d => [some (SV.d (.ins 0 F)), some (.d (.str k)), some (.d (.int t)), some (.d (.lst (spansD ts))), none, some (.d (.int (unSp d).s)), some (.d (.int (unSp d).e)), some (.d (.int (unSp d).b))]) ?_ rfl (fun i hi => ?_) rfl (fun m hm => ?_) fW (by unfold spansD; rw [List.length_map, sizeLine_eq]; omega) ?_ (fun d _ m hm => ?_) (fun _ _ => rfl) ?_ ?_
  · simp
  · simp at hi
    rcases hi with rfl | rfl | rfl <;> exact ⟨none, rfl, .inl rfl⟩
  · simp at hm
  · intro d hd v
    obtain ⟨q, hq, rfl⟩ := List.mem_map.mp hd
    rw [unSp_d]
    unfold spanD
    simp
  · simp at hm
  · intro d hd v hv
    obtain ⟨q, hq, rfl⟩ := List.mem_map.mp hd
    rw [unSp_d]
    unfold offS
    simp [T_fld, h.sz, ml]
  · rw [e2]
    generalize (ts.filter (offS L t)).map (·.b) = ns at *
    have e3 : sumX [.lst (ns.map D.int)] = some (.int ns.sum) := isum (ints_d ns)
    simp [e3]
    rw [Flat.ret (by simp [fW])]
    exact ⟨rfl, by rw [List.take_append_of_le_length lw]; exact t1⟩
end Bf
namespace Bf
open PySem PySem.Spec PyProof.Rows L2
variable {w : List Cell} {Q : SV → List Cell → Prop}
def sideP (u : Bool) (a b : Int) : Int := if u = true then a else b
def endsP (ss : List Span) : List Int := ss.flatMap fun p => [p.s, p.e]
theorem endsP_len (ss : List Span) : (endsP ss).length = 2 * ss.length := by
  unfold endsP
  induction ss with
  | nil => rfl
  | cons p r ih =>
    rw [List.flatMap_cons, List.length_append, ih]
    simp
    omega
/-- where blocks end -/
def cutsP (ss : List Span) (side : Int) : List Int := ssZ (0 :: side :: endsP ss)
theorem ssB_ints {ns : List Int} (h : ns.length < 64) : ssB [.lst (ns.map D.int)] = some (.lst ((ssZ ns).map .int)) := by
  unfold ssB
  dsimp only
  rw [ints_d]
  dsimp only
  rw [if_pos h]
theorem cuts_spec {F : List (Str × D)} {a b L : Int} {sl : List Blk} (h : PlF F a b L sl) (u : Bool) (hw : Flat w) : FT m_Plan_cuts [.d (.ins 0 F), .d (.str (kindS u))] w Q ↔ Q (.d (.lst ((cutsP (spansP u sl) (sideP u a b)).map .int))) w := by
  refine FT_iff ?_
  have few := h.few
  have sp := fun {Q} => spans_spec (w := w) (Q := Q) h u hw
  have hl := spansP_len u sl
  have ke := kind_eq u
  generalize spansP u sl = ss at *
  have el := endsP_len ss
  unfold m_Plan_cuts b_Plan_cuts
  rw [FT_fn]
  generalize kindS u = k at *
  refine T_seq_of (fun s => s = ⟨[some (.d (.ins 0 F)), some (.d (.str k)), some (.d (.int (sideP u a b))), none, none, none], w⟩) ?_ fun s e => ?_
  · unfold sideP
    cases u <;> simp [T_fld, h.sz, ke]
  subst e
  refine T_seq_of (fun s => s = ⟨[some (.d (.ins 0 F)), some (.d (.str k)), some (.d (.int (sideP u a b))), some (.d (.lst ((endsP ss).map .int))), none, none], w ++ [.gone]⟩) ?_ fun s e => ?_
  · rw [T_asg, T_frz]
    have ee : ((spansD ss).flatMap fun x => [D.int (unSp x).s, .int (unSp x).e].map fun y => y) = (endsP ss).map D.int := by
      unfold spansD endsP
      rw [List.flatMap_map, List.map_flatMap]
      rfl
    refine T_flc2 (it := .seq (spansD ss)) (xs := spansD ss) (ys := fun x => [D.int (unSp x).s, .int (unSp x).e]) (f := fun _ y => y) ?_ rfl rfl rfl (by decide) (fun m hm => ?_) hw ?_ ?_ ?_ ?_
    · simp [w_Plan_spans, h.n1, sp, -List.lookup_eq_none_iff]
    · simp at hm
    · intro d hd v hv
      obtain ⟨q, hq, rfl⟩ := List.mem_map.mp hd
      rw [unSp_d]
      have sd : slD (spanD q) none (some 2) = some (.tup [.int q.s, .int q.e]) := rfl
      simp [sd]
      exact ⟨rfl, rfl⟩
    · intro d hd z hz v hv
      simp
    · rw [ee, List.length_map, el, sizeLine_eq]
      omega
    · rw [ee]
      simp
  subst e
  have ad : addD (.lst [.int 0, .int (sideP u a b)]) (.lst ((endsP ss).map .int)) = some (.lst ((0 :: sideP u a b :: endsP ss).map D.int)) := by
    refine (if_pos ?_).trans rfl
    rw [List.length_map, el, sizeLine_eq]
    simp
    omega
  have sb := ssB_ints (ns := 0 :: sideP u a b :: endsP ss) (by simp [el]; omega)
  unfold cutsP
  generalize hns : (0 :: sideP u a b :: endsP ss) = ns at *
  simp [ad, sb, hw, sizeLine_eq]
def coverS (first last : Int) (p : Span) : Bool := decide (p.s ≤ first) && decide (last ≤ p.e)
def remP (ss : List Span) (L first last : Int) : List Int := ssZ ((ss.filter (coverS first last)).map fun p => p.s % L)
theorem rem_spec {F : List (Str × D)} {a b L first last : Int} {sl : List Blk} (h : PlF F a b L sl) (u : Bool) (hw : Flat w) : FT m_Plan_remainders [.d (.ins 0 F), .d (.str (kindS u)), .d (.int first), .d (.int last)] w Q ↔ Q (.d (.lst ((remP (spansP u sl) L first last).map .int))) w := by
  refine FT_iff ?_
  have few := h.few
  have l0 := h.hs.l0
  have sp := fun {Q} => spans_spec (w := w) (Q := Q) h u hw
  have hl := spansP_len u sl
  have ml : ∀ z : Int, modD (.int z) (.int L) = some (.int (z % L)) := fun z => if_pos (by omega)
  generalize spansP u sl = ss at *
  unfold m_Plan_remainders b_Plan_remainders
  rw [FT_fn]
  generalize kindS u = k at *
  have hl2 : (ss.filter (coverS first last)).length ≤ ss.length := List.length_filter_le _ _
  refine T_seq_of (fun s => s = ⟨[some (.d (.ins 0 F)), some (.d (.str k)), some (.d (.int first)), some (.d (.int last)), some (.d (.lst (((ss.filter (coverS first last)).map fun p => p.s % L).map .int))), none], w ++ [.gone]⟩) ?_ fun s e => ?_
  · rw [T_asg, T_frz]
    have e2 : ((spansD ss).filter fun d => coverS first last (unSp d)).map (fun d => D.int ((unSp d).s % L)) = ((ss.filter (coverS first last)).map fun p => p.s % L).map D.int := by
      rw [spans_filter]
      unfold spansD
      rw [List.map_map, List.map_map]
      rfl
    refine T_flcN (it := .seq (spansD ss)) (xs := spansD ss) (p := fun d => coverS first last (unSp d)) (f := fun d => .int ((unSp d).s % L)) (g0 := [some (SV.d (.ins 0 F)), some (.d (.str k)), some (.d (.int first)), some (.d (.int last)), none, none]) (g1 := [some (SV.d (.ins 0 F)), some (.d (.str k)), some (.d (.int first)), some (.d (.int last)), none, none]) (fun d => [some (SV.d (.ins 0 F)), some (.d (.str k)), some (.d (.int first)), some (.d (.int last)), none, some (.d d)]) ?_ rfl (fun i hi => ?_) rfl (fun m hm => ?_) hw (by unfold spansD; rw [List.length_map, sizeLine_eq]; omega) ?_ (fun d _ m hm => ?_) (fun _ _ => rfl) ?_ ?_
    · simp [w_Plan_spans, h.n1, sp, -List.lookup_eq_none_iff]
    · simp at hi
      subst hi
      exact ⟨none, rfl, .inl rfl⟩
    · simp at hm
    · intro d hd v
      simp
    · simp at hm
    · intro d hd v hv
      obtain ⟨q, hq, rfl⟩ := List.mem_map.mp hd
      rw [unSp_d]
      unfold spanD coverS
      by_cases c1 : q.s ≤ first
      · simp [c1, T_fld, h.sz, ml]
      · simp [c1, T_fld, h.sz, ml]
    · rw [e2]
      simp
  subst e
  have sb := ssB_ints (ns := (ss.filter (coverS first last)).map fun p => p.s % L) (by rw [List.length_map]; omega)
  unfold remP
  generalize ((ss.filter (coverS first last)).map fun p => p.s % L) = ns at *
  simp [sb, hw]
theorem near_nil (x : D) : D.near x (.lst []) = true := by
  unfold D.near
  have e : (D.lst []).py.depth ≤ 64 := by decide
  exact decide_eq_true (Nat.le_trans (Nat.min_le_right _ _) e)
theorem eqv_nil (x : D) (xs : List D) : D.eqv (.lst (x :: xs)) (.lst []) = false := rfl
theorem eq_nilD {x : D} {xs : List D} (h : D.plains (x :: xs) = true) : eqD (.lst (x :: xs)) (.lst []) = some (.bl false) := by
  unfold eqD
  rw [near_nil, eqv_nil, show (D.lst (x :: xs)).plain = true from h]
  rfl
theorem ne_nilD {x : D} {xs : List D} (h : D.plains (x :: xs) = true) : neD (.lst (x :: xs)) (.lst []) = some (.bl true) := by
  unfold neD
  rw [near_nil, eqv_nil, show (D.lst (x :: xs)).plain = true from h]
  rfl
theorem ints_plain (ns : List Int) : D.plains (ns.map D.int) = true := by
  rw [D.plains_all, List.all_eq_true]
  intro d hd
  obtain ⟨n, _, rfl⟩ := List.mem_map.mp hd
  rfl
end Bf
namespace Bf
open PySem PySem.Spec PyProof.Rows L2
variable {w : List Cell} {Q : SV → List Cell → Prop}
theorem word_of_kind {u : Bool} (hw : Flat w) : FT m_is_word_of [.d (.str (kindS u)), .d (.kup [.str "upright", .str "level"])] w Q ↔ Q (.d (.bl true)) w := by
  refine FT_iff ?_
  have e : inD (.str (kindS u)) (.kup [.str "upright", .str "level"]) = some (.bl true) := by cases u <;> rfl
  unfold m_is_word_of b_is_word_of
  rw [FT_fn]
  generalize kindS u = s at *
  simp [e, hw]
  rfl
def pairsP (cs : List Int) : List (Int × Int) := cs.zip (cs.drop 1)
def prI (p : Int × Int) : D × D := (.int p.1, .int p.2)
theorem zip_pairs (cs : List Int) : (cs.map D.int).zip ((cs.map D.int).drop 1) = (pairsP cs).map prI := by
  unfold pairsP
  rw [← List.map_drop, List.zip_map]
  rfl
end Bf
namespace Bf
open PySem PySem.Spec PyProof.Rows L2
/-! ### the next seam is the least -/
def Seam (ss : List Span) (L t : Int) : Prop := ∀ p ∈ ss, p.s < t → t < p.e → (t - p.s) % L = 0
structure SpOk (ss : List Span) (side : Int) : Prop where
  s0 : ∀ p ∈ ss, 0 ≤ p.s
  e1 : ∀ p ∈ ss, p.e ≤ side
  b1 : ∀ p ∈ ss, 1 ≤ p.b
  se : ∀ p ∈ ss, p.s ≤ p.e
theorem span_ok {a b L : Int} {sl : List Blk} (h : Blks a b L sl) (u : Bool) : SpOk (spansP u sl) (sideP u a b) := by
  have key : ∀ p ∈ spansP u sl, 0 ≤ p.s ∧ p.e ≤ sideP u a b ∧ 1 ≤ p.b ∧ p.s ≤ p.e := fun p hp => by
    unfold spansP at hp
    obtain ⟨q, hq, rfl⟩ := List.mem_map.mp hp
    have i := h.inb q (List.mem_filter.mp hq).1
    obtain ⟨x0, y0, w0, h0, xw, yh, dv⟩ := i
    unfold spanU sideP
    cases u <;> simp <;> omega
  exact ⟨fun p hp => (key p hp).1, fun p hp => (key p hp).2.1, fun p hp => (key p hp).2.2.1, fun p hp => (key p hp).2.2.2⟩
theorem sum_zero : ∀ {l : List Int}, (∀ x ∈ l, 1 ≤ x) → (l.sum = 0 ↔ l = [])
  | [], _ => by simp
  | x :: r, h => by
    have h1 := h x (by simp)
    have h2 : 0 ≤ r.sum := by
      have : ∀ l : List Int, (∀ x ∈ l, 1 ≤ x) → 0 ≤ l.sum := fun l => by
        induction l with
        | nil => simp
        | cons y l ih =>
          intro hl
          have := ih fun z hz => hl z (List.mem_cons_of_mem _ hz)
          have := hl y (by simp)
          rw [List.sum_cons]
          omega
      exact this r fun y hy => h y (List.mem_cons_of_mem _ hy)
    rw [List.sum_cons]
    constructor
    · intro e
      omega
    · intro e
      cases e
theorem cnt_seam {ss : List Span} {side L t : Int} (h : SpOk ss side) : cntP ss L t = 0 ↔ Seam ss L t := by
  unfold cntP
  rw [sum_zero (fun x hx => by
    obtain ⟨p, hp, rfl⟩ := List.mem_map.mp hx
    exact h.b1 p (List.mem_filter.mp (List.mem_filter.mp hp).1).1), List.map_eq_nil_iff, List.filter_eq_nil_iff]
  constructor
  · intro q p hp h1 h2
    have := q p (List.mem_filter.mpr ⟨hp, by unfold insideS; simp [h1, h2]⟩)
    unfold offS at this
    simpa using this
  · intro q p hp
    obtain ⟨hp, hi⟩ := List.mem_filter.mp hp
    unfold insideS at hi
    rw [Bool.and_eq_true, decide_eq_true_eq, decide_eq_true_eq] at hi
    unfold offS
    simp [q p hp hi.1 hi.2]
theorem mem_rem {ss : List Span} {L b l r : Int} : r ∈ remP ss L b l ↔ ∃ p ∈ ss, p.s ≤ b ∧ l ≤ p.e ∧ p.s % L = r := by
  unfold remP
  rw [mem_ssZ, List.mem_map]
  constructor
  · rintro ⟨p, hp, e⟩
    obtain ⟨hp, hc⟩ := List.mem_filter.mp hp
    unfold coverS at hc
    rw [Bool.and_eq_true, decide_eq_true_eq, decide_eq_true_eq] at hc
    exact ⟨p, hp, hc.1, hc.2, e⟩
  · rintro ⟨p, hp, h1, h2, e⟩
    exact ⟨p, List.mem_filter.mpr ⟨hp, by unfold coverS; simp [h1, h2]⟩, e⟩
theorem dvd_mod {t s L : Int} (l0 : 2 ≤ L) : (t - s) % L = 0 ↔ s % L = t % L := by
  rw [Int.emod_eq_emod_iff_emod_sub_eq_zero]
  constructor
  · intro h
    have : s - t = -(t - s) := by omega
    rw [this]
    exact Int.emod_eq_zero_of_dvd (Int.dvd_neg.mpr (Int.dvd_of_emod_eq_zero h))
  · intro h
    have : t - s = -(s - t) := by omega
    rw [this]
    exact Int.emod_eq_zero_of_dvd (Int.dvd_neg.mpr (Int.dvd_of_emod_eq_zero h))
theorem seam_seg {ss : List Span} {L b l t : Int} (l0 : 2 ≤ L) (sep : ∀ p ∈ ss, (p.s ≤ b ∨ l ≤ p.s) ∧ (p.e ≤ b ∨ l ≤ p.e)) (h1 : b < t) (h2 : t < l) : Seam ss L t ↔ ∀ r ∈ remP ss L b l, r = t % L := by
  constructor
  · intro h r hr
    obtain ⟨p, hp, p1, p2, rfl⟩ := mem_rem.mp hr
    exact (dvd_mod l0).mp (h p hp (by omega) (by omega))
  · intro h p hp p1 p2
    have := sep p hp
    exact (dvd_mod l0).mpr (h _ (mem_rem.mpr ⟨p, hp, by omega, by omega, rfl⟩))
end Bf
namespace Bf
open PySem PySem.Spec PyProof.Rows L2
variable {w : List Cell} {Q : SV → List Cell → Prop}
def lineK (u : Bool) (t : Int) : D := .tup [.str (kindS u), .int t]
theorem plain_line_spec {a b L t : Int} {u : Bool} (h1 : 1 ≤ t) (h2 : t < sideP u a b) (hw : Flat w) : FT m_is_plain_line [.d (.tup [.int a, .int b, .int L]), .d (lineK u t)] w Q ↔ Q (.d (.bl true)) w := by
  refine FT_iff ?_
  have wk := fun {Q} => word_of_kind (u := u) (w := w) (Q := Q) hw
  have ke := kind_eq u
  have k1 : Known (lineK u t) := rfl
  have k2 : Known (.int t) := by simp
  have rw2 : rowD (lineK u t) 2 = true := rfl
  have i1 : inR (.int t) 1 (a - 1) = true ∨ u = false := by
    cases u
    · exact .inr rfl
    · left
      unfold sideP at h2
      simp [inR, isIntD]
      simp at h2
      omega
  have i2 : inR (.int t) 1 (b - 1) = true ∨ u = true := by
    cases u
    · left
      unfold sideP at h2
      simp [inR, isIntD]
      simp at h2
      omega
    · exact .inr rfl
  unfold m_is_plain_line b_is_plain_line
  rw [FT_fn]
  have e0 : idxD (lineK u t) (.int 0) = some (.str (kindS u)) := rfl
  have e1 : idxD (lineK u t) (.int 1) = some (.int t) := rfl
  generalize lineK u t = l at *
  generalize kindS u = k at *
  cases u
  · have i2 := i2.resolve_right (by decide)
    simp [is_row_spec k1 hw, rw2, e0, e1, wk, ke, is_from_spec k2 hw, i2, hw]
  · have i1 := i1.resolve_right (by decide)
    simp [is_row_spec k1 hw, rw2, e0, e1, wk, ke, is_from_spec k2 hw, i1, hw]
theorem req_line_spec {a b L t : Int} {u : Bool} (h1 : 1 ≤ t) (h2 : t < sideP u a b) (hw : Flat w) : FT m_require_line [.d (.tup [.int a, .int b, .int L]), .d (lineK u t)] w Q ↔ Q (.d .non) w := by
  refine FT_iff ?_
  have pl := fun {Q} => plain_line_spec (w := w) (Q := Q) (L := L) h1 h2 hw
  unfold m_require_line b_require_line
  rw [FT_fn]
  simp [pl, hw]
theorem is_seam_spec {F : List (Str × D)} {a b L t : Int} {sl : List Blk} (h : PlF F a b L sl) {u : Bool} (h1 : 1 ≤ t) (h2 : t < sideP u a b) (hw : Flat w) : FT m_Plan_is_seam [.d (.ins 0 F), .d (lineK u t)] w Q ↔ Q (.d (.bl (decide (cntP (spansP u sl) L t = 0)))) w := by
  refine FT_iff ?_
  have rq := fun {Q} => req_line_spec (w := w) (Q := Q) (L := L) h1 h2 hw
  have co := fun {Q} => count_spec (w := w) (Q := Q) (t := t) h u hw
  unfold m_Plan_is_seam b_Plan_is_seam
  rw [FT_fn]
  have e : lineK u t = .tup [.str (kindS u), .int t] := rfl
  simp [T_fld, h.sz, rq, -List.lookup_eq_none_iff]
  simp [e, h.n2, w_Plan_count_at, co, hw, -List.lookup_eq_none_iff]
/-! ### the law's own count -/
def cB (u : Bool) (L t : Int) (p : Blk) : Int := if (p.u == u) = true ∧ (spanU u p).s < t ∧ t < (spanU u p).e ∧ ¬ (t - (spanU u p).s) % L = 0 then (spanU u p).b else 0
theorem cnt_add (u : Bool) (L t : Int) (l : List Blk) (p : Blk) : cntP (spansP u (l ++ [p])) L t = cntP (spansP u l) L t + cB u L t p := by
  unfold cntP spansP cB
  rw [List.filter_append, List.map_append, List.filter_append, List.filter_append, List.map_append, List.sum_append]
  congr 1
  by_cases c1 : (p.u == u) = true
  · have f1 : List.filter (fun q : Blk => q.u == u) [p] = [p] := by simp only [List.filter_cons, c1, if_true, List.filter_nil]
    rw [f1]
    by_cases c2 : (spanU u p).s < t
    · by_cases c3 : t < (spanU u p).e
      · by_cases c4 : (t - (spanU u p).s) % L = 0
        · simp [insideS, offS, c1, c2, c3, c4]
        · simp [insideS, offS, c2, c3, c4]
          intro h
          simp at c1
          exact absurd c1 h
      · simp [insideS, offS, c1, c2, c3]
    · simp [insideS, offS, c1, c2]
  · have f1 : List.filter (fun q : Blk => q.u == u) [p] = [] := by
      rw [List.filter_cons, if_neg c1, List.filter_nil]
    rw [f1]
    simp [c1]
theorem lcount_spec {a b L t : Int} {bl : List Blk} {u : Bool} (l0 : 2 ≤ L) (hw : Flat w) : FT m__law_count [.d (.tup [.int a, .int b, .int L]), .d (.lst (blksD bl)), .d (lineK u t)] w Q ↔ Q (.d (.int (cntP (spansP u bl) L t))) w := by
  refine FT_iff ?_
  have ml : ∀ z : Int, modD (.int z) (.int L) = some (.int (z % L)) := fun z => if_pos (by omega)
  have ke := kind_eq u
  unfold m__law_count b__law_count lineK
  rw [FT_fn]
  generalize kindS u = k at *
  refine T_seq_of (fun s => s = ⟨[some (.d (.tup [.int a, .int b, .int L])), some (.d (.lst (blksD bl))), some (.d (.tup [.str k, .int t])), some (.d (.int 0)), some (.d (.str k)), some (.d (.int t)), none, none, none, none, none, none, none, none], w⟩) ?_ fun s e => ?_
  · simp
  subst e
  rw [T_seq, T_sFor]
  obtain ⟨P, hP⟩ : ∃ P : Nat → PS → Prop, P = (fun j s => ∃ o6 o7 o8 o9 o10 o11 o12 o13, Dat' o6 ∧ Dat' o7 ∧ Dat' o8 ∧ Dat' o9 ∧ Dat' o10 ∧ Dat' o11 ∧ Dat' o12 ∧ Dat' o13 ∧ s = ⟨[some (.d (.tup [.int a, .int b, .int L])), some (.d (.lst (blksD bl))), some (.d (.tup [.str k, .int t])), some (.d (.int (cntP (spansP u (bl.take j)) L t))), some (.d (.str k)), some (.d (.int t)), o6, o7, o8, o9, o10, o11, o12, o13], w⟩) := ⟨_, rfl⟩
  have rf : T (jSeq (vVar 1) ⟨[some (.d (.tup [.int a, .int b, .int L])), some (.d (.lst (blksD bl))), some (.d (.tup [.str k, .int t])), some (.d (.int 0)), some (.d (.str k)), some (.d (.int t)), none, none, none, none, none, none, none, none], w⟩) fun it s => it = .seq (blksD bl) ∧ s = ⟨[some (.d (.tup [.int a, .int b, .int L])), some (.d (.lst (blksD bl))), some (.d (.tup [.str k, .int t])), some (.d (.int 0)), some (.d (.str k)), some (.d (.int t)), none, none, none, none, none, none, none, none], w⟩ := by simp
  refine rf.imp fun it s ⟨e1, e2⟩ => ?_
  subst e1 e2
  refine T_for (it := .seq (blksD bl)) (xs := blksD bl) rfl (Inv := P) (fun j d s hx hI => ?_) (fun s hI => ?_) _ 0 _ (by simp [It'.fuel]) ?_
  · rw [hP] at hI
    obtain ⟨o6, o7, o8, o9, o10, o11, o12, o13, d6, d7, d8, d9, d10, d11, d12, d13, rfl⟩ := hI
    unfold blksD at hx
    rw [List.getElem?_map] at hx
    cases hj : bl[j]? with
    | none => rw [hj] at hx; cases hx
    | some p =>
    rw [hj] at hx
    cases hx
    have tk : cntP (spansP u (bl.take (j + 1))) L t = cntP (spansP u (bl.take j)) L t + cB u L t p := by
      rw [List.take_add_one, hj]
      exact cnt_add u L t _ p
    generalize cntP (spansP u (bl.take j)) L t = n at *
    obtain ⟨x, y, pw, ph, v⟩ := p
    have we := way_eq v
    unfold blkD
    dsimp only
    rw [T_hTup5, T_name]
    refine ⟨by simp, ?_⟩
    rw [T_name]
    refine ⟨by simp, ?_⟩
    rw [T_name]
    refine ⟨by simp, ?_⟩
    rw [T_name]
    refine ⟨by simp, ?_⟩
    rw [T_name]
    refine ⟨by simp, ?_⟩
    dsimp only [List.set_cons_succ, List.set_cons_zero]
    have fin : ∀ n' f s b' wv, n' = cntP (spansP u (bl.take (j + 1))) L t → ∃ s', trunc w.length ⟨[some (.d (.tup [.int a, .int b, .int L])), some (.d (.lst (blksD bl))), some (.d (.tup [.str k, .int t])), some (.d (.int n')), some (.d (.str k)), some (.d (.int t)), some (.d (.int x)), some (.d (.int y)), some (.d (.int pw)), some (.d (.int ph)), some (.d (.str wv)), some (SV.d (.int f)), some (SV.d (.int s)), some (SV.d (.int b'))], w⟩ = some s' ∧ P (j + 1) s' := fun n' f s b' wv en => by
      refine ⟨_, Flat.trunc hw _, ?_⟩
      rw [hP, en]
      exact ⟨some (.d (.int x)), some (.d (.int y)), some (.d (.int pw)), some (.d (.int ph)), some (.d (.str wv)), some (.d (.int f)), some (.d (.int s)), some (.d (.int b')), .inr ⟨_, rfl⟩, .inr ⟨_, rfl⟩, .inr ⟨_, rfl⟩, .inr ⟨_, rfl⟩, .inr ⟨_, rfl⟩, .inr ⟨_, rfl⟩, .inr ⟨_, rfl⟩, .inr ⟨_, rfl⟩, by simp⟩
    have wd : wayS v = wayS v := rfl
    generalize hW : wayS v = W at we ⊢
    refine T_seq_of (fun s => s = ⟨[some (.d (.tup [.int a, .int b, .int L])), some (.d (.lst (blksD bl))), some (.d (.tup [.str k, .int t])), some (.d (.int n)), some (.d (.str k)), some (.d (.int t)), some (.d (.int x)), some (.d (.int y)), some (.d (.int pw)), some (.d (.int ph)), some (.d (.str W)), some (.d (.int (spanU v ⟨x, y, pw, ph, v⟩).s)), some (.d (.int ((spanU v ⟨x, y, pw, ph, v⟩).e - (spanU v ⟨x, y, pw, ph, v⟩).s))), some (.d (.int (spanU v ⟨x, y, pw, ph, v⟩).b))], w⟩) ?_ fun s e => ?_
    · cases v <;> simp [we, spanU, sizeLine_eq] <;> omega
    subst e
    have eb : ∀ v u : Bool, eqD (.bl v) (.bl u) = some (.bl (v == u)) := fun v u => by cases v <;> cases u <;> rfl
    by_cases c1 : v = u
    · subst c1
      unfold cB at tk
      generalize (spanU v ⟨x, y, pw, ph, v⟩).s = S at *
      generalize (spanU v ⟨x, y, pw, ph, v⟩).e = E at *
      generalize (spanU v ⟨x, y, pw, ph, v⟩).b = B at *
      have e9 : S + (E - S) = E := by omega
      have m0 := Int.emod_nonneg (t - S) (show L ≠ 0 by omega)
      by_cases c2 : S < t
      · by_cases c3 : t < E
        · by_cases c4 : (t - S) % L = 0
          · rw [if_neg (fun q => q.2.2.2 c4)] at tk
            simp [we, ke, eb, c2, c3, c4, e9, ml]
            exact fin _ _ _ _ _ (by omega)
          · rw [if_pos ⟨by simp, c2, c3, c4⟩] at tk
            have c5 : (t - S) % L > 0 := by omega
            simp [we, ke, eb, c2, c3, c5, e9, ml]
            exact fin _ _ _ _ _ (by omega)
        · rw [if_neg (fun q => c3 q.2.2.1)] at tk
          simp [we, ke, eb, c2, c3, e9]
          exact fin _ _ _ _ _ (by omega)
      · rw [if_neg (fun q => c2 q.2.1)] at tk
        simp [we, ke, eb, c2, e9]
        exact fin _ _ _ _ _ (by omega)
    · have c1' : (v == u) = false := by simpa using c1
      unfold cB at tk
      rw [if_neg (fun q => by simp [c1'] at q)] at tk
      simp [we, ke, eb, c1']
      exact fin _ _ _ _ _ (by omega)
  · rw [hP] at hI
    obtain ⟨o6, o7, o8, o9, o10, o11, o12, o13, d6, d7, d8, d9, d10, d11, d12, d13, rfl⟩ := hI
    rw [blks_len, List.take_length]
    simp [hw]
  · rw [hP]
    exact ⟨none, none, none, none, none, none, none, none, .inl rfl, .inl rfl, .inl rfl, .inl rfl, .inl rfl, .inl rfl, .inl rfl, .inl rfl, rfl⟩
end Bf
namespace Bf
open PySem PySem.Spec PyProof.Rows L2
variable {w : List Cell} {Q : SV → List Cell → Prop}
/-! ### cutting a size into blocks -/
def whB (p : Blk) : Int := p.w * p.h
structure InL (a b L : Int) (p : Blk) : Prop where
  x0 : 0 ≤ p.x
  y0 : 0 ≤ p.y
  w0 : 1 ≤ p.w
  h0 : 1 ≤ p.h
  xw : p.x + p.w ≤ a
  yh : p.y + p.h ≤ b
  dv : p.w % L = 0 ∨ p.h % L = 0
structure Til (a b L : Int) (st fd : List Blk) : Prop where
  inl : ∀ p ∈ st, InL a b L p
  inb : ∀ p ∈ fd, InB a b L p
  area : (st.map whB).sum + (fd.map whB).sum = a * b
  ap : (st ++ fd).Pairwise ApB
theorem til_perm {l m : List Blk} (h : l.Perm m) (p : l.Pairwise ApB) : m.Pairwise ApB := (List.Perm.pairwise_iff (fun q => ApB.symm q) h).mp p
theorem Til.rest {a b L : Int} {st fd : List Blk} {p : Blk} (h : Til a b L (st ++ [p]) fd) : (st ++ fd).Pairwise ApB ∧ ∀ q ∈ st ++ fd, ApB p q := by
  have e : ((st ++ [p]) ++ fd).Perm (p :: (st ++ fd)) := by
    rw [List.append_assoc]
    exact List.perm_middle
  obtain ⟨h1, h2⟩ := List.pairwise_cons.mp (til_perm e h.ap)
  exact ⟨h2, h1⟩
theorem Til.found {a b L : Int} {st fd : List Blk} {p q : Blk} (h : Til a b L (st ++ [p]) fd) (ex : q.x = p.x) (ey : q.y = p.y) (ew : q.w = p.w) (eh : q.h = p.h) (iq : InB a b L q) : Til a b L st (fd ++ [q]) := by
  obtain ⟨r1, r2⟩ := h.rest
  refine ⟨fun r hr => h.inl r (by simp [hr]), fun r hr => ?_, ?_, ?_⟩
  · rcases List.mem_append.mp hr with hr | hr
    · exact h.inb r hr
    · rw [List.mem_singleton] at hr
      rw [hr]
      exact iq
  · have := h.area
    rw [List.map_append, List.sum_append] at this
    rw [List.map_append, List.sum_append, ← this]
    simp [whB, ew, eh]
    omega
  · have e : (q :: (st ++ fd)).Perm (st ++ (fd ++ [q])) := by
      rw [← List.append_assoc]
      exact (List.perm_append_singleton q (st ++ fd)).symm
    refine til_perm e (List.pairwise_cons.mpr ⟨fun r hr => ?_, r1⟩)
    have := r2 r hr
    unfold ApB at this ⊢
    rw [ex, ey, ew, eh]
    exact this
theorem Til.split {a b L : Int} {st fd : List Blk} {p p1 p2 : Blk} (h : Til a b L (st ++ [p]) fd) (i1 : InL a b L p1) (i2 : InL a b L p2) (ar : whB p1 + whB p2 = whB p) (a12 : ApB p1 p2)
    (s1 : p.x ≤ p1.x ∧ p1.x + p1.w ≤ p.x + p.w ∧ p.y ≤ p1.y ∧ p1.y + p1.h ≤ p.y + p.h) (s2 : p.x ≤ p2.x ∧ p2.x + p2.w ≤ p.x + p.w ∧ p.y ≤ p2.y ∧ p2.y + p2.h ≤ p.y + p.h) : Til a b L (st ++ [p1, p2]) fd := by
  obtain ⟨r1, r2⟩ := h.rest
  refine ⟨fun r hr => ?_, h.inb, ?_, ?_⟩
  · rcases List.mem_append.mp hr with hr | hr
    · exact h.inl r (by simp [hr])
    · simp at hr
      rcases hr with rfl | rfl
      · exact i1
      · exact i2
  · have := h.area
    rw [List.map_append, List.sum_append] at this ⊢
    rw [← this]
    simp
    omega
  · have e : (p1 :: p2 :: (st ++ fd)).Perm ((st ++ [p1, p2]) ++ fd) := by
      rw [List.append_assoc]
      refine List.Perm.trans ?_ (List.perm_append_comm_assoc [p1, p2] st fd)
      exact List.Perm.refl _
    have sub : ∀ {q : Blk}, (p.x ≤ q.x ∧ q.x + q.w ≤ p.x + p.w ∧ p.y ≤ q.y ∧ q.y + q.h ≤ p.y + p.h) → ∀ r ∈ st ++ fd, ApB q r := fun s r hr => by
      have := r2 r hr
      unfold ApB at *
      omega
    refine til_perm e (List.pairwise_cons.mpr ⟨fun r hr => ?_, List.pairwise_cons.mpr ⟨sub s2, r1⟩⟩)
    rcases List.mem_cons.mp hr with rfl | hr
    · exact a12
    · exact sub s1 r hr
theorem Til.start {a b L : Int} (hs : Sz a b L) (h : a % L = 0 ∨ b % L = 0) : Til a b L [⟨0, 0, a, b, true⟩] [] := by
  have := hs.a0
  have := hs.b0
  refine ⟨fun p hp => ?_, fun p hp => (by cases hp), by simp [whB], by simp⟩
  rw [List.mem_singleton] at hp
  rw [hp]
  exact ⟨by simp, by simp, by simp; omega, by simp; omega, by simp, by simp, h⟩
theorem Til.done {a b L : Int} {fd : List Blk} (h : Til a b L [] fd) (n : fd.length ≤ 64) : Blks a b L fd := ⟨n, h.inb, by have := h.area; simp at this; exact this, by have := h.ap; simpa using this⟩
/-- a cut upright, a cut level -/
theorem Til.cutx {a b L c : Int} {st fd : List Blk} {p : Blk} (l0 : 2 ≤ L) (h : Til a b L (st ++ [p]) fd) (c0 : 0 < c) (c1 : c < p.w) (cs : p.h % L = 0 ∨ c % L = 0) : Til a b L (st ++ [⟨p.x, p.y, c, p.h, true⟩, ⟨p.x + c, p.y, p.w - c, p.h, true⟩]) fd := by
  obtain ⟨x0, y0, w0, h0, xw, yh, dv⟩ := h.inl p (by simp)
  have d2 : (p.w - c) % L = 0 ∨ p.h % L = 0 := by
    rcases cs with q | q
    · exact .inr q
    · rcases dv with d | d
      · exact .inl (Int.emod_eq_zero_of_dvd (Int.dvd_sub (Int.dvd_of_emod_eq_zero d) (Int.dvd_of_emod_eq_zero q)))
      · exact .inr d
  have d1 : c % L = 0 ∨ p.h % L = 0 := cs.symm
  refine h.split ⟨x0, y0, by dsimp only; omega, h0, by dsimp only; omega, yh, d1⟩ ⟨by dsimp only; omega, y0, by dsimp only; omega, h0, by dsimp only; omega, yh, d2⟩ ?_ (.inl (Int.le_refl _)) ⟨by dsimp only; omega, by dsimp only; omega, Int.le_refl _, Int.le_refl _⟩ ⟨by dsimp only; omega, by dsimp only; omega, Int.le_refl _, Int.le_refl _⟩
  unfold whB
  dsimp only
  rw [← Int.add_mul]
  congr 1
  omega
theorem Til.cuty {a b L c : Int} {st fd : List Blk} {p : Blk} (l0 : 2 ≤ L) (h : Til a b L (st ++ [p]) fd) (c0 : 0 < c) (c1 : c < p.h) (cs : p.w % L = 0 ∨ c % L = 0) : Til a b L (st ++ [⟨p.x, p.y, p.w, c, true⟩, ⟨p.x, p.y + c, p.w, p.h - c, true⟩]) fd := by
  obtain ⟨x0, y0, w0, h0, xw, yh, dv⟩ := h.inl p (by simp)
  have d2 : p.w % L = 0 ∨ (p.h - c) % L = 0 := by
    rcases cs with q | q
    · exact .inl q
    · rcases dv with d | d
      · exact .inl d
      · exact .inr (Int.emod_eq_zero_of_dvd (Int.dvd_sub (Int.dvd_of_emod_eq_zero d) (Int.dvd_of_emod_eq_zero q)))
  refine h.split ⟨x0, y0, w0, by dsimp only; omega, xw, by dsimp only; omega, cs⟩ ⟨x0, by dsimp only; omega, w0, by dsimp only; omega, xw, by dsimp only; omega, d2⟩ ?_ (.inr (.inr (.inl (Int.le_refl _)))) ⟨Int.le_refl _, Int.le_refl _, by dsimp only; omega, by dsimp only; omega⟩ ⟨Int.le_refl _, Int.le_refl _, by dsimp only; omega, by dsimp only; omega⟩
  unfold whB
  dsimp only
  rw [← Int.mul_add]
  congr 1
  omega
/-- a place to cut -/
theorem cut_spec {side step : Int} (s0 : 1 ≤ step) (s1 : step < side) (s2 : side ≤ 1000000000000000000000000000000) : Dies m__law_cut [.d (.int side), .d (.int step)] fun y => ∃ c : Int, y = .int c ∧ 0 < c ∧ c < side ∧ c % step = 0 := by
  intro k w hw
  unfold m__law_cut b__law_cut
  rw [FT_fn]
  have big : (10 : Int) ^ 40 = 10000000000000000000000000000000000000000 := by decide
  have hd : ∀ z, divD (.int z) (.int step) = some (.int (z / step)) := fun z => divD_int ⟨by omega, log_ok (by rw [big]; omega) (by omega)⟩
  have hd2 : ∀ z, divD (.int z) (.int 2) = some (.int (z / 2)) := fun z => divD_int ⟨by decide, by decide +kernel⟩
  have m1 : 1 ≤ (side - 1) / step := by
    rw [Int.le_ediv_iff_mul_le (by omega)]
    omega
  have m2 : (side - 1) / step ≤ side - 1 := Int.ediv_le_self _ (by omega)
  have m3 : (side - 1) / step * step ≤ side - 1 := Int.ediv_mul_le _ (by omega)
  generalize hmm : (side - 1) / step = m at *
  refine T_seq_of (fun s => s = ⟨[some (.cell k), some (.d (.int side)), some (.d (.int step)), some (.d (.int m))], w⟩) ?_ fun s e => ?_
  · simp [hd, hmm]
  subst e
  simp [sizeLine_eq, hd2]
  refine (take_spec (t := m) (by omega) (by rw [big]; omega) k w hw).imp fun x w1 ⟨⟨hu1, hn1⟩, z, e, r1, e1, r10, r11⟩ => ?_
  subst e e1
  simp [sizeLine_eq, hd2]
  refine (take_spec (t := m) (by omega) (by rw [big]; omega) k w1 hu1.ok).imp fun x w2 ⟨⟨hu2, hn2⟩, z, e, r2, e2, r20, r21⟩ => ?_
  subst e e2
  simp [sizeLine_eq, hd2]
  refine (one_lst (by simp) (by simp) k w2 hu2.ok).imp fun x w3 ⟨⟨hu3, hn3⟩, z, e, hz⟩ => ?_
  subst e
  have key : ∀ {xs : List D}, (∀ y ∈ xs, ∃ t : Int, y = .int t ∧ 1 ≤ t ∧ t ≤ m) → z ∈ xs → ∃ t : Int, z = .int t ∧ 1 ≤ t ∧ t ≤ m := fun h m => h z m
  obtain ⟨t, rfl, t1, t2⟩ := key (by
    simp only [List.forall_mem_cons]
    refine ⟨?_, ?_, ?_, ?_, ?_, by simp⟩ <;> exact ⟨_, rfl, by omega, by omega⟩) hz
  have p1 : step * t ≤ m * step := by
    rw [Int.mul_comm]
    exact Int.mul_le_mul_of_nonneg_right t2 (by omega)
  have p0 : 1 * 1 ≤ step * t := Int.mul_le_mul s0 t1 (by decide) (by omega)
  have hm : mulD (.int step) (.int t) = some (.int (step * t)) := mulD_int (mulOk_le (by rw [big40]; omega) (by rw [big40]; omega))
  simp [hm]
  exact die_end ((hu1.trans hu2).trans hu3) hw ⟨step * t, rfl, by omega, by omega, Int.mul_emod_right _ _⟩
end Bf
namespace Bf
open PySem PySem.Spec PyProof.Rows L2
variable {w : List Cell} {Q : SV → List Cell → Prop}
/-! ### the parts of the cutting loop -/
def lbT : MT := cVal (vOp neD (vVar 4) (vLst (aNil)))
def lb1 : MS := sAsg (vMu popM (vVar 4) (aNil)) (hTup [hName 6, hName 7, hName 8, hName 9])
def lb2 : MS := sAsg (vFrz (vLcN (jSeq (vLst (aCons (vTup (aCons (vC (.str "across")) (aCons (vVar 8) (aNil)))) (aCons (vTup (aCons (vC (.str "down")) (aCons (vVar 9) (aNil)))) (aNil))))) [14, 15] (hTup [hName 14, hName 15]) (cVal (vOp eqD (vOp modD (vVar 15) (vVar 3)) (vC (.int 0)))) (vVar 14))) (hName 10)
def lb3 : MS := sAsg (vLst (aNil)) (hName 11)
def lb4c : MT := cAnd (cVal (vOp ltD (vOp addD (vOp addD (vB lenB (aCons (vVar 4) (aNil))) (vB lenB (aCons (vVar 5) (aNil)))) (vC (.int 1))) (vVar 2))) (cVal (vOp gtD (vCall m__law_take (aCons (vVar 0) (aCons (vC (.int 5)) (aNil)))) (vC (.int 0))))
def lb4a : MS := sAsg (vLst (aCons (vIf (cVal (vOp eqD (vOp modD (vVar 9) (vVar 3)) (vC (.int 0)))) (vC (.int 1)) (vVar 3)) (aCons (vIf (cVal (vOp eqD (vOp modD (vVar 8) (vVar 3)) (vC (.int 0)))) (vC (.int 1)) (vVar 3)) (aNil)))) (hName 12)
def lb4b : MS := sAsg (vFrz (vLcN (jEnum (vLst (aCons (vVar 8) (aCons (vVar 9) (aNil))))) [13, 15] (hTup [hName 13, hName 15]) (cVal (vOp gtD (vVar 15) (vOp idxD (vVar 12) (vVar 13)))) (vVar 13))) (hName 11)
def lb5c : MT := cVal (vOp eqD (vVar 11) (vLst (aNil)))
def lb5f : MS := sExp (vMu appM (vVar 5) (aCons (vTup (aCons (vVar 6) (aCons (vVar 7) (aCons (vVar 8) (aCons (vVar 9) (aCons (vCall m__law_one (aCons (vVar 0) (aCons (vVar 10) (aNil)))) (aNil))))))) (aNil)))
def lb5d : MT := cVal (vOp eqD (vCall m__law_one (aCons (vVar 0) (aCons (vVar 11) (aNil)))) (vC (.int 0)))
def lb5x1 : MS := sAsg (vCall m__law_cut (aCons (vVar 0) (aCons (vVar 8) (aCons (vOp idxD (vVar 12) (vC (.int 0))) (aNil))))) (hName 13)
def lb5x2 : MS := sExp (vMu extM (vVar 4) (aCons (vLst (aCons (vTup (aCons (vVar 6) (aCons (vVar 7) (aCons (vVar 13) (aCons (vVar 9) (aNil)))))) (aCons (vTup (aCons (vOp addD (vVar 6) (vVar 13)) (aCons (vVar 7) (aCons (vOp subD (vVar 8) (vVar 13)) (aCons (vVar 9) (aNil)))))) (aNil)))) (aNil)))
def lb5y1 : MS := sAsg (vCall m__law_cut (aCons (vVar 0) (aCons (vVar 9) (aCons (vOp idxD (vVar 12) (vC (.int 1))) (aNil))))) (hName 13)
def lb5y2 : MS := sExp (vMu extM (vVar 4) (aCons (vLst (aCons (vTup (aCons (vVar 6) (aCons (vVar 7) (aCons (vVar 8) (aCons (vVar 13) (aNil)))))) (aCons (vTup (aCons (vVar 6) (aCons (vOp addD (vVar 7) (vVar 13)) (aCons (vVar 8) (aCons (vOp subD (vVar 9) (vVar 13)) (aNil)))))) (aNil)))) (aNil)))
def lbE : MS := sRet (vB sortedX (aCons (vVar 5) (aNil)))
def lb0 : MS := sPar3 3 4 5 (aCons (vOp idxD (vVar 1) (vC (.int 2))) (aCons (vLstN (aCons (vTup (aCons (vC (.int 0)) (aCons (vC (.int 0)) (aCons (vOp idxD (vVar 1) (vC (.int 0))) (aCons (vOp idxD (vVar 1) (vC (.int 1))) (aNil)))))) (aNil))) (aCons (vLstN (aNil)) (aNil))))
theorem lb_body : b__law_blocks = sSeq lb0 (sSeq (sWhile lbT (sSeq lb1 (sSeq lb2 (sSeq lb3 (sSeq (sIf lb4c (sSeq lb4a lb4b) sNx) (sIf lb5c lb5f (sIf lb5d (sSeq lb5x1 lb5x2) (sSeq lb5y1 lb5y2)))))))) lbE) := rfl
@[simp ↓] theorem T_hTup4 {g1 g2 g3 g4 : MG} {a b c d : D} {s : PS} {Q : Unit → PS → Prop} : T (hTup [g1, g2, g3, g4] (.d (.tup [a, b, c, d])) s) Q ↔ T (g1 (.d a) s) fun _ s => T (g2 (.d b) s) fun _ s => T (g3 (.d c) s) fun _ s => T (g4 (.d d) s) Q := by
  unfold hTup
  simp only [rd_d]
  rw [if_pos (show [a, b, c, d].length = [g1, g2, g3, g4].length from rfl)]
  unfold hAll
  rw [T_bind]
  refine iff_of_eq (congrArg (T _) (funext fun _ => funext fun s => ?_))
  unfold hAll
  rw [T_bind]
  refine congrArg (T _) (funext fun _ => funext fun s => ?_)
  unfold hAll
  rw [T_bind]
  refine congrArg (T _) (funext fun _ => funext fun s => ?_)
  unfold hAll
  rw [T_bind]
  refine congrArg (T _) (funext fun u => funext fun s => ?_)
  unfold hAll
  rw [T_ok]
def rectD (p : Blk) : D := .tup [.int p.x, .int p.y, .int p.w, .int p.h]
def rcsD (st : List Blk) : List D := st.map rectD
theorem rcs_plain (st : List Blk) : D.plains (rcsD st) = true := by
  rw [D.plains_all, List.all_eq_true]
  intro d hd
  obtain ⟨n, _, rfl⟩ := List.mem_map.mp hd
  rfl
structure LW (k : Nat) (w : List Cell) (st fd : List Blk) (v : List Cell) : Prop where
  dk : DOk w k
  up : Upd k w v
  len : w.length + 2 ≤ v.length
  s : v[w.length]? = some (.lst (rcsD st))
  f : v[w.length + 1]? = some (.lst (blksD fd))
theorem LW.flat {k : Nat} {st fd : List Blk} {v : List Cell} (h : LW k w st fd v) : Flat v := h.up.ok.flat
theorem LW.die {k : Nat} {st fd : List Blk} {v v' : List Cell} (h : LW k w st fd v) (u : Upd k v v') (e : v'.length = v.length) : LW k w st fd v' := by
  have hk := h.dk.lt
  have hl := h.len
  exact ⟨h.dk, h.up.trans u, by omega, by rw [u.same _ (by omega) (by omega)]; exact h.s, by rw [u.same _ (by omega) (by omega)]; exact h.f⟩
theorem LW.more {k : Nat} {st fd : List Blk} {v u : List Cell} (h : LW k w st fd v) (hu : Flat u) : LW k w st fd (v ++ u) := by
  have hl := h.len
  exact ⟨h.dk, h.up.trans (Upd.append h.up.ok hu), by rw [List.length_append]; omega, by rw [List.getElem?_append_left (by omega)]; exact h.s, by rw [List.getElem?_append_left (by omega)]; exact h.f⟩
theorem LW.setS {k : Nat} {st st' fd : List Blk} {v : List Cell} (h : LW k w st fd v) : LW k w st' fd (v.set w.length (.lst (rcsD st'))) := by
  have hl := h.len
  exact ⟨h.dk, h.up.set' (Nat.le_refl _) h.dk.lt rfl, by simpa using h.len, by rw [List.getElem?_set_self (by omega)], by rw [List.getElem?_set_ne (by omega)]; exact h.f⟩
theorem LW.setF {k : Nat} {st fd fd' : List Blk} {v : List Cell} (h : LW k w st fd v) : LW k w st fd' (v.set (w.length + 1) (.lst (blksD fd'))) := by
  have hl := h.len
  exact ⟨h.dk, h.up.set' (Nat.le_succ _) h.dk.lt rfl, by simpa using h.len, by rw [List.getElem?_set_ne (by omega)]; exact h.s, by rw [List.getElem?_set_self (by omega)]⟩
theorem LW.take {k : Nat} {st fd : List Blk} {v : List Cell} (h : LW k w st fd v) : LW k w st fd (v.take (w.length + 2)) := by
  have hl := h.len
  exact ⟨h.dk, h.up.take h.dk.lt (by omega), by rw [List.length_take]; omega, by rw [List.getElem?_take_of_lt (by omega)]; exact h.s, by rw [List.getElem?_take_of_lt (by omega)]; exact h.f⟩
def gL (k n : Nat) (a b L : Int) (o6 o7 o8 o9 o10 o11 o12 o13 : Option SV) : List (Option SV) := [some (.cell k), some (.d (.tup [.int a, .int b, .int L])), some (.d (.int 9)), some (.d (.int L)), some (.cell n), some (.cell (n + 1)), o6, o7, o8, o9, o10, o11, o12, o13, none, none]
section
variable {k : Nat} {st fd : List Blk} {v : List Cell} {a b L : Int} {o6 o7 o8 o9 o10 o11 o12 o13 : Option SV} {R : Fl → PS → Prop} {p : Blk}
theorem gL_slots (h : LW k w st fd v) {x y z u : Int} {d10 d11 d12 d13 : Option SV} (h10 : Dat' d10) (h11 : Dat' d11) (h12 : Dat' d12) (h13 : Dat' d13) (e14 e15 : Option SV) (h14 : Dat' e14) (h15 : Dat' e15) :
    Slots v.length [some (.cell k), some (.d (.tup [.int a, .int b, .int L])), some (.d (.int 9)), some (.d (.int L)), some (.cell w.length), some (.cell (w.length + 1)), some (.d (.int x)), some (.d (.int y)), some (.d (.int z)), some (.d (.int u)), d10, d11, d12, d13, e14, e15] := fun m hm => by
  have hk := h.dk.lt
  have hl := h.len
  rcases h10 with rfl | ⟨_, rfl⟩ <;> rcases h11 with rfl | ⟨_, rfl⟩ <;> rcases h12 with rfl | ⟨_, rfl⟩ <;> rcases h13 with rfl | ⟨_, rfl⟩ <;> rcases h14 with rfl | ⟨_, rfl⟩ <;> rcases h15 with rfl | ⟨_, rfl⟩ <;> simp at hm <;> omega
theorem lb1_ok (h : LW k w (st ++ [p]) fd v) (q : R .nx ⟨gL k w.length a b L (some (.d (.int p.x))) (some (.d (.int p.y))) (some (.d (.int p.w))) (some (.d (.int p.h))) o10 o11 o12 o13, v.set w.length (.lst (rcsD st))⟩) : T (lb1 ⟨gL k w.length a b L o6 o7 o8 o9 o10 o11 o12 o13, v⟩) R := by
  have hs := h.s
  have e : popM (rcsD (st ++ [p])) [] = some (rcsD st, rectD p) := by
    unfold popM rcsD
    rw [List.map_append, List.map_cons, List.map_nil]
    simp
  unfold lb1
  unfold gL at *
  rw [T_asg, T_mu, T_var]
  simp [hs, e]
  unfold rectD
  simp
  exact q
/-- the ways of a rectangle -/
def waysL (L : Int) (p : Blk) : List D := (if p.w % L = 0 then [.str (wayS true)] else []) ++ (if p.h % L = 0 then [.str (wayS false)] else [])
def fst2 : D → D
  | .tup [x, _] => x
  | _ => .non
def snd2 : D → D
  | .tup [_, x] => x
  | _ => .non
def zer2 (L : Int) : D → Bool
  | .tup [_, .int z] => decide (z % L = 0)
  | _ => false
theorem lb2_ok (l0 : 2 ≤ L) (h : LW k w st fd v) (h10 : Dat' o10) (h11 : Dat' o11) (h12 : Dat' o12) (h13 : Dat' o13)
    (q : R .nx ⟨gL k w.length a b L (some (.d (.int p.x))) (some (.d (.int p.y))) (some (.d (.int p.w))) (some (.d (.int p.h))) (some (.d (.lst (waysL L p)))) o11 o12 o13, v ++ [.gone]⟩) :
    T (lb2 ⟨gL k w.length a b L (some (.d (.int p.x))) (some (.d (.int p.y))) (some (.d (.int p.w))) (some (.d (.int p.h))) o10 o11 o12 o13, v⟩) R := by
  have ml : ∀ z : Int, modD (.int z) (.int L) = some (.int (z % L)) := fun z => if_pos (by omega)
  have ew : ([D.tup [.str "across", .int p.w], .tup [.str "down", .int p.h]].filter (zer2 L)).map fst2 = waysL L p := by
    unfold waysL
    by_cases c1 : p.w % L = 0 <;> by_cases c2 : p.h % L = 0 <;> simp [zer2, fst2, c1, c2, wayS]
  unfold lb2
  unfold gL at *
  rw [T_asg, T_frz]
  refine T_flcN (it := .seq [.tup [.str "across", .int p.w], .tup [.str "down", .int p.h]]) (xs := [.tup [.str "across", .int p.w], .tup [.str "down", .int p.h]]) (p := zer2 L) (f := fst2) (g0 := [some (.cell k), some (.d (.tup [.int a, .int b, .int L])), some (.d (.int 9)), some (.d (.int L)), some (.cell w.length), some (.cell (w.length + 1)), some (.d (.int p.x)), some (.d (.int p.y)), some (.d (.int p.w)), some (.d (.int p.h)), o10, o11, o12, o13, none, none]) (g1 := [some (.cell k), some (.d (.tup [.int a, .int b, .int L])), some (.d (.int 9)), some (.d (.int L)), some (.cell w.length), some (.cell (w.length + 1)), some (.d (.int p.x)), some (.d (.int p.y)), some (.d (.int p.w)), some (.d (.int p.h)), o10, o11, o12, o13, none, none])
    (fun d => [some (.cell k), some (.d (.tup [.int a, .int b, .int L])), some (.d (.int 9)), some (.d (.int L)), some (.cell w.length), some (.cell (w.length + 1)), some (.d (.int p.x)), some (.d (.int p.y)), some (.d (.int p.w)), some (.d (.int p.h)), o10, o11, o12, o13, some (.d (fst2 d)), some (.d (snd2 d))]) ?_ rfl (fun i hi => ?_) rfl (gL_slots h h10 h11 h12 h13 _ _ (.inl rfl) (.inl rfl)) h.flat (by rw [sizeLine_eq]; simp) ?_ (fun d _ => gL_slots h h10 h11 h12 h13 _ _ (.inr ⟨_, rfl⟩) (.inr ⟨_, rfl⟩)) (fun _ _ => rfl) ?_ ?_
  · simp [sizeLine_eq]
  · simp at hi
    rcases hi with rfl | rfl <;> exact ⟨none, rfl, .inl rfl⟩
  · intro d hd v'
    simp at hd
    rcases hd with rfl | rfl <;> simp [fst2, snd2]
  · intro d hd v' hv'
    simp at hd
    rcases hd with rfl | rfl <;> simp [fst2, snd2, zer2, ml] <;> exact ⟨[], by simp, rfl⟩
  · rw [ew]
    simp
    exact q
end
end Bf
namespace Bf
open PySem PySem.Spec PyProof.Rows L2
variable {w : List Cell} {Q : SV → List Cell → Prop}
section
variable {k : Nat} {st fd : List Blk} {v : List Cell} {a b L : Int} {o6 o7 o8 o9 o10 o11 o12 o13 : Option SV} {R : Fl → PS → Prop} {p : Blk}
theorem T_jEnumL {a : ME} {s : PS} {xs : List D} (h : T (a s) fun x s' => x = .d (.lst xs) ∧ s' = s) : T (jEnum a s) fun j s' => j = .prs (numB xs) ∧ s' = s := by
  unfold jEnum
  rw [T_bind]
  refine h.imp fun x s' ⟨e1, e2⟩ => ?_
  subst e1 e2
  exact T_ok.mpr ⟨rfl, rfl⟩
theorem rcs_len (st : List Blk) : (rcsD st).length = st.length := by unfold rcsD; rw [List.length_map]
theorem lb3_ok (q : R .nx ⟨gL k w.length a b L o6 o7 o8 o9 o10 (some (.d (.lst []))) o12 o13, v⟩) : T (lb3 ⟨gL k w.length a b L o6 o7 o8 o9 o10 o11 o12 o13, v⟩) R := by
  unfold lb3
  unfold gL at *
  simp
  exact q
theorem lb4c_ok {R : Bool → PS → Prop} (h : LW k w st fd v) (q0 : ∀ v', LW k w st fd v' → v'.length = v.length → R false ⟨gL k w.length a b L o6 o7 o8 o9 o10 o11 o12 o13, v'⟩)
    (q1 : st.length + fd.length + 1 < 9 → ∀ v', LW k w st fd v' → v'.length = v.length → R true ⟨gL k w.length a b L o6 o7 o8 o9 o10 o11 o12 o13, v'⟩) : T (lb4c ⟨gL k w.length a b L o6 o7 o8 o9 o10 o11 o12 o13, v⟩) R := by
  have hs := h.s
  have hf := h.f
  have r1 : ∀ g, rds ⟨g, v⟩ [.cell w.length] = some [.lst (rcsD st)] := fun g => by simp only [rds]; rw [rd_lst' hs]
  have r2 : ∀ g, rds ⟨g, v⟩ [.cell (w.length + 1)] = some [.lst (blksD fd)] := fun g => by simp only [rds]; rw [rd_lst' hf]
  have l1 := rcs_len st
  have l2 := blks_len fd
  unfold lb4c
  unfold gL at *
  by_cases c : ((st.length : Int) + (fd.length : Int) + 1 < 9)
  · simp [r1, r2, l1, l2, c]
    refine (take_spec (t := 5) (by decide) (by decide) k v h.up.ok).imp fun x w1 ⟨⟨hu1, hn1⟩, z, e, r, e1, r0, r5⟩ => ?_
    subst e e1
    have h' := h.die hu1 hn1
    by_cases c2 : 0 < r
    · simp [c2]
      exact q1 (by omega) _ h' hn1
    · simp [c2]
      exact q0 _ h' hn1
  · simp [r1, r2, l1, l2, c]
    exact q0 _ h rfl
def stepX (L : Int) (p : Blk) : Int := if p.h % L = 0 then 1 else L
def stepY (L : Int) (p : Blk) : Int := if p.w % L = 0 then 1 else L
def stepsD (L : Int) (p : Blk) : D := .lst [.int (stepX L p), .int (stepY L p)]
theorem lb4a_ok (l0 : 2 ≤ L) (q : R .nx ⟨gL k w.length a b L (some (.d (.int p.x))) (some (.d (.int p.y))) (some (.d (.int p.w))) (some (.d (.int p.h))) o10 o11 (some (.d (stepsD L p))) o13, v⟩) :
    T (lb4a ⟨gL k w.length a b L (some (.d (.int p.x))) (some (.d (.int p.y))) (some (.d (.int p.w))) (some (.d (.int p.h))) o10 o11 o12 o13, v⟩) R := by
  have ml : ∀ z : Int, modD (.int z) (.int L) = some (.int (z % L)) := fun z => if_pos (by omega)
  unfold lb4a
  unfold gL stepsD stepX stepY at *
  by_cases c1 : p.w % L = 0 <;> by_cases c2 : p.h % L = 0 <;> simp [ml, c1, c2, sizeLine_eq] at q ⊢ <;> exact q
/-- where a rectangle can be cut -/
def cutsL (L : Int) (p : Blk) : List D := (if stepX L p < p.w then [.int 0] else []) ++ (if stepY L p < p.h then [.int 1] else [])
def over2 (L : Int) (p : Blk) : D → Bool
  | .tup [.int 0, _] => decide (stepX L p < p.w)
  | .tup [.int 1, _] => decide (stepY L p < p.h)
  | _ => false
theorem lb4b_ok (h : LW k w st fd v) (h10 : Dat' o10) (h11 : Dat' o11) (h13 : Dat' o13)
    (q : R .nx ⟨gL k w.length a b L (some (.d (.int p.x))) (some (.d (.int p.y))) (some (.d (.int p.w))) (some (.d (.int p.h))) o10 (some (.d (.lst (cutsL L p)))) (some (.d (stepsD L p))) o13, v ++ [.gone]⟩) :
    T (lb4b ⟨gL k w.length a b L (some (.d (.int p.x))) (some (.d (.int p.y))) (some (.d (.int p.w))) (some (.d (.int p.h))) o10 o11 (some (.d (stepsD L p))) o13, v⟩) R := by
  have ew : ([D.tup [.int 0, .int p.w], .tup [.int 1, .int p.h]].filter (over2 L p)).map fst2 = cutsL L p := by
    unfold cutsL
    by_cases c1 : stepX L p < p.w <;> by_cases c2 : stepY L p < p.h <;> simp [over2, fst2, c1, c2]
  have i0 : idxD (stepsD L p) (.int 0) = some (.int (stepX L p)) := rfl
  have i1 : idxD (stepsD L p) (.int 1) = some (.int (stepY L p)) := rfl
  have hd : Dat' (some (.d (stepsD L p))) := .inr ⟨_, rfl⟩
  unfold lb4b
  unfold gL at *
  generalize stepsD L p = S at *
  rw [T_asg, T_frz]
  refine T_flcN (it := .prs [(.int 0, .int p.w), (.int 1, .int p.h)]) (xs := [.tup [.int 0, .int p.w], .tup [.int 1, .int p.h]]) (p := over2 L p) (f := fst2) (g0 := [some (.cell k), some (.d (.tup [.int a, .int b, .int L])), some (.d (.int 9)), some (.d (.int L)), some (.cell w.length), some (.cell (w.length + 1)), some (.d (.int p.x)), some (.d (.int p.y)), some (.d (.int p.w)), some (.d (.int p.h)), o10, o11, some (.d S), o13, none, none]) (g1 := [some (.cell k), some (.d (.tup [.int a, .int b, .int L])), some (.d (.int 9)), some (.d (.int L)), some (.cell w.length), some (.cell (w.length + 1)), some (.d (.int p.x)), some (.d (.int p.y)), some (.d (.int p.w)), some (.d (.int p.h)), o10, o11, some (.d S), none, none, none])
    (fun d => [some (.cell k), some (.d (.tup [.int a, .int b, .int L])), some (.d (.int 9)), some (.d (.int L)), some (.cell w.length), some (.cell (w.length + 1)), some (.d (.int p.x)), some (.d (.int p.y)), some (.d (.int p.w)), some (.d (.int p.h)), o10, o11, some (.d S), some (.d (fst2 d)), none, some (.d (snd2 d))]) ?_ rfl (fun i hi => ?_) rfl (gL_slots h h10 h11 hd h13 _ _ (.inl rfl) (.inl rfl)) h.flat (by rw [sizeLine_eq]; simp) ?_ (fun d _ => gL_slots h h10 h11 hd (.inr ⟨_, rfl⟩) _ _ (.inl rfl) (.inr ⟨_, rfl⟩)) (fun _ _ => rfl) ?_ ?_
  · refine T_jEnumL (xs := [.int p.w, .int p.h]) ?_
    simp [sizeLine_eq]
  · simp at hi
    rcases hi with rfl | rfl
    · exact ⟨o13, rfl, h13⟩
    · exact ⟨none, rfl, .inl rfl⟩
  · intro d hd v'
    simp at hd
    rcases hd with rfl | rfl <;> simp [fst2, snd2]
  · intro d hd v' hv'
    simp at hd
    rcases hd with rfl | rfl <;> simp [fst2, snd2, over2, i0, i1] <;> exact ⟨[], by simp, rfl⟩
  · rw [ew]
    simp
    exact q
end
end Bf
namespace Bf
open PySem PySem.Spec PyProof.Rows L2
variable {w : List Cell} {Q : SV → List Cell → Prop}
section
variable {k : Nat} {st fd : List Blk} {v : List Cell} {a b L : Int} {o6 o7 o8 o9 o10 o11 o12 o13 : Option SV} {R : Fl → PS → Prop} {p : Blk}
theorem lb5c_ok {R : Bool → PS → Prop} {xs : List D} (hp : D.plains xs = true) (q : R xs.isEmpty ⟨gL k w.length a b L o6 o7 o8 o9 o10 (some (.d (.lst xs))) o12 o13, v⟩) : T (lb5c ⟨gL k w.length a b L o6 o7 o8 o9 o10 (some (.d (.lst xs))) o12 o13, v⟩) R := by
  have e : eqD (.lst xs) (.lst []) = some (.bl xs.isEmpty) := by
    cases xs with
    | nil => rfl
    | cons x r => exact eq_nilD hp
  unfold lb5c
  unfold gL at *
  simp [e]
  exact q
theorem cutsL_plain (L : Int) (p : Blk) : D.plains (cutsL L p) = true := by
  unfold cutsL
  split <;> split <;> rfl
theorem waysL_ne {L : Int} (h : p.w % L = 0 ∨ p.h % L = 0) : waysL L p ≠ [] := by
  unfold waysL
  rcases h with h | h
  · simp [h]
  · simp [h]
theorem mem_ways {L : Int} {d : D} (h : d ∈ waysL L p) : ∃ u : Bool, d = .str (wayS u) ∧ (if u = true then p.w else p.h) % L = 0 := by
  unfold waysL at h
  rcases List.mem_append.mp h with h | h
  · split at h
    · rename_i c
      rw [List.mem_singleton] at h
      exact ⟨true, h, by simpa using c⟩
    · cases h
  · split at h
    · rename_i c
      rw [List.mem_singleton] at h
      exact ⟨false, h, by simpa using c⟩
    · cases h
theorem lb5f_ok (h : LW k w st fd v) (hp : p.w % L = 0 ∨ p.h % L = 0) (hf9 : fd.length ≤ 9)
    (q : ∀ u v', (if u = true then p.w else p.h) % L = 0 → LW k w st (fd ++ [⟨p.x, p.y, p.w, p.h, u⟩]) v' → R .nx ⟨gL k w.length a b L (some (.d (.int p.x))) (some (.d (.int p.y))) (some (.d (.int p.w))) (some (.d (.int p.h))) (some (.d (.lst (waysL L p)))) o11 o12 o13, v'⟩) :
    T (lb5f ⟨gL k w.length a b L (some (.d (.int p.x))) (some (.d (.int p.y))) (some (.d (.int p.w))) (some (.d (.int p.h))) (some (.d (.lst (waysL L p)))) o11 o12 o13, v⟩) R := by
  have hf := h.f
  have wl : (waysL L p).length ≤ 100000 := by
    unfold waysL
    split <;> split <;> simp
  unfold lb5f
  unfold gL at *
  rw [T_exp, T_mu, T_var]
  simp [hf]
  refine (one_lst (waysL_ne hp) wl k v h.up.ok).imp fun x w1 ⟨⟨hu1, hn1⟩, z, e, hz⟩ => ?_
  subst e
  obtain ⟨u, rfl, hu⟩ := mem_ways hz
  have h' := h.die hu1 hn1
  have hf' := h'.f
  have hl := blks_len fd
  have em : appM (blksD fd) [blkD ⟨p.x, p.y, p.w, p.h, u⟩] = some (blksD (fd ++ [⟨p.x, p.y, p.w, p.h, u⟩]), .non) := by
    refine (if_pos (by rw [hl, sizeLine_eq]; omega)).trans ?_
    unfold blksD
    rw [List.map_append]
    rfl
  unfold blkD at em
  have q := q u _ hu (h'.setF (fd' := fd ++ [⟨p.x, p.y, p.w, p.h, u⟩]))
  generalize wayS u = W at *
  dsimp only at em
  simp [sizeLine_eq, em, hf']
  exact q
theorem mem_cuts {L : Int} {d : D} (h : d ∈ cutsL L p) : (d = .int 0 ∧ stepX L p < p.w) ∨ (d = .int 1 ∧ stepY L p < p.h) := by
  unfold cutsL at h
  rcases List.mem_append.mp h with h | h
  · split at h
    · rename_i c
      rw [List.mem_singleton] at h
      exact .inl ⟨h, c⟩
    · cases h
  · split at h
    · rename_i c
      rw [List.mem_singleton] at h
      exact .inr ⟨h, c⟩
    · cases h
theorem lb5d_ok {R : Bool → PS → Prop} (h : LW k w st fd v) (hc : cutsL L p ≠ []) (q0 : stepX L p < p.w → ∀ v', LW k w st fd v' → R true ⟨gL k w.length a b L o6 o7 o8 o9 o10 (some (.d (.lst (cutsL L p)))) o12 o13, v'⟩)
    (q1 : stepY L p < p.h → ∀ v', LW k w st fd v' → R false ⟨gL k w.length a b L o6 o7 o8 o9 o10 (some (.d (.lst (cutsL L p)))) o12 o13, v'⟩) : T (lb5d ⟨gL k w.length a b L o6 o7 o8 o9 o10 (some (.d (.lst (cutsL L p)))) o12 o13, v⟩) R := by
  have wl : (cutsL L p).length ≤ 100000 := by
    unfold cutsL
    split <;> split <;> simp
  unfold lb5d
  unfold gL at *
  simp
  refine (one_lst hc wl k v h.up.ok).imp fun x w1 ⟨⟨hu1, hn1⟩, z, e, hz⟩ => ?_
  subst e
  have h' := h.die hu1 hn1
  rcases mem_cuts hz with ⟨rfl, c⟩ | ⟨rfl, c⟩
  · have e : eqD (.int 0) (.int 0) = some (.bl true) := rfl
    simp [e]
    exact q0 c _ h'
  · have e : eqD (.int 1) (.int 0) = some (.bl false) := rfl
    simp [e]
    exact q1 c _ h'
theorem ext_st {st : List Blk} {p1 p2 : Blk} (h : st.length ≤ 9) : extM (rcsD st) [.lst [rectD p1, rectD p2]] = some (rcsD (st ++ [p1, p2]), .non) := by
  refine (if_pos (by rw [rcs_len, sizeLine_eq]; simp; omega)).trans ?_
  unfold rcsD
  rw [List.map_append]
  rfl
theorem lb5x_ok (l0 : 2 ≤ L) (h : LW k w st fd v) (hx : 1 ≤ stepX L p) (hc : stepX L p < p.w) (big : p.w ≤ 1000000000000000000000000000000) (hs9 : st.length ≤ 9)
    (q : ∀ c v', 0 < c → c < p.w → c % stepX L p = 0 → LW k w (st ++ [⟨p.x, p.y, c, p.h, true⟩, ⟨p.x + c, p.y, p.w - c, p.h, true⟩]) fd v' → R .nx ⟨gL k w.length a b L (some (.d (.int p.x))) (some (.d (.int p.y))) (some (.d (.int p.w))) (some (.d (.int p.h))) o10 o11 (some (.d (stepsD L p))) (some (.d (.int c))), v'⟩) :
    T (sSeq lb5x1 lb5x2 ⟨gL k w.length a b L (some (.d (.int p.x))) (some (.d (.int p.y))) (some (.d (.int p.w))) (some (.d (.int p.h))) o10 o11 (some (.d (stepsD L p))) o13, v⟩) R := by
  have i0 : idxD (stepsD L p) (.int 0) = some (.int (stepX L p)) := rfl
  unfold lb5x1 lb5x2
  unfold gL at *
  generalize stepsD L p = S at *
  generalize stepX L p = X at *
  simp [i0]
  refine (cut_spec hx hc big k v h.up.ok).imp fun x w1 ⟨⟨hu1, hn1⟩, z, e, c, e1, c0, c1, c2⟩ => ?_
  subst e e1
  have h' := h.die hu1 hn1
  have hs := h'.s
  have es := ext_st (p1 := ⟨p.x, p.y, c, p.h, true⟩) (p2 := ⟨p.x + c, p.y, p.w - c, p.h, true⟩) hs9
  have q := q c _ c0 c1 c2 (h'.setS (st' := st ++ [⟨p.x, p.y, c, p.h, true⟩, ⟨p.x + c, p.y, p.w - c, p.h, true⟩]))
  unfold rectD at es
  dsimp only at es
  simp [sizeLine_eq, es, hs]
  exact q
theorem lb5y_ok (l0 : 2 ≤ L) (h : LW k w st fd v) (hx : 1 ≤ stepY L p) (hc : stepY L p < p.h) (big : p.h ≤ 1000000000000000000000000000000) (hs9 : st.length ≤ 9)
    (q : ∀ c v', 0 < c → c < p.h → c % stepY L p = 0 → LW k w (st ++ [⟨p.x, p.y, p.w, c, true⟩, ⟨p.x, p.y + c, p.w, p.h - c, true⟩]) fd v' → R .nx ⟨gL k w.length a b L (some (.d (.int p.x))) (some (.d (.int p.y))) (some (.d (.int p.w))) (some (.d (.int p.h))) o10 o11 (some (.d (stepsD L p))) (some (.d (.int c))), v'⟩) :
    T (sSeq lb5y1 lb5y2 ⟨gL k w.length a b L (some (.d (.int p.x))) (some (.d (.int p.y))) (some (.d (.int p.w))) (some (.d (.int p.h))) o10 o11 (some (.d (stepsD L p))) o13, v⟩) R := by
  have i0 : idxD (stepsD L p) (.int 1) = some (.int (stepY L p)) := rfl
  unfold lb5y1 lb5y2
  unfold gL at *
  generalize stepsD L p = S at *
  generalize stepY L p = X at *
  simp [i0]
  refine (cut_spec hx hc big k v h.up.ok).imp fun x w1 ⟨⟨hu1, hn1⟩, z, e, c, e1, c0, c1, c2⟩ => ?_
  subst e e1
  have h' := h.die hu1 hn1
  have hs := h'.s
  have es := ext_st (p1 := ⟨p.x, p.y, p.w, c, true⟩) (p2 := ⟨p.x, p.y + c, p.w, p.h - c, true⟩) hs9
  have q := q c _ c0 c1 c2 (h'.setS (st' := st ++ [⟨p.x, p.y, p.w, c, true⟩, ⟨p.x, p.y + c, p.w, p.h - c, true⟩]))
  unfold rectD at es
  dsimp only at es
  simp [sizeLine_eq, es, hs]
  exact q
end
end Bf
namespace Bf
open PySem PySem.Spec PyProof.Rows L2
variable {w : List Cell} {Q : SV → List Cell → Prop}
theorem lbT_ok {k : Nat} {st fd : List Blk} {v : List Cell} {a b L : Int} {o6 o7 o8 o9 o10 o11 o12 o13 : Option SV} {R : Bool → PS → Prop} (h : LW k w st fd v) (q : R (!st.isEmpty) ⟨gL k w.length a b L o6 o7 o8 o9 o10 o11 o12 o13, v⟩) : T (lbT ⟨gL k w.length a b L o6 o7 o8 o9 o10 o11 o12 o13, v⟩) R := by
  have hs := h.s
  have r1 : ∀ g, rd ⟨g, v⟩ (.cell w.length) = some (.lst (rcsD st)) := fun g => rd_lst' hs
  have e : neD (.lst (rcsD st)) (.lst []) = some (.bl (!st.isEmpty)) := by
    cases st with
    | nil => rfl
    | cons x r => exact ne_nilD (rcs_plain (x :: r))
  unfold lbT
  unfold gL at *
  simp [r1, e]
  simpa using q
theorem blks_sortL {bl : List Blk} (h : bl.length ≤ 64) : sortedX [.lst (blksD bl)] = some (.lst (sortD (blksD bl))) := blks_sort h
theorem gL_drop {k n : Nat} {a b L : Int} {o6 o7 o8 o9 o10 o11 o12 o13 : Option SV} (hk : k < n) (h6 : Dat' o6) (h7 : Dat' o7) (h8 : Dat' o8) (h9 : Dat' o9) (h10 : Dat' o10) (h11 : Dat' o11) (h12 : Dat' o12) (h13 : Dat' o13) :
    (gL k n a b L o6 o7 o8 o9 o10 o11 o12 o13).map (dropG (n + 2)) = gL k n a b L o6 o7 o8 o9 o10 o11 o12 o13 := by
  have d : ∀ o : Option SV, Dat' o → dropG (n + 2) o = o := fun o h => by rcases h with rfl | ⟨_, rfl⟩ <;> rfl
  unfold gL
  simp only [List.map_cons, List.map_nil, d _ h6, d _ h7, d _ h8, d _ h9, d _ h10, d _ h11, d _ h12, d _ h13, dropG_none, dropG_d]
  rw [dropG_lt (by omega), dropG_lt (by omega), dropG_lt (by omega)]
theorem step_one {L : Int} {p : Blk} (l0 : 2 ≤ L) : 1 ≤ stepX L p ∧ 1 ≤ stepY L p := by
  unfold stepX stepY
  constructor <;> split <;> omega
theorem blocks_spec {a b L : Int} (hs : Sz a b L) (hl : a % L = 0 ∨ b % L = 0) : Dies m__law_blocks [.d (.tup [.int a, .int b, .int L]), .d (.int 9)] fun y => ∃ bl fd, y = .lst (blksD bl) ∧ blksD bl = sortD (blksD fd) ∧ Blks a b L bl ∧ bl.length ≤ 9 := by
  obtain ⟨Pq, hPq⟩ : ∃ P : D → Prop, P = (fun y => ∃ bl fd, y = .lst (blksD bl) ∧ blksD bl = sortD (blksD fd) ∧ Blks a b L bl ∧ bl.length ≤ 9) := ⟨_, rfl⟩
  rw [← hPq]
  intro k w hw
  have l0 := hs.l0
  obtain ⟨a9, b9, _⟩ := hs.big
  have hk := hw.lt
  unfold m__law_blocks
  rw [lb_body, FT_fn]
  refine T_seq_of (fun s => s = ⟨gL k w.length a b L none none none none none none none none, w ++ [.lst (rcsD [⟨0, 0, a, b, true⟩]), .lst []]⟩) ?_ fun s e => ?_
  · unfold lb0 gL
    simp [sizeLine_eq, rcsD, rectD]
  subst e
  have h0 : LW k w [⟨0, 0, a, b, true⟩] [] (w ++ [.lst (rcsD [⟨0, 0, a, b, true⟩]), .lst []]) := ⟨hw, Upd.append hw (by simp), by simp, by simp, by simp [blksD]⟩
  have hl0 : (w ++ [Cell.lst (rcsD [⟨0, 0, a, b, true⟩]), Cell.lst []]).length = w.length + 2 := by simp
  generalize w ++ [Cell.lst (rcsD [⟨0, 0, a, b, true⟩]), Cell.lst []] = v0 at *
  obtain ⟨Inv, hInv⟩ : ∃ P : Nat → PS → Prop, P = (fun m s => ∃ st fd v o6 o7 o8 o9 o10 o11 o12 o13, Dat' o6 ∧ Dat' o7 ∧ Dat' o8 ∧ Dat' o9 ∧ Dat' o10 ∧ Dat' o11 ∧ Dat' o12 ∧ Dat' o13 ∧ LW k w st fd v ∧ Til a b L st fd ∧ st.length + fd.length ≤ 9 ∧ m = 2 * (9 - (st.length + fd.length)) + st.length ∧ s = ⟨gL k w.length a b L o6 o7 o8 o9 o10 o11 o12 o13, v⟩) := ⟨_, rfl⟩
  obtain ⟨P2, hP2⟩ : ∃ P : PS → Prop, P = (fun s => ∃ fd v o6 o7 o8 o9 o10 o11 o12 o13, LW k w [] fd v ∧ Blks a b L fd ∧ fd.length ≤ 9 ∧ s = ⟨gL k w.length a b L o6 o7 o8 o9 o10 o11 o12 o13, v⟩) := ⟨_, rfl⟩
  refine T_seq_of P2 ?_ fun s hs2 => ?_
  · refine T_sWhile Inv 17 (by decide) ?_ fun m s1 hI => ?_
    · rw [hInv]
      exact ⟨[⟨0, 0, a, b, true⟩], [], v0, none, none, none, none, none, none, none, none, .inl rfl, .inl rfl, .inl rfl, .inl rfl, .inl rfl, .inl rfl, .inl rfl, .inl rfl, h0, Til.start hs hl, by simp, by simp, rfl⟩
    · rw [hInv] at hI
      obtain ⟨st, fd, v, o6, o7, o8, o9, o10, o11, o12, o13, d6, d7, d8, d9, d10, d11, d12, d13, h, ht, hn, hm, rfl⟩ := hI
      refine lbT_ok h ?_
      rcases List.eq_nil_or_concat st with rfl | ⟨st', p, rfl⟩
      · rw [if_neg (by simp)]
        rw [hP2]
        exact ⟨rfl, fd, v, o6, o7, o8, o9, o10, o11, o12, o13, h, ht.done (by simp at hn; omega), by simpa using hn, rfl⟩
      · rw [List.concat_eq_append] at *
        rw [if_pos (by simp)]
        dsimp only
        rw [hl0]
        have hp := ht.inl p (by simp)
        have hq : (st' ++ [p]).length = st'.length + 1 := by simp
        rw [hq] at hn hm
        have fin : ∀ (st2 fd2 : List Blk) (v' : List Cell) (o10' o11' o12' o13' : Option SV), Dat' o10' → Dat' o11' → Dat' o12' → Dat' o13' → LW k w st2 fd2 v' → Til a b L st2 fd2 → st2.length + fd2.length ≤ 9 → 2 * (9 - (st2.length + fd2.length)) + st2.length < m →
            WhN (w.length + 2) Inv m (fun f s => f = .nx ∧ P2 s) .nx ⟨gL k w.length a b L (some (.d (.int p.x))) (some (.d (.int p.y))) (some (.d (.int p.w))) (some (.d (.int p.h))) o10' o11' o12' o13', v'⟩ := fun st2 fd2 v' o10' o11' o12' o13' d10' d11' d12' d13' h' t' n' m' => by
          rw [WhN_nx]
          refine ⟨_, Flat.trunc h'.flat _, _, m', ?_⟩
          rw [hInv]
          refine ⟨st2, fd2, v'.take (w.length + 2), some (.d (.int p.x)), some (.d (.int p.y)), some (.d (.int p.w)), some (.d (.int p.h)), o10', o11', o12', o13', .inr ⟨_, rfl⟩, .inr ⟨_, rfl⟩, .inr ⟨_, rfl⟩, .inr ⟨_, rfl⟩, d10', d11', d12', d13', h'.take, t', n', rfl, ?_⟩
          dsimp only
          rw [gL_drop hk (.inr ⟨_, rfl⟩) (.inr ⟨_, rfl⟩) (.inr ⟨_, rfl⟩) (.inr ⟨_, rfl⟩) d10' d11' d12' d13']
        rw [T_seq]
        refine lb1_ok h ?_
        have h1 : LW k w st' fd (v.set w.length (.lst (rcsD st'))) := h.setS
        generalize v.set w.length (.lst (rcsD st')) = v1 at *
        dsimp only
        rw [T_seq]
        refine lb2_ok l0 h1 d10 d11 d12 d13 ?_
        have h2 := h1.more (u := [.gone]) (by simp)
        generalize v1 ++ [Cell.gone] = v2 at *
        dsimp only
        rw [T_seq]
        refine lb3_ok ?_
        dsimp only
        have dw : Dat' (some (.d (.lst (waysL L p)))) := .inr ⟨_, rfl⟩
        have found : ∀ (v3 : List Cell) (o12' : Option SV), Dat' o12' → LW k w st' fd v3 → T (sIf lb5c lb5f (sIf lb5d (sSeq lb5x1 lb5x2) (sSeq lb5y1 lb5y2)) ⟨gL k w.length a b L (some (.d (.int p.x))) (some (.d (.int p.y))) (some (.d (.int p.w))) (some (.d (.int p.h))) (some (.d (.lst (waysL L p)))) (some (.d (.lst []))) o12' o13, v3⟩) (WhN (w.length + 2) Inv m fun f s => f = .nx ∧ P2 s) := fun v3 o12' d12' h3 => by
          rw [T_sIf]
          refine lb5c_ok rfl ?_
          rw [if_pos (show ([] : List D).isEmpty = true from rfl)]
          refine lb5f_ok h3 hp.dv (by omega) fun u v' hu h' => ?_
          refine fin st' _ v' _ _ _ _ dw (.inr ⟨_, rfl⟩) d12' d13 h' (ht.found rfl rfl rfl rfl ⟨hp.x0, hp.y0, hp.w0, hp.h0, hp.xw, hp.yh, hu⟩) (by simp; omega) (by simp; omega)
        rw [T_seq, T_sIf]
        refine lb4c_ok h2 (fun v3 h3 _ => ?_) (fun few v3 h3 _ => ?_)
        · rw [if_neg (by decide)]
          rw [T_sNx]
          dsimp only
          exact found v3 o12 d12 h3
        · rw [if_pos rfl, T_seq]
          refine lb4a_ok l0 ?_
          dsimp only
          refine lb4b_ok h3 dw (.inr ⟨_, rfl⟩) d13 ?_
          have h4 := h3.more (u := [.gone]) (by simp)
          generalize v3 ++ [Cell.gone] = v4 at *
          dsimp only
          by_cases cn : cutsL L p = []
          · rw [cn]
            exact found v4 _ (.inr ⟨_, rfl⟩) h4
          · rw [T_sIf]
            refine lb5c_ok (cutsL_plain L p) ?_
            have ce : (cutsL L p).isEmpty = false := by
              cases h : cutsL L p with
              | nil => exact absurd h cn
              | cons _ _ => rfl
            rw [ce, if_neg (by decide), T_sIf]
            obtain ⟨x1, y1⟩ := step_one (p := p) l0
            have pw9 : p.w ≤ 1000000000000000000000000000000 := by have := hp.xw; have := hp.x0; omega
            have ph9 : p.h ≤ 1000000000000000000000000000000 := by have := hp.yh; have := hp.y0; omega
            refine lb5d_ok h4 cn (fun sx v5 h5 => ?_) (fun sy v5 h5 => ?_)
            · rw [if_pos rfl]
              refine lb5x_ok l0 h5 x1 sx pw9 (by omega) fun c v6 c0 c1 c2 h6 => ?_
              refine fin _ _ v6 _ _ _ _ dw (.inr ⟨_, rfl⟩) (.inr ⟨_, rfl⟩) (.inr ⟨_, rfl⟩) h6 (ht.cutx l0 c0 c1 ?_) (by simp; omega) (by simp; omega)
              unfold stepX at c2
              by_cases e : p.h % L = 0
              · exact .inl e
              · rw [if_neg e] at c2
                exact .inr c2
            · rw [if_neg (by decide)]
              refine lb5y_ok l0 h5 y1 sy ph9 (by omega) fun c v6 c0 c1 c2 h6 => ?_
              refine fin _ _ v6 _ _ _ _ dw (.inr ⟨_, rfl⟩) (.inr ⟨_, rfl⟩) (.inr ⟨_, rfl⟩) h6 (ht.cuty l0 c0 c1 ?_) (by simp; omega) (by simp; omega)
              unfold stepY at c2
              by_cases e : p.w % L = 0
              · exact .inl e
              · rw [if_neg e] at c2
                exact .inr c2
  · rw [hP2] at hs2
    obtain ⟨fd, v, o6, o7, o8, o9, o10, o11, o12, o13, h, hB, h9, rfl⟩ := hs2
    obtain ⟨bl, e1, hp⟩ := sorted_blks fd
    have hf := h.f
    have r2 : ∀ g, rds ⟨g, v⟩ [.cell (w.length + 1)] = some [.lst (blksD fd)] := fun g => by simp only [rds]; rw [rd_lst' hf]
    have sb := blks_sortL (bl := fd) (by omega)
    unfold lbE gL
    simp [r2, sb]
    refine die_end h.up hw ?_
    rw [hPq]
    exact ⟨bl, fd, by rw [e1], e1.symm, hB.perm hp, by rw [hp.length_eq]; exact h9⟩
end Bf
namespace Bf
/-! ### counting in runs of whole numbers -/
/-- how many t of lo, .., lo + n - 1 are so -/
def cS (p : Int → Bool) (lo : Int) : Nat → Int
  | 0 => 0
  | n + 1 => (if p lo = true then 1 else 0) + cS p (lo + 1) n
theorem cS_add (p : Int → Bool) : ∀ (m : Nat) (lo : Int) (n : Nat), cS p lo (m + n) = cS p lo m + cS p (lo + m) n
  | 0, lo, n => by simp [cS]
  | m + 1, lo, n => by
    rw [show m + 1 + n = (m + n) + 1 by omega, cS, cS, cS_add p m (lo + 1) n, show lo + 1 + (m : Int) = lo + ((m + 1 : Nat) : Int) by omega]
    omega
theorem cS_snoc (p : Int → Bool) (lo : Int) (n : Nat) : cS p lo (n + 1) = cS p lo n + if p (lo + n) = true then 1 else 0 := by
  rw [cS_add p n lo 1]
  simp [cS]
theorem cS_congr {p q : Int → Bool} : ∀ {n : Nat} {lo : Int}, (∀ t, lo ≤ t → t < lo + n → p t = q t) → cS p lo n = cS q lo n
  | 0, _, _ => rfl
  | n + 1, lo, h => by
    rw [cS, cS, h lo (by omega) (by omega), cS_congr (n := n) fun t h1 h2 => h t (by omega) (by omega)]
theorem cS_all {p : Int → Bool} : ∀ {n : Nat} {lo : Int}, (∀ t, lo ≤ t → t < lo + n → p t = true) → cS p lo n = n
  | 0, _, _ => rfl
  | n + 1, lo, h => by
    rw [cS, h lo (by omega) (by omega), cS_all (n := n) fun t h1 h2 => h t (by omega) (by omega)]
    simp
    omega
theorem cS_none {p : Int → Bool} : ∀ {n : Nat} {lo : Int}, (∀ t, lo ≤ t → t < lo + n → p t = false) → cS p lo n = 0
  | 0, _, _ => rfl
  | n + 1, lo, h => by
    rw [cS, h lo (by omega) (by omega), cS_none (n := n) fun t h1 h2 => h t (by omega) (by omega)]
    simp
theorem cS_nonneg {p : Int → Bool} : ∀ {n : Nat} {lo : Int}, 0 ≤ cS p lo n
  | 0, _ => Int.le_refl _
  | n + 1, lo => by
    have := cS_nonneg (p := p) (n := n) (lo := lo + 1)
    rw [cS]
    split <;> omega
theorem cS_or {p q : Int → Bool} (h : ∀ t, ¬ (p t = true ∧ q t = true)) : ∀ {n : Nat} {lo : Int}, cS (fun t => p t || q t) lo n = cS p lo n + cS q lo n
  | 0, _ => rfl
  | n + 1, lo => by
    rw [cS, cS, cS, cS_or h (n := n)]
    have := h lo
    cases h1 : p lo <;> cases h2 : q lo <;> simp [h1, h2] at this ⊢ <;> omega
theorem step_div {m L : Int} (l0 : 0 < L) : m / L = (m - 1) / L + if m % L = 0 then 1 else 0 := by
  have e := Int.emod_add_mul_ediv (m - 1) L
  have s0 := Int.emod_nonneg (m - 1) (show L ≠ 0 by omega)
  have s1 := Int.emod_lt_of_pos (m - 1) l0
  generalize (m - 1) / L = q at *
  generalize (m - 1) % L = s at *
  by_cases c : s + 1 < L
  · obtain ⟨d1, d2⟩ := (Int.ediv_emod_unique (a := m) (b := L) (q := q) (r := s + 1) l0).mpr ⟨by omega, by omega, c⟩
    rw [d1, d2, if_neg (by omega)]
    omega
  · have hs : s + 1 = L := by omega
    have hm : 0 + L * (q + 1) = m := by
      rw [Int.mul_add]
      omega
    obtain ⟨d1, d2⟩ := (Int.ediv_emod_unique (a := m) (b := L) (q := q + 1) (r := 0) l0).mpr ⟨hm, by omega, l0⟩
    rw [d1, d2, if_pos rfl]
/-- how many of lo, .., lo + n - 1 leave r -/
theorem cS_mod {L r lo : Int} (l0 : 0 < L) (r0 : 0 ≤ r) (r1 : r < L) : ∀ n : Nat, cS (fun t => decide (t % L = r)) lo n = if lo + n ≤ lo + (r - lo) % L then 0 else (lo + n - 1 - (lo + (r - lo) % L)) / L + 1
  | 0 => by
    have := Int.emod_nonneg (r - lo) (show L ≠ 0 by omega)
    rw [if_pos (by omega)]
    rfl
  | n + 1 => by
    have d0 := Int.emod_nonneg (r - lo) (show L ≠ 0 by omega)
    have d1 := Int.emod_lt_of_pos (r - lo) l0
    have key : (lo + (n : Int)) % L = r ↔ ((n : Int) - (r - lo) % L) % L = 0 := by
      have e1 : ((n : Int) - (r - lo) % L) % L = ((n : Int) - (r - lo)) % L := by
        rw [Int.sub_emod, Int.emod_emod, ← Int.sub_emod]
      rw [e1, show (n : Int) - (r - lo) = (lo + n) - r by omega, ← Int.emod_eq_emod_iff_emod_sub_eq_zero, Int.emod_eq_of_lt r0 r1]
    rw [cS_snoc, cS_mod l0 r0 r1 n]
    generalize (r - lo) % L = d at *
    rcases Int.lt_trichotomy (n : Int) d with c | c | c
    · rw [if_pos (show lo + (n : Int) ≤ lo + d by omega), if_pos (show lo + ((n + 1 : Nat) : Int) ≤ lo + d by omega)]
      have : ¬ ((lo + (n : Int)) % L = r) := fun h => by
        have := key.mp h
        have e := Int.emod_eq_of_lt (a := (n : Int) - d + L) (b := L) (by omega) (by omega)
        rw [Int.add_emod_right] at e
        omega
      simp [this]
    · have : (lo + (n : Int)) % L = r := key.mpr (by rw [c]; simp)
      rw [if_pos (show lo + (n : Int) ≤ lo + d by omega), if_neg (show ¬ lo + ((n + 1 : Nat) : Int) ≤ lo + d by omega)]
      rw [show lo + ((n + 1 : Nat) : Int) - 1 - (lo + d) = 0 by omega]
      simp [this]
    · rw [if_neg (show ¬ lo + (n : Int) ≤ lo + d by omega), if_neg (show ¬ lo + ((n + 1 : Nat) : Int) ≤ lo + d by omega)]
      have sd := step_div (m := (n : Int) - d) l0
      have e1 : lo + ((n + 1 : Nat) : Int) - 1 - (lo + d) = (n : Int) - d := by omega
      have e2 : lo + (n : Int) - 1 - (lo + d) = (n : Int) - d - 1 := by omega
      rw [e1, e2, sd]
      by_cases k : ((n : Int) - d) % L = 0
      · simp only [key.mpr k, k, decide_true, if_true]
      · have : ¬ ((lo + (n : Int)) % L = r) := fun h => k (key.mp h)
        simp only [this, k, decide_false, if_false, Bool.false_eq_true]
        omega
theorem mod_is {t L r : Int} (l0 : 0 < L) (r0 : 0 ≤ r) (r1 : r < L) : t % L = r ↔ (t - r) % L = 0 := by
  rw [← Int.emod_eq_emod_iff_emod_sub_eq_zero, Int.emod_eq_of_lt r0 r1]
/-- .. told as the program tells it -/
theorem cS_mod2 {L r lo : Int} (l0 : 0 < L) (r0 : 0 ≤ r) (r1 : r < L) : ∀ n : Nat, cS (fun t => decide (t % L = r)) lo n = (lo + n - 1 - r) / L - (lo - 1 - r) / L
  | 0 => by
    rw [show lo + ((0 : Nat) : Int) - 1 - r = lo - 1 - r by omega]
    simp [cS]
  | n + 1 => by
    rw [cS_snoc, cS_mod2 l0 r0 r1 n]
    have sd := step_div (m := lo + (n : Int) - r) l0
    rw [show lo + ((n + 1 : Nat) : Int) - 1 - r = lo + (n : Int) - r by omega, sd, show lo + (n : Int) - r - 1 = lo + (n : Int) - 1 - r by omega]
    have k := mod_is (t := lo + (n : Int)) l0 r0 r1
    by_cases c : (lo + (n : Int) - r) % L = 0
    · simp only [k.mpr c, c, decide_true, if_true]
      omega
    · have : ¬ ((lo + (n : Int)) % L = r) := fun h => c (k.mp h)
      simp only [this, c, decide_false, if_false, Bool.false_eq_true]
      omega
end Bf
namespace Bf
open PySem PySem.Spec PyProof.Rows L2
/-! ### seams counted between cuts -/
def seamB (ss : List Span) (L t : Int) : Bool := decide (cntP ss L t = 0)
/-- the seams strictly between -/
def numS (ss : List Span) (L lo hi : Int) : Int := cS (seamB ss L) (lo + 1) (hi - lo - 1).toNat
theorem numS_split {ss : List Span} {L a b c : Int} (h1 : a < b) (h2 : b < c) : numS ss L a c = numS ss L a b + (if seamB ss L b = true then 1 else 0) + numS ss L b c := by
  unfold numS
  rw [show (c - a - 1).toNat = (b - a - 1).toNat + (1 + (c - b - 1).toNat) by omega, cS_add, cS_add]
  rw [show a + 1 + (((b - a - 1).toNat : Nat) : Int) = b by omega]
  simp only [cS]
  rw [show b + ((1 : Nat) : Int) = b + 1 by omega]
  omega
theorem cuts_sum {ss : List Span} {L : Int} : ∀ (rest : List Int) (c : Int), (c :: rest).Pairwise (· < ·) →
    ((((c :: rest).drop 1).dropLast.filter (seamB ss L)).length : Int) + ((pairsP (c :: rest)).map fun p => numS ss L p.1 p.2).sum = numS ss L c ((c :: rest).getLast (by simp))
  | [], c, _ => by
    have : numS ss L c c = 0 := by
      unfold numS
      rw [show (c - c - 1).toNat = 0 by omega]
      rfl
    simp [pairsP, this]
  | [l], c, _ => by simp [pairsP]
  | l :: m :: rest, c, h => by
    obtain ⟨h1, h2⟩ := List.pairwise_cons.mp h
    have ih := cuts_sum (ss := ss) (L := L) (m :: rest) l h2
    have ep : pairsP (c :: l :: m :: rest) = (c, l) :: pairsP (l :: m :: rest) := by unfold pairsP; simp
    have el : (c :: l :: m :: rest).getLast (by simp) = (l :: m :: rest).getLast (by simp) := by simp
    have ll : l < (l :: m :: rest).getLast (by simp) := by
      rw [List.getLast_cons (by simp)]
      exact (List.pairwise_cons.mp h2).1 _ (List.getLast_mem _)
    have cl := h1 l (by simp)
    rw [ep, el, List.map_cons, List.sum_cons, numS_split cl ll, ← ih]
    have ed : ((c :: l :: m :: rest).drop 1).dropLast = l :: ((l :: m :: rest).drop 1).dropLast := by simp
    rw [ed]
    cases hb : seamB ss L l with
    | true =>
      rw [List.filter_cons_of_pos hb, List.length_cons]
      simp
      omega
    | false =>
      rw [List.filter_cons_of_neg (by simp [hb])]
      simp
      omega
/-- what the program counts between two cuts -/
def mInP (L b l : Int) : List Int → Int
  | [] => l - b - 1
  | [r] => (l - 1 - r) / L - (b - r) / L
  | _ => 0
theorem mInP_0 {L b l : Int} : mInP L b l [] = l - b - 1 := rfl
theorem mInP_1 {L b l r : Int} : mInP L b l [r] = (l - 1 - r) / L - (b - r) / L := rfl
theorem mInP_2 {L b l r r2 : Int} {R : List Int} : mInP L b l (r :: r2 :: R) = 0 := rfl
theorem seamB_iff {ss : List Span} {side L t : Int} (h : SpOk ss side) : seamB ss L t = true ↔ Seam ss L t := by
  unfold seamB
  rw [decide_eq_true_eq]
  exact cnt_seam h
theorem inside_num {ss : List Span} {side L b l : Int} (l0 : 2 ≤ L) (ok : SpOk ss side) (sep : ∀ p ∈ ss, (p.s ≤ b ∨ l ≤ p.s) ∧ (p.e ≤ b ∨ l ≤ p.e)) (hbl : b < l) : mInP L b l (remP ss L b l) = numS ss L b l := by
  have key : ∀ t, b + 1 ≤ t → t < b + 1 + ((l - b - 1).toNat : Int) → (seamB ss L t = true ↔ ∀ r ∈ remP ss L b l, r = t % L) := fun t t1 t2 => (seamB_iff ok).trans (seam_seg l0 sep (by omega) (by omega))
  have hs : (remP ss L b l).Pairwise (· < ·) := lt_ssZ _
  have hr : ∀ r ∈ remP ss L b l, 0 ≤ r ∧ r < L := fun r hr => by
    obtain ⟨p, _, _, _, rfl⟩ := mem_rem.mp hr
    exact ⟨Int.emod_nonneg _ (by omega), Int.emod_lt_of_pos _ (by omega)⟩
  unfold numS
  generalize remP ss L b l = R at *
  match R with
  | [] =>
    rw [mInP_0, cS_all fun t t1 t2 => (key t t1 t2).mpr (fun r hr => by cases hr)]
    omega
  | [r] =>
    have r0 := hr r (by simp)
    rw [mInP_1, cS_congr (q := fun t => decide (t % L = r)) (fun t t1 t2 => ?_), cS_mod2 (by omega) r0.1 r0.2]
    · rw [show b + 1 + ((l - b - 1).toNat : Int) - 1 - r = l - 1 - r by omega, show b + 1 - 1 - r = b - r by omega]
    · have k := key t t1 t2
      by_cases c : t % L = r
      · rw [decide_eq_true c]
        exact k.mpr fun r' hr' => by
          rw [List.mem_singleton] at hr'
          omega
      · rw [decide_eq_false c]
        cases hb : seamB ss L t with
        | false => rfl
        | true => exact absurd (k.mp hb r (by simp)).symm c
  | r :: r2 :: R =>
    rw [mInP_2, cS_none fun t t1 t2 => ?_]
    have k := key t t1 t2
    cases hb : seamB ss L t with
    | false => rfl
    | true =>
      have q1 := k.mp hb r (by simp)
      have q2 := k.mp hb r2 (by simp)
      have := (List.pairwise_cons.mp hs).1 r2 (by simp)
      omega
end Bf
namespace Bf
open PySem PySem.Spec PyProof.Rows L2
/-! ### the law's own count between two ends -/
theorem len_sub : ∀ {xs ys : List Int}, xs.Nodup → (∀ x ∈ xs, x ∈ ys) → xs.length ≤ ys.length
  | [], _, _, _ => Nat.zero_le _
  | x :: xs, ys, hn, hs => by
    obtain ⟨h1, h2⟩ := List.nodup_cons.mp hn
    have hx := hs x (by simp)
    have ih := len_sub (ys := ys.erase x) h2 fun y hy => by
      have hne : y ≠ x := fun e => h1 (e ▸ hy)
      exact (List.mem_erase_of_ne hne).mpr (hs y (List.mem_cons_of_mem _ hy))
    rw [List.length_erase_of_mem hx] at ih
    have : 0 < ys.length := List.length_pos_of_mem hx
    rw [List.length_cons]
    omega
theorem cS_zero {q : Int → Bool} : ∀ {n : Nat} {lo : Int}, cS q lo n = 0 → ∀ t, lo ≤ t → t < lo + n → q t = false
  | 0, _, _, t, h1, h2 => by omega
  | n + 1, lo, h, t, h1, h2 => by
    rw [cS] at h
    have h0 := cS_nonneg (p := q) (n := n) (lo := lo + 1)
    by_cases e : t = lo
    · subst e
      cases hq : q t with
      | false => rfl
      | true => rw [hq] at h; simp at h; omega
    · refine cS_zero (n := n) (lo := lo + 1) ?_ t (by omega) (by omega)
      split at h <;> omega
theorem cS_parts (p : Int → Bool) (L lo : Int) (n : Nat) : ∀ marks : List Int, marks.Nodup → cS p lo n = (marks.map fun m => cS (fun t => p t && decide (t % L = m)) lo n).sum + cS (fun t => p t && !decide (t % L ∈ marks)) lo n
  | [], _ => by
    simp only [List.map_nil, List.sum_nil]
    rw [cS_congr (q := p) (p := fun t => p t && !decide (t % L ∈ [])) (fun t _ _ => by simp)]
    omega
  | m :: ms, hn => by
    obtain ⟨h1, h2⟩ := List.nodup_cons.mp hn
    rw [cS_parts p L lo n ms h2, List.map_cons, List.sum_cons]
    have e : cS (fun t => p t && !decide (t % L ∈ ms)) lo n = cS (fun t => p t && decide (t % L = m)) lo n + cS (fun t => p t && !decide (t % L ∈ m :: ms)) lo n := by
      rw [← cS_or]
      · refine cS_congr fun t _ _ => ?_
        by_cases c : t % L = m
        · have : ¬ (t % L ∈ ms) := by rw [c]; exact h1
          cases p t <;> simp [c, h1]
        · cases p t <;> simp [c]
      · rintro t ⟨q1, q2⟩
        rw [Bool.and_eq_true] at q1 q2
        have := q1.2
        have q3 := q2.2
        simp at this q3
        exact q3.1 this
    rw [e]
    omega
def manyP (f l m L : Int) : Int := if l ≤ f + 1 + (m - f - 1) % L then 0 else (l - 1 - (f + 1 + (m - f - 1) % L)) / L + 1
def repP (f m L : Int) : Int := f + 1 + (m - f - 1) % L
theorem many_is {f l m L : Int} (l0 : 0 < L) (m0 : 0 ≤ m) (m1 : m < L) (h : f < l) : manyP f l m L = cS (fun t => decide (t % L = m)) (f + 1) (l - f - 1).toNat := by
  rw [cS_mod l0 m0 m1]
  unfold manyP
  rw [show m - (f + 1) = m - f - 1 by omega, show f + 1 + ((l - f - 1).toNat : Int) = l by omega]
theorem rep_mod {f m L : Int} (l0 : 0 < L) (m0 : 0 ≤ m) (m1 : m < L) : repP f m L % L = m := by
  unfold repP
  rw [Int.add_emod, Int.emod_emod, ← Int.add_emod, show f + 1 + (m - f - 1) = m by omega]
  exact Int.emod_eq_of_lt m0 m1
def othP (f l L : Int) (marks : List Int) : Int := l - f - 1 - (marks.map fun m => manyP f l m L).sum
def freeP (f l L : Int) (marks : List Int) : List Int := ((List.range (min l (f + 2 + marks.length) - (f + 1)).toNat).map fun (i : Nat) => f + 1 + (i : Int)).filter fun t => !decide (t % L ∈ marks)
def freeOk (ss : List Span) (L : Int) : List Int → Bool
  | [] => false
  | t :: _ => seamB ss L t
def lawP (ss : List Span) (L f l : Int) (marks : List Int) : Int :=
  (marks.map fun m => if 0 < manyP f l m L ∧ cntP ss L (repP f m L) = 0 then manyP f l m L else 0).sum + if 0 < othP f l L marks ∧ freeOk ss L (freeP f l L marks) = true then othP f l L marks else 0
theorem cS_pos {q : Int → Bool} {n : Nat} {lo : Int} (h : 0 < cS q lo n) : ∃ t, lo ≤ t ∧ t < lo + n ∧ q t = true := by
  refine Classical.byContradiction fun c => ?_
  have : cS q lo n = 0 := cS_none fun t h1 h2 => by
    cases hq : q t with
    | false => rfl
    | true => exact absurd ⟨t, h1, h2, hq⟩ c
  omega
theorem free_ne {f l L : Int} {marks : List Int} (l0 : 0 < L) (hn : marks.Nodup) (hm : ∀ m ∈ marks, 0 ≤ m ∧ m < L) (t0 : Int) (h1 : f + 1 ≤ t0) (h2 : t0 < l) (h3 : ¬ (t0 % L ∈ marks)) : freeP f l L marks ≠ [] := by
  intro e
  unfold freeP at e
  rw [List.filter_eq_nil_iff] at e
  have all : ∀ i : Nat, (i : Int) < min l (f + 2 + marks.length) - (f + 1) → (f + 1 + (i : Int)) % L ∈ marks := fun i hi => by
    have := e (f + 1 + (i : Int)) (List.mem_map.mpr ⟨i, List.mem_range.mpr (by omega), rfl⟩)
    simpa using this
  have b0 := Int.emod_nonneg t0 (show L ≠ 0 by omega)
  have b1 := Int.emod_lt_of_pos t0 l0
  have few : marks.length + 1 ≤ L.toNat := by
    have := len_sub (xs := t0 % L :: marks) (ys := (List.range L.toNat).map fun (i : Nat) => (i : Int)) (List.nodup_cons.mpr ⟨h3, hn⟩) fun x hx => by
      have hx' : 0 ≤ x ∧ x < L := by
        rcases List.mem_cons.mp hx with rfl | hx
        · exact ⟨b0, b1⟩
        · exact hm x hx
      exact List.mem_map.mpr ⟨x.toNat, List.mem_range.mpr (by omega), by omega⟩
    simpa using this
  by_cases c : l ≤ f + 2 + marks.length
  · have := all (t0 - f - 1).toNat (by omega)
    rw [show f + 1 + ((t0 - f - 1).toNat : Int) = t0 by omega] at this
    exact h3 this
  · have := len_sub (xs := (List.range (marks.length + 1)).map fun (i : Nat) => (f + 1 + (i : Int)) % L) (ys := marks) ?_ fun x hx => by
      obtain ⟨i, hi, rfl⟩ := List.mem_map.mp hx
      have := List.mem_range.mp hi
      exact all i (by omega)
    · rw [List.length_map, List.length_range] at this
      omega
    · rw [List.nodup_iff_pairwise_ne, List.pairwise_map]
      refine List.pairwise_lt_range.imp_of_mem fun {i j} hi hj hij q => ?_
      have hi := List.mem_range.mp hi
      have hj := List.mem_range.mp hj
      have := Int.emod_eq_emod_iff_emod_sub_eq_zero.mp q.symm
      rw [show f + 1 + (j : Int) - (f + 1 + (i : Int)) = ((j : Int) - i) by omega, Int.emod_eq_of_lt (by omega) (by omega)] at this
      omega
theorem law_num {ss : List Span} {side L f l : Int} {marks : List Int} (l0 : 2 ≤ L) (ok : SpOk ss side) (hn : marks.Nodup) (hm : ∀ m ∈ marks, 0 ≤ m ∧ m < L) (hin : ∀ p ∈ ss, p.s % L ∈ marks) (sep : ∀ p ∈ ss, (p.s ≤ f ∨ l ≤ p.s) ∧ (p.e ≤ f ∨ l ≤ p.e)) (hfl : f < l) : lawP ss L f l marks = numS ss L f l := by
  have key : ∀ t, f + 1 ≤ t → t < l → (seamB ss L t = true ↔ ∀ r ∈ remP ss L f l, r = t % L) := fun t t1 t2 => (seamB_iff ok).trans (seam_seg l0 sep (by omega) t2)
  have hR : ∀ r ∈ remP ss L f l, r ∈ marks := fun r hr => by
    obtain ⟨p, hp, _, _, rfl⟩ := mem_rem.mp hr
    exact hin p hp
  generalize remP ss L f l = R at *
  have hi : f + 1 + ((l - f - 1).toNat : Int) = l := by omega
  unfold numS lawP
  rw [cS_parts (seamB ss L) L (f + 1) (l - f - 1).toNat marks hn]
  congr 1
  · congr 1
    refine List.map_congr_left fun m hmm => ?_
    obtain ⟨m0, m1⟩ := hm m hmm
    have em := many_is (l := l) (f := f) (by omega) m0 m1 hfl
    by_cases c : 0 < manyP f l m L
    · have rl : repP f m L < l := by
        unfold manyP at c
        unfold repP
        split at c <;> omega
      have rf : f + 1 ≤ repP f m L := by
        unfold repP
        have := Int.emod_nonneg (m - f - 1) (show L ≠ 0 by omega)
        omega
      have rm := rep_mod (f := f) (show 0 < L by omega) m0 m1
      have k1 := key (repP f m L) rf rl
      rw [rm] at k1
      by_cases c2 : cntP ss L (repP f m L) = 0
      · rw [if_pos ⟨c, c2⟩, em]
        refine cS_congr fun t t1 t2 => ?_
        by_cases e : t % L = m
        · have : seamB ss L t = true := (key t t1 (by omega)).mpr (by rw [e]; exact k1.mp (decide_eq_true c2))
          simp [e, this]
        · simp [e]
      · rw [if_neg (fun q => c2 q.2)]
        refine (cS_none fun t t1 t2 => ?_).symm
        by_cases e : t % L = m
        · cases hb : seamB ss L t with
          | false => simp
          | true =>
            have := (key t t1 (by omega)).mp hb
            rw [e] at this
            have := k1.mpr this
            unfold seamB at this
            rw [decide_eq_true_eq] at this
            exact absurd this c2
        · simp [e]
    · rw [if_neg (fun q => c q.1)]
      have h0 : cS (fun t => decide (t % L = m)) (f + 1) (l - f - 1).toNat = 0 := by
        have := cS_nonneg (p := fun t => decide (t % L = m)) (lo := f + 1) (n := (l - f - 1).toNat)
        omega
      refine (cS_none fun t t1 t2 => ?_).symm
      have := cS_zero h0 t t1 t2
      rw [this, Bool.and_false]
  · have eo : othP f l L marks = cS (fun t => !decide (t % L ∈ marks)) (f + 1) (l - f - 1).toNat := by
      have := cS_parts (fun _ => true) L (f + 1) (l - f - 1).toNat marks hn
      rw [cS_all (fun _ _ _ => rfl)] at this
      unfold othP
      have e2 : (marks.map fun m => manyP f l m L).sum = (marks.map fun m => cS (fun t => true && decide (t % L = m)) (f + 1) (l - f - 1).toNat).sum := by
        congr 1
        refine List.map_congr_left fun m hmm => ?_
        rw [many_is (by omega) (hm m hmm).1 (hm m hmm).2 hfl]
        simp
      rw [e2]
      simp only [Bool.true_and] at this ⊢
      omega
    by_cases c : 0 < othP f l L marks
    · rw [eo] at c
      obtain ⟨t0, t1, t2, t3⟩ := cS_pos c
      have t3' : ¬ (t0 % L ∈ marks) := by simpa using t3
      have fn := free_ne (f := f) (l := l) (show 0 < L by omega) hn hm t0 t1 (by omega) t3'
      rw [← eo] at c
      have hmem : ∀ t ∈ freeP f l L marks, f + 1 ≤ t ∧ t < l ∧ ¬ (t % L ∈ marks) := fun t ht => by
        unfold freeP at ht
        obtain ⟨q1, q2⟩ := List.mem_filter.mp ht
        obtain ⟨i, hi', rfl⟩ := List.mem_map.mp q1
        have := List.mem_range.mp hi'
        refine ⟨by omega, by omega, by simpa using q2⟩
      have un : ∀ t, f + 1 ≤ t → t < l → ¬ (t % L ∈ marks) → (seamB ss L t = true ↔ R = []) := fun t a1 a2 a3 => by
        rw [key t a1 a2]
        constructor
        · intro q
          cases R with
          | nil => rfl
          | cons r R =>
            have := q r (by simp)
            exact absurd (this ▸ hR r (by simp)) a3
        · rintro rfl r hr
          cases hr
      cases hfr : freeP f l L marks with
      | nil => exact absurd hfr fn
      | cons u us =>
        obtain ⟨u1, u2, u3⟩ := hmem u (by rw [hfr]; simp)
        have ku := un u u1 u2 u3
        by_cases cR : R = []
        · rw [if_pos ⟨c, ku.mpr cR⟩, eo]
          refine cS_congr fun t a1 a2 => ?_
          by_cases a3 : t % L ∈ marks
          · simp [a3]
          · simp [a3, (un t a1 (by omega) a3).mpr cR]
        · rw [if_neg (fun q => cR (ku.mp q.2))]
          refine (cS_none fun t a1 a2 => ?_).symm
          by_cases a3 : t % L ∈ marks
          · simp [a3]
          · cases hb : seamB ss L t with
            | false => simp
            | true => exact absurd ((un t a1 (by omega) a3).mp hb) cR
    · rw [if_neg (fun q => c q.1)]
      have h0 : cS (fun t => !decide (t % L ∈ marks)) (f + 1) (l - f - 1).toNat = 0 := by
        have := cS_nonneg (p := fun t => !decide (t % L ∈ marks)) (lo := f + 1) (n := (l - f - 1).toNat)
        omega
      refine (cS_none fun t t1 t2 => ?_).symm
      have := cS_zero h0 t t1 t2
      rw [this, Bool.and_false]
end Bf
namespace Bf
open PySem PySem.Spec PyProof.Rows L2
/-! ### crossings of a plan of blocks, modulo the length -/
theorem sum_subL {α : Type} (f g : α → Int) : ∀ l : List α, (l.map fun p => f p - g p).sum = (l.map f).sum - (l.map g).sum
  | [] => rfl
  | p :: l => by
    rw [List.map_cons, List.map_cons, List.map_cons, List.sum_cons, List.sum_cons, List.sum_cons, sum_subL f g l]
    omega
theorem sum_dvd {α : Type} {f : α → Int} {L : Int} : ∀ {l : List α}, (∀ p ∈ l, L ∣ f p) → L ∣ (l.map f).sum
  | [], _ => Int.dvd_zero L
  | p :: l, h => by
    rw [List.map_cons, List.sum_cons]
    exact Int.dvd_add (h p (by simp)) (sum_dvd fun q hq => h q (List.mem_cons_of_mem _ hq))
theorem sum_congrL {α : Type} {f g : α → Int} {l : List α} (h : ∀ p ∈ l, f p = g p) : (l.map f).sum = (l.map g).sum := by rw [List.map_congr_left h]
def ivB (x w t : Int) : Bool := decide (x ≤ t) && decide (t < x + w)
theorem cS_iv {x w lo : Int} {n : Nat} (h1 : lo ≤ x) (h2 : 0 ≤ w) (h3 : x + w ≤ lo + n) : cS (ivB x w) lo n = w := by
  have e : n = (x - lo).toNat + (w.toNat + (lo + n - (x + w)).toNat) := by omega
  rw [e, cS_add, cS_add, cS_none (fun t t1 t2 => ?_), cS_all (fun t t1 t2 => ?_), cS_none (fun t t1 t2 => ?_)]
  · omega
  · unfold ivB
    have : ¬ (t < x + w) := by omega
    simp [this]
  · unfold ivB
    have a : x ≤ t := by omega
    have b : t < x + w := by omega
    simp [a, b]
  · unfold ivB
    have : ¬ (x ≤ t) := by omega
    simp [this]
theorem cS_le {p : Int → Bool} : ∀ {n : Nat} {lo : Int}, cS p lo n ≤ n
  | 0, _ => Int.le_refl _
  | n + 1, lo => by
    have := cS_le (p := p) (n := n) (lo := lo + 1)
    rw [cS]
    split <;> omega
/-- runs that are apart -/
theorem apart_sum {α : Type} {x w : α → Int} {O : Nat} : ∀ {l : List α}, (∀ p ∈ l, 0 ≤ x p ∧ 0 ≤ w p ∧ x p + w p ≤ O) → l.Pairwise (fun p q => x p + w p ≤ x q ∨ x q + w q ≤ x p) →
    (l.map w).sum = cS (fun t => l.any fun p => ivB (x p) (w p) t) 0 O
  | [], _, _ => by
    have : cS (fun t => ([] : List α).any fun p => ivB (x p) (w p) t) 0 O = 0 := cS_none fun t _ _ => rfl
    rw [this]
    rfl
  | p :: l, h, hp => by
    obtain ⟨h1, h2⟩ := List.pairwise_cons.mp hp
    obtain ⟨a1, a2, a3⟩ := h p (by simp)
    rw [List.map_cons, List.sum_cons, apart_sum (fun q hq => h q (List.mem_cons_of_mem _ hq)) h2, ← cS_iv (lo := 0) (n := O) a1 a2 (by omega), ← cS_or]
    · refine cS_congr fun t _ _ => ?_
      rw [List.any_cons]
    · rintro t ⟨q1, q2⟩
      rw [List.any_eq_true] at q2
      obtain ⟨q, hq, q2⟩ := q2
      unfold ivB at q1 q2
      rw [Bool.and_eq_true, decide_eq_true_eq, decide_eq_true_eq] at q1 q2
      rcases h1 q hq with c | c <;> omega
theorem apart_le {α : Type} {x w : α → Int} {O : Nat} {l : List α} (h : ∀ p ∈ l, 0 ≤ x p ∧ 0 ≤ w p ∧ x p + w p ≤ O) (hp : l.Pairwise (fun p q => x p + w p ≤ x q ∨ x q + w q ≤ x p)) : (l.map w).sum ≤ O := by
  rw [apart_sum h hp]
  exact cS_le
/-- sums over runs -/
def sumS (f : Int → Int) (lo : Int) : Nat → Int
  | 0 => 0
  | n + 1 => f lo + sumS f (lo + 1) n
theorem sumS_le {f : Int → Int} {O : Int} : ∀ {n : Nat} {lo : Int}, (∀ t, lo ≤ t → t < lo + n → f t ≤ O) → sumS f lo n ≤ n * O
  | 0, _, _ => by simp [sumS]
  | n + 1, lo, h => by
    have := sumS_le (n := n) (lo := lo + 1) fun t h1 h2 => h t (by omega) (by omega)
    have h0 := h lo (by omega) (by omega)
    rw [sumS, show ((n + 1 : Nat) : Int) = (n : Int) + 1 by omega, Int.add_mul]
    omega
theorem sumS_all {f : Int → Int} {O : Int} : ∀ {n : Nat} {lo : Int}, (∀ t, lo ≤ t → t < lo + n → f t ≤ O) → sumS f lo n = n * O → ∀ t, lo ≤ t → t < lo + n → f t = O
  | 0, _, _, _, t, h1, h2 => by omega
  | n + 1, lo, h, e, t, h1, h2 => by
    have l := sumS_le (n := n) (lo := lo + 1) fun t h1 h2 => h t (by omega) (by omega)
    have h0 := h lo (by omega) (by omega)
    rw [sumS, show ((n + 1 : Nat) : Int) = (n : Int) + 1 by omega, Int.add_mul] at e
    by_cases c : t = lo
    · subst c
      omega
    · exact sumS_all (n := n) (lo := lo + 1) (fun t h1 h2 => h t (by omega) (by omega)) (by omega) t (by omega) (by omega)
theorem sumS_add (f g : Int → Int) : ∀ {n : Nat} {lo : Int}, sumS (fun t => f t + g t) lo n = sumS f lo n + sumS g lo n
  | 0, _ => rfl
  | n + 1, lo => by
    rw [sumS, sumS, sumS, sumS_add f g]
    omega
theorem sumS_iv {x w c lo : Int} : ∀ {n : Nat} {lo : Int}, sumS (fun t => if ivB x w t = true then c else 0) lo n = c * cS (ivB x w) lo n
  | 0, _ => by simp [sumS, cS]
  | n + 1, lo => by
    rw [sumS, cS, sumS_iv (lo := lo), Int.mul_add]
    split <;> simp
theorem sumS_list {α : Type} {f : α → Int → Int} {n : Nat} {lo : Int} : ∀ {l : List α}, sumS (fun t => (l.map fun p => f p t).sum) lo n = (l.map fun p => sumS (f p) lo n).sum
  | [] => by
    have : ∀ (n : Nat) (lo : Int), sumS (fun _ => (0 : Int)) lo n = 0 := fun n => by
      induction n with
      | zero => intro lo; rfl
      | succ n ih => intro lo; rw [sumS, ih]; rfl
    exact this n lo
  | p :: l => by
    rw [List.map_cons, List.sum_cons, ← sumS_list (l := l), ← sumS_add]
    rfl
end Bf
namespace Bf
open PySem PySem.Spec PyProof.Rows L2
def beg (u : Bool) (p : Blk) : Int := if u = true then p.x else p.y
def wid (u : Bool) (p : Blk) : Int := if u = true then p.w else p.h
theorem InB.at_ {a b L : Int} {p : Blk} (h : InB a b L p) (u : Bool) : 0 ≤ beg u p ∧ 1 ≤ wid u p ∧ beg u p + wid u p ≤ sideP u a b := by
  obtain ⟨x0, y0, w0, h0, xw, yh, dv⟩ := h
  unfold beg wid sideP
  cases u <;> simp <;> omega
theorem InB.dvd_ {a b L : Int} {p : Blk} (h : InB a b L p) : L ∣ wid p.u p := Int.dvd_of_emod_eq_zero h.dv
theorem sum_if {α : Type} {c : α → Bool} {f : α → Int} : ∀ l : List α, (l.map fun p => if c p = true then f p else 0).sum = ((l.filter c).map f).sum
  | [] => rfl
  | p :: l => by
    rw [List.map_cons, List.sum_cons, sum_if l]
    cases h : c p with
    | true => rw [List.filter_cons_of_pos h, List.map_cons, List.sum_cons]; simp
    | false => rw [List.filter_cons_of_neg (by simp [h])]; simp
/-- the blocks over one column fill it -/
theorem column {a b L : Int} {bl : List Blk} (h : Blks a b L bl) (hs : Sz a b L) (u : Bool) (t : Int) (t0 : 0 ≤ t) (t1 : t < sideP u a b) : (bl.map fun p => if ivB (beg u p) (wid u p) t = true then wid (!u) p else 0).sum = sideP (!u) a b := by
  have a0 := hs.a0
  have b0 := hs.b0
  have sO : 0 ≤ sideP (!u) a b := by unfold sideP; split <;> omega
  have sS : 0 ≤ sideP u a b := by unfold sideP; split <;> omega
  have le : ∀ t, 0 ≤ t → t < 0 + ((sideP u a b).toNat : Int) → (bl.map fun p => if ivB (beg u p) (wid u p) t = true then wid (!u) p else 0).sum ≤ sideP (!u) a b := fun t _ _ => by
    rw [sum_if]
    have := apart_le (x := beg (!u)) (w := wid (!u)) (O := (sideP (!u) a b).toNat) (l := bl.filter fun p => ivB (beg u p) (wid u p) t) (fun p hp => by
      obtain ⟨q1, q2, q3⟩ := (h.inb p (List.mem_filter.mp hp).1).at_ (!u)
      omega) ((h.ap.filter _).imp_of_mem fun {p q} hp hq ap => by
        have c1 := (List.mem_filter.mp hp).2
        have c2 := (List.mem_filter.mp hq).2
        unfold ivB at c1 c2
        rw [Bool.and_eq_true, decide_eq_true_eq, decide_eq_true_eq] at c1 c2
        unfold ApB at ap
        unfold beg wid at *
        cases u <;> simp at * <;> omega)
    omega
  refine sumS_all (f := fun t => (bl.map fun p => if ivB (beg u p) (wid u p) t = true then wid (!u) p else 0).sum) (n := (sideP u a b).toNat) (lo := 0) le ?_ t t0 (by omega)
  rw [sumS_list]
  have e : (bl.map fun p => sumS (fun t => if ivB (beg u p) (wid u p) t = true then wid (!u) p else 0) 0 (sideP u a b).toNat).sum = (bl.map fun p => p.w * p.h).sum := by
    refine sum_congrL fun p hp => ?_
    obtain ⟨q1, q2, q3⟩ := (h.inb p hp).at_ u
    rw [sumS_iv (lo := 0), cS_iv q1 (by omega) (by omega)]
    unfold wid
    cases u
    · simp
    · simp
      exact Int.mul_comm _ _
  rw [e, h.area, show (((sideP u a b).toNat : Nat) : Int) = sideP u a b by omega]
  unfold sideP
  cases u
  · simp
    exact Int.mul_comm _ _
  · simp
/-- the rows of bars that run along u, over a column; those that begin there -/
def overA (u : Bool) (bl : List Blk) (t : Int) : Int := (bl.map fun p => if (p.u == u && ivB (beg u p) (wid u p) t) = true then wid (!u) p else 0).sum
def begA (u : Bool) (L : Int) (bl : List Blk) (t : Int) : Int := (bl.map fun p => if (p.u == u && (ivB (beg u p) (wid u p) t && decide ((t - beg u p) % L = 0))) = true then wid (!u) p else 0).sum
theorem over_mod {a b L : Int} {bl : List Blk} (h : Blks a b L bl) (hs : Sz a b L) (u : Bool) (t : Int) (t0 : 0 ≤ t) (t1 : t < sideP u a b) : L ∣ overA u bl t - sideP (!u) a b := by
  rw [← column h hs u t t0 t1]
  unfold overA
  rw [← sum_subL]
  refine sum_dvd fun p hp => ?_
  have dv := (h.inb p hp).dvd_
  by_cases c : p.u = u
  · subst c
    simp
  · have cb : (p.u == u) = false := by simpa using c
    have e : p.u = !u := by revert c; cases p.u <;> cases u <;> simp
    rw [e] at dv
    rw [cb]
    simp
    split
    · simpa using dv
    · exact Int.dvd_zero L
theorem cnt_is {L t : Int} {bl : List Blk} (u : Bool) : cntP (spansP u bl) L t = overA u bl t - begA u L bl t := by
  unfold overA begA
  rw [← sum_subL]
  have e : cntP (spansP u bl) L t = (bl.map (cB u L t)).sum := by
    induction bl with
    | nil => rfl
    | cons p l ih =>
      have := cnt_add u L t [] p
      have e1 : cntP (spansP u (p :: l)) L t = cntP (spansP u [p]) L t + cntP (spansP u l) L t := by
        unfold cntP spansP
        rw [show p :: l = [p] ++ l from rfl, List.filter_append, List.map_append, List.filter_append, List.filter_append, List.map_append, List.sum_append]
      rw [List.map_cons, List.sum_cons, ← ih, e1]
      have e0 : cntP (spansP u ([] : List Blk)) L t = 0 := rfl
      rw [List.nil_append, e0, Int.zero_add] at this
      rw [this]
  rw [e]
  refine sum_congrL fun p hp => ?_
  unfold cB ivB
  have es : (spanU u p).s = beg u p ∧ (spanU u p).e = beg u p + wid u p ∧ (spanU u p).b = wid (!u) p := by
    unfold spanU beg wid
    cases u <;> simp
  rw [es.1, es.2.1, es.2.2]
  by_cases c1 : (p.u == u) = true
  · by_cases c4 : (t - beg u p) % L = 0
    · by_cases c2 : beg u p ≤ t <;> by_cases c3 : t < beg u p + wid u p <;> simp [c1, c2, c3, c4]
    · have ne : t ≠ beg u p := fun q => c4 (by rw [q]; simp)
      by_cases c2 : beg u p < t
      · have c2' : beg u p ≤ t := by omega
        by_cases c3 : t < beg u p + wid u p <;> simp [c1, c2, c2', c3, c4]
      · have c2' : ¬ (beg u p ≤ t) := by omega
        simp [c1, c2, c2', c4]
  · simp [c1]
/-- from column to column -/
theorem step_over {a b L : Int} {bl : List Blk} (h : Blks a b L bl) (hs : Sz a b L) (u : Bool) (t : Int) : overA u bl t - overA u bl (t - 1) = begA u L bl t - begA u L bl (t - L) := by
  have l0 := hs.l0
  unfold overA begA
  rw [← sum_subL, ← sum_subL]
  refine sum_congrL fun p hp => ?_
  by_cases c : p.u = u
  · have dv := (h.inb p hp).dvd_
    obtain ⟨q1, q2, q3⟩ := (h.inb p hp).at_ u
    rw [c] at dv
    have cb : (p.u == u) = true := by simp [c]
    have wl : L ≤ wid u p := Int.le_of_dvd (by omega) dv
    generalize beg u p = x at *
    generalize wid u p = w at *
    generalize wid (!u) p = O at *
    rw [cb]
    unfold ivB
    have em : (t - L - x) % L = (t - x) % L := by
      rw [show t - L - x = t - x - L by omega, Int.sub_emod_right]
    rw [em]
    by_cases cm : (t - x) % L = 0
    · have a1 : x ≤ t → t < x + L → t = x := fun h1 h2 => by
        rw [Int.emod_eq_of_lt (by omega) (by omega)] at cm
        omega
      have wm : (w) % L = 0 := Int.emod_eq_zero_of_dvd dv
      have a2 : x + w ≤ t → t < x + w + L → t = x + w := fun h1 h2 => by
        have : (t - x - w) % L = 0 := by
          rw [Int.sub_emod, cm, wm]
          simp
        rw [Int.emod_eq_of_lt (by omega) (by omega)] at this
        omega
      simp only [cm, decide_true, Bool.and_true, Bool.true_and, Bool.and_eq_true, decide_eq_true_eq]
      by_cases d1 : x ≤ t <;> by_cases d2 : t < x + w <;> by_cases d3 : x ≤ t - 1 <;> by_cases d4 : t - 1 < x + w <;> by_cases d5 : x ≤ t - L <;> by_cases d6 : t - L < x + w <;> simp [d1, d2, d3, d4, d5, d6] <;> omega
    · have n1 : t ≠ x := fun q => cm (by rw [q]; simp)
      have n2 : t ≠ x + w := fun q => cm (by
        rw [q, show x + w - x = w by omega]
        exact Int.emod_eq_zero_of_dvd dv)
      simp only [cm, decide_false, Bool.and_false, Bool.true_and, Bool.and_eq_true, decide_eq_true_eq, Bool.false_eq_true, if_false]
      by_cases d1 : x ≤ t <;> by_cases d2 : t < x + w <;> by_cases d3 : x ≤ t - 1 <;> by_cases d4 : t - 1 < x + w <;> simp [d1, d2, d3, d4] <;> omega
  · have cb : (p.u == u) = false := by simpa using c
    simp [cb]
theorem neg_zero {a b L : Int} {bl : List Blk} (h : Blks a b L bl) (u : Bool) (t : Int) (ht : t < 0) : overA u bl t = 0 ∧ begA u L bl t = 0 := by
  have z : ∀ p ∈ bl, ivB (beg u p) (wid u p) t = false := fun p hp => by
    obtain ⟨q1, q2, q3⟩ := (h.inb p hp).at_ u
    unfold ivB
    have : ¬ (beg u p ≤ t) := by omega
    simp [this]
  have s0 : (bl.map fun _ => (0 : Int)).sum = 0 := by
    clear z h
    induction bl with
    | nil => rfl
    | cons p l ih => rw [List.map_cons, List.sum_cons, ih]; rfl
  constructor
  · unfold overA
    exact (sum_congrL (g := fun _ => 0) fun p hp => by simp [z p hp]).trans s0
  · unfold begA
    exact (sum_congrL (g := fun _ => 0) fun p hp => by simp [z p hp]).trans s0
theorem beg_mod {a b L : Int} {bl : List Blk} (h : Blks a b L bl) (hs : Sz a b L) (u : Bool) : ∀ (n : Nat) (t : Int), t < n → t < sideP u a b → L ∣ begA u L bl t - if 0 ≤ t ∧ t % L = 0 then sideP (!u) a b else 0
  | 0, t, h1, h2 => by
    rw [(neg_zero h u t (by omega)).2, if_neg (by omega)]
    exact Int.dvd_zero L
  | n + 1, t, h1, h2 => by
    have l0 := hs.l0
    by_cases ht : t < 0
    · rw [(neg_zero h u t ht).2, if_neg (by omega)]
      exact Int.dvd_zero L
    · have st := step_over h hs u t
      have om := over_mod h hs u t (by omega) h2
      have ih := beg_mod h hs u n (t - L) (by omega) (by omega)
      by_cases t0 : t = 0
      · subst t0
        rw [(neg_zero h u (0 - 1) (by omega)).1, (neg_zero h u (0 - L) (by omega)).2] at st
        rw [if_pos ⟨by omega, by simp⟩]
        rw [show begA u L bl 0 = overA u bl 0 by omega]
        exact om
      · have om1 := over_mod h hs u (t - 1) (by omega) (by omega)
        have d1 : L ∣ overA u bl t - overA u bl (t - 1) := by
          have := Int.dvd_sub om om1
          rw [show overA u bl t - sideP (!u) a b - (overA u bl (t - 1) - sideP (!u) a b) = overA u bl t - overA u bl (t - 1) by omega] at this
          exact this
        rw [st] at d1
        have ec : (0 ≤ t ∧ t % L = 0) ↔ (0 ≤ t - L ∧ (t - L) % L = 0) := by
          rw [Int.sub_emod_right]
          constructor
          · rintro ⟨_, q⟩
            refine ⟨?_, q⟩
            have := Int.le_of_dvd (by omega) (Int.dvd_of_emod_eq_zero q)
            omega
          · rintro ⟨q1, q⟩
            exact ⟨by omega, q⟩
        have ei : (if 0 ≤ t ∧ t % L = 0 then sideP (!u) a b else 0) = if 0 ≤ t - L ∧ (t - L) % L = 0 then sideP (!u) a b else 0 := by
          by_cases k : 0 ≤ t ∧ t % L = 0
          · rw [if_pos k, if_pos (ec.mp k)]
          · rw [if_neg k, if_neg (fun q => k (ec.mpr q))]
        rw [ei]
        have := Int.dvd_add d1 ih
        rw [show begA u L bl t - begA u L bl (t - L) + (begA u L bl (t - L) - if 0 ≤ t - L ∧ (t - L) % L = 0 then sideP (!u) a b else 0) = begA u L bl t - if 0 ≤ t - L ∧ (t - L) % L = 0 then sideP (!u) a b else 0 by omega] at this
        exact this
/-- crossings leave what the law says -/
theorem cnt_mod {a b L t : Int} {bl : List Blk} (h : Blks a b L bl) (hs : Sz a b L) (u : Bool) (t0 : 0 ≤ t) (t1 : t < sideP u a b) : cntP (spansP u bl) L t % L = if t % L = 0 then 0 else sideP (!u) a b % L := by
  have om := over_mod h hs u t t0 t1
  have bm := beg_mod h hs u (t + 1).toNat t (by omega) t1
  rw [cnt_is]
  by_cases c : t % L = 0
  · rw [if_pos ⟨t0, c⟩] at bm
    rw [if_pos c]
    have := Int.dvd_sub om bm
    rw [show overA u bl t - sideP (!u) a b - (begA u L bl t - sideP (!u) a b) = overA u bl t - begA u L bl t by omega] at this
    exact Int.emod_eq_zero_of_dvd this
  · rw [if_neg (fun q => c q.2)] at bm
    rw [if_neg c]
    have := Int.dvd_sub om bm
    rw [show overA u bl t - sideP (!u) a b - (begA u L bl t - 0) = overA u bl t - begA u L bl t - sideP (!u) a b by omega] at this
    exact Int.emod_eq_emod_iff_emod_sub_eq_zero.mpr (Int.emod_eq_zero_of_dvd this)
end Bf
namespace Bf
open PySem PySem.Spec PyProof.Rows L2
variable {w : List Cell} {Q : SV → List Cell → Prop}
theorem Sz.div {a b L : Int} (h : Sz a b L) : ∀ z, divD (.int z) (.int L) = some (.int (z / L)) := fun z => by
  have big : (10 : Int) ^ 40 = 10000000000000000000000000000000000000000 := by decide
  have l0 := h.l0
  have l1 := h.big.2.2
  exact divD_int ⟨by omega, log_ok (by rw [big]; omega) (by omega)⟩
theorem between_is {a b L f l r : Int} (h : Sz a b L) (hw : Flat w) : FT m_many_between [.d (.int f), .d (.int l), .d (.int r), .d (.int L)] w Q ↔ Q (.d (.int ((l - 1 - r) / L - (f - r) / L))) w := by
  refine FT_iff ?_
  have hd := h.div
  unfold m_many_between b_many_between
  rw [FT_fn]
  simp [hd, hw]
theorem minside_spec {F : List (Str × D)} {a b L f l : Int} {sl : List Blk} (h : PlF F a b L sl) (u : Bool) (hw : Flat w) : FT m_Plan_many_inside [.d (.ins 0 F), .d (.str (kindS u)), .d (.int f), .d (.int l)] w Q ↔ Q (.d (.int (mInP L f l (remP (spansP u sl) L f l)))) w := by
  refine FT_iff ?_
  have re := fun {Q} => rem_spec (w := w) (Q := Q) (first := f) (last := l) h u hw
  have bt := fun {Q} r => between_is (w := w) (Q := Q) (f := f) (l := l) (r := r) h.hs hw
  unfold m_Plan_many_inside b_Plan_many_inside
  rw [FT_fn]
  generalize remP (spansP u sl) L f l = R at *
  generalize kindS u = k at *
  have q0 : eqD (.lst []) (.lst []) = some (.bl true) := rfl
  have q1 : ∀ (x : Int) (r : List Int), eqD (.lst (.int x :: r.map .int)) (.lst []) = some (.bl false) := fun x r => eq_nilD (ints_plain (x :: r))
  match R with
  | [] =>
    simp [w_Plan_remainders, h.n4, re, q0, mInP, hw, -List.lookup_eq_none_iff]
  | [r] =>
    have := q1 r []
    have bt := fun {Q} => bt (Q := Q) r
    simp [w_Plan_remainders, h.n4, re, mInP, hw, T_fld, h.sz, bt, -List.lookup_eq_none_iff] at this ⊢
    simp [this, bt, hw]
  | r :: r2 :: R =>
    have := q1 r (r2 :: R)
    have ne : eqD (.int ((R.length : Int) + 1 + 1)) (.int 1) = some (.bl false) := by
      simp
      omega
    simp [w_Plan_remainders, h.n4, re, mInP, hw, -List.lookup_eq_none_iff] at this ⊢
    simp [this, hw]
    try omega
theorem slice_mid {α : Type} {xs : List α} (h : 2 ≤ xs.length) : cutD xs (some 1) (some (-1)) = (xs.drop 1).dropLast := by
  unfold cutD
  have e1 : HT.sIx xs.length 0 (some 1) = 1 := by
    rw [show ((1 : Int)) = ((1 : Nat) : Int) by decide, HT.sIx_nat]
    omega
  have e2 : HT.sIx xs.length xs.length (some (-1)) = xs.length - 1 := by
    show (if (-1 : Int) < 0 then (-1 + (xs.length : Int)).toNat else min (-1 : Int).toNat xs.length) = _
    rw [if_pos (by decide)]
    omega
  rw [e1, e2, List.dropLast_eq_take, List.length_drop]
/-- the program's count -/
def planN (L : Int) (ss : List Span) (side : Int) : Int := ((((cutsP ss side).drop 1).dropLast.filter (seamB ss L)).length : Int) + ((pairsP (cutsP ss side)).map fun p => mInP L p.1 p.2 (remP ss L p.1 p.2)).sum
end Bf
namespace Bf
open PySem PySem.Spec PyProof.Rows L2
variable {w : List Cell} {Q : SV → List Cell → Prop}
theorem pair_sep : ∀ {cs : List Int}, cs.Pairwise (· < ·) → ∀ p ∈ pairsP cs, p.1 < p.2 ∧ ∀ x ∈ cs, x ≤ p.1 ∨ p.2 ≤ x
  | [], _, p, hp => by cases hp
  | [c], _, p, hp => by
    simp [pairsP] at hp
  | c :: l :: rest, hs, p, hp => by
    obtain ⟨h1, h2⟩ := List.pairwise_cons.mp hs
    have ep : pairsP (c :: l :: rest) = (c, l) :: pairsP (l :: rest) := by unfold pairsP; simp
    rw [ep] at hp
    rcases List.mem_cons.mp hp with rfl | hp2
    · refine ⟨h1 l (by simp), fun x hx => ?_⟩
      rcases List.mem_cons.mp hx with rfl | hx
      · exact .inl (Int.le_refl _)
      · rcases List.mem_cons.mp hx with rfl | hx
        · exact .inr (Int.le_refl _)
        · exact .inr (Int.le_of_lt ((List.pairwise_cons.mp h2).1 x hx))
    · obtain ⟨q1, q2⟩ := pair_sep h2 p hp2
      refine ⟨q1, fun x hx => ?_⟩
      rcases List.mem_cons.mp hx with rfl | hx
      · left
        have m1 : p.1 ∈ l :: rest := by
          unfold pairsP at hp2
          exact (List.of_mem_zip (b := p.2) hp2).1
        exact Int.le_of_lt (h1 _ m1)
      · exact q2 x hx
theorem tot_num {ss : List Span} {L side : Int} {es : List Int} (hs : es.Pairwise (· < ·)) (h0 : (0 : Int) ∈ es) (h1 : side ∈ es) (all : ∀ x ∈ es, 0 ≤ x ∧ x ≤ side) :
    (((es.drop 1).dropLast.filter (seamB ss L)).length : Int) + ((pairsP es).map fun p => numS ss L p.1 p.2).sum = numS ss L 0 side := by
  cases es with
  | nil => cases h0
  | cons c rest =>
    have c0 := (all c (by simp)).1
    have ce : c = 0 := by
      rcases List.mem_cons.mp h0 with q | q
      · exact q.symm
      · have := (List.pairwise_cons.mp hs).1 0 q
        omega
    have hl : (c :: rest).getLast (by simp) = side := by
      have m := List.getLast_mem (l := c :: rest) (by simp)
      have le := (all _ m).2
      obtain ⟨i, hi, e⟩ := List.mem_iff_getElem.mp h1
      rw [List.getLast_eq_getElem] at le ⊢
      by_cases c1 : i = (c :: rest).length - 1
      · subst c1
        exact e
      · have := List.pairwise_iff_getElem.mp hs i ((c :: rest).length - 1) hi (by simp) (by omega)
        rw [e] at this
        omega
    have := cuts_sum (ss := ss) (L := L) rest c hs
    rw [hl, ce] at this
    rw [ce]
    exact this
theorem cutsP_ok {ss : List Span} {side : Int} (h : SpOk ss side) (s1 : 1 ≤ side) : (cutsP ss side).Pairwise (· < ·) ∧ (0 : Int) ∈ cutsP ss side ∧ side ∈ cutsP ss side ∧ (∀ x ∈ cutsP ss side, 0 ≤ x ∧ x ≤ side) ∧ ∀ p ∈ ss, p.s ∈ cutsP ss side ∧ p.e ∈ cutsP ss side := by
  have hm : ∀ x, x ∈ cutsP ss side ↔ x = 0 ∨ x = side ∨ x ∈ endsP ss := fun x => by
    unfold cutsP
    rw [mem_ssZ, List.mem_cons, List.mem_cons]
  refine ⟨lt_ssZ _, (hm 0).mpr (.inl rfl), (hm side).mpr (.inr (.inl rfl)), fun x hx => ?_, fun p hp => ⟨(hm _).mpr (.inr (.inr ?_)), (hm _).mpr (.inr (.inr ?_))⟩⟩
  · rcases (hm x).mp hx with q | q | q
    · omega
    · omega
    · unfold endsP at q
      obtain ⟨p, hp, hx⟩ := List.mem_flatMap.mp q
      have := h.s0 p hp
      have := h.e1 p hp
      have := h.se p hp
      simp at hx
      omega
  · exact List.mem_flatMap.mpr ⟨p, hp, by simp⟩
  · exact List.mem_flatMap.mpr ⟨p, hp, by simp⟩
theorem planN_num {ss : List Span} {L side : Int} (l0 : 2 ≤ L) (h : SpOk ss side) (s1 : 1 ≤ side) : planN L ss side = numS ss L 0 side := by
  obtain ⟨h1, h2, h3, h4, h5⟩ := cutsP_ok h s1
  unfold planN
  rw [← tot_num (ss := ss) (L := L) h1 h2 h3 h4]
  congr 1
  congr 1
  refine List.map_congr_left fun p hp => ?_
  obtain ⟨q1, q2⟩ := pair_sep h1 p hp
  exact inside_num l0 h (fun r hr => ⟨q2 _ (h5 r hr).1, q2 _ (h5 r hr).2⟩) q1
def ms1 : MS := sAsg (vMe 0 "cuts" w_Plan_cuts (vVar 0) (aCons (vVar 2) (aNil))) (hName 3)
def ms2 : MS := sAugN 1 (vB lenB (aCons (vFrz (vLcN (jSeq (vSl (vVar 3) (oSome (vC (.int 1))) (oSome (vUn negD (vC (.int 1)))))) [4] (hName 4) (cVal (vOp eqD (vMe 0 "count_at" w_Plan_count_at (vVar 0) (aCons (vVar 2) (aCons (vVar 4) (aNil)))) (vC (.int 0)))) (vVar 4))) (aNil)))
def ms3 : MS := sAugN 1 (vB sumX (aCons (vFrz (vLcN (jZip (aCons (vVar 3) (aCons (vSl (vVar 3) (oSome (vC (.int 1))) (oNone)) (aNil)))) [5, 6] (hTup [hName 5, hName 6]) (cYes) (vMe 0 "many_inside" w_Plan_many_inside (vVar 0) (aCons (vVar 2) (aCons (vVar 5) (aCons (vVar 6) (aNil))))))) (aNil)))
theorem ms_eq : b_Plan_many_seams = sSeq (sAsg (vC (.int 0)) (hName 1)) (sSeq (sFor (jKup (vC (.kup [.str "upright", .str "level"]))) (hName 2) (sSeq ms1 (sSeq ms2 ms3))) (sRet (vVar 1))) := rfl
section
variable {F : List (Str × D)} {a b L n : Int} {sl : List Blk} {u : Bool} {v : List Cell} {o3 : Option SV} {R : Fl → PS → Prop}
def gM (F : List (Str × D)) (n : Int) (u : Bool) (o3 : Option SV) : List (Option SV) := [some (.d (.ins 0 F)), some (.d (.int n)), some (.d (.str (kindS u))), o3, none, none, none]
def fst2' : D → D
  | .tup [x, _] => x
  | _ => .non
def snd2' : D → D
  | .tup [_, x] => x
  | _ => .non
theorem ms1_ok (h : PlF F a b L sl) (hv : Flat v) (q : R .nx ⟨gM F n u (some (.d (.lst ((cutsP (spansP u sl) (sideP u a b)).map .int)))), v⟩) : T (ms1 ⟨gM F n u o3, v⟩) R := by
  have cu := fun {Q} => cuts_spec (w := v) (Q := Q) h u hv
  unfold ms1
  unfold gM at *
  simp [w_Plan_cuts, h.n3, cu, -List.lookup_eq_none_iff]
  exact q
theorem ms2_ok (h : PlF F a b L sl) (hv : Flat v) (hc : 2 ≤ (cutsP (spansP u sl) (sideP u a b)).length) (hz : (cutsP (spansP u sl) (sideP u a b)).length ≤ 100) (q : R .nx ⟨gM F (n + (((cutsP (spansP u sl) (sideP u a b)).drop 1).dropLast.filter (seamB (spansP u sl) L)).length) u (some (.d (.lst ((cutsP (spansP u sl) (sideP u a b)).map .int)))), v ++ [.gone]⟩) : T (ms2 ⟨gM F n u (some (.d (.lst ((cutsP (spansP u sl) (sideP u a b)).map .int)))), v⟩) R := by
  have co := fun {Q} {v : List Cell} (hv : Flat v) t => count_spec (w := v) (Q := Q) (t := t) h u hv
  generalize cutsP (spansP u sl) (sideP u a b) = cs at *
  have sd : slD (.lst (cs.map D.int)) (some 1) (some (-1)) = some (.lst (((cs.drop 1).dropLast).map D.int)) := by
    show some (D.lst (cutD _ _ _)) = _
    rw [slice_mid (by simpa using hc), List.map_dropLast, List.map_drop]
  have ef : ((((cs.drop 1).dropLast).map D.int).filter fun d => seamB (spansP u sl) L (unI d)).map (fun d => d) = (((cs.drop 1).dropLast).filter (seamB (spansP u sl) L)).map D.int := by
    rw [List.map_id', filter_map']
    rfl
  have ll : ∀ ys : List D, lenB [.lst ys] = some (.int ys.length) := fun _ => rfl
  have sg : Slots v.length (gM F n u (some (.d (.lst (cs.map .int))))) := fun m hm => by unfold gM at hm; simp at hm
  have ln : ((cs.drop 1).dropLast).length ≤ 100 := by simp; omega
  generalize (cs.drop 1).dropLast = ds at *
  unfold ms2
  unfold gM at *
  generalize kindS u = k at *
  refine T_augN (a := n) rfl ?_
  rw [T_B, T_cons, T_frz]
  refine T_flc_map (it := .seq (ds.map D.int)) (xs := ds.map D.int) (f := fun d => d) (p := fun d => seamB (spansP u sl) L (unI d)) ?_ rfl rfl sg hv (by rw [List.length_map, sizeLine_eq]; omega) (fun d hd v' hv' => ?_) ?_
  · simp [sd]
  · obtain ⟨t, ht, rfl⟩ := List.mem_map.mp hd
    unfold seamB unI
    simp [w_Plan_count_at, h.n2, co (hv.append hv'), -List.lookup_eq_none_iff]
  · rw [ef]
    simp [ll]
    exact q
theorem ms3_ok (h : PlF F a b L sl) (hv : Flat v) (hz : (cutsP (spansP u sl) (sideP u a b)).length ≤ 100) (q : R .nx ⟨gM F (n + ((pairsP (cutsP (spansP u sl) (sideP u a b))).map fun p => mInP L p.1 p.2 (remP (spansP u sl) L p.1 p.2)).sum) u (some (.d (.lst ((cutsP (spansP u sl) (sideP u a b)).map .int)))), v ++ [.gone]⟩) : T (ms3 ⟨gM F n u (some (.d (.lst ((cutsP (spansP u sl) (sideP u a b)).map .int)))), v⟩) R := by
  have mi := fun {Q} {v : List Cell} (hv : Flat v) f l => minside_spec (w := v) (Q := Q) (f := f) (l := l) h u hv
  generalize cutsP (spansP u sl) (sideP u a b) = cs at *
  have zp := zip_pairs cs
  have sd : slD (.lst (cs.map D.int)) (some 1) none = some (.lst ((cs.map D.int).drop 1)) := by
    show some (D.lst (cutD _ _ _)) = _
    have := cut_from (cs.map D.int) 0
    rw [show ((1 : Int)) = ((0 : Nat) : Int) + 1 by decide, this]
  have lp : (pairsP cs).length ≤ 100 := by
    unfold pairsP
    rw [List.length_zip]
    omega
  have ef : ((((pairsP cs).map prI).map fun p => D.tup [p.1, p.2]).filter fun _ => true).map (fun d => D.int (mInP L (unI (fst2' d)) (unI (snd2' d)) (remP (spansP u sl) L (unI (fst2' d)) (unI (snd2' d))))) = ((pairsP cs).map fun p => mInP L p.1 p.2 (remP (spansP u sl) L p.1 p.2)).map D.int := by
    rw [List.filter_eq_self.mpr (fun _ _ => rfl), List.map_map, List.map_map, List.map_map]
    rfl
  have sg : Slots v.length (gM F n u (some (.d (.lst (cs.map .int))))) := fun m hm => by unfold gM at hm; simp at hm
  generalize pairsP cs = ps at *
  unfold ms3
  unfold gM at *
  generalize kindS u = k at *
  refine T_augN (a := n) rfl ?_
  rw [T_B, T_cons, T_frz]
  refine T_flcN (it := .prs (ps.map prI)) (xs := (ps.map prI).map fun p => .tup [p.1, p.2]) (p := fun _ => true) (f := fun d => .int (mInP L (unI (fst2' d)) (unI (snd2' d)) (remP (spansP u sl) L (unI (fst2' d)) (unI (snd2' d))))) (g0 := [some (.d (.ins 0 F)), some (.d (.int n)), some (.d (.str k)), some (.d (.lst (cs.map .int))), none, none, none]) (g1 := [some (.d (.ins 0 F)), some (.d (.int n)), some (.d (.str k)), some (.d (.lst (cs.map .int))), none, none, none]) (fun d => [some (.d (.ins 0 F)), some (.d (.int n)), some (.d (.str k)), some (.d (.lst (cs.map .int))), none, some (.d (fst2' d)), some (.d (snd2' d))]) ?_ rfl (fun i hi => ?_) rfl sg hv (by simp [sizeLine_eq]; omega) (fun d hd v' => ?_) (fun d _ m hm => ?_) (fun _ _ => rfl) (fun d hd v' hv' => ?_) ?_
  · simp [sd]
    rw [← List.drop_one]
    exact zp
  · simp at hi
    rcases hi with rfl | rfl <;> exact ⟨none, rfl, .inl rfl⟩
  · obtain ⟨p, hp, rfl⟩ := List.mem_map.mp hd
    simp [fst2', snd2']
  · simp at hm
  · obtain ⟨p, hp, rfl⟩ := List.mem_map.mp hd
    obtain ⟨q', hq', rfl⟩ := List.mem_map.mp hp
    simp [fst2', snd2', prI, unI, w_Plan_many_inside, h.n8, mi (hv.append hv'), -List.lookup_eq_none_iff]
    try exact ⟨[], by simp, rfl⟩
  · rw [ef]
    have e3 := isum (ints_d (ps.map fun p => mInP L p.1 p.2 (remP (spansP u sl) L p.1 p.2)))
    generalize (ps.map fun p => mInP L p.1 p.2 (remP (spansP u sl) L p.1 p.2)) = ns at *
    simp [e3]
    exact q
end
end Bf
namespace Bf
open PySem PySem.Spec PyProof.Rows L2
variable {w : List Cell} {Q : SV → List Cell → Prop}
theorem difZ_len : ∀ r : List Int, (difZ r).length ≤ r.length
  | [] => Nat.le_refl _
  | x :: r => by
    have := difZ_len r
    unfold difZ
    split
    · rw [List.length_cons]; omega
    · rw [List.length_cons, List.length_cons]; omega
theorem ssZ_len (r : List Int) : (ssZ r).length ≤ r.length := by
  unfold ssZ
  rw [(sortZ_perm _).length_eq]
  exact difZ_len r
theorem two_len {cs : List Int} {side : Int} (h0 : (0 : Int) ∈ cs) (h1 : side ∈ cs) (s1 : 1 ≤ side) : 2 ≤ cs.length := by
  match cs, h0, h1 with
  | [], h0, _ => cases h0
  | [c], h0, h1 =>
    simp at h0 h1
    omega
  | _ :: _ :: _, _, _ => simp
section
variable {F : List (Str × D)} {a b L n : Int} {sl : List Blk} {u : Bool} {o3 : Option SV} {R : Fl → PS → Prop}
theorem PlF.side1 (h : PlF F a b L sl) (u : Bool) : 1 ≤ sideP u a b := by
  have := h.hs.a0
  have := h.hs.b0
  unfold sideP
  split <;> omega
theorem turn_ok (h : PlF F a b L sl) (hw : Flat w) (q : ∀ r, R .nx ⟨gM F (n + planN L (spansP u sl) (sideP u a b)) u (some (.d r)), w ++ [.gone, .gone]⟩) : T (sSeq ms1 (sSeq ms2 ms3) ⟨gM F n u o3, w⟩) R := by
  obtain ⟨h1, h2, h3, h4, h5⟩ := cutsP_ok (span_ok h.hB u) (h.side1 u)
  have c2 := two_len h2 h3 (h.side1 u)
  have few := h.few
  have c1 : (cutsP (spansP u sl) (sideP u a b)).length ≤ 100 := by
    have := ssZ_len (0 :: sideP u a b :: endsP (spansP u sl))
    have := endsP_len (spansP u sl)
    have := spansP_len u sl
    unfold cutsP
    simp at *
    omega
  rw [T_seq]
  refine ms1_ok h hw ?_
  dsimp only
  rw [T_seq]
  refine ms2_ok h hw c2 c1 ?_
  dsimp only
  refine ms3_ok h (by simp [hw]) c1 ?_
  have := q (.lst ((cutsP (spansP u sl) (sideP u a b)).map .int))
  unfold planN at this
  rw [List.append_assoc, Int.add_assoc]
  exact this
end
theorem many_seams_spec {F : List (Str × D)} {a b L : Int} {sl : List Blk} (h : PlF F a b L sl) (hw : Flat w) : FT m_Plan_many_seams [.d (.ins 0 F)] w Q ↔ Q (.d (.int (numS (spansP true sl) L 0 a + numS (spansP false sl) L 0 b))) w := by
  refine FT_iff ?_
  have n1 : numS (spansP true sl) L 0 a = planN L (spansP true sl) (sideP true a b) := (planN_num h.hs.l0 (span_ok h.hB true) (h.side1 true)).symm
  have n2 : numS (spansP false sl) L 0 b = planN L (spansP false sl) (sideP false a b) := (planN_num h.hs.l0 (span_ok h.hB false) (h.side1 false)).symm
  rw [n1, n2]
  clear n1 n2
  have tu := fun {n o3 R} u q => turn_ok (n := n) (u := u) (o3 := o3) (R := R) h hw q
  generalize hA : planN L (spansP true sl) (sideP true a b) = A at *
  have kt : kindS true = "upright" := rfl
  have kf : kindS false = "level" := rfl
  unfold m_Plan_many_seams
  rw [ms_eq, FT_fn, T_seq, T_asg, T_c, T_name]
  refine ⟨by simp, ?_⟩
  dsimp only
  rw [T_seq, T_sFor, T_jKup, T_c]
  refine (KupQ_kup).mpr ?_
  generalize hB : planN L (spansP false sl) (sideP false a b) = B at *
  refine T_for (it := .seq [.str "upright", .str "level"]) (xs := [.str "upright", .str "level"]) rfl (Inv := fun i s => (i = 0 ∧ s = ⟨[some (.d (.ins 0 F)), some (.d (.int 0)), none, none, none, none, none], w⟩) ∨ (i = 1 ∧ ∃ r, s = ⟨gM F (0 + A) true (some (.d r)), w⟩) ∨ (i = 2 ∧ ∃ r, s = ⟨gM F (0 + A + B) false (some (.d r)), w⟩)) (fun i x s hx hI => ?_) (fun s hI => ?_) _ 0 _ (by simp [It'.fuel]) (.inl ⟨rfl, rfl⟩)
  · rcases hI with ⟨rfl, rfl⟩ | ⟨rfl, r, rfl⟩ | ⟨rfl, r, rfl⟩
    · cases hx
      rw [T_name]
      refine ⟨by simp, ?_⟩
      refine tu true fun r => ?_
      refine ⟨⟨gM F (0 + A) true (some (.d r)), w⟩, ?_, .inr (.inl ⟨rfl, r, ?_⟩)⟩
      · unfold gM
        simp [hw, hA]
      · rfl
    · cases hx
      rw [T_name]
      refine ⟨by unfold gM; simp, ?_⟩
      refine tu (n := 0 + A) (o3 := some (.d r)) false fun r => ?_
      refine ⟨⟨gM F (0 + A + B) false (some (.d r)), w⟩, ?_, .inr (.inr ⟨rfl, r, rfl⟩)⟩
      unfold gM
      simp [hw, hB]
    · cases hx
  · rcases hI with ⟨e, _⟩ | ⟨e, _⟩ | ⟨_, r, rfl⟩
    · cases e
    · cases e
    · unfold gM
      simp [hw]
end Bf
namespace Bf
open PySem PySem.Spec PyProof.Rows L2
variable {w : List Cell} {Q : SV → List Cell → Prop}
def endsB (u : Bool) (bl : List Blk) : List Int := bl.flatMap fun p => [beg u p, beg u p + wid u p]
def lawE (u : Bool) (a b : Int) (bl : List Blk) : List Int := ssZ (0 :: sideP u a b :: endsB u bl)
theorem endsB_len (u : Bool) : ∀ bl : List Blk, (endsB u bl).length = 2 * bl.length
  | [] => rfl
  | p :: bl => by
    have := endsB_len u bl
    unfold endsB at *
    simp at this ⊢
    omega
theorem ends_spec {a b L : Int} {bl : List Blk} {u : Bool} (few : bl.length ≤ 30) (hw : Flat w) : FT m__law_ends [.d (.tup [.int a, .int b, .int L]), .d (.lst (blksD bl)), .d (.str (kindS u))] w Q ↔ Q (.d (.lst ((lawE u a b bl).map .int))) w := by
  refine FT_iff ?_
  have ke := kind_eq u
  have s2 : 2 ≤ sizeLine := by rw [sizeLine_eq]; omega
  have sb := ssB_ints (ns := 0 :: sideP u a b :: endsB u bl) (by
    have := endsB_len u bl
    simp
    omega)
  unfold m__law_ends b__law_ends
  rw [FT_fn]
  generalize kindS u = k at *
  refine T_seq_of (fun s => s = ⟨[some (.d (.tup [.int a, .int b, .int L])), some (.d (.lst (blksD bl))), some (.d (.str k)), some (.cell w.length), none], w ++ [.lst ((0 :: sideP u a b :: endsB u (bl.take 0)).map .int)]⟩) ?_ fun s e => ?_
  · cases u <;> simp [ke, sideP, endsB, s2]
  subst e
  obtain ⟨P, hP⟩ : ∃ P : Nat → PS → Prop, P = (fun j s => ∃ o4, Dat' o4 ∧ s = ⟨[some (.d (.tup [.int a, .int b, .int L])), some (.d (.lst (blksD bl))), some (.d (.str k)), some (.cell w.length), o4], w ++ [.lst ((0 :: sideP u a b :: endsB u (bl.take j)).map .int)]⟩) := ⟨_, rfl⟩
  have p0 : P 0 ⟨[some (.d (.tup [.int a, .int b, .int L])), some (.d (.lst (blksD bl))), some (.d (.str k)), some (.cell w.length), none], w ++ [.lst ((0 :: sideP u a b :: endsB u (bl.take 0)).map .int)]⟩ := by
    rw [hP]
    exact ⟨none, .inl rfl, rfl⟩
  generalize (0 :: sideP u a b :: endsB u (bl.take 0)) = z0 at *
  rw [T_seq, T_sFor]
  have rf : T (jSeq (vVar 1) ⟨[some (.d (.tup [.int a, .int b, .int L])), some (.d (.lst (blksD bl))), some (.d (.str k)), some (.cell w.length), none], w ++ [.lst (z0.map .int)]⟩) fun it s => it = .seq (blksD bl) ∧ s = ⟨[some (.d (.tup [.int a, .int b, .int L])), some (.d (.lst (blksD bl))), some (.d (.str k)), some (.cell w.length), none], w ++ [.lst (z0.map .int)]⟩ := by simp
  refine rf.imp fun it s ⟨e1, e2⟩ => ?_
  subst e1 e2
  refine T_for (it := .seq (blksD bl)) (xs := blksD bl) rfl (Inv := P) (fun j d s hx hI => ?_) (fun s hI => ?_) _ 0 _ (by simp [It'.fuel]) p0
  · rw [hP] at hI
    obtain ⟨o4, d4, rfl⟩ := hI
    unfold blksD at hx
    rw [List.getElem?_map] at hx
    cases hj : bl[j]? with
    | none => rw [hj] at hx; cases hx
    | some p =>
    rw [hj] at hx
    cases hx
    have tk : (0 :: sideP u a b :: endsB u (bl.take (j + 1))).map D.int = (0 :: sideP u a b :: endsB u (bl.take j)).map D.int ++ [D.int (beg u p), D.int (beg u p + wid u p)] := by
      rw [List.take_add_one, hj]
      unfold endsB
      simp
    have zl : ((0 :: sideP u a b :: endsB u (bl.take j)).map D.int).length ≤ 100 := by
      have := endsB_len u (bl.take j)
      have : (bl.take j).length ≤ bl.length := by simp; omega
      simp
      omega
    generalize (0 :: sideP u a b :: endsB u (bl.take j)).map D.int = z at *
    have ex : ∀ x y : D, extM z [.lst [x, y]] = some (z ++ [x, y], .non) := fun x y => if_pos (by
      rw [sizeLine_eq]
      simp
      omega)
    rw [T_name]
    refine ⟨by simp, ?_⟩
    dsimp only [List.set_cons_succ, List.set_cons_zero]
    have fin : ∃ s', trunc (w ++ [Cell.lst (z0.map .int)]).length ⟨[some (.d (.tup [.int a, .int b, .int L])), some (.d (.lst (blksD bl))), some (.d (.str k)), some (.cell w.length), some (.d (blkD p))], w ++ [.lst (z ++ [D.int (beg u p), D.int (beg u p + wid u p)])]⟩ = some s' ∧ P (j + 1) s' := by
      rw [← tk]
      refine ⟨⟨[some (.d (.tup [.int a, .int b, .int L])), some (.d (.lst (blksD bl))), some (.d (.str k)), some (.cell w.length), some (.d (blkD p))], w ++ [.lst ((0 :: sideP u a b :: endsB u (bl.take (j + 1))).map D.int)]⟩, ?_, ?_⟩
      · have e : (w ++ [Cell.lst (z0.map .int)]).length = (w ++ [Cell.lst ((0 :: sideP u a b :: endsB u (bl.take (j + 1))).map D.int)]).length := by simp
        rw [e, Flat.trunc (by simp [hw])]
        simp
        exact ⟨dropG_lt (by omega), List.take_of_length_le (by simp)⟩
      · rw [hP]
        exact ⟨some (.d (blkD p)), .inr ⟨_, rfl⟩, rfl⟩
    unfold blkD at *
    cases u <;> simp [ke, ex, beg, wid, s2] at fin ⊢ <;> exact fin
  · rw [hP] at hI
    obtain ⟨o4, d4, rfl⟩ := hI
    have e : bl.take (blksD bl).length = bl := by
      rw [blks_len]
      exact List.take_length
    rw [e]
    unfold lawE
    generalize 0 :: sideP u a b :: endsB u bl = z at *
    simp [sb, hw, rds]
theorem many_of_spec {f l m L : Int} (l0 : 2 ≤ L) (l1 : L ≤ 1000000000000000000000000000000) (hw : Flat w) : FT m__law_many_of [.d (.int f), .d (.int l), .d (.int m), .d (.int L)] w Q ↔ Q (.d (.int (manyP f l m L))) w := by
  refine FT_iff ?_
  have ml : ∀ z : Int, modD (.int z) (.int L) = some (.int (z % L)) := fun z => if_pos (by omega)
  have hd : ∀ z, divD (.int z) (.int L) = some (.int (z / L)) := fun z => by
    have big : (10 : Int) ^ 40 = 10000000000000000000000000000000000000000 := by decide
    exact divD_int ⟨by omega, log_ok (by rw [big]; omega) (by omega)⟩
  unfold m__law_many_of b__law_many_of manyP
  rw [FT_fn]
  by_cases c : l ≤ f + 1 + (m - f - 1) % L <;> simp [ml, hd, c, hw]
end Bf
namespace Bf
open PySem PySem.Spec PyProof.Rows L2
variable {w : List Cell} {Q : SV → List Cell → Prop}
theorem nin_ints (x : Int) (ns : List Int) : ninX (.int x) (.lst (ns.map D.int)) = some (.bl (!decide (x ∈ ns))) := by
  rw [ninX_of rfl]
  have nr : D.near (.int x) (.lst (ns.map D.int)) = true := decide_eq_true (Nat.le_trans (Nat.min_le_left _ _) (Nat.le_of_ble_eq_true rfl))
  have e : inB (.int x) (.lst (ns.map D.int)) = some ((ns.map D.int).any fun z => D.eqv z (.int x)) := by
    show (if ((D.int x).plain && D.plains (ns.map D.int) && D.near (.int x) (.lst (ns.map D.int))) = true then some ((ns.map D.int).any fun z => D.eqv z (.int x)) else none) = _
    rw [nr, ints_plain]
    rfl
  have q : ((ns.map D.int).any fun z => D.eqv z (.int x)) = decide (x ∈ ns) := by
    rw [Bool.eq_iff_iff, List.any_eq_true, decide_eq_true_iff]
    constructor
    · rintro ⟨d, hd, e⟩
      obtain ⟨n, hn, rfl⟩ := List.mem_map.mp hd
      have e' : D.eqv (.int n) (.int x) = decide (n = x) := rfl
      have : n = x := by rw [e'] at e; exact of_decide_eq_true e
      rw [← this]
      exact hn
    · exact fun h => ⟨.int x, List.mem_map.mpr ⟨x, h, rfl⟩, by
      have e' : D.eqv (.int x) (.int x) = decide (x = x) := rfl
      rw [e']
      exact decide_eq_true rfl⟩
  unfold ninD
  rw [e, q]
  rfl
def bw1 : MS := sPar 5 6 (aCons (vOp idxD (vVar 0) (vC (.int 2))) (aCons (vC (.int 0)) (aNil)))
def bw2 : MS := sAsg (vB ssB (aCons (vFrz (vLcN (jSeq (vCall m__law_ends (aCons (vVar 0) (aCons (vVar 1) (aCons (vVar 2) (aNil)))))) [13] (hName 13) (cYes) (vOp modD (vVar 13) (vVar 5)))) (aNil))) (hName 7)
def bw3 : MS := sFor (jSeq (vVar 7)) (hName 8) (sSeq (sAsg (vCall m__law_many_of (aCons (vVar 3) (aCons (vVar 4) (aCons (vVar 8) (aCons (vVar 5) (aNil)))))) (hName 9)) (sSeq (sAsg (vTup (aCons (vVar 2) (aCons (vOp addD (vOp addD (vVar 3) (vC (.int 1))) (vOp modD (vOp subD (vOp subD (vVar 8) (vVar 3)) (vC (.int 1))) (vVar 5))) (aNil)))) (hName 10)) (sIf (cAnd (cVal (vOp gtD (vVar 9) (vC (.int 0)))) (cVal (vOp eqD (vCall m__law_count (aCons (vVar 0) (aCons (vVar 1) (aCons (vVar 10) (aNil))))) (vC (.int 0))))) (sAsg (vOp addD (vVar 6) (vVar 9)) (hName 6)) (sNx))))
def bw4 : MS := sAsg (vOp subD (vOp subD (vOp subD (vVar 4) (vVar 3)) (vC (.int 1))) (vB sumX (aCons (vFrz (vLcN (jSeq (vVar 7)) [8] (hName 8) (cYes) (vCall m__law_many_of (aCons (vVar 3) (aCons (vVar 4) (aCons (vVar 8) (aCons (vVar 5) (aNil)))))))) (aNil)))) (hName 11)
def bw5 : MS := sAsg (vFrz (vLcN (jRngB (vOp addD (vVar 3) (vC (.int 1))) (vB minB (aCons (vVar 4) (aCons (vOp addD (vOp addD (vVar 3) (vC (.int 2))) (vB lenB (aCons (vVar 7) (aNil)))) (aNil))))) [14] (hName 14) (cVal (vOp ninX (vOp modD (vVar 14) (vVar 5)) (vVar 7))) (vVar 14))) (hName 12)
def bw6 : MS := sIf (cAnd (cVal (vOp gtD (vVar 11) (vC (.int 0)))) (cAnd (cVal (vOp neD (vVar 12) (vLst (aNil)))) (cVal (vOp eqD (vCall m__law_count (aCons (vVar 0) (aCons (vVar 1) (aCons (vTup (aCons (vVar 2) (aCons (vOp idxD (vVar 12) (vC (.int 0))) (aNil)))) (aNil))))) (vC (.int 0)))))) (sAsg (vOp addD (vVar 6) (vVar 11)) (hName 6)) (sNx)
def bw7 : MS := sRet (vVar 6)
theorem bw_eq : b__law_seams_between = sSeq bw1 (sSeq bw2 (sSeq bw3 (sSeq bw4 (sSeq bw5 (sSeq bw6 bw7))))) := rfl
section
variable {a b L f l tot lef : Int} {bl : List Blk} {u : Bool} {v : List Cell} {ms : List Int} {o8 o9 o10 : Option SV} {R : Fl → PS → Prop}
theorem bw2_ok (hs : Sz a b L) (few : bl.length ≤ 30) (hv : Flat v) (q : R .nx ⟨[some (.d (.tup [.int a, .int b, .int L])), some (.d (.lst (blksD bl))), some (.d (.str (kindS u))), some (.d (.int f)), some (.d (.int l)), some (.d (.int L)), some (.d (.int 0)), some (.d (.lst ((ssZ ((lawE u a b bl).map (· % L))).map .int))), none, none, none, none, none, none, none], v ++ [.gone]⟩) : T (bw2 ⟨[some (.d (.tup [.int a, .int b, .int L])), some (.d (.lst (blksD bl))), some (.d (.str (kindS u))), some (.d (.int f)), some (.d (.int l)), some (.d (.int L)), some (.d (.int 0)), none, none, none, none, none, none, none, none], v⟩) R := by
  have l0 := hs.l0
  have ml : ∀ z : Int, modD (.int z) (.int L) = some (.int (z % L)) := fun z => if_pos (by omega)
  have en := fun {Q} => ends_spec (w := v) (Q := Q) (a := a) (b := b) (L := L) (u := u) few hv
  have el : (lawE u a b bl).length < 64 := by
    have := ssZ_len (0 :: sideP u a b :: endsB u bl)
    have := endsB_len u bl
    unfold lawE
    simp at *
    omega
  generalize lawE u a b bl = es at *
  have sb := ssB_ints (ns := es.map (· % L)) (by rw [List.length_map]; exact el)
  have ef : ((es.map D.int).filter fun _ => true).map (fun d => D.int (unI d % L)) = (es.map (· % L)).map D.int := by
    rw [List.filter_eq_self.mpr (fun _ _ => rfl), List.map_map, List.map_map]
    rfl
  have sg : Slots v.length [some (.d (.tup [.int a, .int b, .int L])), some (.d (.lst (blksD bl))), some (.d (.str (kindS u))), some (.d (.int f)), some (.d (.int l)), some (.d (.int L)), some (.d (.int 0)), none, none, none, none, none, none, none, none] := fun m hm => by simp at hm
  unfold bw2
  generalize kindS u = k at *
  rw [T_asg, T_B, T_cons, T_frz]
  refine T_flc_map (it := .seq (es.map D.int)) (xs := es.map D.int) (f := fun d => .int (unI d % L)) (p := fun _ => true) ?_ rfl rfl sg hv (by rw [List.length_map, sizeLine_eq]; omega) (fun d hd v' hv' => ?_) ?_
  · simp [en]
  · obtain ⟨t, ht, rfl⟩ := List.mem_map.mp hd
    simp [ml, unI]
  · rw [ef]
    generalize es.map (· % L) = ns at *
    simp [sb]
    exact q
def trm (ss : List Span) (L f l m : Int) : Int := if 0 < manyP f l m L ∧ cntP ss L (repP f m L) = 0 then manyP f l m L else 0
theorem bw3_ok (hs : Sz a b L) (hv : Flat v) (q : ∀ o8 o9 o10, Dat' o8 → Dat' o9 → Dat' o10 → R .nx ⟨[some (.d (.tup [.int a, .int b, .int L])), some (.d (.lst (blksD bl))), some (.d (.str (kindS u))), some (.d (.int f)), some (.d (.int l)), some (.d (.int L)), some (.d (.int ((ms.map (trm (spansP u bl) L f l)).sum))), some (.d (.lst (ms.map .int))), o8, o9, o10, none, none, none, none], v⟩) : T (bw3 ⟨[some (.d (.tup [.int a, .int b, .int L])), some (.d (.lst (blksD bl))), some (.d (.str (kindS u))), some (.d (.int f)), some (.d (.int l)), some (.d (.int L)), some (.d (.int 0)), some (.d (.lst (ms.map .int))), none, none, none, none, none, none, none], v⟩) R := by
  have l0 := hs.l0
  have ml : ∀ z : Int, modD (.int z) (.int L) = some (.int (z % L)) := fun z => if_pos (by omega)
  have mo := fun {Q} m => many_of_spec (w := v) (Q := Q) (f := f) (l := l) (m := m) hs.l0 hs.l1 hv
  have lc := fun {Q} t => lcount_spec (w := v) (Q := Q) (a := a) (b := b) (t := t) (bl := bl) (u := u) hs.l0 hv
  unfold lineK at lc
  have s2 : 2 ≤ sizeLine := by rw [sizeLine_eq]; omega
  generalize hss : spansP u bl = ss at *
  unfold bw3
  generalize kindS u = k at *
  rw [T_sFor]
  obtain ⟨P, hP⟩ : ∃ P : Nat → PS → Prop, P = (fun j s => ∃ o8 o9 o10, Dat' o8 ∧ Dat' o9 ∧ Dat' o10 ∧ s = ⟨[some (.d (.tup [.int a, .int b, .int L])), some (.d (.lst (blksD bl))), some (.d (.str k)), some (.d (.int f)), some (.d (.int l)), some (.d (.int L)), some (.d (.int (((ms.take j).map (trm ss L f l)).sum))), some (.d (.lst (ms.map .int))), o8, o9, o10, none, none, none, none], v⟩) := ⟨_, rfl⟩
  simp
  refine T_for (it := .seq (ms.map D.int)) (xs := ms.map D.int) rfl (Inv := P) (fun j d s hx hI => ?_) (fun s hI => ?_) _ 0 _ (by simp [It'.fuel]) ?_
  · rw [hP] at hI
    obtain ⟨o8, o9, o10, d8, d9, d10, rfl⟩ := hI
    rw [List.getElem?_map] at hx
    cases hj : ms[j]? with
    | none => rw [hj] at hx; cases hx
    | some m =>
    rw [hj] at hx
    cases hx
    have tk : ((ms.take (j + 1)).map (trm ss L f l)).sum = ((ms.take j).map (trm ss L f l)).sum + trm ss L f l m := by
      rw [List.take_add_one, hj]
      simp
    generalize ((ms.take j).map (trm ss L f l)).sum = n at *
    have fin : ∀ n', n' = ((ms.take (j + 1)).map (trm ss L f l)).sum → ∃ s', trunc v.length ⟨[some (.d (.tup [.int a, .int b, .int L])), some (.d (.lst (blksD bl))), some (.d (.str k)), some (.d (.int f)), some (.d (.int l)), some (.d (.int L)), some (.d (.int n')), some (.d (.lst (ms.map .int))), some (.d (.int m)), some (.d (.int (manyP f l m L))), some (.d (.tup [.str k, .int (f + 1 + (m - f - 1) % L)])), none, none, none, none], v⟩ = some s' ∧ P (j + 1) s' := fun n' e => by
      refine ⟨_, Flat.trunc hv _, ?_⟩
      rw [hP, e]
      exact ⟨some (.d (.int m)), some (.d (.int (manyP f l m L))), some (.d (.tup [.str k, .int (f + 1 + (m - f - 1) % L)])), .inr ⟨_, rfl⟩, .inr ⟨_, rfl⟩, .inr ⟨_, rfl⟩, by simp⟩
    unfold trm repP at tk
    rw [T_name]
    refine ⟨by simp, ?_⟩
    dsimp only [List.set_cons_succ, List.set_cons_zero]
    by_cases c1 : 0 < manyP f l m L
    · by_cases c2 : cntP ss L (f + 1 + (m - f - 1) % L) = 0
      · rw [if_pos ⟨c1, c2⟩] at tk
        have := fin _ tk.symm
        simp [mo, lc, ml, c1, c2, s2] at this ⊢
        exact this
      · rw [if_neg (fun h => c2 h.2), Int.add_zero] at tk
        have := fin _ tk.symm
        simp [mo, lc, ml, c1, c2, s2] at this ⊢
        exact this
    · rw [if_neg (fun h => c1 h.1), Int.add_zero] at tk
      have := fin _ tk.symm
      simp [mo, lc, ml, c1, s2] at this ⊢
      exact this
  · rw [hP] at hI
    obtain ⟨o8, o9, o10, d8, d9, d10, rfl⟩ := hI
    rw [List.length_map, List.take_length]
    exact q o8 o9 o10 d8 d9 d10
  · rw [hP]
    exact ⟨none, none, none, .inl rfl, .inl rfl, .inl rfl, by simp⟩
end
end Bf
namespace Bf
open PySem PySem.Spec PyProof.Rows L2
variable {w : List Cell} {Q : SV → List Cell → Prop}
section
variable {a b L f l tot lef : Int} {bl : List Blk} {u : Bool} {v : List Cell} {ms fs : List Int} {o8 o9 o10 : Option SV} {R : Fl → PS → Prop}
theorem bw4_ok (hs : Sz a b L) (hv : Flat v) (d8 : Dat' o8) (d9 : Dat' o9) (d10 : Dat' o10) (hz : ms.length ≤ 100) (q : R .nx ⟨[some (.d (.tup [.int a, .int b, .int L])), some (.d (.lst (blksD bl))), some (.d (.str (kindS u))), some (.d (.int f)), some (.d (.int l)), some (.d (.int L)), some (.d (.int tot)), some (.d (.lst (ms.map .int))), o8, o9, o10, some (.d (.int (othP f l L ms))), none, none, none], v ++ [.gone]⟩) : T (bw4 ⟨[some (.d (.tup [.int a, .int b, .int L])), some (.d (.lst (blksD bl))), some (.d (.str (kindS u))), some (.d (.int f)), some (.d (.int l)), some (.d (.int L)), some (.d (.int tot)), some (.d (.lst (ms.map .int))), o8, o9, o10, none, none, none, none], v⟩) R := by
  have mo := fun {Q} {v} (hv : Flat v) m => many_of_spec (w := v) (Q := Q) (f := f) (l := l) (m := m) hs.l0 hs.l1 hv
  have ef : ((ms.map D.int).filter fun _ => true).map (fun d => D.int (manyP f l (unI d) L)) = (ms.map fun m => manyP f l m L).map D.int := by
    rw [List.filter_eq_self.mpr (fun _ _ => rfl), List.map_map, List.map_map]
    rfl
  have sg : Slots v.length [some (.d (.tup [.int a, .int b, .int L])), some (.d (.lst (blksD bl))), some (.d (.str (kindS u))), some (.d (.int f)), some (.d (.int l)), some (.d (.int L)), some (.d (.int tot)), some (.d (.lst (ms.map .int))), o8, o9, o10, none, none, none, none] := fun m hm => by
    rcases d8 with rfl | ⟨_, rfl⟩ <;> rcases d9 with rfl | ⟨_, rfl⟩ <;> rcases d10 with rfl | ⟨_, rfl⟩ <;> simp at hm
  have h0 : T (vOp subD (vOp subD (vVar 4) (vVar 3)) (vC (.int 1)) ⟨[some (.d (.tup [.int a, .int b, .int L])), some (.d (.lst (blksD bl))), some (.d (.str (kindS u))), some (.d (.int f)), some (.d (.int l)), some (.d (.int L)), some (.d (.int tot)), some (.d (.lst (ms.map .int))), o8, o9, o10, none, none, none, none], v⟩) fun x s => x = .d (.int (l - f - 1)) ∧ s = ⟨[some (.d (.tup [.int a, .int b, .int L])), some (.d (.lst (blksD bl))), some (.d (.str (kindS u))), some (.d (.int f)), some (.d (.int l)), some (.d (.int L)), some (.d (.int tot)), some (.d (.lst (ms.map .int))), o8, o9, o10, none, none, none, none], v⟩ := by simp
  unfold bw4
  unfold othP at q
  generalize kindS u = k at *
  rw [T_asg, T_op]
  refine h0.imp fun x s ⟨e1, e2⟩ => ?_
  subst e1 e2
  rw [T_B, T_cons, T_frz]
  refine T_flc_mapA (it := .seq (ms.map D.int)) (xs := ms.map D.int) (f := fun d => .int (manyP f l (unI d) L)) (p := fun _ => true) ?_ rfl rfl d8 sg hv (by rw [List.length_map, sizeLine_eq]; omega) (fun d hd v' hv' => ?_) ?_
  · simp
  · obtain ⟨t, ht, rfl⟩ := List.mem_map.mp hd
    simp [mo (hv.append hv'), unI]
  · rw [ef]
    have e3 := isum (ints_d (ms.map fun m => manyP f l m L))
    generalize (ms.map fun m => manyP f l m L) = ns at *
    simp [e3]
    exact q
theorem bw5_ok (hs : Sz a b L) (hv : Flat v) (d8 : Dat' o8) (d9 : Dat' o9) (d10 : Dat' o10) (hz : ms.length ≤ 100) (q : R .nx ⟨[some (.d (.tup [.int a, .int b, .int L])), some (.d (.lst (blksD bl))), some (.d (.str (kindS u))), some (.d (.int f)), some (.d (.int l)), some (.d (.int L)), some (.d (.int tot)), some (.d (.lst (ms.map .int))), o8, o9, o10, some (.d (.int lef)), some (.d (.lst ((freeP f l L ms).map .int))), none, none], v ++ [.gone]⟩) : T (bw5 ⟨[some (.d (.tup [.int a, .int b, .int L])), some (.d (.lst (blksD bl))), some (.d (.str (kindS u))), some (.d (.int f)), some (.d (.int l)), some (.d (.int L)), some (.d (.int tot)), some (.d (.lst (ms.map .int))), o8, o9, o10, some (.d (.int lef)), none, none, none], v⟩) R := by
  have l0 := hs.l0
  have ml : ∀ z : Int, modD (.int z) (.int L) = some (.int (z % L)) := fun z => if_pos (by omega)
  have em : (if f + 2 + (ms.length : Int) < l then f + 2 + (ms.length : Int) else l) = min l (f + 2 + ms.length) := by split <;> omega
  have ef : ((((List.range (min l (f + 2 + ms.length) - (f + 1)).toNat).map fun (i : Nat) => D.int (f + 1 + i)).filter fun d => !decide (unI d % L ∈ ms)).map fun d => d) = (freeP f l L ms).map D.int := by
    unfold freeP
    have e0 : ((List.range (min l (f + 2 + ms.length) - (f + 1)).toNat).map fun (i : Nat) => D.int (f + 1 + i)) = ((List.range (min l (f + 2 + ms.length) - (f + 1)).toNat).map fun (i : Nat) => f + 1 + (i : Int)).map D.int := by
      rw [List.map_map]
      rfl
    rw [List.map_id', e0, filter_map']
    rfl
  have sg : Slots v.length [some (.d (.tup [.int a, .int b, .int L])), some (.d (.lst (blksD bl))), some (.d (.str (kindS u))), some (.d (.int f)), some (.d (.int l)), some (.d (.int L)), some (.d (.int tot)), some (.d (.lst (ms.map .int))), o8, o9, o10, some (.d (.int lef)), none, none, none] := fun m hm => by
    rcases d8 with rfl | ⟨_, rfl⟩ <;> rcases d9 with rfl | ⟨_, rfl⟩ <;> rcases d10 with rfl | ⟨_, rfl⟩ <;> simp at hm
  have ln : (min l (f + 2 + ms.length) - (f + 1)).toNat ≤ 200 := by omega
  have nin := fun x => nin_ints x ms
  generalize freeP f l L ms = fs at *
  unfold bw5
  generalize kindS u = k at *
  rw [T_asg, T_frz]
  refine T_flc_map (it := .rng (f + 1) (min l (f + 2 + ms.length) - (f + 1)).toNat) (xs := (List.range (min l (f + 2 + ms.length) - (f + 1)).toNat).map fun (i : Nat) => D.int (f + 1 + i)) (f := fun d => d) (p := fun d => !decide (unI d % L ∈ ms)) ?_ rfl rfl sg hv (by rw [List.length_map, List.length_range, sizeLine_eq]; omega) (fun d hd v' hv' => ?_) ?_
  · simp [em]
  · obtain ⟨t, ht, rfl⟩ := List.mem_map.mp hd
    simp [ml, nin, unI]
    try exact decide_eq_decide.mpr Iff.rfl
  · rw [ef]
    simp
    exact q
theorem bw6_ok (hs : Sz a b L) (hv : Flat v) (q : R .nx ⟨[some (.d (.tup [.int a, .int b, .int L])), some (.d (.lst (blksD bl))), some (.d (.str (kindS u))), some (.d (.int f)), some (.d (.int l)), some (.d (.int L)), some (.d (.int (tot + if 0 < lef ∧ freeOk (spansP u bl) L fs = true then lef else 0))), some (.d (.lst (ms.map .int))), o8, o9, o10, some (.d (.int lef)), some (.d (.lst (fs.map .int))), none, none], v⟩) : T (bw6 ⟨[some (.d (.tup [.int a, .int b, .int L])), some (.d (.lst (blksD bl))), some (.d (.str (kindS u))), some (.d (.int f)), some (.d (.int l)), some (.d (.int L)), some (.d (.int tot)), some (.d (.lst (ms.map .int))), o8, o9, o10, some (.d (.int lef)), some (.d (.lst (fs.map .int))), none, none], v⟩) R := by
  have lc := fun {Q} t => lcount_spec (w := v) (Q := Q) (a := a) (b := b) (t := t) (bl := bl) (u := u) hs.l0 hv
  unfold lineK at lc
  have s2 : 2 ≤ sizeLine := by rw [sizeLine_eq]; omega
  generalize spansP u bl = ss at *
  unfold bw6
  generalize kindS u = k at *
  by_cases c1 : 0 < lef
  · cases fs with
    | nil =>
      rw [if_neg (fun h => by cases h.2), Int.add_zero] at q
      have q0 : neD (.lst []) (.lst []) = some (.bl false) := rfl
      simp [c1, q0]
      exact q
    | cons t r =>
      have q1 : neD (.lst (.int t :: r.map .int)) (.lst []) = some (.bl true) := ne_nilD (ints_plain (t :: r))
      by_cases c2 : cntP ss L t = 0
      · rw [if_pos ⟨c1, by unfold freeOk seamB; simpa using c2⟩] at q
        simp [c1, q1, lc, c2, s2] at q ⊢
        exact q
      · rw [if_neg (fun h => c2 (by have := h.2; unfold freeOk seamB at this; simpa using this)), Int.add_zero] at q
        simp [c1, q1, lc, c2, s2] at q ⊢
        exact q
  · rw [if_neg (fun h => c1 h.1), Int.add_zero] at q
    simp [c1]
    exact q
end
theorem between_spec {a b L f l : Int} {bl : List Blk} {u : Bool} (hs : Sz a b L) (few : bl.length ≤ 30) (hw : Flat w) : FT m__law_seams_between [.d (.tup [.int a, .int b, .int L]), .d (.lst (blksD bl)), .d (.str (kindS u)), .d (.int f), .d (.int l)] w Q ↔ Q (.d (.int (lawP (spansP u bl) L f l (ssZ ((lawE u a b bl).map (· % L)))))) w := by
  refine FT_iff ?_
  have el : (ssZ ((lawE u a b bl).map (· % L))).length ≤ 100 := by
    have := ssZ_len ((lawE u a b bl).map (· % L))
    have := ssZ_len (0 :: sideP u a b :: endsB u bl)
    have := endsB_len u bl
    unfold lawE at *
    simp at *
    omega
  have b2 := fun {R} q => bw2_ok (u := u) (f := f) (l := l) (R := R) hs few hw q
  generalize ssZ ((lawE u a b bl).map (· % L)) = ms at *
  unfold m__law_seams_between
  rw [bw_eq, FT_fn, T_seq]
  unfold bw1
  simp
  refine b2 ?_
  dsimp only
  refine bw3_ok hs (by simp [hw]) fun o8 o9 o10 d8 d9 d10 => ?_
  dsimp only
  refine bw4_ok hs (by simp [hw]) d8 d9 d10 el ?_
  dsimp only
  refine bw5_ok hs (by simp [hw]) d8 d9 d10 el ?_
  dsimp only
  refine bw6_ok hs (by simp [hw]) ?_
  dsimp only
  unfold bw7 lawP trm
  simp [hw]
end Bf
namespace Bf
open PySem PySem.Spec PyProof.Rows L2
/-! ### the law's total is the number of seams -/
theorem lawE_ok {a b L : Int} {bl : List Blk} (h : Blks a b L bl) (hs : Sz a b L) (u : Bool) : (lawE u a b bl).Pairwise (· < ·) ∧ (0 : Int) ∈ lawE u a b bl ∧ sideP u a b ∈ lawE u a b bl ∧ (∀ x ∈ lawE u a b bl, 0 ≤ x ∧ x ≤ sideP u a b) ∧ ∀ p ∈ spansP u bl, p.s ∈ lawE u a b bl ∧ p.e ∈ lawE u a b bl := by
  have hm : ∀ x, x ∈ lawE u a b bl ↔ x = 0 ∨ x = sideP u a b ∨ x ∈ endsB u bl := fun x => by
    unfold lawE
    rw [mem_ssZ, List.mem_cons, List.mem_cons]
  have s1 : 1 ≤ sideP u a b := by
    have := hs.a0
    have := hs.b0
    unfold sideP
    split <;> omega
  have hp : ∀ p ∈ spansP u bl, p.s ∈ endsB u bl ∧ p.e ∈ endsB u bl := fun p hp => by
    unfold spansP at hp
    obtain ⟨q, hq, rfl⟩ := List.mem_map.mp hp
    have hq := (List.mem_filter.mp hq).1
    unfold endsB
    constructor
    · exact List.mem_flatMap.mpr ⟨q, hq, by unfold spanU beg; cases u <;> simp⟩
    · exact List.mem_flatMap.mpr ⟨q, hq, by unfold spanU beg wid; cases u <;> simp⟩
  refine ⟨lt_ssZ _, (hm 0).mpr (.inl rfl), (hm _).mpr (.inr (.inl rfl)), fun x hx => ?_, fun p q => ⟨(hm _).mpr (.inr (.inr (hp p q).1)), (hm _).mpr (.inr (.inr (hp p q).2))⟩⟩
  rcases (hm x).mp hx with q | q | q
  · omega
  · omega
  · unfold endsB at q
    obtain ⟨p, hp, hx⟩ := List.mem_flatMap.mp q
    have := (h.inb p hp).at_ u
    simp at hx
    omega
def lawT (u : Bool) (a b L : Int) (bl : List Blk) : Int := (((((lawE u a b bl).drop 1).dropLast).filter (seamB (spansP u bl) L)).length : Int) + ((pairsP (lawE u a b bl)).map fun p => lawP (spansP u bl) L p.1 p.2 (ssZ ((lawE u a b bl).map (· % L)))).sum
theorem law_tot {a b L : Int} {bl : List Blk} (h : Blks a b L bl) (hs : Sz a b L) (u : Bool) : lawT u a b L bl = numS (spansP u bl) L 0 (sideP u a b) := by
  obtain ⟨h1, h2, h3, h4, h5⟩ := lawE_ok h hs u
  have l0 := hs.l0
  unfold lawT
  rw [← tot_num (ss := spansP u bl) (L := L) h1 h2 h3 h4]
  congr 1
  congr 1
  refine List.map_congr_left fun p hp => ?_
  obtain ⟨q1, q2⟩ := pair_sep h1 p hp
  refine law_num l0 (span_ok h u) ((lt_ssZ _).imp fun q => Int.ne_of_lt q) (fun m hm => ?_) (fun r hr => mem_ssZ.mpr (List.mem_map.mpr ⟨_, (h5 r hr).1, rfl⟩)) (fun r hr => ⟨q2 _ (h5 r hr).1, q2 _ (h5 r hr).2⟩) q1
  obtain ⟨t, _, rfl⟩ := List.mem_map.mp (mem_ssZ.mp hm)
  exact ⟨Int.emod_nonneg _ (by omega), Int.emod_lt_of_pos _ (by omega)⟩
end Bf
namespace Bf
open PySem PySem.Spec PyProof.Rows L2
variable {w : List Cell} {Q : SV → List Cell → Prop}
def ls1 : MS := sAsg (vCall m__law_ends (aCons (vVar 0) (aCons (vVar 1) (aCons (vVar 3) (aNil))))) (hName 4)
def ls2 : MS := sAsg (vOp addD (vVar 2) (vB lenB (aCons (vFrz (vLcN (jSeq (vSl (vVar 4) (oSome (vC (.int 1))) (oSome (vUn negD (vC (.int 1)))))) [7] (hName 7) (cVal (vOp eqD (vCall m__law_count (aCons (vVar 0) (aCons (vVar 1) (aCons (vTup (aCons (vVar 3) (aCons (vVar 7) (aNil)))) (aNil))))) (vC (.int 0)))) (vVar 7))) (aNil)))) (hName 2)
def ls3 : MS := sFor (jZip (aCons (vVar 4) (aCons (vSl (vVar 4) (oSome (vC (.int 1))) (oNone)) (aNil)))) (hTup [hName 5, hName 6]) (sAsg (vOp addD (vVar 2) (vCall m__law_seams_between (aCons (vVar 0) (aCons (vVar 1) (aCons (vVar 3) (aCons (vVar 5) (aCons (vVar 6) (aNil)))))))) (hName 2))
theorem ls_eq : b__law_many_seams = sSeq (sAsg (vC (.int 0)) (hName 2)) (sSeq (sFor (jSeq (vLst (aCons (vC (.str "upright")) (aCons (vC (.str "level")) (aNil))))) (hName 3) (sSeq ls1 (sSeq ls2 ls3))) (sRet (vVar 2))) := rfl
section
variable {a b L tot : Int} {bl : List Blk} {u : Bool} {v : List Cell} {o4 o5 o6 : Option SV} {R : Fl → PS → Prop}
theorem ls1_ok (few : bl.length ≤ 30) (hv : Flat v) (q : R .nx ⟨[some (.d (.tup [.int a, .int b, .int L])), some (.d (.lst (blksD bl))), some (.d (.int tot)), some (.d (.str (kindS u))), some (.d (.lst ((lawE u a b bl).map .int))), o5, o6, none], v⟩) : T (ls1 ⟨[some (.d (.tup [.int a, .int b, .int L])), some (.d (.lst (blksD bl))), some (.d (.int tot)), some (.d (.str (kindS u))), o4, o5, o6, none], v⟩) R := by
  have en := fun {Q} => ends_spec (w := v) (Q := Q) (a := a) (b := b) (L := L) (u := u) few hv
  generalize lawE u a b bl = es at *
  unfold ls1
  simp [en]
  exact q
theorem ls2_ok (hs : Sz a b L) (hv : Flat v) (d5 : Dat' o5) (d6 : Dat' o6) (hc : 2 ≤ (lawE u a b bl).length) (hz : (lawE u a b bl).length ≤ 100) (q : R .nx ⟨[some (.d (.tup [.int a, .int b, .int L])), some (.d (.lst (blksD bl))), some (.d (.int (tot + (((lawE u a b bl).drop 1).dropLast.filter (seamB (spansP u bl) L)).length))), some (.d (.str (kindS u))), some (.d (.lst ((lawE u a b bl).map .int))), o5, o6, none], v ++ [.gone]⟩) : T (ls2 ⟨[some (.d (.tup [.int a, .int b, .int L])), some (.d (.lst (blksD bl))), some (.d (.int tot)), some (.d (.str (kindS u))), some (.d (.lst ((lawE u a b bl).map .int))), o5, o6, none], v⟩) R := by
  have lc := fun {Q} {v} (hv : Flat v) t => lcount_spec (w := v) (Q := Q) (a := a) (b := b) (t := t) (bl := bl) (u := u) hs.l0 hv
  unfold lineK at lc
  have s2 : 2 ≤ sizeLine := by rw [sizeLine_eq]; omega
  generalize lawE u a b bl = es at *
  generalize spansP u bl = ss at *
  have sd : slD (.lst (es.map D.int)) (some 1) (some (-1)) = some (.lst (((es.drop 1).dropLast).map D.int)) := by
    show some (D.lst (cutD _ _ _)) = _
    rw [slice_mid (by simpa using hc), List.map_dropLast, List.map_drop]
  have ef : ((((es.drop 1).dropLast).map D.int).filter fun d => seamB ss L (unI d)).map (fun d => d) = (((es.drop 1).dropLast).filter (seamB ss L)).map D.int := by
    rw [List.map_id', filter_map']
    rfl
  have ll : ∀ ys : List D, lenB [.lst ys] = some (.int ys.length) := fun _ => rfl
  have sg : Slots v.length [some (.d (.tup [.int a, .int b, .int L])), some (.d (.lst (blksD bl))), some (.d (.int tot)), some (.d (.str (kindS u))), some (.d (.lst (es.map .int))), o5, o6, none] := fun m hm => by
    rcases d5 with rfl | ⟨_, rfl⟩ <;> rcases d6 with rfl | ⟨_, rfl⟩ <;> simp at hm
  have ln : ((es.drop 1).dropLast).length ≤ 100 := by simp; omega
  generalize (es.drop 1).dropLast = ds at *
  unfold ls2
  generalize kindS u = k at *
  have h0 : T (vVar 2 ⟨[some (.d (.tup [.int a, .int b, .int L])), some (.d (.lst (blksD bl))), some (.d (.int tot)), some (.d (.str k)), some (.d (.lst (es.map .int))), o5, o6, none], v⟩) fun x s => x = .d (.int tot) ∧ s = ⟨[some (.d (.tup [.int a, .int b, .int L])), some (.d (.lst (blksD bl))), some (.d (.int tot)), some (.d (.str k)), some (.d (.lst (es.map .int))), o5, o6, none], v⟩ := by simp
  rw [T_asg, T_op]
  refine h0.imp fun x s ⟨e1, e2⟩ => ?_
  subst e1 e2
  rw [T_B, T_cons, T_frz]
  refine T_flc_map (it := .seq (ds.map D.int)) (xs := ds.map D.int) (f := fun d => d) (p := fun d => seamB ss L (unI d)) ?_ rfl rfl sg hv (by rw [List.length_map, sizeLine_eq]; omega) (fun d hd v' hv' => ?_) ?_
  · simp [sd]
  · obtain ⟨t, ht, rfl⟩ := List.mem_map.mp hd
    unfold seamB unI
    simp [lc (hv.append hv'), s2]
  · rw [ef]
    simp [ll]
    exact q
theorem ls3_ok (hs : Sz a b L) (few : bl.length ≤ 30) (hv : Flat v) (q : ∀ o5 o6, Dat' o5 → Dat' o6 → R .nx ⟨[some (.d (.tup [.int a, .int b, .int L])), some (.d (.lst (blksD bl))), some (.d (.int (tot + ((pairsP (lawE u a b bl)).map fun p => lawP (spansP u bl) L p.1 p.2 (ssZ ((lawE u a b bl).map (· % L)))).sum))), some (.d (.str (kindS u))), some (.d (.lst ((lawE u a b bl).map .int))), o5, o6, none], v⟩) (d5 : Dat' o5) (d6 : Dat' o6) : T (ls3 ⟨[some (.d (.tup [.int a, .int b, .int L])), some (.d (.lst (blksD bl))), some (.d (.int tot)), some (.d (.str (kindS u))), some (.d (.lst ((lawE u a b bl).map .int))), o5, o6, none], v⟩) R := by
  have bt := fun {Q} f l => between_spec (w := v) (Q := Q) (f := f) (l := l) (bl := bl) (u := u) hs few hv
  generalize lawE u a b bl = es at *
  generalize ssZ (es.map (· % L)) = ms at *
  generalize spansP u bl = ss at *
  have zp := zip_pairs es
  have sd : slD (.lst (es.map D.int)) (some 1) none = some (.lst ((es.map D.int).drop 1)) := by
    show some (D.lst (cutD _ _ _)) = _
    have := cut_from (es.map D.int) 0
    rw [show ((1 : Int)) = ((0 : Nat) : Int) + 1 by decide, this]
  unfold ls3
  generalize kindS u = k at *
  rw [T_sFor]
  have rf : T (jZip (aCons (vVar 4) (aCons (vSl (vVar 4) (oSome (vC (.int 1))) (oNone)) (aNil))) ⟨[some (.d (.tup [.int a, .int b, .int L])), some (.d (.lst (blksD bl))), some (.d (.int tot)), some (.d (.str k)), some (.d (.lst (es.map .int))), o5, o6, none], v⟩) fun it s => it = .prs ((pairsP es).map prI) ∧ s = ⟨[some (.d (.tup [.int a, .int b, .int L])), some (.d (.lst (blksD bl))), some (.d (.int tot)), some (.d (.str k)), some (.d (.lst (es.map .int))), o5, o6, none], v⟩ := by
    simp [sd]
    rw [← List.drop_one]
    exact zp
  refine rf.imp fun it s ⟨e1, e2⟩ => ?_
  subst e1 e2
  obtain ⟨P, hP⟩ : ∃ P : Nat → PS → Prop, P = (fun j s => ∃ o5 o6, Dat' o5 ∧ Dat' o6 ∧ s = ⟨[some (.d (.tup [.int a, .int b, .int L])), some (.d (.lst (blksD bl))), some (.d (.int (tot + (((pairsP es).take j).map fun p => lawP ss L p.1 p.2 ms).sum))), some (.d (.str k)), some (.d (.lst (es.map .int))), o5, o6, none], v⟩) := ⟨_, rfl⟩
  refine T_for (it := .prs ((pairsP es).map prI)) (xs := ((pairsP es).map prI).map fun p => .tup [p.1, p.2]) rfl (Inv := P) (fun j d s hx hI => ?_) (fun s hI => ?_) _ 0 _ (by simp [It'.fuel]) ?_
  · rw [hP] at hI
    obtain ⟨o5, o6, d5, d6, rfl⟩ := hI
    rw [List.getElem?_map, List.getElem?_map] at hx
    cases hj : (pairsP es)[j]? with
    | none => rw [hj] at hx; cases hx
    | some p =>
    rw [hj] at hx
    cases hx
    obtain ⟨bg, lt⟩ := p
    have tk : (((pairsP es).take (j + 1)).map fun p => lawP ss L p.1 p.2 ms).sum = (((pairsP es).take j).map fun p => lawP ss L p.1 p.2 ms).sum + lawP ss L bg lt ms := by
      rw [List.take_add_one, hj]
      simp
    have fin : ∃ s', trunc v.length ⟨[some (.d (.tup [.int a, .int b, .int L])), some (.d (.lst (blksD bl))), some (.d (.int (tot + (((pairsP es).take (j + 1)).map fun p => lawP ss L p.1 p.2 ms).sum))), some (.d (.str k)), some (.d (.lst (es.map .int))), some (.d (.int bg)), some (.d (.int lt)), none], v⟩ = some s' ∧ P (j + 1) s' := by
      refine ⟨_, Flat.trunc hv _, ?_⟩
      rw [hP]
      exact ⟨some (.d (.int bg)), some (.d (.int lt)), .inr ⟨_, rfl⟩, .inr ⟨_, rfl⟩, by simp⟩
    rw [tk, ← Int.add_assoc] at fin
    generalize (((pairsP es).take j).map fun p => lawP ss L p.1 p.2 ms).sum = n at *
    unfold prI
    dsimp only
    rw [T_hTup2, T_name]
    refine ⟨by simp, ?_⟩
    rw [T_name]
    refine ⟨by simp, ?_⟩
    dsimp only [List.set_cons_succ, List.set_cons_zero]
    simp [bt]
    simpa using fin
  · rw [hP] at hI
    obtain ⟨o5, o6, d5, d6, rfl⟩ := hI
    rw [List.length_map, List.length_map, List.take_length]
    exact q o5 o6 d5 d6
  · rw [hP]
    exact ⟨o5, o6, d5, d6, by simp⟩
end
end Bf
namespace Bf
open PySem PySem.Spec PyProof.Rows L2
variable {w : List Cell} {Q : SV → List Cell → Prop}
theorem lturn_ok {a b L tot : Int} {bl : List Blk} {u : Bool} {o4 o5 o6 : Option SV} {R : Fl → PS → Prop} (h : Blks a b L bl) (hs : Sz a b L) (few : bl.length ≤ 30) (hw : Flat w) (d5 : Dat' o5) (d6 : Dat' o6)
    (q : ∀ r o5 o6, Dat' o5 → Dat' o6 → R .nx ⟨[some (.d (.tup [.int a, .int b, .int L])), some (.d (.lst (blksD bl))), some (.d (.int (tot + lawT u a b L bl))), some (.d (.str (kindS u))), some (.d r), o5, o6, none], w ++ [.gone]⟩) : T (sSeq ls1 (sSeq ls2 ls3) ⟨[some (.d (.tup [.int a, .int b, .int L])), some (.d (.lst (blksD bl))), some (.d (.int tot)), some (.d (.str (kindS u))), o4, o5, o6, none], w⟩) R := by
  obtain ⟨h1, h2, h3, h4, h5⟩ := lawE_ok h hs u
  have s1 : 1 ≤ sideP u a b := by
    have := hs.a0
    have := hs.b0
    unfold sideP
    split <;> omega
  have c2 := two_len h2 h3 s1
  have c1 : (lawE u a b bl).length ≤ 100 := by
    have := ssZ_len (0 :: sideP u a b :: endsB u bl)
    have := endsB_len u bl
    unfold lawE
    simp at *
    omega
  rw [T_seq]
  refine ls1_ok few hw ?_
  dsimp only
  rw [T_seq]
  refine ls2_ok hs hw d5 d6 c2 c1 ?_
  dsimp only
  refine ls3_ok hs few (by simp [hw]) (fun o5 o6 e5 e6 => ?_) d5 d6
  have := q (.lst ((lawE u a b bl).map .int)) o5 o6 e5 e6
  unfold lawT at this
  rw [Int.add_assoc]
  exact this
theorem law_many_spec {a b L : Int} {bl : List Blk} (h : Blks a b L bl) (hs : Sz a b L) (few : bl.length ≤ 30) (hw : Flat w) : FT m__law_many_seams [.d (.tup [.int a, .int b, .int L]), .d (.lst (blksD bl))] w Q ↔ Q (.d (.int (numS (spansP true bl) L 0 a + numS (spansP false bl) L 0 b))) w := by
  refine FT_iff ?_
  have n1 : numS (spansP true bl) L 0 a = lawT true a b L bl := (law_tot h hs true).symm
  have n2 : numS (spansP false bl) L 0 b = lawT false a b L bl := (law_tot h hs false).symm
  rw [n1, n2]
  clear n1 n2
  have tu := fun {tot o4 o5 o6 R} u d5 d6 q => lturn_ok (tot := tot) (u := u) (o4 := o4) (o5 := o5) (o6 := o6) (R := R) h hs few hw d5 d6 q
  generalize hA : lawT true a b L bl = A at *
  generalize hB : lawT false a b L bl = B at *
  unfold m__law_many_seams
  rw [ls_eq, FT_fn, T_seq, T_asg, T_c, T_name]
  refine ⟨by simp, ?_⟩
  dsimp only
  rw [T_seq, T_sFor]
  have rf : T (jSeq (vLst (aCons (vC (.str "upright")) (aCons (vC (.str "level")) (aNil)))) ⟨[some (.d (.tup [.int a, .int b, .int L])), some (.d (.lst (blksD bl))), some (.d (.int 0)), none, none, none, none, none], w⟩) fun it s => it = .seq [.str "upright", .str "level"] ∧ s = ⟨[some (.d (.tup [.int a, .int b, .int L])), some (.d (.lst (blksD bl))), some (.d (.int 0)), none, none, none, none, none], w⟩ := by
    have s2 : 2 ≤ sizeLine := by rw [sizeLine_eq]; omega
    simp [s2]
  refine rf.imp fun it s ⟨e1, e2⟩ => ?_
  subst e1 e2
  obtain ⟨P, hP⟩ : ∃ P : Nat → PS → Prop, P = (fun i s => (i = 0 ∧ s = ⟨[some (.d (.tup [.int a, .int b, .int L])), some (.d (.lst (blksD bl))), some (.d (.int 0)), none, none, none, none, none], w⟩) ∨ (i = 1 ∧ ∃ r o5 o6, Dat' o5 ∧ Dat' o6 ∧ s = ⟨[some (.d (.tup [.int a, .int b, .int L])), some (.d (.lst (blksD bl))), some (.d (.int (0 + A))), some (.d (.str (kindS true))), some (.d r), o5, o6, none], w⟩) ∨ (i = 2 ∧ ∃ r o5 o6, Dat' o5 ∧ Dat' o6 ∧ s = ⟨[some (.d (.tup [.int a, .int b, .int L])), some (.d (.lst (blksD bl))), some (.d (.int (0 + A + B))), some (.d (.str (kindS false))), some (.d r), o5, o6, none], w⟩)) := ⟨_, rfl⟩
  refine T_for (it := .seq [.str "upright", .str "level"]) (xs := [.str "upright", .str "level"]) rfl (Inv := P) (fun i x s hx hI => ?_) (fun s hI => ?_) _ 0 _ (by simp [It'.fuel]) (by rw [hP]; exact .inl ⟨rfl, rfl⟩)
  · rw [hP] at hI
    rcases hI with ⟨rfl, rfl⟩ | ⟨rfl, r, o5, o6, d5, d6, rfl⟩ | ⟨rfl, r, o5, o6, d5, d6, rfl⟩
    · cases hx
      rw [T_name]
      refine ⟨by simp, ?_⟩
      refine tu (tot := 0) (o4 := none) true (.inl rfl) (.inl rfl) fun r o5 o6 d5 d6 => ?_
      refine ⟨⟨[some (.d (.tup [.int a, .int b, .int L])), some (.d (.lst (blksD bl))), some (.d (.int (0 + A))), some (.d (.str (kindS true))), some (.d r), o5, o6, none], w⟩, ?_, ?_⟩
      · rcases d5 with rfl | ⟨_, rfl⟩ <;> rcases d6 with rfl | ⟨_, rfl⟩ <;> simp [hw, hA]
      · rw [hP]
        exact .inr (.inl ⟨rfl, r, o5, o6, d5, d6, rfl⟩)
    · cases hx
      rw [T_name]
      refine ⟨by simp, ?_⟩
      refine tu (tot := 0 + A) (o4 := some (.d r)) false d5 d6 fun r o5 o6 d5 d6 => ?_
      refine ⟨⟨[some (.d (.tup [.int a, .int b, .int L])), some (.d (.lst (blksD bl))), some (.d (.int (0 + A + B))), some (.d (.str (kindS false))), some (.d r), o5, o6, none], w⟩, ?_, ?_⟩
      · rcases d5 with rfl | ⟨_, rfl⟩ <;> rcases d6 with rfl | ⟨_, rfl⟩ <;> simp [hw, hB]
      · rw [hP]
        exact .inr (.inr ⟨rfl, r, o5, o6, d5, d6, rfl⟩)
    · cases hx
  · rw [hP] at hI
    rcases hI with ⟨e, _⟩ | ⟨e, _⟩ | ⟨_, r, o5, o6, d5, d6, rfl⟩
    · cases e
    · cases e
    · simp [hw]
end Bf
namespace Bf
open PySem PySem.Spec PyProof.Rows L2
variable {w : List Cell} {Q : SV → List Cell → Prop}
theorem pexP_spec {bl : List Blk} {a b L : Int} (hs : Sz a b L) (h : Blks a b L bl) (hw : Flat w) : FT m_Plan_exchanged [.d (.ins 0 (planD bl a b L))] w fun x w' => (∃ cl : List Blk, cl.Perm (bl.map exBlk) ∧ Blks b a L cl ∧ x = .d (.ins 0 (planD cl b a L))) ∧ w' = w := by
  obtain ⟨sl, e1, hp⟩ := sorted_blks bl
  have hx := (h.perm hp).ex
  have hlen := h.len
  have fl1 : ∀ s, fldOf [0] "own_size" s (.d (.ins 0 (planD bl a b L))) = some (.d (.tup [.int a, .int b, .int L])) := fun s => rfl
  have fl2 : ∀ s, fldOf [0] "own_blocks" s (.d (.ins 0 (planD bl a b L))) = some (.d (.tup (blksD sl))) := fun s => by rw [← e1]; rfl
  unfold m_Plan_exchanged b_Plan_exchanged
  rw [FT_fn]
  generalize planD bl a b L = F at *
  rw [T_ret]
  refine T_cm ?_
  rw [T_c]
  refine ⟨rfl, ?_⟩
  have st : ∀ {R : List SV → PS → Prop}, R [.d (.tup [.int b, .int a, .int L]), .d (.tup (blksD (sl.map exBlk)))] ⟨[some (.d (.ins 0 F)), none], w ++ [.gone]⟩ → T ((aCons (vCall m_exchanged_size (aCons (vFld [0] "own_size" (vVar 0)) (aNil))) (aCons (vB tupleB (aCons (vFrz (vLcN (jSeq (vFld [0] "own_blocks" (vVar 0))) [1] (hName 1) (cYes) (vCall m_exchanged_block (aCons (vVar 1) (aNil))))) (aNil))) (aNil))) ⟨[some (.d (.ins 0 F)), none], w⟩) R := fun {R} q => by
    simp only [T_cons, T_call, T_fld, T_var, T_nil, T_B, T_frz, List.getElem?_cons_zero, OD_some, fl1]
    rw [exsize_spec hw]
    refine T_flc_map (it := .seq (blksD sl)) (xs := blksD sl) (p := fun _ => true) (f := fun d => blkD (exBlk (unBlk d))) ?_ rfl rfl ?_ hw ?_ ?_ ?_
    · simp [T_fld, fl2]
    · intro k hk
      simp at hk
    · rw [blks_len, sizeLine_eq]
      have := hp.length_eq
      omega
    · intro x hx v hv
      obtain ⟨p, hp', rfl⟩ := List.mem_map.mp hx
      rw [unBlk_d]
      simp
      rw [exblk_spec (by simp [hw, hv])]
      simp
    · have e : ((blksD sl).filter (fun _ => true)).map (fun d => blkD (exBlk (unBlk d))) = blksD (sl.map exBlk) := by
        rw [List.filter_eq_self.mpr (fun _ _ => rfl)]
        unfold blksD
        rw [List.map_map, List.map_map]
        refine List.map_congr_left fun p _ => ?_
        show blkD (exBlk (unBlk (blkD p))) = _
        rw [unBlk_d]
        rfl
      have tb : ∀ xs, tupleB [.lst xs] = some (.tup xs) := fun _ => rfl
      rw [e]
      simp [tb]
      exact q
  refine st ?_
  refine FT_len rfl ?_
  rw [pof_spec hs.ex hx (hw.append (Flat.one rfl))]
  dsimp only
  rw [Flat.ret (hw.append (Flat.one rfl))]
  refine ⟨⟨_, hp.map exBlk, hx, rfl⟩, ?_⟩
  simp
theorem crossings_spec {F : List (Str × D)} {a b L t : Int} {sl : List Blk} (h : PlF F a b L sl) {u : Bool} (h1 : 1 ≤ t) (h2 : t < sideP u a b) (hw : Flat w) : FT m_Plan_crossings [.d (.ins 0 F), .d (lineK u t)] w Q ↔ Q (.d (.int (cntP (spansP u sl) L t))) w := by
  refine FT_iff ?_
  have rq := fun {Q} => req_line_spec (w := w) (Q := Q) (L := L) h1 h2 hw
  have co := fun {Q} => count_spec (w := w) (Q := Q) (t := t) h u hw
  unfold m_Plan_crossings b_Plan_crossings
  rw [FT_fn]
  have e : lineK u t = .tup [.str (kindS u), .int t] := rfl
  simp [T_fld, h.sz, rq, -List.lookup_eq_none_iff]
  simp [e, h.n2, w_Plan_count_at, co, hw, -List.lookup_eq_none_iff]
theorem rest_spec {a b L t : Int} {u : Bool} (hs : Sz a b L) (hw : Flat w) : FT m__law_remainder [.d (.tup [.int a, .int b, .int L]), .d (lineK u t)] w Q ↔ Q (.d (.int (if t % L = 0 then 0 else sideP (!u) a b % L))) w := by
  refine FT_iff ?_
  have l0 := hs.l0
  have ml : ∀ z : Int, modD (.int z) (.int L) = some (.int (z % L)) := fun z => if_pos (by omega)
  have ke := kind_eq u
  unfold m__law_remainder b__law_remainder lineK
  rw [FT_fn]
  generalize kindS u = k at *
  by_cases c : t % L = 0
  · simp [ml, c, hw]
  · cases u <;> simp [ml, c, hw, ke, sideP]
theorem spans_ex (u : Bool) (bl : List Blk) : spansP u (bl.map exBlk) = spansP (!u) bl := by
  unfold spansP
  rw [List.filter_map, List.map_map]
  have e : ((fun p : Blk => p.u == u) ∘ exBlk) = fun p => p.u == !u := by
    funext p
    show ((!p.u) == u) = (p.u == !u)
    cases p.u <;> cases u <;> rfl
  rw [e]
  refine List.map_congr_left fun p _ => ?_
  unfold spanU exBlk
  cases u <;> simp
theorem num_perm {ss ts : List Span} (h : ss.Perm ts) (L f l : Int) : numS ss L f l = numS ts L f l := by
  have e : seamB ss L = seamB ts L := by
    funext t
    unfold seamB cntP
    rw [sum_perm ((((h.filter _).filter _)).map _)]
  unfold numS
  rw [e]
theorem spans_perm (u : Bool) {sl bl : List Blk} (h : sl.Perm bl) : (spansP u sl).Perm (spansP u bl) := (h.filter _).map _
end Bf
namespace Bf
open PySem PySem.Spec PyProof.Rows L2
variable {w : List Cell} {Q : SV → List Cell → Prop}
def lt1 : MS := sAsg (vCall m__law_count (aCons (vVar 1) (aCons (vVar 2) (aCons (vVar 9) (aNil))))) (hName 10)
def lt2 : MS := sIf (cOr (cVal (vOp neD (vMe 0 "crossings" w_Plan_crossings (vVar 3) (aCons (vVar 9) (aNil))) (vVar 10))) (cVal (vOp neD (vMe 0 "is_seam" w_Plan_is_seam (vVar 3) (aCons (vVar 9) (aNil))) (vOp eqD (vVar 10) (vC (.int 0)))))) (sRet (vC (.bl false))) (sNx)
def lt3 : MS := sIf (cVal (vOp neD (vOp modD (vVar 10) (vOp idxD (vVar 1) (vC (.int 2)))) (vCall m__law_remainder (aCons (vVar 1) (aCons (vVar 9) (aNil)))))) (sRet (vC (.bl false))) (sNx)
theorem cnt_perm {ss ts : List Span} (h : ss.Perm ts) (L t : Int) : cntP ss L t = cntP ts L t := by
  unfold cntP
  rw [sum_perm ((((h.filter _).filter _)).map _)]
theorem line_turn {F : List (Str × D)} {a b L t : Int} {sl bl : List Blk} {u : Bool} {k c : Nat} {v : List Cell} {o5 o6 o7 o8 o10 o11 : Option SV} {R : Fl → PS → Prop} (h : PlF F a b L sl) (hB : Blks a b L bl) (hp : sl.Perm bl) (h1 : 1 ≤ t) (h2 : t < sideP u a b) (hv : Flat v)
    (c1 : F.lookup ("crossings" : Str) = none)
    (q : R .nx ⟨[some (.cell k), some (.d (.tup [.int a, .int b, .int L])), some (.d (.lst (blksD bl))), some (.d (.ins 0 F)), some (.cell c), o5, o6, o7, o8, some (.d (lineK u t)), some (.d (.int (cntP (spansP u bl) L t))), o11], v⟩) :
    T (sSeq lt1 (sSeq lt2 lt3) ⟨[some (.cell k), some (.d (.tup [.int a, .int b, .int L])), some (.d (.lst (blksD bl))), some (.d (.ins 0 F)), some (.cell c), o5, o6, o7, o8, some (.d (lineK u t)), o10, o11], v⟩) R := by
  have l0 := h.hs.l0
  have ml : ∀ z : Int, modD (.int z) (.int L) = some (.int (z % L)) := fun z => if_pos (by omega)
  have lc := fun {Q} => lcount_spec (w := v) (Q := Q) (a := a) (b := b) (t := t) (bl := bl) (u := u) l0 hv
  have cr := fun {Q} => crossings_spec (w := v) (Q := Q) h h1 h2 hv
  have se := fun {Q} => is_seam_spec (w := v) (Q := Q) h h1 h2 hv
  have re := fun {Q} => rest_spec (w := v) (Q := Q) (t := t) (u := u) h.hs hv
  have cm := cnt_mod hB h.hs u (t := t) (by omega) h2
  rw [cnt_perm (spans_perm u hp) L t] at cr se
  rw [← cm] at re
  generalize cntP (spansP u bl) L t = n at *
  generalize lineK u t = LN at *
  have ne : ∀ x : Int, neD (.int x) (.int x) = some (.bl false) := fun x => by simp
  have nb : ∀ x : Bool, neD (.bl x) (.bl x) = some (.bl false) := fun x => by cases x <;> rfl
  unfold lt1 lt2 lt3
  simp [lc, cr, se, re, ml, ne, nb, c1, h.n7, w_Plan_crossings, w_Plan_is_seam, -List.lookup_eq_none_iff]
  exact q
end Bf
namespace Bf
open PySem PySem.Spec PyProof.Rows L2
/-- a loop over a list's cell that the turns leave as it is -/
theorem T_forCell {k n : Nat} {xs : List D} {g : MG} {body : MS} {Q : Fl → PS → Prop} (Inv : Nat → PS → Prop) (keep : ∀ i s, Inv i s → s.w[k]? = some (.lst xs))
    (step : ∀ i x s, xs[i]? = some x → Inv i s → T (g (.d x) s) fun _ s => T (body s) fun fl s => match fl with
      | .nx => ∃ s', trunc n s = some s' ∧ Inv (i + 1) s'
      | .ct => ∃ s', trunc n s = some s' ∧ Inv (i + 1) s'
      | .bk => Q .nx s
      | .rt x => Q (.rt x) s) (stop : ∀ s, Inv xs.length s → Q .nx s) : ∀ (m i : Nat) (s : PS), i + m = xs.length → Inv i s → T (forGo (.cell k) n g body m i s) Q := by
  have atx : ∀ i s, Inv i s → (It'.cell k).at s i = some xs[i]? := fun i s h => by
    show (match s.w[k]? with | some (.lst xs) => some xs[i]? | _ => none) = _
    rw [keep i s h]
  intro m
  induction m with
  | zero =>
    intro i s hi h
    unfold forGo
    rw [atx i s h, List.getElem?_eq_none (by omega)]
    exact T_ok.mpr (stop s (by rw [← hi]; exact h))
  | succ m ih =>
    intro i s hi h
    unfold forGo
    obtain ⟨x, hx⟩ : ∃ x, xs[i]? = some x := ⟨xs[i]'(by omega), List.getElem?_eq_getElem (by omega)⟩
    rw [atx i s h, hx]
    simp only [T_bind]
    refine (step i x s hx h).imp fun _ s1 h1 => h1.imp fun fl s2 h2 => ?_
    cases fl with
    | nx =>
      obtain ⟨s', e, h3⟩ := h2
      simp only [e]
      exact ih (i + 1) s' (by omega) h3
    | ct =>
      obtain ⟨s', e, h3⟩ := h2
      simp only [e]
      exact ih (i + 1) s' (by omega) h3
    | bk => exact T_ok.mpr h2
    | rt x => exact T_ok.mpr h2
/-- lines of the floor -/
def Lines (a b : Int) (ls : List D) : Prop := ∀ d ∈ ls, ∃ u t, d = lineK u t ∧ 1 ≤ t ∧ t < sideP u a b
end Bf
namespace Bf
open PySem PySem.Spec PyProof.Rows L2
theorem lines_loop {F : List (Str × D)} {a b L : Int} {sl bl : List Blk} {k c : Nat} {v : List Cell} {ls : List D} {o5 o6 o7 o8 o9 o10 o11 : Option SV} {R : Fl → PS → Prop} (h : PlF F a b L sl) (hB : Blks a b L bl) (hp : sl.Perm bl) (hv : Flat v) (hc : v[c]? = some (.lst ls)) (hl : Lines a b ls) (hk : k < v.length)
    (c1 : F.lookup ("crossings" : Str) = none) (d5 : Dat' o5) (d6 : Dat' o6) (d7 : Dat' o7) (d8 : Dat' o8) (d9 : Dat' o9) (d10 : Dat' o10) (d11 : Dat' o11)
    (q : ∀ o9 o10, Dat' o9 → Dat' o10 → R .nx ⟨[some (.cell k), some (.d (.tup [.int a, .int b, .int L])), some (.d (.lst (blksD bl))), some (.d (.ins 0 F)), some (.cell c), o5, o6, o7, o8, o9, o10, o11], v⟩) :
    T (sFor (jSeq (vVar 4)) (hName 9) (sSeq lt1 (sSeq lt2 lt3)) ⟨[some (.cell k), some (.d (.tup [.int a, .int b, .int L])), some (.d (.lst (blksD bl))), some (.d (.ins 0 F)), some (.cell c), o5, o6, o7, o8, o9, o10, o11], v⟩) R := by
  have hcl : c < v.length := (List.getElem?_eq_some_iff.mp hc).1
  rw [T_sFor]
  have rf : T (jSeq (vVar 4) ⟨[some (.cell k), some (.d (.tup [.int a, .int b, .int L])), some (.d (.lst (blksD bl))), some (.d (.ins 0 F)), some (.cell c), o5, o6, o7, o8, o9, o10, o11], v⟩) fun it s => it = .cell c ∧ s = ⟨[some (.cell k), some (.d (.tup [.int a, .int b, .int L])), some (.d (.lst (blksD bl))), some (.d (.ins 0 F)), some (.cell c), o5, o6, o7, o8, o9, o10, o11], v⟩ := by
    simp [SQ, hc]
  refine rf.imp fun it s ⟨e1, e2⟩ => ?_
  subst e1 e2
  obtain ⟨P, hP⟩ : ∃ P : Nat → PS → Prop, P = (fun _ s => ∃ o9 o10, Dat' o9 ∧ Dat' o10 ∧ s = ⟨[some (.cell k), some (.d (.tup [.int a, .int b, .int L])), some (.d (.lst (blksD bl))), some (.d (.ins 0 F)), some (.cell c), o5, o6, o7, o8, o9, o10, o11], v⟩) := ⟨_, rfl⟩
  refine T_forCell (k := c) (xs := ls) P (fun i s hI => ?_) (fun i x s hx hI => ?_) (fun s hI => ?_) _ 0 _ (by simp [It'.fuel, hc]) ?_
  · rw [hP] at hI
    obtain ⟨o9, o10, d9, d10, rfl⟩ := hI
    exact hc
  · rw [hP] at hI
    obtain ⟨o9, o10, d9, d10, rfl⟩ := hI
    obtain ⟨u, t, rfl, h1, h2⟩ := hl x (List.mem_of_getElem? hx)
    rw [T_name]
    refine ⟨by simp, ?_⟩
    refine line_turn h hB hp h1 h2 hv c1 ?_
    refine ⟨_, Flat.trunc hv _, ?_⟩
    rw [hP]
    refine ⟨some (.d (lineK u t)), some (.d (.int (cntP (spansP u bl) L t))), .inr ⟨_, rfl⟩, .inr ⟨_, rfl⟩, ?_⟩
    simp only [List.map_cons, List.map_nil, dropG_none, dropG_d, d5.drop, d6.drop, d7.drop, d8.drop, d11.drop, dropG_lt hk, dropG_lt hcl, List.take_length]
  · rw [hP] at hI
    obtain ⟨o9, o10, d9, d10, rfl⟩ := hI
    exact q o9 o10 d9 d10
  · rw [hP]
    exact ⟨o9, o10, d9, d10, rfl⟩
end Bf
namespace Bf
open PySem PySem.Spec PyProof.Rows L2
def lp1 : MS := sAsg (vLstN (aNil)) (hName 7)
def lp2 : MS := sFor (jSeq (vCall m__law_ends (aCons (vVar 1) (aCons (vVar 2) (aCons (vVar 5) (aNil)))))) (hName 8) (sExp (vMu extM (vVar 7) (aCons (vLst (aCons (vOp subD (vVar 8) (vC (.int 1))) (aCons (vVar 8) (aCons (vOp addD (vVar 8) (vC (.int 1))) (aCons (vOp addD (vVar 8) (vOp idxD (vVar 1) (vC (.int 2)))) (aCons (vOp subD (vVar 8) (vOp idxD (vVar 1) (vC (.int 2)))) (aNil))))))) (aNil))))
def lp3 : MS := sExp (vMu extM (vVar 4) (aCons (vFrz (vLcN (jSeq (vOp addD (vVar 7) (vLst (aCons (vOp divD (vVar 6) (vC (.int 2))) (aCons (vOp divD (vVar 6) (vC (.int 3))) (aNil)))))) [11] (hName 11) (cVal (vChain leD ltD (vC (.int 1)) (vVar 11) (vVar 6))) (vTup (aCons (vVar 5) (aCons (vVar 11) (aNil)))))) (aNil)))
theorem spots_loop {F : List (Str × D)} {a b L : Int} {bl : List Blk} {u : Bool} {k c : Nat} {v : List Cell} {o8 o9 o10 o11 : Option SV} (few : bl.length ≤ 30) (hv : Flat v) (hk : k < v.length) (hc : c < v.length)
    (d8 : Dat' o8) (d9 : Dat' o9) (d10 : Dat' o10) (d11 : Dat' o11) :
    T (lp2 ⟨[some (.cell k), some (.d (.tup [.int a, .int b, .int L])), some (.d (.lst (blksD bl))), some (.d (.ins 0 F)), some (.cell c), some (.d (.str (kindS u))), some (.d (.int (sideP u a b))), some (.cell v.length), o8, o9, o10, o11], v ++ [.lst []]⟩) fun fl s => fl = .nx ∧ ∃ (zs : List Int) (o8 : Option SV), Dat' o8 ∧ zs.length ≤ 500 ∧ s = ⟨[some (.cell k), some (.d (.tup [.int a, .int b, .int L])), some (.d (.lst (blksD bl))), some (.d (.ins 0 F)), some (.cell c), some (.d (.str (kindS u))), some (.d (.int (sideP u a b))), some (.cell v.length), o8, o9, o10, o11], v ++ [.lst (zs.map .int)]⟩ := by
  have en := fun {Q} => ends_spec (w := v ++ [.lst []]) (Q := Q) (a := a) (b := b) (L := L) (u := u) few (by simp [hv])
  have el : (lawE u a b bl).length ≤ 62 := by
    have := ssZ_len (0 :: sideP u a b :: endsB u bl)
    have := endsB_len u bl
    unfold lawE
    simp at *
    omega
  have s5 : 5 ≤ sizeLine := by rw [sizeLine_eq]; omega
  generalize lawE u a b bl = es at *
  generalize sideP u a b = sd at *
  unfold lp2
  generalize kindS u = k1 at *
  rw [T_sFor]
  simp [en]
  obtain ⟨P, hP⟩ : ∃ P : Nat → PS → Prop, P = (fun j s => ∃ (zs : List Int) (o8 : Option SV), Dat' o8 ∧ zs.length = 5 * j ∧ s = ⟨[some (.cell k), some (.d (.tup [.int a, .int b, .int L])), some (.d (.lst (blksD bl))), some (.d (.ins 0 F)), some (.cell c), some (.d (.str k1)), some (.d (.int sd)), some (.cell v.length), o8, o9, o10, o11], v ++ [.lst (zs.map .int)]⟩) := ⟨_, rfl⟩
  refine T_for (it := .seq (es.map D.int)) (xs := es.map D.int) rfl (Inv := P) (fun j d s hx hI => ?_) (fun s hI => ?_) _ 0 _ (by simp [It'.fuel]) ?_
  · rw [hP] at hI
    obtain ⟨zs, o8, d8, hz, rfl⟩ := hI
    have hj : j < es.length := by
      have := (List.getElem?_eq_some_iff.mp hx).1
      simpa using this
    obtain ⟨t, ht, rfl⟩ := List.mem_map.mp (List.mem_of_getElem? hx)
    rw [T_name]
    refine ⟨by simp, ?_⟩
    dsimp only [List.set_cons_succ, List.set_cons_zero]
    have ex : ∀ x1 x2 x3 x4 x5 : D, extM (zs.map D.int) [.lst [x1, x2, x3, x4, x5]] = some (zs.map D.int ++ [x1, x2, x3, x4, x5], .non) := fun x1 x2 x3 x4 x5 => if_pos (by
      rw [sizeLine_eq]
      simp
      omega)
    have fin : ∃ s', trunc (v.length + 1) ⟨[some (.cell k), some (.d (.tup [.int a, .int b, .int L])), some (.d (.lst (blksD bl))), some (.d (.ins 0 F)), some (.cell c), some (.d (.str k1)), some (.d (.int sd)), some (.cell v.length), some (.d (.int t)), o9, o10, o11], v ++ [.lst (zs.map .int ++ [.int (t - 1), .int t, .int (t + 1), .int (t + L), .int (t - L)])]⟩ = some s' ∧ P (j + 1) s' := by
      have e : zs.map D.int ++ [D.int (t - 1), .int t, .int (t + 1), .int (t + L), .int (t - L)] = (zs ++ [t - 1, t, t + 1, t + L, t - L]).map D.int := by simp
      rw [e]
      have el : v.length + 1 = (v ++ [Cell.lst ((zs ++ [t - 1, t, t + 1, t + L, t - L]).map D.int)]).length := by simp
      rw [el]
      refine ⟨_, Flat.trunc (by simp [hv]) _, ?_⟩
      rw [hP]
      refine ⟨zs ++ [t - 1, t, t + 1, t + L, t - L], some (.d (.int t)), .inr ⟨_, rfl⟩, by simp; omega, ?_⟩
      have q1 : k < (v ++ [Cell.lst ((zs ++ [t - 1, t, t + 1, t + L, t - L]).map D.int)]).length := by simp; omega
      have q2 : c < (v ++ [Cell.lst ((zs ++ [t - 1, t, t + 1, t + L, t - L]).map D.int)]).length := by simp; omega
      have q3 : v.length < (v ++ [Cell.lst ((zs ++ [t - 1, t, t + 1, t + L, t - L]).map D.int)]).length := by simp
      simp only [List.map_cons, List.map_nil, dropG_none, dropG_d, d9.drop, d10.drop, d11.drop, dropG_lt q1, dropG_lt q2, dropG_lt q3, List.take_length]
    simp [ex, s5] at fin ⊢
    exact fin
  · rw [hP] at hI
    obtain ⟨zs, o8, d8, hz, rfl⟩ := hI
    rw [List.length_map] at hz
    exact ⟨rfl, zs, o8, d8, by omega, rfl⟩
  · rw [hP]
    exact ⟨[], o8, d8, rfl, rfl⟩
end Bf
namespace Bf
open PySem PySem.Spec PyProof.Rows L2
theorem lp3_ok {F : List (Str × D)} {a b L : Int} {bl : List Blk} {u : Bool} {k c : Nat} {v : List Cell} {zs : List Int} {ls : List D} {o8 o9 o10 o11 : Option SV} {R : Fl → PS → Prop} (hv : Flat v) (hk : k < v.length) (hc : v[c]? = some (.lst ls)) (hl : Lines a b ls) (hz : zs.length ≤ 500) (hn : ls.length ≤ 2000) (s0 : 1 ≤ sideP u a b) (s1 : sideP u a b ≤ 1000000000000000000000000000000)
    (d8 : Dat' o8) (d9 : Dat' o9) (d10 : Dat' o10) (d11 : Dat' o11) (q : ∀ ls' : List D, Lines a b ls' → ls'.length ≤ ls.length + 502 → R .nx ⟨[some (.cell k), some (.d (.tup [.int a, .int b, .int L])), some (.d (.lst (blksD bl))), some (.d (.ins 0 F)), some (.cell c), some (.d (.str (kindS u))), some (.d (.int (sideP u a b))), some (.cell v.length), o8, o9, o10, o11], (v ++ [Cell.lst (zs.map .int), Cell.gone]).set c (Cell.lst ls')⟩) : T (lp3 ⟨[some (.cell k), some (.d (.tup [.int a, .int b, .int L])), some (.d (.lst (blksD bl))), some (.d (.ins 0 F)), some (.cell c), some (.d (.str (kindS u))), some (.d (.int (sideP u a b))), some (.cell v.length), o8, o9, o10, o11], v ++ [.lst (zs.map .int)]⟩) R := by
  have hcl : c < v.length := (List.getElem?_eq_some_iff.mp hc).1
  have hd : ∀ z n : Int, 0 < n → n ≤ 1000 → divD (.int z) (.int n) = some (.int (z / n)) := fun z n n0 n1 => by
    have big : (10 : Int) ^ 40 = 10000000000000000000000000000000000000000 := by decide
    exact divD_int ⟨by omega, log_ok (by rw [big]; omega) (by omega)⟩
  have hd2 := fun z => hd z 2 (by omega) (by omega)
  have hd3 := fun z => hd z 3 (by omega) (by omega)
  have s2 : 2 ≤ sizeLine := by rw [sizeLine_eq]; omega
  have ad : ∀ x y : Int, addD (.lst (zs.map .int)) (.lst [.int x, .int y]) = some (.lst ((zs ++ [x, y]).map .int)) := fun x y => by
    rw [List.map_append]
    exact if_pos (by rw [sizeLine_eq]; simp; omega)
  have hw : Flat (v ++ [.lst (zs.map D.int)]) := by simp [hv]
  have g1 : (v ++ [Cell.lst (zs.map .int)])[v.length]? = some (.lst (zs.map .int)) := by simp
  have g2 : (v ++ [Cell.lst (zs.map .int), .gone])[c]? = some (.lst ls) := by rw [List.getElem?_append_left hcl]; exact hc
  have g3 : (v ++ [Cell.lst (zs.map .int)])[c]? = some (.lst ls) := by rw [List.getElem?_append_left hcl]; exact hc
  have sg : Slots (v ++ [Cell.lst (zs.map .int)]).length [some (.cell k), some (.d (.tup [.int a, .int b, .int L])), some (.d (.lst (blksD bl))), some (.d (.ins 0 F)), some (.cell c), some (.d (.str (kindS u))), some (.d (.int (sideP u a b))), some (.cell v.length), o8, o9, o10, o11] := fun m hm => by
    rcases d8 with rfl | ⟨_, rfl⟩ <;> rcases d9 with rfl | ⟨_, rfl⟩ <;> rcases d10 with rfl | ⟨_, rfl⟩ <;> rcases d11 with rfl | ⟨_, rfl⟩ <;> simp at hm <;> simp <;> omega
  obtain ⟨ts, hts⟩ : ∃ ts : List Int, ts = zs ++ [sideP u a b / 2, sideP u a b / 3] := ⟨_, rfl⟩
  have tl : ts.length ≤ 502 := by rw [hts]; simp; omega
  have ad := ad (sideP u a b / 2) (sideP u a b / 3)
  rw [← hts] at ad
  have hnew : Lines a b (ls ++ ((ts.map D.int).filter fun d => decide (1 ≤ unI d) && decide (unI d < sideP u a b)).map fun d => lineK u (unI d)) := fun d hd => by
    rcases List.mem_append.mp hd with h | h
    · exact hl d h
    · obtain ⟨e, he, rfl⟩ := List.mem_map.mp h
      have := (List.mem_filter.mp he).2
      rw [Bool.and_eq_true, decide_eq_true_iff, decide_eq_true_iff] at this
      exact ⟨u, unI e, rfl, this.1, this.2⟩
  have nl : (((ts.map D.int).filter fun d => decide (1 ≤ unI d) && decide (unI d < sideP u a b)).map fun d => lineK u (unI d)).length ≤ 502 := by
    rw [List.length_map]
    exact Nat.le_trans (List.length_filter_le _ _) (by rw [List.length_map]; exact tl)
  have q := q _ hnew (by rw [List.length_append]; omega)
  have em : extM ls [.lst (((ts.map D.int).filter fun d => decide (1 ≤ unI d) && decide (unI d < sideP u a b)).map fun d => lineK u (unI d))] = some (ls ++ ((ts.map D.int).filter fun d => decide (1 ≤ unI d) && decide (unI d < sideP u a b)).map fun d => lineK u (unI d), .non) := if_pos (by rw [sizeLine_eq]; omega)
  unfold lp3
  rw [T_exp, T_mu, T_var]
  refine ⟨⟨ls, g3⟩, ?_⟩
  rw [T_cons, T_frz]
  refine T_flc_mapA (it := .seq (ts.map D.int)) (xs := ts.map D.int) (f := fun d => lineK u (unI d)) (p := fun d => decide (1 ≤ unI d) && decide (unI d < sideP u a b)) ?_ rfl rfl d11 sg hw (by rw [List.length_map, sizeLine_eq]; omega) (fun d hd v' hv' => ?_) ?_
  · simp [hd2, hd3, s2, ad, g1]
  · obtain ⟨t, ht, rfl⟩ := List.mem_map.mp hd
    unfold unI lineK
    by_cases c1 : 1 ≤ t <;> by_cases c2 : t < sideP u a b <;> simp [c1, c2, s2]
  · simp [em, g2]
    exact q
end Bf
namespace Bf
open PySem PySem.Spec PyProof.Rows L2
theorem row_turn {F : List (Str × D)} {a b L : Int} {bl : List Blk} {u : Bool} {k c : Nat} {v : List Cell} {ls : List D} {o7 o8 o9 o10 o11 : Option SV} {R : Fl → PS → Prop} (hs : Sz a b L) (few : bl.length ≤ 30) (hv : Flat v) (hk : k < v.length) (hc : v[c]? = some (.lst ls)) (hl : Lines a b ls) (hn : ls.length ≤ 2000)
    (d8 : Dat' o8) (d9 : Dat' o9) (d10 : Dat' o10) (d11 : Dat' o11) (q : ∀ (ls' : List D) (zs : List Int) (o8 : Option SV), Dat' o8 → Lines a b ls' → ls'.length ≤ ls.length + 502 → R .nx ⟨[some (.cell k), some (.d (.tup [.int a, .int b, .int L])), some (.d (.lst (blksD bl))), some (.d (.ins 0 F)), some (.cell c), some (.d (.str (kindS u))), some (.d (.int (sideP u a b))), some (.cell v.length), o8, o9, o10, o11], (v ++ [Cell.lst (zs.map .int), Cell.gone]).set c (Cell.lst ls')⟩) :
    T (sSeq lp1 (sSeq lp2 lp3) ⟨[some (.cell k), some (.d (.tup [.int a, .int b, .int L])), some (.d (.lst (blksD bl))), some (.d (.ins 0 F)), some (.cell c), some (.d (.str (kindS u))), some (.d (.int (sideP u a b))), o7, o8, o9, o10, o11], v⟩) R := by
  have hcl : c < v.length := (List.getElem?_eq_some_iff.mp hc).1
  have s0 : 1 ≤ sideP u a b ∧ sideP u a b ≤ 1000000000000000000000000000000 := by
    obtain ⟨a0, a1, b0, b1, l0, l1⟩ := hs
    unfold sideP
    split <;> omega
  refine T_seq_of (fun s => s = ⟨[some (.cell k), some (.d (.tup [.int a, .int b, .int L])), some (.d (.lst (blksD bl))), some (.d (.ins 0 F)), some (.cell c), some (.d (.str (kindS u))), some (.d (.int (sideP u a b))), some (.cell v.length), o8, o9, o10, o11], v ++ [.lst []]⟩) ?_ fun s e => ?_
  · unfold lp1
    simp
  subst e
  rw [T_seq]
  refine (spots_loop few hv hk hcl d8 d9 d10 d11).imp fun fl s ⟨e, zs, o8, d8, hz, e2⟩ => ?_
  subst e e2
  dsimp only
  exact lp3_ok hv hk hc hl hz hn s0.1 s0.2 d8 d9 d10 d11 fun ls' h1 h2 => q ls' zs o8 d8 h1 h2
end Bf
namespace Bf
open PySem PySem.Spec PyProof.Rows L2
def lrR : MS := sFor (jSeq (vLst (aCons (vTup (aCons (vC (.str "upright")) (aCons (vOp idxD (vVar 1) (vC (.int 0))) (aNil)))) (aCons (vTup (aCons (vC (.str "level")) (aCons (vOp idxD (vVar 1) (vC (.int 1))) (aNil)))) (aNil))))) (hTup [hName 5, hName 6]) (sSeq lp1 (sSeq lp2 lp3))
theorem lr_eq : b__law_right = sSeq (sAsg (vCall m__law_blocks (aCons (vVar 0) (aCons (vVar 1) (aCons (vC (.int 9)) (aNil))))) (hName 2)) (sSeq (sPar 3 4 (aCons (vCM 0 w_Plan_of (vC (.cls 0)) (aCons (vVar 1) (aCons (vB tupleB (aCons (vVar 2) (aNil))) (aNil)))) (aCons (vLstN (aNil)) (aNil)))) (sSeq lrR (sSeq (sFor (jSeq (vVar 4)) (hName 9) (sSeq lt1 (sSeq lt2 lt3))) (sRet (vAnd (vOp eqD (vMe0 0 "many_seams" m_Plan_many_seams (vVar 3)) (vCall m__law_many_seams (aCons (vVar 1) (aCons (vVar 2) (aNil))))) (vOp eqD (vMe0 0 "many_seams" m_Plan_many_seams (vMe0 0 "exchanged" m_Plan_exchanged (vVar 3))) (vMe0 0 "many_seams" m_Plan_many_seams (vVar 3)))))))) := rfl
theorem rows_loop {F : List (Str × D)} {a b L : Int} {bl : List Blk} {k c : Nat} {v : List Cell} {R : Fl → PS → Prop} (hs : Sz a b L) (few : bl.length ≤ 30) (fs : ∀ ls : List D, Flat (v.set c (.lst ls))) (hk : k < v.length) (hc : c < v.length) (he : v[c]? = some (.lst []))
    (q : ∀ (ls : List D) o5 o6 o8, Dat' o5 → Dat' o6 → Dat' o8 → Lines a b ls → R .nx ⟨[some (.cell k), some (.d (.tup [.int a, .int b, .int L])), some (.d (.lst (blksD bl))), some (.d (.ins 0 F)), some (.cell c), o5, o6, none, o8, none, none, none], v.set c (.lst ls)⟩) : T (lrR ⟨[some (.cell k), some (.d (.tup [.int a, .int b, .int L])), some (.d (.lst (blksD bl))), some (.d (.ins 0 F)), some (.cell c), none, none, none, none, none, none, none], v⟩) R := by
  have v0 : v.set c (.lst []) = v := by
    obtain ⟨h, e⟩ := List.getElem?_eq_some_iff.mp he
    rw [← e, List.set_getElem_self]
  obtain ⟨P, hP⟩ : ∃ P : Nat → PS → Prop, P = (fun i s => ∃ (ls : List D) (o5 o6 o8 : Option SV), Dat' o5 ∧ Dat' o6 ∧ Dat' o8 ∧ Lines a b ls ∧ ls.length ≤ 502 * i ∧ s = ⟨[some (.cell k), some (.d (.tup [.int a, .int b, .int L])), some (.d (.lst (blksD bl))), some (.d (.ins 0 F)), some (.cell c), o5, o6, none, o8, none, none, none], v.set c (.lst ls)⟩) := ⟨_, rfl⟩
  have p0 : P 0 ⟨[some (.cell k), some (.d (.tup [.int a, .int b, .int L])), some (.d (.lst (blksD bl))), some (.d (.ins 0 F)), some (.cell c), none, none, none, none, none, none, none], v⟩ := by
    rw [hP]
    exact ⟨[], none, none, none, .inl rfl, .inl rfl, .inl rfl, (fun d hd => by cases hd), Nat.le_refl _, by rw [v0]⟩
  unfold lrR
  rw [T_sFor]
  have rf : T ((jSeq (vLst (aCons (vTup (aCons (vC (.str "upright")) (aCons (vOp idxD (vVar 1) (vC (.int 0))) (aNil)))) (aCons (vTup (aCons (vC (.str "level")) (aCons (vOp idxD (vVar 1) (vC (.int 1))) (aNil)))) (aNil))))) ⟨[some (.cell k), some (.d (.tup [.int a, .int b, .int L])), some (.d (.lst (blksD bl))), some (.d (.ins 0 F)), some (.cell c), none, none, none, none, none, none, none], v⟩) fun it s => it = .seq ([true, false].map fun u => .tup [.str (kindS u), .int (sideP u a b)]) ∧ s = ⟨[some (.cell k), some (.d (.tup [.int a, .int b, .int L])), some (.d (.lst (blksD bl))), some (.d (.ins 0 F)), some (.cell c), none, none, none, none, none, none, none], v⟩ := by
    simp [sizeLine_eq, kindS, sideP]
  refine rf.imp fun it s ⟨e1, e2⟩ => ?_
  subst e1 e2
  refine T_for (it := .seq ([true, false].map fun u => .tup [.str (kindS u), .int (sideP u a b)])) (xs := [true, false].map fun u => .tup [.str (kindS u), .int (sideP u a b)]) rfl (Inv := P) (fun i x s hx hI => ?_) (fun s hI => ?_) _ 0 _ (by simp [It'.fuel]) p0
  · rw [hP] at hI
    obtain ⟨ls, o5, o6, o8, d5, d6, d8, hl, hn, rfl⟩ := hI
    have hi : i < 2 := by
      have := (List.getElem?_eq_some_iff.mp hx).1
      simpa using this
    obtain ⟨u, _, rfl⟩ := List.mem_map.mp (List.mem_of_getElem? hx)
    rw [T_hTup2, T_name]
    refine ⟨by simp, ?_⟩
    rw [T_name]
    refine ⟨by simp, ?_⟩
    dsimp only [List.set_cons_succ, List.set_cons_zero]
    refine row_turn hs few (fs ls) (by simpa using hk) (by simp [hc]) hl (by omega) d8 (.inl rfl) (.inl rfl) (.inl rfl) fun ls' zs o8 d8 h1 h2 => ?_
    have e : ((v.set c (.lst ls) ++ [Cell.lst (zs.map .int), Cell.gone]).set c (Cell.lst ls')) = v.set c (.lst ls') ++ [Cell.lst (zs.map .int), Cell.gone] := by
      rw [List.set_append_left _ _ (by simpa using hc), List.set_set]
    rw [e]
    refine ⟨⟨[some (.cell k), some (.d (.tup [.int a, .int b, .int L])), some (.d (.lst (blksD bl))), some (.d (.ins 0 F)), some (.cell c), some (.d (.str (kindS u))), some (.d (.int (sideP u a b))), none, o8, none, none, none], v.set c (.lst ls')⟩, ?_, ?_⟩
    · have n1 : (v.set c (.lst ls')).length = v.length := by simp
      have ff := fs ls'
      generalize v.set c (.lst ls') = V at *
      rw [← n1] at hk hc ⊢
      rw [Flat.trunc (by simp [ff])]
      rcases d8 with rfl | ⟨_, rfl⟩ <;> simp [dropG_lt hk, dropG_lt hc, dropG_ge (Nat.le_of_eq n1)]
    · rw [hP]
      exact ⟨ls', _, _, o8, .inr ⟨_, rfl⟩, .inr ⟨_, rfl⟩, d8, h1, by omega, rfl⟩
  · rw [hP] at hI
    obtain ⟨ls, o5, o6, o8, d5, d6, d8, hl, hn, rfl⟩ := hI
    exact q ls o5 o6 o8 d5 d6 d8 hl
end Bf
namespace Bf
open PySem PySem.Spec PyProof.Rows L2
def lrZ : MS := sRet (vAnd (vOp eqD (vMe0 0 "many_seams" m_Plan_many_seams (vVar 3)) (vCall m__law_many_seams (aCons (vVar 1) (aCons (vVar 2) (aNil))))) (vOp eqD (vMe0 0 "many_seams" m_Plan_many_seams (vMe0 0 "exchanged" m_Plan_exchanged (vVar 3))) (vMe0 0 "many_seams" m_Plan_many_seams (vVar 3))))
theorem final_ok {a b L : Int} {bl : List Blk} {k c : Nat} {v : List Cell} {o5 o6 o7 o8 o9 o10 o11 : Option SV} (hs : Sz a b L) (hB : Blks a b L bl) (few : bl.length ≤ 9) (hv : Flat v) :
    T (lrZ ⟨[some (.cell k), some (.d (.tup [.int a, .int b, .int L])), some (.d (.lst (blksD bl))), some (.d (.ins 0 (planD bl a b L))), some (.cell c), o5, o6, o7, o8, o9, o10, o11], v⟩) fun fl s => fl = .rt (.d (.bl true)) ∧ s = ⟨[some (.cell k), some (.d (.tup [.int a, .int b, .int L])), some (.d (.lst (blksD bl))), some (.d (.ins 0 (planD bl a b L))), some (.cell c), o5, o6, o7, o8, o9, o10, o11], v⟩ := by
  obtain ⟨sl, hp, hF⟩ := plF hs hB (by omega)
  have ms := fun {Q} => many_seams_spec (w := v) (Q := Q) hF hv
  have lm := fun {Q} => law_many_spec (w := v) (Q := Q) hB hs (by omega) hv
  rw [num_perm (spans_perm true hp), num_perm (spans_perm false hp)] at ms
  have px := pexP_spec hs hB hv
  have n1 : (planD bl a b L).lookup ("exchanged" : Str) = none := rfl
  have n9 := hF.n9
  have px2 : FT m_Plan_exchanged [.d (.ins 0 (planD bl a b L))] v fun x w' => InsQ 0 x fun gs => gs.lookup ("many_seams" : Str) = none ∧ FT m_Plan_many_seams [x] w' fun y w'' => y = .d (.int (numS (spansP true bl) L 0 a + numS (spansP false bl) L 0 b)) ∧ w'' = v := by
    refine px.imp fun x w' ⟨⟨cl, hcl, hC, e⟩, e2⟩ => ?_
    subst e e2
    have hsx : Sz b a L := ⟨hs.b0, hs.b1, hs.a0, hs.a1, hs.l0, hs.l1⟩
    have cf : cl.length ≤ 30 := by rw [hcl.length_eq, List.length_map]; omega
    obtain ⟨sl2, hp2, hF2⟩ := plF hsx hC cf
    refine ⟨rfl, rfl, ?_⟩
    rw [many_seams_spec hF2 hv, num_perm ((spans_perm true (hp2.trans hcl))), num_perm ((spans_perm false (hp2.trans hcl))), spans_ex, spans_ex]
    refine ⟨?_, rfl⟩
    show SV.d (D.int (numS (spansP false bl) L 0 b + numS (spansP true bl) L 0 a)) = _
    rw [Int.add_comm]
  generalize numS (spansP true bl) L 0 a + numS (spansP false bl) L 0 b = N at *
  generalize planD bl a b L = F at *
  have q1 : eqD (.int N) (.int N) = some (.bl true) := by simp
  unfold lrZ
  simp [ms, lm, n1, n9, q1, -List.lookup_eq_none_iff]
  refine px2.imp fun x w' h => ?_
  cases x with
  | cell _ => exact h.elim
  | d x =>
    cases x with
    | ins c' gs =>
      obtain ⟨rfl, hl, h⟩ := h
      refine ⟨rfl, hl, h.imp fun y w'' ⟨e1, e2⟩ => ?_⟩
      subst e1 e2
      rw [ms]
      simp [q1]
    | _ => exact h.elim
end Bf
namespace Bf
open PySem PySem.Spec PyProof.Rows L2
theorem right_spec {a b L : Int} (hs : Sz a b L) (hl : a % L = 0 ∨ b % L = 0) : Dies m__law_right [.d (.tup [.int a, .int b, .int L])] fun y => y = .bl true := by
  obtain ⟨Pq, hPq⟩ : ∃ P : D → Prop, P = (fun y => y = .bl true) := ⟨_, rfl⟩
  rw [← hPq]
  intro k w hw
  have hk := hw.lt
  unfold m__law_right
  rw [lr_eq, FT_fn]
  obtain ⟨P, hP⟩ : ∃ P : PS → Prop, P = (fun s => ∃ bl v, Blks a b L bl ∧ bl.length ≤ 9 ∧ Upd k w v ∧ v.length = w.length ∧ s = ⟨[some (.cell k), some (.d (.tup [.int a, .int b, .int L])), some (.d (.lst (blksD bl))), none, none, none, none, none, none, none, none, none], v⟩) := ⟨_, rfl⟩
  refine T_seq_of P ?_ fun s hs2 => ?_
  · simp
    refine (blocks_spec hs hl k w hw).imp fun x w1 ⟨⟨hu1, hn1⟩, z, e, bl, fd, e1, _, hB, h9⟩ => ?_
    subst e e1
    rw [hP]
    exact ⟨bl, w1, hB, h9, hu1, hn1, rfl⟩
  rw [hP] at hs2
  obtain ⟨bl, v, hB, h9, hu, hvl, rfl⟩ := hs2
  have hv := hu.ok.flat
  refine T_seq_of (fun s => s = ⟨[some (.cell k), some (.d (.tup [.int a, .int b, .int L])), some (.d (.lst (blksD bl))), some (.d (.ins 0 (planD bl a b L))), some (.cell v.length), none, none, none, none, none, none, none], v ++ [.lst []]⟩) ?_ fun s e => ?_
  · have tb : tupleB [.lst (blksD bl)] = some (.tup (blksD bl)) := rfl
    have po := fun {Q} => pof_spec (w := v) (Q := Q) hs hB hv
    generalize blksD bl = BL at *
    generalize planD bl a b L = PL at *
    rw [T_par, T_cons]
    refine T_cm ?_
    rw [T_c]
    refine ⟨rfl, ?_⟩
    simp [tb]
    refine FT_len rfl ?_
    rw [po]
    simp
  subst e
  have fs : ∀ ls : List D, Flat ((v ++ [Cell.lst []]).set v.length (.lst ls)) := fun ls => (hv.append (Flat.one rfl)).set rfl
  have hcl : v.length < (v ++ [Cell.lst []]).length := by simp
  have hkl : k < (v ++ [Cell.lst []]).length := by have := hu.ok.lt; simp; omega
  obtain ⟨sl, hp, hF⟩ := plF hs hB (by omega)
  have n1 : (planD bl a b L).lookup ("crossings" : Str) = none := rfl
  rw [T_seq]
  refine rows_loop hs (by omega) fs hkl hcl (by simp) fun ls o5 o6 o8 d5 d6 d8 hls => ?_
  dsimp only
  have hu2 : Upd k w ((v ++ [Cell.lst []]).set v.length (.lst ls)) := (hu.trans (Upd.append hu.ok (Flat.one rfl))).set' (by omega) hk rfl
  have hg : ((v ++ [Cell.lst []]).set v.length (.lst ls))[v.length]? = some (.lst ls) := by simp
  have hk2 : k < ((v ++ [Cell.lst []]).set v.length (.lst ls)).length := by rw [List.length_set]; exact hkl
  have fl := fs ls
  generalize (v ++ [Cell.lst []]).set v.length (.lst ls) = V at *
  generalize v.length = c at *
  rw [T_seq]
  refine lines_loop hF hB hp fl hg hls hk2 n1 d5 d6 (.inl rfl) d8 (.inl rfl) (.inl rfl) (.inl rfl) fun o9 o10 d9 d10 => ?_
  dsimp only
  have fo := final_ok (k := k) (c := c) (o5 := o5) (o6 := o6) (o7 := none) (o8 := o8) (o9 := o9) (o10 := o10) (o11 := none) hs hB h9 fl
  unfold lrZ at fo
  refine fo.imp fun x s ⟨e1, e2⟩ => ?_
  subst e1 e2
  dsimp only
  refine die_end hu2 hw ?_
  rw [hPq]
end Bf
namespace Bf
open PySem PySem.Spec PyProof.Rows L2
variable {w : List Cell} {Q : SV → List Cell → Prop}
theorem urn_spec {ns : List Int} {at' : Int} {w : List Cell} (hw : Flat w) (h0 : 0 ≤ at') : FT m__law_urn [.d (.scr ns), .d (.int at')] w fun x w' => x = .cell w.length ∧ ∃ a b c : Int, w' = w ++ [.lst [.int a, .int b, .int c]] := by
  unfold m__law_urn b__law_urn
  rw [FT_fn]
  have p57 : powD (.int 10) (.int 60) = some (.int (10 ^ 60)) := powD_int (by decide +kernel)
  have p11 : powD (.int (10 ^ 60)) (.int 9) = some (.int ((10 ^ 60) ^ 9)) := powD_int (by decide +kernel)
  have p16 : powD (.int 10) (.int 17) = some (.int (10 ^ 17)) := powD_int (by decide +kernel)
  have hM : (0 : Int) < (10 ^ 60) ^ 9 := by decide +kernel
  generalize ((10 : Int) ^ 60) ^ 9 = M at p11 hM
  generalize (10 : Int) ^ 60 = N at p57 p11
  generalize (10 : Int) ^ 17 = O at p16
  by_cases hl : at' < ns.length
  · obtain ⟨x, hx, e⟩ := atI_mem h0 hl
    simp [hl, e, p57, p11, p16, hM]
    refine ⟨small (by decide), ?_⟩
    rw [Flat.retC (by simp [hw]) (Nat.le_refl _) at_app0]
    simp
  · simp [hl, p57, p11, p16, hM]
    refine ⟨small (by decide), ?_⟩
    rw [Flat.retC (by simp [hw]) (Nat.le_refl _) at_app0]
    simp
def lwL : MS := sFor (jRng1 (vB maxB (aCons (vC (.int 1)) (aCons (vB minB (aCons (vC (.int 6)) (aCons (vB lenB (aCons (vVar 0) (aNil))) (aNil)))) (aNil))))) (hName 1) (sSeq (sAsg (vCall m__law_urn (aCons (vVar 0) (aCons (vVar 1) (aNil)))) (hName 2)) (sFor (jRng1 (vC (.int 4))) (hName 3) (sSeq (sAsg (vCall m__law_great (aCons (vVar 2) (aNil))) (hName 4)) (sIf (cAnd (cVal (vCall m__law_is_laid (aCons (vVar 4) (aNil)))) (cNot (cVal (vCall m__law_right (aCons (vVar 2) (aCons (vVar 4) (aNil))))))) (sRet (vC (.bl false))) (sNx)))))
def lw1 : MS := sAsg (vLstN (aCons (vMe0 0 "many_seams" m_Plan_many_seams (vMk 0 w_Plan_init (vC (.cls 0)) (aCons (vTup (aCons (vOp powD (vC (.int 10)) (vC (.int 30))) (aCons (vC (.int 2)) (aCons (vC (.int 2)) (aNil))))) (aCons (vTup (aCons (vC (.int 0)) (aCons (vC (.int 0)) (aCons (vOp powD (vC (.int 10)) (vC (.int 30))) (aCons (vC (.int 2)) (aCons (vC (.str "across")) (aNil))))))) (aNil))))) (aNil))) (hName 5)
def lw2 : MS := sExp (vMu appM (vVar 5) (aCons (vMe0 0 "many_seams" m_Plan_many_seams (vMk 0 w_Plan_init (vC (.cls 0)) (aCons (vTup (aCons (vOp powD (vC (.int 10)) (vC (.int 30))) (aCons (vC (.int 1)) (aCons (vOp powD (vC (.int 10)) (vC (.int 30))) (aNil))))) (aCons (vTup (aCons (vC (.int 0)) (aCons (vC (.int 0)) (aCons (vOp powD (vC (.int 10)) (vC (.int 30))) (aCons (vC (.int 1)) (aCons (vC (.str "across")) (aNil))))))) (aNil))))) (aNil)))
def lw3 : MS := sExp (vMu appM (vVar 5) (aCons (vMe0 0 "many_seams" m_Plan_many_seams (vMk 0 w_Plan_init (vC (.cls 0)) (aCons (vTup (aCons (vOp powD (vC (.int 10)) (vC (.int 30))) (aCons (vC (.int 5)) (aCons (vC (.int 5)) (aNil))))) (aCons (vTup (aCons (vC (.int 0)) (aCons (vC (.int 0)) (aCons (vOp powD (vC (.int 10)) (vC (.int 30))) (aCons (vC (.int 5)) (aCons (vC (.str "down")) (aNil))))))) (aNil))))) (aNil)))
def lwE : MS := sRet (vOp eqD (vVar 5) (vLst (aCons (vOp mulD (vC (.int 5)) (vOp powD (vC (.int 10)) (vC (.int 29)))) (aCons (vC (.int 0)) (aCons (vOp subD (vOp powD (vC (.int 10)) (vC (.int 30))) (vC (.int 1))) (aNil))))))
theorem law_eq : b_law = sSeq lwL (sSeq lw1 (sSeq lw2 (sSeq lw3 lwE))) := rfl
theorem law_loop {ns : List Int} : T (lwL ⟨[some (.d (.scr ns)), none, none, none, none, none], []⟩) fun fl s => fl = .nx ∧ ∃ o1 o3 o4, Dat' o1 ∧ Dat' o3 ∧ Dat' o4 ∧ s = ⟨[some (.d (.scr ns)), o1, none, o3, o4, none], []⟩ := by
  unfold lwL
  rw [T_sFor]
  simp
  refine ⟨?_, ?_⟩
  · unfold rngOk
    rw [Bool.and_eq_true, decide_eq_true_iff, decide_eq_true_iff]
    split <;> split <;> omega
  generalize (if 1 < if (ns.length : Int) < 6 then (ns.length : Int) else 6 then if (ns.length : Int) < 6 then (ns.length : Int) else 6 else 1).toNat = m
  refine T_for (it := .rng 0 m) (xs := (List.range m).map fun (i : Nat) => .int (0 + i)) rfl (Inv := fun _ s => ∃ o1 o3 o4, Dat' o1 ∧ Dat' o3 ∧ Dat' o4 ∧ s = ⟨[some (.d (.scr ns)), o1, none, o3, o4, none], []⟩) (fun i x s hx hI => ?_) (fun s hI => ?_) _ 0 _ (by simp [It'.fuel]) ⟨none, none, none, .inl rfl, .inl rfl, .inl rfl, rfl⟩
  · obtain ⟨o1, o3, o4, h1, h3, h4, rfl⟩ := hI
    obtain ⟨rfl, hi⟩ := rng_get hx
    simp
    refine (urn_spec Flat.nil (Int.natCast_nonneg _)).imp fun x w ⟨e, a, b, c, e2⟩ => ?_
    subst e e2
    simp
    rw [T_sFor]
    simp
    refine ⟨by decide +kernel, ?_⟩
    refine T_for (it := .rng 0 4) (xs := (List.range 4).map fun (i : Nat) => .int (0 + i)) rfl (Inv := fun _ s => ∃ o3 o4 w, Dat' o3 ∧ Dat' o4 ∧ DOk w 0 ∧ w.length = 1 ∧ s = ⟨[some (.d (.scr ns)), some (.d (.int i)), some (.cell 0), o3, o4, none], w⟩) (fun j x s hx hI => ?_) (fun s hI => ?_) _ 0 _ (by simp [It'.fuel]) ⟨o3, o4, _, h3, h4, ⟨by simp, a, b, c, rfl⟩, rfl, rfl⟩
    · obtain ⟨o3, o4, w, h3, h4, hw, hl, rfl⟩ := hI
      simp
      refine (great_spec 0 w hw).imp fun y w1 ⟨⟨hu1, hn1⟩, z, e, a, b, L, e2, hs, _⟩ => ?_
      subst e e2
      have fin : ∀ (w2 : List Cell), Upd 0 w w2 → w2.length = 1 → ∃ s', trunc 1 ⟨[some (.d (.scr ns)), some (.d (.int i)), some (.cell 0), some (.d x), some (.d (.tup [.int a, .int b, .int L])), none], w2⟩ = some s' ∧ ∃ o3 o4 w, Dat' o3 ∧ Dat' o4 ∧ DOk w 0 ∧ w.length = 1 ∧ s' = ⟨[some (.d (.scr ns)), some (.d (.int i)), some (.cell 0), o3, o4, none], w⟩ := fun w2 hu2 hl2 => by
        refine ⟨_, Flat.trunc hu2.ok.flat _, some (.d x), some (.d (.tup [.int a, .int b, .int L])), w2, .inr ⟨_, rfl⟩, .inr ⟨_, rfl⟩, hu2.ok, hl2, ?_⟩
        simp [dropG_lt]
        exact List.take_of_length_le (by omega)
      have ll := fun {Q} => law_laid_spec (w := w1) (Q := Q) hs hu1.ok.flat
      by_cases c : a % L = 0 ∨ b % L = 0
      · have cb : (decide (a % L = 0) || decide (b % L = 0)) = true := by simpa using c
        rw [cb] at ll
        simp [ll]
        refine (right_spec hs c 0 w1 hu1.ok).imp fun y w2 ⟨⟨hu2, hn2⟩, z, e, e2⟩ => ?_
        subst e e2
        simp
        have := fin w2 (hu1.trans hu2) (by omega)
        simpa [hl] using this
      · have cb : (decide (a % L = 0) || decide (b % L = 0)) = false := by simpa using c
        rw [cb] at ll
        simp [ll]
        have := fin w1 hu1 (by omega)
        simpa [hl] using this
    · obtain ⟨o3, o4, w, h3, h4, hw, hl, rfl⟩ := hI
      simp only [hw.flat, trunc_flat, List.map_cons, List.map_nil, dropG_none, dropG_d, h3.drop, h4.drop, dropG_ge (Nat.le_refl 0), List.take_zero]
      exact ⟨_, rfl, _, .inr ⟨_, rfl⟩, _, h3, _, h4, rfl⟩
  · obtain ⟨o1, o3, o4, h1, h3, h4, rfl⟩ := hI
    exact ⟨rfl, o1, h1, o3, h3, o4, h4, rfl⟩
/-- the seams of a plan of one block -/
theorem one_ok {a b L : Int} {p : Blk} {r : MA} {s : PS} {Q : SV → PS → Prop} (hs : Sz a b L) (hB : Blks a b L [p]) (hw : Flat s.w) (sl : Slots s.w.length s.g)
    (hr : T (r s) fun xs s' => xs = [.d (.tup [.int a, .int b, .int L]), .d (blkD p)] ∧ s' = s)
    (q : Q (.d (.int (planN L (spansP true [p]) a + planN L (spansP false [p]) b))) { s with w := s.w ++ [.gone] }) : T (vMe0 0 "many_seams" m_Plan_many_seams (vMk 0 w_Plan_init (vC (.cls 0)) r) s) Q := by
  obtain ⟨ss, hp, hF⟩ := plF hs hB (by simp)
  have hss : ss = [p] := List.perm_singleton.mp hp
  subst hss
  rw [T_me0]
  refine T_mk ?_
  rw [T_c]
  refine ⟨rfl, hr.imp fun xs s' ⟨e1, e2⟩ => ?_⟩
  subst e1 e2
  refine pinit_of (bl := [p]) hs hB hw rfl ?_
  refine ⟨rfl, T_frzI (fs := (planD [p] a b L).map fun p => (p.1, .d p.2)) (gs := planD [p] a b L) (by simp) (datF_d _) ?_⟩
  dsimp only
  refine ⟨rfl, rfl, ?_⟩
  rw [sl.sub]
  have hw2 : Flat ((s'.w ++ [Cell.ins 0 ((planD [p] a b L).map fun p => (p.1, .d p.2))]).set s'.w.length .gone) := by
    simp [hw]
  rw [many_seams_spec hF hw2]
  have e1 : planN L (spansP true [p]) (sideP true a b) = numS (spansP true [p]) L 0 (sideP true a b) := planN_num hs.l0 (span_ok hF.hB true) (hF.side1 true)
  have e2 : planN L (spansP false [p]) (sideP false a b) = numS (spansP false [p]) L 0 (sideP false a b) := planN_num hs.l0 (span_ok hF.hB false) (hF.side1 false)
  have s1 : sideP true a b = a := rfl
  have s2 : sideP false a b = b := rfl
  rw [s1] at e1
  rw [s2] at e2
  rw [← e1, ← e2]
  have e3 : (s'.w ++ [Cell.ins 0 ((planD [p] a b L).map fun p => (p.1, .d p.2))]).set s'.w.length .gone = s'.w ++ [.gone] := by simp
  rw [e3]
  exact q
def q1 : Blk := ⟨0, 0, 1000000000000000000000000000000, 2, true⟩
def q2 : Blk := ⟨0, 0, 1000000000000000000000000000000, 1, true⟩
def q3 : Blk := ⟨0, 0, 1000000000000000000000000000000, 5, false⟩
theorem sz1 : Sz 1000000000000000000000000000000 2 2 := by constructor <;> decide
theorem bl1 : Blks 1000000000000000000000000000000 2 2 [q1] := by
  refine ⟨by decide, fun p hp => ?_, by decide, List.pairwise_singleton _ _⟩
  rw [List.mem_singleton] at hp
  subst hp
  exact ⟨by decide, by decide, by decide, by decide, by decide, by decide, by decide⟩
theorem nn1 : planN 2 (spansP true [q1]) 1000000000000000000000000000000 + planN 2 (spansP false [q1]) 2 = 500000000000000000000000000000 := by decide +kernel
theorem sz2 : Sz 1000000000000000000000000000000 1 1000000000000000000000000000000 := by constructor <;> decide
theorem bl2 : Blks 1000000000000000000000000000000 1 1000000000000000000000000000000 [q2] := by
  refine ⟨by decide, fun p hp => ?_, by decide, List.pairwise_singleton _ _⟩
  rw [List.mem_singleton] at hp
  subst hp
  exact ⟨by decide, by decide, by decide, by decide, by decide, by decide, by decide⟩
theorem nn2 : planN 1000000000000000000000000000000 (spansP true [q2]) 1000000000000000000000000000000 + planN 1000000000000000000000000000000 (spansP false [q2]) 1 = 0 := by decide +kernel
theorem sz3 : Sz 1000000000000000000000000000000 5 5 := by constructor <;> decide
theorem bl3 : Blks 1000000000000000000000000000000 5 5 [q3] := by
  refine ⟨by decide, fun p hp => ?_, by decide, List.pairwise_singleton _ _⟩
  rw [List.mem_singleton] at hp
  subst hp
  exact ⟨by decide, by decide, by decide, by decide, by decide, by decide, by decide⟩
theorem nn3 : planN 5 (spansP true [q3]) 1000000000000000000000000000000 + planN 5 (spansP false [q3]) 5 = 999999999999999999999999999999 := by decide +kernel
theorem pow30' : powD (.int 10) (.int 30) = some (.int 1000000000000000000000000000000) := by
  have e30 : (10 : Int) ^ 30 = 1000000000000000000000000000000 := by decide
  rw [← e30]; exact pow30
theorem pow29' : powD (.int 10) (.int 29) = some (.int 100000000000000000000000000000) := by
  have e29 : (10 : Int) ^ 29 = 100000000000000000000000000000 := by decide
  rw [← e29]; exact powD_int (by decide +kernel)
theorem plA1 {s : PS} : T ((aCons (vTup (aCons (vOp powD (vC (.int 10)) (vC (.int 30))) (aCons (vC (.int 2)) (aCons (vC (.int 2)) (aNil))))) (aCons (vTup (aCons (vC (.int 0)) (aCons (vC (.int 0)) (aCons (vOp powD (vC (.int 10)) (vC (.int 30))) (aCons (vC (.int 2)) (aCons (vC (.str "across")) (aNil))))))) (aNil))) s) fun xs s' => xs = [.d (.tup [.int 1000000000000000000000000000000, .int 2, .int 2]), .d (blkD q1)] ∧ s' = s := by
  have e : blkD q1 = .tup [.int 0, .int 0, .int 1000000000000000000000000000000, .int 2, .str "across"] := rfl
  rw [e]
  simp [pow30', sizeLine_eq]
theorem plA2 {s : PS} : T ((aCons (vTup (aCons (vOp powD (vC (.int 10)) (vC (.int 30))) (aCons (vC (.int 1)) (aCons (vOp powD (vC (.int 10)) (vC (.int 30))) (aNil))))) (aCons (vTup (aCons (vC (.int 0)) (aCons (vC (.int 0)) (aCons (vOp powD (vC (.int 10)) (vC (.int 30))) (aCons (vC (.int 1)) (aCons (vC (.str "across")) (aNil))))))) (aNil))) s) fun xs s' => xs = [.d (.tup [.int 1000000000000000000000000000000, .int 1, .int 1000000000000000000000000000000]), .d (blkD q2)] ∧ s' = s := by
  have e : blkD q2 = .tup [.int 0, .int 0, .int 1000000000000000000000000000000, .int 1, .str "across"] := rfl
  rw [e]
  simp [pow30', sizeLine_eq]
theorem plA3 {s : PS} : T ((aCons (vTup (aCons (vOp powD (vC (.int 10)) (vC (.int 30))) (aCons (vC (.int 5)) (aCons (vC (.int 5)) (aNil))))) (aCons (vTup (aCons (vC (.int 0)) (aCons (vC (.int 0)) (aCons (vOp powD (vC (.int 10)) (vC (.int 30))) (aCons (vC (.int 5)) (aCons (vC (.str "down")) (aNil))))))) (aNil))) s) fun xs s' => xs = [.d (.tup [.int 1000000000000000000000000000000, .int 5, .int 5]), .d (blkD q3)] ∧ s' = s := by
  have e : blkD q3 = .tup [.int 0, .int 0, .int 1000000000000000000000000000000, .int 5, .str "down"] := rfl
  rw [e]
  simp [pow30', sizeLine_eq]
theorem law_tail {ns : List Int} {o1 o3 o4 : Option SV} (h1 : Dat' o1) (h3 : Dat' o3) (h4 : Dat' o4) : T (sSeq lw1 (sSeq lw2 (sSeq lw3 lwE)) ⟨[some (.d (.scr ns)), o1, none, o3, o4, none], []⟩) fun fl s => fl = .rt (.d (.bl true)) ∧ Flat s.w := by
  have sl0 : ∀ n, Slots n [some (.d (.scr ns)), o1, none, o3, o4, none] := fun n j hj => by
    rcases h1 with rfl | ⟨_, rfl⟩ <;> rcases h3 with rfl | ⟨_, rfl⟩ <;> rcases h4 with rfl | ⟨_, rfl⟩ <;> simp at hj
  have sl1 : ∀ n, 1 < n → Slots n [some (.d (.scr ns)), o1, none, o3, o4, some (.cell 1)] := fun n hn j hj => by
    rcases h1 with rfl | ⟨_, rfl⟩ <;> rcases h3 with rfl | ⟨_, rfl⟩ <;> rcases h4 with rfl | ⟨_, rfl⟩ <;> simp at hj <;> omega
  refine T_seq_of (fun s => s = ⟨[some (.d (.scr ns)), o1, none, o3, o4, some (.cell 1)], [.gone, .lst [.int 500000000000000000000000000000]]⟩) ?_ fun s e => ?_
  · unfold lw1
    rw [T_asg, T_lstN, T_cons]
    refine one_ok sz1 bl1 Flat.nil (sl0 _) plA1 ?_
    rw [nn1]
    simp [sizeLine_eq]
  subst e
  refine T_seq_of (fun s => s = ⟨[some (.d (.scr ns)), o1, none, o3, o4, some (.cell 1)], [.gone, .lst [.int 500000000000000000000000000000, .int 0], .gone]⟩) ?_ fun s e => ?_
  · unfold lw2
    rw [T_exp, T_mu, T_var]
    simp only [List.getElem?_cons_succ, List.getElem?_cons_zero, OD_some, CL_cell]
    refine ⟨⟨_, rfl⟩, ?_⟩
    rw [T_cons]
    refine one_ok sz2 bl2 (by simp) (sl1 _ (by simp)) plA2 ?_
    rw [nn2]
    simp [sizeLine_eq]
    rw [show appM [.int 500000000000000000000000000000] [.int 0] = some ([.int 500000000000000000000000000000, .int 0], .non) from by simp [appM, sizeLine_eq]]
    rfl
  subst e
  refine T_seq_of (fun s => s = ⟨[some (.d (.scr ns)), o1, none, o3, o4, some (.cell 1)], [.gone, .lst [.int 500000000000000000000000000000, .int 0, .int 999999999999999999999999999999], .gone, .gone]⟩) ?_ fun s e => ?_
  · unfold lw3
    rw [T_exp, T_mu, T_var]
    simp only [List.getElem?_cons_succ, List.getElem?_cons_zero, OD_some, CL_cell]
    refine ⟨⟨_, rfl⟩, ?_⟩
    rw [T_cons]
    refine one_ok sz3 bl3 (by simp) (sl1 _ (by simp)) plA3 ?_
    rw [nn3]
    simp [sizeLine_eq]
    rw [show appM [.int 500000000000000000000000000000, .int 0] [.int 999999999999999999999999999999] = some ([.int 500000000000000000000000000000, .int 0, .int 999999999999999999999999999999], .non) from by simp [appM, sizeLine_eq]]
    rfl
  subst e
  have q1 : eqD (.lst [.int 500000000000000000000000000000, .int 0, .int 999999999999999999999999999999]) (.lst [.int 500000000000000000000000000000, .int 0, .int 999999999999999999999999999999]) = some (.bl true) := by rfl
  unfold lwE
  simp [pow30', pow29', sizeLine_eq]
  rw [show rd ⟨[some (.d (.scr ns)), o1, none, o3, o4, some (.cell 1)], [.gone, .lst [.int 500000000000000000000000000000, .int 0, .int 999999999999999999999999999999], .gone, .gone]⟩ (.cell 1) = some (.lst [.int 500000000000000000000000000000, .int 0, .int 999999999999999999999999999999]) from rfl]
  simp only [OD_some, q1]
theorem law_true : ∀ ns : List Int, ns.length ≤ 63 → ∃ w, m_law [.d (.scr ns)] [] = .ok (.d (.bl true)) w := by
  intro ns hn
  have goal : FT m_law [.d (.scr ns)] [] fun x _ => x = .d (.bl true) := by
    unfold m_law
    rw [law_eq, FT_fn, T_seq]
    refine T.imp law_loop fun fl s ⟨e, o1, o3, o4, h1, h3, h4, e2⟩ => ?_
    subst e e2
    refine T.imp (law_tail h1 h3 h4) fun fl s ⟨e, hw⟩ => ?_
    subst e
    simp [hw]
  unfold FT at goal
  cases q : m_law [.d (.scr ns)] [] with
  | ok x w => rw [q] at goal; subst goal; exact ⟨w, rfl⟩
  | err => rw [q] at goal; exact goal.elim
  | stuck => rw [q] at goal; exact goal.elim
end Bf
section
open PySem PySem.W PyProof.Rows L2
set_option maxHeartbeats 0 in
theorem PySem.Challenge.cw_bondfloors_k22_whole_great_plans_holds : PySem.Challenge.rw_bondfloors_k22_whole_great_plans.Holds := by
  w_on; o_law; k_head; (case hw => w_witness2)
  k_fill
  refine Bf.walk_mc (l := PySem.Challenge.rw_bondfloors_k22_whole_great_plans) (n := 63) (k := 10) (x := "script") (f := Bf.m_law) (names := ["Plan"]) rfl (by decide) rfl ⟨rfl, by decide, by decide⟩ (fun w h Y => PySem.W.kIn_of Y) Bf.law_true fun w mg fa h KX G hmg => ?F
  case F =>
    refine' Bf.all_mk KX G hmg ?aC_Plan ?m1_Plan ?m4_Plan ?c1_Plan ?c2_Plan ?c3_Plan ?c4_Plan ?r1_Plan ?r2_Plan ?i1_Plan ?i2_Plan ?i3_Plan ?i4_Plan ?i5_Plan ?i6_Plan ?i7_Plan ?i8_Plan ?n_own_blocks_Plan ?n_own_known_Plan ?n_own_size_Plan ?a0 ?l0 ?c0 ?k0 ?a1 ?l1 ?c1 ?k1 ?a2 ?l2 ?c2 ?k2 ?a3 ?l3 ?c3 ?k3 ?a4 ?l4 ?c4 ?k4 ?a5 ?l5 ?c5 ?k5 ?a6 ?l6 ?c6 ?k6 ?a7 ?l7 ?c7 ?k7 ?a8 ?l8 ?c8 ?k8 ?a9 ?l9 ?c9 ?k9 ?a10 ?l10 ?c10 ?k10 ?a11 ?l11 ?c11 ?k11 ?a12 ?l12 ?c12 ?k12 ?a13 ?l13 ?c13 ?k13 ?a14 ?l14 ?c14 ?k14 ?a15 ?q15 ?y15 ?l15 ?c15 ?k15 ?a16 ?y16 ?l16 ?c16 ?k16 ?a17 ?y17 ?bg17 ?bt17 ?bf17 ?l17 ?c17 ?k17 ?a18 ?y18 ?l18 ?c18 ?k18 ?a19 ?y19 ?l19 ?c19 ?k19 ?a20 ?y20 ?l20 ?c20 ?k20 ?a21 ?y21 ?l21 ?c21 ?k21 ?a22 ?y22 ?l22 ?c22 ?k22 ?a23 ?y23 ?l23 ?c23 ?k23 ?a24 ?y24 ?l24 ?c24 ?k24 ?a25 ?l25 ?c25 ?k25 ?a26 ?l26 ?c26 ?k26 ?a27 ?l27 ?c27 ?k27 ?a28 ?l28 ?c28 ?k28 ?a29 ?l29 ?c29 ?k29 ?a30 ?l30 ?c30 ?k30 ?a31 ?l31 ?c31 ?k31 ?a32 ?l32 ?c32 ?k32 ?a33 ?l33 ?c33 ?k33 ?a34 ?l34 ?c34 ?k34 ?a35 ?l35 ?c35 ?k35 ?a36 ?l36 ?c36 ?k36 ?a37 ?l37 ?c37 ?k37 ?a38 ?l38 ?c38 ?k38 ?a39 ?l39 ?c39 ?k39 ?m3_Plan ?v_ACROSS ?v_DOWN ?v_KINDS ?w_KINDS ?v_MAX_BLOCKS ?v_MAX_SIDE ?v_UPRIGHT ?v_WAYS ?w_WAYS ?z_abs ?z_all ?z_bool ?z_enumerate ?z_int ?z_isinstance ?z_len ?z_max ?z_min ?z_range ?z_set ?z_sorted ?z_str ?z_sum ?z_tuple ?z_zip
    (case aC_Plan => k_is)
    (case m1_Plan => k_is)
    (case m4_Plan => k_is)
    (case c1_Plan => k_is)
    (case c2_Plan => k_is)
    (case c3_Plan => k_is)
    (case c4_Plan => k_is)
    (case r1_Plan => k_is)
    (case r2_Plan => k_is)
    (case i1_Plan => k_is)
    (case i2_Plan => k_is)
    (case i3_Plan => k_is)
    (case i4_Plan => k_is)
    (case i5_Plan => first | decide +kernel | kernel_rfl | rfl)
    (case i6_Plan => first | kernel_rfl | decide +kernel)
    (case i7_Plan => first | k_is | kernel_rfl | decide +kernel)
    (case i8_Plan => first | kernel_rfl | decide +kernel)
    (case n_own_blocks_Plan => k_is)
    (case n_own_known_Plan => k_is)
    (case n_own_size_Plan => k_is)
    (case a0 => k_is)
    (case l0 => k_is)
    (case c0 => k_is)
    (case k0 => k_is)
    (case a1 => k_is)
    (case l1 => k_is)
    (case c1 => k_is)
    (case k1 => k_is)
    (case a2 => k_is)
    (case l2 => k_is)
    (case c2 => k_is)
    (case k2 => k_is)
    (case a3 => k_is)
    (case l3 => k_is)
    (case c3 => k_is)
    (case k3 => k_is)
    (case a4 => k_is)
    (case l4 => k_is)
    (case c4 => k_is)
    (case k4 => k_is)
    (case a5 => k_is)
    (case l5 => k_is)
    (case c5 => k_is)
    (case k5 => k_is)
    (case a6 => k_is)
    (case l6 => k_is)
    (case c6 => k_is)
    (case k6 => k_is)
    (case a7 => k_is)
    (case l7 => k_is)
    (case c7 => k_is)
    (case k7 => k_is)
    (case a8 => k_is)
    (case l8 => k_is)
    (case c8 => k_is)
    (case k8 => k_is)
    (case a9 => k_is)
    (case l9 => k_is)
    (case c9 => k_is)
    (case k9 => k_is)
    (case a10 => k_is)
    (case l10 => k_is)
    (case c10 => k_is)
    (case k10 => k_is)
    (case a11 => k_is)
    (case l11 => k_is)
    (case c11 => k_is)
    (case k11 => k_is)
    (case a12 => k_is)
    (case l12 => k_is)
    (case c12 => k_is)
    (case k12 => k_is)
    (case a13 => k_is)
    (case l13 => k_is)
    (case c13 => k_is)
    (case k13 => k_is)
    (case a14 => k_is)
    (case l14 => k_is)
    (case c14 => k_is)
    (case k14 => k_is)
    (case a15 => k_is)
    (case q15 => k_is)
    (case y15 => k_is)
    (case l15 => k_is)
    (case c15 => k_is)
    (case k15 => k_is)
    (case a16 => k_is)
    (case y16 => k_is)
    (case l16 => k_is)
    (case c16 => k_is)
    (case k16 => k_is)
    (case a17 => k_is)
    (case y17 => k_is)
    (case bg17 => k_is)
    (case bt17 => k_is)
    (case bf17 => k_is)
    (case l17 => k_is)
    (case c17 => k_is)
    (case k17 => k_is)
    (case a18 => k_is)
    (case y18 => k_is)
    (case l18 => k_is)
    (case c18 => k_is)
    (case k18 => k_is)
    (case a19 => k_is)
    (case y19 => k_is)
    (case l19 => k_is)
    (case c19 => k_is)
    (case k19 => k_is)
    (case a20 => k_is)
    (case y20 => k_is)
    (case l20 => k_is)
    (case c20 => k_is)
    (case k20 => k_is)
    (case a21 => k_is)
    (case y21 => k_is)
    (case l21 => k_is)
    (case c21 => k_is)
    (case k21 => k_is)
    (case a22 => k_is)
    (case y22 => k_is)
    (case l22 => k_is)
    (case c22 => k_is)
    (case k22 => k_is)
    (case a23 => k_is)
    (case y23 => k_is)
    (case l23 => k_is)
    (case c23 => k_is)
    (case k23 => k_is)
    (case a24 => k_is)
    (case y24 => k_is)
    (case l24 => k_is)
    (case c24 => k_is)
    (case k24 => k_is)
    (case a25 => k_is)
    (case l25 => k_is)
    (case c25 => k_is)
    (case k25 => k_is)
    (case a26 => k_is)
    (case l26 => k_is)
    (case c26 => k_is)
    (case k26 => k_is)
    (case a27 => k_is)
    (case l27 => k_is)
    (case c27 => k_is)
    (case k27 => k_is)
    (case a28 => k_is)
    (case l28 => k_is)
    (case c28 => k_is)
    (case k28 => k_is)
    (case a29 => k_is)
    (case l29 => k_is)
    (case c29 => k_is)
    (case k29 => k_is)
    (case a30 => k_is)
    (case l30 => k_is)
    (case c30 => k_is)
    (case k30 => k_is)
    (case a31 => k_is)
    (case l31 => k_is)
    (case c31 => k_is)
    (case k31 => k_is)
    (case a32 => k_is)
    (case l32 => k_is)
    (case c32 => k_is)
    (case k32 => k_is)
    (case a33 => k_is)
    (case l33 => k_is)
    (case c33 => k_is)
    (case k33 => k_is)
    (case a34 => k_is)
    (case l34 => k_is)
    (case c34 => k_is)
    (case k34 => k_is)
    (case a35 => k_is)
    (case l35 => k_is)
    (case c35 => k_is)
    (case k35 => k_is)
    (case a36 => k_is)
    (case l36 => k_is)
    (case c36 => k_is)
    (case k36 => k_is)
    (case a37 => k_is)
    (case l37 => k_is)
    (case c37 => k_is)
    (case k37 => k_is)
    (case a38 => k_is)
    (case l38 => k_is)
    (case c38 => k_is)
    (case k38 => k_is)
    (case a39 => k_is)
    (case l39 => k_is)
    (case c39 => k_is)
    (case k39 => k_is)
    (case m3_Plan => k_is)
    (case v_ACROSS => k_is)
    (case v_DOWN => k_is)
    (case v_KINDS => k_is)
    (case w_KINDS => k_is)
    (case v_MAX_BLOCKS => k_is)
    (case v_MAX_SIDE => k_is)
    (case v_UPRIGHT => k_is)
    (case v_WAYS => k_is)
    (case w_WAYS => k_is)
    (case z_abs => k_is)
    (case z_all => k_is)
    (case z_bool => k_is)
    (case z_enumerate => k_is)
    (case z_int => k_is)
    (case z_isinstance => k_is)
    (case z_len => k_is)
    (case z_max => k_is)
    (case z_min => k_is)
    (case z_range => k_is)
    (case z_set => k_is)
    (case z_sorted => k_is)
    (case z_str => k_is)
    (case z_sum => k_is)
    (case z_tuple => k_is)
    (case z_zip => k_is)
end
