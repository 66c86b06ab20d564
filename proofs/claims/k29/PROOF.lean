import PyProof.Rows.All
import Wide.All
import OpenK.AllK
import Wide.FinOn
import HandS.ForMost
import HandS.Wide
import HandS.IsInst
import HandS.TupAny
import HandS.Deep
import HandS.Lambda
import HandS.WordsExc
import HandS.ExcOwn
import HandS.NoneIn
import HandS.Style
import HandS.RaiseMore
import HandS.Flow
import PyProof.FactsAll.dict
import PyProof.Rows.SortShell
import KE.DataMinMax
import HandS.Star
import HandS.ClsMeth
import HandS.CallLocal
import KE.SortData
import HandS.DictComp
import HandS.TupLen
import HandS.Codes
import HandS.Iter
import KE.KTupSum
import HandS.Property
import HandS.OwnEq
import KE.GoesMore
import PyProof.EnumMake
import HandS.Walk
import OpenK.KOps
import HandS.DictTup
import HandS.Conv
import PyProof.DictMoreH
import KE.KDictPairs
import KE.KDictWalk
import KE.KDictItemsList
import KE.KExcTry
import HandS.ExcValue
import HandS.ExcInit
import HandS.TryMany
import HandS.ExcField
import HandS.EndTab
import HandS.DictEq
import HandS.TupLe
import PyProof.NeKinds
import PyProof.EqAt
import HandS.FStr
import OpenK.KMeth
import KE.KCallOwn
import HandS.CallSlots
import HandS.Defaults
import HandS.MakeKwOnly
import KE.KDictKeyed
import HandS.TupMul
import OpenK.KMore
import PySem.Challenge.RW_bondfloors_k29_errors_of_bonds
set_option Elab.async false
set_option linter.all false
set_option maxRecDepth 100000
/-! The mirror layer: pure data, pure states, mirrors of expressions and statements. -/
namespace Bf
open PySem L2
/-- the addresses of the own classes and functions; the tables of code objects -/
structure Ctx where
  cls : Nat → Addr
  tabs : List (Addr × Str)
instance : CoeFun Ctx (fun _ => Nat → Addr) := ⟨Ctx.cls⟩
/-- pure data -/
inductive D where
  | non | bl (b : Bool) | int (i : Int) | str (x : Str) | tup (xs : List D) | lst (xs : List D) | dic (kvs : List (D × D)) | ins (c : Nat) (fs : List (Str × D)) | raw (v : V)
  /-- the script: a list that is read alone -/
  | scr (ns : List Int)
  /-- a dict with tuples as keys; an own class -/
  | dit (kvs : List (List D × D)) | cls (c : Nat)
  /-- a tuple of the written part; a dict with tuples as keys that is not written any more -/
  | kup (xs : List D) | dtl (kvs : List (List D × D))
/-- what a name holds: data, or a cell that may be changed -/
inductive SV where
  | d (x : D) | cell (k : Nat)
inductive Cell where
  | lst (xs : List D) | dic (kvs : List (D × D)) | dit (kvs : List (List D × D)) | ins (c : Nat) (fs : List (Str × SV)) | gone | lsv (xs : List SV)
structure PS where
  g : List (Option SV)
  w : List Cell
inductive EC where
  | own (c : Nat) | bi (n : String)
structure Exc where
  c : EC
  fs : List (Str × D)
inductive R (α : Type) where
  | ok (a : α) (s : PS) | err (e : Exc) (s : PS) | stuck
def R.bind {α β : Type} : R α → (α → PS → R β) → R β
  | .ok a s, f => f a s
  | .err e s, _ => .err e s
  | .stuck, _ => .stuck
@[simp] theorem bind_ok {α β : Type} (a : α) (s : PS) (f : α → PS → R β) : R.bind (.ok a s) f = f a s := rfl
@[simp] theorem bind_err {α β : Type} (e : Exc) (s : PS) (f : α → PS → R β) : R.bind (.err e s) f = .err e s := rfl
@[simp] theorem bind_stuck {α β : Type} (f : α → PS → R β) : R.bind .stuck f = .stuck := rfl
/-- a value, or nothing known -/
def R.of {α : Type} (o : Option α) (s : PS) : R α := match o with
  | some a => .ok a s
  | none => .stuck
@[simp] theorem of_some {α : Type} (a : α) (s : PS) : R.of (some a) s = .ok a s := rfl
@[simp] theorem of_none {α : Type} (s : PS) : (R.of none s : R α) = .stuck := rfl
abbrev ME := PS → R SV
abbrev MT := PS → R Bool
abbrev MA := PS → R (List SV)
inductive Fl where
  | nx | rt (x : SV) | bk | ct
abbrev MS := PS → R Fl
abbrev MG := SV → PS → R Unit
/-! ### data as the library's -/
mutual
def D.py : D → PyData
  | .non => .none
  | .bl b => .bool b
  | .int i => .int i
  | .str x => .str x
  | .tup xs => .tuple (D.pys xs)
  | .lst xs => .list (D.pys xs)
  | .dic kvs => .dict (D.pyk kvs)
  | .ins _ _ => .none
  | .raw _ => .none
  | .scr _ => .none
  | .dit _ => .none
  | .cls _ => .none
  | .kup xs => .tuple (D.pys xs)
  | .dtl _ => .none
def D.pys : List D → List PyData
  | [] => []
  | x :: xs => x.py :: D.pys xs
def D.pyk : List (D × D) → List (PyData × PyData)
  | [] => []
  | (k, v) :: r => (k.py, v.py) :: D.pyk r
end
theorem D.pys_map : ∀ xs : List D, D.pys xs = xs.map D.py
  | [] => rfl
  | x :: xs => by rw [D.pys, D.pys_map xs, List.map_cons]
mutual
/-- no dicts, objects, other things in it -/
def D.plain : D → Bool
  | .non => true
  | .bl _ => true
  | .int _ => true
  | .str _ => true
  | .tup xs => D.plains xs
  | .lst xs => D.plains xs
  | .dic _ => false
  | .ins _ _ => false
  | .raw _ => false
  | .scr _ => false
  | .dit _ => false
  | .cls _ => false
  | .kup xs => D.plains xs
  | .dtl _ => false
def D.plains : List D → Bool
  | [] => true
  | x :: xs => x.plain && D.plains xs
end
theorem D.plains_all : ∀ xs : List D, D.plains xs = xs.all D.plain
  | [] => rfl
  | x :: xs => by rw [D.plains, D.plains_all xs, List.all_cons]
mutual
/-- as plain, with dicts -/
def D.told : D → Bool
  | .non => true
  | .bl _ => true
  | .int _ => true
  | .str _ => true
  | .tup xs => D.tolds xs
  | .lst xs => D.tolds xs
  | .dic kvs => D.toldk kvs
  | .ins _ _ => false
  | .raw _ => false
  | .scr _ => false
  | .dit _ => false
  | .cls _ => false
  | .kup _ => false
  | .dtl _ => false
def D.tolds : List D → Bool
  | [] => true
  | x :: xs => x.told && D.tolds xs
def D.toldk : List (D × D) → Bool
  | [] => true
  | (k, v) :: r => k.told && v.told && D.toldk r
end
def D.eqv (a b : D) : Bool := PyData.eqv a.py b.py
/-- how deep == looks -/
def D.near (a b : D) : Bool := decide (min a.py.depth b.py.depth ≤ 64)
def eqD (a b : D) : Option D := if (a.plain && b.plain && D.near a b) = true then some (.bl (D.eqv a b)) else none
def neD (a b : D) : Option D := if (a.plain && b.plain && D.near a b) = true then some (.bl (!D.eqv a b)) else none
/-! ### operations on data -/
def mulOk (i j : Int) : Bool := decide (i.natAbs < 2 ^ 64) || decide (j.natAbs < 2 ^ 64) || decide (i.natAbs.log2 + j.natAbs.log2 < 1000000)
def addD : D → D → Option D
  | .int i, .int j => some (.int (i + j))
  | .int i, .bl k => some (.int (i + PyProof.Rows.b2i k))
  | .str x, .str y => if x.length + y.length ≤ sizeLine then some (.str (x ++ y)) else none
  | .tup xs, .tup ys => if xs.length + ys.length ≤ sizeLine then some (.tup (xs ++ ys)) else none
  | .lst xs, .lst ys => if xs.length + ys.length ≤ sizeLine then some (.lst (xs ++ ys)) else none
  | _, _ => none
def subD : D → D → Option D
  | .int i, .int j => some (.int (i - j))
  | _, _ => none
def mulD : D → D → Option D
  | .int i, .int j => if mulOk i j = true then some (.int (i * j)) else none
  | .lst xs, .int k => if -(2 ^ 63) ≤ k ∧ k < 2 ^ 63 ∧ xs.length * k.toNat ≤ sizeLine then some (.lst (List.replicate k.toNat xs).flatten) else none
  | _, _ => none
def modD : D → D → Option D
  | .int i, .int j => if 0 < j then some (.int (i % j)) else none
  | _, _ => none
def divD : D → D → Option D
  | .int i, .int j => if 0 < j ∧ j.natAbs.log2 < 9000 then some (.int (i / j)) else none
  | _, _ => none
def powD : D → D → Option D
  | .int i, .int j => if 0 ≤ j ∧ (Builtin.Int.intBits i : Int) * j ≤ 2 ^ 27 then some (.int (i ^ j.toNat)) else none
  | _, _ => none
def negD : D → Option D
  | .int i => some (.int (-i))
  | _ => none
def ltD : D → D → Option D
  | .int i, .int j => some (.bl (decide (i < j)))
  | .str x, .str y => some (.bl (decide (x.cps.toList < y.cps.toList)))
  | _, _ => none
def leD : D → D → Option D
  | .int i, .int j => some (.bl (decide (i ≤ j)))
  | .str x, .str y => some (.bl (!decide (y.cps.toList < x.cps.toList)))
  | _, _ => none
def gtD (a b : D) : Option D := ltD b a
/-- x in y -/
def inB : D → D → Option Bool
  | .str x, .str y => some (!(Builtin.Str.occurrences y x 0 y.length 1).isEmpty)
  | x, .lst ys => if (x.plain && D.plains ys && D.near x (.lst ys)) = true then some (ys.any fun z => D.eqv z x) else none
  | x, .tup ys => if (x.plain && D.plains ys && D.near x (.tup ys)) = true then some (ys.any fun z => D.eqv z x) else none
  | x, .kup ys => if (x.plain && D.plains ys && D.near x (.kup ys)) = true then some (ys.any fun z => D.eqv z x) else none
  | _, _ => none
def inD (x y : D) : Option D := (inB x y).map .bl
def ninD (x y : D) : Option D := (inB x y).map fun b => .bl (!b)
def idxD : D → D → Option D
  | .scr ns, .int i => (atI ns i).map .int
  | .lst xs, .int i => atI xs i
  | .tup xs, .int i => atI xs i
  | .str x, .int i => (atI x.cps.toList i).map fun c => .str ⟨#[c]⟩
  | _, _ => none
def cutD {α : Type} (xs : List α) (lo hi : Option Int) : List α := (xs.drop (HT.sIx xs.length 0 lo)).take (HT.sIx xs.length xs.length hi - HT.sIx xs.length 0 lo)
def slD (x : D) (lo hi : Option Int) : Option D := match x with
  | .lst xs => some (.lst (cutD xs lo hi))
  | .tup xs => some (.tup (cutD xs lo hi))
  | .str x => some (.str ⟨(cutD x.cps.toList lo hi).toArray⟩)
  | _ => none
/-- a value's truth -/
def truD : D → Option Bool
  | .non => some false
  | .bl b => some b
  | .int i => some (i != 0)
  | .str x => some (x.length != 0)
  | .tup xs => some (!xs.isEmpty)
  | .lst xs => some (!xs.isEmpty)
  | _ => none
def lenD : D → Option D
  | .scr ns => some (.int ns.length)
  | .str x => some (.int x.length)
  | .tup xs => some (.int xs.length)
  | .lst xs => some (.int xs.length)
  | _ => none
/-- the name of the built-in class of a value -/
def tyD : D → Option String
  | .non => some "NoneType"
  | .bl _ => some "bool"
  | .int _ => some "int"
  | .str _ => some "str"
  | .tup _ => some "tuple"
  | .lst _ => some "list"
  | .dic _ => some "dict"
  | _ => none
/-- isinstance(x, T), T a built-in class -/
def isiD (T : String) (x : D) : Option D := match tyD x with
  | some t => (kitB t T).map .bl
  | none => none
/-! ### states -/
def rd (s : PS) : SV → Option D
  | .d x => some x
  | .cell k => match s.w[k]? with
    | some (.lst xs) => some (.lst xs)
    | some (.dic kvs) => some (.dic kvs)
    | some (.dit kvs) => some (.dit kvs)
    | _ => none
/-- the cell k is data from now on -/
def subG (k : Nat) (x : D) : Option SV → Option SV
  | some (.cell j) => if j = k then some (.d x) else some (.cell j)
  | o => o
def frz (s : PS) : SV → Option (D × PS)
  | .d x => some (x, s)
  | .cell k => match s.w[k]? with
    | some (.lst xs) => some (.lst xs, { g := s.g.map (subG k (.lst xs)), w := s.w.set k .gone })
    | some (.dit xs) => some (.dit xs, { g := s.g.map (subG k (.dit xs)), w := s.w.set k .gone })
    | _ => none
def frzs (s : PS) : List SV → Option (List D × PS)
  | [] => some ([], s)
  | x :: xs => match frz s x with
    | some (y, s1) => match frzs s1 xs with
      | some (ys, s2) => some (y :: ys, s2)
      | none => none
    | none => none
def below (n : Nat) : SV → Bool
  | .d _ => true
  | .cell k => decide (k < n)
def cellBelow (n : Nat) : Cell → Bool
  | .ins _ fs => fs.all fun p => below n p.2
  | .lsv xs => xs.all (below n)
  | _ => true
def dropG (n : Nat) : Option SV → Option SV
  | some (.cell k) => if k < n then some (.cell k) else none
  | o => o
/-- the cells from n on are forgotten -/
def trunc (n : Nat) (s : PS) : Option PS :=
  if ((s.w.take n).all (cellBelow n)) = true then some { g := s.g.map (dropG n), w := s.w.take n } else none
/-- a def hands back x: of the cells that it made at most this one stays -/
def retW (n : Nat) (x : SV) (w : List Cell) : Option (SV × List Cell) :=
  if ((w.take n).all (cellBelow n)) = true then match x with
    | .d y => some (.d y, w.take n)
    | .cell k => if k < n then some (.cell k, w.take n) else match w[k]? with
      | some c => if cellBelow n c = true then some (.cell n, w.take n ++ [c]) else none
      | none => none
  else none
/-! ### mirrors of expressions -/
def vVar (i : Nat) : ME := fun s => match s.g[i]? with
  | some (some x) => .ok x s
  | _ => .stuck
def vC (x : D) : ME := fun s => .ok (.d x) s
def vUn (f : D → Option D) (a : ME) : ME := fun s => (a s).bind fun x s => match rd s x with
  | some x => R.of ((f x).map .d) s
  | none => .stuck
def vOp (f : D → D → Option D) (a b : ME) : ME := fun s => (a s).bind fun x s => (b s).bind fun y s => match rd s x, rd s y with
  | some x, some y => R.of ((f x y).map .d) s
  | _, _ => .stuck
/-- .. whose new list is a cell -/
def vOpN (f : D → D → Option D) (a b : ME) : ME := fun s => (a s).bind fun x s => (b s).bind fun y s => match rd s x, rd s y with
  | some x, some y => match f x y with
    | some (.lst zs) => .ok (.cell s.w.length) { s with w := s.w ++ [.lst zs] }
    | _ => .stuck
  | _, _ => .stuck
def isB : SV → PS → R Bool
  | .d (.bl b), s => .ok b s
  | _, _ => .stuck
def cVal (a : ME) : MT := fun s => (a s).bind isB
def cTru (a : ME) : MT := fun s => (a s).bind fun x s => match rd s x with
  | some x => R.of (truD x) s
  | none => .stuck
def cAnd (a b : MT) : MT := fun s => (a s).bind fun c s => if c = true then b s else .ok false s
def cOr (a b : MT) : MT := fun s => (a s).bind fun c s => if c = true then .ok true s else b s
def cNot (a : MT) : MT := fun s => (a s).bind fun c s => .ok (!c) s
def vAnd (a b : ME) : ME := fun s => (a s).bind fun x s => (isB x s).bind fun c s => if c = true then b s else .ok (.d (.bl false)) s
def vOr (a b : ME) : ME := fun s => (a s).bind fun x s => (isB x s).bind fun c s => if c = true then .ok (.d (.bl true)) s else b s
def vNot (a : ME) : ME := fun s => (a s).bind fun x s => (isB x s).bind fun c s => .ok (.d (.bl (!c))) s
def vIf (t : MT) (a b : ME) : ME := fun s => (t s).bind fun c s => if c = true then a s else b s
/-- a op1 b op2 c -/
def vChain (f f' : D → D → Option D) (a b c : ME) : ME := fun s => (a s).bind fun x s => (b s).bind fun y s => match rd s x, rd s y with
  | some x', some y' => match f x' y' with
    | some (.bl k) => if k = true then (c s).bind fun z s => match rd s y, rd s z with
        | some y', some z' => R.of ((f' y' z').map .d) s
        | _, _ => .stuck
      else .ok (.d (.bl false)) s
    | _ => .stuck
  | _, _ => .stuck
def aNil : MA := fun s => .ok [] s
def aCons (a : ME) (r : MA) : MA := fun s => (a s).bind fun x s => (r s).bind fun xs s => .ok (x :: xs) s
def vTup (as : MA) : ME := fun s => (as s).bind fun xs s => match frzs s xs with
  | some (ys, s) => if ys.length ≤ sizeLine then .ok (.d (.tup ys)) s else .stuck
  | none => .stuck
def vLst (as : MA) : ME := fun s => (as s).bind fun xs s => match frzs s xs with
  | some (ys, s) => if ys.length ≤ sizeLine then .ok (.d (.lst ys)) s else .stuck
  | none => .stuck
def vLstN (as : MA) : ME := fun s => (as s).bind fun xs s => match frzs s xs with
  | some (ys, s) => if ys.length ≤ sizeLine then .ok (.cell s.w.length) { s with w := s.w ++ [.lst ys] } else .stuck
  | none => .stuck
def vFrz (a : ME) : ME := fun s => (a s).bind fun x s => R.of ((frz s x).map fun p => SV.d p.1) (match frz s x with
  | some p => p.2
  | none => s)
abbrev MO := PS → R (Option Int)
def oNone : MO := fun s => .ok none s
def oSome (a : ME) : MO := fun s => (a s).bind fun x s => match x with
  | .d (.int i) => .ok (some i) s
  | _ => .stuck
def vSl (a : ME) (lo hi : MO) : ME := fun s => (a s).bind fun x s => (lo s).bind fun l s => (hi s).bind fun h s => match rd s x with
  | some x => R.of ((slD x l h).map .d) s
  | none => .stuck
/-- a built-in of data -/
def rds (s : PS) : List SV → Option (List D)
  | [] => some []
  | x :: xs => match rd s x, rds s xs with
    | some y, some ys => some (y :: ys)
    | _, _ => none
def vB (f : List D → Option D) (as : MA) : ME := fun s => (as s).bind fun xs s => match rds s xs with
  | some ys => R.of ((f ys).map .d) s
  | none => .stuck
/-- a def of the text: arguments and cells -/
inductive RF where
  | ok (x : SV) (w : List Cell) | err (e : Exc) (w : List Cell) | stuck
abbrev Fn := List SV → List Cell → RF
def vCall (f : Fn) (as : MA) : ME := fun s => (as s).bind fun xs s => match f xs s.w with
  | .ok x w => .ok x { s with w := w }
  | .err e w => .err e { s with w := w }
  | .stuck => .stuck
/-! ### statements -/
def sNx : MS := fun s => .ok .nx s
def sSeq (a b : MS) : MS := fun s => (a s).bind fun f s => match f with
  | .nx => b s
  | f => .ok f s
def sRet (a : ME) : MS := fun s => (a s).bind fun x s => .ok (.rt x) s
def sExp (a : ME) : MS := fun s => (a s).bind fun _ s => .ok .nx s
def sIf (t : MT) (a b : MS) : MS := fun s => (t s).bind fun c s => if c = true then a s else b s
def hName (i : Nat) : MG := fun x s => if i < s.g.length then .ok () { s with g := s.g.set i (some x) } else .stuck
def hAll : List MG → List D → PS → R Unit
  | [], [], s => .ok () s
  | g :: gs, x :: xs, s => (g (.d x) s).bind fun _ s => hAll gs xs s
  | _, _, _ => .stuck
/-- a, b = .. -/
def hTup (gs : List MG) : MG := fun x s => match rd s x with
  | some (.tup xs) => if xs.length = gs.length then hAll gs xs s else .stuck
  | some (.lst xs) => if xs.length = gs.length then hAll gs xs s else .stuck
  | _ => .stuck
/-- a, b = x, y -/
def sPar (i j : Nat) (as : MA) : MS := fun s => (as s).bind fun xs s => match xs with
  | [x, y] => if i < s.g.length ∧ j < s.g.length then .ok .nx { s with g := (s.g.set i (some x)).set j (some y) } else .stuck
  | _ => .stuck
def sAsg (a : ME) (g : MG) : MS := fun s => (a s).bind fun x s => (g x s).bind fun _ s => .ok .nx s
/-- o[i] = x, o a list's cell -/
def setL (s : PS) (o : SV) (i x : D) : Option PS := match o, i with
  | .cell k, .int n => match s.w[k]? with
    | some (.lst xs) => (ixN xs.length n).map fun j => { s with w := s.w.set k (.lst (xs.set j x)) }
    | _ => none
  | _, _ => none
def hSub (o i : ME) : MG := fun x s => (o s).bind fun o s => (i s).bind fun i s => match frz s x with
  | some (x, s) => match rd s i with
    | some i => match setL s o i x with
      | some s => .ok () s
      | none => .stuck
    | none => .stuck
  | none => .stuck
/-! ### what is walked -/
def intD : D → Bool
  | .int _ => true
  | .str x => decide (x.length ≤ sizeLine) && PyData.strOk x
  | _ => false
inductive It' where
  | seq (xs : List D) | cell (k : Nat) | rng (lo : Int) (n : Nat) | rngC (lo c : Int) (n : Nat) | prs (ps : List (D × D)) | kys (xs : List (List D)) | its (ps : List (List D × D))
/-- the item of turn i: none: not known; some none: the end -/
def It'.at (s : PS) (i : Nat) : It' → Option (Option D)
  | .seq xs => some xs[i]?
  | .cell k => match s.w[k]? with
    | some (.lst xs) => some xs[i]?
    | _ => none
  | .rng lo n => if i < n then some (some (.int (lo + i))) else some none
  | .rngC lo c n => if i < n then some (some (.int (lo + (i : Nat) * c))) else some none
  | .prs ps => some (ps[i]?.map fun p => .tup [p.1, p.2])
  | .kys xs => some (xs[i]?.map .tup)
  | .its ps => some (ps[i]?.map fun p => .tup [.tup p.1, p.2])
def It'.fuel (s : PS) : It' → Nat
  | .seq xs => xs.length
  | .cell k => match s.w[k]? with
    | some (.lst xs) => xs.length
    | _ => 0
  | .rng _ n => n
  | .rngC _ _ n => n
  | .prs ps => ps.length
  | .kys xs => xs.length
  | .its ps => ps.length
abbrev MI := PS → R It'
def signsD (x : Str) : List D := x.cps.toList.map fun c => .str ⟨#[c]⟩
/-- a list, a tuple, a text -/
def jSeq (a : ME) : MI := fun s => (a s).bind fun x s => match x with
  | .d (.lst xs) => .ok (.seq xs) s
  | .d (.tup xs) => .ok (.seq xs) s
  | .d (.str x) => .ok (.seq (signsD x)) s
  | .cell k => match s.w[k]? with
    | some (.lst _) => .ok (.cell k) s
    | _ => .stuck
  | _ => .stuck
def rngOk (i : Int) : Bool := decide (-(2 ^ 62) ≤ i) && decide (i < 2 ^ 62)
def jRng1 (a : ME) : MI := fun s => (a s).bind fun x s => match x with
  | .d (.int j) => if rngOk j = true then .ok (.rng 0 j.toNat) s else .stuck
  | _ => .stuck
def jRng2 (a b : ME) : MI := fun s => (a s).bind fun x s => (b s).bind fun y s => match x, y with
  | .d (.int i), .d (.int j) => if (rngOk i && rngOk j) = true then .ok (.rng i (j - i).toNat) s else .stuck
  | _, _ => .stuck
def rngCOk (i j c : Int) : Bool := decide (0 < c) && decide (c.natAbs < 1073741824) && PySem.Builtin.Range.small i j c
def jRng3 (a b c : ME) : MI := fun s => (a s).bind fun x s => (b s).bind fun y s => (c s).bind fun z s => match x, y, z with
  | .d (.int i), .d (.int j), .d (.int k) => if rngCOk i j k = true then .ok (.rngC i k (PySem.Builtin.Range.rangeSize i j k).toNat) s else .stuck
  | _, _, _ => .stuck
/-- the turns of a for from turn i on; n: the cells ahead of the loop -/
def forGo (it : It') (n : Nat) (g : MG) (body : MS) : Nat → Nat → PS → R Fl
  | 0, i, s => match it.at s i with
    | some none => .ok .nx s
    | _ => .stuck
  | f + 1, i, s => match it.at s i with
    | some (some x) => (g (.d x) s).bind fun _ s => (body s).bind fun fl s => match fl with
      | .nx => match trunc n s with
        | some s => forGo it n g body f (i + 1) s
        | none => .stuck
      | .ct => match trunc n s with
        | some s => forGo it n g body f (i + 1) s
        | none => .stuck
      | .bk => .ok .nx s
      | .rt x => .ok (.rt x) s
    | some none => .ok .nx s
    | none => .stuck
def sFor (it : MI) (g : MG) (body : MS) : MS := fun s => (it s).bind fun it s => forGo it s.w.length g body (it.fuel s) 0 s
/-- the turns of a comprehension whose list is the cell n; own: the slots that are its own -/
def wipeG (vs : List Nat) (g : List (Option SV)) : List (Option SV) := vs.foldr (fun i g => g.set i none) g
/-- an exception is not looked at -/
def R.nox {α : Type} : R α → R α
  | .ok a s => .ok a s
  | _ => .stuck
@[simp] theorem nox_ok {α : Type} (a : α) (s : PS) : R.nox (.ok a s) = .ok a s := rfl
def lcGo (it : It') (n : Nat) (own : List Nat) (g : MG) (t : MT) (e : ME) : Nat → Nat → PS → R Unit
  | 0, i, s => match it.at s i with
    | some none => .ok () s
    | _ => .stuck
  | f + 1, i, s => match it.at s i with
    | some (some x) => (g (.d x) s).nox.bind fun _ s => (t s).nox.bind fun c s => if c = true then
        (e s).nox.bind fun y s => match frz s y with
          | some (y, s) => match s.w[n]? with
            | some (.lst acc) => if acc.length < sizeLine then match trunc (n + 1) { s with w := s.w.set n (.lst (acc ++ [y])) } with
                | some s => lcGo it n own g t e f (i + 1) { s with g := wipeG own s.g }
                | none => .stuck
              else .stuck
            | _ => .stuck
          | none => .stuck
      else match trunc (n + 1) s with
        | some s => lcGo it n own g t e f (i + 1) { s with g := wipeG own s.g }
        | none => .stuck
    | some none => .ok () s
    | none => .stuck
/-- behind a comprehension its own slots hold again what they held, if that was data -/
def backG (own : List Nat) (g0 g : List (Option SV)) : List (Option SV) := own.foldr (fun i g => g.set i (match g0[i]? with
  | some (some (.d x)) => some (.d x)
  | _ => none)) g
/-- the new list is the cell n -/
def vLcN (it : MI) (own : List Nat) (g : MG) (t : MT) (e : ME) : ME := fun s => (it s).bind fun it s =>
  (lcGo it s.w.length own g t e (it.fuel s) 0 { g := wipeG own s.g, w := s.w ++ [.lst []] }).bind fun _ s' => .ok (.cell s.w.length) { s' with g := backG own s.g s'.g }
def cYes : MT := fun s => .ok true s
/-! ### defs -/
def fnM (slots : Nat) (body : MS) : Fn := fun xs w => match body { g := xs.map some ++ List.replicate (slots - xs.length) none, w := w } with
  | .ok (.rt x) s => match retW w.length x s.w with
    | some (x, w) => .ok x w
    | none => .stuck
  | .ok .nx s => match retW w.length (.d .non) s.w with
    | some (x, w) => .ok x w
    | none => .stuck
  | .err e s => match retW w.length (.d .non) s.w with
    | some (_, w) => .err e w
    | none => .stuck
  | _ => .stuck
end Bf
/-! The mirror layer: what a mirror says of the program: data represented in a heap, states, growth, outcomes. -/
namespace Bf
open PySem PySem.Spec PyProof.Rows L2
def keyD : Key → D
  | .inl i => .int i
  | .inr x => .str x
section
variable (K : PySem.W.Frag) (CT : Ctx)
mutual
/-- v is the data d, in the frozen heap F -/
inductive Rep (F : Hp) : V → D → Prop
  | non : Rep F .non .non
  | bl (b : Bool) : Rep F (.bl b) (.bl b)
  | int (i : Int) : Rep F (.int i) (.int i)
  | str (x : Str) (h1 : x.length ≤ sizeLine) (h2 : PyData.strOk x = true) : Rep F (.str x) (.str x)
  | tup {a : Addr} {vs : List V} {ds : List D} (h1 : F a = some (.tup vs)) (h2 : Reps F vs ds) : Rep F (.ref a) (.tup ds)
  | lst {a : Addr} {vs : List V} {ds : List D} (h1 : F a = some (.lst vs)) (h2 : Reps F vs ds) : Rep F (.ref a) (.lst ds)
  | dK {a : Addr} {kvs : List (Key × V)} {ds : List (D × D)} (h1 : F a = some (.dK kvs)) (h2 : RepK F kvs ds) : Rep F (.ref a) (.dic ds)
  | ins {a dx : Addr} {c : Nat} {fs : List (Str × V)} {gs : List (Str × D)} (h1 : F a = some (.ins (CT c) dx fs)) (h2 : RepF F fs gs) : Rep F (.ref a) (.ins c gs)
  | raw (v : V) : Rep F v (.raw v)
  | scr {a : Addr} {ns : List Int} (h1 : SqL K F a (ns.map V.int)) : Rep F (.ref a) (.scr ns)
  | dT {a : Addr} {kvs : List (List Key × V)} {ds : List (List D × D)} (h1 : F a = some (.dT kvs)) (h2 : RepT F kvs ds) : Rep F (.ref a) (.dit ds)
  | cls (c : Nat) : Rep F (.ref (CT c)) (.cls c)
  | kup {a : Addr} {vs : List V} {ds : List D} (h1 : SqT K F a vs) (h2 : Reps F vs ds) : Rep F (.ref a) (.kup ds)
  | dL {a : Addr} {o : Obj} {kvs : List (List Key × V)} {ds : List (List D × D)} (h1 : F a = some (.frz o (.dT kvs))) (h2 : RepT F kvs ds) : Rep F (.ref a) (.dtl ds)
inductive Reps (F : Hp) : List V → List D → Prop
  | nil : Reps F [] []
  | cons {v : V} {d : D} {vs : List V} {ds : List D} (h1 : Rep F v d) (h2 : Reps F vs ds) : Reps F (v :: vs) (d :: ds)
inductive RepK (F : Hp) : List (Key × V) → List (D × D) → Prop
  | nil : RepK F [] []
  | cons {k : Key} {v : V} {d : D} {vs : List (Key × V)} {ds : List (D × D)} (h1 : Rep F v d) (h2 : RepK F vs ds) : RepK F ((k, v) :: vs) ((keyD k, d) :: ds)
inductive RepT (F : Hp) : List (List Key × V) → List (List D × D) → Prop
  | nil : RepT F [] []
  | cons {k : List Key} {v : V} {d : D} {vs : List (List Key × V)} {ds : List (List D × D)} (h1 : Rep F v d) (h2 : RepT F vs ds) : RepT F ((k, v) :: vs) ((k.map keyD, d) :: ds)
inductive RepF (F : Hp) : List (Str × V) → List (Str × D) → Prop
  | nil : RepF F [] []
  | cons {f : Str} {v : V} {d : D} {vs : List (Str × V)} {ds : List (Str × D)} (h1 : Rep F v d) (h2 : RepF F vs ds) : RepF F ((f, v) :: vs) ((f, d) :: ds)
end
def Sub (F F' : Hp) : Prop := ∀ a o, F a = some o → F' a = some o
theorem Sub.refl (F : Hp) : Sub F F := fun _ _ h => h
theorem Sub.trans {F G H : Hp} (a : Sub F G) (b : Sub G H) : Sub F H := fun x o h => b x o (a x o h)
theorem Sub.new {F : Hp} {p : Addr} {o : HO} (h : F p = none) : Sub F (upd F p o) := fun a u e => by
  rw [upd_ne (ne_of_none e h)]
  exact e
theorem Sub.rd {F F' : Hp} {a : Addr} {u : HO} (s : Sub F F') (h : Rd F a u) : Rd F' a u := by
  rcases h with h | ⟨o, h⟩
  · exact .inl (s _ _ h)
  · exact .inr ⟨o, s _ _ h⟩
theorem Sub.sqL {F F' : Hp} {a : Addr} {xs : List V} (s : Sub F F') (h : SqL K F a xs) : SqL K F' a xs := by
  rcases h with h | h
  · exact .inl (s.rd h)
  · exact .inr h
theorem Sub.sqT {F F' : Hp} {a : Addr} {xs : List V} (s : Sub F F') (h : SqT K F a xs) : SqT K F' a xs := by
  rcases h with h | h
  · exact .inl (s.rd h)
  · exact .inr h
mutual
theorem Rep.mono {F F' : Hp} (s : Sub F F') : ∀ (d : D) (v : V), Rep K CT F v d → Rep K CT F' v d
  | .non, _, h => by cases h; exact .non
  | .bl b, _, h => by cases h; exact .bl b
  | .int i, _, h => by cases h; exact .int i
  | .str x, _, h => by
    cases h with
    | str _ h1 h2 => exact .str x h1 h2
  | .tup ds, _, h => by
    cases h with
    | tup h1 h2 => exact .tup (s _ _ h1) (Reps.mono s ds _ h2)
  | .kup ds, _, h => by
    cases h with
    | kup h1 h2 => exact .kup (s.sqT K h1) (Reps.mono s ds _ h2)
  | .lst ds, _, h => by
    cases h with
    | lst h1 h2 => exact .lst (s _ _ h1) (Reps.mono s ds _ h2)
  | .dic ds, _, h => by
    cases h with
    | dK h1 h2 => exact .dK (s _ _ h1) (RepK.mono s ds _ h2)
  | .ins c gs, _, h => by
    cases h with
    | ins h1 h2 => exact .ins (s _ _ h1) (RepF.mono s gs _ h2)
  | .raw v, _, h => by cases h; exact .raw v
  | .scr ns, _, h => by
    cases h with
    | scr h1 => exact .scr (s.sqL K h1)
  | .dit ds, _, h => by
    cases h with
    | dT h1 h2 => exact .dT (s _ _ h1) (RepT.mono s ds _ h2)
  | .cls c, _, h => by cases h; exact .cls c
  | .dtl ds, _, h => by
    cases h with
    | dL h1 h2 => exact .dL (s _ _ h1) (RepT.mono s ds _ h2)
theorem Reps.mono {F F' : Hp} (s : Sub F F') : ∀ (ds : List D) (vs : List V), Reps K CT F vs ds → Reps K CT F' vs ds
  | [], _, h => by cases h; exact .nil
  | d :: ds, _, h => by
    cases h with
    | cons h1 h2 => exact .cons (Rep.mono s d _ h1) (Reps.mono s ds _ h2)
theorem RepK.mono {F F' : Hp} (s : Sub F F') : ∀ (ds : List (D × D)) (vs : List (Key × V)), RepK K CT F vs ds → RepK K CT F' vs ds
  | [], _, h => by cases h; exact .nil
  | (k, d) :: ds, _, h => by
    cases h with
    | cons h1 h2 => exact .cons (Rep.mono s d _ h1) (RepK.mono s ds _ h2)
theorem RepT.mono {F F' : Hp} (s : Sub F F') : ∀ (ds : List (List D × D)) (vs : List (List Key × V)), RepT K CT F vs ds → RepT K CT F' vs ds
  | [], _, h => by cases h; exact .nil
  | (k, d) :: ds, _, h => by
    cases h with
    | cons h1 h2 => exact .cons (Rep.mono s d _ h1) (RepT.mono s ds _ h2)
theorem RepF.mono {F F' : Hp} (s : Sub F F') : ∀ (ds : List (Str × D)) (vs : List (Str × V)), RepF K CT F vs ds → RepF K CT F' vs ds
  | [], _, h => by cases h; exact .nil
  | (f, d) :: ds, _, h => by
    cases h with
    | cons h1 h2 => exact .cons (Rep.mono s d _ h1) (RepF.mono s ds _ h2)
end
end
/-! ### two lists, item by item -/
section
variable {K : PySem.W.Frag} {CT : Ctx} {F F' : Hp} {vs ws : List V} {ds es : List D} {v : V} {d : D}
theorem Reps.length : ∀ {vs : List V} {ds : List D}, Reps K CT F vs ds → vs.length = ds.length
  | _, [], h => by cases h; rfl
  | _, d :: ds, h => by
    cases h with
    | cons h1 h2 => simp [Reps.length h2]
theorem Reps.get : ∀ {ds : List D} {vs : List V} {i : Nat} {d : D}, Reps K CT F vs ds → ds[i]? = some d → ∃ v, vs[i]? = some v ∧ Rep K CT F v d
  | [], _, _, _, _, e => by simp at e
  | _ :: _, _, 0, d, h, e => by
    cases h with
    | cons h1 h2 =>
      simp at e
      subst e
      exact ⟨_, rfl, h1⟩
  | _ :: ds, _, i + 1, d, h, e => by
    cases h with
    | cons h1 h2 =>
      obtain ⟨v, e1, r⟩ := Reps.get (i := i) h2 (by simpa using e)
      exact ⟨v, by simpa using e1, r⟩
theorem Reps.getV {i : Nat} (h : Reps K CT F vs ds) (e : vs[i]? = some v) : ∃ d, ds[i]? = some d ∧ Rep K CT F v d := by
  have hl := h.length
  have hi : i < ds.length := by
    have := (List.getElem?_eq_some_iff.mp e).1
    omega
  obtain ⟨w, e1, r⟩ := h.get (List.getElem?_eq_getElem hi)
  rw [e] at e1
  cases e1
  exact ⟨_, List.getElem?_eq_getElem hi, r⟩
theorem Reps.append : ∀ {vs ws : List V} {ds es : List D}, Reps K CT F vs ds → Reps K CT F ws es → Reps K CT F (vs ++ ws) (ds ++ es)
  | _, _, [], _, h, r => by cases h; exact r
  | _, _, d :: ds, _, h, r => by
    cases h with
    | cons h1 h2 => exact .cons h1 (Reps.append h2 r)
theorem Reps.one (h : Rep K CT F v d) : Reps K CT F [v] [d] := .cons h .nil
theorem Reps.take : ∀ {ds : List D} {vs : List V} (n : Nat), Reps K CT F vs ds → Reps K CT F (vs.take n) (ds.take n)
  | _, _, 0, _ => by simp; exact .nil
  | [], _, n + 1, h => by cases h; exact .nil
  | d :: ds, _, n + 1, h => by
    cases h with
    | cons h1 h2 => exact .cons h1 (Reps.take n h2)
theorem Reps.drop : ∀ {ds : List D} {vs : List V} (n : Nat), Reps K CT F vs ds → Reps K CT F (vs.drop n) (ds.drop n)
  | _, _, 0, h => by simpa using h
  | [], _, n + 1, h => by cases h; exact .nil
  | d :: ds, _, n + 1, h => by
    cases h with
    | cons h1 h2 => exact Reps.drop n h2
theorem Reps.set : ∀ {ds : List D} {vs : List V} (n : Nat), Reps K CT F vs ds → Rep K CT F v d → Reps K CT F (vs.set n v) (ds.set n d)
  | [], _, n, h, r => by cases h; exact .nil
  | e :: ds, _, 0, h, r => by
    cases h with
    | cons h1 h2 => exact .cons r h2
  | e :: ds, _, n + 1, h, r => by
    cases h with
    | cons h1 h2 => exact .cons h1 (Reps.set n h2 r)
theorem Reps.rep (h : Reps K CT F vs ds) : ∀ k : Nat, Reps K CT F (List.replicate k vs).flatten (List.replicate k ds).flatten
  | 0 => .nil
  | k + 1 => by
    rw [List.replicate_succ, List.replicate_succ, List.flatten_cons, List.flatten_cons]
    exact h.append (Reps.rep h k)
theorem Reps.cut (h : Reps K CT F vs ds) (lo hi : Option Int) : Reps K CT F (cutV vs lo hi) (cutD ds lo hi) := by
  unfold cutV cutD
  rw [h.length]
  exact (h.drop _).take _
theorem Reps.at {i : Int} (h : Reps K CT F vs ds) (e : atI ds i = some d) : ∃ v, atI vs i = some v ∧ Rep K CT F v d := by
  unfold atI at e ⊢
  rw [h.length]
  cases q : ixN ds.length i with
  | none => rw [q] at e; cases e
  | some j =>
    rw [q] at e
    exact h.get e
theorem Reps.nil_iff (h : Reps K CT F vs ds) : vs = [] ↔ ds = [] := by
  cases h with
  | nil => simp
  | cons => simp
end
/-! ### plain data is the library's -/
section
variable {K : PySem.W.Frag} {CT : Ctx} {F : Hp}
mutual
theorem Rep.dp : ∀ (d : D) (v : V), d.plain = true → Rep K CT F v d → Dp K F v d.py ∧ PyData.canLay0 d.py = true
  | .non, _, _, h => by cases h; exact ⟨.non, rfl⟩
  | .bl b, _, _, h => by cases h; exact ⟨.bl b, rfl⟩
  | .int i, _, _, h => by cases h; exact ⟨.int i, rfl⟩
  | .str x, _, _, h => by
    cases h with
    | str _ h1 h2 => exact ⟨.str x, by rw [D.py, PyData.canLay0]; exact h2⟩
  | .tup ds, _, p, h => by
    cases h with
    | tup h1 h2 =>
      obtain ⟨q1, q2⟩ := Reps.dp ds _ (by rw [D.plain] at p; exact p) h2
      exact ⟨.tup (SqT.of h1) q1, by rw [D.py, PyData.canLay0]; exact q2⟩
  | .kup ds, _, p, h => by
    cases h with
    | kup h1 h2 =>
      obtain ⟨q1, q2⟩ := Reps.dp ds _ (by rw [D.plain] at p; exact p) h2
      exact ⟨.tup h1 q1, by rw [D.py, PyData.canLay0]; exact q2⟩
  | .lst ds, _, p, h => by
    cases h with
    | lst h1 h2 =>
      obtain ⟨q1, q2⟩ := Reps.dp ds _ (by rw [D.plain] at p; exact p) h2
      exact ⟨.lst (SqL.of h1) q1, by rw [D.py, PyData.canLay0]; exact q2⟩
  | .dic _, _, p, _ => by rw [D.plain] at p; cases p
  | .ins _ _, _, p, _ => by rw [D.plain] at p; cases p
  | .raw _, _, p, _ => by rw [D.plain] at p; cases p
  | .scr _, _, p, _ => by rw [D.plain] at p; cases p
  | .dit _, _, p, _ => by rw [D.plain] at p; cases p
  | .cls _, _, p, _ => by rw [D.plain] at p; cases p
  | .dtl _, _, p, _ => by rw [D.plain] at p; cases p
theorem Reps.dp : ∀ (ds : List D) (vs : List V), D.plains ds = true → Reps K CT F vs ds → DpAll K F vs (D.pys ds) ∧ PyData.canLayAll0 (D.pys ds) = true
  | [], _, _, h => by cases h; exact ⟨.nil, rfl⟩
  | d :: ds, _, p, h => by
    cases h with
    | cons h1 h2 =>
      rw [D.plains, Bool.and_eq_true] at p
      obtain ⟨a1, a2⟩ := Rep.dp d _ p.1 h1
      obtain ⟨b1, b2⟩ := Reps.dp ds _ p.2 h2
      refine ⟨.cons a1 b1, ?_⟩
      rw [D.pys, PyData.canLayAll0, a2, b2]
      rfl
end
end
end Bf
/-! The mirror layer: states in the heap, outcomes, the judgements' readings. -/
namespace Bf
open PySem PySem.Spec PyProof.Rows L2
abbrev Sto := L2.St
section
variable (K : PySem.W.Frag) (CT : Ctx)
def RepS (F : Hp) (as : List Addr) : V → SV → Prop
  | v, .d x => Rep K CT F v x
  | v, .cell k => ∃ a, as[k]? = some a ∧ v = .ref a
inductive RepSs (F : Hp) (as : List Addr) : List V → List SV → Prop
  | nil : RepSs F as [] []
  | cons {v : V} {x : SV} {vs : List V} {xs : List SV} (h1 : RepS K CT F as v x) (h2 : RepSs F as vs xs) : RepSs F as (v :: vs) (x :: xs)
inductive RepSF (F : Hp) (as : List Addr) : List (Str × V) → List (Str × SV) → Prop
  | nil : RepSF F as [] []
  | cons {f : Str} {v : V} {x : SV} {vs : List (Str × V)} {xs : List (Str × SV)} (h1 : RepS K CT F as v x) (h2 : RepSF F as vs xs) : RepSF F as ((f, v) :: vs) ((f, x) :: xs)
def CellOk (F : Hp) (as : List Addr) (H : Hp) (a : Addr) : Cell → Prop
  | .lst xs => F a = none ∧ ∃ vs, H a = some (.lst vs) ∧ Reps K CT F vs xs
  | .dic kvs => F a = none ∧ ∃ vs, H a = some (.dK vs) ∧ RepK K CT F vs kvs
  | .dit kvs => F a = none ∧ ∃ vs, H a = some (.dT vs) ∧ RepT K CT F vs kvs
  | .ins c fs => F a = none ∧ ∃ dx vs, H a = some (.ins (CT c) dx vs) ∧ RepSF K CT F as vs fs
  | .gone => True
  | .lsv xs => F a = none ∧ ∃ vs, H a = some (.lst vs) ∧ RepSs K CT F as vs xs
/-- the tables of code objects stand, and are nothing else -/
structure TabOk (T : List (Addr × Str)) (F : Hp) (as : List Addr) (H : Hp) : Prop where
  tabs : LamX.Tabs T H
  nf : ∀ a ps, F a ≠ some (.tbl ps)
  na : ∀ a ∈ as, ∀ ps, H a ≠ some (.tbl ps)
structure Wk (F : Hp) (as : List Addr) (H : Hp) (w : List Cell) : Prop where
  len : w.length = as.length
  nd : as.Nodup
  tb : TabOk CT.tabs F as H
  live : ∀ a ∈ as, H a ≠ none
  ok : ∀ (k : Nat) (c : Cell) (a : Addr), w[k]? = some c → as[k]? = some a → CellOk K CT F as H a c
structure Env (F : Hp) (as : List Addr) (H : Hp) (σ : Sto) (s : PS) : Prop where
  sub : Sub F H
  wk : Wk K CT F as H s.w
  gl : s.g.length = σ.length
  sl : ∀ (i : Nat) (x : SV), s.g[i]? = some (some x) → ∃ v, σ[i]? = some (some v) ∧ RepS K CT F as v x
def Ext (F : Hp) (as : List Addr) (F' : Hp) (as' : List Addr) : Prop := Sub F F' ∧ ∃ t, as' = as ++ t
/-- the exception e, as it leaves: its class, its own dict -/
def ExcOk (F H : Hp) (e : Exc) (c : Value) (dx : Option Addr) : Prop :=
  (match e.c with
    | .own n => c = .ref (CT n)
    | .bi t => c = .type t) ∧
  (e.fs = [] ∨ ∃ d vs, dx = some d ∧ H d = some (.xd vs) ∧ RepF K CT F vs e.fs)
/-- what an outcome r asks -/
def Out {α : Type} (ok : Sto → Prop) (E : Sto → XK) (F : Hp) (as : List Addr) (r : R α) (Q : α → PS → Hp → List Addr → Sto → Hp → Prop) : Prop := match r with
  | .ok a s => ∀ F' as' σ' H', ok σ' → Ext F as F' as' → Env K CT F' as' H' σ' s → Q a s F' as' σ' H'
  | .err e s => ∀ c dx F' as' σ' H', ok σ' → Ext F as F' as' → Env K CT F' as' H' σ' s → ExcOk K CT F' H' e c dx → E σ' c dx H'
  | .stuck => False
/-- readings -/
def up (E : Sto → XK) (m : ME) : TE := fun σ H Q => ∃ F as s, Env K CT F as H σ s ∧ Out K CT (fun σ' => σ' = σ) E F as (m s) fun x _ F' as' _ H' => ∀ v, RepS K CT F' as' v x → Q v H'
def upT (E : Sto → XK) (m : MT) : TT := fun σ H Q => ∃ F as s, Env K CT F as H σ s ∧ Out K CT (fun σ' => σ' = σ) E F as (m s) fun b _ _ _ _ H' => Q b H'
def upA (E : Sto → XK) (m : MA) : TA := fun σ H Q => ∃ F as s, Env K CT F as H σ s ∧ Out K CT (fun σ' => σ' = σ) E F as (m s) fun xs _ F' as' _ H' => ∀ vs, RepSs K CT F' as' vs xs → Q vs H'
def upO (E : Sto → XK) (m : MO) : TO := fun σ H Q => ∃ F as s, Env K CT F as H σ s ∧ Out K CT (fun σ' => σ' = σ) E F as (m s) fun o _ _ _ _ H' => Q o H'
def upG {β : Type} (φ : Sto → β) (E : Sto → XK) (g : MG) : TG := fun v σ H Q => ∃ F as s x, Env K CT F as H σ s ∧ RepS K CT F as v x ∧ Out K CT (fun σ' => φ σ' = φ σ) E F as (g x s) fun _ _ _ _ σ' H' => φ σ' = φ σ → Q σ' H'
def upS (E : Sto → XK) (m : MS) : TS := fun D σ H => ∃ F as s, Env K CT F as H σ s ∧ Out K CT (fun _ => True) E F as (m s) fun f _ F' as' σ' H' => match f with
  | .nx => D.nx σ' H'
  | .bk => D.bk σ' H'
  | .ct => D.ct σ' H'
  | .rt x => ∀ v, RepS K CT F' as' v x → D.rt v H'
/-- the walked thing it, as the layer's J -/
def ItOk (F : Hp) (as : List Addr) (J : It) : It' → Prop
  | .seq xs => (∃ a vs, J = Itl K a ∧ SqL K F a vs ∧ Reps K CT F vs xs) ∨ (∃ a vs, J = Itt K a ∧ SqT K F a vs ∧ Reps K CT F vs xs) ∨ (∃ x : Str, J = Its x ∧ xs = signsD x ∧ PyData.strOk x = true)
  | .cell k => ∃ a, as[k]? = some a ∧ J = Itl K a
  | .rng lo n => J = Itr lo n
  | .rngC lo c n => J = Itc lo c n
  | .prs ps => ∃ vs ws : List V, Reps K CT F vs (ps.map Prod.fst) ∧ Reps K CT F ws (ps.map Prod.snd) ∧ ∀ H, Sub F H → (∀ i, i < ps.length → J.go i H) ∧ (∀ i, ps.length ≤ i → J.stop i H) ∧ ∀ i v H' a b, vs[i]? = some a → ws[i]? = some b → J.yld i H v H' → ∃ T, v = .ref T ∧ H T = none ∧ H' = upd H T (.tup [a, b])
  | .kys xs => (∀ x ∈ xs, x.all intD = true) ∧ ∃ ks : List (List Key), xs = ks.map (fun k => k.map keyD) ∧ ∀ H, Sub F H → (∀ i, i < ks.length → J.go i H) ∧ (∀ i, ks.length ≤ i → J.stop i H) ∧ ∀ i v H' k, ks[i]? = some k → J.yld i H v H' → H' = H ∧ ∃ q, v = .ref q ∧ H q = some (.tup (k.map kV))
  | .its ps => (∀ p ∈ ps, p.1.all intD = true) ∧ ∃ kvs : List (List Key × V), RepT K CT F kvs ps ∧ ∀ H, Sub F H → (∀ i, i < kvs.length → J.go i H) ∧ (∀ i, kvs.length ≤ i → J.stop i H) ∧ ∀ i v H' k w, kvs[i]? = some (k, w) → J.yld i H v H' → ∃ T q, v = .ref T ∧ H T = none ∧ H q = some (.tup (k.map kV)) ∧ H' = upd H T (.tup [.ref q, w])
def upI (E : Sto → XK) (m : MI) : TI := fun σ H R => ∃ F as s, Env K CT F as H σ s ∧ Out K CT (fun σ' => σ' = σ) E F as (m s) fun it _ F' as' _ H' => ∀ J, ItOk K CT F' as' J it → R J H'
end
/-- an object that is neither a table nor a code object -/
def NoTab (o : HO) : Prop := (∀ ps, o ≠ .tbl ps) ∧ ∀ φ, o ≠ .ext φ
section
variable {T : List (Addr × Str)} {F H : Hp} {as : List Addr}
theorem tabs_set {a : Addr} {o u : HO} (t : LamX.Tabs T H) (h : H a = some o) (no : NoTab o) : LamX.Tabs T (upd H a u) := fun p hp => by
  obtain ⟨ps, h1, h2, h3⟩ := t p hp
  have n1 : p.1 ≠ a := fun z => by
    rw [z, h] at h1
    exact no.1 _ (Option.some.inj h1)
  refine ⟨ps, by rw [upd_ne n1]; exact h1, h2, fun pos cv hc => ?_⟩
  obtain ⟨c, e1, e2⟩ := h3 pos cv hc
  have n2 : c ≠ a := fun z => by
    rw [z, h] at e2
    exact no.2 _ (Option.some.inj e2)
  exact ⟨c, e1, by rw [upd_ne n2]; exact e2⟩
theorem tabs_new {p : Addr} {u : HO} (t : LamX.Tabs T H) (h : H p = none) : LamX.Tabs T (upd H p u) := t.ext fun b o e => by
  rw [upd_ne (fun z => by rw [z, h] at e; cases e)]
  exact e
theorem TabOk.new {p : Addr} {o : HO} (t : TabOk T F as H) (hp : H p = none) (no : ∀ ps, o ≠ .tbl ps) : TabOk T (upd F p o) as (upd H p o) := by
  refine ⟨tabs_new t.tabs hp, fun a ps e => ?_, fun a m ps e => ?_⟩
  · by_cases ha : a = p
    · rw [ha, upd_same] at e
      exact no _ (Option.some.inj e)
    · rw [upd_ne ha] at e
      exact t.nf a ps e
  · by_cases ha : a = p
    · rw [ha, upd_same] at e
      exact no _ (Option.some.inj e)
    · rw [upd_ne ha] at e
      exact t.na a m ps e
theorem TabOk.other {p : Addr} {o : HO} (t : TabOk T F as H) (hp : H p = none) (no : p ∉ as) : TabOk T F as (upd H p o) := by
  refine ⟨tabs_new t.tabs hp, t.nf, fun a m ps e => ?_⟩
  have ha : a ≠ p := fun z => no (z ▸ m)
  rw [upd_ne ha] at e
  exact t.na a m ps e
theorem TabOk.newC {p : Addr} {o : HO} (t : TabOk T F as H) (hp : H p = none) (no : ∀ ps, o ≠ .tbl ps) : TabOk T F (as ++ [p]) (upd H p o) := by
  refine ⟨tabs_new t.tabs hp, t.nf, fun a m ps e => ?_⟩
  by_cases ha : a = p
  · rw [ha, upd_same] at e
    exact no _ (Option.some.inj e)
  · rw [upd_ne ha] at e
    rcases List.mem_append.mp m with m | m
    · exact t.na a m ps e
    · exact ha (List.mem_singleton.mp m)
theorem TabOk.set {a : Addr} {o u : HO} (t : TabOk T F as H) (h : H a = some o) (no : NoTab o) (nu : ∀ ps, u ≠ .tbl ps) : TabOk T F as (upd H a u) := by
  refine ⟨tabs_set t.tabs h no, t.nf, fun b m ps e => ?_⟩
  by_cases hb : b = a
  · rw [hb, upd_same] at e
    exact nu _ (Option.some.inj e)
  · rw [upd_ne hb] at e
    exact t.na b m ps e
theorem TabOk.frz {a : Addr} {o : HO} (t : TabOk T F as H) (no : ∀ ps, o ≠ .tbl ps) : TabOk T (upd F a o) as H := by
  refine ⟨t.tabs, fun b ps e => ?_, t.na⟩
  by_cases hb : b = a
  · rw [hb, upd_same] at e
    exact no _ (Option.some.inj e)
  · rw [upd_ne hb] at e
    exact t.nf b ps e
theorem TabOk.sub {as' : List Addr} (t : TabOk T F as H) (h : ∀ a ∈ as', a ∈ as) : TabOk T F as' H := ⟨t.tabs, t.nf, fun a m => t.na a (h a m)⟩
end
theorem noTab_lst {xs : List V} : NoTab (.lst xs) := ⟨fun _ z => (by cases z), fun _ z => (by cases z)⟩
theorem noTab_tup {xs : List V} : NoTab (.tup xs) := ⟨fun _ z => (by cases z), fun _ z => (by cases z)⟩
theorem noTab_dT {xs : List (List Key × V)} : NoTab (.dT xs) := ⟨fun _ z => (by cases z), fun _ z => (by cases z)⟩
theorem noTab_dK {xs : List (Key × V)} : NoTab (.dK xs) := ⟨fun _ z => (by cases z), fun _ z => (by cases z)⟩
theorem noTab_ins {C dx : Addr} {xs : List (Str × V)} : NoTab (.ins C dx xs) := ⟨fun _ z => (by cases z), fun _ z => (by cases z)⟩
section
variable {K : PySem.W.Frag} {CT : Ctx} {F F' F'' : Hp} {as as' as'' : List Addr} {H H' : Hp} {σ σ' : Sto} {s s' : PS} {v : V} {x : SV} {E : Sto → XK}
theorem Ext.refl : Ext F as F as := ⟨Sub.refl F, [], by simp⟩
theorem Ext.trans (a : Ext F as F' as') (b : Ext F' as' F'' as'') : Ext F as F'' as'' := by
  obtain ⟨a1, t, rfl⟩ := a
  obtain ⟨b1, u, rfl⟩ := b
  exact ⟨a1.trans b1, t ++ u, by simp⟩
theorem Ext.sub (h : Sub F F') : Ext F as F' as := ⟨h, [], by simp⟩
theorem Ext.at (e : Ext F as F' as') {k : Nat} {a : Addr} (h : as[k]? = some a) : as'[k]? = some a := by
  obtain ⟨_, t, rfl⟩ := e
  rw [List.getElem?_append_left (List.getElem?_eq_some_iff.mp h).1]
  exact h
theorem RepS.mono (e : Ext F as F' as') (h : RepS K CT F as v x) : RepS K CT F' as' v x := by
  cases x with
  | d y => exact Rep.mono K CT e.1 y v h
  | cell k =>
    obtain ⟨a, h1, h2⟩ := h
    exact ⟨a, e.at h1, h2⟩
theorem RepSs.mono {vs : List V} {xs : List SV} (e : Ext F as F' as') (h : RepSs K CT F as vs xs) : RepSs K CT F' as' vs xs := by
  induction h with
  | nil => exact .nil
  | cons h1 _ ih => exact .cons (h1.mono e) ih
theorem RepSF.mono {vs : List (Str × V)} {xs : List (Str × SV)} (e : Ext F as F' as') (h : RepSF K CT F as vs xs) : RepSF K CT F' as' vs xs := by
  induction h with
  | nil => exact .nil
  | cons h1 _ ih => exact .cons (h1.mono e) ih
theorem ItOk.mono {J : It} {it : It'} (e : Ext F as F' as') (h : ItOk K CT F as J it) : ItOk K CT F' as' J it := by
  cases it with
  | seq xs =>
    rcases h with ⟨a, vs, h1, h2, h3⟩ | ⟨a, vs, h1, h2, h3⟩ | h
    · exact .inl ⟨a, vs, h1, e.1.sqL K h2, Reps.mono K CT e.1 _ _ h3⟩
    · exact .inr (.inl ⟨a, vs, h1, e.1.sqT K h2, Reps.mono K CT e.1 _ _ h3⟩)
    · exact .inr (.inr h)
  | cell k =>
    obtain ⟨a, h1, h2⟩ := h
    exact ⟨a, e.at h1, h2⟩
  | rng lo n => exact h
  | rngC lo c n => exact h
  | prs ps =>
    obtain ⟨vs, ws, h1, h2, h3⟩ := h
    exact ⟨vs, ws, Reps.mono K CT e.1 _ _ h1, Reps.mono K CT e.1 _ _ h2, fun H s => h3 H (e.1.trans s)⟩
  | kys xs =>
    obtain ⟨h0, ks, h1, h3⟩ := h
    exact ⟨h0, ks, h1, fun H s => h3 H (e.1.trans s)⟩
  | its ps =>
    obtain ⟨h0, kvs, h1, h3⟩ := h
    exact ⟨h0, kvs, RepT.mono K CT e.1 _ _ h1, fun H s => h3 H (e.1.trans s)⟩
/-! ### outcomes -/
theorem Out.ext {α : Type} {ok : Sto → Prop} {r : R α} {Q : α → PS → Hp → List Addr → Sto → Hp → Prop} (e : Ext F as F' as') (h : Out K CT ok E F as r Q) : Out K CT ok E F' as' r Q := by
  cases r with
  | ok a s => exact fun F2 as2 σ2 H2 o e2 n => h F2 as2 σ2 H2 o (e.trans e2) n
  | err x s => exact fun c dx F2 as2 σ2 H2 o e2 n q => h c dx F2 as2 σ2 H2 o (e.trans e2) n q
  | stuck => exact h
theorem Out.imp {α : Type} {ok ok' : Sto → Prop} {r : R α} {Q Q' : α → PS → Hp → List Addr → Sto → Hp → Prop} (h : Out K CT ok E F as r Q) (ho : ∀ σ, ok' σ → ok σ)
    (hq : ∀ a s F' as' σ' H', r = .ok a s → ok' σ' → Ext F as F' as' → Env K CT F' as' H' σ' s → Q a s F' as' σ' H' → Q' a s F' as' σ' H') : Out K CT ok' E F as r Q' := by
  cases r with
  | ok a s => exact fun F2 as2 σ2 H2 o e2 n => hq a s F2 as2 σ2 H2 rfl o e2 n (h F2 as2 σ2 H2 (ho _ o) e2 n)
  | err x s => exact fun c dx F2 as2 σ2 H2 o e2 n q => h c dx F2 as2 σ2 H2 (ho _ o) e2 n q
  | stuck => exact h
/-- a part's outcome ahead of the rest -/
theorem Out.bind {α β : Type} {ok ok' : Sto → Prop} {r : R α} {f : α → PS → R β} {Q : β → PS → Hp → List Addr → Sto → Hp → Prop} (h : Out K CT ok' E F as (r.bind f) Q) (ho : ∀ σ, ok σ → ok' σ) :
    Out K CT ok E F as r fun a s F' as' _ _ => Out K CT ok' E F' as' (f a s) Q := by
  cases r with
  | ok a s => exact fun F2 as2 σ2 H2 o e2 n => Out.ext e2 h
  | err x s => exact fun c dx F2 as2 σ2 H2 o e2 n q => h c dx F2 as2 σ2 H2 (ho _ o) e2 n q
  | stuck => exact h
/-- at a value -/
theorem Out.here {α : Type} {ok : Sto → Prop} {a : α} {Q : α → PS → Hp → List Addr → Sto → Hp → Prop} (h : Out K CT ok E F as (.ok a s) Q) (o : ok σ) (n : Env K CT F as H σ s) : Q a s F as σ H := h F as σ H o .refl n
theorem Out.there {α : Type} {ok : Sto → Prop} {a : α} {Q : α → PS → Hp → List Addr → Sto → Hp → Prop} (h : Out K CT ok E F as (.ok a s) Q) (o : ok σ) (e : Ext F as F' as') (n : Env K CT F' as' H σ s) : Q a s F' as' σ H := h F' as' σ H o e n
/-! ### states -/
theorem Env.live (n : Env K CT F as H σ s) {a : Addr} (h : a ∈ as) : H a ≠ none := n.wk.live a h
theorem Env.free (n : Env K CT F as H σ s) {p : Addr} (h : H p = none) : F p = none ∧ p ∉ as := by
  refine ⟨?_, fun m => n.live m h⟩
  cases e : F p with
  | none => rfl
  | some o =>
    have := n.sub p o e
    rw [h] at this
    cases this
theorem CellOk.mono {a : Addr} {c : Cell} (e : Ext F as F' as') (h : CellOk K CT F as H a c) (hf : F' a = none) (hh : H' a = H a) : CellOk K CT F' as' H' a c := by
  cases c with
  | lst xs =>
    obtain ⟨_, vs, h1, h2⟩ := h
    exact ⟨hf, vs, hh.trans h1, Reps.mono K CT e.1 _ _ h2⟩
  | dic kvs =>
    obtain ⟨_, vs, h1, h2⟩ := h
    exact ⟨hf, vs, hh.trans h1, RepK.mono K CT e.1 _ _ h2⟩
  | dit kvs =>
    obtain ⟨_, vs, h1, h2⟩ := h
    exact ⟨hf, vs, hh.trans h1, RepT.mono K CT e.1 _ _ h2⟩
  | ins c fs =>
    obtain ⟨_, dx, vs, h1, h2⟩ := h
    exact ⟨hf, dx, vs, hh.trans h1, h2.mono e⟩
  | gone => trivial
  | lsv xs =>
    obtain ⟨_, vs, h1, h2⟩ := h
    exact ⟨hf, vs, hh.trans h1, h2.mono e⟩
theorem CellOk.none {a : Addr} {c : Cell} (h : CellOk K CT F as H a c) : c = .gone ∨ F a = none := by
  cases c with
  | lst xs => exact .inr h.1
  | dic kvs => exact .inr h.1
  | dit kvs => exact .inr h.1
  | ins c fs => exact .inr h.1
  | gone => exact .inl rfl
  | lsv xs => exact .inr h.1
/-- a new frozen object at p -/
theorem Env.new (n : Env K CT F as H σ s) {p : Addr} (o : HO) (hp : H p = none) (no : ∀ ps, o ≠ .tbl ps := by intro _ z; cases z) : Ext F as (upd F p o) as ∧ Env K CT (upd F p o) as (upd H p o) σ s := by
  obtain ⟨fp, pa⟩ := n.free hp
  have e : Ext F as (upd F p o) as := Ext.sub (Sub.new fp)
  refine ⟨e, ⟨fun a u h => ?_, ⟨n.wk.len, n.wk.nd, n.wk.tb.new hp no, fun a m => ?_, fun k c a h1 h2 => ?_⟩, n.gl, fun i x h => ?_⟩⟩
  · by_cases ha : a = p
    · subst ha
      rw [upd_same] at h ⊢
      exact h
    · rw [upd_ne ha] at h ⊢
      exact n.sub a u h
  · have ha : a ≠ p := fun z => pa (z ▸ m)
    rw [upd_ne ha]
    exact n.live m
  · have ha : a ≠ p := fun z => pa (z ▸ List.mem_of_getElem? h2)
    have q := n.wk.ok k c a h1 h2
    rcases q.none with z | z
    · subst z; trivial
    · exact q.mono e (by rw [upd_ne ha]; exact z) (upd_ne ha)
  · obtain ⟨v, h1, h2⟩ := n.sl i x h
    exact ⟨v, h1, h2.mono e⟩
/-- a tuple that stands is frozen -/
theorem Env.learn (n : Env K CT F as H σ s) {q : Addr} {vs : List V} (h : H q = some (.tup vs)) : ∃ F', Ext F as F' as ∧ Env K CT F' as H σ s ∧ F' q = some (.tup vs) := by
  cases e : F q with
  | some u =>
    have z := n.sub q u e
    rw [h] at z
    cases z
    exact ⟨F, .refl, n, e⟩
  | none =>
    have x : Ext F as (upd F q (.tup vs)) as := Ext.sub (Sub.new e)
    refine ⟨_, x, ⟨fun a u h' => ?_, ⟨n.wk.len, n.wk.nd, n.wk.tb.frz noTab_tup.1, n.wk.live, fun k c a h1 h2 => ?_⟩, n.gl, fun i y hy => ?_⟩, upd_same⟩
    · by_cases ha : a = q
      · subst ha
        rw [upd_same] at h'
        rw [h]
        exact h'
      · rw [upd_ne ha] at h'
        exact n.sub a u h'
    · have z := n.wk.ok k c a h1 h2
      cases c with
      | gone => trivial
      | lst xs =>
        refine z.mono x ?_ rfl
        rw [upd_ne (fun e2 => by subst e2; obtain ⟨_, vs', h3, _⟩ := z; rw [h] at h3; cases h3)]
        exact z.1
      | dic xs =>
        refine z.mono x ?_ rfl
        rw [upd_ne (fun e2 => by subst e2; obtain ⟨_, vs', h3, _⟩ := z; rw [h] at h3; cases h3)]
        exact z.1
      | dit xs =>
        refine z.mono x ?_ rfl
        rw [upd_ne (fun e2 => by subst e2; obtain ⟨_, vs', h3, _⟩ := z; rw [h] at h3; cases h3)]
        exact z.1
      | ins c fs =>
        refine z.mono x ?_ rfl
        rw [upd_ne (fun e2 => by subst e2; obtain ⟨_, dx, vs', h3, _⟩ := z; rw [h] at h3; cases h3)]
        exact z.1
      | lsv xs =>
        refine z.mono x ?_ rfl
        rw [upd_ne (fun e2 => by subst e2; obtain ⟨_, vs', h3, _⟩ := z; rw [h] at h3; cases h3)]
        exact z.1
    · obtain ⟨v, h1, h2⟩ := n.sl i y hy
      exact ⟨v, h1, h2.mono x⟩
theorem reps_keyi : ∀ k : List Key, (k.map keyD).all intD = true → Reps K CT F (k.map kV) (k.map keyD)
  | [], _ => .nil
  | .inl i :: k, h => by
    rw [List.map_cons, List.all_cons, Bool.and_eq_true] at h
    exact .cons (.int i) (reps_keyi k h.2)
  | .inr x :: k, h => by
    rw [List.map_cons, List.all_cons, Bool.and_eq_true] at h
    have hx : (decide (x.length ≤ sizeLine) && PyData.strOk x) = true := h.1
    rw [Bool.and_eq_true, decide_eq_true_iff] at hx
    exact .cons (.str x hx.1 hx.2) (reps_keyi k h.2)
theorem RepT.len : ∀ {vs : List (List Key × V)} {ds : List (List D × D)}, RepT K CT F vs ds → vs.length = ds.length
  | _, [], r => by cases r; rfl
  | _, _ :: ds, r => by
    cases r with
    | cons r1 r2 => rw [List.length_cons, List.length_cons, RepT.len r2]
theorem RepT.get : ∀ {ds : List (List D × D)} {vs : List (List Key × V)} {i : Nat} {p : List D × D}, RepT K CT F vs ds → ds[i]? = some p → ∃ k w, vs[i]? = some (k, w) ∧ p.1 = k.map keyD ∧ Rep K CT F w p.2
  | [], _, _, _, _, e => by simp at e
  | _ :: _, _, 0, p, h, e => by
    cases h with
    | cons h1 h2 =>
      simp at e
      subst e
      exact ⟨_, _, rfl, rfl, h1⟩
  | _ :: ds, _, i + 1, p, h, e => by
    cases h with
    | cons h1 h2 =>
      obtain ⟨k, w, e1, r⟩ := RepT.get (i := i) h2 (by simpa using e)
      exact ⟨k, w, by simpa using e1, r⟩
/-- a new cell at p -/
theorem Env.newC (n : Env K CT F as H σ s) {p : Addr} {vs : List V} {xs : List D} (hp : H p = none) (r : Reps K CT F vs xs) :
    Ext F as F (as ++ [p]) ∧ Env K CT F (as ++ [p]) (upd H p (.lst vs)) σ { s with w := s.w ++ [.lst xs] } := by
  obtain ⟨fp, pa⟩ := n.free hp
  have e : Ext F as F (as ++ [p]) := ⟨Sub.refl F, [p], rfl⟩
  refine ⟨e, ⟨fun a u h => ?_, ⟨by simp [n.wk.len], List.nodup_append.mpr ⟨n.wk.nd, by simp, fun a m b mb => ?_⟩, n.wk.tb.newC hp noTab_lst.1, fun a m => ?_, fun k c a h1 h2 => ?_⟩, n.gl, fun i x h => ?_⟩⟩
  · have ha : a ≠ p := fun z => by rw [z, fp] at h; cases h
    rw [upd_ne ha]
    exact n.sub a u h
  · rw [List.mem_singleton] at mb
    subst mb
    exact fun z => pa (z ▸ m)
  · by_cases ha : a = p
    · rw [ha, upd_same]; simp
    · rw [upd_ne ha]
      rcases List.mem_append.mp m with m | m
      · exact n.live m
      · exact absurd (List.mem_singleton.mp m) ha
  · have h1 : (s.w ++ [Cell.lst xs])[k]? = some c := h1
    by_cases hk : k < as.length
    · rw [List.getElem?_append_left hk] at h2
      rw [List.getElem?_append_left (by rw [n.wk.len]; exact hk)] at h1
      have ha : a ≠ p := fun z => pa (z ▸ List.mem_of_getElem? h2)
      have q := n.wk.ok k c a h1 h2
      rcases q.none with z | z
      · subst z; trivial
      · exact q.mono e z (upd_ne ha)
    · rw [List.getElem?_append_right (by omega)] at h2
      rw [List.getElem?_append_right (by rw [n.wk.len]; omega)] at h1
      rw [n.wk.len] at h1
      cases j : k - as.length with
      | zero =>
        rw [j] at h1 h2
        simp at h1 h2
        subst h1 h2
        exact ⟨fp, vs, upd_same, r⟩
      | succ m => rw [j] at h2; simp at h2
  · obtain ⟨v, h1, h2⟩ := n.sl i x h
    exact ⟨v, h1, h2.mono e⟩
theorem nodup_at {as : List Addr} (nd : as.Nodup) {j k : Nat} {a : Addr} (h1 : as[j]? = some a) (h2 : as[k]? = some a) : j = k := by
  obtain ⟨l1, e1⟩ := List.getElem?_eq_some_iff.mp h1
  obtain ⟨l2, e2⟩ := List.getElem?_eq_some_iff.mp h2
  exact (List.getElem_inj nd).mp (e1.trans e2.symm)
/-- the list of the cell k -/
theorem Env.cell (n : Env K CT F as H σ s) {k : Nat} {xs : List D} (h : s.w[k]? = some (.lst xs)) : ∃ a vs, as[k]? = some a ∧ F a = none ∧ H a = some (.lst vs) ∧ Reps K CT F vs xs := by
  have hk : k < as.length := by
    rw [← n.wk.len]
    exact (List.getElem?_eq_some_iff.mp h).1
  obtain ⟨h1, vs, h2, h3⟩ := n.wk.ok k _ _ h (List.getElem?_eq_getElem hk)
  exact ⟨_, vs, List.getElem?_eq_getElem hk, h1, h2, h3⟩
/-- the cell k is changed -/
theorem Env.setC (n : Env K CT F as H σ s) {k : Nat} {a : Addr} {xs : List D} {ws : List V} {ys : List D} (h : s.w[k]? = some (.lst xs)) (ha : as[k]? = some a) (hf : F a = none) (r : Reps K CT F ws ys) :
    Env K CT F as (upd H a (.lst ws)) σ { s with w := s.w.set k (.lst ys) } := by
  obtain ⟨a', vs', ha', _, hh', _⟩ := n.cell h
  rw [ha] at ha'
  cases ha'
  refine ⟨fun b u hb => ?_, ⟨by simp [n.wk.len], n.wk.nd, n.wk.tb.set hh' noTab_lst noTab_lst.1, fun b m => ?_, fun j c b h1 h2 => ?_⟩, n.gl, n.sl⟩
  · have hab : b ≠ a := fun z => by rw [z, hf] at hb; cases hb
    rw [upd_ne hab]
    exact n.sub b u hb
  · by_cases hb : b = a
    · rw [hb, upd_same]; simp
    · rw [upd_ne hb]
      exact n.live m
  · have h1 : (s.w.set k (Cell.lst ys))[j]? = some c := h1
    by_cases hj : j = k
    · subst hj
      rw [List.getElem?_set_self (by rw [n.wk.len]; exact (List.getElem?_eq_some_iff.mp h2).1)] at h1
      cases h1
      rw [ha] at h2
      cases h2
      exact ⟨hf, ws, upd_same, r⟩
    · rw [List.getElem?_set_ne (Ne.symm hj)] at h1
      have hb : b ≠ a := fun z => hj (nodup_at n.wk.nd (z ▸ h2) ha)
      have q := n.wk.ok j c b h1 h2
      rcases q.none with z | z
      · subst z; trivial
      · exact q.mono .refl z (upd_ne hb)
theorem subG_get {g : List (Option SV)} {k i : Nat} {y : D} {x : SV} (h : (g.map (subG k y))[i]? = some (some x)) : (g[i]? = some (some (.cell k)) ∧ x = .d y) ∨ (g[i]? = some (some x)) := by
  rw [List.getElem?_map] at h
  cases e : g[i]? with
  | none => rw [e] at h; cases h
  | some o =>
    rw [e] at h
    simp only [Option.map_some, Option.some.injEq] at h
    cases o with
    | none => cases h
    | some z =>
      cases z with
      | d w =>
        have h : some (SV.d w) = some x := h
        cases h
        exact .inr rfl
      | cell j =>
        have h : (if j = k then some (SV.d y) else some (SV.cell j)) = some x := h
        by_cases hj : j = k
        · rw [if_pos hj] at h
          cases h
          exact .inl ⟨by rw [hj], rfl⟩
        · rw [if_neg hj] at h
          cases h
          exact .inr rfl
/-- the cell k is frozen -/
theorem Env.freeze (n : Env K CT F as H σ s) {k : Nat} {xs : List D} (h : s.w[k]? = some (.lst xs)) :
    ∃ a F', as[k]? = some a ∧ Ext F as F' as ∧ Rep K CT F' (.ref a) (.lst xs) ∧ Env K CT F' as H σ { g := s.g.map (subG k (.lst xs)), w := s.w.set k .gone } := by
  obtain ⟨a, vs, ha, hf, hh, r⟩ := n.cell h
  have e : Ext F as (upd F a (.lst vs)) as := Ext.sub (Sub.new hf)
  have q : Rep K CT (upd F a (.lst vs)) (.ref a) (.lst xs) := .lst upd_same (Reps.mono K CT e.1 _ _ r)
  refine ⟨a, _, ha, e, q, ⟨fun b u hb => ?_, ⟨by simp [n.wk.len], n.wk.nd, n.wk.tb.frz noTab_lst.1, n.wk.live, fun j c b h1 h2 => ?_⟩, by simp [n.gl], fun i x hx => ?_⟩⟩
  · by_cases hba : b = a
    · subst hba
      rw [upd_same] at hb
      rw [hh]
      exact hb
    · rw [upd_ne hba] at hb
      exact n.sub b u hb
  · have h1 : (s.w.set k Cell.gone)[j]? = some c := h1
    by_cases hj : j = k
    · subst hj
      rw [List.getElem?_set_self (by rw [n.wk.len]; exact (List.getElem?_eq_some_iff.mp h2).1)] at h1
      cases h1
      trivial
    · rw [List.getElem?_set_ne (Ne.symm hj)] at h1
      have hb : b ≠ a := fun z => hj (nodup_at n.wk.nd (z ▸ h2) ha)
      have q := n.wk.ok j c b h1 h2
      rcases q.none with z | z
      · subst z; trivial
      · exact q.mono e (by rw [upd_ne hb]; exact z) rfl
  · rcases subG_get hx with ⟨h1, rfl⟩ | h1
    · obtain ⟨v, h2, b, h3, h4⟩ := n.sl i _ h1
      rw [ha] at h3
      cases h3
      subst h4
      exact ⟨_, h2, q⟩
    · obtain ⟨v, h2, h3⟩ := n.sl i _ h1
      exact ⟨v, h2, h3.mono e⟩
/-- the list of the cell k -/
theorem Env.cellT (n : Env K CT F as H σ s) {k : Nat} {xs : List (List D × D)} (h : s.w[k]? = some (.dit xs)) : ∃ a vs, as[k]? = some a ∧ F a = none ∧ H a = some (.dT vs) ∧ RepT K CT F vs xs := by
  have hk : k < as.length := by
    rw [← n.wk.len]
    exact (List.getElem?_eq_some_iff.mp h).1
  obtain ⟨h1, vs, h2, h3⟩ := n.wk.ok k _ _ h (List.getElem?_eq_getElem hk)
  exact ⟨_, vs, List.getElem?_eq_getElem hk, h1, h2, h3⟩
/-- the cell k is frozen -/
theorem Env.freezeT (n : Env K CT F as H σ s) {k : Nat} {xs : List (List D × D)} (h : s.w[k]? = some (.dit xs)) :
    ∃ a F', as[k]? = some a ∧ Ext F as F' as ∧ Rep K CT F' (.ref a) (.dit xs) ∧ Env K CT F' as H σ { g := s.g.map (subG k (.dit xs)), w := s.w.set k .gone } := by
  obtain ⟨a, vs, ha, hf, hh, r⟩ := n.cellT h
  have e : Ext F as (upd F a (.dT vs)) as := Ext.sub (Sub.new hf)
  have q : Rep K CT (upd F a (.dT vs)) (.ref a) (.dit xs) := .dT upd_same (RepT.mono K CT e.1 _ _ r)
  refine ⟨a, _, ha, e, q, ⟨fun b u hb => ?_, ⟨by simp [n.wk.len], n.wk.nd, n.wk.tb.frz noTab_dT.1, n.wk.live, fun j c b h1 h2 => ?_⟩, by simp [n.gl], fun i x hx => ?_⟩⟩
  · by_cases hba : b = a
    · subst hba
      rw [upd_same] at hb
      rw [hh]
      exact hb
    · rw [upd_ne hba] at hb
      exact n.sub b u hb
  · have h1 : (s.w.set k Cell.gone)[j]? = some c := h1
    by_cases hj : j = k
    · subst hj
      rw [List.getElem?_set_self (by rw [n.wk.len]; exact (List.getElem?_eq_some_iff.mp h2).1)] at h1
      cases h1
      trivial
    · rw [List.getElem?_set_ne (Ne.symm hj)] at h1
      have hb : b ≠ a := fun z => hj (nodup_at n.wk.nd (z ▸ h2) ha)
      have q := n.wk.ok j c b h1 h2
      rcases q.none with z | z
      · subst z; trivial
      · exact q.mono e (by rw [upd_ne hb]; exact z) rfl
  · rcases subG_get hx with ⟨h1, rfl⟩ | h1
    · obtain ⟨v, h2, b, h3, h4⟩ := n.sl i _ h1
      rw [ha] at h3
      cases h3
      subst h4
      exact ⟨_, h2, q⟩
    · obtain ⟨v, h2, h3⟩ := n.sl i _ h1
      exact ⟨v, h2, h3.mono e⟩
/-- what stands as data behind frz -/
theorem Env.frz (n : Env K CT F as H σ s) (r : RepS K CT F as v x) {y : D} {s' : PS} (h : frz s x = some (y, s')) : ∃ F', Ext F as F' as ∧ Rep K CT F' v y ∧ Env K CT F' as H σ s' := by
  cases x with
  | d z =>
    simp only [Bf.frz, Option.some.injEq, Prod.mk.injEq] at h
    obtain ⟨rfl, rfl⟩ := h
    exact ⟨F, .refl, r, n⟩
  | cell k =>
    obtain ⟨a, ha, rfl⟩ := r
    unfold Bf.frz at h
    cases e : s.w[k]? with
    | none => simp only [e] at h; cases h
    | some c =>
      cases c with
      | lst xs =>
        simp only [e, Option.some.injEq, Prod.mk.injEq] at h
        obtain ⟨rfl, rfl⟩ := h
        obtain ⟨b, F', h1, h2, h3, h4⟩ := n.freeze e
        rw [ha] at h1
        cases h1
        exact ⟨F', h2, h3, h4⟩
      | dic kvs => simp only [e] at h; cases h
      | dit xs =>
        simp only [e, Option.some.injEq, Prod.mk.injEq] at h
        obtain ⟨rfl, rfl⟩ := h
        obtain ⟨b, F', h1, h2, h3, h4⟩ := n.freezeT e
        rw [ha] at h1
        cases h1
        exact ⟨F', h2, h3, h4⟩
      | ins c fs => simp only [e] at h; cases h
      | gone => simp only [e] at h; cases h
      | lsv xs => simp only [e] at h; cases h
theorem Env.frzs : ∀ {xs : List SV} {vs : List V} {F : Hp} {s : PS}, Env K CT F as H σ s → RepSs K CT F as vs xs → ∀ {ys : List D} {s' : PS}, frzs s xs = some (ys, s') → ∃ F', Ext F as F' as ∧ Reps K CT F' vs ys ∧ Env K CT F' as H σ s'
  | [], _, F, s, n, r, ys, s', h => by
    cases r
    simp only [Bf.frzs, Option.some.injEq, Prod.mk.injEq] at h
    obtain ⟨rfl, rfl⟩ := h
    exact ⟨F, .refl, .nil, n⟩
  | x :: xs, _, F, s, n, r, ys, s', h => by
    cases r with
    | cons r1 r2 =>
      unfold Bf.frzs at h
      cases e : Bf.frz s x with
      | none => simp only [e] at h; cases h
      | some p =>
        obtain ⟨y, s1⟩ := p
        simp only [e] at h
        obtain ⟨F1, e1, q1, n1⟩ := n.frz r1 e
        cases e2 : Bf.frzs s1 xs with
        | none => simp only [e2] at h; cases h
        | some p =>
          obtain ⟨zs, s2⟩ := p
          simp only [e2, Option.some.injEq, Prod.mk.injEq] at h
          obtain ⟨rfl, rfl⟩ := h
          obtain ⟨F2, e3, q2, n2⟩ := Env.frzs n1 (r2.mono e1) e2
          exact ⟨F2, e1.trans e3, .cons (Rep.mono K CT e3.1 _ _ q1) q2, n2⟩
theorem frzs_length : ∀ {xs : List SV} {s : PS} {ys : List D} {s' : PS}, frzs s xs = some (ys, s') → ys.length = xs.length
  | [], s, ys, s', h => by
    simp only [frzs, Option.some.injEq, Prod.mk.injEq] at h
    obtain ⟨rfl, rfl⟩ := h
    rfl
  | x :: xs, s, ys, s', h => by
    unfold frzs at h
    cases e : frz s x with
    | none => simp only [e] at h; cases h
    | some p =>
      obtain ⟨y, s1⟩ := p
      simp only [e] at h
      cases e2 : frzs s1 xs with
      | none => simp only [e2] at h; cases h
      | some p =>
        obtain ⟨zs, s2⟩ := p
        simp only [e2, Option.some.injEq, Prod.mk.injEq] at h
        obtain ⟨rfl, rfl⟩ := h
        simp [frzs_length e2]
/-! ### what may be read -/
/-- v is the data d: frozen, or a cell's list of frozen things -/
inductive Rdb (K : PySem.W.Frag) (CT : Ctx) (F H : Hp) : V → D → Prop
  | rep {v : V} {d : D} (h : Rep K CT F v d) : Rdb K CT F H v d
  | lst {a : Addr} {vs : List V} {ds : List D} (h1 : H a = some (.lst vs)) (h2 : Reps K CT F vs ds) : Rdb K CT F H (.ref a) (.lst ds)
  | dic {a : Addr} {vs : List (Key × V)} {ds : List (D × D)} (h1 : H a = some (.dK vs)) (h2 : RepK K CT F vs ds) : Rdb K CT F H (.ref a) (.dic ds)
  | dit {a : Addr} {vs : List (List Key × V)} {ds : List (List D × D)} (h1 : H a = some (.dT vs)) (h2 : RepT K CT F vs ds) : Rdb K CT F H (.ref a) (.dit ds)
theorem Env.rd (n : Env K CT F as H σ s) (r : RepS K CT F as v x) {y : D} (h : rd s x = some y) : Rdb K CT F H v y := by
  cases x with
  | d z =>
    simp only [Bf.rd, Option.some.injEq] at h
    subst h
    exact .rep r
  | cell k =>
    obtain ⟨a, ha, rfl⟩ := r
    unfold Bf.rd at h
    cases e : s.w[k]? with
    | none => simp only [e] at h; cases h
    | some c =>
      have q := n.wk.ok k c a e ha
      cases c with
      | lst xs =>
        simp only [e, Option.some.injEq] at h
        subst h
        obtain ⟨_, vs, h1, h2⟩ := q
        exact .lst h1 h2
      | dic kvs =>
        simp only [e, Option.some.injEq] at h
        subst h
        obtain ⟨_, vs, h1, h2⟩ := q
        exact .dic h1 h2
      | dit kvs =>
        simp only [e, Option.some.injEq] at h
        subst h
        obtain ⟨_, vs, h1, h2⟩ := q
        exact .dit h1 h2
      | ins c fs => simp only [e] at h; cases h
      | gone => simp only [e] at h; cases h
      | lsv xs => simp only [e] at h; cases h
theorem Rdb.lst' (S : Sub F H) {ds : List D} (h : Rdb K CT F H v (.lst ds)) : ∃ a vs, v = .ref a ∧ H a = some (.lst vs) ∧ Reps K CT F vs ds := by
  cases h with
  | rep h =>
    cases h with
    | lst h1 h2 => exact ⟨_, _, rfl, S _ _ h1, h2⟩
  | lst h1 h2 => exact ⟨_, _, rfl, h1, h2⟩
theorem Rdb.scr' (S : Sub F H) {ns : List Int} (h : Rdb K CT F H v (.scr ns)) : ∃ a, v = .ref a ∧ SqL K H a (ns.map V.int) := by
  cases h with
  | rep h =>
    cases h with
    | scr h1 => exact ⟨_, rfl, S.sqL K h1⟩
theorem Rdb.tup' (S : Sub F H) {ds : List D} (h : Rdb K CT F H v (.tup ds)) : ∃ a vs, v = .ref a ∧ SqT K H a vs ∧ Reps K CT F vs ds := by
  cases h with
  | rep h =>
    cases h with
    | tup h1 h2 => exact ⟨_, _, rfl, SqT.of (S _ _ h1), h2⟩
theorem Rdb.int' {i : Int} (h : Rdb K CT F H v (.int i)) : v = .int i := by
  cases h with
  | rep h => cases h; rfl
theorem Rdb.bl' {b : Bool} (h : Rdb K CT F H v (.bl b)) : v = .bl b := by
  cases h with
  | rep h => cases h; rfl
theorem Rdb.non' (h : Rdb K CT F H v .non) : v = .non := by
  cases h with
  | rep h => cases h; rfl
theorem Rdb.str' {y : Str} (h : Rdb K CT F H v (.str y)) : v = .str y ∧ y.length ≤ sizeLine ∧ PyData.strOk y = true := by
  cases h with
  | rep h =>
    cases h with
    | str _ h1 h2 => exact ⟨rfl, h1, h2⟩
theorem Dp.sub {F H : Hp} (S : Sub F H) : ∀ (d : PyData) (v : V), Dp K F v d → Dp K H v d := by
  intro d v h
  exact Dp.rec (motive_1 := fun v d _ => Dp K H v d) (motive_2 := fun vs ds _ => DpAll K H vs ds) .non (fun b => .bl b) (fun i => .int i) (fun x => .str x)
    (fun h1 _ q => .lst (S.sqL K h1) q) (fun h1 _ q => .tup (S.sqT K h1) q) .nil (fun _ _ q1 q2 => .cons q1 q2) h
theorem DpAll.sub {F H : Hp} (S : Sub F H) : ∀ (ds : List PyData) (vs : List V), DpAll K F vs ds → DpAll K H vs ds := by
  intro d v h
  exact DpAll.rec (motive_1 := fun v d _ => Dp K H v d) (motive_2 := fun vs ds _ => DpAll K H vs ds) .non (fun b => .bl b) (fun i => .int i) (fun x => .str x)
    (fun h1 _ q => .lst (S.sqL K h1) q) (fun h1 _ q => .tup (S.sqT K h1) q) .nil (fun _ _ q1 q2 => .cons q1 q2) h
theorem Rdb.dp (S : Sub F H) {d : D} (p : d.plain = true) (h : Rdb K CT F H v d) : Dp K H v d.py ∧ PyData.canLay0 d.py = true := by
  cases h with
  | rep h =>
    obtain ⟨a, b⟩ := Rep.dp d v p h
    exact ⟨Dp.sub S _ _ a, b⟩
  | lst h1 h2 =>
    obtain ⟨a, b⟩ := Reps.dp _ _ (by rw [D.plain] at p; exact p) h2
    exact ⟨.lst (SqL.of h1) (DpAll.sub S _ _ a), by rw [D.py, PyData.canLay0]; exact b⟩
  | dic => rw [D.plain] at p; cases p
  | dit => rw [D.plain] at p; cases p
end
end Bf
/-! The mirror layer: operations on data, over the layer's rules. -/
namespace Bf
open PySem PySem.Spec PyProof.Rows L2
theorem opr_imp {X : Cx} {f : Value → Value → Sem Value} {r r' : R2} (h : OpR X f r) (hr : ∀ x y H Q, r' x y H Q → r x y H Q) : OpR X f r' := by
  intro pins s σ H x y v u Q I rx ry q
  exact h pins s σ H x y v u Q I rx ry (hr x y H Q q)
theorem callr_imp {X : Cx} {f : Value} {r r' : List V → Hp → VK → Prop} (h : CallR X f r) (hr : ∀ xs H Q, r' xs H Q → r xs H Q) : CallR X f r' := by
  intro pins s σ H xs us Q I rx q
  exact h pins s σ H xs us Q I rx (hr xs H Q q)
section
variable (K : PySem.W.Frag) (CT : Ctx)
/-- what is known behind an operation that makes the data z -/
def Fin (F : Hp) (as : List Addr) (σ : Sto) (S : PS) (z : D) (Q : VK) : Prop := ∀ v F' H', Ext F as F' as → Env K CT F' as H' σ S → Rep K CT F' v z → Q v H'
/-- .. that makes a new list -/
def FinL (F H : Hp) (zs : List D) (Q : VK) : Prop := ∀ p vs, H p = none → Reps K CT F vs zs → Q (.ref p) (upd H p (.lst vs))
def rD (g : D → D → Option D) : R2 := fun vx vy H Q => ∃ F as σ S x y z, Env K CT F as H σ S ∧ Rdb K CT F H vx x ∧ Rdb K CT F H vy y ∧ g x y = some z ∧ Fin K CT F as σ S z Q
def rU' (g : D → Option D) : V → Hp → VK → Prop := fun vx H Q => ∃ F as σ S x z, Env K CT F as H σ S ∧ Rdb K CT F H vx x ∧ g x = some z ∧ Fin K CT F as σ S z Q
inductive Rdbs (F H : Hp) : List V → List D → Prop
  | nil : Rdbs F H [] []
  | cons {v : V} {d : D} {vs : List V} {ds : List D} (h1 : Rdb K CT F H v d) (h2 : Rdbs F H vs ds) : Rdbs F H (v :: vs) (d :: ds)
def rB (g : List D → Option D) : List V → Hp → VK → Prop := fun vs H Q => ∃ F as σ S ds z, Env K CT F as H σ S ∧ Rdbs K CT F H vs ds ∧ g ds = some z ∧ Fin K CT F as σ S z Q
end
section
variable {K : PySem.W.Frag} {CT : Ctx} {F F' H H' : Hp} {as : List Addr} {σ : Sto} {S : PS} {Q : VK} {x y z : D} {v : V}
theorem Fin.flat (f : Fin K CT F as σ S z Q) (n : Env K CT F as H σ S) (r : Rep K CT F v z) : Q v H := f v F H .refl n r
theorem Fin.list {zs : List D} (f : Fin K CT F as σ S (.lst zs) Q) (n : Env K CT F as H σ S) : FinL K CT F H zs Q := fun p vs hp r => by
  obtain ⟨e, n'⟩ := n.new (.lst vs) hp
  exact f _ _ _ e n' (.lst upd_same (Reps.mono K CT e.1 _ _ r))
theorem Fin.tup {zs : List D} {vs : List V} (f : Fin K CT F as σ S (.tup zs) Q) (n : Env K CT F as H σ S) {p : Addr} (hp : H p = none) (r : Reps K CT F vs zs) : Q (.ref p) (upd H p (.tup vs)) := by
  obtain ⟨e, n'⟩ := n.new (.tup vs) hp
  exact f _ _ _ e n' (.tup upd_same (Reps.mono K CT e.1 _ _ r))
theorem FinL.env {zs : List D} (n : Env K CT F as H σ S) (q : ∀ p, Env K CT F (as ++ [p]) (upd H p (.lst (zs.map fun _ => V.non))) σ S → True) : True := trivial
end
section
variable {X : Cx} {CT : Ctx}
theorem strOk_append {x y : Str} (h1 : PyData.strOk x = true) (h2 : PyData.strOk y = true) : PyData.strOk (x ++ y) = true := by
  unfold PyData.strOk at *
  show (x.cps ++ y.cps).all _ = true
  rw [Array.all_append, h1, h2]
  rfl
theorem opD_add : OpR X (binaryOp .Add) (rD X.K CT addD) := by
  refine opr_imp (L2.OpR.or (L2.OpR.or (L2.OpR.or op_add op_add_ib) op_add_str) (L2.OpR.or op_catA op_cat)) fun vx vy H Q h => ?_
  obtain ⟨F, as, σ, S, x, y, z, n, hx, hy, e, f⟩ := h
  unfold addD at e
  split at e
  · cases e
    obtain rfl := hx.int'
    obtain rfl := hy.int'
    exact .inl (.inl (.inl ⟨_, _, rfl, rfl, f.flat n (.int _)⟩))
  · cases e
    obtain rfl := hx.int'
    obtain rfl := hy.bl'
    exact .inl (.inl (.inr ⟨_, _, rfl, rfl, f.flat n (.int _)⟩))
  · rename_i a b
    split at e
    · rename_i hl
      cases e
      obtain ⟨rfl, _, s1⟩ := hx.str'
      obtain ⟨rfl, _, s2⟩ := hy.str'
      exact .inl (.inr ⟨_, _, rfl, rfl, hl, f.flat n (.str _ (by rw [strLen_append]; exact hl) (strOk_append s1 s2))⟩)
    · cases e
  · rename_i xs ys
    split at e
    · rename_i hl
      cases e
      obtain ⟨a, vs, rfl, q1, r1⟩ := hx.tup' n.sub
      obtain ⟨b, ws, rfl, q2, r2⟩ := hy.tup' n.sub
      refine .inr (.inl ⟨a, b, vs, ws, rfl, rfl, q1, q2, by rw [r1.length, r2.length]; exact hl, fun hv => ?_, fun hv hw => ?_, fun hv hw p hp => ?_⟩)
      · obtain rfl := (r1.nil_iff).mp hv
        cases hy with
        | rep r => exact f.flat n r
      · obtain rfl := (r2.nil_iff).mp hw
        cases hx with
        | rep r => exact f.flat n (by rw [List.append_nil]; exact r)
      · exact f.tup n hp (r1.append r2)
    · cases e
  · rename_i xs ys
    split at e
    · rename_i hl
      cases e
      obtain ⟨a, vs, rfl, q1, r1⟩ := hx.lst' n.sub
      obtain ⟨b, ws, rfl, q2, r2⟩ := hy.lst' n.sub
      exact .inr (.inr ⟨a, b, vs, ws, rfl, rfl, q1, q2, by rw [r1.length, r2.length]; exact hl, fun p hp => f.list n p _ hp (r1.append r2)⟩)
    · cases e
  · cases e
theorem opD_sub : OpR X (binaryOp .Sub) (rD X.K CT subD) := opr_imp op_sub fun vx vy H Q h => by
  obtain ⟨F, as, σ, S, x, y, z, n, hx, hy, e, f⟩ := h
  unfold subD at e
  split at e
  · cases e
    obtain rfl := hx.int'
    obtain rfl := hy.int'
    exact ⟨_, _, rfl, rfl, f.flat n (.int _)⟩
  · cases e
theorem mulOk_ok {i j : Int} (h : mulOk i j = true) : IntMulOk i j := by
  unfold mulOk at h
  rw [Bool.or_eq_true, Bool.or_eq_true] at h
  rcases h with (h | h) | h
  · exact .of_left (intBits_le_64 (by have := of_decide_eq_true h; omega) (by have := of_decide_eq_true h; omega))
  · exact .of_right (intBits_le_64 (by have := of_decide_eq_true h; omega) (by have := of_decide_eq_true h; omega))
  · exact (show CMulW i j from (of_decide_eq_true h : i.natAbs.log2 + j.natAbs.log2 < 1000000)).ok
theorem op_mulA : OpR X (binaryOp .Mult) (rI (fun i j => mulOk i j = true) fun i j => .int (i * j)) := opI fun _ _ _ _ _ _ _ hc q => mul_int q (mulOk_ok hc)
theorem opD_mul : OpR X (binaryOp .Mult) (rD X.K CT mulD) := opr_imp (L2.OpR.or op_mulA op_rep) fun vx vy H Q h => by
  obtain ⟨F, as, σ, S, x, y, z, n, hx, hy, e, f⟩ := h
  unfold mulD at e
  split at e
  · split at e
    · rename_i hm
      cases e
      obtain rfl := hx.int'
      obtain rfl := hy.int'
      exact .inl ⟨_, _, rfl, rfl, hm, f.flat n (.int _)⟩
    · cases e
  · split at e
    · rename_i hm
      cases e
      obtain rfl := hy.int'
      obtain ⟨a, vs, rfl, q1, r1⟩ := hx.lst' n.sub
      exact .inr ⟨a, _, vs, rfl, rfl, q1, hm.1, hm.2.1, by rw [r1.length]; exact hm.2.2, fun p hp => f.list n p _ hp (r1.rep _)⟩
    · cases e
  · cases e
theorem opD_mod : OpR X (binaryOp .Mod) (rD X.K CT modD) := opr_imp op_mod fun vx vy H Q h => by
  obtain ⟨F, as, σ, S, x, y, z, n, hx, hy, e, f⟩ := h
  unfold modD at e
  split at e
  · split at e
    · rename_i hm
      cases e
      obtain rfl := hx.int'
      obtain rfl := hy.int'
      exact ⟨_, _, rfl, rfl, hm, f.flat n (.int _)⟩
    · cases e
  · cases e
theorem opD_div : OpR X (binaryOp .FloorDiv) (rD X.K CT divD) := opr_imp op_fdivW fun vx vy H Q h => by
  obtain ⟨F, as, σ, S, x, y, z, n, hx, hy, e, f⟩ := h
  unfold divD at e
  split at e
  · split at e
    · rename_i hm
      cases e
      obtain rfl := hx.int'
      obtain rfl := hy.int'
      exact ⟨_, _, rfl, rfl, hm, f.flat n (.int _)⟩
    · cases e
  · cases e
theorem op_powA : OpR X (binaryOp .Pow) (rI (fun i j => 0 ≤ j ∧ (Builtin.Int.intBits i : Int) * j ≤ 2 ^ 27) fun i j => .int (i ^ j.toNat)) := opI fun _ _ _ _ _ _ _ hc q => pow_int hc.1 hc.2 q
theorem opD_pow : OpR X (binaryOp .Pow) (rD X.K CT powD) := opr_imp op_powA fun vx vy H Q h => by
  obtain ⟨F, as, σ, S, x, y, z, n, hx, hy, e, f⟩ := h
  unfold powD at e
  split at e
  · split at e
    · rename_i hm
      cases e
      obtain rfl := hx.int'
      obtain rfl := hy.int'
      exact ⟨_, _, rfl, rfl, hm, f.flat n (.int _)⟩
    · cases e
  · cases e
/-! ### comparisons -/
theorem op_eqM (hu : X.A.units + 64 < cLine) : OpR X (compareOp .Eq) (fun x y H Q => ∃ d e, Dp X.K H x d ∧ Dp X.K H y e ∧ PyData.canLay0 d = true ∧ PyData.canLay0 e = true ∧ min d.depth e.depth ≤ 64 ∧ Q (.bl (PyData.eqv d e)) H) := by
  intro pins s σ H x y v u Q I rx ry h
  obtain ⟨d, e, hd, he, sd, se, hm, q⟩ := h
  obtain ⟨as, r1⟩ := Dp.reads I d x v hd rx
  obtain ⟨bs, r2⟩ := Dp.reads I e y u he ry
  exact SeqAt.compareEq_reads r1 r2 sd se (by omega) ⟨.bl _, H, I, rfl, q⟩
theorem op_neM (hu : X.A.units + 64 < cLine) : OpR X (compareOp .NotEq) (fun x y H Q => ∃ d e, Dp X.K H x d ∧ Dp X.K H y e ∧ PyData.canLay0 d = true ∧ PyData.canLay0 e = true ∧ min d.depth e.depth ≤ 64 ∧ Q (.bl (!PyData.eqv d e)) H) := by
  intro pins s σ H x y v u Q I rx ry h
  obtain ⟨d, e, hd, he, sd, se, hm, q⟩ := h
  obtain ⟨as, r1⟩ := Dp.reads I d x v hd rx
  obtain ⟨bs, r2⟩ := Dp.reads I e y u he ry
  exact SeqAt.compareNe_reads r1 r2 sd se (by omega) ⟨.bl _, H, I, rfl, q⟩
theorem opD_eq (hu : X.A.units + 64 < cLine) : OpR X (compareOp .Eq) (rD X.K CT eqD) := opr_imp (op_eqM hu) fun vx vy H Q h => by
  obtain ⟨F, as, σ, S, x, y, z, n, hx, hy, e, f⟩ := h
  unfold eqD at e
  split at e
  · rename_i hc
    rw [Bool.and_eq_true, Bool.and_eq_true] at hc
    cases e
    obtain ⟨a1, a2⟩ := hx.dp n.sub hc.1.1
    obtain ⟨b1, b2⟩ := hy.dp n.sub hc.1.2
    exact ⟨_, _, a1, b1, a2, b2, of_decide_eq_true hc.2, f.flat n (.bl _)⟩
  · cases e
theorem opD_ne (hu : X.A.units + 64 < cLine) : OpR X (compareOp .NotEq) (rD X.K CT neD) := opr_imp (op_neM hu) fun vx vy H Q h => by
  obtain ⟨F, as, σ, S, x, y, z, n, hx, hy, e, f⟩ := h
  unfold neD at e
  split at e
  · rename_i hc
    rw [Bool.and_eq_true, Bool.and_eq_true] at hc
    cases e
    obtain ⟨a1, a2⟩ := hx.dp n.sub hc.1.1
    obtain ⟨b1, b2⟩ := hy.dp n.sub hc.1.2
    exact ⟨_, _, a1, b1, a2, b2, of_decide_eq_true hc.2, f.flat n (.bl _)⟩
  · cases e
theorem opD_lt : OpR X (compareOp .Lt) (rD X.K CT ltD) := opr_imp (L2.OpR.or op_lt op_lt_str) fun vx vy H Q h => by
  obtain ⟨F, as, σ, S, x, y, z, n, hx, hy, e, f⟩ := h
  unfold ltD at e
  split at e
  · cases e
    obtain rfl := hx.int'
    obtain rfl := hy.int'
    exact .inl ⟨_, _, rfl, rfl, f.flat n (.bl _)⟩
  · cases e
    obtain ⟨rfl, _⟩ := hx.str'
    obtain ⟨rfl, _⟩ := hy.str'
    exact .inr ⟨_, _, rfl, rfl, f.flat n (.bl _)⟩
  · cases e
theorem opD_gt : OpR X (compareOp .Gt) (rD X.K CT gtD) := opr_imp (L2.OpR.or op_gt op_gt_str) fun vx vy H Q h => by
  obtain ⟨F, as, σ, S, x, y, z, n, hx, hy, e, f⟩ := h
  unfold gtD ltD at e
  split at e
  · cases e
    obtain rfl := hx.int'
    obtain rfl := hy.int'
    exact .inl ⟨_, _, rfl, rfl, f.flat n (.bl _)⟩
  · cases e
    obtain ⟨rfl, _⟩ := hx.str'
    obtain ⟨rfl, _⟩ := hy.str'
    exact .inr ⟨_, _, rfl, rfl, f.flat n (.bl _)⟩
  · cases e
theorem opD_le : OpR X (compareOp .LtE) (rD X.K CT leD) := opr_imp (L2.OpR.or op_le op_le_str) fun vx vy H Q h => by
  obtain ⟨F, as, σ, S, x, y, z, n, hx, hy, e, f⟩ := h
  unfold leD at e
  split at e
  · cases e
    obtain rfl := hx.int'
    obtain rfl := hy.int'
    exact .inl ⟨_, _, rfl, rfl, f.flat n (.bl _)⟩
  · cases e
    obtain ⟨rfl, _⟩ := hx.str'
    obtain ⟨rfl, _⟩ := hy.str'
    exact .inr ⟨_, _, rfl, rfl, f.flat n (.bl _)⟩
  · cases e
/-- in -/
def rInM (K : PySem.W.Frag) (g : Bool → Bool) : R2 := fun x y H Q => ∃ d ds, Dp K H x d ∧ (Dp K H y (.list ds) ∨ Dp K H y (.tuple ds)) ∧ PyData.canLay0 d = true ∧ PyData.canLayAll0 ds = true ∧ min (PyData.depthAll ds) d.depth ≤ 64 ∧ Q (.bl (g (ds.any fun z => PyData.eqv z d))) H
theorem op_inM (hu : X.A.units + 65 < cLine) : OpR X (compareOp .In) (rInM X.K id) := by
  intro pins s σ H x y v u Q I rx ry h
  obtain ⟨d, ds, hd, he, sd, se, hm, q⟩ := h
  obtain ⟨as, r1⟩ := Dp.reads I d x v hd rx
  rcases he with he | he
  · obtain ⟨bs, r2⟩ := Dp.reads I (.list ds) y u he ry
    exact SeqAt.in_list_reads r2 r1 se sd (by omega) ⟨.bl _, H, I, rfl, q⟩
  · obtain ⟨bs, r2⟩ := Dp.reads I (.tuple ds) y u he ry
    exact SeqAt.in_tuple_reads r2 r1 se sd (by omega) ⟨.bl _, H, I, rfl, q⟩
theorem depth_list (ds : List D) : PyData.depthAll (D.pys ds) ≤ (D.lst ds).py.depth := by
  rw [D.py]
  simp only [PyData.depth]
  omega
theorem depth_tup (ds : List D) : PyData.depthAll (D.pys ds) ≤ (D.tup ds).py.depth := by
  rw [D.py]
  simp only [PyData.depth]
  omega
theorem depth_kup (ds : List D) : PyData.depthAll (D.pys ds) ≤ (D.kup ds).py.depth := by
  rw [D.py]
  simp only [PyData.depth]
  omega
theorem any_pys (ds : List D) (x : D) : ((D.pys ds).any fun z => PyData.eqv z x.py) = ds.any fun z => D.eqv z x := by
  rw [D.pys_map, List.any_map]
  rfl
theorem inB_read {K : PySem.W.Frag} {F H : Hp} {vx vy : V} {x y : D} {b : Bool} {as : List Addr} {σ : Sto} {S : PS} (n : Env K CT F as H σ S) (hx : Rdb K CT F H vx x) (hy : Rdb K CT F H vy y) (e : inB x y = some b) :
    (∃ i j, vx = .str i ∧ vy = .str j ∧ b = !(Builtin.Str.occurrences j i 0 j.length 1).isEmpty) ∨
    (∃ d ds, Dp K H vx d ∧ (Dp K H vy (.list ds) ∨ Dp K H vy (.tuple ds)) ∧ PyData.canLay0 d = true ∧ PyData.canLayAll0 ds = true ∧ min (PyData.depthAll ds) d.depth ≤ 64 ∧ b = ds.any fun z => PyData.eqv z d) := by
  unfold inB at e
  split at e
  · cases e
    obtain ⟨rfl, _⟩ := hx.str'
    obtain ⟨rfl, _⟩ := hy.str'
    exact .inl ⟨_, _, rfl, rfl, rfl⟩
  · rename_i ys
    split at e
    · rename_i hc
      rw [Bool.and_eq_true, Bool.and_eq_true] at hc
      cases e
      obtain ⟨a1, a2⟩ := hx.dp n.sub hc.1.1
      obtain ⟨b1, b2⟩ := hy.dp n.sub (by rw [D.plain]; exact hc.1.2)
      have h3 := of_decide_eq_true hc.2
      have h4 := depth_list ys
      rw [D.py] at b1 b2
      rw [PyData.canLay0] at b2
      exact .inr ⟨_, _, a1, .inl b1, a2, b2, by omega, (any_pys _ _).symm⟩
    · cases e
  · rename_i ys
    split at e
    · rename_i hc
      rw [Bool.and_eq_true, Bool.and_eq_true] at hc
      cases e
      obtain ⟨a1, a2⟩ := hx.dp n.sub hc.1.1
      obtain ⟨b1, b2⟩ := hy.dp n.sub (by rw [D.plain]; exact hc.1.2)
      have h3 := of_decide_eq_true hc.2
      have h4 := depth_tup ys
      rw [D.py] at b1 b2
      rw [PyData.canLay0] at b2
      exact .inr ⟨_, _, a1, .inr b1, a2, b2, by omega, (any_pys _ _).symm⟩
    · cases e
  · rename_i ys
    split at e
    · rename_i hc
      rw [Bool.and_eq_true, Bool.and_eq_true] at hc
      cases e
      obtain ⟨a1, a2⟩ := hx.dp n.sub hc.1.1
      obtain ⟨b1, b2⟩ := hy.dp n.sub (by rw [D.plain]; exact hc.1.2)
      have h3 := of_decide_eq_true hc.2
      have h4 := depth_kup ys
      rw [D.py] at b1 b2
      rw [PyData.canLay0] at b2
      exact .inr ⟨_, _, a1, .inr b1, a2, b2, by omega, (any_pys _ _).symm⟩
    · cases e
  · cases e
theorem opD_in (hu : X.A.units + 65 < cLine) : OpR X (compareOp .In) (rD X.K CT inD) := opr_imp (L2.OpR.or op_in_str (op_inM hu)) fun vx vy H Q h => by
  obtain ⟨F, as, σ, S, x, y, z, n, hx, hy, e, f⟩ := h
  unfold inD at e
  cases q : inB x y with
  | none => rw [q] at e; cases e
  | some b =>
    rw [q] at e
    cases e
    have fb : Q (.bl b) H := f.flat n (.bl _)
    rcases inB_read n hx hy q with ⟨i, j, h1, h2, h3⟩ | ⟨d, ds, h1, h2, h3, h4, h5, h6⟩
    · exact .inl ⟨i, j, h1, h2, by rw [← h3]; exact fb⟩
    · exact .inr ⟨d, ds, h1, h2, h3, h4, h5, by rw [← h6]; exact fb⟩
/-! ### subscripts, slices -/
theorem strOk_one {x : Str} {i : Int} {c : Nat} (h : PyData.strOk x = true) (e : atI x.cps.toList i = some c) : PyData.strOk ⟨#[c]⟩ = true := by
  obtain ⟨j, _, hj, _⟩ := atI_get e
  unfold PyData.strOk at *
  rw [Array.all_eq_true] at h
  obtain ⟨hk, e2⟩ := List.getElem?_eq_some_iff.mp hj
  have q := h j (by simpa using hk)
  simp only [Array.getElem_toList] at e2
  rw [e2] at q
  simpa using q
theorem line_one : 1 ≤ sizeLine := by rw [sizeLine_eq]; decide
theorem ixr_imp {r r' : R2} (h : IxR X r) (hr : ∀ x y H Q, r' x y H Q → r x y H Q) : IxR X r' := by
  intro value slice pins s σ H x y v u Q I rx ry q hs
  exact h value slice pins s σ H x y v u Q I rx ry (hr x y H Q q) hs
theorem ixD : IxR X (rD X.K CT idxD) := ixr_imp (ix_seq (X := X)) fun vx vy H Q h => by
  obtain ⟨F, as, σ, S, x, y, z, n, hx, hy, e, f⟩ := h
  unfold idxD at e
  split at e
  · obtain rfl := hy.int'
    obtain ⟨a, rfl, q1⟩ := hx.scr' n.sub
    rename_i ns i
    cases q : atI ns i with
    | none => rw [q] at e; cases e
    | some c =>
      rw [q] at e
      cases e
      refine .inl ⟨a, _, _, .int c, rfl, rfl, q1, ?_, f.flat n (.int c)⟩
      unfold atI at q ⊢
      rw [List.length_map]
      cases q2 : ixN ns.length i with
      | none => rw [q2] at q; cases q
      | some j =>
        rw [q2] at q
        show (ns.map V.int)[j]? = _
        rw [List.getElem?_map]
        have q : ns[j]? = some c := q
        rw [q]
        rfl
  · obtain rfl := hy.int'
    obtain ⟨a, vs, rfl, q1, r1⟩ := hx.lst' n.sub
    obtain ⟨v, e1, r⟩ := r1.at e
    exact .inl ⟨a, vs, _, v, rfl, rfl, SqL.of q1, e1, f.flat n r⟩
  · obtain rfl := hy.int'
    obtain ⟨a, vs, rfl, q1, r1⟩ := hx.tup' n.sub
    obtain ⟨v, e1, r⟩ := r1.at e
    exact .inr (.inl ⟨a, vs, _, v, rfl, rfl, q1, e1, f.flat n r⟩)
  · obtain rfl := hy.int'
    obtain ⟨rfl, hl, so⟩ := hx.str'
    rename_i z' i
    cases q : atI z'.cps.toList i with
    | none => rw [q] at e; cases e
    | some c =>
      rw [q] at e
      cases e
      exact .inr (.inr ⟨_, _, c, rfl, rfl, hl, q, f.flat n (.str _ line_one (strOk_one so q))⟩)
  · cases e
theorem slr_imp {r r' : V → Option Int → Option Int → Hp → VK → Prop} (h : SlR X r) (hr : ∀ x lo hi H Q, r' x lo hi H Q → r x lo hi H Q) : SlR X r' := by
  intro pins s σ H x v vl vu lo hi sl Q I rx hs pl pu q
  exact h pins s σ H x v vl vu lo hi sl Q I rx hs pl pu (hr x lo hi H Q q)
def rS (K : PySem.W.Frag) (CT : Ctx) : V → Option Int → Option Int → Hp → VK → Prop := fun vx lo hi H Q => ∃ F as σ S x z, Env K CT F as H σ S ∧ Rdb K CT F H vx x ∧ slD x lo hi = some z ∧ Fin K CT F as σ S z Q
theorem strOk_cut {z : Str} (h : PyData.strOk z = true) (lo hi : Option Int) : PyData.strOk ⟨(cutD z.cps.toList lo hi).toArray⟩ = true := by
  unfold PyData.strOk at *
  rw [← Array.all_toList, List.all_eq_true] at h ⊢
  intro c hc
  refine h c ?_
  have hc : c ∈ cutD z.cps.toList lo hi := by simpa using hc
  unfold cutD at hc
  exact List.mem_of_mem_drop (List.mem_of_mem_take hc)
theorem cutD_S (z : Str) (lo hi : Option Int) : (⟨(cutD z.cps.toList lo hi).toArray⟩ : Str) = cutS z lo hi := by
  unfold cutD cutS
  have e : z.cps.toList.length = z.length := by simp [Str.length]
  rw [e]
theorem slM : SlR X (rS X.K CT) := slr_imp (SlR.or (sl_list (X := X)) (SlR.or sl_tupA sl_str)) fun vx lo hi H Q h => by
  obtain ⟨F, as, σ, S, x, z, n, hx, e, f⟩ := h
  unfold slD at e
  split at e
  · cases e
    obtain ⟨a, vs, rfl, q1, r1⟩ := hx.lst' n.sub
    exact .inl ⟨a, vs, rfl, SqL.of q1, fun p hp => f.list n p _ hp (r1.cut lo hi)⟩
  · rename_i xs
    cases e
    obtain ⟨a, vs, rfl, q1, r1⟩ := hx.tup' n.sub
    refine .inr (.inl ⟨a, vs, rfl, q1, fun hw => ?_, fun hw p hp => f.tup n hp (r1.cut lo hi)⟩)
    have ec : cutD xs lo hi = xs := by
      unfold cutD
      rw [← r1.length, hw.1, hw.2, List.drop_zero, Nat.sub_zero, r1.length, List.take_length]
    rw [ec] at f
    cases hx with
    | rep r => exact f.flat n r
  · cases e
    obtain ⟨rfl, hl, so⟩ := hx.str'
    rename_i z'
    refine .inr (.inr ⟨_, rfl, hl, ?_⟩)
    have hs := strOk_cut so lo hi
    rw [cutD_S] at f hs
    exact f.flat n (.str _ (Nat.le_trans (cutS_length _ _ _) hl) hs)
  · cases e
end
end Bf
/-! The mirror layer: the judgements' rules: names, operators, tests, displays, statements. -/
namespace Bf
open PySem PySem.Spec PyProof.Rows L2
section
variable {X : Cx} {CT : Ctx} {E : Sto → XK} {F F' : Hp} {as as' : List Addr} {H H' : Hp} {σ : Sto} {s : PS} {ok : Sto → Prop}
theorem up_seq {α : Type} {m : ME} {k : SV → PS → R α} {Q : VK} {Qf : α → PS → Hp → List Addr → Sto → Hp → Prop} (n : Env X.K CT F as H σ s) (h : Out X.K CT ok E F as ((m s).bind k) Qf) (o : ok σ)
    (step : ∀ v x s' F' as' H', Ext F as F' as' → Env X.K CT F' as' H' σ s' → RepS X.K CT F' as' v x → Out X.K CT ok E F' as' (k x s') Qf → Q v H') : up X.K CT E m σ H Q :=
  ⟨F, as, s, n, (h.bind (ok := fun σ' => σ' = σ) fun σ' e => by rw [e]; exact o).imp (fun _ z => z) fun x s' F' as' σ' H' _ e ex n' q v r => by subst e; exact step v x s' F' as' H' ex n' r q⟩
theorem upT_seq {α : Type} {m : MT} {k : Bool → PS → R α} {Q : Bool → Hp → Prop} {Qf : α → PS → Hp → List Addr → Sto → Hp → Prop} (n : Env X.K CT F as H σ s) (h : Out X.K CT ok E F as ((m s).bind k) Qf) (o : ok σ)
    (step : ∀ b s' F' as' H', Ext F as F' as' → Env X.K CT F' as' H' σ s' → Out X.K CT ok E F' as' (k b s') Qf → Q b H') : upT X.K CT E m σ H Q :=
  ⟨F, as, s, n, (h.bind (ok := fun σ' => σ' = σ) fun σ' e => by rw [e]; exact o).imp (fun _ z => z) fun x s' F' as' σ' H' _ e ex n' q => by subst e; exact step x s' F' as' H' ex n' q⟩
theorem upA_seq {α : Type} {m : MA} {k : List SV → PS → R α} {Q : List V → Hp → Prop} {Qf : α → PS → Hp → List Addr → Sto → Hp → Prop} (n : Env X.K CT F as H σ s) (h : Out X.K CT ok E F as ((m s).bind k) Qf) (o : ok σ)
    (step : ∀ vs xs s' F' as' H', Ext F as F' as' → Env X.K CT F' as' H' σ s' → RepSs X.K CT F' as' vs xs → Out X.K CT ok E F' as' (k xs s') Qf → Q vs H') : upA X.K CT E m σ H Q :=
  ⟨F, as, s, n, (h.bind (ok := fun σ' => σ' = σ) fun σ' e => by rw [e]; exact o).imp (fun _ z => z) fun x s' F' as' σ' H' _ e ex n' q v r => by subst e; exact step v x s' F' as' H' ex n' r q⟩
theorem upO_seq {α : Type} {m : MO} {k : Option Int → PS → R α} {Q : Option Int → Hp → Prop} {Qf : α → PS → Hp → List Addr → Sto → Hp → Prop} (n : Env X.K CT F as H σ s) (h : Out X.K CT ok E F as ((m s).bind k) Qf) (o : ok σ)
    (step : ∀ b s' F' as' H', Ext F as F' as' → Env X.K CT F' as' H' σ s' → Out X.K CT ok E F' as' (k b s') Qf → Q b H') : upO X.K CT E m σ H Q :=
  ⟨F, as, s, n, (h.bind (ok := fun σ' => σ' = σ) fun σ' e => by rw [e]; exact o).imp (fun _ z => z) fun x s' F' as' σ' H' _ e ex n' q => by subst e; exact step x s' F' as' H' ex n' q⟩
theorem upI_seq {α : Type} {m : MI} {k : It' → PS → R α} {Q : It → Hp → Prop} {Qf : α → PS → Hp → List Addr → Sto → Hp → Prop} (n : Env X.K CT F as H σ s) (h : Out X.K CT ok E F as ((m s).bind k) Qf) (o : ok σ)
    (step : ∀ J it s' F' as' H', Ext F as F' as' → Env X.K CT F' as' H' σ s' → ItOk X.K CT F' as' J it → Out X.K CT ok E F' as' (k it s') Qf → Q J H') : upI X.K CT E m σ H Q :=
  ⟨F, as, s, n, (h.bind (ok := fun σ' => σ' = σ) fun σ' e => by rw [e]; exact o).imp (fun _ z => z) fun x s' F' as' σ' H' _ e ex n' q v r => by subst e; exact step v x s' F' as' H' ex n' r q⟩
end
theorem PE.imp {X : Cx} {e : Expr} {t t' : TE} (h : PE X e t) (hi : ∀ σ H Q, t' σ H Q → t σ H Q) : PE X e t' := ⟨fun pins s σ H Q I q => h.run pins s σ H Q I (hi σ H Q q)⟩
theorem PT.imp {X : Cx} {e : Expr} {t t' : TT} (h : PT X e t) (hi : ∀ σ H Q, t' σ H Q → t σ H Q) : PT X e t' := ⟨fun pins s σ H Q I q => h.run pins s σ H Q I (hi σ H Q q)⟩
theorem PW.imp {X : Cx} {e : Expr} {t t' : TT} (h : PW X e t) (hi : ∀ σ H Q, t' σ H Q → t σ H Q) : PW X e t' := ⟨fun wh pins s σ H Q I q => h.run wh pins s σ H Q I (hi σ H Q q)⟩
theorem PA.imp {X : Cx} {e : List Expr} {t t' : TA} (h : PA X e t) (hi : ∀ σ H Q, t' σ H Q → t σ H Q) : PA X e t' := ⟨fun pos pins s σ H Q I q => h.run pos pins s σ H Q I (hi σ H Q q)⟩
theorem ps_imp {X : Cx} {e : Stmt} {t t' : TS} (h : L2.PS X e t) (hi : ∀ D σ H, t' D σ H → t D σ H) : L2.PS X e t' := ⟨fun pins s σ H D I q => h.run pins s σ H D I (hi D σ H q)⟩
theorem PSs.imp {X : Cx} {e : List Stmt} {t t' : TS} (h : PSs X e t) (hi : ∀ D σ H, t' D σ H → t D σ H) : PSs X e t' := ⟨fun pins s σ H D I q => h.run pins s σ H D I (hi D σ H q)⟩
theorem PG.imp {X : Cx} {e : Expr} {t t' : TG} (h : PG X e t) (hi : ∀ v σ H Q, t' v σ H Q → t v σ H Q) : PG X e t' := ⟨fun pins s σ H v u Q I r q => h.run pins s σ H v u Q I r (hi v σ H Q q)⟩
theorem PI.imp {X : Cx} {tg e : Expr} {t t' : TI} (h : PI X tg e t) (hi : ∀ σ H Q, t' σ H Q → t σ H Q) : PI X tg e t' := ⟨fun pins s σ H Q I q => h.run pins s σ H Q I (hi σ H Q q)⟩
section
variable {X : Cx} {CT : Ctx} {E : Sto → XK} {a b c : Expr} {ma mb mc : ME} {pos p : Pos}
/-! ### names, constants -/
theorem me_var {i : Nat} {x : Str} (hN : X.N[i]? = some x) (hv : Vis X.env.scope x) (hd : (x == ("__debug__" : Str)) = false := by decide) (hcd : (x == ("__classdict__" : Str)) = false := by decide) : PE X (.Name x p) (up X.K CT E (vVar i)) :=
  PE.imp (pe_var hN hv hd hcd) fun σ H Q ⟨F, as, s, n, h⟩ => by
    unfold vVar at h
    cases e : s.g[i]? with
    | none => simp only [e] at h; exact h.elim
    | some o =>
      cases o with
      | none => simp only [e] at h; exact h.elim
      | some x =>
        simp only [e] at h
        obtain ⟨v, h1, h2⟩ := n.sl i x e
        exact ⟨v, h1, h.here rfl n v h2⟩
theorem me_c {e : Expr} {v : V} {d : D} (h : PE X e (tC v)) (hr : ∀ F, Rep X.K CT F v d) : PE X e (up X.K CT E (vC d)) :=
  PE.imp h fun σ H Q ⟨F, as, s, n, h⟩ => h.here rfl n v (hr F)
theorem me_int {i j pos} : PE X (.Constant (.int i) j pos) (up X.K CT E (vC (.int i))) := me_c pe_int fun _ => .int i
theorem me_bl {i j pos} : PE X (.Constant (.bool i) j pos) (up X.K CT E (vC (.bl i))) := me_c pe_bl fun _ => .bl i
theorem me_non {j pos} : PE X (.Constant .none j pos) (up X.K CT E (vC .non)) := me_c pe_non fun _ => .non
theorem me_str {x j pos} (h1 : x.length ≤ 100000 := by decide +kernel) (h2 : PyData.strOk x = true := by decide +kernel) : PE X (.Constant (.str x) j pos) (up X.K CT E (vC (.str x))) :=
  me_c pe_str fun _ => .str x (Nat.le_trans h1 (by rw [sizeLine_eq]; decide)) h2
/-- a module's constant -/
theorem me_glob {x : Str} {v : V} {d : D} {u : Value} (hm : X.mg x = some u) (r : RelV v u) (hr : ∀ F, Rep X.K CT F v d) (hg : Gl X x) (hd : (x == ("__debug__" : Str)) = false := by decide) : PE X (.Name x p) (up X.K CT E (vC d)) :=
  me_c (pe_glob hg hm r hd) hr
/-! ### operators -/
theorem op_read {g : D → D → Option D} {σ : Sto} {H : Hp} {Q : VK} (h : up X.K CT E (vOp g ma mb) σ H Q) : tOp (rD X.K CT g) (up X.K CT E ma) (up X.K CT E mb) σ H Q := by
  obtain ⟨F, as, s, n, h⟩ := h
  refine up_seq n h rfl fun vx x s1 F1 as1 H1 e1 n1 r1 h1 => ?_
  refine up_seq n1 h1 rfl fun vy y s2 F2 as2 H2 e2 n2 r2 h2 => ?_
  cases q1 : rd s2 x with
  | none => simp only [q1] at h2; exact h2.elim
  | some dx =>
    cases q2 : rd s2 y with
    | none => simp only [q1, q2] at h2; exact h2.elim
    | some dy =>
      simp only [q1, q2] at h2
      cases q3 : g dx dy with
      | none => simp only [q3] at h2; exact h2.elim
      | some z =>
        simp only [q3] at h2
        exact ⟨F2, as2, σ, s2, dx, dy, z, n2, n2.rd (r1.mono e2) q1, n2.rd r2 q2, q3, fun v F' H' ex n' r => h2.there (σ := σ) rfl ex n' v r⟩
theorem me_op {op : Operator} {g : D → D → Option D} (ho : OpR X (binaryOp op) (rD X.K CT g)) (ha : PE X a (up X.K CT E ma)) (hb : PE X b (up X.K CT E mb)) : PE X (.BinOp a op b pos) (up X.K CT E (vOp g ma mb)) :=
  PE.imp (pe_op ho ha hb) fun _ _ _ h => op_read h
theorem me_cmp {op : CmpOp} {g : D → D → Option D} (ho : OpR X (compareOp op) (rD X.K CT g)) (hm : behindInMarks op b = false) (ha : PE X a (up X.K CT E ma)) (hb : PE X b (up X.K CT E mb)) : PE X (.Compare a [op] [b] pos) (up X.K CT E (vOp g ma mb)) :=
  PE.imp (pe_cmpR ho ha hb hm) fun _ _ _ h => op_read h
/-- a value that is a truth value, as a test's reading -/
theorem val_read {t : TE} {m : ME} {σ : Sto} {H : Hp} {Q : Bool → Hp → Prop} (ht : ∀ σ H Q, up X.K CT E m σ H Q → t σ H Q) (h : upT X.K CT E (cVal m) σ H Q) : tTest t σ H Q := by
  obtain ⟨F, as, s, n, h⟩ := h
  refine ht _ _ _ (up_seq n h rfl fun v x s1 F1 as1 H1 e1 n1 r1 h1 => ?_)
  cases x with
  | cell k => exact h1.elim
  | d y =>
    cases y with
    | bl c =>
      have r1 : Rep X.K CT F1 v (.bl c) := r1
      cases r1
      exact ⟨c, rfl, h1.here (σ := σ) rfl n1⟩
    | _ => exact h1.elim
theorem mt_cmp {op : CmpOp} {g : D → D → Option D} (ho : OpR X (compareOp op) (rD X.K CT g)) (hm : behindInMarks op b = false) (ha : PE X a (up X.K CT E ma)) (hb : PE X b (up X.K CT E mb)) : PT X (.Compare a [op] [b] pos) (upT X.K CT E (cVal (vOp g ma mb))) :=
  PT.imp (pt_cmpR ho ha hb hm) fun _ _ _ h => val_read (fun _ _ _ => op_read) h
theorem mt_val {e : Expr} {m : ME} (h : PE X e (up X.K CT E m)) (he : ∀ whole, isTrue e X.env whole = (do let v ← whole; standAt e.pos; holding [v] (truthy v)) := by intro _; rfl) : PT X e (upT X.K CT E (cVal m)) :=
  PT.imp (pt_val h he) fun σ H Q h => val_read (fun _ _ _ z => z) h
theorem un_read {g : D → Option D} {σ : Sto} {H : Hp} {Q : VK} (h : up X.K CT E (vUn g ma) σ H Q) : tUn (rU' X.K CT g) (up X.K CT E ma) σ H Q := by
  obtain ⟨F, as, s, n, h⟩ := h
  refine up_seq n h rfl fun vx x s1 F1 as1 H1 e1 n1 r1 h1 => ?_
  cases q1 : rd s1 x with
  | none => simp only [q1] at h1; exact h1.elim
  | some dx =>
    simp only [q1] at h1
    cases q3 : g dx with
    | none => simp only [q3] at h1; exact h1.elim
    | some z =>
      simp only [q3] at h1
      exact ⟨F1, as1, σ, s1, dx, z, n1, n1.rd r1 q1, q3, fun v F' H' ex n' r => h1.there (σ := σ) rfl ex n' v r⟩
theorem opU_neg : UnR X (unaryOp .USub) (rU' X.K CT negD) := by
  intro pins s σ H x v Q I rx h
  obtain ⟨F, as, σ', S, d, z, n, hx, e, f⟩ := h
  unfold negD at e
  split at e
  · cases e
    obtain rfl := hx.int'
    exact un_neg pins s σ H _ v Q I rx ⟨_, rfl, f.flat n (.int _)⟩
  · cases e
theorem me_un {op : UnaryOp} {g : D → Option D} (ho : UnR X (unaryOp op) (rU' X.K CT g)) (ha : PE X a (up X.K CT E ma)) : PE X (.UnaryOp op a pos) (up X.K CT E (vUn g ma)) :=
  PE.imp (pe_un ho ha) fun _ _ _ h => un_read h
/-- truth -/
theorem tru_of {K : PySem.W.Frag} {F : Hp} {H : Hp} {as : List Addr} {σ : Sto} {s : PS} {v : V} {x : D} {k : Bool} (n : Env K CT F as H σ s) (r : Rdb K CT F H v x) (e : truD x = some k) : TruV K v H k := by
  unfold truD at e
  split at e
  · cases e
    obtain rfl := r.non'
    rfl
  · cases e
    obtain rfl := r.bl'
    rfl
  · cases e
    obtain rfl := r.int'
    rfl
  · rename_i x
    cases e
    obtain ⟨rfl, hl, _⟩ := r.str'
    refine ⟨hl, ?_⟩
    rw [Bool.eq_iff_iff]
    simp
  · cases e
    obtain ⟨a, vs, rfl, q1, r1⟩ := r.tup' n.sub
    refine .inr (.inl ⟨vs, q1, ?_⟩)
    cases r1 <;> rfl
  · cases e
    obtain ⟨a, vs, rfl, q1, r1⟩ := r.lst' n.sub
    refine .inl ⟨vs, SqL.of q1, ?_⟩
    cases r1 <;> rfl
  · cases e
variable {ta tb : MT} {rest : List Expr}
theorem mw_and1 (ha : PT X a (upT X.K CT E ta)) : PW X (.BoolOp .And [a] pos) (upT X.K CT E ta) := pw_and1 ha
theorem mw_or1 (ha : PT X a (upT X.K CT E ta)) : PW X (.BoolOp .Or [a] pos) (upT X.K CT E ta) := pw_or1 ha
theorem upT_at {m : MT} {σ : Sto} {H : Hp} {F : Hp} {as : List Addr} {s : PS} {Q : Bool → Hp → Prop} (n : Env X.K CT F as H σ s) (h : Out X.K CT (fun σ' => σ' = σ) E F as (m s) fun b _ _ _ _ H' => Q b H') : upT X.K CT E m σ H Q := ⟨F, as, s, n, h⟩
theorem up_at {m : ME} {σ : Sto} {H : Hp} {F : Hp} {as : List Addr} {s : PS} {Q : VK} (n : Env X.K CT F as H σ s) (h : Out X.K CT (fun σ' => σ' = σ) E F as (m s) fun x _ F' as' _ H' => ∀ v, RepS X.K CT F' as' v x → Q v H') : up X.K CT E m σ H Q := ⟨F, as, s, n, h⟩
theorem mw_and (ha : PT X a (upT X.K CT E ta)) (hb : PW X (.BoolOp .And (b :: rest) pos) (upT X.K CT E tb)) : PW X (.BoolOp .And (a :: b :: rest) pos) (upT X.K CT E (cAnd ta tb)) :=
  PW.imp (pw_and ha hb) fun σ H Q ⟨F, as, s, n, h⟩ => upT_seq n h rfl fun c s1 F1 as1 H1 e1 n1 h1 => by
    cases c with
    | true => exact upT_at n1 h1
    | false => exact h1.here (σ := σ) rfl n1
theorem mw_or (ha : PT X a (upT X.K CT E ta)) (hb : PW X (.BoolOp .Or (b :: rest) pos) (upT X.K CT E tb)) : PW X (.BoolOp .Or (a :: b :: rest) pos) (upT X.K CT E (cOr ta tb)) :=
  PW.imp (pw_or ha hb) fun σ H Q ⟨F, as, s, n, h⟩ => upT_seq n h rfl fun c s1 F1 as1 H1 e1 n1 h1 => by
    cases c with
    | true => exact h1.here (σ := σ) rfl n1
    | false => exact upT_at n1 h1
theorem mt_not (ha : PT X a (upT X.K CT E ta)) : PT X (.UnaryOp .Not a pos) (upT X.K CT E (cNot ta)) :=
  PT.imp (pt_not ha) fun σ H Q ⟨F, as, s, n, h⟩ => upT_seq n h rfl fun c s1 F1 as1 H1 e1 n1 h1 => h1.here (σ := σ) rfl n1
theorem bl_of {α : Type} {x : SV} {s : PS} {k : Bool → PS → R α} {ok : Sto → Prop} {F : Hp} {as : List Addr} {Q : α → PS → Hp → List Addr → Sto → Hp → Prop} {v : V} (h : Out X.K CT ok E F as ((isB x s).bind k) Q) (r : RepS X.K CT F as v x) :
    ∃ c, v = .bl c ∧ Out X.K CT ok E F as (k c s) Q := by
  cases x with
  | cell k => exact h.elim
  | d y =>
    cases y with
    | bl c =>
      have r : Rep X.K CT F v (.bl c) := r
      cases r
      exact ⟨c, rfl, h⟩
    | _ => exact h.elim
theorem me_one {op} (h : PE X a (up X.K CT E ma)) : PE X (.BoolOp op [a] pos) (up X.K CT E ma) := pe_one h
theorem me_and (ha : PE X a (up X.K CT E ma)) (hb : PE X (.BoolOp .And (b :: rest) pos) (up X.K CT E mb)) : PE X (.BoolOp .And (a :: b :: rest) pos) (up X.K CT E (vAnd ma mb)) :=
  PE.imp (pe_and ha hb) fun σ H Q ⟨F, as, s, n, h⟩ => up_seq n h rfl fun v x s1 F1 as1 H1 e1 n1 r1 h1 => by
    obtain ⟨c, rfl, h2⟩ := bl_of h1 r1
    refine ⟨c, rfl, ?_⟩
    cases c with
    | true => exact up_at n1 h2
    | false => exact h2.here (σ := σ) rfl n1 _ (Rep.bl false)
theorem me_or (ha : PE X a (up X.K CT E ma)) (hb : PE X (.BoolOp .Or (b :: rest) pos) (up X.K CT E mb)) : PE X (.BoolOp .Or (a :: b :: rest) pos) (up X.K CT E (vOr ma mb)) :=
  PE.imp (pe_or ha hb) fun σ H Q ⟨F, as, s, n, h⟩ => up_seq n h rfl fun v x s1 F1 as1 H1 e1 n1 r1 h1 => by
    obtain ⟨c, rfl, h2⟩ := bl_of h1 r1
    refine ⟨c, rfl, ?_⟩
    cases c with
    | true => exact h2.here (σ := σ) rfl n1 _ (Rep.bl true)
    | false => exact up_at n1 h2
theorem me_not (ha : PE X a (up X.K CT E ma)) : PE X (.UnaryOp .Not a pos) (up X.K CT E (vNot ma)) :=
  PE.imp (pe_not ha) fun σ H Q ⟨F, as, s, n, h⟩ => up_seq n h rfl fun v x s1 F1 as1 H1 e1 n1 r1 h1 => by
    obtain ⟨c, rfl, h2⟩ := bl_of h1 r1
    exact ⟨c, rfl, h2.here (σ := σ) rfl n1 _ (Rep.bl (!c))⟩
theorem me_if {t : MT} (hc : PT X c (upT X.K CT E t)) (ha : PE X a (up X.K CT E ma)) (hb : PE X b (up X.K CT E mb)) : PE X (.IfExp c a b pos) (up X.K CT E (vIf t ma mb)) :=
  PE.imp (pe_ifExp hc ha hb) fun σ H Q ⟨F, as, s, n, h⟩ => upT_seq n h rfl fun c s1 F1 as1 H1 e1 n1 h1 => by
    cases c with
    | true => exact up_at n1 h1
    | false => exact up_at n1 h1
/-- a op1 b op2 c -/
theorem chain_read {g g' : D → D → Option D} {σ : Sto} {H : Hp} {Q : VK} (h : up X.K CT E (vChain g g' ma mb mc) σ H Q) : tChain (rD X.K CT g) (rD X.K CT g') (up X.K CT E ma) (up X.K CT E mb) (up X.K CT E mc) σ H Q := by
  obtain ⟨F, as, s, n, h⟩ := h
  refine up_seq n h rfl fun vx x s1 F1 as1 H1 e1 n1 r1 h1 => ?_
  refine up_seq n1 h1 rfl fun vy y s2 F2 as2 H2 e2 n2 r2 h2 => ?_
  cases q1 : rd s2 x with
  | none => simp only [q1] at h2; exact h2.elim
  | some dx =>
    cases q2 : rd s2 y with
    | none => simp only [q1, q2] at h2; exact h2.elim
    | some dy =>
      simp only [q1, q2] at h2
      cases q3 : g dx dy with
      | none => simp only [q3] at h2; exact h2.elim
      | some z =>
        cases z with
        | bl k =>
          simp only [q3] at h2
          refine ⟨F2, as2, σ, s2, dx, dy, _, n2, n2.rd (r1.mono e2) q1, n2.rd r2 q2, q3, fun v F' H' ex n' r => ?_⟩
          cases r
          refine ⟨k, rfl, ?_⟩
          have h2 := Out.ext ex h2
          cases k with
          | false => exact h2.here (σ := σ) rfl n' _ (Rep.bl false)
          | true =>
            refine up_seq n' h2 rfl fun vz z s3 F3 as3 H3 e3 n3 r3 h3 => ?_
            cases q4 : rd s3 y with
            | none => simp only [q4] at h3; exact h3.elim
            | some dy' =>
              cases q5 : rd s3 z with
              | none => simp only [q4, q5] at h3; exact h3.elim
              | some dz =>
                simp only [q4, q5] at h3
                cases q6 : g' dy' dz with
                | none => simp only [q6] at h3; exact h3.elim
                | some w =>
                  simp only [q6] at h3
                  exact ⟨F3, as3, σ, s3, dy', dz, w, n3, n3.rd ((r2.mono ex).mono e3) q4, n3.rd r3 q5, q6, fun v F' H' ex n' r => h3.there (σ := σ) rfl ex n' v r⟩
        | _ => simp only [q3] at h2; exact h2.elim
theorem me_chain {op op' : CmpOp} {g g' : D → D → Option D} (ho : OpR X (compareOp op) (rD X.K CT g)) (ho' : OpR X (compareOp op') (rD X.K CT g')) (ha : PE X a (up X.K CT E ma)) (hb : PE X b (up X.K CT E mb)) (hc : PE X c (up X.K CT E mc))
    (hm : lastMarks [op, op'] [b, c] = false := by with_unfolding_all rfl) : PE X (.Compare a [op, op'] [b, c] pos) (up X.K CT E (vChain g g' ma mb mc)) :=
  PE.imp (pe_chain ho ho' ha hb hc hm) fun _ _ _ h => chain_read h
/-! ### subscripts, slices -/
theorem me_ix (ha : PE X a (up X.K CT E ma)) (hb : PE X b (up X.K CT E mb)) (hs : PlainIx b := by exact fun _ _ => rfl) : PE X (.Subscript a b pos) (up X.K CT E (vOp idxD ma mb)) :=
  PE.imp (pe_ix ixD ha hb hs) fun _ _ _ h => op_read h
variable {lo hi : Option Expr} {ml mh : MO} {p2 : Pos}
theorem mo_none : PO X none (upO X.K CT E oNone) := ⟨fun pins s σ H Q I ⟨F, as, S, n, h⟩ => po_none.run pins s σ H Q I (h.here rfl n)⟩
theorem mo_some {e : Expr} {m : ME} (h : PE X e (up X.K CT E m)) : PO X (some e) (upO X.K CT E (oSome m)) := ⟨fun pins s σ H Q I ⟨F, as, S, n, q⟩ => (po_some h).run pins s σ H Q I (by
  refine up_seq n q rfl fun v x s1 F1 as1 H1 e1 n1 r1 h1 => ?_
  cases x with
  | cell k => exact h1.elim
  | d y =>
    cases y with
    | int i =>
      have r1 : Rep X.K CT F1 v (.int i) := r1
      cases r1
      exact ⟨i, rfl, h1.here (σ := σ) rfl n1⟩
    | _ => exact h1.elim)⟩
theorem me_sl (ha : PE X a (up X.K CT E ma)) (hl : PO X lo (upO X.K CT E ml)) (hh : PO X hi (upO X.K CT E mh)) : PE X (.Subscript a (.Slice lo hi none p2) pos) (up X.K CT E (vSl ma ml mh)) :=
  PE.imp (pe_slice slM ha hl hh) fun σ H Q ⟨F, as, s, n, h⟩ => by
    refine up_seq n h rfl fun vx x s1 F1 as1 H1 e1 n1 r1 h1 => ?_
    refine upO_seq n1 h1 rfl fun l s2 F2 as2 H2 e2 n2 h2 => ?_
    refine upO_seq n2 h2 rfl fun u s3 F3 as3 H3 e3 n3 h3 => ?_
    cases q1 : rd s3 x with
    | none => simp only [q1] at h3; exact h3.elim
    | some dx =>
      simp only [q1] at h3
      cases q3 : slD dx l u with
      | none => simp only [q3] at h3; exact h3.elim
      | some z =>
        simp only [q3] at h3
        exact ⟨F3, as3, σ, s3, dx, z, n3, n3.rd ((r1.mono e2).mono e3) q1, q3, fun v F' H' ex n' r => h3.there (σ := σ) rfl ex n' v r⟩
/-! ### arguments, displays -/
variable {es : List Expr} {m : ME} {mr : MA} {e : Expr}
theorem ma_nil : PA X [] (upA X.K CT E aNil) := ⟨fun pos pins s σ H Q I ⟨F, as, S, n, h⟩ => pa_nil.run pos pins s σ H Q I (h.here rfl n _ .nil)⟩
theorem ma_cons (ha : PE X e (up X.K CT E m)) (hr : PA X es (upA X.K CT E mr)) (hs : starEach (e :: es) X.env = (false, eval e X.env) :: starEach es X.env := by rfl) : PA X (e :: es) (upA X.K CT E (aCons m mr)) :=
  PA.imp (pa_cons ha hr hs) fun σ H Q ⟨F, as, s, n, h⟩ => by
    refine up_seq n h rfl fun v x s1 F1 as1 H1 e1 n1 r1 h1 => ?_
    refine upA_seq n1 h1 rfl fun vs xs s2 F2 as2 H2 e2 n2 r2 h2 => ?_
    exact h2.here (σ := σ) rfl n2 _ (.cons (r1.mono e2) r2)
theorem RepSs.length {K : PySem.W.Frag} {F : Hp} {as : List Addr} {vs : List V} {xs : List SV} (h : RepSs K CT F as vs xs) : vs.length = xs.length := by
  induction h with
  | nil => rfl
  | cons _ _ ih => simp [ih]
theorem me_tup {x1} (h : PA X es (upA X.K CT E mr)) : PE X (.Tuple es x1 pos) (up X.K CT E (vTup mr)) :=
  PE.imp (pe_tup h) fun σ H Q ⟨F, as, s, n, h⟩ => by
    refine upA_seq n h rfl fun vs xs s1 F1 as1 H1 e1 n1 r1 h1 => ?_
    cases q : frzs s1 xs with
    | none => simp only [q] at h1; exact h1.elim
    | some p =>
      obtain ⟨ys, s2⟩ := p
      simp only [q] at h1
      split at h1
      · rename_i hz
        obtain ⟨F2, e2, q2, n2⟩ := n1.frzs r1 q
        refine ⟨by rw [r1.length, ← frzs_length q]; exact hz, fun p hp => ?_⟩
        obtain ⟨e3, n3⟩ := n2.new (.tup vs) hp
        exact h1.there (σ := σ) rfl (e2.trans e3) n3 _ (Rep.tup upd_same (Reps.mono _ _ e3.1 _ _ q2))
      · exact h1.elim
theorem me_lst (h : PA X es (upA X.K CT E mr)) : PE X (.List es pos) (up X.K CT E (vLst mr)) :=
  PE.imp (pe_lst h) fun σ H Q ⟨F, as, s, n, h⟩ => by
    refine upA_seq n h rfl fun vs xs s1 F1 as1 H1 e1 n1 r1 h1 => ?_
    cases q : frzs s1 xs with
    | none => simp only [q] at h1; exact h1.elim
    | some p =>
      obtain ⟨ys, s2⟩ := p
      simp only [q] at h1
      split at h1
      · rename_i hz
        obtain ⟨F2, e2, q2, n2⟩ := n1.frzs r1 q
        refine ⟨by rw [r1.length, ← frzs_length q]; exact hz, fun p hp => ?_⟩
        obtain ⟨e3, n3⟩ := n2.new (.lst vs) hp
        exact h1.there (σ := σ) rfl (e2.trans e3) n3 _ (Rep.lst upd_same (Reps.mono _ _ e3.1 _ _ q2))
      · exact h1.elim
theorem me_lstN (h : PA X es (upA X.K CT E mr)) : PE X (.List es pos) (up X.K CT E (vLstN mr)) :=
  PE.imp (pe_lst h) fun σ H Q ⟨F, as, s, n, h⟩ => by
    refine upA_seq n h rfl fun vs xs s1 F1 as1 H1 e1 n1 r1 h1 => ?_
    cases q : frzs s1 xs with
    | none => simp only [q] at h1; exact h1.elim
    | some p =>
      obtain ⟨ys, s2⟩ := p
      simp only [q] at h1
      split at h1
      · rename_i hz
        obtain ⟨F2, e2, q2, n2⟩ := n1.frzs r1 q
        refine ⟨by rw [r1.length, ← frzs_length q]; exact hz, fun p hp => ?_⟩
        obtain ⟨e3, n3⟩ := n2.newC hp q2
        exact h1.there (σ := σ) rfl (e2.trans e3) n3 _ ⟨p, by rw [n2.wk.len]; simp, rfl⟩
      · exact h1.elim
/-- a value, frozen if it is a cell -/
theorem me_frz (h : PE X e (up X.K CT E m)) : PE X e (up X.K CT E (vFrz m)) :=
  PE.imp h fun σ H Q ⟨F, as, s, n, h⟩ => by
    refine up_seq n h rfl fun v x s1 F1 as1 H1 e1 n1 r1 h1 => ?_
    cases q : frz s1 x with
    | none => simp only [q] at h1; exact h1.elim
    | some p =>
      obtain ⟨y, s2⟩ := p
      simp only [q] at h1
      obtain ⟨F2, e2, q2, n2⟩ := n1.frz r1 q
      exact h1.there (σ := σ) rfl e2 n2 _ q2
/-! ### built-ins by values -/
theorem rds_of {F : Hp} {as : List Addr} {H : Hp} {σ : Sto} {s : PS} (n : Env X.K CT F as H σ s) : ∀ {xs : List SV} {vs : List V} {ds : List D}, RepSs X.K CT F as vs xs → rds s xs = some ds → Rdbs X.K CT F H vs ds
  | [], _, ds, r, e => by
    cases r
    simp only [rds, Option.some.injEq] at e
    subst e
    exact .nil
  | x :: xs, _, ds, r, e => by
    cases r with
    | cons r1 r2 =>
      unfold rds at e
      cases q1 : rd s x with
      | none => simp only [q1] at e; cases e
      | some y =>
        cases q2 : rds s xs with
        | none => simp only [q1, q2] at e; cases e
        | some ys =>
          simp only [q1, q2, Option.some.injEq] at e
          subst e
          exact .cons (n.rd r1 q1) (rds_of n r2 q2)
theorem b_read {g : List D → Option D} {σ : Sto} {H : Hp} {Q : VK} (h : up X.K CT E (vB g mr) σ H Q) : tCB (rB X.K CT g) (upA X.K CT E mr) σ H Q := by
  obtain ⟨F, as, s, n, h⟩ := h
  refine upA_seq n h rfl fun vs xs s1 F1 as1 H1 e1 n1 r1 h1 => ?_
  cases q1 : rds s1 xs with
  | none => simp only [q1] at h1; exact h1.elim
  | some ds =>
    simp only [q1] at h1
    cases q3 : g ds with
    | none => simp only [q3] at h1; exact h1.elim
    | some z =>
      simp only [q3] at h1
      exact ⟨F1, as1, σ, s1, ds, z, n1, rds_of n1 r1 q1, q3, fun v F' H' ex n' r => h1.there (σ := σ) rfl ex n' v r⟩
variable {x : Str} {id T : String} {g : List D → Option D}
theorem me_callB (hc : CallR X (.builtin id) (rB X.K CT g)) (hm : X.mg x = none) (hv : bootBuiltins x = some (.builtin id)) (hg : Gl X x) (ha : PA X (e :: es) (upA X.K CT E mr)) (hn : x ≠ "__name__" := by decide) (hdb : (x == ("__debug__" : Str)) = false := by decide)
    (he : starEach (e :: es) X.env = (false, eval e X.env) :: starEach es X.env := by rfl) (hpl : (backTo pos (starEach es X.env)).any (·.1) = false := by rfl) : PE X (.Call (.Name x p) (e :: es) [] pos) (up X.K CT E (vB g mr)) :=
  PE.imp (pe_callB hc hg hm hv ha hn hdb he hpl) fun _ _ _ h => b_read h
theorem me_callT (hc : CallR X (.type T) (rB X.K CT g)) (hm : X.mg x = none) (hv : bootBuiltins x = some (.type T)) (hg : Gl X x) (ha : PA X (e :: es) (upA X.K CT E mr)) (hn : x ≠ "__name__" := by decide) (hdb : (x == ("__debug__" : Str)) = false := by decide)
    (he : starEach (e :: es) X.env = (false, eval e X.env) :: starEach es X.env := by rfl) (hpl : (backTo pos (starEach es X.env)).any (·.1) = false := by rfl) : PE X (.Call (.Name x p) (e :: es) [] pos) (up X.K CT E (vB g mr)) :=
  PE.imp (pe_callTy hc hg hm hv ha hn hdb he hpl) fun _ _ _ h => b_read h
end
end Bf
/-! The mirror layer: statements, loops, calls of defs, a def's promise. -/
namespace Bf
open PySem PySem.Spec PyProof.Rows L2
/-- what a context must have: the exceptions that are wished for are taken -/
structure Cq (X : Cx) (E : Sto → XK) : Prop where
  calm : X.calm = true
  po : PassesOwn (model X.prog X.w) X.A X.env X.xe
  pass : ∀ σ, PassesAt (L2.CX X.prog X.w) X σ (E σ)
  nd : X.N.Nodup
  tk : Takes X (fun c d σ H => E σ c d H)
theorem passAt0 {X : Cx} {σ : Sto} : PassesAt (L2.CX X.prog X.w) X σ (fun _ _ _ => False) := fun _ _ _ _ _ _ ⟨_, _, _, _, _, _, _, _, _, _, _, _, h⟩ => h.elim
section
variable {X : Cx} {CT : Ctx} {E : Sto → XK} {pos p : Pos} {st : Stmt} {rest : List Stmt} {ma mb : MS} {e : Expr} {m : ME}
/-- the part's outcome, the rest as it stands -/
theorem Out.bind0 {K : PySem.W.Frag} {F : Hp} {as : List Addr} {α β : Type} {ok ok' : Sto → Prop} {r : R α} {f : α → PS → R β} {Q : β → PS → Hp → List Addr → Sto → Hp → Prop} (h : Out K CT ok' E F as (r.bind f) Q) (ho : ∀ σ, ok σ → ok' σ) :
    Out K CT ok E F as r fun a s _ _ _ _ => Out K CT ok' E F as (f a s) Q := by
  cases r with
  | ok a s => exact fun F2 as2 σ2 H2 o e2 n => h
  | err x s => exact fun c dx F2 as2 σ2 H2 o e2 n q => h c dx F2 as2 σ2 H2 (ho _ o) e2 n q
  | stuck => exact h
theorem ms_nil : PSs X [] (upS X.K CT E sNx) := ⟨fun pins s σ H D I ⟨F, as, S, n, h⟩ => pss_nil.run pins s σ H D I (h.here trivial n)⟩
theorem ms_cons (h1 : L2.PS X st (upS X.K CT E ma)) (h2 : PSs X rest (upS X.K CT E mb)) : PSs X (st :: rest) (upS X.K CT E (sSeq ma mb)) :=
  PSs.imp (pss_cons h1 h2) fun D σ H ⟨F, as, s, n, h⟩ => ⟨F, as, s, n, (h.bind fun _ z => z).imp (fun _ z => z) fun f s' F' as' σ' H' _ _ ex n' q => by
    cases f with
    | nx => exact ⟨F', as', s', n', q⟩
    | bk => exact q.here trivial n'
    | ct => exact q.here trivial n'
    | rt x => exact q.here trivial n'⟩
theorem ms_one (h1 : L2.PS X st (upS X.K CT E ma)) : PSs X [st] (upS X.K CT E ma) := pss_one h1
theorem ms_ret (h : PE X e (up X.K CT E m)) : L2.PS X (.Return (some e) pos) (upS X.K CT E (sRet m)) :=
  ps_imp (ps_ret h) fun D σ H ⟨F, as, s, n, h⟩ => up_seq n h trivial fun v x s1 F1 as1 H1 e1 n1 r1 h1 => h1.here (σ := σ) trivial n1 v r1
theorem ms_expr (h : PE X e (up X.K CT E m)) (hs : swapsWith e none pos.line X.env = pure false := by rfl) : L2.PS X (.Expr e pos) (upS X.K CT E (sExp m)) :=
  ps_imp (ps_expr h hs) fun D σ H ⟨F, as, s, n, h⟩ => up_seq n h trivial fun v x s1 F1 as1 H1 e1 n1 r1 h1 => h1.here (σ := σ) trivial n1
theorem upS_at {m : MS} {σ : Sto} {H : Hp} {F : Hp} {as : List Addr} {s : PS} {D : Ends} (n : Env X.K CT F as H σ s) (h : Out X.K CT (fun _ => True) E F as (m s) fun f _ F' as' σ' H' => match f with
  | .nx => D.nx σ' H'
  | .bk => D.bk σ' H'
  | .ct => D.ct σ' H'
  | .rt x => ∀ v, RepS X.K CT F' as' v x → D.rt v H') : upS X.K CT E m D σ H := ⟨F, as, s, n, h⟩
theorem ms_if {t : MT} {c : Expr} {A B : List Stmt} (hc : PT X c (upT X.K CT E t)) (ha : PSs X A (upS X.K CT E ma)) (hb : PSs X B (upS X.K CT E mb)) : L2.PS X (.If c A B pos) (upS X.K CT E (sIf t ma mb)) :=
  ps_imp (ps_if hc ha hb) fun D σ H ⟨F, as, s, n, h⟩ => upT_seq n h trivial fun c s1 F1 as1 H1 e1 n1 h1 => by
    cases c with
    | true => exact upS_at n1 h1
    | false => exact upS_at n1 h1
/-! ### targets -/
theorem Env.setG {K : PySem.W.Frag} {F H : Hp} {as : List Addr} {σ : Sto} {s : PS} {i : Nat} {v : V} {x : SV} (n : Env K CT F as H σ s) (r : RepS K CT F as v x) (hi : i < s.g.length) : Env K CT F as H (σ.set i (some v)) { s with g := s.g.set i (some x) } := by
  refine ⟨n.sub, n.wk, by simp [n.gl], fun j y h => ?_⟩
  have h : (s.g.set i (some x))[j]? = some (some y) := h
  by_cases hj : j = i
  · subst hj
    rw [List.getElem?_set_self hi] at h
    cases h
    exact ⟨v, List.getElem?_set_self (by rw [← n.gl]; exact hi), r⟩
  · rw [List.getElem?_set_ne (Ne.symm hj)] at h
    obtain ⟨w, h1, h2⟩ := n.sl j y h
    exact ⟨w, by rw [List.getElem?_set_ne (Ne.symm hj)]; exact h1, h2⟩
variable {β : Type} {φ : Sto → β}
theorem mg_name {i : Nat} {x : Str} (hN : X.N.Nodup) (hφ : ∀ (σ : Sto) v, φ (σ.set i (some v)) = φ σ) (hi : X.N[i]? = some x) (hx : Loc X.env.scope x) (hf : X.fn x = true ∨ X.env.scope.names.lookup x = some .local := by first | exact .inl rfl | exact .inr rfl | assumption) :
    PG X (.Name x pos) (upG X.K CT φ E (hName i)) :=
  PG.imp (pg_name hN hi hx hf) fun v σ H Q ⟨F, as, s, y, n, r, h⟩ => by
    unfold hName at h
    split at h
    · rename_i hl
      exact h.here (σ := σ.set i (some v)) (hφ σ v) (n.setG r hl) (hφ σ v)
    · exact h.elim
/-- several targets -/
def upGs (K : PySem.W.Frag) (CT : Ctx) (φ : Sto → β) (E : Sto → XK) (gs : List MG) : TGs := fun vs σ H Q => ∃ F as s xs, Env K CT F as H σ s ∧ Reps K CT F vs xs ∧ Out K CT (fun σ' => φ σ' = φ σ) E F as (hAll gs xs s) fun _ _ _ _ σ' H' => φ σ' = φ σ → Q σ' H'
theorem mgs_nil : PGs X [] (upGs X.K CT φ E []) := ⟨fun pins s σ H vs us Q I r ⟨F, as, S, xs, n, rx, h⟩ => pgs_nil.run pins s σ H vs us Q I r (by
  cases xs with
  | nil =>
    cases rx
    exact ⟨rfl, h.here (σ := σ) rfl n rfl⟩
  | cons => exact h.elim)⟩
theorem mgs_cons {es : List Expr} {g : MG} {gs : List MG} (h1 : PG X e (upG X.K CT φ E g)) (h2 : PGs X es (upGs X.K CT φ E gs))
    (hs : (assignEach (e :: es) X.env).map (·.2) = assign e X.env :: (assignEach es X.env).map (·.2) := by rfl) : PGs X (e :: es) (upGs X.K CT φ E (g :: gs)) := ⟨fun pins s σ H vs us Q I r ⟨F, as, S, xs, n, rx, h⟩ => (pgs_cons h1 h2 hs).run pins s σ H vs us Q I r (by
  cases xs with
  | nil => exact h.elim
  | cons x xs =>
    cases rx with
    | cons r1 r2 =>
      refine ⟨_, _, rfl, F, as, S, .d x, n, r1, (h.bind fun _ z => z).imp (fun _ z => z) fun _ s' F' as' σ' H' _ o ex n' q hφ => ?_⟩
      exact ⟨F', as', s', xs, n', Reps.mono _ _ ex.1 _ _ r2, q.imp (fun σ2 z => z.trans hφ) fun _ _ _ _ σ2 _ _ o2 _ _ w z => w (z.trans hφ)⟩)⟩
theorem PG.or {t t' : TG} (h : PG X e t) (h' : PG X e t') : PG X e (fun v σ H Q => t v σ H Q ∨ t' v σ H Q) := ⟨fun pins s σ H v u Q I r q => by
  rcases q with q | q
  · exact h.run pins s σ H v u Q I r q
  · exact h'.run pins s σ H v u Q I r q⟩
theorem mg_tup {es : List Expr} {k : Nat} {gs : List MG} (hc : X.calm = true) (h : PGs X es (upGs X.K CT φ E gs)) (hn : (assignEach es X.env).length = gs.length := by rfl) (hst : (assignEach es X.env).findIdx? (·.1) = none := by rfl) :
    PG X (.Tuple es k pos) (upG X.K CT φ E (hTup gs)) :=
  PG.imp (PG.or (pg_tup hc h hn hst) (pg_unl hc h hn hst)) fun v σ H Q ⟨F, as, s, x, n, r, h⟩ => by
    unfold hTup at h
    cases q : rd s x with
    | none => simp only [q] at h; exact h.elim
    | some d =>
      have rr := n.rd r q
      cases d with
      | tup xs =>
        simp only [q] at h
        split at h
        · rename_i hl
          obtain ⟨a, vs, rfl, q1, r1⟩ := rr.tup' n.sub
          exact .inl ⟨a, vs, rfl, q1, by rw [r1.length]; exact hl, F, as, s, xs, n, r1, h⟩
        · exact h.elim
      | lst xs =>
        simp only [q] at h
        split at h
        · rename_i hl
          obtain ⟨a, vs, rfl, q1, r1⟩ := rr.lst' n.sub
          exact .inr ⟨a, vs, rfl, SqL.of q1, by rw [r1.length]; exact hl, F, as, s, xs, n, r1, h⟩
        · exact h.elim
      | _ => simp only [q] at h; exact h.elim
/-- o[i] = .., o a list's cell -/
theorem mg_sub {o i : Expr} {mo mi : ME} (ho : PE X o (up X.K CT E mo)) (hi : PE X i (up X.K CT E mi)) (ha : ∀ v, assign (.Subscript o i pos) X.env v = (do
      let ov ← holding [v] (eval o X.env)
      let iv ← holding [v, ov] (eval i X.env)
      standAt pos
      holding [v, ov, iv] (setItem ov iv v)
      release [v, ov, iv] []) := by intro _; rfl) : PG X (.Subscript o i pos) (upG X.K CT (fun _ => ()) E (hSub mo mi)) :=
  PG.imp (pg_sub ho hi set_list ha) fun v σ H Q ⟨F, as, s, x, n, r, h⟩ => by
    refine up_seq n h rfl fun ov oo s1 F1 as1 H1 e1 n1 r1 h1 => ?_
    refine up_seq n1 h1 rfl fun iv ii s2 F2 as2 H2 e2 n2 r2 h2 => ?_
    cases q : frz s2 x with
    | none => simp only [q] at h2; exact h2.elim
    | some p =>
      obtain ⟨y, s3⟩ := p
      simp only [q] at h2
      obtain ⟨F3, e3, q3, n3⟩ := n2.frz ((r.mono e1).mono e2) q
      cases q4 : rd s3 ii with
      | none => simp only [q4] at h2; exact h2.elim
      | some di =>
        simp only [q4] at h2
        have ri := n3.rd (r2.mono e3) q4
        cases oo with
        | d z => exact h2.elim
        | cell k =>
          cases di with
          | int z =>
            obtain rfl := ri.int'
            unfold setL at h2
            cases q5 : s3.w[k]? with
            | none => simp only [q5] at h2; exact h2.elim
            | some c =>
              cases c with
              | lst xs =>
                simp only [q5] at h2
                cases q6 : ixN xs.length z with
                | none => simp only [q6] at h2; exact h2.elim
                | some j =>
                  simp only [q6, Option.map_some] at h2
                  obtain ⟨a, vs, ha, hf, hh, rr⟩ := n3.cell q5
                  obtain ⟨b, hb, rfl⟩ := (r1.mono e2).mono e3
                  rw [ha] at hb
                  cases hb
                  refine ⟨a, vs, z, j, rfl, rfl, hh, by rw [rr.length]; exact q6, ?_⟩
                  exact h2.there (σ := σ) (by first | rfl | trivial) e3 (n3.setC q5 ha hf (rr.set j q3)) (by first | rfl | trivial)
              | _ => simp only [q5] at h2; exact h2.elim
          | _ => exact h2.elim
theorem ms_asg {tg : Expr} {g : MG} (hg : PG X tg (upG X.K CT φ E g)) (he : PE X e (up X.K CT E m)) (hs : swapsWithSole [tg] e pos.line X.env = pure false := by rfl) (hw : swappedStores [tg] e X.env = pure none := by rfl)
    (h1 : (assignEach [tg] X.env).map (·.2) = [assign tg X.env] := by rfl) : L2.PS X (.Assign [tg] e pos) (upS X.K CT E (sAsg m g)) :=
  ps_imp (ps_asg he hg hs hw h1) fun D σ H ⟨F, as, s, n, h⟩ => up_seq n h trivial fun v x s1 F1 as1 H1 e1 n1 r1 h1 => by
    refine ⟨F1, as1, s1, x, n1, r1, (h1.bind fun _ _ => trivial).imp (fun _ z => z) fun _ s2 F2 as2 σ2 H2 _ _ e2 n2 q _ => q.here trivial n2⟩
/-! ### what is walked -/
section
variable {K : PySem.W.Frag} {F H : Hp} {as : List Addr} {σ : Sto} {s : PS} {J : It} {it : It'}
theorem It'.stop {i : Nat} (n : Env K CT F as H σ s) (r : ItOk K CT F as J it) (e : it.at s i = some none) : J.stop i H := by
  cases it with
  | seq xs =>
    have e : xs[i]? = none := by simpa [It'.at] using e
    have hi : xs.length ≤ i := List.getElem?_eq_none_iff.mp e
    rcases r with ⟨a, vs, rfl, h1, h2⟩ | ⟨a, vs, rfl, h1, h2⟩ | ⟨x, rfl, rfl, _⟩
    · exact ⟨vs, n.sub.sqL K h1, by rw [h2.length]; exact hi⟩
    · exact ⟨vs, n.sub.sqT K h1, by rw [h2.length]; exact hi⟩
    · show x.cps.size ≤ i
      simpa [signsD] using hi
  | cell k =>
    obtain ⟨a, ha, rfl⟩ := r
    unfold It'.at at e
    cases q : s.w[k]? with
    | none => simp only [q] at e; cases e
    | some c =>
      cases c with
      | lst xs =>
        simp only [q, Option.some.injEq] at e
        obtain ⟨b, vs, hb, hf, hh, rr⟩ := n.cell q
        rw [ha] at hb
        cases hb
        exact ⟨vs, SqL.of hh, by rw [rr.length]; exact List.getElem?_eq_none_iff.mp e⟩
      | _ => simp only [q] at e; cases e
  | rng lo m =>
    obtain rfl := r
    unfold It'.at at e
    dsimp only at e
    split at e
    · cases e
    · show m ≤ i
      omega
  | rngC lo c m =>
    obtain rfl := r
    unfold It'.at at e
    dsimp only at e
    split at e
    · cases e
    · show m ≤ i
      omega
  | prs ps =>
    obtain ⟨vs, ws, h1, h2, h3⟩ := r
    unfold It'.at at e
    simp only [Option.some.injEq, Option.map_eq_none_iff] at e
    exact (h3 H n.sub).2.1 i (List.getElem?_eq_none_iff.mp e)
  | kys xs =>
    obtain ⟨h0, ks, h1, h3⟩ := r
    unfold It'.at at e
    simp only [Option.some.injEq, Option.map_eq_none_iff] at e
    have q := List.getElem?_eq_none_iff.mp e
    rw [h1, List.length_map] at q
    exact (h3 H n.sub).2.1 i q
  | its ps =>
    obtain ⟨h0, kvs, h1, h3⟩ := r
    unfold It'.at at e
    simp only [Option.some.injEq, Option.map_eq_none_iff] at e
    have q := List.getElem?_eq_none_iff.mp e
    rw [← h1.len] at q
    exact (h3 H n.sub).2.1 i q
theorem It'.go {i : Nat} {x : D} (n : Env K CT F as H σ s) (r : ItOk K CT F as J it) (e : it.at s i = some (some x)) : J.go i H := by
  cases it with
  | seq xs =>
    have e : xs[i]? = some x := by simpa [It'.at] using e
    rcases r with ⟨a, vs, rfl, h1, h2⟩ | ⟨a, vs, rfl, h1, h2⟩ | ⟨x, rfl, rfl, _⟩
    · obtain ⟨v, h3, _⟩ := h2.get e
      exact ⟨vs, v, n.sub.sqL K h1, h3⟩
    · obtain ⟨v, h3, _⟩ := h2.get e
      exact ⟨vs, v, n.sub.sqT K h1, h3⟩
    · show i < x.cps.size
      have := (List.getElem?_eq_some_iff.mp e).1
      simpa [signsD] using this
  | cell k =>
    obtain ⟨a, ha, rfl⟩ := r
    unfold It'.at at e
    cases q : s.w[k]? with
    | none => simp only [q] at e; cases e
    | some c =>
      cases c with
      | lst xs =>
        simp only [q, Option.some.injEq] at e
        obtain ⟨b, vs, hb, hf, hh, rr⟩ := n.cell q
        rw [ha] at hb
        cases hb
        obtain ⟨v, h3, _⟩ := rr.get e
        exact ⟨vs, v, SqL.of hh, h3⟩
      | _ => simp only [q] at e; cases e
  | rng lo m =>
    obtain rfl := r
    unfold It'.at at e
    dsimp only at e
    split at e
    · assumption
    · cases e
  | rngC lo c m =>
    obtain rfl := r
    unfold It'.at at e
    dsimp only at e
    split at e
    · assumption
    · cases e
  | prs ps =>
    obtain ⟨vs, ws, h1, h2, h3⟩ := r
    unfold It'.at at e
    simp only [Option.some.injEq, Option.map_eq_some_iff] at e
    obtain ⟨p, e, _⟩ := e
    exact (h3 H n.sub).1 i (List.getElem?_eq_some_iff.mp e).1
  | kys xs =>
    obtain ⟨h0, ks, h1, h3⟩ := r
    unfold It'.at at e
    simp only [Option.some.injEq, Option.map_eq_some_iff] at e
    obtain ⟨p, e, _⟩ := e
    have q := (List.getElem?_eq_some_iff.mp e).1
    rw [h1, List.length_map] at q
    exact (h3 H n.sub).1 i q
  | its ps =>
    obtain ⟨h0, kvs, h1, h3⟩ := r
    unfold It'.at at e
    simp only [Option.some.injEq, Option.map_eq_some_iff] at e
    obtain ⟨p, e, _⟩ := e
    have q := (List.getElem?_eq_some_iff.mp e).1
    rw [← h1.len] at q
    exact (h3 H n.sub).1 i q
theorem It'.yld0 {i : Nat} {x : D} {v : V} {H' : Hp} (n : Env K CT F as H σ s) (r : ItOk K CT F as J it) (hp : (∀ ps, it ≠ .prs ps) ∧ (∀ ps, it ≠ .kys ps) ∧ ∀ ps, it ≠ .its ps) (e : it.at s i = some (some x)) (y : J.yld i H v H') : H' = H ∧ Rep K CT F v x := by
  cases it with
  | seq xs =>
    have e : xs[i]? = some x := by simpa [It'.at] using e
    rcases r with ⟨a, vs, rfl, h1, h2⟩ | ⟨a, vs, rfl, h1, h2⟩ | ⟨z, rfl, rfl, so⟩
    · obtain ⟨rfl, y⟩ := y
      obtain ⟨w, h3, h4⟩ := h2.get e
      have q := y vs (n.sub.sqL K h1)
      rw [h3] at q
      cases q
      exact ⟨rfl, h4⟩
    · obtain ⟨rfl, y⟩ := y
      obtain ⟨w, h3, h4⟩ := h2.get e
      have q := y vs (n.sub.sqT K h1)
      rw [h3] at q
      cases q
      exact ⟨rfl, h4⟩
    · obtain ⟨rfl, c, h1, rfl⟩ := y
      refine ⟨rfl, ?_⟩
      have e2 : z.cps.toList[i]? = some c := by simpa using h1
      unfold signsD at e
      rw [List.getElem?_map, e2] at e
      simp only [Option.map_some, Option.some.injEq] at e
      subst e
      refine .str _ line_one ?_
      unfold PyData.strOk at *
      rw [Array.all_eq_true] at so
      obtain ⟨hk, e3⟩ := List.getElem?_eq_some_iff.mp e2
      have q := so i (by simpa using hk)
      simp only [Array.getElem_toList] at e3
      rw [e3] at q
      simpa using q
  | cell k =>
    obtain ⟨a, ha, rfl⟩ := r
    unfold It'.at at e
    cases q : s.w[k]? with
    | none => simp only [q] at e; cases e
    | some c =>
      cases c with
      | lst xs =>
        simp only [q, Option.some.injEq] at e
        obtain ⟨b, vs, hb, hf, hh, rr⟩ := n.cell q
        rw [ha] at hb
        cases hb
        obtain ⟨rfl, y⟩ := y
        obtain ⟨w, h3, h4⟩ := rr.get e
        have q := y vs (SqL.of hh)
        rw [h3] at q
        cases q
        exact ⟨rfl, h4⟩
      | _ => simp only [q] at e; cases e
  | rng lo m =>
    obtain rfl := r
    unfold It'.at at e
    dsimp only at e
    split at e
    · obtain ⟨rfl, rfl⟩ := y
      cases e
      exact ⟨rfl, .int _⟩
    · cases e
  | rngC lo c m =>
    obtain rfl := r
    unfold It'.at at e
    dsimp only at e
    split at e
    · obtain ⟨rfl, rfl⟩ := y
      cases e
      exact ⟨rfl, .int _⟩
    · cases e
  | prs ps => exact absurd rfl (hp.1 ps)
  | kys ps => exact absurd rfl (hp.2.1 ps)
  | its ps => exact absurd rfl (hp.2.2 ps)
theorem It'.yld {i : Nat} {x : D} {v : V} {H' : Hp} (n : Env K CT F as H σ s) (r : ItOk K CT F as J it) (e : it.at s i = some (some x)) (y : J.yld i H v H') : ∃ F', Ext F as F' as ∧ Env K CT F' as H' σ s ∧ Rep K CT F' v x := by
  cases it with
  | prs ps =>
    obtain ⟨vs, ws, h1, h2, h3⟩ := r
    unfold It'.at at e
    simp only [Option.some.injEq, Option.map_eq_some_iff] at e
    obtain ⟨p, e, rfl⟩ := e
    obtain ⟨a, ha, ra⟩ := h1.get (i := i) (d := p.1) (by rw [List.getElem?_map, e]; rfl)
    obtain ⟨b, hb, rb⟩ := h2.get (i := i) (d := p.2) (by rw [List.getElem?_map, e]; rfl)
    obtain ⟨T, rfl, hT, rfl⟩ := (h3 H n.sub).2.2 i v H' a b ha hb y
    obtain ⟨e1, n1⟩ := n.new (.tup [a, b]) hT
    exact ⟨_, e1, n1, .tup (vs := [a, b]) upd_same (.cons (Rep.mono K CT e1.1 _ _ ra) (.cons (Rep.mono K CT e1.1 _ _ rb) .nil))⟩
  | kys xs =>
    obtain ⟨h0, ks, h1, h3⟩ := r
    unfold It'.at at e
    simp only [Option.some.injEq, Option.map_eq_some_iff] at e
    obtain ⟨p, e, rfl⟩ := e
    have hi := h0 p (List.mem_of_getElem? e)
    rw [h1, List.getElem?_map, Option.map_eq_some_iff] at e
    obtain ⟨k, e, rfl⟩ := e
    obtain ⟨rfl, q, rfl, hq⟩ := (h3 H n.sub).2.2 i v H' k e y
    obtain ⟨F', e1, n1, q1⟩ := n.learn hq
    exact ⟨F', e1, n1, .tup q1 (reps_keyi k hi)⟩
  | its ps =>
    obtain ⟨h0, kvs, h1, h3⟩ := r
    unfold It'.at at e
    simp only [Option.some.injEq, Option.map_eq_some_iff] at e
    obtain ⟨p, e, rfl⟩ := e
    have hi := h0 p (List.mem_of_getElem? e)
    obtain ⟨k, w, ek, e1, rw'⟩ := h1.get e
    obtain ⟨T, q, rfl, hT, hq, rfl⟩ := (h3 H n.sub).2.2 i v H' k w ek y
    obtain ⟨F1, x1, n1, q1⟩ := n.learn hq
    obtain ⟨x2, n2⟩ := n1.new (.tup [.ref q, w]) hT
    rw [e1] at hi ⊢
    exact ⟨_, x1.trans x2, n2, .tup (vs := [.ref q, w]) upd_same (.cons (.tup (x2.1 _ _ q1) (reps_keyi k hi)) (.cons (Rep.mono K CT (x1.trans x2).1 _ _ rw') .nil))⟩
  | seq xs =>
    obtain ⟨rfl, q⟩ := It'.yld0 n r ⟨(fun _ h => nomatch h), (fun _ h => nomatch h), (fun _ h => nomatch h)⟩ e y
    exact ⟨F, Ext.refl, n, q⟩
  | cell k =>
    obtain ⟨rfl, q⟩ := It'.yld0 n r ⟨(fun _ h => nomatch h), (fun _ h => nomatch h), (fun _ h => nomatch h)⟩ e y
    exact ⟨F, Ext.refl, n, q⟩
  | rng lo m =>
    obtain ⟨rfl, q⟩ := It'.yld0 n r ⟨(fun _ h => nomatch h), (fun _ h => nomatch h), (fun _ h => nomatch h)⟩ e y
    exact ⟨F, Ext.refl, n, q⟩
  | rngC lo c m =>
    obtain ⟨rfl, q⟩ := It'.yld0 n r ⟨(fun _ h => nomatch h), (fun _ h => nomatch h), (fun _ h => nomatch h)⟩ e y
    exact ⟨F, Ext.refl, n, q⟩
/-- the cells from k on are forgotten -/
theorem below_mono {K : PySem.W.Frag} {v : V} {x : SV} {k : Nat} (hb : below k x = true) (r : RepS K CT F as v x) : RepS K CT F (as.take k) v x := by
  cases x with
  | d y => exact r
  | cell j =>
    obtain ⟨a, h1, h2⟩ := r
    have hj : j < k := of_decide_eq_true hb
    exact ⟨a, by rw [List.getElem?_take_of_lt hj]; exact h1, h2⟩
theorem belowF {K : PySem.W.Frag} {k : Nat} : ∀ {fs : List (Str × SV)} {vs : List (Str × V)}, (fs.all fun p => below k p.2) = true → RepSF K CT F as vs fs → RepSF K CT F (as.take k) vs fs
  | [], _, _, r => by cases r; exact .nil
  | (f, x) :: fs, _, h, r => by
    cases r with
    | cons r1 r2 =>
      rw [List.all_cons, Bool.and_eq_true] at h
      exact .cons (below_mono h.1 r1) (belowF h.2 r2)
theorem belowS {K : PySem.W.Frag} {k : Nat} : ∀ {xs : List SV} {vs : List V}, (xs.all (below k)) = true → RepSs K CT F as vs xs → RepSs K CT F (as.take k) vs xs
  | [], _, _, r => by cases r; exact .nil
  | x :: xs, _, h, r => by
    cases r with
    | cons r1 r2 =>
      rw [List.all_cons, Bool.and_eq_true] at h
      exact .cons (below_mono h.1 r1) (belowS h.2 r2)
theorem CellOk.take {K : PySem.W.Frag} {k : Nat} {a : Addr} {c : Cell} (hb : cellBelow k c = true) (h : CellOk K CT F as H a c) : CellOk K CT F (as.take k) H a c := by
  cases c with
  | lst xs => exact h
  | dic kvs => exact h
  | dit kvs => exact h
  | ins c fs =>
    obtain ⟨h0, dx, vs, h1, h2⟩ := h
    exact ⟨h0, dx, vs, h1, belowF hb h2⟩
  | gone => trivial
  | lsv xs =>
    obtain ⟨h0, vs, h1, h2⟩ := h
    exact ⟨h0, vs, h1, belowS hb h2⟩
theorem Wk.take {K : PySem.W.Frag} {w : List Cell} (k : Nat) (n : Wk K CT F as H w) (hb : ((w.take k).all (cellBelow k)) = true) : Wk K CT F (as.take k) H (w.take k) := by
  refine ⟨by rw [List.length_take, List.length_take, n.len], n.nd.sublist (List.take_sublist _ _), n.tb.sub (fun a m => List.mem_of_mem_take m), fun a m => n.live a (List.mem_of_mem_take m), fun j c a h1 h2 => ?_⟩
  have hj : j < k := by
    have := (List.getElem?_eq_some_iff.mp h1).1
    rw [List.length_take] at this
    omega
  have hc := List.all_eq_true.mp hb c (List.mem_of_getElem? h1)
  rw [List.getElem?_take_of_lt hj] at h1 h2
  exact (n.ok j c a h1 h2).take hc
theorem Env.trunc {K : PySem.W.Frag} {k : Nat} {s' : PS} (n : Env K CT F as H σ s) (h : trunc k s = some s') : Env K CT F (as.take k) H σ s' := by
  unfold Bf.trunc at h
  split at h
  · rename_i hb
    cases h
    refine ⟨n.sub, n.wk.take k hb, by simp [n.gl], fun i x hx => ?_⟩
    have hx : (s.g.map (dropG k))[i]? = some (some x) := hx
    rw [List.getElem?_map] at hx
    cases q : s.g[i]? with
    | none => rw [q] at hx; cases hx
    | some o =>
      rw [q] at hx
      have hx : dropG k o = some x := by simpa using hx
      cases o with
      | none => cases hx
      | some y =>
        obtain ⟨v, h1, h2⟩ := n.sl i y q
        cases y with
        | d z =>
          cases hx
          exact ⟨v, h1, h2⟩
        | cell j =>
          unfold dropG at hx
          by_cases hj : j < k
          · have hx : (if j < k then some (SV.cell j) else none) = some x := hx
            rw [if_pos hj] at hx
            cases hx
            exact ⟨v, h1, below_mono (decide_eq_true hj) h2⟩
          · have hx : (if j < k then some (SV.cell j) else none) = some x := hx
            rw [if_neg hj] at hx
            cases hx
  · cases h
end
end
end Bf
/-! The mirror layer: loops, comprehensions, calls of defs, a def's promise. -/
namespace Bf
open PySem PySem.Spec PyProof.Rows L2
section
variable {X : Cx} {CT : Ctx} {E : Sto → XK} {pos p : Pos}
theorem take_ext {as as' : List Addr} {F F' : Hp} {n : Nat} (e : Ext F as F' as') (h : as.length = n) : as'.take n = as := by
  obtain ⟨_, t, rfl⟩ := e
  rw [← h, List.take_left]
theorem ms_for {tg iter : Expr} {body : List Stmt} {mi : MI} {g : MG} {mb : MS} (hx : Cq X E) (hi : PI X tg iter (upI X.K CT E mi)) (hg : PG X tg (upG X.K CT (fun _ => ()) E g)) (hb : PSs X body (upS X.K CT E mb))
    (hs : ∀ x, foldedSetIterable iter X.env x = pure x := by intro _; rfl) : L2.PS X (.For tg iter body [] pos) (upS X.K CT E (sFor mi g mb)) :=
  ps_imp (ps_for hx.po hx.calm hi hg hb hs) fun D σ H ⟨F, as, s, n, h⟩ => by
    refine upI_seq n h trivial fun J it s1 F1 as1 H1 e1 n1 r1 h1 => ?_
    generalize hk : s1.w.length = k at h1
    have hk' : as1.length = k := by rw [← n1.wk.len]; exact hk
    refine ⟨fun i m σ H => ∃ F as s, Env X.K CT F as H σ s ∧ as.length = k ∧ ItOk X.K CT F as J it ∧ Out X.K CT (fun _ => True) E F as (forGo it k g mb m i s) fun f _ F' as' σ' H' => match f with
      | .nx => D.nx σ' H'
      | .bk => D.bk σ' H'
      | .ct => D.ct σ' H'
      | .rt x => ∀ v, RepS X.K CT F' as' v x → D.rt v H', ⟨it.fuel s1, F1, as1, s1, n1, hk', r1, h1⟩, ?_⟩
    rintro i m σ H ⟨F, as, s, n, hl, r, h⟩
    cases q : it.at s i with
    | none => cases m <;> (unfold forGo at h; simp only [q] at h; exact h.elim)
    | some o =>
      cases o with
      | none =>
        refine .inl ⟨It'.stop n r q, ?_⟩
        cases m <;> (unfold forGo at h; simp only [q] at h; exact h.here trivial n)
      | some x =>
        cases m with
        | zero => unfold forGo at h; simp only [q] at h; exact h.elim
        | succ m =>
          unfold forGo at h
          simp only [q] at h
          refine .inr ⟨It'.go n r q, fun σ' H' => ∃ F as s, Env X.K CT F as H' σ' s ∧ as.length = k ∧ ItOk X.K CT F as J it ∧ Out X.K CT (fun _ => True) E F as (forGo it k g mb m (i + 1) s) fun f _ F' as' σ' H' => match f with
            | .nx => D.nx σ' H'
            | .bk => D.bk σ' H'
            | .ct => D.ct σ' H'
            | .rt x => ∀ v, RepS X.K CT F' as' v x → D.rt v H', fun σ' H' z => ⟨m, Nat.lt_succ_self m, z⟩, fun v H' y => ?_⟩
          obtain ⟨F, e0, n, rv⟩ := It'.yld n r q y
          replace r := r.mono e0
          replace h := Out.ext e0 h
          refine ⟨F, as, s, .d x, n, rv, (h.bind0 fun _ _ => trivial).imp (fun _ z => z) fun _ s2 F2 as2 σ2 H2 _ _ e2 n2 h2 _ => ?_⟩
          refine ⟨F2, as2, s2, n2, ((Out.ext e2 h2).bind0 fun _ _ => trivial).imp (fun _ z => z) fun f s3 F3 as3 σ3 H3 qb _ e3 n3 h3 => ?_⟩
          rw [qb] at h2
          have h2 : Out X.K CT (fun _ => True) E F as (match f with
            | .nx => match trunc k s3 with
              | some s => forGo it k g mb m (i + 1) s
              | none => .stuck
            | .ct => match trunc k s3 with
              | some s => forGo it k g mb m (i + 1) s
              | none => .stuck
            | .bk => .ok .nx s3
            | .rt x => .ok (.rt x) s3) _ := h2
          have next : Out X.K CT (fun _ => True) E F as (match trunc k s3 with
              | some s => forGo it k g mb m (i + 1) s
              | none => .stuck) (fun f _ F' as' σ' H' => match f with
            | .nx => D.nx σ' H'
            | .bk => D.bk σ' H'
            | .ct => D.ct σ' H'
            | .rt x => ∀ v, RepS X.K CT F' as' v x → D.rt v H') → ∃ F as s, Env X.K CT F as H3 σ3 s ∧ as.length = k ∧ ItOk X.K CT F as J it ∧ Out X.K CT (fun _ => True) E F as (forGo it k g mb m (i + 1) s) fun f _ F' as' σ' H' => match f with
            | .nx => D.nx σ' H'
            | .bk => D.bk σ' H'
            | .ct => D.ct σ' H'
            | .rt x => ∀ v, RepS X.K CT F' as' v x → D.rt v H' := fun w => by
            cases qt : trunc k s3 with
            | none => simp only [qt] at w; exact w.elim
            | some s4 =>
              simp only [qt] at w
              have e := e2.trans e3
              have n4 := n3.trunc qt
              rw [take_ext e hl] at n4
              have ef : Ext F as F3 as := Ext.sub e.1
              exact ⟨F3, as, s4, n4, hl, r.mono ef, Out.ext ef w⟩
          cases f with
          | nx => exact next h2
          | ct => exact next h2
          | bk => exact Out.there h2 trivial (e2.trans e3) n3
          | rt x => exact Out.there h2 trivial (e2.trans e3) n3
/-! ### sources -/
variable {a b : Expr} {tg : Expr} {m m' : ME}
theorem PI.or {e : Expr} {t t' : TI} (h : PI X tg e t) (h' : PI X tg e t') : PI X tg e (fun σ H R => t σ H R ∨ t' σ H R) := ⟨fun pins s σ H R I q => by
  rcases q with q | q
  · exact h.run pins s σ H R I q
  · exact h'.run pins s σ H R I q⟩
/-- a list or a tuple, by what the mirror says it is -/
theorem mi_seq (h : PE X a (up X.K CT E m)) : PI X tg a (upI X.K CT E (jSeq m)) :=
  PI.imp (PI.or (pi_list h) (PI.or (pi_tup h) (pi_str h))) fun σ H R ⟨F, as, s, n, o⟩ => by
    cases q : m s with
    | err e s1 =>
      rw [jSeq, q] at o
      exact .inl ⟨F, as, s, n, by rw [q]; exact o⟩
    | stuck =>
      rw [jSeq, q] at o
      exact o.elim
    | ok x s1 =>
      rw [jSeq, q, bind_ok] at o
      cases x with
      | d y =>
        cases y with
        | lst xs => exact .inl ⟨F, as, s, n, by
            rw [q]
            intro F1 as1 σ1 H1 o1 e1 n1 v r
            subst o1
            have r : Rep X.K CT F1 v (.lst xs) := r
            cases r with
            | lst q1 q2 => exact ⟨_, rfl, ⟨_, SqL.of (n1.sub _ _ q1)⟩, o.there (σ := σ1) rfl e1 n1 _ (.inl ⟨_, _, rfl, SqL.of q1, q2⟩)⟩⟩
        | str z => exact .inr (.inr ⟨F, as, s, n, by
            rw [q]
            intro F1 as1 σ1 H1 o1 e1 n1 v r
            subst o1
            have r : Rep X.K CT F1 v (.str z) := r
            cases r with
            | str _ q1 q2 => exact ⟨z, rfl, o.there (σ := σ1) rfl e1 n1 _ (.inr (.inr ⟨z, rfl, rfl, q2⟩))⟩⟩)
        | tup xs => exact .inr (.inl ⟨F, as, s, n, by
            rw [q]
            intro F1 as1 σ1 H1 o1 e1 n1 v r
            subst o1
            have r : Rep X.K CT F1 v (.tup xs) := r
            cases r with
            | tup q1 q2 => exact ⟨_, rfl, ⟨_, SqT.of (n1.sub _ _ q1)⟩, o.there (σ := σ1) rfl e1 n1 _ (.inr (.inl ⟨_, _, rfl, SqT.of q1, q2⟩))⟩⟩)
        | _ => exact o.elim
      | cell k =>
        cases w : s1.w[k]? with
        | none => simp only [w] at o; exact o.elim
        | some c =>
          cases c with
          | lst xs =>
            simp only [w] at o
            exact .inl ⟨F, as, s, n, by
              rw [q]
              intro F1 as1 σ1 H1 o1 e1 n1 v r
              subst o1
              obtain ⟨b, hb, rfl⟩ := r
              obtain ⟨a', vs, ha, hf, hh, rr⟩ := n1.cell w
              rw [hb] at ha
              cases ha
              exact ⟨_, rfl, ⟨_, SqL.of hh⟩, o.there (σ := σ1) rfl e1 n1 _ ⟨_, hb, rfl⟩⟩⟩
          | _ => simp only [w] at o; exact o.elim
theorem rngOk_of {i : Int} (h : rngOk i = true) : -(2 ^ 62) ≤ i ∧ i < 2 ^ 62 := by
  unfold rngOk at h
  rw [Bool.and_eq_true] at h
  exact ⟨of_decide_eq_true h.1, of_decide_eq_true h.2⟩
theorem mi_rng1 (hm : X.mg "range" = none) (h : PE X a (up X.K CT E m)) (hg : Gl X "range") (h1 : starEach [a] X.env = (false, eval a X.env) :: starEach [] X.env := by rfl) (hs : starEach [a] X.env = [(false, eval a X.env)] := by rfl) : PI X tg (.Call (.Name "range" p) [a] [] pos) (upI X.K CT E (jRng1 m)) :=
  PI.imp (pi_range1 hg hm (pa_cons h pa_nil h1) hs) fun σ H R ⟨F, as, s, n, h⟩ => by
    refine up_seq n h rfl fun v x s1 F1 as1 H1 e1 n1 r1 h1 => ?_
    cases x with
    | d y =>
      cases y with
      | int j =>
        have r1 : Rep X.K CT F1 v (.int j) := r1
        cases r1
        by_cases q : rngOk j = true
        · simp only [q, if_true] at h1
          obtain ⟨q1, q2⟩ := rngOk_of q
          exact ⟨j, rfl, q1, q2, h1.here (σ := σ) rfl n1 _ rfl⟩
        · simp only [q] at h1; exact h1.elim
      | _ => exact h1.elim
    | cell k => exact h1.elim
/-! ### comprehensions -/
theorem wipeG_len (vs : List Nat) (g : List (Option SV)) : (wipeG vs g).length = g.length := by
  induction vs with
  | nil => rfl
  | cons v vs ih => show ((wipeG vs g).set v none).length = _; rw [List.length_set, ih]
theorem wipeG_some {g : List (Option SV)} {i : Nat} {x : SV} : ∀ {vs : List Nat}, (wipeG vs g)[i]? = some (some x) → g[i]? = some (some x) ∧ i ∉ vs
  | [], h => ⟨h, by simp⟩
  | v :: vs, h => by
    have h : ((wipeG vs g).set v none)[i]? = some (some x) := h
    by_cases hi : v = i
    · subst hi
      by_cases hv : v < (wipeG vs g).length
      · rw [List.getElem?_set_self hv] at h; cases h
      · rw [List.getElem?_eq_none (by simpa using hv)] at h; cases h
    · rw [List.getElem?_set_ne hi] at h
      obtain ⟨h1, h2⟩ := wipeG_some h
      exact ⟨h1, by simp only [List.mem_cons, not_or]; exact ⟨fun e => hi e.symm, h2⟩⟩
theorem wipe_keep {σ : Sto} {i : Nat} : ∀ {vs : List Nat}, i ∉ vs → (wipe σ vs)[i]? = σ[i]?
  | [], _ => rfl
  | v :: vs, h => by
    have h1 : v ≠ i := fun e => h (by rw [e]; exact List.mem_cons_self)
    have h2 : i ∉ vs := fun m => h (List.mem_cons_of_mem _ m)
    unfold wipe
    rw [List.getElem?_set_ne h1]
    exact wipe_keep h2
theorem Env.wipe {K : PySem.W.Frag} {F H : Hp} {as : List Addr} {σ : Sto} {s : PS} (n : Env K CT F as H σ s) (vs : List Nat) : Env K CT F as H (L2.wipe σ vs) { s with g := wipeG vs s.g } := by
  refine ⟨n.sub, n.wk, by rw [wipeG_len, wipe_length]; exact n.gl, fun i x h => ?_⟩
  obtain ⟨h1, h2⟩ := wipeG_some h
  obtain ⟨v, h3, h4⟩ := n.sl i x h1
  exact ⟨v, by rw [wipe_keep h2]; exact h3, h4⟩
/-- the slots that a block has left, wiped again -/
theorem Env.wiped {K : PySem.W.Frag} {F H : Hp} {as : List Addr} {σ σ2 : Sto} {s : PS} (n : Env K CT F as H σ2 s) {vs : List Nat} (e : L2.wipe σ2 vs = L2.wipe σ vs) : Env K CT F as H (L2.wipe σ vs) { s with g := wipeG vs s.g } := by
  rw [← e]
  exact n.wipe vs
theorem backG_len (vs : List Nat) (g0 g : List (Option SV)) : (backG vs g0 g).length = g.length := by
  induction vs with
  | nil => rfl
  | cons v vs ih => show ((backG vs g0 g).set v _).length = _; rw [List.length_set, ih]
theorem backG_some {g0 g : List (Option SV)} {i : Nat} {x : SV} : ∀ {vs : List Nat}, (backG vs g0 g)[i]? = some (some x) → (i ∈ vs ∧ ∃ y, x = .d y ∧ g0[i]? = some (some (.d y))) ∨ (i ∉ vs ∧ g[i]? = some (some x))
  | [], h => .inr ⟨by simp, h⟩
  | v :: vs, h => by
    have h : ((backG vs g0 g).set v (match g0[v]? with
      | some (some (.d x)) => some (.d x)
      | _ => none))[i]? = some (some x) := h
    by_cases hi : v = i
    · subst hi
      by_cases hv : v < (backG vs g0 g).length
      · rw [List.getElem?_set_self hv] at h
        left
        refine ⟨List.mem_cons_self, ?_⟩
        split at h
        · rename_i y q
          simp only [Option.some.injEq] at h
          exact ⟨y, h.symm, q⟩
        · cases h
      · rw [List.getElem?_eq_none (by simpa using hv)] at h; cases h
    · rw [List.getElem?_set_ne hi] at h
      rcases backG_some h with ⟨h1, h2⟩ | ⟨h1, h2⟩
      · exact .inl ⟨List.mem_cons_of_mem _ h1, h2⟩
      · exact .inr ⟨by simp only [List.mem_cons, not_or]; exact ⟨fun e => hi e.symm, h1⟩, h2⟩
theorem Env.back {K : PySem.W.Frag} {F F0 H H0 : Hp} {as as0 : List Addr} {σ : Sto} {s s0 : PS} {vs : List Nat} (n : Env K CT F as H (L2.wipe σ vs) s) (n0 : Env K CT F0 as0 H0 σ s0) (e : Sub F0 F) : Env K CT F as H σ { s with g := backG vs s0.g s.g } := by
  refine ⟨n.sub, n.wk, by rw [backG_len, n.gl, wipe_length], fun i x h => ?_⟩
  rcases backG_some h with ⟨h1, y, rfl, h2⟩ | ⟨h1, h2⟩
  · obtain ⟨v, h3, h4⟩ := n0.sl i _ h2
    exact ⟨v, h3, Rep.mono K CT e y v h4⟩
  · obtain ⟨v, h3, h4⟩ := n.sl i x h2
    rw [wipe_keep h1] at h3
    exact ⟨v, h3, h4⟩
abbrev EF : Sto → XK := fun _ _ _ _ => False
theorem Out.ns {α : Type} {K : PySem.W.Frag} {F : Hp} {as : List Addr} {ok : Sto → Prop} {r : R α} {Q : α → PS → Hp → List Addr → Sto → Hp → Prop} (h : Out K CT ok E F as r Q) : r ≠ .stuck := fun e => by rw [e] at h; exact h
/-- the reading of a comprehension whose list is a cell -/
theorem lc_read {mi : MI} {own : List Nat} {g : MG} {t : MT} {e : ME} {σ : Sto} {H : Hp} {Q : VK} (h : up X.K CT E (vLcN mi own g t e) σ H Q) :
    tLc (upI X.K CT E mi) (upG X.K CT (fun σ => L2.wipe σ own) EF g) (upT X.K CT EF t) (up X.K CT EF e) own σ H Q := by
  obtain ⟨F, as, s, n, h⟩ := h
  refine upI_seq n h rfl fun J it s1 F1 as1 H1 e1 n1 r1 h1 => ?_
  intro D hD
  obtain ⟨eN, nN⟩ := n1.newC (p := D) (vs := []) (xs := []) hD .nil
  generalize hk : s1.w.length = k at h1
  have hk' : as1.length = k := by rw [← n1.wk.len]; exact hk
  let Qf : SV → PS → Hp → List Addr → Sto → Hp → Prop := fun x _ F' as' _ H' => ∀ v, RepS X.K CT F' as' v x → Q v H'
  let P : Nat → Nat → Hp → Prop := fun i m H => ∃ F s, Sub F1 F ∧ Env X.K CT F (as1 ++ [D]) H (L2.wipe σ own) s ∧ Out X.K CT (fun σ' => σ' = σ) E F1 as1 ((lcGo it k own g t e m i s).bind fun _ s' => .ok (.cell k) { s' with g := backG own s1.g s'.g }) Qf
  refine ⟨P, ⟨it.fuel s1, F1, _, Sub.refl F1, nN.wipe own, h1⟩, ?_⟩
  rintro i m H ⟨F, s, eF, n, h⟩
  have eD : Ext F1 as1 F (as1 ++ [D]) := ⟨eF, [D], rfl⟩
  have r := r1.mono eD
  have stop : it.at s i = some none → lcGo it k own g t e m i s = .ok () s → (J.stop i H ∧ Q (.ref D) H) := fun q hq => by
    rw [hq] at h
    refine ⟨It'.stop n r q, ?_⟩
    exact Out.there h (σ := σ) rfl eD (n.back n1 eF) _ ⟨D, by rw [← hk', List.getElem?_append_right (Nat.le_refl _)]; simp, rfl⟩
  cases q : it.at s i with
  | none => cases m <;> (unfold lcGo at h; simp only [q] at h; exact h.elim)
  | some o =>
    cases o with
    | none =>
      refine .inl ?_
      cases m with
      | zero => exact stop q (by unfold lcGo; simp only [q])
      | succ m => exact stop q (by unfold lcGo; simp only [q])
    | some x =>
      cases m with
      | zero => unfold lcGo at h; simp only [q] at h; exact h.elim
      | succ m =>
        unfold lcGo at h
        simp only [q] at h
        refine .inr ⟨It'.go n r q, P (i + 1) m, fun H' z => ⟨m, Nat.lt_succ_self m, z⟩, fun v H' y => ?_⟩
        obtain ⟨F, e0, n, rv⟩ := It'.yld n r q y
        replace r := r.mono e0
        replace eF := eF.trans e0.1
        replace eD := eD.trans e0
        -- the turn's outcome is known part by part
        have ns1 := h.ns
        cases qg : g (.d x) s with
        | err => rw [qg] at h; exact h.elim
        | stuck => rw [qg] at h; exact h.elim
        | ok u s2 =>
          rw [qg, nox_ok, bind_ok] at h
          refine ⟨F, _, s, .d x, n, rv, ?_⟩
          rw [qg]
          intro F2 as2 σ2 H2 o2 e2 n2 hφ
          have w2 : L2.wipe σ2 own = L2.wipe σ own := by
            have o2 : L2.wipe σ2 own = L2.wipe (L2.wipe σ own) own := o2
            have id : ∀ (vs : List Nat), (∀ v ∈ vs, v ∈ own) → L2.wipe (L2.wipe σ own) vs = L2.wipe σ own := by
              intro vs
              induction vs with
              | nil => intro _; rfl
              | cons v vs ih =>
                intro hv
                show (L2.wipe (L2.wipe σ own) vs).set v none = _
                rw [ih fun w hw => hv w (List.mem_cons_of_mem _ hw)]
                refine List.ext_getElem? fun j => ?_
                by_cases hj : v = j
                · subst hj
                  by_cases hl : v < (L2.wipe σ own).length
                  · rw [List.getElem?_set_self hl]
                    cases z : (L2.wipe σ own)[v]? with
                    | none => rw [List.getElem?_eq_getElem hl] at z; cases z
                    | some o =>
                      cases o with
                      | none => rfl
                      | some a => exact absurd (hv v List.mem_cons_self) (wipe_some z).2
                  · rw [List.getElem?_eq_none (by simpa using hl), List.getElem?_eq_none (by simpa using hl)]
                · rw [List.getElem?_set_ne hj]
            rw [o2]
            exact id own fun _ z => z
          refine ⟨w2, ?_⟩
          cases qt : t s2 with
          | err => rw [qt] at h; exact h.elim
          | stuck => rw [qt] at h; exact h.elim
          | ok c s3 =>
            rw [qt, nox_ok, bind_ok] at h
            refine ⟨F2, as2, s2, n2, ?_⟩
            rw [qt]
            intro F3 as3 σ3 H3 o3 e3 n3
            subst o3
            have e23 : Ext F (as1 ++ [D]) F3 as3 := e2.trans e3
            have hl1 : (as1 ++ [D]).length = k + 1 := by rw [List.length_append, hk']; rfl
            cases c with
            | false =>
              simp only [Bool.false_eq_true, if_false] at h ⊢
              cases qr : trunc (k + 1) s3 with
              | none => rw [qr] at h; exact h.elim
              | some s4 =>
                simp only [qr] at h
                have n4 := n3.trunc qr
                rw [take_ext e23 hl1] at n4
                exact ⟨F3, _, eF.trans e23.1, n4.wiped w2, h⟩
            | true =>
              simp only [if_true] at h ⊢
              cases qe : e s3 with
              | err => rw [qe] at h; exact h.elim
              | stuck => rw [qe] at h; exact h.elim
              | ok z s4 =>
                rw [qe, nox_ok, bind_ok] at h
                refine ⟨F3, as3, s3, n3, ?_⟩
                rw [qe]
                intro F4 as4 σ4 H4 o4 e4 n4 w rw'
                subst o4
                cases qz : frz s4 z with
                | none => simp only [qz] at h; exact h.elim
                | some pp =>
                  obtain ⟨yd, s5⟩ := pp
                  simp only [qz] at h
                  obtain ⟨F5, e5, q5, n5⟩ := n4.frz rw' qz
                  cases qw : s5.w[k]? with
                  | none => simp only [qw] at h; exact h.elim
                  | some c =>
                    cases c with
                    | lst acc =>
                      simp only [qw] at h
                      by_cases hz : acc.length < sizeLine
                      · simp only [hz, if_true] at h
                        have e05 : Ext F (as1 ++ [D]) F5 as4 := e23.trans (e4.trans e5)
                        obtain ⟨aD, vs, ha, hf, hh, rr⟩ := n5.cell qw
                        have hD' : as4[k]? = some D := e05.at (by rw [← hk', List.getElem?_append_right (Nat.le_refl _)]; simp)
                        rw [hD'] at ha
                        cases ha
                        refine ⟨vs, hh, by rw [rr.length]; exact hz, ?_⟩
                        have n6 := n5.setC (ws := vs ++ [w]) (ys := acc ++ [yd]) qw hD' hf (rr.append (.one q5))
                        cases qr : trunc (k + 1) { s5 with w := s5.w.set k (.lst (acc ++ [yd])) } with
                        | none => rw [qr] at h; exact h.elim
                        | some s6 =>
                          simp only [qr] at h
                          have n7 := n6.trunc qr
                          rw [take_ext e05 hl1] at n7
                          exact ⟨F5, _, eF.trans e05.1, n7.wiped w2, h⟩
                      · simp only [hz, if_false] at h; exact h.elim
                    | _ => simp only [qw] at h; exact h.elim
end
end Bf
/-! The mirror layer: comprehensions as terms, calls of defs, a def's promise. -/
namespace Bf
open PySem PySem.Spec PyProof.Rows L2
section
variable {X : Cx} {CT : Ctx} {E : Sto → XK} {pos p spos : Pos}
/-! ### comprehensions -/
theorem mts_nil {X : Cx} {E : Sto → XK} : PTs X [] (upT X.K CT E cYes) := ⟨fun pins s σ H Q I ⟨F, as, S, n, h⟩ => pts_nil.run pins s σ H Q I (h.here rfl n)⟩
/-- a block's context -/
abbrev Bk (X : Cx) (scope : Scope) (s : Shared) (H : Hp) (C : Addr) (cl : List (Str × Addr)) (fp : List Addr) : Cx := X.blk s H scope (compEnvC scope cl C X.env) fp
theorem bk_cq (hx : Cq X E) {scope : Scope} {s : Shared} {H : Hp} {C : Addr} {cl : List (Str × Addr)} {fp : List Addr} : Cq (Bk X scope s H C cl fp) EF := ⟨hx.calm, PassesOwn.never, fun _ => passAt0, hx.nd, LamX.takes0⟩
variable {elt tg iter : Expr} {ifs : List Expr} {scope : Scope} {own : List (Str × Nat)} {mi : MI} {g : MG} {t : MT} {e : ME}
theorem me_lcN (hx : Cq X E) (hi : PI X tg iter (upI X.K CT E mi)) (ok : BlkOk X.N X.env.scope scope own)
    (hg : ∀ s H C cl fp, PG (Bk X scope s H C cl fp) tg (upG X.K CT (fun σ => L2.wipe σ (own.map (·.2))) EF g)) (ht : ∀ s H C cl fp, PTs (Bk X scope s H C cl fp) ifs (upT X.K CT EF t))
    (he : ∀ s H C cl fp, PE (Bk X scope s H C cl fp) elt (up X.K CT EF e)) (hs : ∀ x, foldedSetIterable iter X.env x = pure x := by intro _; rfl) :
    PE X (.ListComp elt [⟨tg, iter, ifs, 0⟩] scope pos) (up X.K CT E (vLcN mi (own.map (·.2)) g t e)) :=
  PE.imp (pe_lc hx.calm hx.nd hi ok hg ht he hs) fun _ _ _ h => lc_read h
/-! ### a def's promise -/
/-- the promise: what the mirror f says -/
def spF (K : PySem.W.Frag) (CT : Ctx) (n : Nat) (f : Fn) : Sp := fun vs H Q E => vs.length = n ∧ ∃ F as w xs, Sub F H ∧ Wk K CT F as H w ∧ RepSs K CT F as vs xs ∧ match f xs w with
  | .ok x w' => ∀ v F' as' H', Ext F as F' as' → Sub F' H' → Wk K CT F' as' H' w' → RepS K CT F' as' v x → Q v H'
  | .err e w' => ∀ c dx F' as' H', Ext F as F' as' → Sub F' H' → Wk K CT F' as' H' w' → ExcOk K CT F' H' e c dx → E c dx H'
  | .stuck => False
/-- the def at fa keeps it -/
abbrev Fq (P : Program) (w : World) (K : PySem.W.Frag) (mg : Str → Option Value) (base : Heap) (CT : Ctx) (k : Nat) (fa : Addr) (fd : FuncData) (ps : List Str) (f : Fn) : Prop := FnOk P w K mg base (L2.CX P w) k fa fd ps (spF K CT ps.length f)
variable {x : Str} {k : Nat} {fa : Addr} {fd : FuncData} {ps : List Str} {f : Fn} {a : Expr} {es : List Expr} {mr : MA}
theorem call_read {σ : Sto} {H : Hp} {Q : VK} {n : Nat} (hl : ∀ s xs s', mr s = .ok xs s' → xs.length = n) (h : up X.K CT E (vCall f mr) σ H Q) : tCallS (spF X.K CT n f) E (upA X.K CT E mr) σ H Q := by
  obtain ⟨F, as, s, n1, h⟩ := h
  refine ⟨F, as, s, n1, (h.bind (ok := fun σ' => σ' = σ) fun _ z => z).imp (fun _ z => z) fun xs s1 F1 as1 σ1 H1 q0 o1 e1 n2 h1 vs r1 => ?_⟩
  subst o1
  refine ⟨by rw [r1.length]; exact hl _ _ _ q0, F1, as1, s1.w, xs, n2.sub, n2.wk, r1, ?_⟩
  have env : ∀ {w : List Cell} {F' : Hp} {as' : List Addr} {H' : Hp}, Ext F1 as1 F' as' → Sub F' H' → Wk X.K CT F' as' H' w → Env X.K CT F' as' H' σ1 { s1 with w := w } := fun ex sb wk => ⟨sb, wk, n2.gl, fun i x hx => by
    obtain ⟨v, h1, h2⟩ := n2.sl i x hx
    exact ⟨v, h1, h2.mono ex⟩⟩
  cases q : f xs s1.w with
  | ok x w =>
    simp only [q] at h1
    exact fun v F' as' H' ex sb wk r => h1.there (σ := σ1) rfl ex (env ex sb wk) v r
  | err e w =>
    simp only [q] at h1
    exact fun c dx F' as' H' ex sb wk r => h1 c dx F' as' σ1 H' rfl ex (env ex sb wk) r
  | stuck =>
    simp only [q] at h1
    exact h1.elim
/-- f(a, ..) -/
theorem me_call (hx : Cq X E) (Fk : Fq X.prog X.w X.K X.mg X.base CT k fa fd ps f) (hm : X.mg x = some (.ref fa)) (hk : PySem.W.keepIn X.K (.ref fa) = true) (hb : Binds X.K fd ps []) (hr : Room k X.A) (hg : Gl X x)
    (ha : PA X (a :: es) (upA X.K CT E mr)) (hl : ∀ s xs s', mr s = .ok xs s' → xs.length = ps.length) (hdb : (x == ("__debug__" : Str)) = false := by decide) (he : starEach (a :: es) X.env = (false, eval a X.env) :: starEach es X.env := by rfl) (hpl : (backTo pos (starEach es X.env)).any (·.1) = false := by rfl) :
    PE X (.Call (.Name x p) (a :: es) [] pos) (up X.K CT E (vCall f mr)) :=
  PE.imp (pe_callS (E := E) Fk hr hg hm hk hb hx.pass ha hdb he hpl) fun _ _ _ h => call_read hl h
theorem len_nil : ∀ s xs s', aNil s = .ok xs s' → xs.length = 0 := fun s xs s' h => by
  cases h
  rfl
theorem len_cons {m : ME} {n : Nat} (h : ∀ s xs s', mr s = .ok xs s' → xs.length = n) : ∀ s xs s', aCons m mr s = .ok xs s' → xs.length = n + 1 := fun s xs s' q => by
  unfold aCons at q
  cases q1 : m s with
  | ok x s1 =>
    rw [q1, bind_ok] at q
    cases q2 : mr s1 with
    | ok ys s2 =>
      rw [q2, bind_ok] at q
      cases q
      rw [List.length_cons, h _ _ _ q2]
    | err => rw [q2] at q; cases q
    | stuck => rw [q2] at q; cases q
  | err => rw [q1] at q; cases q
  | stuck => rw [q1] at q; cases q
end
section
variable {P : Program} {w : World} {K : PySem.W.Frag} {mg : Str → Option Value} {base : Heap} {CT : Ctx} {k : Nat} {fa : Addr} {fd : FuncData} {x qual : Str} {st : Stmt} {N ps : List Str} {mb : MS}
theorem RepSs.get {F : Hp} {as : List Addr} {vs : List V} {xs : List SV} (r : RepSs K CT F as vs xs) : ∀ {i : Nat} {y : SV}, xs[i]? = some y → ∃ v, vs[i]? = some v ∧ RepS K CT F as v y := by
  induction r with
  | nil => intro i y h; simp at h
  | cons h1 _ ih =>
    intro i y h
    cases i with
    | zero =>
      simp at h
      subst h
      exact ⟨_, rfl, h1⟩
    | succ i =>
      obtain ⟨v, e, q⟩ := ih (i := i) (y := y) (by simpa using h)
      exact ⟨v, by simpa using e, q⟩
theorem retW_take {n : Nat} {x y : SV} {w w' : List Cell} {F H : Hp} {as : List Addr} {v : V} (wk : Wk K CT F as H w) (r : RepS K CT F as v x) (h : retW n x w = some (y, w')) (hn : n ≤ w.length) :
    ∃ as', (as'.take n = as.take n) ∧ n ≤ as'.length ∧ Wk K CT F as' H w' ∧ RepS K CT F as' v y := by
  unfold retW at h
  split at h
  · rename_i hb
    cases x with
    | d z =>
      simp only [Option.some.injEq, Prod.mk.injEq] at h
      obtain ⟨rfl, rfl⟩ := h
      exact ⟨as.take n, by rw [List.take_take, Nat.min_self], by rw [List.length_take, ← wk.len]; omega, wk.take n hb, r⟩
    | cell k =>
      dsimp only at h
      split at h
      · rename_i hk
        simp only [Option.some.injEq, Prod.mk.injEq] at h
        obtain ⟨rfl, rfl⟩ := h
        exact ⟨as.take n, by rw [List.take_take, Nat.min_self], by rw [List.length_take, ← wk.len]; omega, wk.take n hb, below_mono (decide_eq_true hk) r⟩
      · rename_i hk
        cases q : w[k]? with
        | none => simp only [q] at h; cases h
        | some c =>
          simp only [q] at h
          split at h
          · rename_i hc
            simp only [Option.some.injEq, Prod.mk.injEq] at h
            obtain ⟨rfl, rfl⟩ := h
            obtain ⟨a, ha, rfl⟩ := r
            have t := wk.take n hb
            have l1 : (w.take n).length = n := by rw [List.length_take]; omega
            have l2 : (as.take n).length = n := by rw [← t.len]; exact l1
            have na : a ∉ as.take n := fun m => by
              obtain ⟨j, hj⟩ := List.getElem?_of_mem m
              have hjn : j < n := by
                have := (List.getElem?_eq_some_iff.mp hj).1
                omega
              rw [List.getElem?_take_of_lt hjn] at hj
              have := nodup_at wk.nd hj ha
              omega
            refine ⟨as.take n ++ [a], by rw [List.take_append_of_le_length (by omega), List.take_take, Nat.min_self], by simp [l2], ⟨by simp [l1, l2], List.nodup_append.mpr ⟨t.nd, by simp, fun b m d md => ?_⟩, wk.tb.sub (fun b m => (List.mem_append.mp m).elim (fun z => List.mem_of_mem_take z) fun z => by rw [List.mem_singleton.mp z]; exact List.mem_of_getElem? ha), fun b m => ?_, fun j d b h1 h2 => ?_⟩, ⟨a, by rw [List.getElem?_append_right (by omega), l2]; simp, rfl⟩⟩
            · rw [List.mem_singleton] at md
              subst md
              exact fun z => na (z ▸ m)
            · rcases List.mem_append.mp m with m | m
              · exact t.live b m
              · rw [List.mem_singleton] at m
                subst m
                exact wk.live _ (List.mem_of_getElem? ha)
            · have tk : ∀ {c : Cell} {b : Addr}, cellBelow n c = true → CellOk K CT F as H b c → CellOk K CT F (as.take n ++ [a]) H b c := fun {c b} hc hh => by
                have q1 := hh.take (k := n) hc
                rcases q1.none with z | z
                · subst z; trivial
                · exact q1.mono ⟨Sub.refl F, [a], rfl⟩ z rfl
              by_cases hj : j < n
              · rw [List.getElem?_append_left (by omega)] at h1 h2
                have hcb := List.all_eq_true.mp hb d (List.mem_of_getElem? h1)
                rw [List.getElem?_take_of_lt hj] at h1 h2
                exact tk hcb (wk.ok j d b h1 h2)
              · rw [List.getElem?_append_right (by omega)] at h1 h2
                rw [l1] at h1
                rw [l2] at h2
                cases jj : j - n with
                | zero =>
                  rw [jj] at h1 h2
                  simp at h1 h2
                  subst h1 h2
                  exact tk hc (wk.ok k _ _ q ha)
                | succ m => rw [jj] at h2; simp at h2
          · cases h
  · cases h
theorem ext_of_take {F F' : Hp} {as as1 as2 : List Addr} {n : Nat} (e : Ext F as F' as1) (hn : as.length = n) (ht : as2.take n = as1.take n) (hl : n ≤ as2.length) : Ext F as F' as2 := by
  obtain ⟨e1, t, rfl⟩ := e
  refine ⟨e1, as2.drop n, ?_⟩
  rw [← hn, List.take_left] at ht
  rw [← hn]
  conv => lhs; rw [← List.take_append_drop as.length as2]
  rw [ht]
/-- THE RULE: the body's mirror is the def's -/
theorem fn_q (Fn' : Fun K x qual st fa fd) (S : FnScope N ps (defScope st)) (hN : ps.length ≤ N.length)
    (hbody : ∀ (cdv : Value) (A : Around) (outer : List PySem.Env) (s : Shared) (H : Hp) (E : XK), Room k (cxOf (L2.CX P w) P w K mg base N qual (defScope st) fa cdv A outer s H E).A → Cq (cxOf (L2.CX P w) P w K mg base N qual (defScope st) fa cdv A outer s H E) (fun _ => E) →
      PSs (cxOf (L2.CX P w) P w K mg base N qual (defScope st) fa cdv A outer s H E) (defBody st) (upS K CT (fun _ => E) mb)) :
    Fq P w K mg base CT (k + 1) fa fd ps (fnM N.length mb) := by
  refine Fn'.okX S (fun vs H Q E h => h.1) (fun cdv A outer s H vs Q E hr h => ?_)
  obtain ⟨hl, F, as, ws, xs, sub, wk, r, h⟩ := h
  let X := cxOf (L2.CX P w) P w K mg base N qual (defScope st) fa cdv A outer s H E
  have hcq : Cq X (fun _ => E) := ⟨rfl, passes_of rfl, fun σ => passAt (W := fun c d _ H => E c d H) (takes_of rfl rfl rfl rfl) σ, S.nd, takes_of rfl rfl rfl rfl⟩
  refine ⟨_, hbody cdv A outer s H E hr hcq, ?_⟩
  have hlx : vs.length = xs.length := r.length
  have env : Env K CT F as H (L2.start N vs) { g := xs.map some ++ List.replicate (N.length - xs.length) none, w := ws } := by
    refine ⟨sub, wk, ?_, fun i y hy => ?_⟩
    · unfold L2.start
      simp only [List.length_append, List.length_map, List.length_replicate]
      omega
    · have hy : (xs.map some ++ List.replicate (N.length - xs.length) none)[i]? = some (some y) := hy
      by_cases hi : i < xs.length
      · rw [List.getElem?_append_left (by simpa using hi), List.getElem?_map] at hy
        cases q : xs[i]? with
        | none => rw [q] at hy; cases hy
        | some z =>
          rw [q] at hy
          cases hy
          obtain ⟨v, h1, h2⟩ := r.get q
          refine ⟨v, ?_, h2⟩
          unfold L2.start
          rw [List.getElem?_append_left (by simp; omega), List.getElem?_map, h1]
          rfl
      · rw [List.getElem?_append_right (by simpa using hi), List.getElem?_replicate] at hy
        split at hy <;> cases hy
  refine ⟨F, as, _, env, ?_⟩
  have hw : ws.length = as.length := wk.len
  -- the wanted ends, from the mirror's outcome
  have fin : ∀ {y z : SV} {s1 : PS} {w1 : List Cell} {F' : Hp} {as' : List Addr} {H' : Hp} {σ' : Sto} {v : V}, Env K CT F' as' H' σ' s1 → Ext F as F' as' → RepS K CT F' as' v y → retW ws.length y s1.w = some (z, w1) →
      ∃ as2, Ext F as F' as2 ∧ Wk K CT F' as2 H' w1 ∧ RepS K CT F' as2 v z := fun {y z s1 w1 F' as' H' σ' v} n e rv q => by
    have hle : ws.length ≤ s1.w.length := by
      rw [n.wk.len, hw]
      obtain ⟨_, t, rfl⟩ := e
      simp
    obtain ⟨as2, h1, h2, h3, h4⟩ := retW_take n.wk rv q hle
    rw [hw] at h1 h2
    exact ⟨as2, ext_of_take e rfl h1 h2, h3, h4⟩
  unfold fnM at h
  cases q : mb { g := xs.map some ++ List.replicate (N.length - xs.length) none, w := ws } with
  | stuck => rw [q] at h; exact h.elim
  | err e s1 =>
    rw [q] at h
    intro c dx F' as' σ' H' _ ex n rx
    cases q2 : retW ws.length (.d .non) s1.w with
    | none => simp only [q2] at h; try exact h.elim
    | some pp =>
      obtain ⟨z, w1⟩ := pp
      simp only [q2] at h
      obtain ⟨as2, e2, wk2, _⟩ := fin (y := .d .non) (v := .non) n ex Rep.non q2
      exact h c dx F' as2 H' e2 n.sub wk2 rx
  | ok fl s1 =>
    rw [q] at h
    intro F' as' σ' H' _ ex n
    cases fl with
    | nx =>
      cases q2 : retW ws.length (.d .non) s1.w with
      | none => simp only [q2] at h; try exact h.elim
      | some pp =>
        obtain ⟨z, w1⟩ := pp
        simp only [q2] at h
        obtain ⟨as2, e2, wk2, r2⟩ := fin (y := .d .non) (v := .non) n ex Rep.non q2
        exact h .non F' as2 H' e2 n.sub wk2 r2
    | rt y =>
      intro v rv
      cases q2 : retW ws.length y s1.w with
      | none => simp only [q2] at h; try exact h.elim
      | some pp =>
        obtain ⟨z, w1⟩ := pp
        simp only [q2] at h
        obtain ⟨as2, e2, wk2, r2⟩ := fin n ex rv q2
        exact h v F' as2 H' e2 n.sub wk2 r2
    | bk => exact h.elim
    | ct => exact h.elim
end
end Bf
/-! The mirror layer: built-in functions and methods, slices from behind. -/
namespace Bf
open PySem PySem.Spec PyProof.Rows L2
/-! ### on data -/
def lenB : List D → Option D
  | [x] => lenD x
  | _ => none
def absB : List D → Option D
  | [.int i] => some (.int (if i < 0 then -i else i))
  | _ => none
def intB : List D → Option D
  | [.int i] => some (.int i)
  | [.bl b] => some (.int (if b then 1 else 0))
  | _ => none
def maxB : List D → Option D
  | [.int i, .int j] => some (.int (if j > i then j else i))
  | _ => none
def minB : List D → Option D
  | [.int i, .int j] => some (.int (if j < i then j else i))
  | _ => none
def tupleB : List D → Option D
  | [.lst xs] => some (.tup xs)
  | [.tup xs] => some (.tup xs)
  | _ => none
def isiB : List D → Option D
  | [x, .raw (.ty T)] => isiD T x
  | _ => none
def boolsD : List D → Option (List Bool)
  | [] => some []
  | .bl b :: r => match boolsD r with
    | some bs => some (b :: bs)
    | none => none
  | _ => none
def allB : List D → Option D
  | [.lst xs] => match boolsD xs with
    | some bs => some (.bl (bs.all id))
    | none => none
  | _ => none
def intsD : List D → Option (List Int)
  | [] => some []
  | .int b :: r => match intsD r with
    | some bs => some (b :: bs)
    | none => none
  | _ => none
def sumB : List D → Option D
  | [.lst xs] => match intsD xs with
    | some ns => some (.int ns.sum)
    | none => none
  | _ => none
section
variable {K : PySem.W.Frag} {CT : Ctx} {F H : Hp} {as : List Addr} {σ : Sto} {S : PS} {vs : List V} {v : V} {x y : D}
theorem Rdbs.one (h : Rdbs K CT F H vs [x]) : ∃ v, vs = [v] ∧ Rdb K CT F H v x := by
  cases h with
  | cons h1 h2 =>
    cases h2
    exact ⟨_, rfl, h1⟩
theorem Rdbs.two (h : Rdbs K CT F H vs [x, y]) : ∃ v w, vs = [v, w] ∧ Rdb K CT F H v x ∧ Rdb K CT F H w y := by
  cases h with
  | cons h1 h2 =>
    cases h2 with
    | cons h3 h4 =>
      cases h4
      exact ⟨_, _, rfl, h1, h3⟩
theorem reps_bools : ∀ {xs : List D} {vs : List V} {bs : List Bool}, Reps K CT F vs xs → boolsD xs = some bs → vs = bs.map V.bl
  | [], _, bs, r, e => by
    cases r
    simp only [boolsD, Option.some.injEq] at e
    subst e
    rfl
  | x :: xs, _, bs, r, e => by
    cases r with
    | cons r1 r2 =>
      cases x with
      | bl b =>
        unfold boolsD at e
        cases q : boolsD xs with
        | none => simp only [q] at e; cases e
        | some cs =>
          simp only [q, Option.some.injEq] at e
          subst e
          cases r1
          rw [reps_bools r2 q]
          rfl
      | _ => simp only [boolsD] at e; cases e
theorem reps_ints : ∀ {xs : List D} {vs : List V} {bs : List Int}, Reps K CT F vs xs → intsD xs = some bs → vs = bs.map V.int
  | [], _, bs, r, e => by
    cases r
    simp only [intsD, Option.some.injEq] at e
    subst e
    rfl
  | x :: xs, _, bs, r, e => by
    cases r with
    | cons r1 r2 =>
      cases x with
      | int b =>
        unfold intsD at e
        cases q : intsD xs with
        | none => simp only [q] at e; cases e
        | some cs =>
          simp only [q, Option.some.injEq] at e
          subst e
          cases r1
          rw [reps_ints r2 q]
          rfl
      | _ => simp only [intsD] at e; cases e
theorem strOk_join (a : Str) (ha : PyData.strOk a = true) : ∀ ys : List Str, (∀ b ∈ ys, PyData.strOk b = true) → PyData.strOk (Str.join a ys) = true
  | [], _ => by
    rw [Str.join]
    decide +kernel
  | [x], h => by
    rw [Str.join]
    exact h x (by simp)
  | x :: y :: r, h => by
    rw [Str.join]
    · exact strOk_append (strOk_append (h x (by simp)) ha) (strOk_join a ha (y :: r) fun b hb => h b (List.mem_cons_of_mem _ hb))
    · simp
end
section
variable {X : Cx} {CT : Ctx} {E : Sto → XK} {pos p : Pos}
theorem cb_len : CallR X (.builtin "len") (rB X.K CT lenB) := callr_imp (call_len (X := X)) fun vs H Q h => by
  obtain ⟨F, as, σ, S, ds, z, n, r, e, f⟩ := h
  unfold lenB at e
  split at e
  · rename_i x
    obtain ⟨v, rfl, rv⟩ := r.one
    unfold lenD at e
    split at e
    · cases e
      obtain ⟨a, rfl, q1⟩ := rv.scr' n.sub
      exact ⟨_, _, rfl, .inl ⟨_, q1, by rw [List.length_map]⟩, f.flat n (.int _)⟩
    · cases e
      obtain ⟨rfl, hl, _⟩ := rv.str'
      exact ⟨_, _, rfl, ⟨hl, rfl⟩, f.flat n (.int _)⟩
    · cases e
      obtain ⟨a, ws, rfl, q1, r1⟩ := rv.tup' n.sub
      exact ⟨_, _, rfl, .inr ⟨ws, q1, rfl⟩, by rw [r1.length]; exact f.flat n (.int _)⟩
    · cases e
      obtain ⟨a, ws, rfl, q1, r1⟩ := rv.lst' n.sub
      exact ⟨_, _, rfl, .inl ⟨ws, SqL.of q1, rfl⟩, by rw [r1.length]; exact f.flat n (.int _)⟩
    · cases e
  · cases e
theorem cb_abs : CallR X (.builtin "abs") (rB X.K CT absB) := callr_imp (call_abs (X := X)) fun vs H Q h => by
  obtain ⟨F, as, σ, S, ds, z, n, r, e, f⟩ := h
  unfold absB at e
  split at e
  · cases e
    obtain ⟨v, rfl, rv⟩ := r.one
    obtain rfl := rv.int'
    exact ⟨_, rfl, f.flat n (.int _)⟩
  · cases e
theorem cb_int : CallR X (.type "int") (rB X.K CT intB) := callr_imp (call_int1 (X := X)) fun vs H Q h => by
  obtain ⟨F, as, σ, S, ds, z, n, r, e, f⟩ := h
  unfold intB at e
  split at e
  · cases e
    obtain ⟨v, rfl, rv⟩ := r.one
    obtain rfl := rv.int'
    exact .inl ⟨_, rfl, f.flat n (.int _)⟩
  · cases e
    obtain ⟨v, rfl, rv⟩ := r.one
    obtain rfl := rv.bl'
    exact .inr ⟨_, rfl, f.flat n (.int _)⟩
  · cases e
theorem cb_max (hc : X.calm = true) : CallR X (.builtin "max") (rB X.K CT maxB) := callr_imp (call_max2 (X := X) hc) fun vs H Q h => by
  obtain ⟨F, as, σ, S, ds, z, n, r, e, f⟩ := h
  unfold maxB at e
  split at e
  · cases e
    obtain ⟨v, w, rfl, r1, r2⟩ := r.two
    obtain rfl := r1.int'
    obtain rfl := r2.int'
    exact ⟨_, _, rfl, f.flat n (.int _)⟩
  · cases e
theorem cb_min (hc : X.calm = true) : CallR X (.builtin "min") (rB X.K CT minB) := callr_imp (call_min2 (X := X) hc) fun vs H Q h => by
  obtain ⟨F, as, σ, S, ds, z, n, r, e, f⟩ := h
  unfold minB at e
  split at e
  · cases e
    obtain ⟨v, w, rfl, r1, r2⟩ := r.two
    obtain rfl := r1.int'
    obtain rfl := r2.int'
    exact ⟨_, _, rfl, f.flat n (.int _)⟩
  · cases e
theorem cb_tuple : CallR X (.type "tuple") (rB X.K CT tupleB) := callr_imp (call_tuple_of (X := X)) fun vs H Q h => by
  obtain ⟨F, as, σ, S, ds, z, n, r, e, f⟩ := h
  unfold tupleB at e
  split at e
  · cases e
    obtain ⟨v, rfl, rv⟩ := r.one
    obtain ⟨a, ws, rfl, q1, r1⟩ := rv.lst' n.sub
    exact ⟨a, ws, rfl, .inl ⟨SqL.of q1, fun l hl => f.tup n hl r1⟩⟩
  · cases e
    obtain ⟨v, rfl, rv⟩ := r.one
    obtain ⟨a, ws, rfl, q1, r1⟩ := rv.tup' n.sub
    refine ⟨a, ws, rfl, .inr ⟨q1, ?_⟩⟩
    cases rv with
    | rep rv => exact f.flat n rv
  · cases e
/-- the built-in class of what is read -/
theorem ty_of {K : PySem.W.Frag} {F H : Hp} {as : List Addr} {σ : Sto} {S : PS} {v : V} {x : D} {t : String} (n : Env K CT F as H σ S) (r : Rdb K CT F H v x) (e : tyD x = some t) : TyX K H v (.type t) := by
  unfold tyD at e
  split at e
  · cases e
    obtain rfl := r.non'
    exact .base .non
  · cases e
    obtain rfl := r.bl'
    exact .base (.bl _)
  · cases e
    obtain rfl := r.int'
    exact .base (.int _)
  · cases e
    obtain ⟨rfl, _⟩ := r.str'
    exact .base (.str _)
  · cases e
    obtain ⟨a, ws, rfl, q1, r1⟩ := r.tup' n.sub
    rcases q1 with (q1 | ⟨o, q1⟩) | ⟨o, its, m, q1, q2, _⟩
    · exact .base (.tup q1)
    · exact .fTuple q1
    · exact .kTuple q1 q2
  · cases e
    obtain ⟨a, ws, rfl, q1, r1⟩ := r.lst' n.sub
    exact .base (.lst q1)
  · cases e
    cases r with
    | rep r =>
      cases r with
      | dK h1 h2 => exact .base (.dK (n.sub _ _ h1))
    | dic h1 h2 => exact .base (.dK h1)
  · cases e
theorem cb_isi : CallR X (.builtin "isinstance") (rB X.K CT isiB) := callr_imp (call_isi (X := X)) fun vs H Q h => by
  obtain ⟨F, as, σ, S, ds, z, n, r, e, f⟩ := h
  unfold isiB at e
  split at e
  · rename_i x T
    obtain ⟨v, w, rfl, r1, r2⟩ := r.two
    have hw : w = .ty T := by
      cases r2 with
      | rep r => cases r; rfl
    subst hw
    unfold isiD at e
    cases q1 : tyD x with
    | none => simp only [q1] at e; cases e
    | some t =>
      simp only [q1] at e
      cases q2 : kitB t T with
      | none => simp only [q2] at e; cases e
      | some b =>
        simp only [q2, Option.map_some, Option.some.injEq] at e
        subst e
        exact ⟨v, _, _, _, b, rfl, .ty T, ty_of n r1 q1, kit_ty q2, f.flat n (.bl b)⟩
  · cases e
theorem cb_all (hc : X.calm = true) : CallR X (.builtin "all") (rB X.K CT allB) := callr_imp (cr_all (X := X) hc) fun vs H Q h => by
  obtain ⟨F, as, σ, S, ds, z, n, r, e, f⟩ := h
  unfold allB at e
  split at e
  · rename_i xs
    cases q : boolsD xs with
    | none => simp only [q] at e; cases e
    | some bs =>
      simp only [q, Option.some.injEq] at e
      subst e
      obtain ⟨v, rfl, rv⟩ := r.one
      obtain ⟨a, ws, rfl, q1, r1⟩ := rv.lst' n.sub
      obtain rfl := reps_bools r1 q
      exact ⟨a, bs, rfl, SqL.of q1, f.flat n (.bl _)⟩
  · cases e
theorem cb_sum (hc : X.calm = true) : CallR X (.builtin "sum") (rB X.K CT sumB) := callr_imp (cr_sum (X := X) hc) fun vs H Q h => by
  obtain ⟨F, as, σ, S, ds, z, n, r, e, f⟩ := h
  unfold sumB at e
  split at e
  · rename_i xs
    cases q : intsD xs with
    | none => simp only [q] at e; cases e
    | some bs =>
      simp only [q, Option.some.injEq] at e
      subst e
      obtain ⟨v, rfl, rv⟩ := r.one
      obtain ⟨a, ws, rfl, q1, r1⟩ := rv.lst' n.sub
      obtain rfl := reps_ints r1 q
      exact ⟨a, bs, rfl, SqL.of q1, f.flat n (.int _)⟩
  · cases e
/-! ### methods -/
end
/-- o.m(..) of a built-in kind T -/
def vM (T : String) (g : D → List D → Option D) (o : ME) (as : MA) : ME := fun s => (o s).bind fun x s => match (rd s x).bind tyD with
  | some t => if t = T then (as s).bind fun ys s => match rd s x, rds s ys with
      | some x, some ys => R.of ((g x ys).map .d) s
      | _, _ => .stuck
    else .stuck
  | none => .stuck
/-- o.m(..), o a list's cell, which it changes -/
def vMu (g : List D → List D → Option (List D × D)) (o : ME) (as : MA) : ME := fun s => (o s).bind fun x s => match x with
  | .cell k => match s.w[k]? with
    | some (.lst _) => (as s).bind fun ys s => match frzs s ys with
      | some (ys, s) => match s.w[k]? with
        | some (.lst xs) => match g xs ys with
          | some (zs, z) => .ok (.d z) { s with w := s.w.set k (.lst zs) }
          | none => .stuck
        | _ => .stuck
      | none => .stuck
    | _ => .stuck
  | _ => .stuck
def appM : List D → List D → Option (List D × D)
  | xs, [y] => if xs.length < sizeLine then some (xs ++ [y], .non) else none
  | _, _ => none
section
variable (K : PySem.W.Frag) (CT : Ctx)
def rMu (g : List D → List D → Option (List D × D)) : V → List V → Hp → VK → Prop := fun vx vs H Q => ∃ F as σ S a ws xs ds zs z, Env K CT F as H σ S ∧ vx = .ref a ∧ H a = some (.lst ws) ∧ Reps K CT F ws xs ∧ Reps K CT F vs ds ∧ g xs ds = some (zs, z) ∧ ∀ v us, Reps K CT F us zs → Rep K CT F v z → Q v (upd H a (.lst us))
end
section
variable {X : Cx} {CT : Ctx} {E : Sto → XK} {pos p : Pos} {o a : Expr} {es : List Expr} {mo m : ME} {mr : MA} {apos cpos : Pos} {name : Str} {T id : String} {g : D → List D → Option D} {gu : List D → List D → Option (List D × D)}
theorem mtr_imp {id : String} {r r' : V → List V → Hp → VK → Prop} (h : MtR X id r) (hr : ∀ x xs H Q, r' x xs H Q → r x xs H Q) : MtR X id r' := by
  intro pins s σ H x xs v us Q I rx rv q
  exact h pins s σ H x xs v us Q I rx rv (hr x xs H Q q)
/-! a list's cell is changed -/
theorem mu_read {σ : Sto} {H : Hp} {Q : VK} (h : up X.K CT E (vMu gu mo mr) σ H Q) : tBM X.K "list" (rMu X.K CT gu) (up X.K CT E mo) (upA X.K CT E mr) σ H Q := by
  obtain ⟨F, as, s, n, h⟩ := h
  refine up_seq n h rfl fun v x s1 F1 as1 H1 e1 n1 r1 h1 => ?_
  cases x with
  | d y => exact h1.elim
  | cell k =>
    cases q : s1.w[k]? with
    | none => simp only [q] at h1; exact h1.elim
    | some c =>
      cases c with
      | lst xs0 =>
        simp only [q] at h1
        obtain ⟨a, ws0, ha, hf, hh, rr⟩ := n1.cell q
        obtain ⟨b, hb, rfl⟩ := r1
        rw [ha] at hb
        cases hb
        refine ⟨.inl ⟨rfl, ws0, SqL.of hh⟩, upA_seq n1 h1 rfl fun vs ys s2 F2 as2 H2 e2 n2 r2 h2 => ?_⟩
        cases q1 : frzs s2 ys with
        | none => simp only [q1] at h2; exact h2.elim
        | some pp =>
          obtain ⟨ds, s3⟩ := pp
          simp only [q1] at h2
          obtain ⟨F3, e3, q3, n3⟩ := n2.frzs r2 q1
          cases q4 : s3.w[k]? with
          | none => simp only [q4] at h2; exact h2.elim
          | some c =>
            cases c with
            | lst xs =>
              simp only [q4] at h2
              cases q5 : gu xs ds with
              | none => simp only [q5] at h2; exact h2.elim
              | some pp =>
                obtain ⟨zs, z⟩ := pp
                simp only [q5] at h2
                obtain ⟨a', ws, ha', hf', hh', rr'⟩ := n3.cell q4
                have hb' := (e2.trans e3).at ha
                rw [hb'] at ha'
                cases ha'
                refine ⟨F3, as2, σ, s3, a, ws, xs, ds, zs, z, n3, rfl, hh', rr', q3, q5, fun v us ru rz => ?_⟩
                exact h2.there (σ := σ) rfl e3 (n3.setC q4 hb' hf' ru) v rz
            | _ => simp only [q4] at h2; exact h2.elim
      | _ => simp only [q] at h1; exact h1.elim
theorem me_mu (slot : Slot "list" name id) (hty : typeOf (.builtin id) = pure (.type "method_descriptor")) (hm : MtR X id (rMu X.K CT gu)) (ho : PE X o (up X.K CT E mo)) (ha : PA X (a :: es) (upA X.K CT E mr))
    (hbase : attributeBase o name X.env (eval o X.env) = eval o X.env := by rfl)
    (hfew : ((backTo cpos (starEach (a :: es) X.env)).all (fun x => !x.1) && (backToKw cpos (keywordEach [] X.env)).all (fun x => x.1.isSome)
      && decide ((a :: es).length + ([] : List Keyword).length + (if ([] : List Keyword).isEmpty then 0 else 1) < 30)) = true := by rfl)
    (hline : (apos.endLine == cpos.line) = true := by rfl) (hs : starEach (a :: es) X.env = (false, eval a X.env) :: starEach es X.env := by rfl) (hplain : (backTo cpos (starEach es X.env)).any (·.1) = false := by rfl) :
    PE X (.Call (.Attribute o name apos) (a :: es) [] cpos) (up X.K CT E (vMu gu mo mr)) :=
  PE.imp (pe_bm PySem.F.plainAttrs_list slot hty hm ho ha hbase hfew hline hs hplain) fun _ _ _ h => mu_read h
theorem Reps.one' {K : PySem.W.Frag} {F : Hp} {vs : List V} {x : D} (h : Reps K CT F vs [x]) : ∃ v, vs = [v] ∧ Rep K CT F v x := by
  cases h with
  | cons h1 h2 =>
    cases h2
    exact ⟨_, rfl, h1⟩
theorem mm_append : MtR X "list.append" (rMu X.K CT appM) := mtr_imp (mt_append (X := X)) fun x vs H Q h => by
  obtain ⟨F, as, σ, S, a, ws, xs, ds, zs, z, n, rfl, hh, rr, rv, e, f⟩ := h
  unfold appM at e
  split at e
  · split at e
    · rename_i hz
      cases e
      obtain ⟨v, rfl, r1⟩ := rv.one'
      exact ⟨a, ws, v, rfl, rfl, hh, by rw [rr.length]; exact hz, f _ _ (rr.append (.one r1)) .non⟩
    · cases e
  · cases e
end
end Bf
/-! The mirror layer: slices from behind; the end of a law's row. -/
namespace Bf
open PySem PySem.Spec PyProof.Rows L2
section
variable {X : Cx} {CT : Ctx} {E : Sto → XK} {pos p1 p2 p3 : Pos} {e : Expr} {m : ME} {k : Nat}
theorem PE.or {t t' : TE} (h : PE X e t) (h' : PE X e t') : PE X e (fun σ H Q => t σ H Q ∨ t' σ H Q) := ⟨fun pins s σ H Q I q => by
  rcases q with q | q
  · exact h.run pins s σ H Q I q
  · exact h'.run pins s σ H Q I q⟩
theorem Reps.reverse {K : PySem.W.Frag} {F : Hp} : ∀ {ds : List D} {vs : List V}, Reps K CT F vs ds → Reps K CT F vs.reverse ds.reverse
  | [], _, h => by cases h; exact .nil
  | d :: ds, _, h => by
    cases h with
    | cons h1 h2 =>
      rw [List.reverse_cons, List.reverse_cons]
      exact (Reps.reverse h2).append (.one h1)
/-- {} -/
def vDic0 : ME := fun s => .ok (.d (.dic [])) s
end
/-! ### the end -/
section
variable {K : PySem.W.Frag} {CT : Ctx}
/-- without the tables -/
def noT (H : Hp) : Hp := fun b => match H b with
  | some (.tbl _) => none
  | o => o
theorem noT_at {H : Hp} {b : Addr} {o : HO} (h : H b = some o) (n : ∀ ps, o ≠ .tbl ps) : noT H b = some o := by
  unfold noT
  rw [h]
  split
  · rename_i q e
    exact absurd (Option.some.inj e) (n q)
  · rfl
theorem noT_sub (H : Hp) : Sub (noT H) H := fun b o h => by
  unfold noT at h
  split at h
  · cases h
  · exact h
theorem noT_tbl (H : Hp) : ∀ a ps, noT H a ≠ some (.tbl ps) := fun a ps h => by
  have q := noT_sub H a _ h
  unfold noT at h
  rw [q] at h
  cases h
theorem noT_sq {K : PySem.W.Frag} {H : Hp} {a : Addr} {xs : List V} (h : SqL K H a xs) : SqL K (noT H) a xs := by
  rcases h with (h | ⟨o, h⟩) | h
  · exact .inl (.inl (noT_at h (by intro _ z; cases z)))
  · exact .inl (.inr ⟨o, noT_at h (by intro _ z; cases z)⟩)
  · exact .inr h
theorem cx_none {P : Program} {w : World} (H : Hp) (s : Shared) (e : Value) (s' : Shared) : L2.CX P w [] H s (fun _ _ _ => False) e s' → False := fun ⟨_, _, _, _, _, _, _, _, _, _, _, _, h⟩ => h
end
end Bf
/-! The mirror layer: short rules for printed derivations. -/
namespace Bf
open PySem PySem.Spec PyProof.Rows L2
section
variable {X : Cx} {CT : Ctx} {E : Sto → XK} {pos p : Pos} {k : Nat}
theorem hu64 (r : Room k X.A) : X.A.units + 64 < cLine := r.units
theorem hu65 (r : Room k X.A) : X.A.units + 65 < cLine := by have := r.un; omega
/-- the name in slot i -/
theorem mv (i : Nat) {x : Str} (hN : X.N[i]? = some x := by rfl) (hv : Vis X.env.scope x := by first | exact Or.inl rfl | exact Or.inr (Or.inl rfl) | exact Or.inr (Or.inr rfl)) (hd : (x == ("__debug__" : Str)) = false := by decide) (hcd : (x == ("__classdict__" : Str)) = false := by decide) :
    PE X (.Name x p) (up X.K CT E (vVar i)) := me_var hN hv hd hcd
/-- the target in slot i -/
theorem mn (i : Nat) {x : Str} (hx : X.N.Nodup) (hi : X.N[i]? = some x := by rfl) (hl : Loc X.env.scope x := by first | exact Or.inl rfl | exact Or.inr rfl) (hf : X.fn x = true ∨ X.env.scope.names.lookup x = some .local := by first | exact .inl rfl | exact .inr rfl) :
    PG X (.Name x p) (upG X.K CT (fun _ => ()) E (hName i)) := mg_name hx (fun _ _ => rfl) hi hl hf
/-- .. a comprehension's own name -/
theorem wipe_set {own : List Nat} {i : Nat} (hi : i ∈ own) : ∀ (σ : Sto) (v : V), L2.wipe (σ.set i (some v)) own = L2.wipe σ own := by
  have out : ∀ (own : List Nat) (σ : Sto) (v : V), i ∉ own → L2.wipe (σ.set i (some v)) own = (L2.wipe σ own).set i (some v) := fun own => by
    induction own with
    | nil => intro σ v _; rfl
    | cons j js ih =>
      intro σ v h
      rw [List.mem_cons, not_or] at h
      show (L2.wipe (σ.set i (some v)) js).set j none = _
      rw [ih σ v h.2, List.set_comm _ _ h.1]
      rfl
  induction own with
  | nil => cases hi
  | cons j js ih =>
    intro σ v
    show (L2.wipe (σ.set i (some v)) js).set j none = (L2.wipe σ js).set j none
    by_cases h : i ∈ js
    · rw [ih h σ v]
    · rcases List.mem_cons.mp hi with rfl | h2
      · rw [out js σ v h, List.set_set]
      · exact absurd h2 h
theorem mn' (i : Nat) {own : List Nat} {x : Str} (hx : X.N.Nodup) (hm : i ∈ own := by decide) (hi : X.N[i]? = some x := by rfl) (hl : Loc X.env.scope x := by first | exact Or.inl rfl | exact Or.inr rfl) (hf : X.fn x = true ∨ X.env.scope.names.lookup x = some .local := by first | exact .inl rfl | exact .inr rfl) :
    PG X (.Name x p) (upG X.K CT (fun σ => L2.wipe σ own) E (hName i)) := mg_name hx (fun σ v => wipe_set hm σ v) hi hl hf
/-- a built-in class as a value -/
theorem me_ty {x : Str} {T : String} (hm : X.mg x = none) (hv : bootBuiltins x = some (.type T) := by rfl) (hg : Gl X x := by rfl) (hn : x ≠ "__name__" := by decide) (hd : (x == ("__debug__" : Str)) = false := by decide) : PE X (.Name x p) (up X.K CT E (vC (.raw (.ty T)))) :=
  me_c (v := .ty T) (pe_bltn hg hm hv (by exact rfl) hn hd) fun _ => .raw _
theorem me_gint {x : Str} {n : Int} {t : _} (hm : X.mg x = some (.int n t)) (hg : Gl X x := by rfl) (hd : (x == ("__debug__" : Str)) = false := by decide) : PE X (.Name x p) (up X.K CT E (vC (.int n))) :=
  me_glob (v := .int n) hm ⟨_, rfl⟩ (fun _ => .int _) hg hd
theorem me_gstr {x y : Str} {t : _} (hm : X.mg x = some (.str y t)) (hg : Gl X x := by rfl) (h1 : y.length ≤ 100000 := by decide +kernel) (h2 : PyData.strOk y = true := by decide +kernel) (hd : (x == ("__debug__" : Str)) = false := by decide) : PE X (.Name x p) (up X.K CT E (vC (.str y))) :=
  me_glob (v := .str y) hm ⟨_, rfl⟩ (fun _ => .str _ (Nat.le_trans h1 (by rw [sizeLine_eq]; decide)) h2) hg hd
theorem mt_w {e : Expr} {t : TT} (h : PW X e t) : PT X e t := h.pt
variable {mr : MA} {px py pz pt : Pos} {kt k2 : _} {pt2 : Pos} {a b c : Expr}
theorem ms_par {i j : Nat} {x y : Str} (hx : Cq X E) (hi : X.N[i]? = some x) (hj : X.N[j]? = some y) (hij : i ≠ j)
    (lx : X.env.scope.names.lookup x = some .local) (ly : X.env.scope.names.lookup y = some .local) (ha : PA X [a, b] (upA X.K CT E mr))
    (hw : swappedStores [.Tuple [.Name x px, .Name y py] kt pt] (.Tuple [a, b] k2 pt2) X.env = pure (some [x, y]))
    (hs : swapsWithSole [.Tuple [.Name x px, .Name y py] kt pt] (.Tuple [a, b] k2 pt2) pos.line X.env = pure false := by rfl) :
    L2.PS X (.Assign [.Tuple [.Name x px, .Name y py] kt pt] (.Tuple [a, b] k2 pt2) pos) (upS X.K CT E (sPar i j mr)) :=
  ps_imp (ps_par hx.calm hx.nd hi hj hij lx ly ha hw hs) fun D σ H ⟨F, as, s, n, h⟩ => by
    refine upA_seq n h trivial fun vs xs s1 F1 as1 H1 e1 n1 r1 h1 => ?_
    cases r1 with
    | nil => exact h1.elim
    | cons r1 r2 =>
      cases r2 with
      | nil => exact h1.elim
      | cons r2 r3 =>
        cases r3 with
        | cons _ _ => exact h1.elim
        | nil =>
          rename_i v1 x1 v2 x2
          dsimp only at h1
          split at h1
          · rename_i hl
            refine ⟨_, _, rfl, ?_⟩
            have n2 := n1.setG r1 hl.1
            have n3 := n2.setG (i := j) r2 (by simpa using hl.2)
            exact h1.here (σ := (σ.set i (some v1)).set j (some v2)) trivial n3
          · exact h1.elim
end
end Bf
/-! The mirror layer: plain reasoning about mirrors. -/
namespace Bf
open PySem L2
@[irreducible] def T {α : Type} (r : R α) (Q : α → PS → Prop) : Prop := match r with
  | .ok a s => Q a s
  | _ => False
@[simp ↓] theorem T_ok {α : Type} {a : α} {s : PS} {Q : α → PS → Prop} : T (.ok a s) Q ↔ Q a s := by unfold T; exact Iff.rfl
@[simp ↓] theorem T_stuck {α : Type} {Q : α → PS → Prop} : T (.stuck : R α) Q ↔ False := by unfold T; exact Iff.rfl
@[simp ↓] theorem T_err {α : Type} {e : Exc} {s : PS} {Q : α → PS → Prop} : T (.err e s : R α) Q ↔ False := by unfold T; exact Iff.rfl
theorem T.imp {α : Type} {r : R α} {Q Q' : α → PS → Prop} (h : T r Q) (i : ∀ a s, Q a s → Q' a s) : T r Q' := by
  unfold T at h ⊢
  cases r with
  | ok a s => exact i a s h
  | err => exact h
  | stuck => exact h
theorem T.eq {α : Type} {r : R α} {Q : α → PS → Prop} (h : T r Q) : ∃ a s, r = .ok a s ∧ Q a s := by
  unfold T at h
  cases r with
  | ok a s => exact ⟨a, s, rfl, h⟩
  | err => exact h.elim
  | stuck => exact h.elim
def OD {α : Type} (o : Option α) (P : α → Prop) : Prop := match o with
  | some a => P a
  | none => False
@[simp ↓] theorem OD_some {α : Type} {a : α} {P : α → Prop} : OD (some a) P ↔ P a := Iff.rfl
@[simp ↓] theorem OD_none {α : Type} {P : α → Prop} : OD (none : Option α) P ↔ False := Iff.rfl
theorem OD.of {α : Type} {o : Option α} {a : α} {P : α → Prop} (h : o = some a) (p : P a) : OD o P := by
  rw [h]
  exact p
def LS (x : D) (P : List D → Prop) : Prop := match x with
  | .lst xs => P xs
  | _ => False
@[simp ↓] theorem LS_lst {xs : List D} {P : List D → Prop} : LS (.lst xs) P ↔ P xs := Iff.rfl
def IN (x : SV) (P : Int → Prop) : Prop := match x with
  | .d (.int i) => P i
  | _ => False
@[simp ↓] theorem IN_int {i : Int} {P : Int → Prop} : IN (.d (.int i)) P ↔ P i := Iff.rfl
def CL (x : SV) (P : Nat → Prop) : Prop := match x with
  | .cell i => P i
  | _ => False
@[simp ↓] theorem CL_cell {i : Nat} {P : Nat → Prop} : CL (.cell i) P ↔ P i := Iff.rfl
def LC (c : Option Cell) (P : List D → Prop) : Prop := match c with
  | some (.lst xs) => P xs
  | _ => False
@[simp ↓] theorem LC_lst {xs : List D} {P : List D → Prop} : LC (some (.lst xs)) P ↔ P xs := Iff.rfl
def L2' (xs : List SV) (P : SV → SV → Prop) : Prop := match xs with
  | [x, y] => P x y
  | _ => False
@[simp ↓] theorem L2_two {x y : SV} {P : SV → SV → Prop} : L2' [x, y] P ↔ P x y := Iff.rfl
@[simp ↓] theorem T_bind {α β : Type} {r : R α} {f : α → PS → R β} {Q : β → PS → Prop} : T (r.bind f) Q ↔ T r fun a s => T (f a s) Q := by cases r <;> (unfold T; exact Iff.rfl)
theorem T_of {α : Type} {o : Option α} {s : PS} {Q : α → PS → Prop} : T (R.of o s) Q ↔ OD o fun a => Q a s := by
  cases o with
  | none => simp [R.of]
  | some a => simp [R.of]
@[simp ↓] theorem T_nox {α : Type} {r : R α} {Q : α → PS → Prop} : T r.nox Q ↔ T r Q := by cases r <;> (unfold T; exact Iff.rfl)
theorem T_ofd {o : Option D} {s : PS} {Q : SV → PS → Prop} : T (R.of (o.map .d) s) Q ↔ OD o fun z => Q (.d z) s := by
  cases o <;> simp [R.of]
/-- a def's outcome -/
@[irreducible] def FT (f : Fn) (xs : List SV) (w : List Cell) (Q : SV → List Cell → Prop) : Prop := match f xs w with
  | .ok x w => Q x w
  | _ => False
theorem FT.imp {f : Fn} {xs : List SV} {w : List Cell} {Q Q' : SV → List Cell → Prop} (h : FT f xs w Q) (i : ∀ x w, Q x w → Q' x w) : FT f xs w Q' := by
  unfold FT at *
  cases q : f xs w with
  | ok a s => rw [q] at h; exact i a s h
  | err => rw [q] at h; exact h
  | stuck => rw [q] at h; exact h
section
variable {s : PS} {Q : SV → PS → Prop} {a b c : ME}
@[simp ↓] theorem T_var {i : Nat} : T (vVar i s) Q ↔ OD s.g[i]? fun o => OD o fun x => Q x s := by
  unfold vVar
  cases h : s.g[i]? with
  | none => simp
  | some o => cases o <;> simp
@[simp ↓] theorem T_c {x : D} : T (vC x s) Q ↔ Q (.d x) s := by unfold T; exact Iff.rfl
@[simp ↓] theorem T_un {f : D → Option D} : T (vUn f a s) Q ↔ T (a s) fun x s => OD (rd s x) fun dx => OD (f dx) fun z => Q (.d z) s := by
  unfold vUn
  rw [T_bind]
  refine iff_of_eq (congrArg (T _) (funext fun x => funext fun s => propext ?_))
  cases rd s x with
  | none => simp
  | some dx => simp only [T_ofd, OD_some]
@[simp ↓] theorem T_op {f : D → D → Option D} : T (vOp f a b s) Q ↔ T (a s) fun x s => T (b s) fun y s => OD (rd s x) fun dx => OD (rd s y) fun dy => OD (f dx dy) fun z => Q (.d z) s := by
  unfold vOp
  simp only [T_bind]
  refine iff_of_eq (congrArg (T _) (funext fun x => funext fun s => propext (iff_of_eq (congrArg (T _) (funext fun y => funext fun s => propext ?_)))))
  cases rd s x with
  | none => simp
  | some dx =>
    cases rd s y with
    | none => simp
    | some dy => simp only [T_ofd, OD_some]
@[simp ↓] theorem T_opN {f : D → D → Option D} : T (vOpN f a b s) Q ↔ T (a s) fun x s => T (b s) fun y s => OD (rd s x) fun dx => OD (rd s y) fun dy => OD (f dx dy) fun z => LS z fun zs => Q (.cell s.w.length) { s with w := s.w ++ [.lst zs] } := by
  unfold vOpN
  simp only [T_bind]
  refine iff_of_eq (congrArg (T _) (funext fun x => funext fun s => propext (iff_of_eq (congrArg (T _) (funext fun y => funext fun s => propext ?_)))))
  cases rd s x with
  | none => simp
  | some dx =>
    cases rd s y with
    | none => simp
    | some dy =>
      cases h : f dx dy with
      | none => simp [h]
      | some z => cases z <;> simp [h, LS]
def OP {α β : Type} (o : Option (α × β)) (P : α → β → Prop) : Prop := match o with
  | some p => P p.1 p.2
  | none => False
@[simp ↓] theorem OP_some {α β : Type} {p : α × β} {P : α → β → Prop} : OP (some p) P ↔ P p.1 p.2 := Iff.rfl
@[simp ↓] theorem OP_none {α β : Type} {P : α → β → Prop} : OP (none : Option (α × β)) P ↔ False := Iff.rfl
@[simp ↓] theorem OP_map {α β γ δ : Type} {o : Option (α × β)} {f : α × β → γ × δ} {P : γ → δ → Prop} : OP (o.map f) P ↔ OP o fun a b => P (f (a, b)).1 (f (a, b)).2 := by cases o <;> exact Iff.rfl
def BL (x : SV) (P : Bool → Prop) : Prop := match x with
  | .d (.bl b) => P b
  | _ => False
@[simp ↓] theorem BL_bl {b : Bool} {P : Bool → Prop} : BL (.d (.bl b)) P ↔ P b := Iff.rfl
@[simp ↓] theorem T_isB {x : SV} {Q : Bool → PS → Prop} : T (isB x s) Q ↔ BL x fun b => Q b s := by
  cases x with
  | cell => unfold T; exact Iff.rfl
  | d y => cases y <;> (unfold T; exact Iff.rfl)
variable {t u : MT} {QB : Bool → PS → Prop}
@[simp ↓] theorem T_cVal : T (cVal a s) QB ↔ T (a s) fun x s => BL x fun b => QB b s := by
  unfold cVal
  simp only [T_bind, T_isB]
@[simp ↓] theorem T_cTru : T (cTru a s) QB ↔ T (a s) fun x s => OD (rd s x) fun dx => OD (truD dx) fun b => QB b s := by
  unfold cTru
  rw [T_bind]
  refine iff_of_eq (congrArg (T _) (funext fun x => funext fun s => propext ?_))
  cases rd s x with
  | none => simp
  | some dx => simp only [T_of, OD_some]
@[simp ↓] theorem T_cYes : T (cYes s) QB ↔ QB true s := by unfold T; exact Iff.rfl
@[simp ↓] theorem T_cAnd : T (cAnd t u s) QB ↔ T (t s) fun c s => if c = true then T (u s) QB else QB false s := by
  unfold cAnd
  rw [T_bind]
  refine iff_of_eq (congrArg (T _) (funext fun c => funext fun s => ?_))
  cases c <;> first | rfl | simp
@[simp ↓] theorem T_cOr : T (cOr t u s) QB ↔ T (t s) fun c s => if c = true then QB true s else T (u s) QB := by
  unfold cOr
  rw [T_bind]
  refine iff_of_eq (congrArg (T _) (funext fun c => funext fun s => ?_))
  cases c <;> first | rfl | simp
@[simp ↓] theorem T_cNot : T (cNot t s) QB ↔ T (t s) fun c s => QB (!c) s := by
  unfold cNot
  rw [T_bind]
  simp only [T_ok]
@[simp ↓] theorem T_vAnd : T (vAnd a b s) Q ↔ T (a s) fun x s => BL x fun c => if c = true then T (b s) Q else Q (.d (.bl false)) s := by
  unfold vAnd
  simp only [T_bind, T_isB]
  refine iff_of_eq (congrArg (T _) (funext fun x => funext fun s => congrArg (BL x) (funext fun c => ?_)))
  cases c <;> first | rfl | simp
@[simp ↓] theorem T_vOr : T (vOr a b s) Q ↔ T (a s) fun x s => BL x fun c => if c = true then Q (.d (.bl true)) s else T (b s) Q := by
  unfold vOr
  simp only [T_bind, T_isB]
  refine iff_of_eq (congrArg (T _) (funext fun x => funext fun s => congrArg (BL x) (funext fun c => ?_)))
  cases c <;> first | rfl | simp
@[simp ↓] theorem T_vNot : T (vNot a s) Q ↔ T (a s) fun x s => BL x fun c => Q (.d (.bl (!c))) s := by
  unfold vNot
  simp only [T_bind, T_isB, T_ok]
@[simp ↓] theorem T_vIf : T (vIf t a b s) Q ↔ T (t s) fun c s => if c = true then T (a s) Q else T (b s) Q := by
  unfold vIf
  rw [T_bind]
  refine iff_of_eq (congrArg (T _) (funext fun c => funext fun s => ?_))
  cases c <;> first | rfl | simp
@[simp ↓] theorem T_chain {f f' : D → D → Option D} : T (vChain f f' a b c s) Q ↔ T (a s) fun x s => T (b s) fun y s => OD (rd s x) fun dx => OD (rd s y) fun dy => OD (f dx dy) fun z => BL (.d z) fun k =>
    if k = true then T (c s) fun z s => OD (rd s y) fun dy => OD (rd s z) fun dz => OD (f' dy dz) fun r => Q (.d r) s else Q (.d (.bl false)) s := by
  unfold vChain
  simp only [T_bind]
  refine iff_of_eq (congrArg (T _) (funext fun x => funext fun s => propext (iff_of_eq (congrArg (T _) (funext fun y => funext fun s => propext ?_)))))
  cases rd s x with
  | none => simp
  | some dx =>
    cases rd s y with
    | none => simp
    | some dy =>
      cases h : f dx dy with
      | none => simp [h]
      | some z =>
        cases z with
        | bl k =>
          cases k with
          | false => simp [h]
          | true =>
            simp only [h, T_bind, if_true, OD_some, BL_bl]
            refine iff_of_eq (congrArg (T _) (funext fun z => funext fun s => propext ?_))
            cases rd s y with
            | none => simp
            | some dy =>
              cases rd s z with
              | none => simp
              | some dz => simp only [T_ofd, OD_some]
        | _ => simp [h, BL]
variable {r : MA} {QA : List SV → PS → Prop}
@[simp ↓] theorem T_nil : T (aNil s) QA ↔ QA [] s := by unfold T; exact Iff.rfl
@[simp ↓] theorem T_cons : T (aCons a r s) QA ↔ T (a s) fun x s => T (r s) fun xs s => QA (x :: xs) s := by
  unfold aCons
  simp only [T_bind, T_ok]
@[simp ↓] theorem T_tup : T (vTup r s) Q ↔ T (r s) fun xs s => OP (frzs s xs) fun ys s => ys.length ≤ sizeLine ∧ Q (.d (.tup ys)) s := by
  unfold vTup
  rw [T_bind]
  refine iff_of_eq (congrArg (T _) (funext fun xs => funext fun s => propext ?_))
  cases frzs s xs with
  | none => simp
  | some p =>
    obtain ⟨ys, s'⟩ := p
    by_cases h : ys.length ≤ sizeLine <;> simp [h]
@[simp ↓] theorem T_lst : T (vLst r s) Q ↔ T (r s) fun xs s => OP (frzs s xs) fun ys s => ys.length ≤ sizeLine ∧ Q (.d (.lst ys)) s := by
  unfold vLst
  rw [T_bind]
  refine iff_of_eq (congrArg (T _) (funext fun xs => funext fun s => propext ?_))
  cases frzs s xs with
  | none => simp
  | some p =>
    obtain ⟨ys, s'⟩ := p
    by_cases h : ys.length ≤ sizeLine <;> simp [h]
@[simp ↓] theorem T_lstN : T (vLstN r s) Q ↔ T (r s) fun xs s => OP (frzs s xs) fun ys s => ys.length ≤ sizeLine ∧ Q (.cell s.w.length) { s with w := s.w ++ [.lst ys] } := by
  unfold vLstN
  rw [T_bind]
  refine iff_of_eq (congrArg (T _) (funext fun xs => funext fun s => propext ?_))
  cases frzs s xs with
  | none => simp
  | some p =>
    obtain ⟨ys, s'⟩ := p
    by_cases h : ys.length ≤ sizeLine <;> simp [h]
@[simp ↓] theorem T_frz : T (vFrz a s) Q ↔ T (a s) fun x s => OP (frz s x) fun y s => Q (.d y) s := by
  unfold vFrz
  rw [T_bind]
  refine iff_of_eq (congrArg (T _) (funext fun xs => funext fun s => propext ?_))
  cases frz s xs with
  | none => simp [T_of]
  | some p => simp [T_of]
variable {lo hi : MO} {QO : Option Int → PS → Prop}
@[simp ↓] theorem T_oNone : T (oNone s) QO ↔ QO none s := by unfold T; exact Iff.rfl
@[simp ↓] theorem T_oSome : T (oSome a s) QO ↔ T (a s) fun x s => IN x fun i => QO (some i) s := by
  unfold oSome
  rw [T_bind]
  refine iff_of_eq (congrArg (T _) (funext fun x => funext fun s => propext ?_))
  cases x with
  | cell => simp [IN]
  | d y => cases y <;> simp [IN]
@[simp ↓] theorem T_sl : T (vSl a lo hi s) Q ↔ T (a s) fun x s => T (lo s) fun l s => T (hi s) fun h s => OD (rd s x) fun dx => OD (slD dx l h) fun z => Q (.d z) s := by
  unfold vSl
  simp only [T_bind]
  refine iff_of_eq (congrArg (T _) (funext fun x => funext fun s => congrArg (T _) (funext fun l => funext fun s => congrArg (T _) (funext fun h => funext fun s => propext ?_))))
  cases rd s x with
  | none => simp
  | some dx => simp only [T_ofd, OD_some]
@[simp ↓] theorem T_B {f : List D → Option D} : T (vB f r s) Q ↔ T (r s) fun xs s => OD (rds s xs) fun ys => OD (f ys) fun z => Q (.d z) s := by
  unfold vB
  rw [T_bind]
  refine iff_of_eq (congrArg (T _) (funext fun x => funext fun s => propext ?_))
  cases rds s x with
  | none => simp
  | some dx => simp only [T_ofd, OD_some]
@[simp ↓] theorem T_call {f : Fn} : T (vCall f r s) Q ↔ T (r s) fun xs s => FT f xs s.w fun x w => Q x { s with w := w } := by
  unfold vCall
  rw [T_bind]
  refine iff_of_eq (congrArg (T _) (funext fun x => funext fun s => propext ?_))
  unfold FT
  cases f x s.w <;> simp
@[simp ↓] theorem T_m {ty : String} {g : D → List D → Option D} : T (vM ty g a r s) Q ↔ T (a s) fun x s => (rd s x).bind tyD = some ty ∧ T (r s) fun ys s => OD (rd s x) fun dx => OD (rds s ys) fun dy => OD (g dx dy) fun z => Q (.d z) s := by
  unfold vM
  rw [T_bind]
  refine iff_of_eq (congrArg (T _) (funext fun x => funext fun s => propext ?_))
  cases (rd s x).bind tyD with
  | none => simp
  | some t =>
    by_cases h : t = ty
    · subst h
      simp only [if_true, T_bind, true_and]
      refine iff_of_eq (congrArg (T _) (funext fun ys => funext fun s => propext ?_))
      cases rd s x with
      | none => simp
      | some dx =>
        cases rds s ys with
        | none => simp
        | some dy => simp only [T_ofd, OD_some]
    · simp [h]
@[simp ↓] theorem T_mu {g : List D → List D → Option (List D × D)} : T (vMu g a r s) Q ↔ T (a s) fun x s => CL x fun k => (∃ xs, s.w[k]? = some (.lst xs)) ∧ T (r s) fun ys s => OP (frzs s ys) fun ys s => LC s.w[k]? fun xs => OP (g xs ys) fun zs z => Q (.d z) { s with w := s.w.set k (.lst zs) } := by
  unfold vMu
  rw [T_bind]
  refine iff_of_eq (congrArg (T _) (funext fun x => funext fun s => propext ?_))
  cases x with
  | d => simp [CL]
  | cell k =>
    simp only [CL_cell]
    cases h : s.w[k]? with
    | none => simp
    | some c =>
      cases c with
      | lst xs =>
        simp only [T_bind, Option.some.injEq, Cell.lst.injEq, exists_eq', true_and]
        refine iff_of_eq (congrArg (T _) (funext fun ys => funext fun s => propext ?_))
        cases frzs s ys with
        | none => simp
        | some p =>
          obtain ⟨p, s1⟩ := p
          simp only [OP_some]
          cases h : s1.w[k]? with
          | none => simp [LC]
          | some c =>
            cases c with
            | lst xs =>
              simp only [LC_lst]
              cases g xs p <;> simp
            | _ => simp [LC]
      | _ => simp
/-! statements -/
variable {m n : MS} {QS : Fl → PS → Prop}
@[simp ↓] theorem T_sNx : T (sNx s) QS ↔ QS .nx s := by unfold T; exact Iff.rfl
@[simp ↓] theorem T_seq : T (sSeq m n s) QS ↔ T (m s) fun f s => match f with
    | .nx => T (n s) QS
    | f => QS f s := by
  unfold sSeq
  rw [T_bind]
  refine iff_of_eq (congrArg (T _) (funext fun f => funext fun s => ?_))
  cases f <;> first | rfl | simp
@[simp ↓] theorem T_ret : T (sRet a s) QS ↔ T (a s) fun x s => QS (.rt x) s := by
  unfold sRet
  rw [T_bind]
  simp only [T_ok]
@[simp ↓] theorem T_exp : T (sExp a s) QS ↔ T (a s) fun _ s => QS .nx s := by
  unfold sExp
  rw [T_bind]
  simp only [T_ok]
@[simp ↓] theorem T_sIf : T (sIf t m n s) QS ↔ T (t s) fun c s => if c = true then T (m s) QS else T (n s) QS := by
  unfold sIf
  rw [T_bind]
  refine iff_of_eq (congrArg (T _) (funext fun c => funext fun s => ?_))
  cases c <;> first | rfl | simp
variable {g : MG} {QU : Unit → PS → Prop}
@[simp ↓] theorem T_asg : T (sAsg a g s) QS ↔ T (a s) fun x s => T (g x s) fun _ s => QS .nx s := by
  unfold sAsg
  simp only [T_bind, T_ok]
@[simp ↓] theorem T_name {i : Nat} {x : SV} : T (hName i x s) QU ↔ i < s.g.length ∧ QU () { s with g := s.g.set i (some x) } := by
  unfold hName
  by_cases h : i < s.g.length <;> simp [h]
@[simp ↓] theorem T_hSub {x : SV} : T (hSub a b x s) QU ↔ T (a s) fun o s => T (b s) fun i s => OP (frz s x) fun y s => OD (rd s i) fun di => OD (setL s o di y) fun s' => QU () s' := by
  unfold hSub
  simp only [T_bind]
  refine iff_of_eq (congrArg (T _) (funext fun o => funext fun s => congrArg (T _) (funext fun i => funext fun s => propext ?_)))
  cases frz s x with
  | none => simp
  | some p =>
    obtain ⟨p, s1⟩ := p
    simp only [OP_some]
    cases rd s1 i with
    | none => simp
    | some di =>
      simp only [OD_some]
      cases setL s1 o di p <;> simp
@[simp ↓] theorem T_par {i j : Nat} : T (sPar i j r s) QS ↔ T (r s) fun xs s => L2' xs fun x y => i < s.g.length ∧ j < s.g.length ∧ QS .nx { s with g := (s.g.set i (some x)).set j (some y) } := by
  unfold sPar
  rw [T_bind]
  refine iff_of_eq (congrArg (T _) (funext fun xs => funext fun s => propext ?_))
  match xs with
  | [] => simp [L2']
  | [_] => simp [L2']
  | [x, y] =>
    by_cases h : i < s.g.length ∧ j < s.g.length
    · simp [L2', h]
    · simp only [h, if_false, T_stuck, false_iff]
      rintro ⟨h1, h2, _⟩
      exact h ⟨h1, h2⟩
  | _ :: _ :: _ :: _ => simp [L2']
/-! what is walked -/
variable {QI : It' → PS → Prop}
def SQ (s : PS) (x : SV) (P : It' → Prop) : Prop := match x with
  | .d (.lst xs) => P (.seq xs)
  | .d (.tup xs) => P (.seq xs)
  | .d (.str x) => P (.seq (signsD x))
  | .cell k => (∃ xs, s.w[k]? = some (.lst xs)) ∧ P (.cell k)
  | _ => False
@[simp ↓] theorem T_jSeq : T (jSeq a s) QI ↔ T (a s) fun x s => SQ s x fun it => QI it s := by
  unfold jSeq
  rw [T_bind]
  refine iff_of_eq (congrArg (T _) (funext fun x => funext fun s => propext ?_))
  cases x with
  | d y => cases y <;> (unfold T; exact Iff.rfl)
  | cell k =>
    unfold SQ
    dsimp only
    cases h : s.w[k]? with
    | none => simp
    | some c => cases c <;> simp
@[simp ↓] theorem SQ_lst {xs : List D} {P : It' → Prop} : SQ s (.d (.lst xs)) P ↔ P (.seq xs) := Iff.rfl
@[simp ↓] theorem SQ_tup {xs : List D} {P : It' → Prop} : SQ s (.d (.tup xs)) P ↔ P (.seq xs) := Iff.rfl
@[simp ↓] theorem SQ_str {x : Str} {P : It' → Prop} : SQ s (.d (.str x)) P ↔ P (.seq (signsD x)) := Iff.rfl
@[simp ↓] theorem T_jRng1 : T (jRng1 a s) QI ↔ T (a s) fun x s => IN x fun j => rngOk j = true ∧ QI (.rng 0 j.toNat) s := by
  unfold jRng1
  rw [T_bind]
  refine iff_of_eq (congrArg (T _) (funext fun x => funext fun s => propext ?_))
  cases x with
  | d y =>
    cases y with
    | int j => by_cases h : rngOk j = true <;> simp [h]
    | _ => simp [IN]
  | cell k => simp [IN]
@[simp ↓] theorem T_jRng2 : T (jRng2 a b s) QI ↔ T (a s) fun x s => T (b s) fun y s => IN x fun i => IN y fun j => rngOk i = true ∧ rngOk j = true ∧ QI (.rng i (j - i).toNat) s := by
  unfold jRng2
  simp only [T_bind]
  refine iff_of_eq (congrArg (T _) (funext fun x => funext fun s => congrArg (T _) (funext fun y => funext fun s => propext ?_)))
  cases x with
  | d x =>
    cases x with
    | int i =>
      cases y with
      | d y =>
        cases y with
        | int j =>
          by_cases h : rngOk i = true <;> by_cases h' : rngOk j = true <;> simp [h, h']
        | _ => simp [IN]
      | cell k => simp [IN]
    | _ => simp [IN]
  | cell k => simp [IN]
@[simp ↓] theorem T_jRng3 {c : ME} : T (jRng3 a b c s) QI ↔ T (a s) fun x s => T (b s) fun y s => T (c s) fun z s => IN x fun i => IN y fun j => IN z fun k => rngCOk i j k = true ∧ QI (.rngC i k (PySem.Builtin.Range.rangeSize i j k).toNat) s := by
  unfold jRng3
  simp only [T_bind]
  refine iff_of_eq (congrArg (T _) (funext fun x => funext fun s => congrArg (T _) (funext fun y => funext fun s => congrArg (T _) (funext fun z => funext fun s => propext ?_))))
  cases x with
  | d x =>
    cases x with
    | int i =>
      cases y with
      | d y =>
        cases y with
        | int j =>
          cases z with
          | d z =>
            cases z with
            | int k => by_cases h : rngCOk i j k = true <;> simp [h]
            | _ => simp [IN]
          | cell k => simp [IN]
        | _ => simp [IN]
      | cell k => simp [IN]
    | _ => simp [IN]
  | cell k => simp [IN]
end
/-! ### walks -/
/-- the items, where they do not hang on the state -/
def It'.list : It' → Option (List D)
  | .seq xs => some xs
  | .cell _ => none
  | .rng lo n => some ((List.range n).map fun (i : Nat) => .int (lo + i))
  | .rngC lo c n => some ((List.range n).map fun (i : Nat) => .int (lo + (i : Nat) * c))
  | .prs ps => some (ps.map fun p => .tup [p.1, p.2])
  | .kys xs => some (xs.map .tup)
  | .its ps => some (ps.map fun p => .tup [.tup p.1, p.2])
theorem It'.at_list {it : It'} {xs : List D} (h : it.list = some xs) (s : PS) (i : Nat) : it.at s i = some xs[i]? := by
  cases it with
  | seq ys => cases h; rfl
  | cell => cases h
  | rng lo n =>
    cases h
    unfold It'.at
    by_cases hi : i < n
    · simp [hi]
    · simp [hi]
  | rngC lo c n =>
    cases h
    unfold It'.at
    by_cases hi : i < n
    · simp [hi]
    · simp [hi]
  | prs ps =>
    cases h
    unfold It'.at
    simp
  | kys xs =>
    cases h
    unfold It'.at
    simp
  | its ps =>
    cases h
    unfold It'.at
    simp
theorem It'.fuel_list {it : It'} {xs : List D} (h : it.list = some xs) (s : PS) : it.fuel s = xs.length := by
  cases it with
  | seq ys => cases h; rfl
  | cell => cases h
  | rng lo n => cases h; simp [It'.fuel]
  | rngC lo c n => cases h; simp [It'.fuel]
  | prs ps => cases h; simp [It'.fuel]
  | kys ps => cases h; simp [It'.fuel]
  | its ps => cases h; simp [It'.fuel]
theorem T_for {it : It'} {xs : List D} {n : Nat} {g : MG} {body : MS} {Q : Fl → PS → Prop} (hl : it.list = some xs) (Inv : Nat → PS → Prop)
    (step : ∀ i x s, xs[i]? = some x → Inv i s → T (g (.d x) s) fun _ s => T (body s) fun fl s => match fl with
      | .nx => ∃ s', trunc n s = some s' ∧ Inv (i + 1) s'
      | .ct => ∃ s', trunc n s = some s' ∧ Inv (i + 1) s'
      | .bk => Q .nx s
      | .rt x => Q (.rt x) s) (stop : ∀ s, Inv xs.length s → Q .nx s) : ∀ (m i : Nat) (s : PS), i + m = xs.length → Inv i s → T (forGo it n g body m i s) Q := by
  intro m
  induction m with
  | zero =>
    intro i s hi h
    unfold forGo
    rw [It'.at_list hl, List.getElem?_eq_none (by omega)]
    exact T_ok.mpr (stop s (by rw [← hi]; exact h))
  | succ m ih =>
    intro i s hi h
    unfold forGo
    obtain ⟨x, hx⟩ : ∃ x, xs[i]? = some x := ⟨xs[i]'(by omega), List.getElem?_eq_getElem (by omega)⟩
    rw [It'.at_list hl, hx]
    simp only [T_bind]
    refine (step i x s hx h).imp fun _ s1 h1 => h1.imp fun fl s2 h2 => ?_
    cases fl with
    | nx =>
      obtain ⟨s', e, h3⟩ := h2
      simp only [e]
      exact ih (i + 1) s' (by omega) h3
    | ct =>
      obtain ⟨s', e, h3⟩ := h2
      simp only [e]
      exact ih (i + 1) s' (by omega) h3
    | bk => exact T_ok.mpr h2
    | rt x => exact T_ok.mpr h2
theorem T_sFor {it : MI} {g : MG} {body : MS} {s : PS} {Q : Fl → PS → Prop} : T (sFor it g body s) Q ↔ T (it s) fun it s => T (forGo it s.w.length g body (it.fuel s) 0 s) Q := by
  unfold sFor
  rw [T_bind]
theorem T_lcGo {it : It'} {xs : List D} {n : Nat} {own : List Nat} {g : MG} {t : MT} {e : ME} {Q : Unit → PS → Prop} (hl : it.list = some xs) (Inv : Nat → List D → PS → Prop)
    (step : ∀ i x acc s, xs[i]? = some x → Inv i acc s → T (g (.d x) s) fun _ s => T (t s) fun c s => if c = true then T (e s) fun y s => OP (frz s y) fun z s => s.w[n]? = some (.lst acc) ∧
        ∃ s', trunc (n + 1) { s with w := s.w.set n (.lst (acc ++ [z])) } = some s' ∧ Inv (i + 1) (acc ++ [z]) { s' with g := wipeG own s'.g }
      else ∃ s', trunc (n + 1) s = some s' ∧ Inv (i + 1) acc { s' with g := wipeG own s'.g }) (stop : ∀ acc s, Inv xs.length acc s → Q () s) (hz : xs.length ≤ sizeLine) :
    ∀ (m i : Nat) (acc : List D) (s : PS), i + m = xs.length → acc.length ≤ i → Inv i acc s → T (lcGo it n own g t e m i s) Q := by
  intro m
  induction m with
  | zero =>
    intro i acc s hi ha h
    unfold lcGo
    rw [It'.at_list hl, List.getElem?_eq_none (by omega)]
    exact T_ok.mpr (stop acc s (by rw [← hi]; exact h))
  | succ m ih =>
    intro i acc s hi ha h
    unfold lcGo
    obtain ⟨x, hx⟩ : ∃ x, xs[i]? = some x := ⟨xs[i]'(by omega), List.getElem?_eq_getElem (by omega)⟩
    rw [It'.at_list hl, hx]
    simp only [T_bind, T_nox]
    refine (step i x acc s hx h).imp fun _ s1 h1 => h1.imp fun c s2 h2 => ?_
    cases c with
    | false =>
      simp only [Bool.false_eq_true, if_false] at h2 ⊢
      obtain ⟨s', e, h3⟩ := h2
      simp only [e]
      exact ih (i + 1) acc _ (by omega) (by omega) h3
    | true =>
      simp only [if_true, T_bind, T_nox] at h2 ⊢
      refine h2.imp fun y s3 hp => ?_
      cases e1 : frz s3 y with
      | none => rw [e1] at hp; exact hp.elim
      | some p =>
      rw [e1] at hp
      obtain ⟨e2, s', e3, h3⟩ := hp
      obtain ⟨y', s4⟩ := p
      dsimp only at e2 e3 h3
      simp only [e2]
      rw [if_pos (by omega)]
      simp only [e3]
      exact ih (i + 1) _ _ (by omega) (by simp; omega) h3
theorem T_lc {it : MI} {own : List Nat} {g : MG} {t : MT} {e : ME} {s : PS} {Q : SV → PS → Prop} : T (vLcN it own g t e s) Q ↔ T (it s) fun it s =>
    T (lcGo it s.w.length own g t e (it.fuel s) 0 { g := wipeG own s.g, w := s.w ++ [.lst []] }) fun _ s' => Q (.cell s.w.length) { s' with g := backG own s.g s'.g } := by
  unfold vLcN
  simp only [T_bind, T_ok]
/-! ### defs -/
theorem FT_fn {k : Nat} {body : MS} {xs : List SV} {w : List Cell} {Q : SV → List Cell → Prop} : FT (fnM k body) xs w Q ↔ T (body { g := xs.map some ++ List.replicate (k - xs.length) none, w := w }) fun fl s => match fl with
    | .nx => OP (retW w.length (.d .non) s.w) Q
    | .rt x => OP (retW w.length x s.w) Q
    | _ => False := by
  unfold FT fnM
  cases h : body { g := xs.map some ++ List.replicate (k - xs.length) none, w := w } with
  | stuck => simp
  | err e s =>
    simp only [T_err]
    cases retW w.length (.d .non) s.w with
    | none => simp
    | some p => simp
  | ok fl s =>
    cases fl with
    | nx =>
      simp only [T_ok]
      cases retW w.length (.d .non) s.w with
      | none => simp
      | some p => obtain ⟨x, w⟩ := p; simp
    | rt x =>
      simp only [T_ok]
      cases retW w.length x s.w with
      | none => simp
      | some p => obtain ⟨x, w⟩ := p; simp
    | bk => simp
    | ct => simp
/-! ### flat worlds -/
def isDat : SV → Bool
  | .d _ => true
  | .cell _ => false
def flatC : Cell → Bool
  | .ins _ fs => fs.all fun p => isDat p.2
  | .lsv xs => xs.all isDat
  | _ => true
def Flat (w : List Cell) : Prop := ∀ c ∈ w, flatC c = true
theorem flat_below {c : Cell} (h : flatC c = true) (n : Nat) : cellBelow n c = true := by
  cases c with
  | ins c fs =>
    refine List.all_eq_true.mpr fun p hp => ?_
    have q : isDat p.2 = true := List.all_eq_true.mp (show (fs.all fun p => isDat p.2) = true from h) p hp
    cases e : p.2 with
    | d x => rfl
    | cell k => rw [e] at q; cases q
  | lsv xs =>
    refine List.all_eq_true.mpr fun p hp => ?_
    have q : isDat p = true := List.all_eq_true.mp (show xs.all isDat = true from h) p hp
    cases p with
    | d x => rfl
    | cell k => cases q
  | _ => rfl
theorem Flat.take {w : List Cell} (h : Flat w) (n : Nat) : Flat (w.take n) := fun c m => h c (List.mem_of_mem_take m)
theorem Flat.all {w : List Cell} (h : Flat w) (n : Nat) : w.all (cellBelow n) = true := List.all_eq_true.mpr fun c m => flat_below (h c m) n
theorem Flat.nil : Flat [] := fun _ m => by simp at m
theorem Flat.append {w v : List Cell} (h : Flat w) (h' : Flat v) : Flat (w ++ v) := fun c m => (List.mem_append.mp m).elim (h c) (h' c)
theorem Flat.one {c : Cell} (h : flatC c = true) : Flat [c] := fun c' m => by rw [List.mem_singleton] at m; rw [m]; exact h
theorem Flat.set {w : List Cell} {k : Nat} {c : Cell} (h : Flat w) (hc : flatC c = true) : Flat (w.set k c) := fun c' m => by
  rcases List.mem_or_eq_of_mem_set m with m | rfl
  · exact h c' m
  · exact hc
theorem Flat.trunc {s : PS} (h : Flat s.w) (n : Nat) : Bf.trunc n s = some { g := s.g.map (dropG n), w := s.w.take n } := by
  unfold Bf.trunc
  rw [if_pos ((h.take n).all n)]
theorem Flat.ret {w : List Cell} (h : Flat w) {n : Nat} {x : D} : retW n (.d x) w = some (.d x, w.take n) := by
  unfold retW
  rw [if_pos ((h.take n).all n)]
theorem Flat.retC {w : List Cell} (h : Flat w) {n k : Nat} {c : Cell} (hk : n ≤ k) (hc : w[k]? = some c) : retW n (.cell k) w = some (.cell n, w.take n ++ [c]) := by
  unfold retW
  rw [if_pos ((h.take n).all n)]
  dsimp only
  rw [if_neg (by omega)]
  simp only [hc]
  rw [if_pos (flat_below (h c (List.mem_of_getElem? hc)) n)]
theorem rd_lst' {s : PS} {k : Nat} {xs : List D} (h : s.w[k]? = some (.lst xs)) : rd s (.cell k) = some (.lst xs) := by
  unfold rd
  simp only [h]
@[simp] theorem rd_d {s : PS} {x : D} : rd s (.d x) = some x := rfl
@[simp] theorem frz_d {s : PS} {x : D} : frz s (.d x) = some (x, s) := rfl
@[simp] theorem frzs_nil {s : PS} : frzs s [] = some ([], s) := rfl
@[simp] theorem frzs_d {s : PS} {x : D} {xs : List SV} : frzs s (.d x :: xs) = (frzs s xs).map fun p => (x :: p.1, p.2) := by
  rw [frzs, frz_d]
  dsimp only
  cases frzs s xs <;> rfl
@[simp] theorem rds_nil {s : PS} : rds s [] = some [] := rfl
@[simp] theorem rds_d {s : PS} {x : D} {xs : List SV} : rds s (.d x :: xs) = (rds s xs).map (x :: ·) := by
  rw [rds, rd_d]
  cases rds s xs <;> rfl
@[simp] theorem dropG_none {n : Nat} : dropG n none = none := rfl
@[simp] theorem dropG_d {n : Nat} {x : D} : dropG n (some (.d x)) = some (.d x) := rfl
theorem dropG_lt {n k : Nat} (h : k < n) : dropG n (some (.cell k)) = some (.cell k) := by
  show (if k < n then _ else _) = _
  rw [if_pos h]
theorem dropG_ge {n k : Nat} (h : n ≤ k) : dropG n (some (.cell k)) = none := by
  show (if k < n then _ else _) = _
  rw [if_neg (by omega)]
end Bf
/-! The mirror layer: comprehensions without trace, kinds of values, worlds with a die. -/
namespace Bf
open PySem PySem.Spec PyProof.Rows L2
@[simp] theorem Flat_append {w v : List Cell} : Flat (w ++ v) ↔ Flat w ∧ Flat v := ⟨fun h => ⟨fun c m => h c (List.mem_append_left _ m), fun c m => h c (List.mem_append_right _ m)⟩, fun h => h.1.append h.2⟩
@[simp] theorem Flat_cons {c : Cell} {v : List Cell} : Flat (c :: v) ↔ flatC c = true ∧ Flat v := ⟨fun h => ⟨h c (by simp), fun d m => h d (List.mem_cons_of_mem _ m)⟩, fun h d m => by
  rcases List.mem_cons.mp m with rfl | m
  · exact h.1
  · exact h.2 d m⟩
@[simp] theorem Flat_nil : Flat [] := Flat.nil
@[simp] theorem flatC_lst {xs : List D} : flatC (.lst xs) = true := rfl
@[simp] theorem flatC_gone : flatC .gone = true := rfl
@[simp] theorem retW_flat {w : List Cell} {n : Nat} {x : D} (h : Flat w) : retW n (.d x) w = some (.d x, w.take n) := h.ret
@[simp] theorem trunc_flat {s : PS} {n : Nat} (h : Flat s.w) : trunc n s = some { g := s.g.map (dropG n), w := s.w.take n } := h.trunc n
@[simp] theorem eqD_int {a b : Int} : eqD (.int a) (.int b) = some (.bl (decide (a = b))) := rfl
@[simp] theorem neD_int {a b : Int} : neD (.int a) (.int b) = some (.bl (!decide (a = b))) := rfl
@[simp] theorem neD_str {a b : Str} : neD (.str a) (.str b) = some (.bl (!(a == b))) := rfl
@[simp] theorem leD_int {a b : Int} : leD (.int a) (.int b) = some (.bl (decide (a ≤ b))) := rfl
@[simp] theorem ltD_int {a b : Int} : ltD (.int a) (.int b) = some (.bl (decide (a < b))) := rfl
@[simp] theorem gtD_int {a b : Int} : gtD (.int a) (.int b) = some (.bl (decide (b < a))) := rfl
@[simp] theorem addD_int {a b : Int} : addD (.int a) (.int b) = some (.int (a + b)) := rfl
@[simp] theorem subD_int {a b : Int} : subD (.int a) (.int b) = some (.int (a - b)) := rfl
@[simp] theorem negD_int {a : Int} : negD (.int a) = some (.int (-a)) := rfl
theorem mulD_int {a b : Int} (h : mulOk a b = true) : mulD (.int a) (.int b) = some (.int (a * b)) := by
  show (if mulOk a b = true then _ else _) = _
  rw [if_pos h]
@[simp] theorem mulD_left {a b : Int} (h : a.natAbs < 2 ^ 64) : mulD (.int a) (.int b) = some (.int (a * b)) := mulD_int (by simp only [mulOk, h, decide_true, Bool.true_or])
@[simp] theorem mulD_right {a b : Int} (h : b.natAbs < 2 ^ 64) : mulD (.int a) (.int b) = some (.int (a * b)) := mulD_int (by simp only [mulOk, h, decide_true, Bool.true_or, Bool.or_true])
@[simp] theorem modD_int {a b : Int} (h : 0 < b) : modD (.int a) (.int b) = some (.int (a % b)) := by
  show (if 0 < b then _ else _) = _
  rw [if_pos h]
theorem divD_int {a b : Int} (h : 0 < b ∧ b.natAbs.log2 < 9000) : divD (.int a) (.int b) = some (.int (a / b)) := by
  show (if 0 < b ∧ b.natAbs.log2 < 9000 then _ else _) = _
  rw [if_pos h]
theorem powD_int {a : Int} {n : Nat} (h : (Builtin.Int.intBits a : Int) * n ≤ 2 ^ 27) : powD (.int a) (.int n) = some (.int (a ^ n)) := by
  show (if 0 ≤ (n : Int) ∧ (Builtin.Int.intBits a : Int) * n ≤ 2 ^ 27 then _ else _) = _
  rw [if_pos ⟨Int.natCast_nonneg _, h⟩]
  rfl
@[simp] theorem intB_int {a : Int} : intB [.int a] = some (.int a) := rfl
@[simp] theorem intB_bl {b : Bool} : intB [.bl b] = some (.int (if b then 1 else 0)) := rfl
@[simp] theorem absB_int {a : Int} : absB [.int a] = some (.int (if a < 0 then -a else a)) := rfl
@[simp] theorem maxB_int {a b : Int} : maxB [.int a, .int b] = some (.int (if b > a then b else a)) := rfl
@[simp] theorem minB_int {a b : Int} : minB [.int a, .int b] = some (.int (if b < a then b else a)) := rfl
@[simp] theorem lenB_scr {ns : List Int} : lenB [.scr ns] = some (.int ns.length) := rfl
@[simp] theorem lenB_lst {xs : List D} : lenB [.lst xs] = some (.int xs.length) := rfl
@[simp] theorem lenB_tup {xs : List D} : lenB [.tup xs] = some (.int xs.length) := rfl
@[simp] theorem lenB_str {x : Str} : lenB [.str x] = some (.int x.length) := rfl
@[simp] theorem idxD_tup {xs : List D} {i : Int} : idxD (.tup xs) (.int i) = atI xs i := rfl
@[simp] theorem idxD_lst {xs : List D} {i : Int} : idxD (.lst xs) (.int i) = atI xs i := rfl
@[simp] theorem idxD_scr {xs : List Int} {i : Int} : idxD (.scr xs) (.int i) = (atI xs i).map .int := rfl
@[simp] theorem idxD_str {x : Str} {i : Int} : idxD (.str x) (.int i) = (atI x.cps.toList i).map fun c => .str ⟨#[c]⟩ := rfl
theorem atI_of {α : Type} {xs : List α} {i : Int} (h : 0 ≤ i) (h2 : i < xs.length) : atI xs i = xs[i.toNat]? := by
  unfold atI ixN
  rw [if_pos h, if_pos h2]
  rfl
@[simp] theorem at_0 {α : Type} {x : α} {xs : List α} : atI (x :: xs) 0 = some x := by
  rw [atI_of (by decide) (by simp)]
  rfl
@[simp] theorem at_1 {α : Type} {x y : α} {xs : List α} : atI (x :: y :: xs) 1 = some y := by
  rw [atI_of (by decide) (by simp; omega)]
  rfl
@[simp] theorem at_2 {α : Type} {x y z : α} {xs : List α} : atI (x :: y :: z :: xs) 2 = some z := by
  rw [atI_of (by decide) (by simp; omega)]
  rfl
theorem atI_mem {α : Type} {xs : List α} {i : Int} (h : 0 ≤ i) (h2 : i < xs.length) : ∃ x ∈ xs, atI xs i = some x := by
  rw [atI_of h h2]
  have hl : i.toNat < xs.length := by omega
  exact ⟨xs[i.toNat], List.getElem_mem hl, List.getElem?_eq_getElem hl⟩
/-! ### kinds -/
def tys : List String := ["NoneType", "bool", "int", "str", "tuple", "list", "dict"]
theorem kit_all : ∀ t ∈ tys, ∀ u ∈ ["int", "bool", "str", "tuple", "list"], kitB t u = some (decide (t = u) || (decide (t = "bool") && decide (u = "int"))) := by decide +kernel
def Known (x : D) : Prop := (tyD x).isSome = true
def isIntD : D → Bool
  | .int _ => true
  | _ => false
def isBlD : D → Bool
  | .bl _ => true
  | _ => false
def isStrD : D → Bool
  | .str _ => true
  | _ => false
def isTupD : D → Bool
  | .tup _ => true
  | _ => false
theorem isiB_eq {x : D} {t T : String} (h : tyD x = some t) : isiB [x, .raw (.ty T)] = (kitB t T).map .bl := by
  show (match tyD x with
    | some t => (kitB t T).map D.bl
    | none => none) = _
  rw [h]
@[simp] theorem isi_int {x : D} (h : Known x) : isiB [x, .raw (.ty "int")] = some (.bl (isIntD x || isBlD x)) := by
  cases x <;> first | (rw [isiB_eq rfl, kit_all _ (by decide) _ (by decide)]; rfl) | exact absurd h (by simp [Known, tyD])
@[simp] theorem isi_bool {x : D} (h : Known x) : isiB [x, .raw (.ty "bool")] = some (.bl (isBlD x)) := by
  cases x <;> first | (rw [isiB_eq rfl, kit_all _ (by decide) _ (by decide)]; rfl) | exact absurd h (by simp [Known, tyD])
@[simp] theorem isi_str {x : D} (h : Known x) : isiB [x, .raw (.ty "str")] = some (.bl (isStrD x)) := by
  cases x <;> first | (rw [isiB_eq rfl, kit_all _ (by decide) _ (by decide)]; rfl) | exact absurd h (by simp [Known, tyD])
@[simp] theorem isi_tuple {x : D} (h : Known x) : isiB [x, .raw (.ty "tuple")] = some (.bl (isTupD x)) := by
  cases x <;> first | (rw [isiB_eq rfl, kit_all _ (by decide) _ (by decide)]; rfl) | exact absurd h (by simp [Known, tyD])
@[simp] theorem Known_int {i : Int} : Known (.int i) := rfl
@[simp] theorem Known_bl {i : Bool} : Known (.bl i) := rfl
@[simp] theorem Known_str {i : Str} : Known (.str i) := rfl
@[simp] theorem Known_non : Known .non := rfl
@[simp] theorem Known_tup {xs : List D} : Known (.tup xs) := rfl
@[simp] theorem Known_lst {xs : List D} : Known (.lst xs) := rfl
@[simp] theorem Known_dic {xs : List (D × D)} : Known (.dic xs) := rfl
/-! ### comprehensions without trace -/
/-- the slots' cells are there -/
def Slots (n : Nat) (g : List (Option SV)) : Prop := ∀ k, some (.cell k) ∈ g → k < n
theorem Slots.drop {n m : Nat} {g : List (Option SV)} (h : Slots n g) (hm : n ≤ m) : g.map (dropG m) = g := by
  conv => rhs; rw [← List.map_id g]
  refine List.map_congr_left fun o ho => ?_
  cases o with
  | none => rfl
  | some x =>
    cases x with
    | d => rfl
    | cell k => exact dropG_lt (Nat.lt_of_lt_of_le (h k ho) hm)
theorem Slots.sub {n : Nat} {x : D} {g : List (Option SV)} (h : Slots n g) : g.map (subG n x) = g := by
  conv => rhs; rw [← List.map_id g]
  refine List.map_congr_left fun o ho => ?_
  cases o with
  | none => rfl
  | some y =>
    cases y with
    | d => rfl
    | cell k =>
      show (if k = n then _ else _) = _
      rw [if_neg (by have := h k ho; omega)]
      rfl
theorem Slots.set {n i : Nat} {x : D} {g : List (Option SV)} (h : Slots n g) : Slots n (g.set i (some (.d x))) := fun k m => by
  rcases List.mem_or_eq_of_mem_set m with m | m
  · exact h k m
  · cases m
theorem T_lc_map {it : It'} {xs : List D} {i : Nat} {g0 : List (Option SV)} {w : List Cell} {t : MT} {e : ME} {f : D → D} {p : D → Bool} {Q : SV → PS → Prop} {m : Nat} (hl : it.list = some xs) (hm : m = xs.length)
    (hi : g0[i]? = some none) (hg : Slots w.length g0) (hw : Flat w) (hz : xs.length ≤ sizeLine)
    (step : ∀ x ∈ xs, ∀ v, Flat v → T (t ⟨g0.set i (some (.d x)), w ++ v⟩) fun c s => c = p x ∧ s = ⟨g0.set i (some (.d x)), w ++ v⟩ ∧ (c = true → T (e s) fun y s' => y = .d (f x) ∧ s' = s))
    (h : Q (.cell w.length) ⟨g0, w ++ [.lst ((xs.filter p).map f)]⟩) :
    T (lcGo it w.length [i] (hName i) t e m 0 { g := wipeG [i] g0, w := w ++ [.lst []] }) fun _ s' => Q (.cell w.length) { s' with g := backG [i] g0 s'.g } := by
  have wg : wipeG [i] g0 = g0 := by
    show g0.set i none = g0
    refine List.ext_getElem? fun j => ?_
    by_cases hj : i = j
    · subst hj
      rw [hi, List.getElem?_set_self (List.getElem?_eq_some_iff.mp hi).1]
    · rw [List.getElem?_set_ne hj]
  have sw : ∀ x, wipeG [i] (g0.set i (some (.d x))) = g0 := fun x => by
    show (g0.set i _).set i none = g0
    rw [List.set_set]
    exact wg
  have hil : i < g0.length := (List.getElem?_eq_some_iff.mp hi).1
  subst hm
  refine T_lcGo hl (Inv := fun j acc s => s = ⟨g0, w ++ [.lst acc]⟩ ∧ acc = ((xs.take j).filter p).map f) (fun j x acc s hx hI => ?_) (fun acc s hI => ?_) hz _ 0 [] _ (by simp) (by simp) ⟨by rw [wg], by simp⟩
  · obtain ⟨rfl, ha⟩ := hI
    rw [T_name]
    refine ⟨hil, ?_⟩
    have hxm : x ∈ xs := List.mem_of_getElem? hx
    have tk : (xs.take (j + 1)).filter p = (xs.take j).filter p ++ if p x = true then [x] else [] := by
      rw [List.take_add_one, hx, List.filter_append]
      by_cases hp : p x = true <;> simp [hp]
    refine (step x hxm [.lst acc] (by simp)).imp fun c s hc => ?_
    obtain ⟨rfl, rfl, he⟩ := hc
    cases hp : p x with
    | false =>
      simp only [Bool.false_eq_true, if_false]
      rw [Flat.trunc (by simp [hw])]
      refine ⟨_, rfl, ?_, by rw [tk, ha, hp]; simp⟩
      simp only [(hg.set).drop (Nat.le_succ _), sw]
      rw [List.take_of_length_le (by simp)]
    | true =>
      simp only [if_true]
      refine (he hp).imp fun y s' hy => ?_
      obtain ⟨rfl, rfl⟩ := hy
      rw [frz_d]
      refine ⟨by simp, _, Flat.trunc (by simp [hw, Flat.set]) _, ?_, by rw [tk, ha, hp]; simp⟩
      simp only [(hg.set).drop (Nat.le_succ _), sw]
      rw [List.take_of_length_le (by simp)]
      simp
  · obtain ⟨rfl, ha⟩ := hI
    rw [List.take_length] at ha
    subst ha
    have bg : backG [i] g0 g0 = g0 := by
      show g0.set i (match g0[i]? with
        | some (some (.d x)) => some (.d x)
        | _ => none) = g0
      rw [hi]
      exact wg
    rw [bg]
    exact h
theorem FT_iff {f : Fn} {xs : List SV} {w v : List Cell} {y : SV} {Q : SV → List Cell → Prop} (h : FT f xs w fun x w' => x = y ∧ w' = v) : FT f xs w Q ↔ Q y v := by
  unfold FT at *
  cases q : f xs w with
  | ok a s =>
    rw [q] at h
    obtain ⟨rfl, rfl⟩ := h
    exact Iff.rfl
  | err => rw [q] at h; exact h.elim
  | stuck => rw [q] at h; exact h.elim
theorem frz_last {g : List (Option SV)} {w : List Cell} {ys : List D} (h : Slots w.length g) : frz ⟨g, w ++ [.lst ys]⟩ (.cell w.length) = some (.lst ys, ⟨g, w ++ [.gone]⟩) := by
  unfold frz
  simp [h.sub]
/-- a frozen comprehension without trace -/
theorem T_flc_map {it : It'} {xs : List D} {i : Nat} {g0 : List (Option SV)} {w : List Cell} {mi : MI} {t : MT} {e : ME} {f : D → D} {p : D → Bool} {Q : D → PS → Prop} (hit : T (mi ⟨g0, w⟩) fun j s => j = it ∧ s = ⟨g0, w⟩) (hl : it.list = some xs)
    (hi : g0[i]? = some none) (hg : Slots w.length g0) (hw : Flat w) (hz : xs.length ≤ sizeLine)
    (step : ∀ x ∈ xs, ∀ v, Flat v → T (t ⟨g0.set i (some (.d x)), w ++ v⟩) fun c s => c = p x ∧ s = ⟨g0.set i (some (.d x)), w ++ v⟩ ∧ (c = true → T (e s) fun y s' => y = .d (f x) ∧ s' = s))
    (h : Q (.lst ((xs.filter p).map f)) ⟨g0, w ++ [.gone]⟩) : T (vLcN mi [i] (hName i) t e ⟨g0, w⟩) fun x s => OP (frz s x) fun y s => Q y s := by
  rw [T_lc]
  refine hit.imp fun j s ⟨e1, e2⟩ => ?_
  subst e1 e2
  rw [It'.fuel_list hl]
  refine T_lc_map (Q := fun x s => OP (frz s x) fun y s => Q y s) hl rfl hi hg hw hz step ?_
  dsimp only
  rw [frz_last hg]
  exact h
theorem boolsD_map {α : Type} {xs : List α} {f : α → Bool} : boolsD (xs.map fun d => D.bl (f d)) = some (xs.map f) := by
  induction xs with
  | nil => rfl
  | cons x xs ih =>
    show (match boolsD (xs.map fun d => D.bl (f d)) with
      | some bs => some (f x :: bs)
      | none => none) = _
    rw [ih]
    rfl
@[simp] theorem allB_map {α : Type} {xs : List α} {f : α → Bool} : allB [.lst (xs.map fun d => D.bl (f d))] = some (.bl (xs.all f)) := by
  show (match boolsD (xs.map fun d => D.bl (f d)) with
    | some bs => some (D.bl (bs.all id))
    | none => none) = _
  rw [boolsD_map]
  show some (D.bl ((xs.map f).all id)) = _
  rw [List.all_map]
  rfl
end Bf
/-! The mirror layer: worlds with a die. -/
namespace Bf
open PySem PySem.Spec PyProof.Rows L2
structure DOk (w : List Cell) (k : Nat) : Prop where
  flat : Flat w
  ex : ∃ a b c : Int, w[k]? = some (.lst [.int a, .int b, .int c])
theorem DOk.lt {w : List Cell} {k : Nat} (h : DOk w k) : k < w.length := by
  obtain ⟨a, b, c, e⟩ := h.ex
  exact (List.getElem?_eq_some_iff.mp e).1
/-- the world w' comes after w: the die may be another, further cells may be there -/
structure Upd (k : Nat) (w w' : List Cell) : Prop where
  len : w.length ≤ w'.length
  same : ∀ j, j < w.length → j ≠ k → w'[j]? = w[j]?
  ok : DOk w' k
theorem Upd.refl {k : Nat} {w : List Cell} (h : DOk w k) : Upd k w w := ⟨Nat.le_refl _, fun _ _ _ => rfl, h⟩
theorem Upd.trans {k : Nat} {w v u : List Cell} (h : Upd k w v) (h' : Upd k v u) : Upd k w u := ⟨Nat.le_trans h.len h'.len, fun j hj hk => (h'.same j (Nat.lt_of_lt_of_le hj h.len) hk).trans (h.same j hj hk), h'.ok⟩
theorem DOk.append {w v : List Cell} {k : Nat} (h : DOk w k) (hv : Flat v) : DOk (w ++ v) k := ⟨h.flat.append hv, by
  obtain ⟨a, b, c, e⟩ := h.ex
  exact ⟨a, b, c, by rw [List.getElem?_append_left h.lt]; exact e⟩⟩
theorem Upd.append {k : Nat} {w v : List Cell} (h : DOk w k) (hv : Flat v) : Upd k w (w ++ v) := ⟨by simp, fun j hj _ => List.getElem?_append_left hj, h.append hv⟩
theorem DOk.append_upd {k : Nat} {w v : List Cell} (h : DOk w k) (hv : Flat v) : Upd k w (w ++ v) := Upd.append h hv
theorem Upd.set {k : Nat} {w : List Cell} {a b c : Int} (h : DOk w k) : Upd k w (w.set k (.lst [.int a, .int b, .int c])) := ⟨by simp, fun j hj hk => List.getElem?_set_ne (Ne.symm hk), h.flat.set rfl, a, b, c, List.getElem?_set_self h.lt⟩
/-- another cell is changed -/
theorem Upd.set' {k j : Nat} {w v : List Cell} {c : Cell} (h : Upd k w v) (hj : w.length ≤ j) (hk : k < w.length) (hc : flatC c = true) : Upd k w (v.set j c) := ⟨by simpa using h.len, fun i hi hk => by
  rw [List.getElem?_set_ne (by omega)]
  exact h.same i hi hk, h.ok.flat.set hc, by
  obtain ⟨a, b, c, e⟩ := h.ok.ex
  exact ⟨a, b, c, by rw [List.getElem?_set_ne (by omega)]; exact e⟩⟩
theorem Upd.take {k n : Nat} {w v : List Cell} (h : Upd k w v) (hk : k < w.length) (hn : w.length ≤ n) : Upd k w (v.take n) := ⟨by rw [List.length_take]; have := h.len; omega, fun j hj hk => by
  rw [List.getElem?_take_of_lt (by omega)]
  exact h.same j hj hk, h.ok.flat.take _, by
  obtain ⟨a, b, c, e⟩ := h.ok.ex
  exact ⟨a, b, c, by rw [List.getElem?_take_of_lt (by omega)]; exact e⟩⟩
theorem Upd.take_len {k : Nat} {w v : List Cell} (h : Upd k w v) : (v.take w.length).length = w.length := by
  rw [List.length_take]
  have := h.len
  omega
/-- what a def with a die does -/
def Dies (f : Fn) (args : List SV) (P : D → Prop) : Prop := ∀ (k : Nat) (w : List Cell), DOk w k → FT f (.cell k :: args) w fun x w' => (Upd k w w' ∧ w'.length = w.length) ∧ ∃ y, x = .d y ∧ P y
/-- .. as the end of its body -/
theorem die_end {k : Nat} {w v : List Cell} {y : D} {P : D → Prop} (h : Upd k w v) (hk : DOk w k) (p : P y) : OP (retW w.length (.d y) v) fun x w' => (Upd k w w' ∧ w'.length = w.length) ∧ ∃ y, x = .d y ∧ P y := by
  rw [h.ok.flat.ret]
  exact ⟨⟨h.take hk.lt (Nat.le_refl _), h.take_len⟩, y, rfl, p⟩
@[simp] theorem ixN30 : ixN 3 0 = some 0 := rfl
@[simp] theorem ixN32 : ixN 3 2 = some 2 := rfl
theorem rd_set {g : List (Option SV)} {w : List Cell} {k : Nat} {xs : List D} (h : k < w.length) : rd ⟨g, w.set k (.lst xs)⟩ (.cell k) = some (.lst xs) := rd_lst' (by simp [h])
theorem log_ok {t : Int} (h : t ≤ 10 ^ 40) (h0 : 0 < t) : t.natAbs.log2 < 9000 := by
  have : t.natAbs < 2 ^ 200 := by
    have : (2 : Nat) ^ 200 = 1606938044258990275541962092341162602522202993782792835301376 := by decide
    rw [this]
    have e : (10 : Int) ^ 40 = 10000000000000000000000000000000000000000 := by decide
    rw [e] at h
    omega
  have h2 : t.natAbs ≠ 0 := by omega
  have := (Nat.log2_lt h2).mpr this
  omega
@[simp] theorem T_dic0 {s : PS} {Q : SV → PS → Prop} : T (vDic0 s) Q ↔ Q (.d (.dic [])) s := by unfold T; exact Iff.rfl
theorem addD_lst {xs ys : List D} (h : xs.length + ys.length ≤ sizeLine) : addD (.lst xs) (.lst ys) = some (.lst (xs ++ ys)) := by
  show (if xs.length + ys.length ≤ sizeLine then _ else _) = _
  rw [if_pos h]
theorem small {n : Nat} (h : n ≤ 100000) : n ≤ sizeLine := by
  rw [sizeLine_eq]
  omega
theorem Dies.imp {f : Fn} {args : List SV} {P P' : D → Prop} (h : Dies f args P) (i : ∀ y, P y → P' y) : Dies f args P' := fun k w hw => (h k w hw).imp fun x w' ⟨a, y, e, p⟩ => ⟨a, y, e, i y p⟩
@[simp] theorem at_app0 {w r : List Cell} {c : Cell} : (w ++ c :: r)[w.length]? = some c := by simp
@[simp] theorem at_app1 {w r : List Cell} {a c : Cell} : (w ++ a :: c :: r)[w.length + 1]? = some c := by
  rw [List.getElem?_append_right (by omega)]
  have : w.length + 1 - w.length = 1 := by omega
  rw [this]
  rfl
@[simp] theorem at_app2 {w r : List Cell} {a b c : Cell} : (w ++ a :: b :: c :: r)[w.length + 1 + 1]? = some c := by
  rw [List.getElem?_append_right (by omega)]
  have : w.length + 1 + 1 - w.length = 2 := by omega
  rw [this]
  rfl
@[simp] theorem rd_app0 {g : List (Option SV)} {w r : List Cell} {xs : List D} : rd ⟨g, w ++ .lst xs :: r⟩ (.cell w.length) = some (.lst xs) := rd_lst' at_app0
@[simp] theorem rd_app1 {g : List (Option SV)} {w r : List Cell} {a : Cell} {xs : List D} : rd ⟨g, w ++ a :: .lst xs :: r⟩ (.cell (w.length + 1)) = some (.lst xs) := rd_lst' at_app1
@[simp] theorem rd_app2 {g : List (Option SV)} {w r : List Cell} {a b : Cell} {xs : List D} : rd ⟨g, w ++ a :: b :: .lst xs :: r⟩ (.cell (w.length + 1 + 1)) = some (.lst xs) := rd_lst' at_app2
theorem sl_str (s : Str) (a b : Option Int) : ∃ t : Str, slD (.str s) a b = some (.str t) ∧ t.length ≤ s.length := by
  refine ⟨_, rfl, ?_⟩
  have e : s.cps.toList.length = s.length := Array.length_toList
  show (cutD s.cps.toList a b).toArray.size ≤ _
  unfold cutD
  rw [List.size_toArray, List.length_take, List.length_drop]
  omega
end Bf
/-! The mirror layer: what is never run; max and min of several numbers or of a list. -/
namespace Bf
open PySem PySem.Spec PyProof.Rows L2
def sStuck : MS := fun _ => .stuck
theorem ms_stuck {X : Cx} {CT : Ctx} {E : Sto → XK} {st : Stmt} : L2.PS X st (upS X.K CT E sStuck) := ⟨fun _ _ _ _ _ _ ⟨_, _, _, _, h⟩ => h.elim⟩
section
variable {prog : Program} {w : World} {A : Around} {E : Value → Shared → Prop} {s : Shared} {a b : Value} {r : List Value}
theorem many_min {Q : Value → Shared → Prop} (hok : argsOk "min" ⟨a :: b :: r, []⟩) (hz : (a :: b :: r).length ≤ sizeLine)
    (h : wpAny (model prog w) A.in1 (pyIter (.ref s.heap.objs.size)) (fun it s2 => ∃ I fp wr n P St bt, it = .ref I ∧ Walks prog w A.in1 I fp wr n P St ∧ St 0 s2.heap ∧ (∀ b ∈ fp, b < s2.heap.objs.size) ∧ 0 < n ∧ CmpOf prog w A.in1 .Lt P bt ∧
      ∀ v h' tk, P (argBest bt (n - 1)) v → (∀ b o, b ∉ wr → s2.heap.get? b = some o → h'.get? b = some o) → Q v { s2 with heap := h', toks := tk }) E { s with heap := s.heap.push { cls := .type "tuple", data := .seq (a :: b :: r).toArray } }) :
    wpAny (model prog w) A (call (.builtin "min") (a :: b :: r)) Q E s := by
  refine call_function_tree F.kind_min F.plain_min F.entry_min hok ?_
  show wpAny _ A.in1 (Builtin.Builtins.bindParams "min" ["key", "default"] 0 ⟨[], []⟩ >>= _) _ _ s
  refine wpAny_bind (wpAny_of_eq (show Builtin.Builtins.bindParams "min" ["key", "default"] 0 ⟨[], []⟩ = pure [none, none] from rfl) ?_)
  show wpAny _ A.in1 (newTuple (a :: b :: r) >>= _) _ _ s
  refine wpAny_bind (wpAny_newObj_type (wpAny_bind (wpAny_mono h (fun it s2 q => ?_) fun _ _ e => e)) hz)
  obtain ⟨I, fp, wr, n, P, St, bt, rfl, W, h0, hb, hn, hc, hQ⟩ := q
  have nf : s2.heap.objs.size ∉ fp := fun m => Nat.lt_irrefl _ (hb _ m)
  have nm : (toString "min" ++ toString ".loop" : String) = "min.loop" := by decide
  refine wpAny_bind (wpAny_newObj_type ?_)
  rw [nm]
  exact wpAny_pure ⟨plainId_quiet F.plain_min_loop _, codeAny_min_loop_first W bt hc s2.heap.objs.size nf hn (W.frame _ _ _ h0 fun b _ o e => Heap.get?_push_of_some _ e) (Heap.get?_push_size _ rfl) fun v h' tk hP hk =>
    hQ v h' tk hP fun b o m e => hk b o m (Nat.ne_of_lt (Heap.lt_size e)) (Heap.get?_push_of_some _ e)⟩
theorem min_ints {us : List Value} {ns : List Int} {Q : Value → Shared → Prop} (hh : A.handled = none) (hi : IntsAre us ns) (h2 : 2 ≤ ns.length) (hok : argsOk "min" ⟨us, []⟩) (hz : us.length ≤ sizeLine)
    (h : ∀ h' tk M t', (∀ b o, s.heap.get? b = some o → h'.get? b = some o) → M ∈ ns → (∀ a, a ∈ ns → M ≤ a) → Q (.int M t') { s with heap := h', toks := tk }) : wpAny (model prog w) A (call (.builtin "min") us) Q E s := by
  obtain ⟨xs, e⟩ := hi.allInts.items
  have hn : numsOf (intItems xs).toList = ns := by rw [← e]; exact hi.numsOf
  rw [nums_intItems] at hn
  have hl : us.length = xs.size := by
    have := congrArg Array.size e
    simpa [intItems] using this
  have hn2 : ns.length = xs.size := by rw [← hn]; simp
  match us, hi, hok, hz, e, hl with
  | [], _, _, _, _, hl => simp at hl; omega
  | [_], _, _, _, _, hl => simp at hl; omega
  | a :: b :: r, hi, hok, hz, e, hl =>
    refine many_min hok hz ?_
    rw [e]
    have hT : (s.heap.push { cls := .type "tuple", data := .seq (intItems xs) }).IsTuple s.heap.objs.size (intItems xs) := ⟨_, Heap.get?_push_size _ rfl, rfl, 0, by simp [intItems]⟩
    refine wpAny_pyIter_tuple hT ?_
    have hs1 : (s.heap.push { cls := .type "tuple", data := .seq (intItems xs) }).objs.size = s.heap.objs.size + 1 := Heap.size_push ..
    refine ⟨_, [_, s.heap.objs.size], [_], _, _, _, _, rfl, Walks.tuple (A := A.in1) hh _ s.heap.objs.size (Nat.ne_of_lt (by rw [hs1]; exact Nat.lt_succ_self _)) (intItems xs), ⟨⟨_, Heap.get?_push_size _ rfl, rfl, rfl⟩, hT.push _⟩, fun d hd => ?_, by simp [intItems]; omega, CmpOf.ints_lt (numAt xs) (fun _ _ => intItems_at), fun v h' tk hP hk => ?_⟩
    · show d < ((s.heap.push _).push _).objs.size
      rw [Heap.size_push, hs1]
      simp only [List.mem_cons, List.not_mem_nil, or_false] at hd
      rcases hd with rfl | rfl
      · rw [hs1]
        exact Nat.lt_succ_self _
      · exact Nat.lt_succ_of_lt (Nat.lt_succ_self _)
    · have old : ∀ d o, s.heap.get? d = some o → h'.get? d = some o := fun d o q => by
        refine hk d o (fun m => ?_) (Heap.get?_push_of_some _ (Heap.get?_push_of_some _ q))
        have := Heap.lt_size q
        rw [List.mem_singleton] at m
        rw [m, hs1] at this
        exact absurd this (Nat.not_lt.mpr (Nat.le_succ _))
      have hP : (intItems xs)[argBest (fun i j => decide (numAt xs i < numAt xs j)) (xs.size - 1)]? = some v := by simpa [intItems] using hP
      obtain ⟨t, rfl⟩ := intItems_at hP
      obtain ⟨q1, q2⟩ := argBest_lt (numAt xs) (xs.size - 1)
      refine h h' tk _ t old ?_ fun a ha => ?_
      · rw [numAt_eq, ← hn]
        exact PySem.getD_mem (by rw [List.length_map, Array.length_toList]; omega)
      · rw [← hn] at ha
        obtain ⟨j, hj, rfl⟩ := mem_getD ha
        rw [List.length_map, Array.length_toList] at hj
        rw [← numAt_eq]
        exact q2 j (by omega)
end
def minI : List Int → Option Int
  | [] => none
  | n :: ns => some (ns.foldl min n)
theorem foldl_min (ns : List Int) : ∀ n : Int, ns.foldl min n ≤ n ∧ (∀ a ∈ ns, ns.foldl min n ≤ a) ∧ (ns.foldl min n = n ∨ ns.foldl min n ∈ ns) := by
  induction ns with
  | nil => intro n; simp
  | cons m ns ih =>
    intro n
    obtain ⟨h1, h2, h3⟩ := ih (min n m)
    rw [List.foldl_cons]
    refine ⟨by omega, fun a ha => ?_, ?_⟩
    · rcases List.mem_cons.mp ha with rfl | ha
      · omega
      · exact h2 a ha
    · rcases h3 with h3 | h3
      · rw [h3]
        by_cases h : m ≤ n
        · right
          rw [Int.min_eq_right h]
          exact List.mem_cons_self
        · left
          omega
      · exact .inr (List.mem_cons_of_mem _ h3)
theorem minI_of {ns : List Int} {z M : Int} (e : minI ns = some z) (hm : M ∈ ns) (hb : ∀ a ∈ ns, M ≤ a) : M = z := by
  cases ns with
  | nil => cases e
  | cons n ns =>
    simp only [minI, Option.some.injEq] at e
    subst e
    obtain ⟨h1, h2, h3⟩ := foldl_min ns n
    have q1 : ns.foldl min n ≤ M := by
      rcases List.mem_cons.mp hm with rfl | hm
      · exact h1
      · exact h2 M hm
    have q2 : M ≤ ns.foldl min n := by
      rcases h3 with h3 | h3
      · rw [h3]
        exact hb n List.mem_cons_self
      · exact hb _ (List.mem_cons_of_mem _ h3)
    omega
/-- max, min of a list, or of two up to six numbers -/
def numsD (f : List Int → Option Int) (ds : List D) : Option D := match ds with
  | [.lst xs] => ((intsD xs).bind f).map .int
  | [.tup xs] => none
  | ds => if 2 ≤ ds.length ∧ ds.length ≤ 6 then ((intsD ds).bind f).map .int else none
theorem args_min {us : List Value} (h : 2 ≤ us.length ∧ us.length ≤ 6) : argsOk "min" ⟨us, []⟩ := by
  match us, h with
  | [_, _], _ => unfold argsOk; kernel_rfl
  | [_, _, _], _ => unfold argsOk; kernel_rfl
  | [_, _, _, _], _ => unfold argsOk; kernel_rfl
  | [_, _, _, _, _], _ => unfold argsOk; kernel_rfl
  | [_, _, _, _, _, _], _ => unfold argsOk; kernel_rfl
  | [], h => exact absurd h.1 (by simp)
  | [_], h => exact absurd h.1 (by simp)
  | _ :: _ :: _ :: _ :: _ :: _ :: _ :: _, h => exact absurd h.2 (by simp)
section
variable {X : Cx} {CT : Ctx}
theorem cr_minA (hc : X.calm = true) : CallR X (.builtin "min") (fun vs H Q => ∃ ns : List Int, vs = ns.map V.int ∧ 2 ≤ ns.length ∧ ns.length ≤ 6 ∧ ∀ m, m ∈ ns → (∀ y, y ∈ ns → m ≤ y) → Q (.int m) H) := by
  intro pins s σ H vs us Q I r ⟨ns, e, h2, h6, q⟩
  subst e
  have hl : us.length = ns.length := by rw [← r.length, List.length_map]
  exact min_ints (I.ok.hd hc) r.ints h2 (args_min (by omega)) (by rw [sizeLine_eq]; omega) fun h' tk m t' hk h1 h3 => ⟨.int _, H, I.kept hk, ⟨_, rfl⟩, q m h1 h3⟩
theorem rdbs_ints {K : PySem.W.Frag} {F H : Hp} : ∀ {ds : List D} {vs : List V} {ns : List Int}, Rdbs K CT F H vs ds → intsD ds = some ns → vs = ns.map V.int ∧ ns.length = ds.length
  | [], _, ns, r, e => by
    cases r
    simp only [intsD, Option.some.injEq] at e
    subst e
    exact ⟨rfl, rfl⟩
  | x :: xs, _, ns, r, e => by
    cases r with
    | cons r1 r2 =>
      cases x with
      | int b =>
        unfold intsD at e
        cases q : intsD xs with
        | none => simp only [q] at e; cases e
        | some cs =>
          simp only [q, Option.some.injEq] at e
          subst e
          obtain rfl := r1.int'
          obtain ⟨i1, i2⟩ := rdbs_ints r2 q
          exact ⟨by rw [i1]; rfl, by simp [i2]⟩
      | _ => simp only [intsD] at e; cases e
theorem cb_minN (hc : X.calm = true) : CallR X (.builtin "min") (rB X.K CT (numsD minI)) := callr_imp ((cr_min (X := X) hc).or (cr_minA hc)) fun vs H Q h => by
  obtain ⟨F, as, σ, S, ds, z, n, r, e, f⟩ := h
  unfold numsD at e
  split at e
  · rename_i xs
    cases q : intsD xs with
    | none => rw [q] at e; cases e
    | some ns =>
      rw [q] at e
      cases q2 : minI ns with
      | none => simp [q2] at e
      | some m =>
        simp [q2] at e
        subst e
        obtain ⟨v, rfl, rv⟩ := r.one
        obtain ⟨a, ws, rfl, q1, r1⟩ := rv.lst' n.sub
        obtain rfl := reps_ints r1 q
        refine .inl ⟨a, ns, rfl, SqL.of q1, ?_, fun M hM hb => ?_⟩
        · cases ns with
          | nil => cases q2
          | cons => simp
        · rw [minI_of q2 hM hb]
          exact f.flat n (.int _)
  · cases e
  · split at e
    · rename_i hz
      cases q : intsD ds with
      | none => rw [q] at e; cases e
      | some ns =>
        rw [q] at e
        cases q2 : minI ns with
        | none => simp [q2] at e
        | some m =>
          simp [q2] at e
          subst e
          obtain ⟨hv, hl⟩ := rdbs_ints r q
          refine .inr ⟨ns, hv, by omega, by omega, fun M hM hb => ?_⟩
          rw [minI_of q2 hM hb]
          exact f.flat n (.int _)
    · cases e
end
@[simp ↓] theorem T_hTup2 {g1 g2 : MG} {a b : D} {s : PS} {Q : Unit → PS → Prop} : T (hTup [g1, g2] (.d (.tup [a, b])) s) Q ↔ T (g1 (.d a) s) fun _ s => T (g2 (.d b) s) Q := by
  unfold hTup
  simp only [rd_d]
  rw [if_pos (show [a, b].length = [g1, g2].length from rfl)]
  unfold hAll
  rw [T_bind]
  unfold hAll
  simp only [T_bind]
  unfold hAll
  refine iff_of_eq (congrArg (T _) (funext fun _ => funext fun s => ?_))
  refine congrArg (T _) (funext fun u => funext fun s => ?_)
  cases u
  exact propext T_ok
@[simp ↓] theorem T_hTup3 {g1 g2 g3 : MG} {a b c : D} {s : PS} {Q : Unit → PS → Prop} : T (hTup [g1, g2, g3] (.d (.tup [a, b, c])) s) Q ↔ T (g1 (.d a) s) fun _ s => T (g2 (.d b) s) fun _ s => T (g3 (.d c) s) Q := by
  unfold hTup
  simp only [rd_d]
  rw [if_pos (show [a, b, c].length = [g1, g2, g3].length from rfl)]
  unfold hAll
  rw [T_bind]
  unfold hAll
  simp only [T_bind]
  unfold hAll
  simp only [T_bind]
  unfold hAll
  refine iff_of_eq (congrArg (T _) (funext fun _ => funext fun s => congrArg (T _) (funext fun _ => funext fun s => ?_)))
  refine congrArg (T _) (funext fun u => funext fun s => ?_)
  cases u
  exact propext T_ok
@[simp] theorem neD_bl {a b : Bool} : neD (.bl a) (.bl b) = some (.bl (!(a == b))) := rfl
@[simp] theorem eqD_bl {a b : Bool} : eqD (.bl a) (.bl b) = some (.bl (a == b)) := rfl
theorem log_small {a : Int} (h : a.natAbs ≤ 10 ^ 40) : a.natAbs.log2 < 200 := by
  by_cases h0 : a.natAbs = 0
  · rw [h0]
    decide
  · refine (Nat.log2_lt h0).mpr (Nat.lt_of_le_of_lt h ?_)
    decide +kernel
theorem mulOk_le {a b : Int} (ha : a.natAbs ≤ 10 ^ 40) (hb : b.natAbs ≤ 10 ^ 40) : mulOk a b = true := by
  have h1 := log_small ha
  have h2 := log_small hb
  unfold mulOk
  have : a.natAbs.log2 + b.natAbs.log2 < 1000000 := by omega
  rw [decide_eq_true this, Bool.or_true]
def Dat' (o : Option SV) : Prop := o = none ∨ ∃ d, o = some (.d d)
theorem Dat'.drop {o : Option SV} (h : Dat' o) (n : Nat) : dropG n o = o := by
  rcases h with rfl | ⟨d, rfl⟩ <;> rfl
theorem T_seq_of {m n : MS} {s : PS} {Q : Fl → PS → Prop} (P : PS → Prop) (h1 : T (m s) fun fl s => fl = .nx ∧ P s) (h2 : ∀ s, P s → T (n s) Q) : T (sSeq m n s) Q := by
  rw [T_seq]
  refine h1.imp fun fl s h => ?_
  obtain ⟨rfl, h⟩ := h
  exact h2 s h
end Bf
/-! The mirror layer: constants that are tuples; sorted. -/
namespace Bf
open PySem PySem.Spec PyProof.Rows L2
/-- a constant of the text that is a tuple -/
structure GT (K : PySem.W.Frag) (mg : Str → Option Value) (x : Str) (ds : List D) : Prop where
  ex : ∃ (a : Addr) (o : Obj) (its : Array Value) (n : Nat) (vs : List V), mg x = some (.ref a) ∧ K.lookup a = some o ∧ o.cls = .type "tuple" ∧ o.data = .seq its n ∧ its.size ≤ sizeLine ∧ Vals vs its.toList ∧ ∀ CT F, Reps K CT F vs ds
theorem me_gt {X : Cx} {CT : Ctx} {E : Sto → XK} {p : Pos} {x : Str} {ds : List D} (g : GT X.K X.mg x ds) (hg : Gl X x := by rfl) (hd : (x == ("__debug__" : Str)) = false := by decide) : PE X (.Name x p) (up X.K CT E (vC (.kup ds))) := by
  obtain ⟨a, o, its, n, vs, hm, hl, hc, hs, hz, hv, hr⟩ := g.ex
  exact me_glob (v := .ref a) hm rfl (fun F => Rep.kup (.inr ⟨o, its, n, hl, hc, hs, hz, hv⟩) (hr CT F)) hg hd
theorem str_rep {K : PySem.W.Frag} {CT : Ctx} {F : Hp} {x : Str} (h1 : x.length ≤ 100000 := by decide +kernel) (h2 : PyData.strOk x = true := by decide +kernel) : Rep K CT F (.str x) (.str x) := .str x (Nat.le_trans h1 (by rw [sizeLine_eq]; decide)) h2
/-- a or b, of values -/
def vOrV (a b : ME) : ME := fun s => (a s).bind fun x s => match rd s x with
  | some d => match truD d with
    | some k => if k = true then .ok x s else b s
    | none => .stuck
  | none => .stuck
theorem me_orV {X : Cx} {CT : Ctx} {E : Sto → XK} {a b : Expr} {rest : List Expr} {pos : Pos} {ma mb : ME} (ha : PE X a (up X.K CT E ma)) (hb : PE X (.BoolOp .Or (b :: rest) pos) (up X.K CT E mb)) : PE X (.BoolOp .Or (a :: b :: rest) pos) (up X.K CT E (vOrV ma mb)) :=
  PE.imp (pe_orT ha hb) fun σ H Q ⟨F, as, s, n, h⟩ => up_seq n h rfl fun v x s1 F1 as1 H1 e1 n1 r1 h1 => by
    cases q1 : rd s1 x with
    | none => simp only [q1] at h1; exact h1.elim
    | some d =>
      simp only [q1] at h1
      cases q2 : truD d with
      | none => simp only [q2] at h1; exact h1.elim
      | some k =>
        simp only [q2] at h1
        refine ⟨k, tru_of n1 (n1.rd r1 q1) q2, ?_⟩
        cases k with
        | true => exact h1.here (σ := σ) rfl n1 _ r1
        | false => exact up_at n1 h1
@[simp ↓] theorem T_orV {a b : ME} {s : PS} {Q : SV → PS → Prop} : T (vOrV a b s) Q ↔ T (a s) fun x s => OD (rd s x) fun d => OD (truD d) fun k => if k = true then Q x s else T (b s) Q := by
  unfold vOrV
  rw [T_bind]
  refine iff_of_eq (congrArg (T _) (funext fun x => funext fun s => propext ?_))
  cases rd s x with
  | none => simp
  | some d =>
    simp only [OD_some]
    cases h : truD d with
    | none => simp
    | some k => cases k <;> simp
end Bf
namespace Bf
open PySem PySem.SeqAt
open PySem.MeetsSeq
open AutoSeq1 (wpAny_loadPart')
section
open L2
variable {X : Cx} {CT : Ctx}
/-- as inD, and a dict beside texts -/
def isStrs : List D → Bool
  | [] => true
  | .str _ :: r => isStrs r
  | _ => false
def inX (x y : D) : Option D := match x, y with
  | .dic _, .tup ys => if isStrs ys = true then some (.bl false) else none
  | x, y => inD x y
def ninX (x y : D) : Option D := match x, y with
  | .dic _, .tup ys => if isStrs ys = true then some (.bl true) else none
  | x, y => ninD x y
def eqX (x y : D) : Option D := match x, y with
  | .dic _, .tup ys => if D.plains ys = true then some (.bl false) else none
  | x, y => eqD x y
@[simp] theorem inX_dic {k : List (D × D)} {ys : List D} : inX (.dic k) (.tup ys) = if isStrs ys = true then some (.bl false) else none := rfl
@[simp] theorem ninX_dic {k : List (D × D)} {ys : List D} : ninX (.dic k) (.tup ys) = if isStrs ys = true then some (.bl true) else none := rfl
@[simp] theorem eqX_dic {k : List (D × D)} {ys : List D} : eqX (.dic k) (.tup ys) = if D.plains ys = true then some (.bl false) else none := rfl
end
end Bf
namespace PyProof.Rows
open PySem
section
variable {prog : Program} {w : World} {A : Around} {E : Value → Shared → Prop} {s : Shared}
theorem collect_tuple {l : Addr} {vs : List Value} {Q : List Value → Shared → Prop} (hl : s.heap.IsTuple l vs.toArray)
    (h : Q vs { s with heap := (s.heap.push (seqObj "list" #[] 0)).update s.heap.objs.size (Obj.mapSeq (· ++ vs.toArray)) }) (hsz : vs.length ≤ sizeLine := by size_fits) :
    wpAny (model prog w) A (collect (.ref l)) Q E s := by
  obtain ⟨o, ho, hc, n, hd⟩ := id hl
  unfold collect
  refine wpAny_bind (wpAny_runValue (codeAny_builtin entry_proto_collect' ?_))
  show wpAny _ _ (do again (.builtin "list.__iadd__" ⟨[← newList [], .ref l], []⟩)) _ _ s
  refine wpAny_bind (wpAny_newList (wpAny_pure ⟨Code.quiet_builtin _ (by decide +kernel), codeAny_builtin entry_list_iadd' ?_⟩))
  show wpAny _ _ (Builtin.List.listExtendWith (.ref s.heap.objs.size) (.ref l) (.ref s.heap.objs.size)) _ _ { s with heap := s.heap.push (seqObj "list" #[] 0) }
  unfold Builtin.List.listExtendWith
  have ho' : (s.heap.push (seqObj "list" #[] 0)).get? l = some o := Heap.get?_push_of_some _ ho
  refine wpAny_bind (wpAny_typeOf (T := "tuple") ⟨o, ho', hc⟩ ?_)
  have ht : (Value.type "tuple" == Value.type "tuple") = true := by rfl
  rw [if_pos (by rw [ht]; simp)]
  refine wpAny_bind (listItems_at ho' hd ?_)
  refine wpAny_bind (listItems_at (xs := #[]) (n := 0) (Heap.get?_push_size _ rfl) rfl ?_)
  rw [if_neg (by simp)]
  refine wpAny_bind (listUpdate_at (xs := #[]) (n := 0) (Heap.get?_push_size _ rfl) rfl ?_ (Nat.zero_le _) (by show (#[] ++ vs.toArray).size ≤ sizeLine + 1; simp only [Array.size_append, List.size_toArray, List.length_nil]; omega))
  refine wpAny_pure ?_
  show wpAny (model prog w) A (do
      let o ← load s.heap.objs.size
      match o.data with
      | .seq xs _ => pure xs.toList
      | _ => unsupported "internal:collect") Q E { s with heap := (s.heap.push (seqObj "list" #[] 0)).update s.heap.objs.size (Obj.mapSeq (· ++ vs.toArray)) }
  refine wpAny_bind (wpAny_load (get?_update_seq (Heap.get?_push_size _ rfl) _) ?_)
  show wpAny _ _ (pure ((#[] : Array Value) ++ vs.toArray).toList) Q E _
  rw [show ((#[] : Array Value) ++ vs.toArray).toList = vs by simp]
  exact wpAny_pure h
theorem sorted_intsT {l : Addr} {vs : List Value} {ns : List Int} {Q : Value → Shared → Prop} (hl : s.heap.IsTuple l vs.toArray) (hI : IntsAre vs ns) (h64 : vs.length < 64)
    (h : ∀ (out : Array Value) (ns' : List Int), IntsAre out.toList ns' → ns'.Perm ns → ns'.Pairwise (· ≤ ·) → Q (.ref (s.heap.objs.size + 1)) { s with heap := sortedAll s.heap vs out }) :
    wpAny (model prog w) A (call (.builtin "sorted") [.ref l]) Q E s := by
  refine Calls.call_function_entry kind_sorted plain_sorted entry_sorted (args_sorted1 _) ?_
  unfold Builtin.«sorted»
  refine wpAny_bind (m := checkCount "sorted" 1 1 _) (wpAny_pure ?_)
  have hz : vs.length ≤ sizeLine := by rw [sizeLine_eq]; omega
  refine wpAny_bind (collect_tuple hl ?_ hz)
  refine wpAny_bind (wpAny_newList ?_ hz)
  have hsz : ((s.heap.push (seqObj "list" #[] 0)).update s.heap.objs.size (Obj.mapSeq (· ++ vs.toArray))).objs.size = s.heap.objs.size + 1 := by
    rw [Heap.size_update, size_push']
  have hoL : (((s.heap.push (seqObj "list" #[] 0)).update s.heap.objs.size (Obj.mapSeq (· ++ vs.toArray))).push (seqObj "list" vs.toArray 0)).get? (s.heap.objs.size + 1) = some (seqObj "list" vs.toArray 0) := by
    rw [← hsz]; exact Heap.get?_push_size _ rfl
  show wpAny _ _ _ _ _ { s with heap := ((s.heap.push (seqObj "list" #[] 0)).update s.heap.objs.size (Obj.mapSeq (· ++ vs.toArray))).push (seqObj "list" vs.toArray 0) }
  rw [hsz]
  refine wpAny_bind (wpAny_holding (wpAny_call_entry slot_list_sort ⟨_, hoL, rfl⟩ entry_list_sort (list_sort_tree hoL hI h64 fun out ns' a1 a2 a3 => ⟨_, rfl, ?_⟩) (args_list_sort _)))
  exact wpAny_pure ⟨_, rfl, h out ns' a1 a2 a3⟩
end
end PyProof.Rows
namespace Bf
open PySem PySem.Spec PyProof.Rows L2
open PySem.W (AlikeAll min_tuple_data max_tuple_data minD_ints maxD_ints)
section
variable {X : Cx} {CT : Ctx}
/-- ints, sorted -/
def insZ (a : Int) : List Int → List Int
  | [] => [a]
  | b :: r => if a ≤ b then a :: b :: r else b :: insZ a r
def sortZ : List Int → List Int
  | [] => []
  | a :: r => insZ a (sortZ r)
theorem insZ_perm (a : Int) : ∀ r, (insZ a r).Perm (a :: r)
  | [] => .refl _
  | b :: r => by
    unfold insZ
    split
    · exact .refl _
    · exact ((insZ_perm a r).cons b).trans (.swap _ _ _)
theorem sortZ_perm : ∀ r, (sortZ r).Perm r
  | [] => .refl _
  | a :: r => (insZ_perm a _).trans ((sortZ_perm r).cons a)
theorem insZ_rises (a : Int) : ∀ r : List Int, r.Pairwise (· ≤ ·) → (insZ a r).Pairwise (· ≤ ·)
  | [], _ => by simp [insZ]
  | b :: r, h => by
    unfold insZ
    obtain ⟨h1, h2⟩ := List.pairwise_cons.mp h
    split
    · rename_i q
      refine List.pairwise_cons.mpr ⟨fun c hc => ?_, h⟩
      rcases List.mem_cons.mp hc with rfl | hc
      · exact q
      · exact Int.le_trans q (h1 c hc)
    · rename_i q
      refine List.pairwise_cons.mpr ⟨fun c hc => ?_, insZ_rises a r h2⟩
      rcases List.mem_cons.mp ((insZ_perm a r).mem_iff.mp hc) with rfl | hc
      · omega
      · exact h1 c hc
theorem sortZ_rises : ∀ r, (sortZ r).Pairwise (· ≤ ·)
  | [] => .nil
  | a :: r => insZ_rises a _ (sortZ_rises r)
theorem sortZ_of {ns ns' : List Int} (h1 : ns'.Perm ns) (h2 : ns'.Pairwise (· ≤ ·)) : ns' = sortZ ns :=
  List.Perm.eq_of_pairwise (fun _ _ _ _ a b => Int.le_antisymm a b) h2 (sortZ_rises ns) (h1.trans (sortZ_perm ns).symm)
def rSortedTu (K : PySem.W.Frag) : List V → Hp → VK → Prop := fun vs H Q => ∃ (a : Addr) (ns : List Int), vs = [V.ref a] ∧ SqT K H a (ns.map V.int) ∧ ns.length < 64 ∧
  ∀ (ns' : List Int) (p : Addr), ns'.Perm ns → ns'.Pairwise (· ≤ ·) → H p = none → Q (.ref p) (upd H p (.lst (ns'.map V.int)))
theorem cr_sortedTu : CallR X (.builtin "sorted") (rSortedTu X.K) := by
  intro pins s σ H vs us Q I r h
  obtain ⟨a, ns, rfl, hs, h64, q⟩ := h
  obtain ⟨its, rv, hl, _⟩ := I.tuple hs
  rw [Vals.ref1 r]
  have hi := rv.ints
  refine PyProof.Rows.sorted_intsT hl hi (by rw [hi.length]; exact h64) fun out ns' h1 h2 h3 => ?_
  obtain ⟨ep, he'⟩ := PyProof.Rows.sortedAll_at s.heap its out
  have hlen : (ns'.map V.int).length ≤ sizeLine := by rw [List.length_map, h2.length_eq]; exact small64 h64
  exact ⟨.ref _, upd H (s.heap.objs.size + 1) (.lst (ns'.map V.int)), I.laid (t' := s.toks) (fun _ _ => PyProof.Rows.sortedAll_old) (Nat.le_succ _) ⟨hlen, out.toList, ep, vals_of_ints h1, he'⟩, rfl, q ns' _ h2 h3 (I.hok.fresh (Nat.le_succ _))⟩
/-- sorted(xs), a list or a tuple of less than 64 ints -/
def sortedB : List D → Option D
  | [.lst xs] => match intsD xs with
    | some ns => if ns.length < 64 then some (.lst ((sortZ ns).map .int)) else none
    | none => none
  | [.tup xs] => match intsD xs with
    | some ns => if ns.length < 64 then some (.lst ((sortZ ns).map .int)) else none
    | none => none
  | _ => none
theorem ints_reps {K : PySem.W.Frag} {F : Hp} : ∀ ns : List Int, Reps K CT F (ns.map V.int) (ns.map D.int)
  | [] => .nil
  | n :: r => .cons (.int n) (ints_reps r)
theorem cb_sorted : CallR X (.builtin "sorted") (rB X.K CT sortedB) := callr_imp ((cr_sorted (X := X)).or cr_sortedTu) fun vs H Q h => by
  obtain ⟨F, as, σ, S, ds, z, n, r, e, f⟩ := h
  unfold sortedB at e
  split at e
  · rename_i xs
    cases q : intsD xs with
    | none => rw [q] at e; cases e
    | some ns =>
      simp only [q] at e
      split at e
      · rename_i h64
        cases e
        obtain ⟨v, rfl, rv⟩ := r.one
        obtain ⟨a, ws, rfl, q1, r1⟩ := rv.lst' n.sub
        obtain rfl := reps_ints r1 q
        refine .inl ⟨a, ns, rfl, SqL.of q1, h64, fun ns' p h1 h2 hp => ?_⟩
        rw [sortZ_of h1 h2]
        exact f.list n p _ hp (ints_reps _)
      · cases e
  · rename_i xs
    cases q : intsD xs with
    | none => rw [q] at e; cases e
    | some ns =>
      simp only [q] at e
      split at e
      · rename_i h64
        cases e
        obtain ⟨v, rfl, rv⟩ := r.one
        obtain ⟨a, ws, rfl, q1, r1⟩ := rv.tup' n.sub
        obtain rfl := reps_ints r1 q
        refine .inr ⟨a, ns, rfl, q1, h64, fun ns' p h1 h2 hp => ?_⟩
        rw [sortZ_of h1 h2]
        exact f.list n p _ hp (ints_reps _)
      · cases e
  · cases e
/-! ### max, min of a tuple of ints -/
theorem ints_depth : ∀ ns : List Int, PyData.depthAll (ns.map PyData.int) ≤ 1
  | [] => by simp [PyData.depthAll]
  | n :: r => by
    have := ints_depth r
    rw [List.map_cons]
    simp only [PyData.depthAll, PyData.depth]
    omega
theorem ints_alike (ns : List Int) : AlikeAll (ns.map PyData.int) := ⟨fun x hx y hy => by
  obtain ⟨a, _, rfl⟩ := List.mem_map.mp hx
  obtain ⟨b, _, rfl⟩ := List.mem_map.mp hy
  rfl, fun x hx => by
  obtain ⟨a, _, rfl⟩ := List.mem_map.mp hx
  exact fun e => nomatch e⟩
theorem ints_read {h : Heap} : ∀ {us : List Value} {ns : List Int}, IntsAre us ns → ReadsAll h us (ns.map PyData.int) []
  | _, _, .nil => .nil
  | _, _, .cons n t r => .cons (as := []) (bs := []) (.int n t) (ints_read r)
def rMinTu (K : PySem.W.Frag) : List V → Hp → VK → Prop := fun vs H Q => ∃ (a : Addr) (n : Int) (ns : List Int), vs = [V.ref a] ∧ SqT K H a ((n :: ns).map V.int) ∧ Q (.int (ns.foldl min n)) H
theorem cr_minTu (hc : X.calm = true) (hu : X.A.units + 64 < cLine) : CallR X (.builtin "min") (rMinTu X.K) := by
  intro pins s σ H vs us Q I r h
  obtain ⟨a, n, ns, rfl, hs, q⟩ := h
  obtain ⟨its, rv, hl, _⟩ := I.tuple hs
  rw [Vals.ref1 r]
  have hi := rv.ints
  have hr := ints_read (h := s.heap) hi
  refine min_tuple_data (I.ok.hd hc) hl (xs := ns.map .int) (x := .int n) (by simpa using hr) (ints_alike (n :: ns)) (by have := ints_depth (n :: ns); rw [List.map_cons] at this; omega) fun i v h' tk bs _ rd hk => ?_
  rw [minD_ints] at rd
  cases rd
  exact ⟨.int _, H, I.kept hk, ⟨_, rfl⟩, q⟩
/-- as numsD, and of a tuple -/
def numsT (f : List Int → Option Int) (ds : List D) : Option D := match ds with
  | [.tup xs] => ((intsD xs).bind f).map .int
  | ds => numsD f ds
@[simp] theorem numsT_tup {f : List Int → Option Int} {xs : List D} : numsT f [.tup xs] = ((intsD xs).bind f).map .int := rfl
theorem cb_minT (hc : X.calm = true) (hu : X.A.units + 64 < cLine) : CallR X (.builtin "min") (rB X.K CT (numsT minI)) := callr_imp ((cb_minN (CT := CT) hc).or (cr_minTu hc hu)) fun vs H Q h => by
  obtain ⟨F, as, σ, S, ds, z, n, r, e, f⟩ := h
  unfold numsT at e
  split at e
  · rename_i xs
    cases q : intsD xs with
    | none => rw [q] at e; cases e
    | some ns =>
      cases ns with
      | nil => rw [q] at e; cases e
      | cons m ns =>
        rw [q] at e
        cases e
        obtain ⟨v, rfl, rv⟩ := r.one
        obtain ⟨a, ws, rfl, q1, r1⟩ := rv.tup' n.sub
        obtain rfl := reps_ints r1 q
        exact .inr ⟨a, m, ns, rfl, q1, f.flat n (.int _)⟩
  · exact .inl ⟨F, as, σ, S, ds, z, n, r, e, f⟩
end
end Bf
/-! The mirror layer: instances: fields read and stored. -/
namespace Bf
open PySem PySem.Spec PyProof.Rows L2
/-! ### states with an instance's cell -/
section
variable {K : PySem.W.Frag} {CT : Ctx} {F F' : Hp} {as as' : List Addr} {H H' : Hp} {σ σ' : Sto} {s s' : PS} {v : V} {x : SV} {E : Sto → XK}
/-- an object that no data tells of -/
theorem Env.other (n : Env K CT F as H σ s) {p : Addr} (o : HO) (hp : H p = none) : Env K CT F as (upd H p o) σ s := by
  obtain ⟨fp, pa⟩ := n.free hp
  refine ⟨fun a u h => ?_, ⟨n.wk.len, n.wk.nd, n.wk.tb.other hp pa, fun a m => ?_, fun k c a h1 h2 => ?_⟩, n.gl, n.sl⟩
  · have ha : a ≠ p := fun z => by rw [z, fp] at h; cases h
    rw [upd_ne ha]
    exact n.sub a u h
  · have ha : a ≠ p := fun z => pa (z ▸ m)
    rw [upd_ne ha]
    exact n.live m
  · have ha : a ≠ p := fun z => pa (z ▸ List.mem_of_getElem? h2)
    have q := n.wk.ok k c a h1 h2
    rcases q.none with z | z
    · subst z; trivial
    · exact q.mono .refl z (upd_ne ha)
/-- a new instance at p -/
theorem Env.newI (n : Env K CT F as H σ s) {p dx : Addr} {c : Nat} (hp : H p = none) :
    Ext F as F (as ++ [p]) ∧ Env K CT F (as ++ [p]) (upd H p (.ins (CT c) dx [])) σ { s with w := s.w ++ [.ins c []] } := by
  obtain ⟨fp, pa⟩ := n.free hp
  have e : Ext F as F (as ++ [p]) := ⟨Sub.refl F, [p], rfl⟩
  refine ⟨e, ⟨fun a u h => ?_, ⟨by simp [n.wk.len], List.nodup_append.mpr ⟨n.wk.nd, by simp, fun a m b mb => ?_⟩, n.wk.tb.newC hp noTab_ins.1, fun a m => ?_, fun k d a h1 h2 => ?_⟩, n.gl, fun i x h => ?_⟩⟩
  · have ha : a ≠ p := fun z => by rw [z, fp] at h; cases h
    rw [upd_ne ha]
    exact n.sub a u h
  · rw [List.mem_singleton] at mb
    subst mb
    exact fun z => pa (z ▸ m)
  · by_cases ha : a = p
    · rw [ha, upd_same]; simp
    · rw [upd_ne ha]
      rcases List.mem_append.mp m with m | m
      · exact n.live m
      · exact absurd (List.mem_singleton.mp m) ha
  · have h1 : (s.w ++ [Cell.ins c []])[k]? = some d := h1
    by_cases hk : k < as.length
    · rw [List.getElem?_append_left hk] at h2
      rw [List.getElem?_append_left (by rw [n.wk.len]; exact hk)] at h1
      have ha : a ≠ p := fun z => pa (z ▸ List.mem_of_getElem? h2)
      have q := n.wk.ok k d a h1 h2
      rcases q.none with z | z
      · subst z; trivial
      · exact q.mono e z (upd_ne ha)
    · rw [List.getElem?_append_right (by omega)] at h2
      rw [List.getElem?_append_right (by rw [n.wk.len]; omega)] at h1
      rw [n.wk.len] at h1
      cases j : k - as.length with
      | zero =>
        rw [j] at h1 h2
        simp at h1 h2
        subst h1 h2
        exact ⟨fp, dx, [], upd_same, .nil⟩
      | succ m => rw [j] at h2; simp at h2
  · obtain ⟨v, h1, h2⟩ := n.sl i x h
    exact ⟨v, h1, h2.mono e⟩
/-- the instance of the cell k -/
theorem Env.cellI (n : Env K CT F as H σ s) {k c : Nat} {fs : List (Str × SV)} (h : s.w[k]? = some (.ins c fs)) : ∃ a dx vs, as[k]? = some a ∧ F a = none ∧ H a = some (.ins (CT c) dx vs) ∧ RepSF K CT F as vs fs := by
  have hk : k < as.length := by
    rw [← n.wk.len]
    exact (List.getElem?_eq_some_iff.mp h).1
  obtain ⟨h1, dx, vs, h2, h3⟩ := n.wk.ok k _ _ h (List.getElem?_eq_getElem hk)
  exact ⟨_, dx, vs, List.getElem?_eq_getElem hk, h1, h2, h3⟩
/-- the instance's fields are changed -/
theorem Env.setI (n : Env K CT F as H σ s) {k c : Nat} {a dx : Addr} {fs : List (Str × SV)} {ws : List (Str × V)} {ys : List (Str × SV)} (h : s.w[k]? = some (.ins c fs)) (ha : as[k]? = some a) (hf : F a = none) (r : RepSF K CT F as ws ys) :
    Env K CT F as (upd H a (.ins (CT c) dx ws)) σ { s with w := s.w.set k (.ins c ys) } := by
  obtain ⟨a', dx', vs', ha', _, hh', _⟩ := n.cellI h
  rw [ha] at ha'
  cases ha'
  refine ⟨fun b u hb => ?_, ⟨by simp [n.wk.len], n.wk.nd, n.wk.tb.set hh' noTab_ins noTab_ins.1, fun b m => ?_, fun j d b h1 h2 => ?_⟩, n.gl, n.sl⟩
  · have hab : b ≠ a := fun z => by rw [z, hf] at hb; cases hb
    rw [upd_ne hab]
    exact n.sub b u hb
  · by_cases hb : b = a
    · rw [hb, upd_same]; simp
    · rw [upd_ne hb]
      exact n.live m
  · have h1 : (s.w.set k (Cell.ins c ys))[j]? = some d := h1
    by_cases hj : j = k
    · subst hj
      rw [List.getElem?_set_self (by rw [n.wk.len]; exact (List.getElem?_eq_some_iff.mp h2).1)] at h1
      cases h1
      rw [ha] at h2
      cases h2
      exact ⟨hf, dx, ws, upd_same, r⟩
    · rw [List.getElem?_set_ne (Ne.symm hj)] at h1
      have hb : b ≠ a := fun z => hj (nodup_at n.wk.nd (z ▸ h2) ha)
      have q := n.wk.ok j d b h1 h2
      rcases q.none with z | z
      · subst z; trivial
      · exact q.mono .refl z (upd_ne hb)
/-- fields that are data -/
def datF : List (Str × SV) → Option (List (Str × D))
  | [] => some []
  | (f, .d x) :: r => (datF r).map ((f, x) :: ·)
  | (_, .cell _) :: _ => none
theorem datF_rep {vs : List (Str × V)} {fs : List (Str × SV)} (r : RepSF K CT F as vs fs) : ∀ {gs : List (Str × D)}, datF fs = some gs → RepF K CT F vs gs := by
  induction r with
  | nil =>
    intro gs e
    cases e
    exact .nil
  | cons h1 _ ih =>
    intro gs e
    rename_i f v x vs xs _
    cases x with
    | d y =>
      unfold datF at e
      cases q : datF xs with
      | none => rw [q] at e; cases e
      | some hs =>
        rw [q] at e
        cases e
        exact .cons h1 (ih q)
    | cell k => cases e
/-- the instance of the cell k is frozen -/
theorem Env.freezeI (n : Env K CT F as H σ s) {k c : Nat} {fs : List (Str × SV)} {gs : List (Str × D)} (h : s.w[k]? = some (.ins c fs)) (hg : datF fs = some gs) :
    ∃ a F', as[k]? = some a ∧ Ext F as F' as ∧ Rep K CT F' (.ref a) (.ins c gs) ∧ Env K CT F' as H σ { g := s.g.map (subG k (.ins c gs)), w := s.w.set k .gone } := by
  obtain ⟨a, dx, vs, ha, hf, hh, r⟩ := n.cellI h
  have e : Ext F as (upd F a (.ins (CT c) dx vs)) as := Ext.sub (Sub.new hf)
  have q : Rep K CT (upd F a (.ins (CT c) dx vs)) (.ref a) (.ins c gs) := .ins upd_same (RepF.mono K CT e.1 _ _ (datF_rep r hg))
  refine ⟨a, _, ha, e, q, ⟨fun b u hb => ?_, ⟨by simp [n.wk.len], n.wk.nd, n.wk.tb.frz noTab_ins.1, n.wk.live, fun j c b h1 h2 => ?_⟩, by simp [n.gl], fun i x hx => ?_⟩⟩
  · by_cases hba : b = a
    · subst hba
      rw [upd_same] at hb
      rw [hh]
      exact hb
    · rw [upd_ne hba] at hb
      exact n.sub b u hb
  · have h1 : (s.w.set k Cell.gone)[j]? = some c := h1
    by_cases hj : j = k
    · subst hj
      rw [List.getElem?_set_self (by rw [n.wk.len]; exact (List.getElem?_eq_some_iff.mp h2).1)] at h1
      cases h1
      trivial
    · rw [List.getElem?_set_ne (Ne.symm hj)] at h1
      have hb : b ≠ a := fun z => hj (nodup_at n.wk.nd (z ▸ h2) ha)
      have q := n.wk.ok j c b h1 h2
      rcases q.none with z | z
      · subst z; trivial
      · exact q.mono e (by rw [upd_ne hb]; exact z) rfl
  · rcases subG_get hx with ⟨h1, rfl⟩ | h1
    · obtain ⟨v, h2, b, h3, h4⟩ := n.sl i _ h1
      rw [ha] at h3
      cases h3
      subst h4
      exact ⟨_, h2, q⟩
    · obtain ⟨v, h2, h3⟩ := n.sl i _ h1
      exact ⟨v, h2, h3.mono e⟩
theorem RepF.look {vs : List (Str × V)} {gs : List (Str × D)} : ∀ (r : RepF K CT F vs gs) {f : Str} {d : D}, gs.lookup f = some d → ∃ v, vs.lookup f = some v ∧ Rep K CT F v d := by
  induction gs generalizing vs with
  | nil => intro r f d h; cases h
  | cons p gs ih =>
    intro r f d h
    cases r with
    | cons h1 h2 =>
      rename_i g v y ws
      rw [List.lookup_cons] at h ⊢
      cases q : f == g with
      | true =>
        rw [q] at h
        cases h
        exact ⟨_, rfl, h1⟩
      | false =>
        rw [q] at h
        exact ih h2 h
theorem RepSF.look {vs : List (Str × V)} {gs : List (Str × SV)} (r : RepSF K CT F as vs gs) : ∀ {f : Str} {d : SV}, gs.lookup f = some d → ∃ v, vs.lookup f = some v ∧ RepS K CT F as v d := by
  induction r with
  | nil => intro f d h; cases h
  | cons h1 _ ih =>
    intro f d h
    rw [List.lookup_cons] at h ⊢
    rename_i g _ _ _ _ _
    cases q : f == g with
    | true =>
      rw [q] at h
      cases h
      exact ⟨_, rfl, h1⟩
    | false =>
      rw [q] at h
      exact ih h
def putS (f : Str) (v : SV) : List (Str × SV) → List (Str × SV)
  | [] => [(f, v)]
  | (g, x) :: r => if g = f then (g, v) :: r else (g, x) :: putS f v r
theorem RepSF.put {f : Str} {v : V} {x : SV} {vs : List (Str × V)} {gs : List (Str × SV)} (r : RepSF K CT F as vs gs) (h : RepS K CT F as v x) : RepSF K CT F as (putF f v vs) (putS f x gs) := by
  induction r with
  | nil => exact .cons h .nil
  | cons h1 h2 ih =>
    unfold putF putS
    split
    · exact .cons h h2
    · exact .cons h1 ih
theorem RepSF.length {vs : List (Str × V)} {gs : List (Str × SV)} (r : RepSF K CT F as vs gs) : vs.length = gs.length := by
  induction r with
  | nil => rfl
  | cons _ _ ih => rw [List.length_cons, List.length_cons, ih]
end
/-! ### fields -/
def fldOf (cs : List Nat) (f : Str) (s : PS) (x : SV) : Option SV := match x with
  | .d (.ins c gs) => if c ∈ cs then (gs.lookup f).map .d else none
  | .cell k => match s.w[k]? with
    | some (.ins c fs) => if c ∈ cs then fs.lookup f else none
    | _ => none
  | _ => none
/-- e.f -/
def vFld (cs : List Nat) (f : Str) (a : ME) : ME := fun s => (a s).bind fun x s => R.of (fldOf cs f s x) s
/-- o.f = e -/
def sFldA (cs : List Nat) (f : Str) (o a : ME) : MS := fun s => (a s).bind fun y s => match frz s y with
  | some (d, s) => (o s).bind fun x s => match x with
    | .cell k => match s.w[k]? with
      | some (.ins c fs) => if c ∈ cs ∧ fs.length < 1000 then .ok .nx { s with w := s.w.set k (.ins c (putS f (.d d) fs)) } else .stuck
      | _ => .stuck
    | _ => .stuck
  | none => .stuck
/-- what the classes cs are -/
def ClsF (K : PySem.W.Frag) (CT : Ctx) (cs : List Nat) (f : Str) : Prop := ∀ c ∈ cs, Cls K (CT c) ∧ NoAttr K (CT c) f
section
variable {X : Cx} {CT : Ctx} {E : Sto → XK} {e o : Expr} {f : Str} {m mo : ME} {cs : List Nat} {pos pos' : Pos}
theorem me_fld (hc : ClsF X.K CT cs f) (he : PE X e (up X.K CT E m)) (hb : attributeBase e f X.env (eval e X.env) = eval e X.env := by rfl) : PE X (.Attribute e f pos) (up X.K CT E (vFld cs f m)) :=
  PE.imp (pe_fld he hb) fun σ H Q ⟨F, as, s, n, h⟩ => up_seq n h rfl fun v x s1 F1 as1 H1 e1 n1 r1 h1 => by
    unfold fldOf at h1
    split at h1
    · rename_i c gs
      split at h1
      · rename_i hm
        obtain ⟨hC, hN⟩ := hc c hm
        cases q : gs.lookup f with
        | none => rw [q] at h1; exact h1.elim
        | some d =>
          rw [q] at h1
          cases r1 with
          | ins g1 g2 =>
            obtain ⟨u, l, ru⟩ := g2.look q
            exact ⟨_, _, _, _, u, rfl, n1.sub _ _ g1, hC, hN, l, h1.here (σ := σ) rfl n1 _ ru⟩
      · exact h1.elim
    · rename_i k
      cases q : s1.w[k]? with
      | none => simp only [q] at h1; exact h1.elim
      | some cl =>
        cases cl with
        | ins c fs =>
          simp only [q] at h1
          split at h1
          · rename_i hm
            obtain ⟨hC, hN⟩ := hc c hm
            obtain ⟨a, dx, vs, ha, hf, hh, rr⟩ := n1.cellI q
            obtain ⟨b, hb, rfl⟩ := r1
            rw [ha] at hb
            cases hb
            cases q2 : fs.lookup f with
            | none => rw [q2] at h1; exact h1.elim
            | some y =>
              rw [q2] at h1
              obtain ⟨u, l, ru⟩ := rr.look q2
              exact ⟨_, _, _, _, u, rfl, hh, hC, hN, l, h1.here (σ := σ) rfl n1 _ ru⟩
          · exact h1.elim
        | _ => simp only [q] at h1; exact h1.elim
    · exact h1.elim
theorem ms_fld (hc : ClsF X.K CT cs f) (ho : PE X o (up X.K CT E mo)) (he : PE X e (up X.K CT E m)) (hs : swapsWith e (some (.Attribute o f pos')) pos.line X.env = pure false := by rfl) : L2.PS X (.Assign [.Attribute o f pos'] e pos) (upS X.K CT E (sFldA cs f mo m)) :=
  ps_imp (L2.ps_fld ho he hs) fun D σ H ⟨F, as, s, n, h⟩ => up_seq n h trivial fun v y s1 F1 as1 H1 e1 n1 r1 h1 => by
    cases q : frz s1 y with
    | none => simp only [q] at h1; exact h1.elim
    | some p =>
      obtain ⟨d, s2⟩ := p
      simp only [q] at h1
      obtain ⟨F2, e2, q2, n2⟩ := n1.frz r1 q
      refine up_seq n2 (h1.ext e2) trivial fun ov x s3 F3 as3 H3 e3 n3 r3 h3 => ?_
      cases x with
      | d z => exact h3.elim
      | cell k =>
        cases q5 : s3.w[k]? with
        | none => simp only [q5] at h3; exact h3.elim
        | some cl =>
          cases cl with
          | ins c fs =>
            simp only [q5] at h3
            split at h3
            · rename_i hm
              obtain ⟨hC, hN⟩ := hc c hm.1
              obtain ⟨a, dx, vs, ha, hf, hh, rr⟩ := n3.cellI q5
              obtain ⟨b, hb, rfl⟩ := r3
              rw [ha] at hb
              cases hb
              have q2' : RepS X.K CT F3 as3 v (.d d) := RepS.mono e3 (show RepS X.K CT F2 as1 v (.d d) from q2)
              exact ⟨a, _, dx, vs, rfl, hh, hC, hN, by rw [rr.length]; exact hm.2, h3.here trivial (n3.setI q5 ha hf (rr.put q2'))⟩
            · exact h3.elim
          | _ => simp only [q5] at h3; exact h3.elim
end
end Bf
/-! The mirror layer: instances made, star arguments, classmethods. -/
namespace Bf
open PySem PySem.Spec PyProof.Rows L2
section
variable {P : Program} {w : World} {K : PySem.W.Frag} {mg : Str → Option Value} {base : Heap} {CT : Ctx} {k : Nat} {fa : Addr} {fd : FuncData} {x qual : Str} {st : Stmt} {N ps : List Str} {mb : MS}
/-- a body's mirror, as the runs of defs ask it -/
theorem body_q {fa' : Addr} (S : FnScope N ps (defScope st)) (hN : ps.length ≤ N.length)
    (cdv : Value) (A : Around) (outer : List PySem.Env) (s : Shared) (H : Hp) (vs : List V) (Q : VK) (E : XK)
    (hbody : Room k (cxOf (L2.CX P w) P w K mg base N qual (defScope st) fa cdv A outer s H E).A → Cq (cxOf (L2.CX P w) P w K mg base N qual (defScope st) fa cdv A outer s H E) (fun _ => E) →
      PSs (cxOf (L2.CX P w) P w K mg base N qual (defScope st) fa cdv A outer s H E) (defBody st) (upS K CT (fun _ => E) mb))
    (hr : Room k (cxOf (L2.CX P w) P w K mg base N qual (defScope st) fa cdv A outer s H E).A) (h : spF K CT ps.length (fnM N.length mb) vs H Q E) :
    ∃ t, PSs (cxOf (L2.CX P w) P w K mg base N qual (defScope st) fa cdv A outer s H E) (defBody st) t ∧ t { nx := fun _ H' => Q .non H', rt := Q } (L2.start N vs) H := by
  obtain ⟨hl, F, as, ws, xs, sub, wk, r, h⟩ := h
  let X := cxOf (L2.CX P w) P w K mg base N qual (defScope st) fa cdv A outer s H E
  have hcq : Cq X (fun _ => E) := ⟨rfl, passes_of rfl, fun σ => passAt (W := fun c d _ H => E c d H) (takes_of rfl rfl rfl rfl) σ, S.nd, takes_of rfl rfl rfl rfl⟩
  refine ⟨_, hbody hr hcq, ?_⟩
  have hlx : vs.length = xs.length := r.length
  have env : Env K CT F as H (L2.start N vs) { g := xs.map some ++ List.replicate (N.length - xs.length) none, w := ws } := by
    refine ⟨sub, wk, ?_, fun i y hy => ?_⟩
    · unfold L2.start
      simp only [List.length_append, List.length_map, List.length_replicate]
      omega
    · have hy : (xs.map some ++ List.replicate (N.length - xs.length) none)[i]? = some (some y) := hy
      by_cases hi : i < xs.length
      · rw [List.getElem?_append_left (by simpa using hi), List.getElem?_map] at hy
        cases q : xs[i]? with
        | none => rw [q] at hy; cases hy
        | some z =>
          rw [q] at hy
          cases hy
          obtain ⟨v, h1, h2⟩ := r.get q
          refine ⟨v, ?_, h2⟩
          unfold L2.start
          rw [List.getElem?_append_left (by simp; omega), List.getElem?_map, h1]
          rfl
      · rw [List.getElem?_append_right (by simpa using hi), List.getElem?_replicate] at hy
        split at hy <;> cases hy
  refine ⟨F, as, _, env, ?_⟩
  have hw : ws.length = as.length := wk.len
  -- the wanted ends, from the mirror's outcome
  have fin : ∀ {y z : SV} {s1 : PS} {w1 : List Cell} {F' : Hp} {as' : List Addr} {H' : Hp} {σ' : Sto} {v : V}, Env K CT F' as' H' σ' s1 → Ext F as F' as' → RepS K CT F' as' v y → retW ws.length y s1.w = some (z, w1) →
      ∃ as2, Ext F as F' as2 ∧ Wk K CT F' as2 H' w1 ∧ RepS K CT F' as2 v z := fun {y z s1 w1 F' as' H' σ' v} n e rv q => by
    have hle : ws.length ≤ s1.w.length := by
      rw [n.wk.len, hw]
      obtain ⟨_, t, rfl⟩ := e
      simp
    obtain ⟨as2, h1, h2, h3, h4⟩ := retW_take n.wk rv q hle
    rw [hw] at h1 h2
    exact ⟨as2, ext_of_take e rfl h1 h2, h3, h4⟩
  unfold fnM at h
  cases q : mb { g := xs.map some ++ List.replicate (N.length - xs.length) none, w := ws } with
  | stuck => rw [q] at h; exact h.elim
  | err e s1 =>
    rw [q] at h
    intro c dx F' as' σ' H' _ ex n rx
    cases q2 : retW ws.length (.d .non) s1.w with
    | none => simp only [q2] at h; try exact h.elim
    | some pp =>
      obtain ⟨z, w1⟩ := pp
      simp only [q2] at h
      obtain ⟨as2, e2, wk2, _⟩ := fin (y := .d .non) (v := .non) n ex Rep.non q2
      exact h c dx F' as2 H' e2 n.sub wk2 rx
  | ok fl s1 =>
    rw [q] at h
    intro F' as' σ' H' _ ex n
    cases fl with
    | nx =>
      cases q2 : retW ws.length (.d .non) s1.w with
      | none => simp only [q2] at h; try exact h.elim
      | some pp =>
        obtain ⟨z, w1⟩ := pp
        simp only [q2] at h
        obtain ⟨as2, e2, wk2, r2⟩ := fin (y := .d .non) (v := .non) n ex Rep.non q2
        exact h .non F' as2 H' e2 n.sub wk2 r2
    | rt y =>
      intro v rv
      cases q2 : retW ws.length y s1.w with
      | none => simp only [q2] at h; try exact h.elim
      | some pp =>
        obtain ⟨z, w1⟩ := pp
        simp only [q2] at h
        obtain ⟨as2, e2, wk2, r2⟩ := fin n ex rv q2
        exact h v F' as2 H' e2 n.sub wk2 r2
    | bk => exact h.elim
    | ct => exact h.elim
/-! ### promises of any number of arguments -/
def spV (K : PySem.W.Frag) (CT : Ctx) (f : Fn) : Sp := fun vs H Q E => ∃ F as w xs, Sub F H ∧ Wk K CT F as H w ∧ RepSs K CT F as vs xs ∧ match f xs w with
  | .ok x w' => ∀ v F' as' H', Ext F as F' as' → Sub F' H' → Wk K CT F' as' H' w' → RepS K CT F' as' v x → Q v H'
  | .err e w' => ∀ c dx F' as' H', Ext F as F' as' → Sub F' H' → Wk K CT F' as' H' w' → ExcOk K CT F' H' e c dx → E c dx H'
  | .stuck => False
abbrev Fv (P : Program) (w : World) (K : PySem.W.Frag) (mg : Str → Option Value) (base : Heap) (CT : Ctx) (k : Nat) (fa : Addr) (f : Fn) : Prop := FnR P w K mg base (L2.CX P w) k fa (spV K CT f)
def lenF (n : Nat) (f : Fn) : Fn := fun xs w => if xs.length = n then f xs w else .stuck
theorem fv_of {f : Fn} (Fk : Fq P w K mg base CT k fa fd ps f) (hb : Binds K fd ps []) : Fv P w K mg base CT k fa (lenF ps.length f) :=
  (FnOk.raw Fk hb .nil).imp fun vs H Q E ⟨F, as, w, xs, sub, wk, r, h⟩ => by
    rw [List.append_nil]
    unfold lenF at h
    by_cases hl : xs.length = ps.length
    · rw [if_pos hl] at h
      exact ⟨r.length.trans hl, F, as, w, xs, sub, wk, r, h⟩
    · rw [if_neg hl] at h
      exact h.elim
def datS : List SV → Option (List D)
  | [] => some []
  | .d x :: r => match datS r with
    | some ds => some (x :: ds)
    | none => none
  | .cell _ :: _ => none
/-- what is left over is a tuple -/
def starF (n : Nat) (f : Fn) : Fn := fun xs w => if n ≤ xs.length then match datS (xs.drop n) with
    | some ds => if ds.length ≤ sizeLine then f (xs.take n ++ [.d (.tup ds)]) w else .stuck
    | none => .stuck
  else .stuck
theorem datS_rep {F : Hp} {as : List Addr} {vs : List V} {xs : List SV} (r : RepSs K CT F as vs xs) : ∀ {ds : List D}, datS xs = some ds → Reps K CT F vs ds := by
  induction r with
  | nil =>
    intro ds e
    cases e
    exact .nil
  | cons h1 _ ih =>
    intro ds e
    rename_i v x vs xs _
    cases x with
    | d y =>
      unfold datS at e
      cases q : datS xs with
      | none => rw [q] at e; cases e
      | some hs =>
        rw [q] at e
        cases e
        exact .cons h1 (ih q)
    | cell k => cases e
theorem RepSs.split {F : Hp} {as : List Addr} {vs : List V} {xs : List SV} (r : RepSs K CT F as vs xs) (n : Nat) : RepSs K CT F as (vs.take n) (xs.take n) ∧ RepSs K CT F as (vs.drop n) (xs.drop n) := by
  induction r generalizing n with
  | nil => simp only [List.take_nil, List.drop_nil]; exact ⟨.nil, .nil⟩
  | cons h1 h2 ih =>
    cases n with
    | zero => exact ⟨.nil, .cons h1 h2⟩
    | succ n =>
      obtain ⟨a, b⟩ := ih n
      exact ⟨.cons h1 a, b⟩
theorem RepSs.app {F : Hp} {as : List Addr} {vs us : List V} {xs ys : List SV} (r : RepSs K CT F as vs xs) (r2 : RepSs K CT F as us ys) : RepSs K CT F as (vs ++ us) (xs ++ ys) := by
  induction r with
  | nil => exact r2
  | cons h1 _ ih => exact .cons h1 ih
theorem Wk.new {F H : Hp} {as : List Addr} {ws : List Cell} (sub : Sub F H) (wk : Wk K CT F as H ws) {p : Addr} (o : HO) (hp : H p = none) (no : ∀ ps, o ≠ .tbl ps := by intro _ z; cases z) : Ext F as (upd F p o) as ∧ Sub (upd F p o) (upd H p o) ∧ Wk K CT (upd F p o) as (upd H p o) ws := by
  have n : Env K CT F as H [] { g := [], w := ws } := ⟨sub, wk, rfl, fun i x h => by simp at h⟩
  obtain ⟨e, n2⟩ := n.new o hp no
  exact ⟨e, n2.sub, n2.wk⟩
/-- def f(a, .., *v) -/
theorem fv_star {pv : Str} (Fn' : Fun K x qual st fa fd) (S : FnScope N (ps ++ [pv]) (defScope st)) (hN : (ps ++ [pv]).length ≤ N.length)
    (hb : ∀ us rest : List Value, us.length = ps.length → bindArgs fd ⟨us ++ rest, []⟩ = (newTuple rest >>= fun t => pure (ps.zip us ++ [(pv, t)])))
    (hbody : ∀ (cdv : Value) (A : Around) (outer : List PySem.Env) (s : Shared) (H : Hp) (E : XK), Room k (cxOf (L2.CX P w) P w K mg base N qual (defScope st) fa cdv A outer s H E).A → Cq (cxOf (L2.CX P w) P w K mg base N qual (defScope st) fa cdv A outer s H E) (fun _ => E) →
      PSs (cxOf (L2.CX P w) P w K mg base N qual (defScope st) fa cdv A outer s H E) (defBody st) (upS K CT (fun _ => E) mb)) :
    Fv P w K mg base CT (k + 1) fa (starF ps.length (fnM N.length mb)) := by
  obtain ⟨oc, od, kV, doc, pm, an, cdv, ct, osl, rfl, lk, hcd⟩ := Fn'.ex
  refine (StX.fn_star (sp := spF K CT (ps ++ [pv]).length (fnM N.length mb)) lk hcd S StX.cxUp hb (fun A outer s H vs Q E hr h => body_q (fa' := fa) S hN cdv A outer s H vs Q E (hbody cdv A outer s H E) hr h)).imp fun vs H Q E ⟨F, as, ws, xs, sub, wk, r, h⟩ => ?_
  unfold starF at h
  by_cases hl : ps.length ≤ xs.length
  · rw [if_pos hl] at h
    cases q : datS (xs.drop ps.length) with
    | none => simp only [q] at h
    | some ds =>
      simp only [q] at h
      by_cases hz : ds.length ≤ sizeLine
      · rw [if_pos hz] at h
        obtain ⟨r1, r2⟩ := r.split ps.length
        have rd := datS_rep r2 q
        refine ⟨vs.take ps.length, vs.drop ps.length, (List.take_append_drop _ _).symm, ?_, by rw [rd.length]; exact hz, fun p hp => ?_⟩
        · rw [List.length_take, r.length]; omega
        · obtain ⟨e, sub2, wk2⟩ := wk.new sub (.tup (vs.drop ps.length)) hp
          refine ⟨?_, upd F p (.tup (vs.drop ps.length)), as, ws, _, sub2, wk2, (r1.mono e).app (.cons (show RepS K CT _ as (.ref p) (.d (.tup ds)) from .tup upd_same (Reps.mono K CT e.1 _ _ rd)) .nil), ?_⟩
          · rw [List.length_append, List.length_append, List.length_take, r.length]
            have : min ps.length xs.length = ps.length := by omega
            rw [this]
            rfl
          · cases q2 : fnM N.length mb (xs.take ps.length ++ [.d (.tup ds)]) ws with
            | ok y w' => rw [q2] at h; exact fun v F' as' H' ex => h v F' as' H' (e.trans ex)
            | err y w' => rw [q2] at h; exact fun c dx F' as' H' ex => h c dx F' as' H' (e.trans ex)
            | stuck => rw [q2] at h; exact h
      · rw [if_neg hz] at h
        exact h.elim
  · rw [if_neg hl] at h
    exact h.elim
end
section
variable {X : Cx} {CT : Ctx} {E : Sto → XK}
/-- a call's outcome from a promise -/
def runF (f : Fn) (xs : List SV) (s : PS) : R SV := match f xs s.w with
  | .ok x w => .ok x { s with w := w }
  | .err e w => .err e { s with w := w }
  | .stuck => .stuck
theorem spV_of {f : Fn} {F H : Hp} {as : List Addr} {σ : Sto} {s : PS} {vs : List V} {xs : List SV} {Q : VK} (n : Env X.K CT F as H σ s) (r : RepSs X.K CT F as vs xs)
    (h : Out X.K CT (fun σ' => σ' = σ) E F as (runF f xs s) fun x _ F' as' _ H' => ∀ v, RepS X.K CT F' as' v x → Q v H') : spV X.K CT f vs H Q (E σ) := by
  refine ⟨F, as, s.w, xs, n.sub, n.wk, r, ?_⟩
  have env : ∀ {w : List Cell} {F' : Hp} {as' : List Addr} {H' : Hp}, Ext F as F' as' → Sub F' H' → Wk X.K CT F' as' H' w → Env X.K CT F' as' H' σ { s with w := w } := fun ex sb wk => ⟨sb, wk, n.gl, fun i x hx => by
    obtain ⟨v, h1, h2⟩ := n.sl i x hx
    exact ⟨v, h1, h2.mono ex⟩⟩
  unfold runF at h
  cases q : f xs s.w with
  | ok x w =>
    simp only [q] at h
    exact fun v F' as' H' ex sb wk r => h.there (σ := σ) rfl ex (env ex sb wk) v r
  | err e w =>
    simp only [q] at h
    exact fun c dx F' as' H' ex sb wk r => h c dx F' as' σ H' rfl ex (env ex sb wk) r
  | stuck =>
    simp only [q] at h
    exact h.elim
end
end Bf
/-! The mirror layer: calls of classes and of classmethods, star arguments. -/
namespace Bf
open PySem PySem.Spec PyProof.Rows L2
section
variable {X : Cx} {CT : Ctx} {E : Sto → XK} {e : Expr} {es : List Expr} {m : ME} {mr : MA} {p pos : Pos}
/-- *a, .. -/
def aStar (a : ME) (r : MA) : MA := fun s => (a s).bind fun x s => match rd s x with
  | some (.tup ds) => (r s).bind fun ys s => .ok (ds.map .d ++ ys) s
  | some (.lst ds) => (r s).bind fun ys s => .ok (ds.map .d ++ ys) s
  | _ => .stuck
theorem reps_data {K : PySem.W.Frag} {F : Hp} {as : List Addr} : ∀ {ds : List D} {vs : List V}, Reps K CT F vs ds → RepSs K CT F as vs (ds.map .d)
  | [], _, r => by cases r; exact .nil
  | d :: ds, _, r => by
    cases r with
    | cons h1 h2 => exact .cons h1 (reps_data h2)
theorem ma_star (he : PE X e (up X.K CT E m)) (hr : PA X es (upA X.K CT E mr)) (hs : starEach (.Starred e p :: es) X.env = (true, eval e X.env) :: starEach es X.env := by rfl) : PA X (.Starred e p :: es) (upA X.K CT E (aStar m mr)) :=
  ⟨fun pos pins s σ H Q I ⟨F, as, st, n, h⟩ => (StX.pa_star he hr hs).run pos pins s σ H Q I (up_seq n h rfl fun v x s1 F1 as1 H1 e1 n1 r1 h1 => by
    have go : ∀ {ds : List D} {vs : List V}, Reps X.K CT F1 vs ds → Out X.K CT (fun σ' => σ' = σ) E F1 as1 ((mr s1).bind fun ys s => R.ok (ds.map .d ++ ys) s) (fun xs _ F' as' _ H' => ∀ vs, RepSs X.K CT F' as' vs xs → Q vs H') →
        upA X.K CT E mr σ H1 fun ys H2 => Q (vs ++ ys) H2 := fun {ds vs} r o =>
      ⟨F1, as1, s1, n1, (o.bind (ok := fun σ' => σ' = σ) fun _ z => z).imp (fun _ z => z) fun ys s2 F2 as2 σ2 H2 _ o2 e2 n2 q us ru => q.here (σ := σ2) (by exact o2) n2 _ ((RepSs.mono e2 (reps_data (as := as1) r)).app ru)⟩
    cases q : rd s1 x with
    | none => simp only [q] at h1; exact h1.elim
    | some d =>
      have rr := n1.rd r1 q
      cases d with
      | tup ds =>
        simp only [q] at h1
        obtain ⟨a, ws, rfl, h2, h3⟩ := rr.tup' n1.sub
        exact ⟨a, ws, rfl, .inl h2, go h3 h1⟩
      | lst ds =>
        simp only [q] at h1
        obtain ⟨a, ws, rfl, h2, h3⟩ := rr.lst' n1.sub
        exact ⟨a, ws, rfl, .inr (SqL.of h2), go h3 h1⟩
      | _ => simp only [q] at h1; exact h1.elim)⟩
end
/-! ### instances made -/
def frzI (c k : Nat) (s : PS) : R SV := match s.w[k]? with
  | some (.ins c' fs) => if c' = c then match datF fs with
      | some gs => .ok (.d (.ins c gs)) { g := s.g.map (subG k (.ins c gs)), w := s.w.set k .gone }
      | none => .stuck
    else .stuck
  | _ => .stuck
def vMk (c : Nat) (f : Fn) (callee : ME) (args : MA) : ME := fun s => (callee s).bind fun x s => match x with
  | .d (.cls c') => if c' = c then (args s).bind fun xs s => (runF f (.cell s.w.length :: xs) { s with w := s.w ++ [.ins c []] }).bind fun y s' => match y with
      | .d .non => frzI c s.w.length s'
      | _ => .stuck
    else .stuck
  | _ => .stuck
/-- C.m(..), a classmethod -/
def vCM (c : Nat) (f : Fn) (callee : ME) (args : MA) : ME := fun s => (callee s).bind fun x s => match x with
  | .d (.cls c') => if c' = c then (args s).bind fun xs s => runF f (.d (.cls c) :: xs) s else .stuck
  | _ => .stuck
def tMkE (C : Addr) (sp : Sp) (E0 : XK) (te : TE) (t : TA) : TE := fun σ H Q => te σ H fun v H1 => v = .ref C ∧ t σ H1 fun vs H2 => ∀ x dx, H2 x = none → H2 dx = none → dx ≠ x →
  sp (.ref x :: vs) (upd (upd H2 dx (.own x)) x (.ins C dx [])) (fun v H3 => v = .non ∧ Q (.ref x) H3) E0
section
variable {X : Cx} {CT : Ctx} {E0 : XK} {e o : Expr} {es : List Expr} {mc : ME} {mr : MA} {p pos apos : Pos} {k c : Nat} {fI : Addr} {f : Fn} {x : Str} {CX : CXT} {C : Addr} {sp : Sp} {te : TE} {t : TA}
theorem pe_mkE (M : Mk X.K C fI) (F : FnR X.prog X.w X.K X.mg X.base CX k fI sp) (hr : Room (k + 1) X.A) (hx : Passes CX X E0) (hn : PE X (.Name x p) te) (ha : PA X (e :: es) t)
    (he : starEach (e :: es) X.env = (false, eval e X.env) :: starEach es X.env := by rfl) (hpl : (backTo pos (starEach es X.env)).any (·.1) = false := by rfl) : PE X (.Call (.Name x p) (e :: es) [] pos) (tMkE C sp E0 te t) := by
  refine ⟨fun pins s σ H Q I h => ?_⟩
  refine wpAny_Call_Name_kw (thn (hn.run pins s σ H _ I h) fun u s1 ⟨v, H1, I1, r1, ev, q1⟩ => ?_)
  subst ev
  obtain rfl : u = Value.ref C := r1
  refine PySem.W.callWith_K (h₀ := X.base) I.ok.mod.kin M.kp (thn (ha.run pos pins s1 σ _ _ I1 q1) fun us s2 ⟨vs, H2, I2, r, q⟩ => ⟨I2.kIn, ?_⟩) he hpl
  exact StX.run_makeR M F hr hx I2 r q
theorem pe_mkS (M : Mk X.K C fI) (F : FnR X.prog X.w X.K X.mg X.base CX k fI sp) (hr : Room (k + 1) X.A) (hx : Passes CX X E0) (hn : PE X (.Name x p) te) (ha : PA X (e :: es) t)
    (he : starEach (e :: es) X.env = (false, eval e X.env) :: starEach es X.env := by rfl) (hst : (backTo pos (starEach es X.env)).any (·.1) = true := by rfl) : PE X (.Call (.Name x p) (e :: es) [] pos) (tMkE C sp E0 te t) := by
  refine ⟨fun pins s σ H Q I h => ?_⟩
  refine wpAny_Call_Name_kw (thn (hn.run pins s σ H _ I h) fun u s1 ⟨v, H1, I1, r1, ev, q1⟩ => ?_)
  subst ev
  obtain rfl : u = Value.ref C := r1
  refine PySem.W.callWith_S2 (h₀ := X.base) I.ok.mod.kin M.kp (thn (ha.run pos pins s1 σ _ _ I1 q1) fun us s2 ⟨vs, H2, I2, r, q⟩ => ⟨I2.kIn, ?_⟩) he hst
  exact StX.run_makeR M F hr hx I2 r q
theorem mk_read {σ : Sto} {H : Hp} {Q : VK} (h : up X.K CT (fun _ => E0) (vMk c f mc mr) σ H Q) : tMkE (CT c) (spV X.K CT f) E0 (up X.K CT (fun _ => E0) mc) (upA X.K CT (fun _ => E0) mr) σ H Q := by
  obtain ⟨F, as, s, n, h⟩ := h
  refine up_seq n h rfl fun v y s1 F1 as1 H1 e1 n1 r1 h1 => ?_
  cases y with
  | cell j => exact h1.elim
  | d z =>
    cases z with
    | cls c' =>
      dsimp only at h1
      by_cases hc : c' = c
      · rw [if_pos hc] at h1
        subst hc
        cases r1
        refine ⟨rfl, F1, as1, s1, n1, (h1.bind (ok := fun σ' => σ' = σ) fun _ z => z).imp (fun _ z => z) fun xs s2 F2 as2 σ2 H2 _ o2 e2 n2 h2 vs r2 => ?_⟩
        subst o2
        intro a dx ha hdx hne
        have n3 := n2.other (.own a) hdx
        obtain ⟨e4, n4⟩ := n3.newI (p := a) (dx := dx) (c := c') (by rw [upd_ne (Ne.symm hne)]; exact ha)
        have hl : as2.length = s2.w.length := n2.wk.len.symm
        have ra : RepS X.K CT F2 (as2 ++ [a]) (.ref a) (.cell s2.w.length) := ⟨a, by rw [← hl]; simp, rfl⟩
        refine spV_of (E := fun _ => E0) n4 (.cons ra (r2.mono e4)) ?_
        refine ((Out.ext e4 h2).bind (ok := fun σ' => σ' = σ2) fun _ z => z).imp (fun _ z => z) fun y s5 F5 as5 σ5 H5 _ o5 e5 n5 h5 v rv => ?_
        subst o5
        cases y with
        | cell j => exact h5.elim
        | d z =>
          cases z with
          | non =>
            cases rv
            refine ⟨rfl, ?_⟩
            unfold frzI at h5
            cases q : s5.w[s2.w.length]? with
            | none => simp only [q] at h5; exact h5.elim
            | some cl =>
              cases cl with
              | ins c2 fs =>
                simp only [q] at h5
                by_cases hc2 : c2 = c'
                · rw [if_pos hc2] at h5
                  subst hc2
                  cases q2 : datF fs with
                  | none => simp only [q2] at h5; exact h5.elim
                  | some gs =>
                    simp only [q2] at h5
                    obtain ⟨b, F6, hb, e6, r6, n6⟩ := n5.freezeI q q2
                    have hb2 : as5[s2.w.length]? = some a := e5.at (by rw [← hl]; simp)
                    rw [hb2] at hb
                    cases hb
                    exact h5.there (σ := σ5) rfl e6 n6 _ r6
                · rw [if_neg hc2] at h5
                  exact h5.elim
              | _ => simp only [q] at h5; exact h5.elim
          | _ => exact h5.elim
      · rw [if_neg hc] at h1
        exact h1.elim
    | _ => exact h1.elim
theorem Cq.all (hx : Cq X (fun _ => E0)) : Passes (L2.CX X.prog X.w) X E0 := fun pins σ H s e s' I c => hx.pass σ pins H s e s' I c
/-- C(a, ..) -/
theorem me_mk (hx : Cq X (fun _ => E0)) (M : Mk X.K (CT c) fI) (F : Fv X.prog X.w X.K X.mg X.base CT k fI f) (hr : Room (k + 1) X.A) (hn : PE X (.Name x p) (up X.K CT (fun _ => E0) mc)) (ha : PA X (e :: es) (upA X.K CT (fun _ => E0) mr))
    (he : starEach (e :: es) X.env = (false, eval e X.env) :: starEach es X.env := by rfl) (hpl : (backTo pos (starEach es X.env)).any (·.1) = false := by rfl) : PE X (.Call (.Name x p) (e :: es) [] pos) (up X.K CT (fun _ => E0) (vMk c f mc mr)) :=
  PE.imp (pe_mkE (E0 := E0) M F hr hx.all hn ha he hpl) fun _ _ _ h => mk_read h
/-- C(a, *b) -/
theorem me_mkS (hx : Cq X (fun _ => E0)) (M : Mk X.K (CT c) fI) (F : Fv X.prog X.w X.K X.mg X.base CT k fI f) (hr : Room (k + 1) X.A) (hn : PE X (.Name x p) (up X.K CT (fun _ => E0) mc)) (ha : PA X (e :: es) (upA X.K CT (fun _ => E0) mr))
    (he : starEach (e :: es) X.env = (false, eval e X.env) :: starEach es X.env := by rfl) (hst : (backTo pos (starEach es X.env)).any (·.1) = true := by rfl) : PE X (.Call (.Name x p) (e :: es) [] pos) (up X.K CT (fun _ => E0) (vMk c f mc mr)) :=
  PE.imp (pe_mkS (E0 := E0) M F hr hx.all hn ha he hst) fun _ _ _ h => mk_read h
/-- C.m(a, ..) -/
theorem me_cm {m : Str} {pl : Sem Bool} {mcv : Value} {pr g : Addr} (hx : Cq X (fun _ => E0)) (ho : PE X o (up X.K CT (fun _ => E0) mc)) (r : ClX.CRead X.K (CT c) mcv) (cm : ClX.CMet X.K (CT c) mcv m pr g) (F : Fv X.prog X.w X.K X.mg X.base CT k g f) (hr : Room k X.A) (ha : PA X (e :: es) (upA X.K CT (fun _ => E0) mr))
    (hst : starEach (e :: es) X.env = (false, eval e X.env) :: starEach es X.env := by rfl) (hpl : (backTo pos (starEach es X.env)).any (·.1) = false := by rfl)
    (ht : eval (.Call (.Attribute o m apos) (e :: es) [] pos) X.env = (do
      let ov ← eval o X.env
      standAt apos.atName
      let (f, first) ← holding [ov] (getMethod ov m pl)
      callWith pos f first (backTo pos (starEach (e :: es) X.env)) (backToKw pos (keywordEach [] X.env))) := by rfl) : PE X (.Call (.Attribute o m apos) (e :: es) [] pos) (up X.K CT (fun _ => E0) (vCM c f mc mr)) :=
  PE.imp (ClX.pe_cmeth (E := E0) (pl := pl) ho r cm F hr hx.all ha hst hpl ht) fun σ H Q ⟨F, as, s, n, h⟩ => up_seq n h rfl fun v y s1 F1 as1 H1 e1 n1 r1 h1 => by
    cases y with
    | cell j => exact h1.elim
    | d z =>
      cases z with
      | cls c' =>
        dsimp only at h1
        by_cases hc : c' = c
        · rw [if_pos hc] at h1
          subst hc
          cases r1
          refine ⟨rfl, F1, as1, s1, n1, (h1.bind (ok := fun σ' => σ' = σ) fun _ z => z).imp (fun _ z => z) fun xs s2 F2 as2 σ2 H2 _ o2 e2 n2 h2 vs r2 => ?_⟩
          subst o2
          exact spV_of (E := fun _ => E0) n2 (.cons (show RepS X.K CT F2 as2 (.ref (CT c')) (.d (.cls c')) from .cls c') r2) h2
        · rw [if_neg hc] at h1
          exact h1.elim
      | _ => exact h1.elim
/-- the name of an own class -/
theorem me_cls (hm : X.mg x = some (.ref (CT c))) (hg : Gl X x := by rfl) (hd : (x == ("__debug__" : Str)) = false := by decide) : PE X (.Name x p) (up X.K CT (fun _ => E0) (vC (.cls c))) :=
  me_glob (v := .ref (CT c)) hm rfl (fun F => .cls c) hg hd
end
end Bf
/-! The mirror layer: sorted of alike data, of lists and tuples. -/
namespace PyProof.Rows
open PySem PySem.W PySem.Calls
section
variable {prog : Program} {w : World} {A : Around} {E : Value → Shared → Prop} {s : Shared} {κ : KeyKind}
theorem sorted_of_sortT {l : Addr} {vs : List Value} {Q : Value → Shared → Prop} (hl : s.heap.IsTuple l vs.toArray) (hL : vs.length ≤ sizeLine)
    (body : ∀ E' : Value → Shared → Prop, wpAny (model prog w) A.in1.in1 (Builtin.«list.sort» ⟨[.ref (s.heap.objs.size + 1)], []⟩) (fun f s' => f = .done (.ret .none) ∧ Q (.ref (s.heap.objs.size + 1)) s') E' { s with heap := copyHeap s.heap vs }) :
    wpAny (model prog w) A (call (.builtin "sorted") [.ref l] []) Q E s := by
  refine call_function_entry_kw kind_sorted plain_sorted entry_sorted (args_sorted1 _) ?_
  unfold Builtin.«sorted»
  refine wpAny_bind (m := checkCount "sorted" 1 1 _) (wpAny_pure ?_)
  refine wpAny_bind (collect_tuple hl ?_ hL)
  refine wpAny_bind (wpAny_newList ?_ hL)
  have hsz : ((s.heap.push (seqObj "list" #[] 0)).update s.heap.objs.size (Obj.mapSeq (· ++ vs.toArray))).objs.size = s.heap.objs.size + 1 := by
    rw [Heap.size_update, size_push']
  show wpAny _ _ _ _ _ { s with heap := copyHeap s.heap vs }
  rw [hsz]
  refine wpAny_bind (wpAny_holding (wpAny_call_entry_kw slot_list_sort ⟨_, copyHeap_at s.heap vs, rfl⟩ entry_list_sort ?body (args_list_sort _)))
  case body =>
    show wpAny (model prog w) A.in1.in1 (Builtin.«list.sort» ⟨[.ref (s.heap.objs.size + 1)], []⟩) _ _ _
    refine wpAny_mono (body _) (fun f s' hf => ?_) fun _ _ e => e
    obtain ⟨rfl, hq⟩ := hf
    exact ⟨_, rfl, wpAny_pure ⟨_, rfl, hq⟩⟩
theorem sorted_dataT {l : Addr} {β : Type} {vs : List Value} {bs : List β} {enc : β → PyData} {R : Value → β → Prop} {Q : Value → Shared → Prop} (hl : s.heap.IsTuple l vs.toArray) (e : EachIs R vs bs) (er : EachIs (fun v b => ∃ as, Reads s.heap v (enc b) as) vs bs) (hal : AllAlike (bs.map enc)) (hk : Sortable (bs.map enc)) (hL : bs.length ≤ sizeLine)
    (hu : ∀ b, b ∈ bs → A.units + 2 + (enc b).depth < cLine) (h : ∀ out, out.length = bs.length → EachIs R out (bs.mergeSort (dataLe false enc)) → Q (.ref (s.heap.objs.size + 1)) { s with heap := sortedAll s.heap vs (List.toArray out) }) :
    wpAny (model prog w) A (call (.builtin "sorted") [.ref l]) Q E s := by
  have er' : EachIs (fun v b => ∃ as, Reads (sortingHeap (copyHeap s.heap vs) (s.heap.objs.size + 1) vs) v (enc b) as) vs bs := er.mono fun _ _ ⟨as, r⟩ => ⟨as, PyProof.Rows.Reads.keeps (fun _ _ => sorting_copy_old) r⟩
  have S := SortsAt.data (prog := prog) (w := w) (A := A.in1.in1) (s := { s with heap := sortingHeap (copyHeap s.heap vs) (s.heap.objs.size + 1) vs }) (each_map (R := fun v d => ∃ as, Reads (sortingHeap (copyHeap s.heap vs) (s.heap.objs.size + 1) vs) v d as) enc er') hal hk (bound_map hu)
  exact sorted_of_sortT hl (by rw [e.length]; exact hL) fun _ => list_sort_vals (s := { s with heap := copyHeap s.heap vs }) (copyHeap_at s.heap vs) S (by rw [e.length]; exact hL) ⟨rfl, h _ (by rw [sortVals_length false rfl]; exact e.length) (sortVals_data false e er' hal)⟩
end
end PyProof.Rows
namespace Bf
open PySem PySem.Spec PyProof.Rows L2
open PySem.W (AllAlike Sortable EachIs dataLe alike)
/-- the order of alike data -/
def leS (a b : D) : Bool := dataLe false D.py a b
def sortD (ds : List D) : List D := ds.mergeSort leS
def alikeB (ds : List D) : Bool := ds.all fun a => ds.all fun b => alike a.py b.py
def rowB : D → Bool
  | .tup (_ :: _) => true
  | _ => false
def atmB : D → Bool
  | .non => false
  | .tup _ => false
  | .kup _ => false
  | _ => true
def sortableB (ds : List D) : Bool := ds.all rowB || ds.all atmB
def sorD (ds : List D) : Option D := if D.plains ds = true ∧ alikeB ds = true ∧ sortableB ds = true ∧ ds.length ≤ sizeLine ∧ (ds.all fun a => decide (a.py.depth ≤ 60)) = true then some (.lst (sortD ds)) else none
/-- sorted(x), x a list or a tuple of alike data -/
def sortedX : List D → Option D
  | [.lst xs] => sorD xs
  | [.tup xs] => sorD xs
  | _ => none
section
variable {X : Cx} {CT : Ctx}
theorem py_tup {d : D} (h : rowB d = true) : ∃ x r, d.py = .tuple (x :: r) := by
  unfold rowB at h
  split at h
  · exact ⟨_, _, by rw [D.py, D.pys]⟩
  · cases h
theorem py_not {d : D} (p : d.plain = true) (h : atmB d = true) : d.py ≠ .none ∧ ∀ xs, d.py ≠ .tuple xs := by
  cases d with
  | bl => exact ⟨fun z => (by rw [D.py] at z; cases z), fun xs z => (by rw [D.py] at z; cases z)⟩
  | int => exact ⟨fun z => (by rw [D.py] at z; cases z), fun xs z => (by rw [D.py] at z; cases z)⟩
  | str => exact ⟨fun z => (by rw [D.py] at z; cases z), fun xs z => (by rw [D.py] at z; cases z)⟩
  | lst => exact ⟨fun z => (by rw [D.py] at z; cases z), fun xs z => (by rw [D.py] at z; cases z)⟩
  | non => cases h
  | tup => cases h
  | kup => cases h
  | _ => rw [D.plain] at p; cases p
theorem sortable_of {ds : List D} (p : D.plains ds = true) (h : sortableB ds = true) : Sortable (ds.map D.py) := by
  unfold sortableB at h
  rw [Bool.or_eq_true] at h
  rw [D.plains_all] at p
  rcases h with h | h
  · left
    intro d hd
    obtain ⟨x, hx, rfl⟩ := List.mem_map.mp hd
    exact py_tup (List.all_eq_true.mp h x hx)
  · right
    intro d hd
    obtain ⟨x, hx, rfl⟩ := List.mem_map.mp hd
    exact py_not (List.all_eq_true.mp p x hx) (List.all_eq_true.mp h x hx)
theorem alike_of {ds : List D} (h : alikeB ds = true) : AllAlike (ds.map D.py) := by
  intro d hd d' hd'
  obtain ⟨x, hx, rfl⟩ := List.mem_map.mp hd
  obtain ⟨y, hy, rfl⟩ := List.mem_map.mp hd'
  exact List.all_eq_true.mp (List.all_eq_true.mp h x hx) y hy
/-- values, what they stand for, their data -/
theorem zip3 {K : PySem.W.Frag} {F : Hp} : ∀ {ds : List D} {vs : List V} {us : List Value}, Vals vs us → Reps K CT F vs ds → EachIs (fun (u : Value) (b : V × D) => RelV b.1 u ∧ Rep K CT F b.1 b.2) us (vs.zip ds) ∧ (vs.zip ds).map (·.2) = ds
  | [], _, _, r1, r2 => by
    cases r2
    cases r1
    exact ⟨.nil, rfl⟩
  | d :: ds, _, _, r1, r2 => by
    cases r2 with
    | cons h1 h2 =>
      cases r1 with
      | cons g1 g2 =>
        obtain ⟨a, b⟩ := zip3 g2 h2
        exact ⟨.cons ⟨g1, h1⟩ a, by rw [List.zip_cons_cons, List.map_cons, b]⟩
theorem unzip3 {K : PySem.W.Frag} {F : Hp} : ∀ {bs : List (V × D)} {us : List Value}, EachIs (fun (u : Value) (b : V × D) => RelV b.1 u ∧ Rep K CT F b.1 b.2) us bs → Vals (bs.map (·.1)) us ∧ Reps K CT F (bs.map (·.1)) (bs.map (·.2))
  | [], _, r => by cases r; exact ⟨.nil, .nil⟩
  | b :: bs, _, r => by
    cases r with
    | cons h1 h2 =>
      obtain ⟨a, c⟩ := unzip3 h2
      exact ⟨.cons h1.1 a, .cons h1.2 c⟩
def rSortX (K : PySem.W.Frag) (CT : Ctx) : List V → Hp → VK → Prop := fun vs H Q => ∃ (F : Hp) (a : Addr) (xs : List V) (ds : List D), vs = [V.ref a] ∧ Sub F H ∧ (SqL K H a xs ∨ SqT K H a xs) ∧ Reps K CT F xs ds ∧ D.plains ds = true ∧ alikeB ds = true ∧ sortableB ds = true ∧ ds.length ≤ sizeLine ∧ (∀ d ∈ ds, d.py.depth ≤ 60) ∧
  ∀ ys p, Reps K CT F ys (sortD ds) → H p = none → Q (.ref p) (upd H p (.lst ys))
theorem cr_sortX (hu : X.A.units + 64 < cLine) : CallR X (.builtin "sorted") (rSortX X.K CT) := by
  intro pins s σ H vs us Q I r h
  obtain ⟨F, a, xs, ds, rfl, sub, hs, rr, hp, hal, hsb, hz, hdp, q⟩ := h
  have hu2 : ∀ b, b ∈ (xs.zip ds) → X.A.units + 2 + (D.py b.2).depth < cLine := fun b hb => by
    have := hdp b.2 (List.of_mem_zip hb).2
    omega
  have fin : ∀ its : List Value, Vals xs its → (∀ (R : Value → V × D → Prop), True) →
      (∀ out : List Value, out.length = (xs.zip ds).length → EachIs (fun (u : Value) (b : V × D) => RelV b.1 u ∧ Rep X.K CT F b.1 b.2) out ((xs.zip ds).mergeSort (dataLe false fun b => D.py b.2)) → EP X pins σ Q (.ref (s.heap.objs.size + 1)) { s with heap := sortedAll s.heap its (List.toArray out) }) := fun its rv _ out hl ho => by
    obtain ⟨h1, h2⟩ := unzip3 ho
    have e : ((xs.zip ds).mergeSort (dataLe false fun b => D.py b.2)).map (·.2) = sortD ds := by
      unfold sortD
      have e0 := List.map_mergeSort (r := dataLe false fun b : V × D => D.py b.2) (s := leS) (f := fun b : V × D => b.2) (l := xs.zip ds) (fun a _ b _ => rfl)
      rw [(zip3 rv rr).2] at e0
      exact e0
    rw [e] at h2
    obtain ⟨ep, he'⟩ := PyProof.Rows.sortedAll_at s.heap its (List.toArray out)
    have hlen : ∀ ys : List V, Vals ys out → ys.length ≤ sizeLine := fun ys hy => by
      rw [hy.length, hl, List.length_zip, rr.length]
      omega
    exact ⟨.ref _, upd H (s.heap.objs.size + 1) (.lst _), I.laid (t' := s.toks) (fun _ _ => PyProof.Rows.sortedAll_old) (Nat.le_succ _) ⟨hlen _ h1, out, ep, h1, he'⟩, rfl, q _ _ h2 (I.hok.fresh (Nat.le_succ _))⟩
  rw [Vals.ref1 r]
  have map1 : (xs.zip ds).map (fun b => D.py b.2) = ds.map D.py → AllAlike ((xs.zip ds).map fun b => D.py b.2) ∧ Sortable ((xs.zip ds).map fun b => D.py b.2) := fun e => by
    rw [e]
    exact ⟨alike_of hal, sortable_of hp hsb⟩
  have reads : ∀ its : List Value, Vals xs its → EachIs (fun (v : Value) (b : V × D) => ∃ as, Reads s.heap v (D.py b.2) as) its (xs.zip ds) := fun its rv => by
    have z := (zip3 rv rr).1
    have pl : ∀ b ∈ xs.zip ds, b.2.plain = true := fun b hb => by
      rw [D.plains_all] at hp
      exact List.all_eq_true.mp hp b.2 (List.of_mem_zip hb).2
    clear fin map1 hu2 rv
    generalize xs.zip ds = bs at z pl
    induction z with
    | nil => exact .nil
    | cons h1 _ ih =>
      refine .cons ?_ (ih fun b hb => pl b (List.mem_cons_of_mem _ hb))
      obtain ⟨d1, _⟩ := Rep.dp _ _ (pl _ List.mem_cons_self) h1.2
      obtain ⟨as, r⟩ := Dp.reads I _ _ _ (Dp.sub sub _ _ d1) h1.1
      exact ⟨as, r⟩
  have em : ∀ its : List Value, Vals xs its → (xs.zip ds).map (fun b => D.py b.2) = ds.map D.py := fun its rv => by
    rw [← (zip3 rv rr).2, List.map_map, (zip3 rv rr).2]
    rfl
  rcases hs with hs | hs
  · obtain ⟨its, rv, hl, _⟩ := I.list hs
    obtain ⟨m1, m2⟩ := map1 (em its rv)
    exact PySem.W.sorted_data hl.isList (zip3 rv rr).1 (reads its rv) m1 m2 (by rw [List.length_zip]; omega) hu2 (fin its rv fun _ => trivial)
  · obtain ⟨its, rv, hl, _⟩ := I.tuple hs
    obtain ⟨m1, m2⟩ := map1 (em its rv)
    exact sorted_dataT hl (zip3 rv rr).1 (reads its rv) m1 m2 (by rw [List.length_zip]; omega) hu2 (fin its rv fun _ => trivial)
theorem cb_sortX (hu : X.A.units + 64 < cLine) : CallR X (.builtin "sorted") (rB X.K CT sortedX) := callr_imp (cr_sortX (CT := CT) hu) fun vs H Q h => by
  obtain ⟨F, as, σ, S, ds, z, n, r, e, f⟩ := h
  have go : ∀ {xs : List D}, sorD xs = some z → z = .lst (sortD xs) ∧ D.plains xs = true ∧ alikeB xs = true ∧ sortableB xs = true ∧ xs.length ≤ sizeLine ∧ (∀ d ∈ xs, d.py.depth ≤ 60) := fun {xs} e => by
    unfold sorD at e
    split at e
    · rename_i c
      cases e
      exact ⟨rfl, c.1, c.2.1, c.2.2.1, c.2.2.2.1, fun d hd => of_decide_eq_true (List.all_eq_true.mp c.2.2.2.2 d hd)⟩
    · cases e
  unfold sortedX at e
  split at e
  · obtain ⟨rfl, c1, c2, c3, c4, c5⟩ := go e
    obtain ⟨v, rfl, rv⟩ := r.one
    obtain ⟨a, ws, rfl, q1, r1⟩ := rv.lst' n.sub
    exact ⟨F, a, ws, _, rfl, n.sub, .inl (SqL.of q1), r1, c1, c2, c3, c4, c5, fun ys p ry hp => f.list n p _ hp ry⟩
  · obtain ⟨rfl, c1, c2, c3, c4, c5⟩ := go e
    obtain ⟨v, rfl, rv⟩ := r.one
    obtain ⟨a, ws, rfl, q1, r1⟩ := rv.tup' n.sub
    exact ⟨F, a, ws, _, rfl, n.sub, .inr q1, r1, c1, c2, c3, c4, c5, fun ys p ry hp => f.list n p _ hp ry⟩
  · cases e
end
end Bf
/-! The mirror layer: comprehensions of two clauses. -/
namespace Bf
open PySem PySem.Spec PyProof.Rows L2
section
variable {X : Cx} {CT : Ctx} {E : Sto → XK}
/-- a comprehension's loop, whatever follows it -/
theorem lcGo_walk {β : Type} {own : List Nat} {it : It'} {J : It} {g : MG} {t : MT} {e : ME} {k : Nat} {D : Addr} {as1 : List Addr} {F1 F0 : Hp} {σ : Sto} {κ : PS → R β} {Qf : β → PS → Hp → List Addr → Sto → Hp → Prop} {okσ : Sto → Prop} {P : Nat → Nat → Hp → Prop}
    (hP : P = fun i m H => ∃ F s, Sub F0 F ∧ Env X.K CT F (as1 ++ [D]) H (L2.wipe σ own) s ∧ Out X.K CT okσ E F1 as1 ((lcGo it k own g t e m i s).bind fun _ s' => κ s') Qf)
    (hk' : as1.length = k) (hF : Sub F1 F0) (r1 : ItOk X.K CT F0 (as1 ++ [D]) J it) (stopQ : Hp → Prop)
    (hstop : ∀ F s H, Sub F0 F → Env X.K CT F (as1 ++ [D]) H (L2.wipe σ own) s → Out X.K CT okσ E F1 as1 (κ s) Qf → stopQ H) :
    ∀ i m H, P i m H → (J.stop i H ∧ stopQ H) ∨ (J.go i H ∧ ∃ Nx : Hp → Prop, (∀ H', Nx H' → ∃ m', m' < m ∧ P (i + 1) m' H') ∧ ∀ x H', J.yld i H x H' → upG X.K CT (fun σ => L2.wipe σ own) EF g x (L2.wipe σ own) H' fun σ2 H2 => L2.wipe σ2 own = L2.wipe σ own ∧ upT X.K CT EF t σ2 H2 fun b H3 =>
      if b = true then up X.K CT EF e σ2 H3 fun y H4 => ∃ acc, H4 D = some (.lst acc) ∧ acc.length < sizeLine ∧ Nx (upd H4 D (.lst (acc ++ [y]))) else Nx H3) := by
  subst hP
  rintro i m H ⟨F, s, eF, n, h⟩
  have eD : Ext F1 as1 F (as1 ++ [D]) := ⟨hF.trans eF, [D], rfl⟩
  have r := r1.mono (Ext.sub eF)
  let P : Nat → Nat → Hp → Prop := fun i m H => ∃ F s, Sub F0 F ∧ Env X.K CT F (as1 ++ [D]) H (L2.wipe σ own) s ∧ Out X.K CT okσ E F1 as1 ((lcGo it k own g t e m i s).bind fun _ s' => κ s') Qf
  have stop : it.at s i = some none → lcGo it k own g t e m i s = .ok () s → (J.stop i H ∧ stopQ H) := fun q hq => by
    rw [hq] at h
    exact ⟨It'.stop n r q, hstop F s H eF n h⟩
  cases q : it.at s i with
  | none => cases m <;> (unfold lcGo at h; simp only [q] at h; exact h.elim)
  | some o =>
    cases o with
    | none =>
      refine .inl ?_
      cases m with
      | zero => exact stop q (by unfold lcGo; simp only [q])
      | succ m => exact stop q (by unfold lcGo; simp only [q])
    | some x =>
      cases m with
      | zero => unfold lcGo at h; simp only [q] at h; exact h.elim
      | succ m =>
        unfold lcGo at h
        simp only [q] at h
        refine .inr ⟨It'.go n r q, P (i + 1) m, fun H' z => ⟨m, Nat.lt_succ_self m, z⟩, fun v H' y => ?_⟩
        obtain ⟨F, e0, n, rv⟩ := It'.yld n r q y
        replace r := r.mono e0
        replace eF := eF.trans e0.1
        replace eD := eD.trans e0
        -- the turn's outcome is known part by part
        have ns1 := h.ns
        cases qg : g (.d x) s with
        | err => rw [qg] at h; exact h.elim
        | stuck => rw [qg] at h; exact h.elim
        | ok u s2 =>
          rw [qg, nox_ok, bind_ok] at h
          refine ⟨F, _, s, .d x, n, rv, ?_⟩
          rw [qg]
          intro F2 as2 σ2 H2 o2 e2 n2 hφ
          have w2 : L2.wipe σ2 own = L2.wipe σ own := by
            have o2 : L2.wipe σ2 own = L2.wipe (L2.wipe σ own) own := o2
            have id : ∀ (vs : List Nat), (∀ v ∈ vs, v ∈ own) → L2.wipe (L2.wipe σ own) vs = L2.wipe σ own := by
              intro vs
              induction vs with
              | nil => intro _; rfl
              | cons v vs ih =>
                intro hv
                show (L2.wipe (L2.wipe σ own) vs).set v none = _
                rw [ih fun w hw => hv w (List.mem_cons_of_mem _ hw)]
                refine List.ext_getElem? fun j => ?_
                by_cases hj : v = j
                · subst hj
                  by_cases hl : v < (L2.wipe σ own).length
                  · rw [List.getElem?_set_self hl]
                    cases z : (L2.wipe σ own)[v]? with
                    | none => rw [List.getElem?_eq_getElem hl] at z; cases z
                    | some o =>
                      cases o with
                      | none => rfl
                      | some a => exact absurd (hv v List.mem_cons_self) (wipe_some z).2
                  · rw [List.getElem?_eq_none (by simpa using hl), List.getElem?_eq_none (by simpa using hl)]
                · rw [List.getElem?_set_ne hj]
            rw [o2]
            exact id own fun _ z => z
          refine ⟨w2, ?_⟩
          cases qt : t s2 with
          | err => rw [qt] at h; exact h.elim
          | stuck => rw [qt] at h; exact h.elim
          | ok c s3 =>
            rw [qt, nox_ok, bind_ok] at h
            refine ⟨F2, as2, s2, n2, ?_⟩
            rw [qt]
            intro F3 as3 σ3 H3 o3 e3 n3
            subst o3
            have e23 : Ext F (as1 ++ [D]) F3 as3 := e2.trans e3
            have hl1 : (as1 ++ [D]).length = k + 1 := by rw [List.length_append, hk']; rfl
            cases c with
            | false =>
              simp only [Bool.false_eq_true, if_false] at h ⊢
              cases qr : trunc (k + 1) s3 with
              | none => rw [qr] at h; exact h.elim
              | some s4 =>
                simp only [qr] at h
                have n4 := n3.trunc qr
                rw [take_ext e23 hl1] at n4
                exact ⟨F3, _, eF.trans e23.1, n4.wiped w2, h⟩
            | true =>
              simp only [if_true] at h ⊢
              cases qe : e s3 with
              | err => rw [qe] at h; exact h.elim
              | stuck => rw [qe] at h; exact h.elim
              | ok z s4 =>
                rw [qe, nox_ok, bind_ok] at h
                refine ⟨F3, as3, s3, n3, ?_⟩
                rw [qe]
                intro F4 as4 σ4 H4 o4 e4 n4 w rw'
                subst o4
                cases qz : frz s4 z with
                | none => simp only [qz] at h; exact h.elim
                | some pp =>
                  obtain ⟨yd, s5⟩ := pp
                  simp only [qz] at h
                  obtain ⟨F5, e5, q5, n5⟩ := n4.frz rw' qz
                  cases qw : s5.w[k]? with
                  | none => simp only [qw] at h; exact h.elim
                  | some c =>
                    cases c with
                    | lst acc =>
                      simp only [qw] at h
                      by_cases hz : acc.length < sizeLine
                      · simp only [hz, if_true] at h
                        have e05 : Ext F (as1 ++ [D]) F5 as4 := e23.trans (e4.trans e5)
                        obtain ⟨aD, vs, ha, hf, hh, rr⟩ := n5.cell qw
                        have hD' : as4[k]? = some D := e05.at (by rw [← hk', List.getElem?_append_right (Nat.le_refl _)]; simp)
                        rw [hD'] at ha
                        cases ha
                        refine ⟨vs, hh, by rw [rr.length]; exact hz, ?_⟩
                        have n6 := n5.setC (ws := vs ++ [w]) (ys := acc ++ [yd]) qw hD' hf (rr.append (.one q5))
                        cases qr : trunc (k + 1) { s5 with w := s5.w.set k (.lst (acc ++ [yd])) } with
                        | none => rw [qr] at h; exact h.elim
                        | some s6 =>
                          simp only [qr] at h
                          have n7 := n6.trunc qr
                          rw [take_ext e05 hl1] at n7
                          exact ⟨F5, _, eF.trans e05.1, n7.wiped w2, h⟩
                      · simp only [hz, if_false] at h; exact h.elim
                    | _ => simp only [qw] at h; exact h.elim
theorem bind_assoc' {α β γ : Type} {r : R α} {f : α → PS → R β} {h : β → PS → R γ} : (r.bind f).bind h = r.bind fun a s => (f a s).bind h := by cases r <;> rfl
theorem wipe_at {σ : Sto} {vs : List Nat} {j : Nat} : (L2.wipe σ vs)[j]? = if j ∈ vs then (if j < σ.length then some none else none) else σ[j]? := by
  by_cases hj : j ∈ vs
  · rw [if_pos hj]
    by_cases hl : j < σ.length
    · rw [if_pos hl]
      cases z : (L2.wipe σ vs)[j]? with
      | none =>
        rw [List.getElem?_eq_none_iff, wipe_length] at z
        omega
      | some o =>
        cases o with
        | none => rfl
        | some a => exact absurd hj (wipe_some z).2
    · rw [if_neg hl, List.getElem?_eq_none (by rw [wipe_length]; omega)]
  · rw [if_neg hj, wipe_keep hj]
theorem wipe_wipe {σ : Sto} {vs own : List Nat} (h : ∀ i ∈ vs, i ∈ own) : L2.wipe (L2.wipe σ vs) own = L2.wipe σ own := by
  refine List.ext_getElem? fun j => ?_
  rw [wipe_at (σ := L2.wipe σ vs) (vs := own), wipe_at (σ := σ) (vs := own), wipe_length]
  by_cases hj : j ∈ own
  · rw [if_pos hj, if_pos hj]
  · rw [if_neg hj, if_neg hj, wipe_at, if_neg fun z => hj (h j z)]
def isFix : It' → Bool
  | .cell _ => false
  | _ => true
def lc2Go (it : It') (n : Nat) (own : List Nat) (g : MG) (t : MT) (i1 : MI) (own1 : List Nat) (g1 : MG) (t1 : MT) (e : ME) : Nat → Nat → PS → R Unit
  | 0, i, s => match it.at s i with
    | some none => .ok () s
    | _ => .stuck
  | f + 1, i, s => match it.at s i with
    | some (some x) => (g (.d x) s).nox.bind fun _ s => (t s).nox.bind fun c s => if c = true then
        (i1 s).nox.bind fun j s => if isFix j = true then match trunc (n + 1) s with
            | some s => (lcGo j n own1 g1 t1 e (j.fuel s) 0 { s with g := wipeG own1 s.g }).bind fun _ s => lc2Go it n own g t i1 own1 g1 t1 e f (i + 1) { s with g := wipeG own s.g }
            | none => .stuck
          else .stuck
      else match trunc (n + 1) s with
        | some s => lc2Go it n own g t i1 own1 g1 t1 e f (i + 1) { s with g := wipeG own s.g }
        | none => .stuck
    | some none => .ok () s
    | none => .stuck
/-- [e for .. if .. for .. if ..], a cell -/
def vLc2N (it : MI) (own : List Nat) (g : MG) (t : MT) (i1 : MI) (own1 : List Nat) (g1 : MG) (t1 : MT) (e : ME) : ME := fun s => (it s).bind fun it s =>
  (lc2Go it s.w.length own g t i1 own1 g1 t1 e (it.fuel s) 0 { g := wipeG own s.g, w := s.w ++ [.lst []] }).bind fun _ s' => .ok (.cell s.w.length) { s' with g := backG own s.g s'.g }
/-- the reading of a comprehension whose list is a cell -/
theorem lc2_read {mi i1 : MI} {own own1 : List Nat} {g g1 : MG} {t t1 : MT} {e : ME} (hv : ∀ i ∈ own1, i ∈ own) {σ : Sto} {H : Hp} {Q : VK} (h : up X.K CT E (vLc2N mi own g t i1 own1 g1 t1 e) σ H Q) :
    tLc2 (upI X.K CT E mi) (upG X.K CT (fun σ => L2.wipe σ own) EF g) (upT X.K CT EF t) (upI X.K CT EF i1) (upG X.K CT (fun σ => L2.wipe σ own1) EF g1) (upT X.K CT EF t1) (up X.K CT EF e) own own1 σ H Q := by
  obtain ⟨F, as, s, n, h⟩ := h
  refine upI_seq n h rfl fun J it s1 F1 as1 H1 e1 n1 r1 h1 => ?_
  intro D hD
  obtain ⟨eN, nN⟩ := n1.newC (p := D) (vs := []) (xs := []) hD .nil
  generalize hk : s1.w.length = k at h1
  have hk' : as1.length = k := by rw [← n1.wk.len]; exact hk
  let Qf : SV → PS → Hp → List Addr → Sto → Hp → Prop := fun x _ F' as' _ H' => ∀ v, RepS X.K CT F' as' v x → Q v H'
  let P : Nat → Nat → Hp → Prop := fun i m H => ∃ F s, Sub F1 F ∧ Env X.K CT F (as1 ++ [D]) H (L2.wipe σ own) s ∧ Out X.K CT (fun σ' => σ' = σ) E F1 as1 ((lc2Go it k own g t i1 own1 g1 t1 e m i s).bind fun _ s' => .ok (.cell k) { s' with g := backG own s1.g s'.g }) Qf
  refine ⟨P, ⟨it.fuel s1, F1, _, Sub.refl F1, nN.wipe own, h1⟩, ?_⟩
  rintro i m H ⟨F, s, eF, n, h⟩
  have eD : Ext F1 as1 F (as1 ++ [D]) := ⟨eF, [D], rfl⟩
  have r := r1.mono eD
  have stop : it.at s i = some none → lc2Go it k own g t i1 own1 g1 t1 e m i s = .ok () s → (J.stop i H ∧ Q (.ref D) H) := fun q hq => by
    rw [hq] at h
    refine ⟨It'.stop n r q, ?_⟩
    exact Out.there h (σ := σ) rfl eD (n.back n1 eF) _ ⟨D, by rw [← hk', List.getElem?_append_right (Nat.le_refl _)]; simp, rfl⟩
  cases q : it.at s i with
  | none => cases m <;> (unfold lc2Go at h; simp only [q] at h; exact h.elim)
  | some o =>
    cases o with
    | none =>
      refine .inl ?_
      cases m with
      | zero => exact stop q (by unfold lc2Go; simp only [q])
      | succ m => exact stop q (by unfold lc2Go; simp only [q])
    | some x =>
      cases m with
      | zero => unfold lc2Go at h; simp only [q] at h; exact h.elim
      | succ m =>
        unfold lc2Go at h
        simp only [q] at h
        refine .inr ⟨It'.go n r q, P (i + 1) m, fun H' z => ⟨m, Nat.lt_succ_self m, z⟩, fun v H' y => ?_⟩
        obtain ⟨F, e0, n, rv⟩ := It'.yld n r q y
        replace r := r.mono e0
        replace eF := eF.trans e0.1
        replace eD := eD.trans e0
        -- the turn's outcome is known part by part
        have ns1 := h.ns
        cases qg : g (.d x) s with
        | err => rw [qg] at h; exact h.elim
        | stuck => rw [qg] at h; exact h.elim
        | ok u s2 =>
          rw [qg, nox_ok, bind_ok] at h
          refine ⟨F, _, s, .d x, n, rv, ?_⟩
          rw [qg]
          intro F2 as2 σ2 H2 o2 e2 n2 hφ
          have w2 : L2.wipe σ2 own = L2.wipe σ own := by
            have o2 : L2.wipe σ2 own = L2.wipe (L2.wipe σ own) own := o2
            have id : ∀ (vs : List Nat), (∀ v ∈ vs, v ∈ own) → L2.wipe (L2.wipe σ own) vs = L2.wipe σ own := by
              intro vs
              induction vs with
              | nil => intro _; rfl
              | cons v vs ih =>
                intro hv
                show (L2.wipe (L2.wipe σ own) vs).set v none = _
                rw [ih fun w hw => hv w (List.mem_cons_of_mem _ hw)]
                refine List.ext_getElem? fun j => ?_
                by_cases hj : v = j
                · subst hj
                  by_cases hl : v < (L2.wipe σ own).length
                  · rw [List.getElem?_set_self hl]
                    cases z : (L2.wipe σ own)[v]? with
                    | none => rw [List.getElem?_eq_getElem hl] at z; cases z
                    | some o =>
                      cases o with
                      | none => rfl
                      | some a => exact absurd (hv v List.mem_cons_self) (wipe_some z).2
                  · rw [List.getElem?_eq_none (by simpa using hl), List.getElem?_eq_none (by simpa using hl)]
                · rw [List.getElem?_set_ne hj]
            rw [o2]
            exact id own fun _ z => z
          refine ⟨w2, ?_⟩
          cases qt : t s2 with
          | err => rw [qt] at h; exact h.elim
          | stuck => rw [qt] at h; exact h.elim
          | ok c s3 =>
            rw [qt, nox_ok, bind_ok] at h
            refine ⟨F2, as2, s2, n2, ?_⟩
            rw [qt]
            intro F3 as3 σ3 H3 o3 e3 n3
            subst o3
            have e23 : Ext F (as1 ++ [D]) F3 as3 := e2.trans e3
            have hl1 : (as1 ++ [D]).length = k + 1 := by rw [List.length_append, hk']; rfl
            cases c with
            | false =>
              simp only [Bool.false_eq_true, if_false] at h ⊢
              cases qr : trunc (k + 1) s3 with
              | none => rw [qr] at h; exact h.elim
              | some s4 =>
                simp only [qr] at h
                have n4 := n3.trunc qr
                rw [take_ext e23 hl1] at n4
                exact ⟨F3, _, eF.trans e23.1, n4.wiped w2, h⟩
            | true =>
              simp only [if_true] at h ⊢
              cases qi : i1 s3 with
              | err => rw [qi] at h; exact h.elim
              | stuck => rw [qi] at h; exact h.elim
              | ok j s4 =>
                rw [qi, nox_ok, bind_ok] at h
                refine ⟨F3, as3, s3, n3, ?_⟩
                rw [qi]
                intro F4 as4 σ4 H4 o4 e4 n4 J1 rJ
                subst o4
                by_cases hj : isFix j = true
                · rw [if_pos hj] at h
                  cases qr : trunc (k + 1) s4 with
                  | none => simp only [qr] at h; exact h.elim
                  | some s5 =>
                    simp only [qr] at h
                    have n5 := n4.trunc qr
                    rw [take_ext (e23.trans e4) hl1] at n5
                    have rJ2 : ItOk X.K CT F4 (as1 ++ [D]) J1 j := by
                      cases j with
                      | cell c => cases hj
                      | seq ds => exact rJ
                      | rng lo n => exact rJ
                      | rngC lo c n => exact rJ
                      | prs ps => exact rJ
                      | kys xs => exact rJ
                      | its ps => exact rJ
                    have eF4 : Sub F1 F4 := eF.trans (e23.trans e4).1
                    rw [bind_assoc'] at h
                    refine ⟨fun j' m' H' => ∃ F s, Sub F4 F ∧ Env X.K CT F (as1 ++ [D]) H' (L2.wipe σ4 own1) s ∧ Out X.K CT (fun σ' => σ' = σ) E F1 as1 ((lcGo j k own1 g1 t1 e m' j' s).bind fun _ s' => (lc2Go it k own g t i1 own1 g1 t1 e m (i + 1) { s' with g := wipeG own s'.g }).bind fun _ s' => R.ok (.cell k) { s' with g := backG own s1.g s'.g }) Qf, ⟨j.fuel s5, F4, _, Sub.refl F4, n5.wipe own1, h⟩, ?_⟩
                    refine lcGo_walk rfl hk' eF4 rJ2 (P (i + 1) m) fun F6 s6 H6 eF6 n6 h6 => ?_
                    exact ⟨F6, _, eF4.trans eF6, n6.wiped (by rw [wipe_wipe hv]; exact w2), h6⟩
                · rw [if_neg hj] at h
                  exact h.elim
end
end Bf
/-! The mirror layer: comprehensions of two clauses, as rules; what they compute. -/
namespace Bf
open PySem PySem.Spec PyProof.Rows L2
section
variable {X : Cx} {CT : Ctx} {E : Sto → XK} {elt tg iter tg1 iter1 : Expr} {ifs ifs1 : List Expr} {scope : Scope} {own : List (Str × Nat)} {own1 : List Nat} {pos spos : Pos} {mi i1 : MI} {g g1 : MG} {t t1 : MT} {e : ME}
theorem me_lc2N (hx : Cq X E) (hi : PI X tg iter (upI X.K CT E mi)) (ok : BlkOk X.N X.env.scope scope own) (hv : ∀ i ∈ own1, i ∈ own.map (·.2))
    (hg : ∀ s H C cl fp, PG (Bk X scope s H C cl fp) tg (upG X.K CT (fun σ => L2.wipe σ (own.map (·.2))) EF g)) (ht : ∀ s H C cl fp, PTs (Bk X scope s H C cl fp) ifs (upT X.K CT EF t))
    (hi1 : ∀ s H C cl fp, PI (Bk X scope s H C cl fp) tg1 iter1 (upI X.K CT EF i1)) (hg1 : ∀ s H C cl fp, PG (Bk X scope s H C cl fp) tg1 (upG X.K CT (fun σ => L2.wipe σ own1) EF g1)) (ht1 : ∀ s H C cl fp, PTs (Bk X scope s H C cl fp) ifs1 (upT X.K CT EF t1))
    (he : ∀ s H C cl fp, PE (Bk X scope s H C cl fp) elt (up X.K CT EF e)) (hs : ∀ x, foldedSetIterable iter X.env x = pure x := by intro _; rfl) (hs1 : ∀ env x, foldedSetIterable iter1 env x = pure x := by intro _ _; rfl) :
    PE X (.ListComp elt [⟨tg, iter, ifs, 0⟩, ⟨tg1, iter1, ifs1, 0⟩] scope pos) (up X.K CT E (vLc2N mi (own.map (·.2)) g t i1 own1 g1 t1 e)) :=
  PE.imp (pe_lc2 hx.calm hx.nd hi ok hv hg ht hi1 hg1 ht1 he hs hs1) fun _ _ _ h => lc2_read hv h
end
end Bf
namespace Bf
open PySem PySem.Spec PyProof.Rows L2
/-- the loop of one clause of a comprehension, of any kind: body is what a turn does behind its tests -/
theorem clause_turns {prog : Program} {w : World} {A : Around} {R : Result → Shared → Prop} {s : Shared} {e tg : Expr} {d : Nat} {p : Pos} {ifs : List Expr} {it acc : Value} {env : PySem.Env} {body : Sem PySem.Fin}
    (eq : compTurn e d it acc env = (do
      standAt p
      match ← pyNext it with
      | none => pure (.done .next)
      | some v =>
        letOwnedTupleGo tg it v
        assign tg env v
        let mut ok := true
        for c in ifs do
          if ok then ok ← isTrue c env (eval c env)
        if ok then body else again (.compLoop e d it acc env))) (hA : A.under (.compLoop e d it acc env) = A) (hd : (model prog w).den (.compLoop e d it acc env) = (compTurn e d it acc env).onRaise (fun x => do noteFrame x env; theTreesLotGoes x)) (I : Nat → Shared → Prop)
    (turn : ∀ n s, I n s → wpAny (model prog w) A (pyNext it) (fun r s1 => match r with
      | none => R (.ok .next) s1
      | some v => wpAny (model prog w) A (letOwnedTupleGo tg it v) (fun _ s2 => wpAny (model prog w) A (assign tg env v) (fun _ s3 =>
          wpAny (model prog w) A (forIn ifs true fun c r => if r = true then do let ok ← isTrue c env (eval c env); pure (ForInStep.yield ok) else pure (ForInStep.yield r)) (fun ok s4 =>
            if ok = true then wpAny (model prog w) A body (fun fin s5 => fin = .again (.compLoop e d it acc env) ∧ ∃ m, m < n ∧ I m s5) (fun _ _ => False) s4 else ∃ m, m < n ∧ I m s4) (fun _ _ => False) s3) (fun _ _ => False) s2) (fun _ _ => False) s1) (fun _ _ => False) s)
    (n : Nat) (h : I n s) : codeAny (model prog w) A (.compLoop e d it acc env) R s := by
  refine codeAny_loop rfl I (fun n s hI => ?_) n h
  rw [hA, hd]
  refine wpAny_noted ?_
  rw [eq]
  have no : ∀ {α : Type} {t : Sem α} {Q : α → Shared → Prop} {E : Value → Shared → Prop} {s : Shared}, wpAny (model prog w) A t Q (fun _ _ => False) s → wpAny (model prog w) A t Q E s := fun h => wpAny_mono h (fun _ _ z => z) fun _ _ z => z.elim
  refine wpAny_bind (wpAny_standAt (wpAny_bind (no (wpAny_mono (turn n s hI) (fun r s1 h1 => ?_) fun _ _ z => z))))
  cases r with
  | none => exact wpAny_pure h1
  | some v =>
    refine wpAny_bind (no (wpAny_mono h1 (fun _ s2 h2 => wpAny_bind (no (wpAny_mono h2 (fun _ s3 h3 => wpAny_bind (no (wpAny_mono h3 (fun ok s4 h4 => ?_) fun _ _ z => z))) fun _ _ z => z))) fun _ _ z => z))
    cases ok with
    | false => exact wpAny_pure ⟨rfl, h4⟩
    | true => exact no (wpAny_mono h4 (fun fin s5 h5 => by obtain ⟨rfl, h5⟩ := h5; exact ⟨rfl, h5⟩) fun _ _ z => z)
theorem dc1_in {kx vx t0 i0 : Expr} {ifs0 : List Expr} {scope : Scope} {pos : Pos} {it : Value} {D : Addr} {env : PySem.Env} :
    compTurn (.DictComp kx vx [⟨t0, i0, ifs0, 0⟩] scope pos) 0 it (.ref D) env = (do
      standAt i0.pos
      match ← pyNext it with
      | none => pure (.done .next)
      | some v =>
        letOwnedTupleGo t0 it v
        assign t0 env v
        let mut ok := true
        for c in ifs0 do
          if ok then ok ← isTrue c env (eval c env)
        if ok then (do
          (do
            let kv ← eval kx env
            let vv ← holding [kv] (eval vx env)
            standAt { kx.pos with endLine := vx.pos.endLine, endCol := vx.pos.endCol }
            holding [kv, vv] (dictSet D kv vv))
          again (.compLoop (.DictComp kx vx [⟨t0, i0, ifs0, 0⟩] scope pos) 0 it (.ref D) env))
        else again (.compLoop (.DictComp kx vx [⟨t0, i0, ifs0, 0⟩] scope pos) 0 it (.ref D) env)) := by rfl
/-- a clause's loop in a block's context -/
theorem clause_walk {Y : Cx} {e tg : Expr} {d : Nat} {p : Pos} {ifs : List Expr} {it : Addr} {acc : Value} {body : Sem PySem.Fin} {R : Result → Shared → Prop} {pins : List (Addr × Obj)} {σ0 : L2.St} {vs : List Nat} {J : It} {fp : List Addr} {tn : Nat → Heap → Prop} {g : TG} {tt : TT} {tb : L2.St → Hp → (Hp → Prop) → Prop}
    (eq : compTurn e d (.ref it) acc Y.env = (do
      standAt p
      match ← pyNext (.ref it) with
      | none => pure (.done .next)
      | some v =>
        letOwnedTupleGo tg (.ref it) v
        assign tg Y.env v
        let mut ok := true
        for c in ifs do
          if ok then ok ← isTrue c Y.env (eval c Y.env)
        if ok then body else again (.compLoop e d (.ref it) acc Y.env)))
    (hA : Y.A.under (.compLoop e d (.ref it) acc Y.env) = Y.A) (hd : (model Y.prog Y.w).den (.compLoop e d (.ref it) acc Y.env) = (compTurn e d (.ref it) acc Y.env).onRaise (fun x => do noteFrame x Y.env; theTreesLotGoes x))
    (hc : Y.calm = true) (hxe : ∀ u s, ¬ Y.xe u s) (T : Turn Y.prog Y.w Y.K tg J fp it tn) (pg : PG Y tg g) (pt : PTs Y ifs tt)
    (pb : ∀ (pins' : List (Addr × Obj)) (s : Shared) (σ : L2.St) (H : Hp) (N : Hp → Prop), Inv Y pins' σ H s → L2.wipe σ vs = L2.wipe σ0 vs → tb σ H N → wpAny (model Y.prog Y.w) Y.A body (fun fin s' => fin = .again (.compLoop e d (.ref it) acc Y.env) ∧ ∃ H', Inv Y pins' (L2.wipe σ0 vs) H' s' ∧ N H') (fun _ _ => False) s)
    (stat : ∀ (H' : Hp), (∀ b ∈ fp, H' b = none) → ∀ b ∈ fp, FpOk Y pins H' b) {W : Nat → Nat → Hp → Prop} {Qd : Hp → Prop}
    (turn : ∀ i m H, W i m H → (J.stop i H ∧ Qd H) ∨ (J.go i H ∧ ∃ Nx : Hp → Prop, (∀ H', Nx H' → ∃ m', m' < m ∧ W (i + 1) m' H') ∧ ∀ x H', J.yld i H x H' → g x (L2.wipe σ0 vs) H' fun σ2 H2 => L2.wipe σ2 vs = L2.wipe σ0 vs ∧ tt σ2 H2 fun b H3 =>
      if b = true then tb σ2 H3 Nx else Nx H3))
    (hdone : ∀ s' H', Inv Y pins (L2.wipe σ0 vs) H' s' → Qd H' → R (.ok .next) s') {s : Shared} {m : Nat} {H : Hp} (I : Inv Y pins (L2.wipe σ0 vs) H s) (st : tn 0 s.heap) (hn : ∀ b ∈ fp, H b = none) (w0 : W 0 m H) :
    codeAny (model Y.prog Y.w) Y.A (.compLoop e d (.ref it) acc Y.env) R s := by
  have cut : ∀ {α : Type} {t : Sem α} {Q Q' : α → Shared → Prop} {s : Shared}, wpAny (model Y.prog Y.w) Y.A t Q Y.xe s → (∀ a s, Q a s → Q' a s) → wpAny (model Y.prog Y.w) Y.A t Q' (fun _ _ => False) s := fun h k => wpAny_mono h k fun u s z => hxe u s z
  refine clause_turns eq hA hd (fun n s' => ∃ i H', Inv Y pins (L2.wipe σ0 vs) H' s' ∧ tn i s'.heap ∧ (∀ b ∈ fp, H' b = none) ∧ W i n H') ?_ m ⟨0, H, I, st, hn, w0⟩
  rintro n s1 ⟨i, H1, I1, st1, n1, w1⟩
  rcases turn i n H1 w1 with ⟨stop, qd⟩ | ⟨go, Nx, hNx, step⟩
  · refine wpAny_mono (T.done Y rfl rfl rfl hc i pins s1 _ H1 (fun _ _ => False) I1 (stat H1 n1) st1 stop) (fun r s2 ⟨hr, I2⟩ => ?_) fun _ _ z => z
    subst hr
    exact hdone s2 H1 I2 qd
  · refine wpAny_mono (T.item Y rfl rfl rfl hc i pins s1 _ H1 (fun _ _ => False) I1 (stat H1 n1) st1 go) (fun r s2 ⟨u, hr, h2⟩ => ?_) fun _ _ z => z
    subst hr
    refine wpAny_mono h2 (fun _ s3 ⟨x, H3, I3, r3, y3, st3, n3⟩ => ?_) fun _ _ z => z
    have I3p := I3.pinned (stat H3 n3) (T.obj _ _ st3)
    refine cut (pg.run _ s3 _ H3 x u _ I3p r3 (step x H3 y3)) fun _ s4 ⟨σ4, H4, I4, hw4, q4⟩ => ?_
    refine cut (pt.run _ s4 σ4 H4 _ I4 q4) fun b s5 ⟨H5, I5, q5⟩ => ?_
    have fin : ∀ {s' : Shared} {H' : Hp}, Inv Y (pins ++ pinsAt fp s3.heap) (L2.wipe σ0 vs) H' s' → Nx H' → ∃ m, m < n ∧ ∃ i H', Inv Y pins (L2.wipe σ0 vs) H' s' ∧ tn i s'.heap ∧ (∀ b ∈ fp, H' b = none) ∧ W i m H' := fun {s' H'} I' nx => by
      obtain ⟨m', hm, w'⟩ := hNx H' nx
      have at_ : ∀ b ∈ fp, ∀ o, s3.heap.get? b = some o → s'.heap.get? b = some o ∧ H' b = none := fun b hb o e => by
        have z := I'.pin (b, o) (List.mem_append_right _ (List.mem_append_right _ (mem_pinsAt hb e)))
        exact ⟨z.1, z.2.1⟩
      refine ⟨m', hm, i + 1, H', I'.unpinned, T.keep _ _ _ st3 fun b hb o e => (at_ b hb o e).1, fun b hb => ?_, w'⟩
      obtain ⟨o, e, _⟩ := T.obj _ _ st3 b hb
      exact (at_ b hb o e).2
    cases b with
    | false =>
      simp only [Bool.false_eq_true, if_false] at q5 ⊢
      refine fin (I5.weak (by rw [← hw4, wipe_length]) fun j v e => ?_) q5
      rw [← hw4] at e
      exact (wipe_some e).1
    | true =>
      simp only [if_true] at q5 ⊢
      refine wpAny_mono (pb _ s5 σ4 H5 Nx I5 hw4 q5) (fun f s6 ⟨hf, H6, I6, nx⟩ => ⟨hf, fin I6 nx⟩) fun _ _ z => z
end Bf
/-! The mirror layer: dict comprehensions with tuples as keys. -/
namespace Bf
open PySem PySem.Spec PyProof.Rows L2
/-- d[k] = v by a comprehension, k a tuple of ints and texts -/
theorem d_dictSetT {X : Cx} {pins : List (Addr × Obj)} {σ : L2.St} {H : Hp} {s : Shared} {E : Value → Shared → Prop} {D b : Addr} {kvs : List (List Key × V)} {k : List Key} {v : V} {u r : Value} {Q : Unit → Shared → Prop} (hu : X.A.units < cLine) (I : Inv X pins σ H s) (hD : H D = some (.dT kvs)) (hz : kvs.length < sizeLine)
    (ry : RelV (.ref b) u) (eb : H b = some (.tup (k.map kV))) (rv : RelV v r) (h : ∀ s', Inv X pins σ (upd H D (.dT (putK kvs k v))) s' → Q () s') : wpAny (model X.prog X.w) X.A (dictSet D u r) Q E s := by
  cases (show u = Value.ref b from ry)
  obtain ⟨z, hd, xs, rel, dd⟩ := dt_of I.hok hD
  have hzv : xs.length ≤ sizeLine := by rw [← Paired.length rel]; exact z
  have hl : (putK kvs k v).length ≤ sizeLine := by have := length_putK kvs k v; omega
  refine wpAny_dictSet_heap (hsz := hzv) (knd := tupleKind (mixKind X.prog X.w)) hu (key_of I.hok eb) dd fun h' dd' hs => h _ ?_
  obtain ⟨q, es, ep, hq, h2, h3, h4, _, h5⟩ := dd'
  refine d_write I (by rw [hD]; exact True.intro) hs ⟨q, hq⟩ ⟨hl, hd, _, (rel.put k eb rv).keeps fun c ys ec => ?_, q, es, ep, hq, h2, h3, h4, h5⟩
  rw [upd_ne (ne_of ec hD (fun z => nomatch z))]
  exact ec
/-- a dict comprehension, read: tb: what a turn does behind the tests of the first clause -/
def tDcT (wi : TI) (g : TG) (tt : TT) (tb : Addr → L2.St → Hp → (Hp → Prop) → Prop) (vs : List Nat) : TE := fun σ H Q => wi σ H fun J H1 => ∀ D, H1 D = none → ∃ W : Nat → Nat → Hp → Prop, (∃ m, W 0 m (upd H1 D (.dT []))) ∧ ∀ i m H, W i m H →
  (J.stop i H ∧ Q (.ref D) H) ∨ (J.go i H ∧ ∃ Nx : Hp → Prop, (∀ H', Nx H' → ∃ m', m' < m ∧ W (i + 1) m' H') ∧ ∀ x H', J.yld i H x H' → g x (L2.wipe σ vs) H' fun σ2 H2 => L2.wipe σ2 vs = L2.wipe σ vs ∧ tt σ2 H2 fun b H3 =>
    if b = true then tb D σ2 H3 Nx else Nx H3)
section
variable {X : Cx}
theorem dT_core {pins : List (Addr × Obj)} {s : Shared} {σ : L2.St} {H : Hp} {Q : VK} {kx vx tg iter : Expr} {ifs : List Expr} {rest : List Comprehension} {scope : Scope} {own : List (Str × Nat)} {pos pos' : Pos} {wi : TI} {g : TG} {tt : TT} {tb : Addr → L2.St → Hp → (Hp → Prop) → Prop} {body : PySem.Env → Value → Addr → Sem PySem.Fin} {use : Option (Value → Sem Unit)} {Qf : Value → Shared → Prop}
    (eq : ∀ env it D, compTurn (.DictComp kx vx (⟨tg, iter, ifs, 0⟩ :: rest) scope pos) 0 it (.ref D) env = (do
      standAt iter.pos
      match ← pyNext it with
      | none => pure (.done .next)
      | some v =>
        letOwnedTupleGo tg it v
        assign tg env v
        let mut ok := true
        for c in ifs do
          if ok then ok ← isTrue c env (eval c env)
        if ok then body env it D else again (.compLoop (.DictComp kx vx (⟨tg, iter, ifs, 0⟩ :: rest) scope pos) 0 it (.ref D) env)))
    (hc : X.calm = true) (hN : X.N.Nodup) (I : Inv X pins σ H s) (hi : PI X tg iter wi) (ok : BlkOk X.N X.env.scope scope own)
    (hg : ∀ s H C cl fp, PG (Bk X scope s H C cl fp) tg g) (ht : ∀ s H C cl fp, PTs (Bk X scope s H C cl fp) ifs tt)
    (hb : ∀ s H C cl fp it D (pins' : List (Addr × Obj)) (s' : Shared) (σ' : L2.St) (H' : Hp) (N : Hp → Prop), Inv (Bk X scope s H C cl fp) pins' σ' H' s' → L2.wipe σ' (own.map (·.2)) = L2.wipe σ (own.map (·.2)) → tb D σ' H' N →
      wpAny (model X.prog X.w) X.A (body (compEnvC scope cl C X.env) it D) (fun fin s'' => fin = .again (.compLoop (.DictComp kx vx (⟨tg, iter, ifs, 0⟩ :: rest) scope pos) 0 it (.ref D) (compEnvC scope cl C X.env)) ∧ ∃ H'', Inv (Bk X scope s H C cl fp) pins' (L2.wipe σ (own.map (·.2))) H'' s'' ∧ N H'') (fun _ _ => False) s')
    (hs : ∀ x, foldedSetIterable iter X.env x = pure x)
    (h : tDcT wi g tt tb (own.map (·.2)) σ H Q)
    (hRR : ∀ D C s' m H', Inv X pins σ H' s' → Q (.ref D) H' → s'.heap.Ns C m → FpOk X pins H' C → compPost (model X.prog X.w) X.A X.xe use Qf (.ref D) C (.ok .next) s') :
    wpAny (model X.prog X.w) X.A (comprehension (.DictComp kx vx (⟨tg, iter, ifs, 0⟩ :: rest) scope pos) scope X.env pos' newDict false (eval iter X.env) use) Qf X.xe s := by
  have hfree : ∀ y ∈ scope.names, y.2 = .free → ∃ c, X.env.cells.lookup y.1 = some c := fun y hy e => by
    rcases ok.free y hy e with k | k
    · exact I.ok.has _ (.inl k)
    · exact I.ok.has _ (.inr k)
  refine wpAny_comprehension_free (use := use) rfl hs (closure_ok hfree) ok.kind (fun y hy e => by rw [ok.uniq y hy, e])
    (thn (hi.run pins s σ H _ I h) fun xv s1 hx => thn hx fun itv s2 h2 => ?_)
  obtain ⟨it, fp, tn, J, H2, e, I2, T, st2, f2, q⟩ := h2
  subst e
  refine wpAny_newObj_type (newEnv_comp ?_)
  generalize hD : s2.heap.objs.size = D
  have hDn : H2 D = none := I2.hok.fresh (Nat.le_of_eq hD)
  obtain ⟨W, ⟨m0, w0⟩, turn⟩ := q D hDn
  generalize hs3 : ({ s2 with heap := s2.heap.push { cls := .type "dict", data := .dict #[] } } : Shared) = s3
  have I3 : Inv X pins σ (upd H2 D (.dT [])) s3 := by
    rw [← hs3]
    refine I2.laid (t' := s2.toks) (fun b o e => Heap.get?_push_of_some _ e) (Nat.le_of_eq hD) ?_
    rw [← hD]
    exact dt_empty s2.heap I2.big
  have h3 : s3.heap = s2.heap.push { cls := .type "dict", data := .dict #[] } := by rw [← hs3]
  have sz : ∀ b ∈ fp, b < s2.heap.objs.size := fun b hb => by
    obtain ⟨o, e, _⟩ := T.obj _ _ st2 b hb
    exact Heap.lt_size e
  have f3 : ∀ b ∈ fp, FpOk X pins (upd H2 D (.dT [])) b ∧ b < s3.heap.objs.size := fun b hb => by
    have hlt := sz b hb
    refine ⟨⟨?_, (f2 b hb).2⟩, by rw [h3, Heap.size_push]; exact Nat.lt_succ_of_lt hlt⟩
    rw [upd_ne (by rw [← hD]; exact Nat.ne_of_lt hlt)]
    exact (f2 b hb).1
  have st3 : tn 0 s3.heap := T.keep _ _ _ st2 fun b _ o e => by rw [h3]; exact Heap.get?_push_of_some _ e
  have I4 := block_start I3 ok hN f3
  have pg := hg s3 (upd H2 D (.dT [])) s3.heap.objs.size (cellsFrom (s3.heap.objs.size + 1) scope.names (cloFrom X.env.cells scope.names [])) fp
  have pt := ht s3 (upd H2 D (.dT [])) s3.heap.objs.size (cellsFrom (s3.heap.objs.size + 1) scope.names (cloFrom X.env.cells scope.names [])) fp
  have pb := hb s3 (upd H2 D (.dT [])) s3.heap.objs.size (cellsFrom (s3.heap.objs.size + 1) scope.names (cloFrom X.env.cells scope.names [])) fp (.ref it) D
  show codeAny _ _ (.compStart (.DictComp kx vx (⟨tg, iter, ifs, 0⟩ :: rest) scope pos) 0 (.ref it) (.ref D) (compEnvC scope (cellsFrom (s3.heap.objs.size + 1) scope.names (cloFrom X.env.cells scope.names [])) s3.heap.objs.size X.env)) (compPost (model X.prog X.w) X.A X.xe use Qf (.ref D) s3.heap.objs.size) { s3 with heap := pushCells (s3.heap.push { cls := .type "dict", data := .dict #[] }) scope.names }
  have nfp : ∀ b ∈ fp, (upd H2 D (.dT [])) b = none := fun b hb => (f3 b hb).1.1
  unfold Bk at pg pt pb
  generalize hce : compEnvC scope (cellsFrom (s3.heap.objs.size + 1) scope.names (cloFrom X.env.cells scope.names [])) s3.heap.objs.size X.env = ce at I4 pg pt pb ⊢
  have cL : ce.locals = s3.heap.objs.size := by subst hce; rfl
  generalize hH3 : upd H2 D (.dT []) = H3 at I3 I4 pg pt pb w0 nfp f3
  generalize hs4 : ({ s3 with heap := pushCells (s3.heap.push { cls := .type "dict", data := .dict #[] }) scope.names } : Shared) = s4 at I4 ⊢
  have st4 : tn 0 s4.heap := T.keep _ _ _ st3 fun b _ o e => by rw [← hs4]; exact pushCells_keeps _ _ _ _ (Heap.get?_push_of_some _ e)
  have loop : codeAny (model X.prog X.w) X.A (.compLoop (.DictComp kx vx (⟨tg, iter, ifs, 0⟩ :: rest) scope pos) 0 (.ref it) (.ref D) ce) (compPost (model X.prog X.w) X.A X.xe use Qf (.ref D) s3.heap.objs.size) s4 := by
    refine clause_walk (Y := X.blk s3 H3 scope ce fp) (body := body ce (.ref it) D) (σ0 := σ) (vs := own.map (·.2)) (tb := tb D) (pins := []) (W := W) (Qd := fun H => Q (.ref D) H) (m := m0) (H := H3) (eq ce (.ref it) D) rfl rfl hc (fun _ _ z => z) T pg pt
      (fun pins' s' σ' H' N I' hw ht => pb pins' s' σ' H' N I' hw ht)
      (fun H' hn b hb => ⟨hn b hb, (I4.ok.exf b hb).1, I4.ok.exfs b hb, .inl hb, fun x c e => (I4.ok.exf b hb).2 x c e, fun p hp => absurd (show p ∈ ([] : List (Addr × Obj)) ++ [] from hp) (by simp)⟩)
      turn (fun s6 H5 I6 qq => ?_) I4 st4 nfp w0
    have I7 : Inv X pins σ H5 s6 := I3.call' (ch := fp) I6.os I6.base I6.hok I6.bare fun b hb => ⟨(f3 b hb).1.2.2.2.1, (f3 b hb).1.2.1, (f3 b hb).1.2.2.2.2.1, (f3 b hb).1.2.2.2.2.2⟩
    have nC : H5 s3.heap.objs.size = none := by
      have z : H5 ce.locals = none := I6.free
      rw [cL] at z
      exact z
    obtain ⟨m, hn, _⟩ := I6.loc
    have hn : s6.heap.Ns ce.locals m := hn
    rw [cL] at hn
    exact hRR D s3.heap.objs.size s6 m H5 I7 qq hn (I3.fpOk (Nat.le_refl _) nC)
  exact codeAny_compStart_dict loop (T.self X.A 0 _ _ _ st4 loop)
end
end Bf
/-! The mirror layer: dict comprehensions with tuples as keys, one clause and two. -/
namespace Bf
open PySem PySem.Spec PyProof.Rows L2
/-- the pair is put -/
def tPut (tk tv : TE) (D : Addr) (σ : L2.St) (H : Hp) (N : Hp → Prop) : Prop := tk σ H fun y H4 => tv σ H4 fun z H5 => ∃ kvs k b, y = .ref b ∧ H5 b = some (.tup (k.map kV)) ∧ H5 D = some (.dT kvs) ∧ kvs.length < sizeLine ∧ N (upd H5 D (.dT (putK kvs k z)))
section
variable {Y : Cx} {pins' : List (Addr × Obj)} {s' : Shared} {σ' : L2.St} {H' : Hp} {N : Hp → Prop}
theorem put_run {kx vx : Expr} {tk tv : TE} {D : Addr} {p : Pos} {c : Code} (hu : Y.A.units < cLine) (hxe : ∀ u s, ¬ Y.xe u s) (pk : PE Y kx tk) (pv : PE Y vx tv) (I : Inv Y pins' σ' H' s') (ht : tPut tk tv D σ' H' N) {Z : Shared → Prop} (hz : ∀ s H, Inv Y pins' σ' H s → N H → Z s) :
    wpAny (model Y.prog Y.w) Y.A (do
          (do
            let kv ← eval kx Y.env
            let vv ← holding [kv] (eval vx Y.env)
            standAt p
            holding [kv, vv] (dictSet D kv vv))
          again c) (fun fin s'' => fin = .again c ∧ Z s'') (fun _ _ => False) s' := by
  have cut : ∀ {α : Type} {t : Sem α} {Q Q' : α → Shared → Prop} {s : Shared}, wpAny (model Y.prog Y.w) Y.A t Q Y.xe s → (∀ a s, Q a s → Q' a s) → wpAny (model Y.prog Y.w) Y.A t Q' (fun _ _ => False) s := fun h k => wpAny_mono h k fun u s z => hxe u s z
  refine wpAny_bind (wpAny_bind (cut (pk.run _ _ _ _ _ I ht) fun u s1 ⟨y, H1, I1, r1, q1⟩ => wpAny_bind (wpAny_holding (cut (pv.run _ _ _ _ _ I1 q1) fun u2 s2 ⟨z, H2, I2, r2, kvs, k, b, ey, eb, eD, hl, nx⟩ => wpAny_bind (wpAny_standAt (wpAny_holding ?_))))))
  subst ey
  exact d_dictSetT hu I2 eD hl r1 eb r2 fun s3 I3 => wpAny_pure ⟨rfl, hz _ _ I3 nx⟩
end
section
variable {X : Cx}
theorem pe_dcT1 {kx vx tg iter : Expr} {ifs : List Expr} {scope : Scope} {own : List (Str × Nat)} {pos : Pos} {wi : TI} {g : TG} {tt : TT} {tk tv : TE} (hu : X.A.units < cLine) (hc : X.calm = true) (hN : X.N.Nodup) (hi : PI X tg iter wi) (ok : BlkOk X.N X.env.scope scope own)
    (hg : ∀ s H C cl fp, PG (Bk X scope s H C cl fp) tg g) (ht : ∀ s H C cl fp, PTs (Bk X scope s H C cl fp) ifs tt)
    (hk : ∀ s H C cl fp, PE (Bk X scope s H C cl fp) kx tk) (he : ∀ s H C cl fp, PE (Bk X scope s H C cl fp) vx tv) (hs : ∀ x, foldedSetIterable iter X.env x = pure x := by intro _; rfl) :
    PE X (.DictComp kx vx [⟨tg, iter, ifs, 0⟩] scope pos) (tDcT wi g tt (tPut tk tv) (own.map (·.2))) := by
  refine ⟨fun pins s σ H Q I h => ?_⟩
  rw [arm_eval_DictComp]
  refine dT_core (fun env it D => dc1_in) hc hN I hi ok hg ht (fun s H C cl fp it D pins' s' σ' H' N I' hw ht => ?_) hs h fun D C s' m H' I' q hn f => ⟨m, hn, fun h'' sb => ?_⟩
  · exact put_run (Y := Bk X scope s H C cl fp) hu (fun _ _ z => z) (hk s H C cl fp) (he s H C cl fp) I' ht fun s4 H4 I4 n4 => ⟨H4, I4.weak (by rw [← hw, wipe_length]) (fun j v e => by rw [← hw] at e; exact (wipe_some e).1), n4⟩
  · obtain ⟨f0, f1, f2, f3, f4, f5⟩ := f
    exact ⟨.ref D, H', I'.turned (t' := s'.toks) (fun b o hb e => (sb.2 b hb).trans e) f0 f1 f3 f4 f5, rfl, q⟩
end
end Bf
/-! The mirror layer: what dict comprehensions with tuples as keys compute. -/
namespace Bf
open PySem PySem.Spec PyProof.Rows L2
/-- a tuple's items as a key -/
def keysD : List D → Option (List Key)
  | [] => some []
  | .int i :: r => (keysD r).map (Sum.inl i :: ·)
  | .str x :: r => (keysD r).map (Sum.inr x :: ·)
  | _ => none
def keyS : SV → Option (List Key)
  | .d (.tup xs) => keysD xs
  | _ => none
def putD (kvs : List (List D × D)) (k : List Key) (d : D) : List (List D × D) :=
  if (kvs.any fun p => decide (keysD p.1 = some k)) = true then kvs.map (fun p => if keysD p.1 = some k then (p.1, d) else p) else kvs ++ [(k.map keyD, d)]
theorem keysD_map : ∀ k : List Key, keysD (k.map keyD) = some k
  | [] => rfl
  | .inl i :: r => by rw [List.map_cons, keyD, keysD, keysD_map r]; rfl
  | .inr x :: r => by rw [List.map_cons, keyD, keysD, keysD_map r]; rfl
def dcGo (it : It') (n : Nat) (own : List Nat) (g : MG) (t : MT) (ek ev : ME) : Nat → Nat → PS → R Unit
  | 0, i, s => match it.at s i with
    | some none => .ok () s
    | _ => .stuck
  | f + 1, i, s => match it.at s i with
    | some (some x) => (g (.d x) s).nox.bind fun _ s => (t s).nox.bind fun c s => if c = true then
        (ek s).nox.bind fun y s => (ev s).nox.bind fun z s => match keyS y with
          | some ky => match frz s z with
            | some (z, s) => match s.w[n]? with
              | some (.dit acc) => if acc.length < sizeLine then match trunc (n + 1) { s with w := s.w.set n (.dit (putD acc ky z)) } with
                  | some s => dcGo it n own g t ek ev f (i + 1) { s with g := wipeG own s.g }
                  | none => .stuck
                else .stuck
              | _ => .stuck
            | none => .stuck
          | none => .stuck
      else match trunc (n + 1) s with
        | some s => dcGo it n own g t ek ev f (i + 1) { s with g := wipeG own s.g }
        | none => .stuck
    | some none => .ok () s
    | none => .stuck
/-- {k: v for .. if ..}, a cell -/
def vDcN (it : MI) (own : List Nat) (g : MG) (t : MT) (ek ev : ME) : ME := fun s => (it s).bind fun it s =>
  (dcGo it s.w.length own g t ek ev (it.fuel s) 0 { g := wipeG own s.g, w := s.w ++ [.dit []] }).bind fun _ s' => .ok (.cell s.w.length) { s' with g := backG own s.g s'.g }
section
variable {K : PySem.W.Frag} {CT : Ctx} {F : Hp} {as : List Addr} {H : Hp} {σ : Sto} {s : PS}
/-- a new cell at p -/
theorem Env.newT (n : Env K CT F as H σ s) {p : Addr} {vs : List (List Key × V)} {xs : List (List D × D)} (hp : H p = none) (r : RepT K CT F vs xs) :
    Ext F as F (as ++ [p]) ∧ Env K CT F (as ++ [p]) (upd H p (.dT vs)) σ { s with w := s.w ++ [.dit xs] } := by
  obtain ⟨fp, pa⟩ := n.free hp
  have e : Ext F as F (as ++ [p]) := ⟨Sub.refl F, [p], rfl⟩
  refine ⟨e, ⟨fun a u h => ?_, ⟨by simp [n.wk.len], List.nodup_append.mpr ⟨n.wk.nd, by simp, fun a m b mb => ?_⟩, n.wk.tb.newC hp noTab_dT.1, fun a m => ?_, fun k c a h1 h2 => ?_⟩, n.gl, fun i x h => ?_⟩⟩
  · have ha : a ≠ p := fun z => by rw [z, fp] at h; cases h
    rw [upd_ne ha]
    exact n.sub a u h
  · rw [List.mem_singleton] at mb
    subst mb
    exact fun z => pa (z ▸ m)
  · by_cases ha : a = p
    · rw [ha, upd_same]; simp
    · rw [upd_ne ha]
      rcases List.mem_append.mp m with m | m
      · exact n.live m
      · exact absurd (List.mem_singleton.mp m) ha
  · have h1 : (s.w ++ [Cell.dit xs])[k]? = some c := h1
    by_cases hk : k < as.length
    · rw [List.getElem?_append_left hk] at h2
      rw [List.getElem?_append_left (by rw [n.wk.len]; exact hk)] at h1
      have ha : a ≠ p := fun z => pa (z ▸ List.mem_of_getElem? h2)
      have q := n.wk.ok k c a h1 h2
      rcases q.none with z | z
      · subst z; trivial
      · exact q.mono e z (upd_ne ha)
    · rw [List.getElem?_append_right (by omega)] at h2
      rw [List.getElem?_append_right (by rw [n.wk.len]; omega)] at h1
      rw [n.wk.len] at h1
      cases j : k - as.length with
      | zero =>
        rw [j] at h1 h2
        simp at h1 h2
        subst h1 h2
        exact ⟨fp, vs, upd_same, r⟩
      | succ m => rw [j] at h2; simp at h2
  · obtain ⟨v, h1, h2⟩ := n.sl i x h
    exact ⟨v, h1, h2.mono e⟩
/-- the cell k is changed -/
theorem Env.setT (n : Env K CT F as H σ s) {k : Nat} {a : Addr} {xs : List (List D × D)} {ws : List (List Key × V)} {ys : List (List D × D)} (h : s.w[k]? = some (.dit xs)) (ha : as[k]? = some a) (hf : F a = none) (r : RepT K CT F ws ys) :
    Env K CT F as (upd H a (.dT ws)) σ { s with w := s.w.set k (.dit ys) } := by
  obtain ⟨a', vs', ha', _, hh', _⟩ := n.cellT h
  rw [ha] at ha'
  cases ha'
  refine ⟨fun b u hb => ?_, ⟨by simp [n.wk.len], n.wk.nd, n.wk.tb.set hh' noTab_dT noTab_dT.1, fun b m => ?_, fun j c b h1 h2 => ?_⟩, n.gl, n.sl⟩
  · have hab : b ≠ a := fun z => by rw [z, hf] at hb; cases hb
    rw [upd_ne hab]
    exact n.sub b u hb
  · by_cases hb : b = a
    · rw [hb, upd_same]; simp
    · rw [upd_ne hb]
      exact n.live m
  · have h1 : (s.w.set k (Cell.dit ys))[j]? = some c := h1
    by_cases hj : j = k
    · subst hj
      rw [List.getElem?_set_self (by rw [n.wk.len]; exact (List.getElem?_eq_some_iff.mp h2).1)] at h1
      cases h1
      rw [ha] at h2
      cases h2
      exact ⟨hf, ws, upd_same, r⟩
    · rw [List.getElem?_set_ne (Ne.symm hj)] at h1
      have hb : b ≠ a := fun z => hj (nodup_at n.wk.nd (z ▸ h2) ha)
      have q := n.wk.ok j c b h1 h2
      rcases q.none with z | z
      · subst z; trivial
      · exact q.mono .refl z (upd_ne hb)
theorem reps_keys : ∀ {xs : List D} {vs : List V} {k : List Key}, Reps K CT F vs xs → keysD xs = some k → vs = k.map kV
  | [], _, k, r, e => by
    cases r
    cases e
    rfl
  | x :: xs, _, k, r, e => by
    cases r with
    | cons r1 r2 =>
      cases x with
      | int i =>
        cases r1
        unfold keysD at e
        cases q : keysD xs with
        | none => rw [q] at e; cases e
        | some k' =>
          rw [q] at e
          cases e
          rw [reps_keys r2 q]
          rfl
      | str y =>
        cases r1
        unfold keysD at e
        cases q : keysD xs with
        | none => rw [q] at e; cases e
        | some k' =>
          rw [q] at e
          cases e
          rw [reps_keys r2 q]
          rfl
      | _ => unfold keysD at e; cases e
theorem keyS_rep {v : V} {y : SV} {k : List Key} (e : keyS y = some k) (r : RepS K CT F as v y) : ∃ b, v = .ref b ∧ F b = some (.tup (k.map kV)) := by
  cases y with
  | cell n => cases e
  | d x =>
    cases x with
    | tup xs =>
      have r : Rep K CT F v (.tup xs) := r
      cases r with
      | tup h1 h2 => exact ⟨_, rfl, by rw [← reps_keys h2 e]; exact h1⟩
    | _ => cases e
theorem RepT.length : ∀ {vs : List (List Key × V)} {ds : List (List D × D)}, RepT K CT F vs ds → vs.length = ds.length
  | _, [], r => by cases r; rfl
  | _, _ :: ds, r => by
    cases r with
    | cons r1 r2 => rw [List.length_cons, List.length_cons, RepT.length r2]
theorem RepT.snoc {k : List Key} {v : V} {d : D} (h : Rep K CT F v d) : ∀ {vs : List (List Key × V)} {ds : List (List D × D)}, RepT K CT F vs ds → RepT K CT F (vs ++ [(k, v)]) (ds ++ [(k.map keyD, d)])
  | _, [], r => by cases r; exact .cons h .nil
  | _, _ :: ds, r => by
    cases r with
    | cons r1 r2 => exact .cons r1 (RepT.snoc h r2)
theorem RepT.any {k : List Key} : ∀ {vs : List (List Key × V)} {ds : List (List D × D)}, RepT K CT F vs ds → (vs.any fun p => decide (p.1 = k)) = ds.any fun p => decide (keysD p.1 = some k)
  | _, [], r => by cases r; rfl
  | _, _ :: ds, r => by
    cases r with
    | cons r1 r2 =>
      rw [List.any_cons, List.any_cons, RepT.any r2]
      simp only [keysD_map, Option.some.injEq]
theorem RepT.repl {k : List Key} {v : V} {d : D} (h : Rep K CT F v d) : ∀ {vs : List (List Key × V)} {ds : List (List D × D)}, RepT K CT F vs ds → RepT K CT F (vs.map fun p => if p.1 = k then (p.1, v) else p) (ds.map fun p => if keysD p.1 = some k then (p.1, d) else p)
  | _, [], r => by cases r; exact .nil
  | _, _ :: ds, r => by
    cases r with
    | @cons k' v' d' vs' _ r1 r2 =>
      rw [List.map_cons, List.map_cons]
      simp only [keysD_map, Option.some.injEq]
      by_cases e : k' = k
      · rw [if_pos e, if_pos e]; exact .cons h (RepT.repl h r2)
      · rw [if_neg e, if_neg e]; exact .cons r1 (RepT.repl h r2)
theorem RepT.put {k : List Key} {v : V} {d : D} {vs : List (List Key × V)} {ds : List (List D × D)} (r : RepT K CT F vs ds) (h : Rep K CT F v d) : RepT K CT F (putK vs k v) (putD ds k d) := by
  unfold putK putD
  rw [r.any]
  split
  · exact r.repl h
  · exact r.snoc h
end
section
variable {X : Cx} {CT : Ctx} {E : Sto → XK}
/-- a comprehension's loop, whatever follows it -/
theorem dcGo_walk {β : Type} {own : List Nat} {it : It'} {J : It} {g : MG} {t : MT} {ek ev : ME} {k : Nat} {D : Addr} {as1 : List Addr} {F1 F0 : Hp} {σ : Sto} {κ : PS → R β} {Qf : β → PS → Hp → List Addr → Sto → Hp → Prop} {okσ : Sto → Prop} {P : Nat → Nat → Hp → Prop}
    (hP : P = fun i m H => ∃ F s, Sub F0 F ∧ Env X.K CT F (as1 ++ [D]) H (L2.wipe σ own) s ∧ Out X.K CT okσ E F1 as1 ((dcGo it k own g t ek ev m i s).bind fun _ s' => κ s') Qf)
    (hk' : as1.length = k) (hF : Sub F1 F0) (r1 : ItOk X.K CT F0 (as1 ++ [D]) J it) (stopQ : Hp → Prop)
    (hstop : ∀ F s H, Sub F0 F → Env X.K CT F (as1 ++ [D]) H (L2.wipe σ own) s → Out X.K CT okσ E F1 as1 (κ s) Qf → stopQ H) :
    ∀ i m H, P i m H → (J.stop i H ∧ stopQ H) ∨ (J.go i H ∧ ∃ Nx : Hp → Prop, (∀ H', Nx H' → ∃ m', m' < m ∧ P (i + 1) m' H') ∧ ∀ x H', J.yld i H x H' → upG X.K CT (fun σ => L2.wipe σ own) EF g x (L2.wipe σ own) H' fun σ2 H2 => L2.wipe σ2 own = L2.wipe σ own ∧ upT X.K CT EF t σ2 H2 fun b H3 =>
      if b = true then tPut (up X.K CT EF ek) (up X.K CT EF ev) D σ2 H3 Nx else Nx H3) := by
  subst hP
  rintro i m H ⟨F, s, eF, n, h⟩
  have eD : Ext F1 as1 F (as1 ++ [D]) := ⟨hF.trans eF, [D], rfl⟩
  have r := r1.mono (Ext.sub eF)
  let P : Nat → Nat → Hp → Prop := fun i m H => ∃ F s, Sub F0 F ∧ Env X.K CT F (as1 ++ [D]) H (L2.wipe σ own) s ∧ Out X.K CT okσ E F1 as1 ((dcGo it k own g t ek ev m i s).bind fun _ s' => κ s') Qf
  have stop : it.at s i = some none → dcGo it k own g t ek ev m i s = .ok () s → (J.stop i H ∧ stopQ H) := fun q hq => by
    rw [hq] at h
    exact ⟨It'.stop n r q, hstop F s H eF n h⟩
  cases q : it.at s i with
  | none => cases m <;> (unfold dcGo at h; simp only [q] at h; exact h.elim)
  | some o =>
    cases o with
    | none =>
      refine .inl ?_
      cases m with
      | zero => exact stop q (by unfold dcGo; simp only [q])
      | succ m => exact stop q (by unfold dcGo; simp only [q])
    | some x =>
      cases m with
      | zero => unfold dcGo at h; simp only [q] at h; exact h.elim
      | succ m =>
        unfold dcGo at h
        simp only [q] at h
        refine .inr ⟨It'.go n r q, P (i + 1) m, fun H' z => ⟨m, Nat.lt_succ_self m, z⟩, fun v H' y => ?_⟩
        obtain ⟨F, e0, n, rv⟩ := It'.yld n r q y
        replace r := r.mono e0
        replace eF := eF.trans e0.1
        replace eD := eD.trans e0
        -- the turn's outcome is known part by part
        have ns1 := h.ns
        cases qg : g (.d x) s with
        | err => rw [qg] at h; exact h.elim
        | stuck => rw [qg] at h; exact h.elim
        | ok u s2 =>
          rw [qg, nox_ok, bind_ok] at h
          refine ⟨F, _, s, .d x, n, rv, ?_⟩
          rw [qg]
          intro F2 as2 σ2 H2 o2 e2 n2 hφ
          have w2 : L2.wipe σ2 own = L2.wipe σ own := by
            have o2 : L2.wipe σ2 own = L2.wipe (L2.wipe σ own) own := o2
            have id : ∀ (vs : List Nat), (∀ v ∈ vs, v ∈ own) → L2.wipe (L2.wipe σ own) vs = L2.wipe σ own := by
              intro vs
              induction vs with
              | nil => intro _; rfl
              | cons v vs ih =>
                intro hv
                show (L2.wipe (L2.wipe σ own) vs).set v none = _
                rw [ih fun w hw => hv w (List.mem_cons_of_mem _ hw)]
                refine List.ext_getElem? fun j => ?_
                by_cases hj : v = j
                · subst hj
                  by_cases hl : v < (L2.wipe σ own).length
                  · rw [List.getElem?_set_self hl]
                    cases z : (L2.wipe σ own)[v]? with
                    | none => rw [List.getElem?_eq_getElem hl] at z; cases z
                    | some o =>
                      cases o with
                      | none => rfl
                      | some a => exact absurd (hv v List.mem_cons_self) (wipe_some z).2
                  · rw [List.getElem?_eq_none (by simpa using hl), List.getElem?_eq_none (by simpa using hl)]
                · rw [List.getElem?_set_ne hj]
            rw [o2]
            exact id own fun _ z => z
          refine ⟨w2, ?_⟩
          cases qt : t s2 with
          | err => rw [qt] at h; exact h.elim
          | stuck => rw [qt] at h; exact h.elim
          | ok c s3 =>
            rw [qt, nox_ok, bind_ok] at h
            refine ⟨F2, as2, s2, n2, ?_⟩
            rw [qt]
            intro F3 as3 σ3 H3 o3 e3 n3
            subst o3
            have e23 : Ext F (as1 ++ [D]) F3 as3 := e2.trans e3
            have hl1 : (as1 ++ [D]).length = k + 1 := by rw [List.length_append, hk']; rfl
            cases c with
            | false =>
              simp only [Bool.false_eq_true, if_false] at h ⊢
              cases qr : trunc (k + 1) s3 with
              | none => rw [qr] at h; exact h.elim
              | some s4 =>
                simp only [qr] at h
                have n4 := n3.trunc qr
                rw [take_ext e23 hl1] at n4
                exact ⟨F3, _, eF.trans e23.1, n4.wiped w2, h⟩
            | true =>
              simp only [if_true] at h ⊢
              cases qk : ek s3 with
              | err => rw [qk] at h; exact h.elim
              | stuck => rw [qk] at h; exact h.elim
              | ok y s4 =>
              rw [qk, nox_ok, bind_ok] at h
              refine ⟨F3, as3, s3, n3, ?_⟩
              rw [qk]
              intro F4 as4 σ4 H4 o4 e4 n4 wk rk
              subst o4
              cases qe : ev s4 with
              | err => rw [qe] at h; exact h.elim
              | stuck => rw [qe] at h; exact h.elim
              | ok z s4' =>
              rw [qe, nox_ok, bind_ok] at h
              refine ⟨F4, as4, s4, n4, ?_⟩
              rw [qe]
              intro F4' as4' σ4' H4' o4' e4' n4' w rw'
              subst o4'
              cases qy : keyS y with
              | none => simp only [qy] at h; exact h.elim
              | some ky =>
              simp only [qy] at h
              cases qz : frz s4' z with
              | none => simp only [qz] at h; exact h.elim
              | some pp =>
              obtain ⟨yd, s5⟩ := pp
              simp only [qz] at h
              obtain ⟨F5, e5, q5, n5⟩ := n4'.frz rw' qz
              obtain ⟨kb, ekb, hkb⟩ := keyS_rep qy (rk.mono (e4'.trans e5))
              subst ekb
              cases qw : s5.w[k]? with
              | none => simp only [qw] at h; exact h.elim
              | some c =>
              cases c with
              | dit acc =>
                simp only [qw] at h
                by_cases hz : acc.length < sizeLine
                · simp only [hz, if_true] at h
                  have e05 : Ext F (as1 ++ [D]) F5 as4' := e23.trans (e4.trans (e4'.trans e5))
                  obtain ⟨aD, vs, ha, hf, hh, rr⟩ := n5.cellT qw
                  have hD' : as4'[k]? = some D := e05.at (by rw [← hk', List.getElem?_append_right (Nat.le_refl _)]; simp)
                  rw [hD'] at ha
                  cases ha
                  refine ⟨vs, ky, kb, rfl, n5.sub _ _ hkb, hh, by rw [rr.length]; exact hz, ?_⟩
                  have n6 := n5.setT (ws := putK vs ky w) (ys := putD acc ky yd) qw hD' hf (rr.put q5)
                  cases qr : trunc (k + 1) { s5 with w := s5.w.set k (.dit (putD acc ky yd)) } with
                  | none => rw [qr] at h; exact h.elim
                  | some s6 =>
                    simp only [qr] at h
                    have n7 := n6.trunc qr
                    rw [take_ext e05 hl1] at n7
                    exact ⟨F5, _, eF.trans e05.1, n7.wiped w2, h⟩
                · simp only [hz, if_false] at h; exact h.elim
              | _ => simp only [qw] at h; exact h.elim
/-- the reading of a dict comprehension of one clause -/
theorem dc1_read {mi : MI} {own : List Nat} {g : MG} {t : MT} {ek ev : ME} {σ : Sto} {H : Hp} {Q : VK} (h : up X.K CT E (vDcN mi own g t ek ev) σ H Q) :
    tDcT (upI X.K CT E mi) (upG X.K CT (fun σ => L2.wipe σ own) EF g) (upT X.K CT EF t) (tPut (up X.K CT EF ek) (up X.K CT EF ev)) own σ H Q := by
  obtain ⟨F, as, s, n, h⟩ := h
  refine upI_seq n h rfl fun J it s1 F1 as1 H1 e1 n1 r1 h1 => ?_
  intro D hD
  obtain ⟨eN, nN⟩ := n1.newT (p := D) (vs := []) (xs := []) hD .nil
  generalize hk : s1.w.length = k at h1
  have hk' : as1.length = k := by rw [← n1.wk.len]; exact hk
  refine ⟨_, ⟨it.fuel s1, F1, _, Sub.refl F1, nN.wipe own, h1⟩, dcGo_walk rfl hk' (Sub.refl F1) (r1.mono eN) (fun H => Q (.ref D) H) fun F s H eF n h => ?_⟩
  have eD : Ext F1 as1 F (as1 ++ [D]) := ⟨eF, [D], rfl⟩
  exact Out.there h (σ := σ) rfl eD (n.back n1 eF) _ ⟨D, by rw [← hk', List.getElem?_append_right (Nat.le_refl _)]; simp, rfl⟩
end
end Bf
/-! The mirror layer: rules for classes' texts: dict comprehensions, len, sum, isinstance, xs[i] += e, range with a step. -/
namespace Bf
open PySem PySem.Spec PyProof.Rows L2
section
variable {X : Cx} {CT : Ctx} {E : Sto → XK}
section
variable {kx vx tg iter tg1 iter1 : Expr} {ifs ifs1 : List Expr} {scope : Scope} {own : List (Str × Nat)} {own1 : List Nat} {pos : Pos} {mi i1 : MI} {g g1 : MG} {t t1 : MT} {ek ev : ME}
theorem me_dcN {k : Nat} (hr : Room k X.A) (hx : Cq X E) (hi : PI X tg iter (upI X.K CT E mi)) (ok : BlkOk X.N X.env.scope scope own)
    (hg : ∀ s H C cl fp, PG (Bk X scope s H C cl fp) tg (upG X.K CT (fun σ => L2.wipe σ (own.map (·.2))) EF g)) (ht : ∀ s H C cl fp, PTs (Bk X scope s H C cl fp) ifs (upT X.K CT EF t))
    (hk : ∀ s H C cl fp, PE (Bk X scope s H C cl fp) kx (up X.K CT EF ek)) (he : ∀ s H C cl fp, PE (Bk X scope s H C cl fp) vx (up X.K CT EF ev)) (hs : ∀ x, foldedSetIterable iter X.env x = pure x := by intro _; rfl) :
    PE X (.DictComp kx vx [⟨tg, iter, ifs, 0⟩] scope pos) (up X.K CT E (vDcN mi (own.map (·.2)) g t ek ev)) :=
  PE.imp (pe_dcT1 (by have := hr.un; omega) hx.calm hx.nd hi ok hg ht hk he hs) fun _ _ _ h => dc1_read h
end
/-! ### len, sum -/
def rSumTu (K : PySem.W.Frag) : List V → Hp → VK → Prop := fun vs H Q => ∃ (a : Addr) (ns : List Int), vs = [V.ref a] ∧ SqT K H a (ns.map V.int) ∧ Q (.int ns.sum) H
theorem call_sumTu (hc : X.calm = true) : CallR X (.builtin "sum") (rSumTu X.K) := by
  intro pins s σ H vs us Q I r h
  obtain ⟨a, ns, rfl, hs, q⟩ := h
  obtain ⟨its, rv, ⟨o, ho, hcl, n, hd⟩, _⟩ := I.tuple hs
  rw [Vals.ref1 r]
  have hi : IntsAre its ns := rv.ints
  obtain ⟨xs, hx⟩ := hi.allInts.items
  have hn : numsOf its.toArray.toList = ns := by rw [show its.toArray.toList = its from by simp, hi.numsOf]
  have hl : s.heap.IsTuple a its.toArray := ⟨o, ho, hcl, n, hd⟩
  rw [hx] at hl hn
  rw [nums_intItems] at hn
  refine PySem.W.ktm_sumG (I.ok.hd hc) hl fun h' tk t' hk => ?_
  have e : preSum (numAt xs) xs.size = ns.sum := by rw [preSum_eq, List.take_of_length_le (by simp), hn]
  rw [e]
  exact ⟨.int _, H, I.kept hk, ⟨_, rfl⟩, q⟩
def sumX : List D → Option D
  | [.tup xs] => (intsD xs).map fun ns => .int ns.sum
  | ds => sumB ds
theorem cb_sumX (hc : X.calm = true) : CallR X (.builtin "sum") (rB X.K CT sumX) := callr_imp (CallR.or (call_sumTu (X := X) hc) (cb_sum (X := X) (CT := CT) hc)) fun vs H Q h => by
  obtain ⟨F, as, σ, S, ds, z, n, r, e, f⟩ := h
  unfold sumX at e
  split at e
  · rename_i xs
    cases q : intsD xs with
    | none => rw [q] at e; cases e
    | some ns =>
      rw [q] at e
      cases e
      obtain ⟨v, rfl, rv⟩ := r.one
      obtain ⟨a, ws, rfl, q1, r1⟩ := rv.tup' n.sub
      obtain rfl := reps_ints r1 q
      exact .inl ⟨a, ns, rfl, q1, f.flat n (.int _)⟩
  · exact .inr ⟨F, as, σ, S, _, z, n, r, e, f⟩
/-! ### isinstance(x, C), x of the class -/
/-! ### xs[i] += e -/
/-! ### range with a step -/
end
/-- the address that a name of the module holds -/
def clsAt (K : PySem.W.Frag) (names : List Str) (c : Nat) : Addr := match names[c]? with
  | some x => match PySem.W.nsIn K mainGlobals x with
    | some (some (.ref a)) => a
    | _ => 0
  | none => 0
theorem clsAt_of {K : PySem.W.Frag} {names : List Str} {c : Nat} {x : Str} {a : Addr} (h : names[c]? = some x) (e : PySem.W.nsIn K mainGlobals x = some (some (.ref a))) : clsAt K names c = a := by
  unfold clsAt
  rw [h]
  dsimp only
  rw [e]
/-! ### the row, with own classes -/
end Bf
/-! The mirror layer: comprehensions without trace, of two clauses, of dicts; fields. -/
namespace Bf
open PySem PySem.Spec PyProof.Rows L2
theorem wipeG_one {j : Nat} {g : List (Option SV)} (h : g[j]? = some none) : wipeG [j] g = g := by
  show g.set j none = g
  refine List.ext_getElem? fun k => ?_
  by_cases hj : j = k
  · subst hj
    rw [h, List.getElem?_set_self (List.getElem?_eq_some_iff.mp h).1]
  · rw [List.getElem?_set_ne hj]
theorem wipeG_set {j : Nat} {x : Option SV} {g : List (Option SV)} (h : g[j]? = some none) : wipeG [j] (g.set j x) = g := by
  show (g.set j x).set j none = g
  rw [List.set_set]
  exact wipeG_one h
theorem back_one {i : Nat} {g : List (Option SV)} (h : g[i]? = some none) : backG [i] g g = g := by
  have e : backG [i] g g = g.set i none := by
    show g.set i (match g[i]? with
      | some (some (.d x)) => some (.d x)
      | _ => none) = _
    rw [h]
  rw [e]
  exact wipeG_one h
/-- the loop of a clause of a list comprehension, its list whatever it is -/
theorem T_lcIn {it : It'} {ys : List D} {j : Nat} {g0 : List (Option SV)} {w : List Cell} {e : ME} {f : D → D} (hl : it.list = some ys) (hj : g0[j]? = some none) (hg : Slots w.length g0) (hw : Flat w)
    (step : ∀ y ∈ ys, ∀ v, Flat v → T (e ⟨g0.set j (some (.d y)), w ++ v⟩) fun z s => z = .d (f y) ∧ s = ⟨g0.set j (some (.d y)), w ++ v⟩) :
    ∀ (m i : Nat) (acc : List D), i + m = ys.length → acc.length + m ≤ sizeLine → T (lcGo it w.length [j] (hName j) cYes e m i ⟨g0, w ++ [.lst acc]⟩) fun _ s => s = ⟨g0, w ++ [.lst (acc ++ (ys.drop i).map f)]⟩ := by
  intro m
  induction m with
  | zero =>
    intro i acc hi hz
    unfold lcGo
    rw [It'.at_list hl, List.getElem?_eq_none (by omega)]
    simp only [T_ok]
    rw [List.drop_of_length_le (by omega)]
    simp
  | succ m ih =>
    intro i acc hi hz
    unfold lcGo
    have hlt : i < ys.length := by omega
    rw [It'.at_list hl, List.getElem?_eq_getElem hlt]
    have hil : j < g0.length := (List.getElem?_eq_some_iff.mp hj).1
    simp only [T_bind, T_nox, T_name, cYes, T_ok, if_true]
    refine ⟨hil, ?_⟩
    refine (step _ (List.getElem_mem hlt) [.lst acc] (by simp)).imp fun z s ⟨e1, e2⟩ => ?_
    subst e1 e2
    simp only [frz]
    have e3 : (w ++ [Cell.lst acc])[w.length]? = some (.lst acc) := by simp
    simp only [e3]
    rw [if_pos (by omega)]
    have e4 : trunc (w.length + 1) { g := g0.set j (some (SV.d ys[i])), w := (w ++ [Cell.lst acc]).set w.length (.lst (acc ++ [f ys[i]])) } = some ⟨g0.set j (some (SV.d ys[i])), w ++ [.lst (acc ++ [f ys[i]])]⟩ := by
      rw [Flat.trunc (by simp [hw, Flat.set])]
      simp only [(hg.set).drop (Nat.le_succ _)]
      rw [List.take_of_length_le (by simp)]
      simp
    simp only [e4]
    rw [wipeG_set hj]
    refine (ih (i + 1) (acc ++ [f ys[i]]) (by omega) (by simp; omega)).imp fun _ s e => ?_
    rw [e, List.drop_eq_getElem_cons hlt, List.map_cons, List.append_assoc]
    rfl
/-! ### dicts -/
def putAll (acc : List (List D × D)) (l : List (List Key × D)) : List (List D × D) := l.foldl (fun a p => putD a p.1 p.2) acc
theorem putD_len (acc : List (List D × D)) (k : List Key) (d : D) : (putD acc k d).length ≤ acc.length + 1 := by
  unfold putD
  split <;> simp
theorem T_dcIn {it : It'} {ys : List D} {j : Nat} {g0 : List (Option SV)} {w : List Cell} {ek ev : ME} {key : D → List Key} {val : D → D} (hl : it.list = some ys) (hj : g0[j]? = some none) (hg : Slots w.length g0) (hw : Flat w)
    (step : ∀ y ∈ ys, ∀ v, Flat v → T (ek ⟨g0.set j (some (.d y)), w ++ v⟩) fun z s => z = .d (.tup ((key y).map keyD)) ∧ s = ⟨g0.set j (some (.d y)), w ++ v⟩ ∧ T (ev s) fun z s' => z = .d (val y) ∧ s' = s) :
    ∀ (m i : Nat) (acc : List (List D × D)), i + m = ys.length → acc.length + m ≤ sizeLine → T (dcGo it w.length [j] (hName j) cYes ek ev m i ⟨g0, w ++ [.dit acc]⟩) fun _ s => s = ⟨g0, w ++ [.dit (putAll acc ((ys.drop i).map fun y => (key y, val y)))]⟩ := by
  intro m
  induction m with
  | zero =>
    intro i acc hi hz
    unfold dcGo
    rw [It'.at_list hl, List.getElem?_eq_none (by omega)]
    simp only [T_ok]
    rw [List.drop_of_length_le (by omega)]
    rfl
  | succ m ih =>
    intro i acc hi hz
    unfold dcGo
    have hlt : i < ys.length := by omega
    rw [It'.at_list hl, List.getElem?_eq_getElem hlt]
    have hil : j < g0.length := (List.getElem?_eq_some_iff.mp hj).1
    have hy := List.getElem_mem hlt
    rw [List.drop_eq_getElem_cons hlt]
    generalize ys[i] = y at *
    simp only [T_bind, T_nox, T_name, cYes, T_ok, if_true]
    refine ⟨hil, ?_⟩
    refine (step _ hy [.dit acc] (by simp [Flat, flatC])).imp fun z s ⟨e1, e2, h2⟩ => ?_
    subst e1 e2
    refine h2.imp fun z s ⟨e1, e2⟩ => ?_
    subst e1 e2
    have ek' : keyS (.d (.tup ((key y).map keyD))) = some (key y) := keysD_map _
    simp only [ek', frz]
    have e3 : (w ++ [Cell.dit acc])[w.length]? = some (.dit acc) := by simp
    simp only [e3]
    rw [if_pos (by omega)]
    have e4 : trunc (w.length + 1) { g := g0.set j (some (SV.d y)), w := (w ++ [Cell.dit acc]).set w.length (.dit (putD acc (key y) (val y))) } = some ⟨g0.set j (some (SV.d y)), w ++ [.dit (putD acc (key y) (val y))]⟩ := by
      rw [Flat.trunc (Flat.set (hw.append (Flat.one rfl)) rfl)]
      simp only [(hg.set).drop (Nat.le_succ _)]
      rw [List.take_of_length_le (by simp)]
      simp
    simp only [e4]
    rw [wipeG_set hj]
    have hlen := putD_len acc (key y) (val y)
    exact ih (i + 1) (putD acc (key y) (val y)) (by omega) (by omega)
theorem frz_lastT {g : List (Option SV)} {w : List Cell} {ys : List (List D × D)} (h : Slots w.length g) : frz ⟨g, w ++ [.dit ys]⟩ (.cell w.length) = some (.dit ys, ⟨g, w ++ [.gone]⟩) := by
  unfold frz
  simp [h.sub]
theorem T_fdc {it : It'} {ys : List D} {j : Nat} {g0 : List (Option SV)} {w : List Cell} {mi : MI} {ek ev : ME} {key : D → List Key} {val : D → D} {Q : D → PS → Prop} (hit : T (mi ⟨g0, w⟩) fun j s => j = it ∧ s = ⟨g0, w⟩) (hl : it.list = some ys) (hj : g0[j]? = some none) (hg : Slots w.length g0) (hw : Flat w)
    (step : ∀ y ∈ ys, ∀ v, Flat v → T (ek ⟨g0.set j (some (.d y)), w ++ v⟩) fun z s => z = .d (.tup ((key y).map keyD)) ∧ s = ⟨g0.set j (some (.d y)), w ++ v⟩ ∧ T (ev s) fun z s' => z = .d (val y) ∧ s' = s)
    (hz : ys.length ≤ sizeLine) (q : Q (.dit (putAll [] (ys.map fun y => (key y, val y)))) ⟨g0, w ++ [.gone]⟩) :
    T (vDcN mi [j] (hName j) cYes ek ev ⟨g0, w⟩) fun x s => OP (frz s x) fun y s => Q y s := by
  unfold vDcN
  simp only [T_bind, T_ok]
  refine hit.imp fun it' s ⟨e1, e2⟩ => ?_
  subst e1 e2
  dsimp only
  rw [wipeG_one hj, It'.fuel_list hl]
  refine (T_dcIn hl hj hg hw step ys.length 0 [] (by simp) (by simpa using hz)).imp fun _ s e => ?_
  subst e
  dsimp only
  rw [back_one hj, frz_lastT hg, List.drop_zero]
  exact q
/-! ### fields -/
theorem T_fldA {cs : List Nat} {f : Str} {o a : ME} {s : PS} {Q : Fl → PS → Prop} (h : T (a s) fun y s => OP (frz s y) fun d s => T (o s) fun x s => ∃ k c fs, x = .cell k ∧ s.w[k]? = some (.ins c fs) ∧ c ∈ cs ∧ fs.length < 1000 ∧ Q .nx { s with w := s.w.set k (.ins c (putS f (.d d) fs)) }) : T (sFldA cs f o a s) Q := by
  unfold sFldA
  rw [T_bind]
  refine h.imp fun y s h => ?_
  cases q : frz s y with
  | none => rw [q] at h; exact h.elim
  | some p =>
    rw [q] at h
    obtain ⟨d, s1⟩ := p
    dsimp only
    rw [T_bind]
    refine T.imp h fun x s2 ⟨k, c, fs, e1, e2, e3, e4, e5⟩ => ?_
    subst e1
    simp only [e2]
    rw [if_pos ⟨e3, e4⟩]
    exact T_ok.mpr e5
theorem T_fld {cs : List Nat} {f : Str} {a : ME} {s : PS} {Q : SV → PS → Prop} : T (vFld cs f a s) Q ↔ T (a s) fun x s => OD (fldOf cs f s x) fun y => Q y s := by
  unfold vFld
  rw [T_bind]
  refine iff_of_eq (congrArg (T _) (funext fun x => funext fun s => propext ?_))
  exact T_of
/-! ### instances made -/
theorem T_runF {f : Fn} {xs : List SV} {s : PS} {Q : SV → PS → Prop} : T (runF f xs s) Q ↔ FT f xs s.w fun x w => Q x { s with w := w } := by
  unfold runF FT
  cases f xs s.w <;> simp
theorem FT_star {n : Nat} {f : Fn} {xs : List SV} {ds : List D} {w : List Cell} {Q : SV → List Cell → Prop} (hn : n ≤ xs.length) (hd : datS (xs.drop n) = some ds) (hz : ds.length ≤ sizeLine) (h : FT f (xs.take n ++ [.d (.tup ds)]) w Q) : FT (starF n f) xs w Q := by
  unfold FT starF at *
  rw [if_pos hn]
  simp only [hd]
  rw [if_pos hz]
  exact h
theorem FT_len {n : Nat} {f : Fn} {xs : List SV} {w : List Cell} {Q : SV → List Cell → Prop} (hn : xs.length = n) (h : FT f xs w Q) : FT (lenF n f) xs w Q := by
  unfold FT lenF at *
  rw [if_pos hn]
  exact h
theorem datS_d : ∀ ds : List D, datS (ds.map .d) = some ds
  | [] => rfl
  | d :: ds => by rw [List.map_cons, datS, datS_d ds]
theorem datF_d : ∀ fs : List (Str × D), datF (fs.map fun p => (p.1, .d p.2)) = some fs
  | [] => rfl
  | (f, d) :: fs => by rw [List.map_cons, datF, datF_d fs]; rfl
theorem T_mk {c : Nat} {f : Fn} {callee : ME} {args : MA} {s : PS} {Q : SV → PS → Prop} (h : T (callee s) fun x s => x = .d (.cls c) ∧ T (args s) fun xs s => FT f (.cell s.w.length :: xs) (s.w ++ [.ins c []]) fun y w' => y = .d .non ∧ T (frzI c s.w.length { s with w := w' }) Q) : T (vMk c f callee args s) Q := by
  unfold vMk
  rw [T_bind]
  refine h.imp fun x s ⟨e, h⟩ => ?_
  subst e
  dsimp only
  rw [if_pos rfl, T_bind]
  refine h.imp fun xs s h => ?_
  rw [T_bind, T_runF]
  refine h.imp fun y w' ⟨e, h⟩ => ?_
  subst e
  exact h
theorem T_cm {c : Nat} {f : Fn} {callee : ME} {args : MA} {s : PS} {Q : SV → PS → Prop} (h : T (callee s) fun x s => x = .d (.cls c) ∧ T (args s) fun xs s => FT f (.d (.cls c) :: xs) s.w fun y w' => Q y { s with w := w' }) : T (vCM c f callee args s) Q := by
  unfold vCM
  rw [T_bind]
  refine h.imp fun x s ⟨e, h⟩ => ?_
  subst e
  dsimp only
  rw [if_pos rfl, T_bind]
  refine h.imp fun xs s h => ?_
  rw [T_runF]
  exact h
theorem T_star {a : ME} {r : MA} {s : PS} {Q : List SV → PS → Prop} (h : T (a s) fun x s => ∃ ds, (rd s x = some (.tup ds) ∨ rd s x = some (.lst ds)) ∧ T (r s) fun ys s => Q (ds.map .d ++ ys) s) : T (aStar a r s) Q := by
  unfold aStar
  rw [T_bind]
  refine h.imp fun x s ⟨ds, h, q⟩ => ?_
  rcases h with h | h <;> simp only [h, T_bind] <;> exact q.imp fun ys s z => T_ok.mpr z
theorem T_frzI {c k : Nat} {s : PS} {fs : List (Str × SV)} {gs : List (Str × D)} {Q : SV → PS → Prop} (h : s.w[k]? = some (.ins c fs)) (hg : datF fs = some gs) (q : Q (.d (.ins c gs)) { g := s.g.map (subG k (.ins c gs)), w := s.w.set k .gone }) : T (frzI c k s) Q := by
  unfold frzI
  simp only [h, hg, if_true]
  exact T_ok.mpr q
end Bf
/-! The mirror layer: methods, properties, == of own classes. -/
namespace Bf
open PySem PySem.Spec PyProof.Rows L2
section
variable {X : Cx} {CT : Ctx} {E0 : XK} {E : Sto → XK} {e o a b : Expr} {es : List Expr} {mo ma mb : ME} {mr : MA} {p pos apos : Pos} {k c : Nat} {fa : Addr} {fd : FuncData} {ps : List Str} {f : Fn} {m x : Str}
theorem RepF.lookN {K : PySem.W.Frag} {F : Hp} {vs : List (Str × V)} {gs : List (Str × D)} (r : RepF K CT F vs gs) {f : Str} (h : gs.lookup f = none) : vs.lookup f = none := by
  induction gs generalizing vs with
  | nil => cases r; rfl
  | cons q gs ih =>
    cases r with
    | cons h1 h2 =>
      rename_i g v y ws
      rw [List.lookup_cons] at h ⊢
      cases q : f == g with
      | true => rw [q] at h; cases h
      | false =>
        rw [q] at h
        exact ih h2 h
theorem spF_of {n : Nat} {F H : Hp} {as : List Addr} {σ : Sto} {s : PS} {vs : List V} {xs : List SV} {Q : VK} (n1 : Env X.K CT F as H σ s) (r : RepSs X.K CT F as vs xs) (hn : xs.length = n)
    (h : Out X.K CT (fun σ' => σ' = σ) E F as (runF f xs s) fun x _ F' as' _ H' => ∀ v, RepS X.K CT F' as' v x → Q v H') : spF X.K CT n f vs H Q (E σ) := ⟨r.length.trans hn, spV_of n1 r h⟩
/-- o.m() -/
def vMe0 (c : Nat) (m : Str) (f : Fn) (o : ME) : ME := fun s => (o s).bind fun x s => match x with
  | .d (.ins c' gs) => if c' = c ∧ gs.lookup m = none then runF f [x] s else .stuck
  | _ => .stuck
theorem me_meth0 {pl : Sem Bool} (hx : Cq X (fun _ => E0)) (he : PE X o (up X.K CT (fun _ => E0) mo)) (hc : L2.Cls X.K (CT c)) (hm : L2.Meth X.K (CT c) m fa) (Fk : Fq X.prog X.w X.K X.mg X.base CT k fa fd ps f) (hp : ps.length = 1) (hr : Room k X.A) (hb : Binds X.K fd ps [])
    (ht : eval (.Call (.Attribute o m apos) [] [] pos) X.env = (do
      let ov ← eval o X.env
      standAt apos.atName
      let (f, first) ← holding [ov] (getMethod ov m pl)
      callWith pos f first (backTo pos (starEach [] X.env)) (backToKw pos (keywordEach [] X.env))) := by rfl) : PE X (.Call (.Attribute o m apos) [] [] pos) (up X.K CT (fun _ => E0) (vMe0 c m f mo)) :=
  PE.imp (L2.pe_meth0 (E := E0) (pl := pl) he hc hm Fk hr hb .nil hx.all ht) fun σ H Q ⟨F, as, s, n, h⟩ => up_seq n h rfl fun v y s1 F1 as1 H1 e1 n1 r1 h1 => by
    cases y with
    | cell j => exact h1.elim
    | d z =>
      cases z with
      | ins c' gs =>
        dsimp only at h1
        by_cases hc : c' = c ∧ gs.lookup m = none
        · rw [if_pos hc] at h1
          obtain ⟨rfl, hl⟩ := hc
          have r1' := r1
          cases r1 with
          | ins g1 g2 =>
            refine ⟨_, _, _, rfl, n1.sub _ _ g1, g2.lookN hl, ?_⟩
            exact spF_of (E := fun _ => E0) n1 (.cons r1' .nil) hp.symm h1
        · rw [if_neg hc] at h1
          exact h1.elim
      | _ => exact h1.elim
/-! ### == and != by an own __eq__ -/
end
end Bf
/-! The mirror layer: min and max of a list of tuples of ints and texts; comprehensions over pairs and triples. -/
namespace Bf
open PySem PySem.Spec PyProof.Rows L2
open PySem.W (AlikeAll min_list_data max_list_data minD maxD dataLt alike)
theorem keys_inj : ∀ {xs ys : List D} {k l : List Key}, keysD xs = some k → keysD ys = some l → D.pys xs = D.pys ys → xs = ys
  | [], [], _, _, _, _, _ => rfl
  | [], y :: ys, _, _, _, _, e => by rw [D.pys, D.pys] at e; cases e
  | x :: xs, [], _, _, _, _, e => by rw [D.pys, D.pys] at e; cases e
  | x :: xs, y :: ys, k, l, h1, h2, e => by
    rw [D.pys, D.pys] at e
    injection e with e1 e2
    have go : ∀ {z : D} {zs : List D} {m : List Key}, keysD (z :: zs) = some m → ((∃ i, z = .int i) ∨ ∃ t, z = .str t) ∧ ∃ m', keysD zs = some m' := fun {z zs m} h => by
      cases z with
      | int i =>
        unfold keysD at h
        cases q : keysD zs with
        | none => rw [q] at h; cases h
        | some m' => exact ⟨.inl ⟨_, rfl⟩, m', rfl⟩
      | str i =>
        unfold keysD at h
        cases q : keysD zs with
        | none => rw [q] at h; cases h
        | some m' => exact ⟨.inr ⟨_, rfl⟩, m', rfl⟩
      | _ => unfold keysD at h; cases h
    obtain ⟨a1, k', a2⟩ := go h1
    obtain ⟨b1, l', b2⟩ := go h2
    rw [keys_inj a2 b2 e2]
    congr 1
    rcases a1 with ⟨i, rfl⟩ | ⟨i, rfl⟩ <;> rcases b1 with ⟨j, rfl⟩ | ⟨j, rfl⟩ <;> (rw [D.py, D.py] at e1; cases e1) <;> rfl
/-- a tuple of ints and texts -/
def keyB' : D → Bool
  | .tup xs => (keysD xs).isSome
  | _ => false
theorem keyB_py {d e : D} (h1 : keyB' d = true) (h2 : keyB' e = true) (h : d.py = e.py) : d = e := by
  cases d with
  | tup xs =>
    cases e with
    | tup ys =>
      rw [D.py, D.py] at h
      injection h with h
      obtain ⟨k, hk⟩ := Option.isSome_iff_exists.mp h1
      obtain ⟨l, hl⟩ := Option.isSome_iff_exists.mp h2
      rw [keys_inj hk hl h]
    | _ => cases h2
  | _ => cases h1
def sizedB (ds : List D) : Bool := ds.all fun d => decide (d.py.depth ≤ 60)
theorem depthAll_le : ∀ {ds : List D}, sizedB ds = true → PyData.depthAll (ds.map D.py) ≤ 60
  | [], _ => by simp [PyData.depthAll]
  | d :: ds, h => by
    unfold sizedB at h
    rw [List.all_cons, Bool.and_eq_true, decide_eq_true_eq] at h
    have := depthAll_le (ds := ds) h.2
    rw [List.map_cons]
    simp only [PyData.depthAll]
    omega
def okMin (ds : List D) : Bool := D.plains ds && alikeB ds && ds.all keyB' && sizedB ds
section
variable {X : Cx} {CT : Ctx}
def minK (d : D) (ds : List D) : D := ds.foldl (fun a y => if dataLt y.py a.py = true then y else a) d
theorem minK_py : ∀ (ds : List D) (d : D), (minK d ds).py = minD d.py (ds.map D.py)
  | [], _ => rfl
  | y :: ds, d => by
    have ih := minK_py ds
    unfold minK minD at *
    rw [List.map_cons, List.foldl_cons, List.foldl_cons, ih]
    congr 1
    split <;> rfl
theorem minK_mem : ∀ (ds : List D) (d : D), minK d ds ∈ d :: ds
  | [], d => by simp [minK]
  | y :: ds, d => by
    have ih := minK_mem ds
    unfold minK at *
    rw [List.foldl_cons]
    split
    · exact List.mem_cons_of_mem _ (ih y)
    · rcases List.mem_cons.mp (ih d) with h | h
      · rw [h]; simp
      · exact List.mem_cons_of_mem _ (List.mem_cons_of_mem _ h)
/-- min(x), x a list of tuples of ints and texts -/
def minX (f : List D → Option D) : List D → Option D
  | [.lst (.tup k :: ds)] => if okMin (.tup k :: ds) = true then some (minK (.tup k) ds) else none
  | ds => f ds
def rMinX (K : PySem.W.Frag) (CT : Ctx) : List V → Hp → VK → Prop := fun vs H Q => ∃ (F : Hp) (a : Addr) (xs : List V) (d : D) (ds : List D), vs = [V.ref a] ∧ Sub F H ∧ SqL K H a xs ∧ Reps K CT F xs (d :: ds) ∧ okMin (d :: ds) = true ∧ ∀ v, Rep K CT F v (minK d ds) → Q v H
theorem cr_minX (hc : X.calm = true) (hu : X.A.units + 64 < cLine) : CallR X (.builtin "min") (rMinX X.K CT) := by
  intro pins s σ H vs us Q I r h
  obtain ⟨F, a, xs, d, ds, rfl, sub, hs, rr, hok, q⟩ := h
  obtain ⟨its, rv, pl, _⟩ := I.list hs
  rw [Vals.ref1 r]
  unfold okMin at hok
  rw [Bool.and_eq_true, Bool.and_eq_true, Bool.and_eq_true] at hok
  obtain ⟨⟨⟨h1, h2⟩, h3⟩, h4⟩ := hok
  obtain ⟨dp, cl⟩ := Reps.dp _ _ h1 rr
  obtain ⟨as, hr⟩ := Dp.readsAll I _ _ _ (DpAll.sub sub _ _ dp) rv
  rw [D.pys_map, List.map_cons] at hr
  have hal : AlikeAll (d.py :: ds.map D.py) := by
    rw [← List.map_cons]
    refine ⟨fun x hx y hy => ?_, fun x hx e => ?_⟩
    · obtain ⟨x', hx', rfl⟩ := List.mem_map.mp hx
      obtain ⟨y', hy', rfl⟩ := List.mem_map.mp hy
      exact List.all_eq_true.mp (List.all_eq_true.mp h2 x' hx') y' hy'
    · obtain ⟨x', hx', rfl⟩ := List.mem_map.mp hx
      have := List.all_eq_true.mp h3 x' hx'
      cases x' with
      | tup _ => rw [D.py] at e; cases e
      | _ => cases this
  have hd := depthAll_le h4
  rw [List.map_cons] at hd
  refine min_list_data (I.ok.hd hc) pl.isList (by simpa using hr) hal (by omega) fun i v h' tk bs hv hrd hk => ?_
  have hv' : its[i]? = some v := by simpa using hv
  have hil : i < xs.length := by rw [rv.length]; exact (List.getElem?_eq_some_iff.mp hv').1
  obtain ⟨z, hz⟩ : ∃ z, xs[i]? = some z := ⟨_, List.getElem?_eq_getElem hil⟩
  obtain ⟨v', hv2, rz⟩ := L2.Vals.get rv hz
  rw [hv'] at hv2
  cases hv2
  obtain ⟨e, he, re⟩ := rr.getV hz
  have em := List.mem_of_getElem? he
  have pe : e.plain = true := by
    rw [D.plains_all] at h1
    exact List.all_eq_true.mp h1 e em
  obtain ⟨d1, c1⟩ := Rep.dp _ _ pe re
  obtain ⟨as2, r2⟩ := Dp.reads I _ _ _ (Dp.sub sub _ _ d1) rz
  have eq : e.py = minD d.py (ds.map D.py) := (Reads.unique (PySem.W.reads_keeps hk r2) _ _ hrd).1
  rw [← minK_py] at eq
  have ek := keyB_py (List.all_eq_true.mp h3 e em) (List.all_eq_true.mp h3 _ (minK_mem ds d)) eq
  subst ek
  exact ⟨z, H, I.kept hk, rz, q z re⟩
theorem cb_minX {f : List D → Option D} (hf : CallR X (.builtin "min") (rB X.K CT f)) (hc : X.calm = true) (hu : X.A.units + 64 < cLine) : CallR X (.builtin "min") (rB X.K CT (minX f)) := callr_imp (CallR.or (cr_minX (CT := CT) hc hu) hf) fun vs H Q h => by
  obtain ⟨F, as, σ, S, ds, z, n, r, e, g⟩ := h
  unfold minX at e
  split at e
  · split at e
    · rename_i hok
      cases e
      obtain ⟨v, rfl, rv⟩ := r.one
      obtain ⟨a, ws, rfl, q1, r1⟩ := rv.lst' n.sub
      exact .inl ⟨F, a, ws, _, _, rfl, n.sub, SqL.of q1, r1, hok, fun v rv => g.flat n rv⟩
    · cases e
  · exact .inr ⟨F, as, σ, S, _, z, n, r, e, g⟩
end
end Bf
/-! The mirror layer: comprehensions over pairs and triples. -/
namespace Bf
open PySem PySem.Spec PyProof.Rows L2
def setG : List Nat → List D → List (Option SV) → List (Option SV)
  | i :: is, y :: ys, g => setG is ys (g.set i (some (.d y)))
  | _, _, g => g
end Bf
/-! The mirror layer: a, b = x, y where inner blocks read the names. -/
/-! enumerate of a tuple; the mirror of enumerate. -/
namespace PySem
open Sem (wp)
open AutoSeq1 (wpAny_loadPart')
theorem meets_enum_tuple (l : Addr) (items : Array Value) (n : Nat) (dct : Option Addr) (sl : Array (Option Value)) :
    Meets (Builtin.«enumerate.__new__» ⟨[.type "enumerate", .ref l], []⟩) (fun _ R s => s.heap.get? l = some { cls := .type "tuple", dict := dct, data := .seq items n, slots := sl } ∧
      R (.ok (.ret (.ref (s.heap.push { cls := .type "tuple_iterator", data := .fields #[.ref l, .int 0 0] }).objs.size)))
        { s with heap := (s.heap.push { cls := .type "tuple_iterator", data := .fields #[.ref l, .int 0 0] }).push { cls := .type "enumerate", data := .fields #[.none, .bool false, .ref s.heap.objs.size, rawInt 0, .none, .none] } }) :=
  .of_wp fun prog w A R s h => by
    obtain ⟨hp, g, d, tk, os⟩ := s
    obtain ⟨hl, h⟩ := h
    have hsub := sub_enumerate
    have hL : Heap.IsTuple (Shared.heap ⟨hp, g, d, tk, os⟩) l items := ⟨_, hl, rfl, n, rfl⟩
    wp_walk using wpAny_loadPart' hl
    refine wpAny_stack_any fun st => wpAny_pure ?_
    split
    · rename_i c _ _ _ _ _
      cases (c == Value.type "enumerate") <;> (wp_walk using wpAny_loadPart' hl, wpAny_pyIter_tuple hL; exact ⟨_, rfl, h⟩)
    · wp_walk using wpAny_loadPart' hl, wpAny_pyIter_tuple hL
      exact ⟨_, rfl, h⟩
section
variable {prog : Program} {w : World} {A : Around} {E : Value → Shared → Prop} {s : Shared}
theorem call_enum_tuple {l : Addr} {items : Array Value} {Q : Value → Shared → Prop} (hL : s.heap.IsTuple l items)
    (h : ∀ h', IsEnum h' (s.heap.objs.size + 1) s.heap.objs.size 0 .none → h'.IsTupleIter s.heap.objs.size l 0 → h'.objs.size = s.heap.objs.size + 2 →
      (∀ b o, s.heap.get? b = some o → h'.get? b = some o) → Q (.ref (s.heap.objs.size + 1)) { s with heap := h' }) :
    wpAny (model prog w) A (call (.type "enumerate") [.ref l]) Q E s := by
  obtain ⟨⟨c, dct, dt, sl⟩, hl, hc, n, hd⟩ := hL
  have hc : c = .type "tuple" := hc
  have hd : dt = .seq items n := hd
  subst hc hd
  refine callType_new F.called_enumerate (by decide) (F.typeCall_enumerate_1 _) (F.newCall_enumerate_1 _) (fun obj => F.args_object_init_2 obj _) F.entry_enumerate_new
    (meets_enum_tuple l items n dct sl) ⟨hl, ?_⟩
  have hz : (s.heap.push { cls := .type "tuple_iterator", data := .fields #[.ref l, .int 0 0] }).objs.size = s.heap.objs.size + 1 := Heap.size_push ..
  show _ ∧ _
  rw [hz]
  have q := Heap.get?_push_size (s.heap.push { cls := .type "tuple_iterator", data := .fields #[.ref l, .int 0 0] }) (o := { cls := .type "enumerate", data := .fields #[.none, .bool false, .ref s.heap.objs.size, rawInt 0, .none, .none] }) rfl
  rw [hz] at q
  exact ⟨⟨_, q, rfl⟩, h _ q ⟨_, Heap.get?_push_of_some _ (Heap.get?_push_size _ rfl), rfl, rfl⟩ (by rw [Heap.size_push, hz]) fun b o x => Heap.get?_push_of_some _ (Heap.get?_push_of_some _ x)⟩
end
end PySem
namespace L2
open PySem PySem.Spec PyProof.Rows
/-- enumerate of the tuple at a -/
def IteT (K : PySem.W.Frag) (a : Addr) : It :=
  ⟨fun i H => ∃ (xs : List V) (x : V), SqT K H a xs ∧ xs[i]? = some x, fun i H v H' => ∃ T x, v = .ref T ∧ H T = none ∧ H' = upd H T (.tup [.int (i : Nat), x]) ∧ ∀ xs, SqT K H a xs → xs[i]? = some x, fun i H => ∃ xs : List V, SqT K H a xs ∧ xs.length ≤ i⟩
theorem turn_enumT {P : Program} {w : World} {K : PySem.W.Frag} {elts : List Expr} {kk : Nat} {tpos : Pos} (a e it : Addr) :
    Turn P w K (.Tuple elts kk tpos) (IteT K a) [e, it] e (fun i h => (∃ old, IsEnum h e it ((i : Nat) : Int) old) ∧ h.IsTupleIter it a i ∧ e ≠ it ∧ a ≠ it ∧ a ≠ e) where
  mem := by simp
  obj := fun i h st b hb => by
    obtain ⟨⟨old, he⟩, ⟨o, ho, hc, hd⟩, _⟩ := st
    have e' : b = e ∨ b = it := by simpa using hb
    rcases e' with z | z
    · rw [z]; exact ⟨_, he, fun v q => nomatch q⟩
    · rw [z]; exact ⟨o, ho, fun v q => by rw [hd] at q; cases q⟩
  keep := fun i h h' st k => by
    obtain ⟨⟨old, he⟩, hi, hne⟩ := st
    exact ⟨⟨old, k e (by simp) _ he⟩, hi.at fun o q => k it (by simp) o q, hne⟩
  item := by
    intro X hP hw hK hc i pins s σ H E I hf st hg
    subst hP hw hK
    obtain ⟨⟨old, he⟩, hit, hne, hai, hae⟩ := st
    obtain ⟨xs, x, hq, hx⟩ := hg
    obtain ⟨its, rv, p, hz⟩ := I.tuple hq
    obtain ⟨u, hu, ru⟩ := rv.get hx
    have hel : e < s.heap.objs.size := Heap.lt_size he
    have hil : it < s.heap.objs.size := by obtain ⟨_, q, _⟩ := hit; exact Heap.lt_size q
    have hh : X.A.in1.handled = none := I.ok.hd hc
    have hlt : i < its.toArray.size := by
      have := (List.getElem?_eq_some_iff.mp hu).1
      simpa using this
    refine wpAny_pyNext_enum_itemD (Draws.tuple (A := X.A.in1) hh it a hai its.toArray) he ⟨hit, p⟩ hlt hne (by simp [hne, Ne.symm hae]) fun y h' tk hy ho hit' hT hsz hk => ?_
    have hy : y = u := by
      have hu' : its.toArray[i]? = some u := by simpa using hu
      rw [hu'] at hy
      exact (Option.some.inj hy).symm
    subst hy
    refine ⟨_, rfl, wpAny_letOwnedTupleGo_enum (s := { s with heap := h', toks := tk + 1 }) ho fun h'' he' sb => ?_⟩
    have hT2 : h''.get? s.heap.objs.size = some { cls := .type "tuple", data := .seq #[.int i tk, y] } := (sb.2 _ (Nat.ne_of_gt hel)).trans hT
    have new : ObjOk X.prog X.w (upd H s.heap.objs.size (.tup [.int (i : Nat), x])) h'' s.heap.objs.size (.tup [.int (i : Nat), x]) :=
      ⟨by show 2 ≤ sizeLine; decide, [.int i tk, y], .cons ⟨_, rfl⟩ (.cons ru .nil), ⟨_, hT2, rfl, _, rfl⟩⟩
    have I1 : Inv X pins σ (upd H s.heap.objs.size (.tup [.int (i : Nat), x])) { s with heap := h'', toks := tk + 1 } :=
      I.turnedNew (ch := [e, it]) (fun b ob hb q => (sb.2 b (fun z => hb (by simp [z]))).trans (hk b ob (fun z => hb (by simp [z])) (fun z => hb (by simp [z])) q)) hf (Nat.le_refl _) new
    refine ⟨.ref s.heap.objs.size, _, I1, rfl, ⟨_, x, rfl, I.hok.fresh (Nat.le_refl _), rfl, fun ys hy => by rw [I.tuple_inj hy hq]; exact hx⟩, ⟨⟨y, ?_⟩, hit'.1.at fun o q => (sb.2 it (Ne.symm hne)).trans q, hne, hai, hae⟩, fun b hb => ?_⟩
    · have e1 : ((i + 1 : Nat) : Int) = (i : Int) + 1 := by omega
      rw [e1]; exact he'
    · have hb' : b < s.heap.objs.size := by
        have e' : b = e ∨ b = it := by simpa using hb
        rcases e' with z | z
        · rw [z]; exact hel
        · rw [z]; exact hil
      rw [upd_ne (Nat.ne_of_lt hb')]
      exact (hf b hb).1
  done := by
    intro X hP hw hK hc i pins s σ H E I hf st hg
    subst hP hw hK
    obtain ⟨⟨old, he⟩, hit, hne, hai, hae⟩ := st
    obtain ⟨xs, hq, hx⟩ := hg
    obtain ⟨its, rv, p, hz⟩ := I.tuple hq
    obtain ⟨f0, f1, f2, f3, f4, f5⟩ := hf it (by simp)
    have hl := rv.length
    have hh : X.A.in1.handled = none := I.ok.hd hc
    have D : Draws X.prog X.w X.A.in1 it [it, a] 0 (fun _ _ => False) (fun _ h => h.IsTupleIter it a i ∧ h.IsTuple a its.toArray) :=
      { live := fun _ _ st => let ⟨o, ho, _⟩ := st.1; ⟨o, ho⟩
        frame := fun _ _ _ st hk => ⟨st.1.at fun o e => hk it (by simp) o e, st.2.at fun o e => hk a (by simp) o e⟩
        item := fun _ _ _ _ h => absurd h (Nat.not_lt_zero _)
        done := fun s Q E st hE => wpAny_nextOf_tuple_end hh st.1 st.2 (by simp; omega) hE }
    exact wpAny_pyNext_enum_endD D he ⟨hit, p⟩ fun h' eb => ⟨rfl, I.turned (t' := s.toks) (fun b o hb q => eb b o hb q) f0 f1 f3 f4 f5⟩
  self := fun A i s Q E st h => by
    obtain ⟨⟨_, he⟩, _⟩ := st
    exact wpAny_pyIter_enum he h
def iEnumT (K : PySem.W.Frag) (ta : TA) : TI := fun σ H R => ta σ H fun vs H1 => ∃ a xs, vs = [.ref a] ∧ SqT K H1 a xs ∧ R (IteT K a) H1
theorem pi_enumT {X : Cx} {e : Expr} {ta : TA} {p pos tpos : Pos} {elts : List Expr} {kk : Nat} (hg : Gl X "enumerate") (hm : X.mg "enumerate" = none) (ha : PA X [e] ta) (hs : starEach [e] X.env = [(false, eval e X.env)] := by rfl) :
    PI X (.Tuple elts kk tpos) (.Call (.Name "enumerate" p) [e] [] pos) (iEnumT X.K ta) := by
  refine ⟨fun pins s σ H R I h => ?_⟩
  refine Call_ (ld_blt I hg hm boot_enumerate (PyProof.Rows.callWith_type1 (thn (ha.run pos pins s σ H _ I h) fun us s1 ⟨vs, H1, I1, r1, q1⟩ => ?_) hs rfl))
  obtain ⟨a, xs, ex, hq, q⟩ := q1
  subst ex
  cases r1 with
  | cons r rr =>
    cases rr
    cases r
    obtain ⟨its, rv, p', hz⟩ := I1.tuple hq
    have hal : a < s1.heap.objs.size := by
      obtain ⟨_, e, _⟩ := id p'
      exact Heap.lt_size e
    refine call_enum_tuple p' fun h' he hit hsz hk => wpAny_pyIter_enum he ?_
    have I2 : Inv X pins σ H1 { s1 with heap := h' } := I1.kept (t' := s1.toks) hk
    refine ⟨s1.heap.objs.size + 1, [s1.heap.objs.size + 1, s1.heap.objs.size], _, _, H1, rfl, I2, turn_enumT a (s1.heap.objs.size + 1) s1.heap.objs.size, ⟨⟨.none, he⟩, hit, Nat.succ_ne_self _, Nat.ne_of_lt hal, Nat.ne_of_lt (Nat.lt_succ_of_lt hal)⟩, fun b hb => ?_, q⟩
    have e' : b = s1.heap.objs.size + 1 ∨ b = s1.heap.objs.size := by simpa using hb
    have hle : s1.heap.objs.size ≤ b := by
      rcases e' with z | z
      · rw [z]; exact Nat.le_add_right _ _
      · rw [z]; exact Nat.le_refl _
    exact I1.fpOk hle (I1.hok.fresh hle)
end L2
namespace Bf
open PySem PySem.Spec PyProof.Rows L2
/-! ### enumerate -/
def numB (xs : List D) : List (D × D) := xs.zipIdx.map fun p => (.int (p.2 : Int), p.1)
theorem numB_at (xs : List D) (i : Nat) : (numB xs)[i]? = xs[i]?.map fun x => (.int (i : Int), x) := by
  unfold numB
  rw [List.getElem?_map, List.getElem?_zipIdx]
  cases xs[i]? <;> simp
theorem numB_len (xs : List D) : (numB xs).length = xs.length := by unfold numB; simp
theorem numB_snd (xs : List D) : (numB xs).map Prod.snd = xs := by
  unfold numB
  rw [List.map_map]
  exact List.zipIdx_map_fst 0 xs
theorem numB_fst (xs : List D) : (numB xs).map Prod.fst = (List.range xs.length).map fun (i : Nat) => D.int i := by
  refine List.ext_getElem? fun i => ?_
  rw [List.getElem?_map, numB_at, List.getElem?_map]
  by_cases h : i < xs.length
  · rw [List.getElem?_eq_getElem h, List.getElem?_range h]
    rfl
  · rw [List.getElem?_eq_none (by omega), List.getElem?_eq_none (by simp; omega)]
    rfl
/-- enumerate(e), e a list or a tuple that is not written any more -/
def jEnum (a : ME) : MI := fun s => (a s).bind fun x s => match x with
  | .d (.lst xs) => .ok (.prs (numB xs)) s
  | .d (.tup xs) => .ok (.prs (numB xs)) s
  | _ => .stuck
section
variable {X : Cx} {CT : Ctx} {E : Sto → XK} {a : Expr} {m : ME} {p pos tpos : Pos} {elts : List Expr} {kk : Nat}
theorem nums_reps {K : PySem.W.Frag} {F : Hp} (xs : List D) : Reps K CT F ((List.range xs.length).map fun (i : Nat) => V.int i) ((numB xs).map Prod.fst) := by
  rw [numB_fst]
  generalize List.range xs.length = l
  induction l with
  | nil => exact .nil
  | cons i l ih => exact .cons (.int _) ih
theorem mi_enum (hm : X.mg "enumerate" = none) (h : PE X a (up X.K CT E m)) (hg : Gl X "enumerate") (h1 : starEach [a] X.env = (false, eval a X.env) :: starEach [] X.env := by rfl) (hs : starEach [a] X.env = [(false, eval a X.env)] := by rfl) :
    PI X (.Tuple elts kk tpos) (.Call (.Name "enumerate" p) [a] [] pos) (upI X.K CT E (jEnum m)) :=
  PI.imp (PI.or (pi_enum hg hm (pa_cons h pa_nil h1) hs) (pi_enumT hg hm (pa_cons h pa_nil h1) hs)) fun σ H R ⟨F, as, s, n, o⟩ => by
    cases q : m s with
    | err e s1 =>
      rw [jEnum, q] at o
      exact .inl ⟨F, as, s, n, by rw [q]; exact o⟩
    | stuck =>
      rw [jEnum, q] at o
      exact o.elim
    | ok x s1 =>
      rw [jEnum, q, bind_ok] at o
      cases x with
      | d y =>
        cases y with
        | lst xs => exact .inl ⟨F, as, s, n, by
            rw [q]
            intro F1 as1 σ1 H1 o1 e1 n1 v r
            subst o1
            have r : Rep X.K CT F1 v (.lst xs) := r
            cases r with
            | lst q1 q2 =>
              rename_i a' vs
              refine ⟨a', vs, rfl, SqL.of (n1.sub _ _ q1), o.there (σ := σ1) rfl e1 n1 _ ⟨_, vs, nums_reps xs, by rw [numB_snd]; exact q2, fun H2 s2 => ?_⟩⟩
              have w := walk_enum (K := X.K) (a := a') (xs := vs)
              have sq : SqL X.K H2 a' vs := SqL.of (s2 _ _ q1)
              have hl := q2.length
              refine ⟨fun i hi => w.goes i H2 (by rw [hl, ← numB_len xs]; exact hi) sq, fun i hi => ⟨vs, sq, by rw [hl, ← numB_len xs]; exact hi⟩, fun i v2 H3 a2 b2 ha hb y => ?_⟩
              obtain ⟨T, x2, h1, h2, h3, h4⟩ := y
              have hx := h4 vs sq
              rw [hb] at hx
              cases hx
              rw [List.getElem?_map] at ha
              cases hi : (List.range xs.length)[i]? with
              | none => rw [hi] at ha; cases ha
              | some j =>
                rw [hi] at ha
                cases ha
                have hj : j = i := by
                  have hl' := (List.getElem?_eq_some_iff.mp hi).1
                  rw [List.length_range] at hl'
                  rw [List.getElem?_range hl'] at hi
                  exact (Option.some.inj hi).symm
                subst hj
                exact ⟨T, h1, h2, h3⟩⟩
        | tup xs => exact .inr ⟨F, as, s, n, by
            rw [q]
            intro F1 as1 σ1 H1 o1 e1 n1 v r
            subst o1
            have r : Rep X.K CT F1 v (.tup xs) := r
            cases r with
            | tup q1 q2 =>
              rename_i a' vs
              refine ⟨a', vs, rfl, SqT.of (n1.sub _ _ q1), o.there (σ := σ1) rfl e1 n1 _ ⟨_, vs, nums_reps xs, by rw [numB_snd]; exact q2, fun H2 s2 => ?_⟩⟩
              have sq : SqT X.K H2 a' vs := SqT.of (s2 _ _ q1)
              have hl := q2.length
              refine ⟨fun i hi => ?_, fun i hi => ⟨vs, sq, by rw [hl, ← numB_len xs]; exact hi⟩, fun i v2 H3 a2 b2 ha hb y => ?_⟩
              · rw [numB_len, ← hl] at hi
                exact ⟨vs, vs[i], sq, List.getElem?_eq_getElem hi⟩
              obtain ⟨T, x2, h1, h2, h3, h4⟩ := y
              have hx := h4 vs sq
              rw [hb] at hx
              cases hx
              rw [List.getElem?_map] at ha
              cases hi : (List.range xs.length)[i]? with
              | none => rw [hi] at ha; cases ha
              | some j =>
                rw [hi] at ha
                cases ha
                have hj : j = i := by
                  have hl' := (List.getElem?_eq_some_iff.mp hi).1
                  rw [List.length_range] at hl'
                  rw [List.getElem?_range hl'] at hi
                  exact (Option.some.inj hi).symm
                subst hj
                exact ⟨T, h1, h2, h3⟩⟩
        | _ => exact o.elim
      | cell k => exact o.elim
end
end Bf
/-! The mirror layer: len(o), o an instance of a class with its own __len__. -/
/-! Dicts with tuples as keys: del, pop, walks over keys and items, a copy. -/
namespace L2
open PySem PySem.Spec PyProof.Rows
/-! ### for (k, v) in d.items() -/
/-! ### dict(list(d.items())) -/
end L2
/-! Mirrors of dicts with tuples as keys: read. -/
namespace L2
open PySem PySem.Spec PyProof.Rows
end L2
namespace Bf
open PySem PySem.Spec PyProof.Rows L2
def ditOf : D → Option (List (List D × D))
  | .dit k => some k
  | .dtl k => some k
  | _ => none
def keyT : D → Option (List Key)
  | .tup xs => keysD xs
  | _ => none
def lookT (ds : List (List D × D)) (k : List Key) : Option D := (ds.find? fun p => decide (keysD p.1 = some k)).map (·.2)
def dropD (ds : List (List D × D)) (k : List Key) : List (List D × D) := ds.filter fun p => decide (keysD p.1 ≠ some k)
def getT (x y : D) : Option D := match ditOf x, keyT y with
  | some ds, some k => lookT ds k
  | _, _ => none
def inT (y x : D) : Option D := match ditOf x, keyT y with
  | some ds, some k => some (.bl (lookT ds k).isSome)
  | _, _ => none
def ninT (y x : D) : Option D := match ditOf x, keyT y with
  | some ds, some k => some (.bl (!(lookT ds k).isSome))
  | _, _ => none
theorem lookT_cons (p : List D × D) (ds : List (List D × D)) (k : List Key) : lookT (p :: ds) k = if keysD p.1 = some k then some p.2 else lookT ds k := by
  unfold lookT
  rw [List.find?_cons]
  by_cases h : keysD p.1 = some k
  · rw [if_pos h, decide_eq_true h]; rfl
  · rw [if_neg h, decide_eq_false h]
section
variable {X : Cx} {CT : Ctx} {F H : Hp} {v : V} {y : D} {as : List Addr} {σ : Sto} {s : PS}
theorem RepT.look {k : List Key} : ∀ {vs : List (List Key × V)} {ds : List (List D × D)}, RepT X.K CT F vs ds → (∀ d, lookT ds k = some d → ∃ v, valV vs k = some v ∧ Rep X.K CT F v d) ∧ (lookT ds k = none → valV vs k = none)
  | _, [], r => by
    cases r
    exact ⟨(fun d e => by cases e), fun _ => rfl⟩
  | _, _ :: ds, r => by
    cases r with
    | @cons k' v' d' vs' _ r1 r2 =>
      rw [lookT_cons]
      simp only [keysD_map, Option.some.injEq]
      by_cases e : k' = k
      · rw [if_pos e, valV_pos (p := (k', v')) e]
        exact ⟨(fun d q => by cases q; exact ⟨_, rfl, r1⟩), (fun q => by cases q)⟩
      · rw [if_neg e, valV_neg (p := (k', v')) e]
        exact RepT.look r2
theorem RepT.drop {k : List Key} : ∀ {vs : List (List Key × V)} {ds : List (List D × D)}, RepT X.K CT F vs ds → RepT X.K CT F (dropK vs k) (dropD ds k)
  | _, [], r => by cases r; exact .nil
  | _, _ :: ds, r => by
    cases r with
    | @cons k' v' d' vs' _ r1 r2 =>
      unfold dropK dropD
      rw [List.filter_cons, List.filter_cons]
      simp only [keysD_map, ne_eq, Option.some.injEq]
      by_cases e : k' = k
      · simp only [e, not_true, decide_false, Bool.false_eq_true, if_false]
        exact RepT.drop r2
      · simp only [e, not_false_iff, decide_true, if_true]
        exact .cons r1 (RepT.drop r2)
/-! ### [], in, get -/
/-- d.get(y) -/
def vDGet1 (d i : ME) : ME := fun s => (d s).bind fun x s => match (rd s x).bind ditOf with
  | none => .stuck
  | some _ => (i s).bind fun y s => match (rd s x).bind ditOf, (rd s y).bind keyT with
    | some ds, some k => .ok (.d ((lookT ds k).getD .non)) s
    | _, _ => .stuck
end
end Bf
/-! Mirrors of dicts with tuples as keys: written, made, walked. -/
namespace Bf
open PySem PySem.Spec PyProof.Rows L2
/-! ### {}, d[y] = v, del d[y], d.pop(y) -/
def vDit0 : ME := fun s => .ok (.cell s.w.length) { s with w := s.w ++ [.dit []] }
def sDPut (d i v : ME) : MS := fun s => (v s).bind fun x s => (d s).bind fun o s => (i s).bind fun y s => match frz s x with
  | some (z, s) => match o, (rd s y).bind keyT with
    | .cell k, some ky => match s.w[k]? with
      | some (.dit acc) => if acc.length < sizeLine then .ok .nx { s with w := s.w.set k (.dit (putD acc ky z)) } else .stuck
      | _ => .stuck
    | _, _ => .stuck
  | none => .stuck
def sDDel (d i : ME) : MS := fun s => (d s).bind fun o s => (i s).bind fun y s => match o, (rd s y).bind keyT with
  | .cell k, some ky => match s.w[k]? with
    | some (.dit acc) => match lookT acc ky with
      | some _ => .ok .nx { s with w := s.w.set k (.dit (dropD acc ky)) }
      | none => .stuck
    | _ => .stuck
  | _, _ => .stuck
def vDPop (d i : ME) : ME := fun s => (d s).bind fun o s => match (rd s o).bind ditOf with
  | none => .stuck
  | some _ => (i s).bind fun y s => match o, (rd s y).bind keyT with
    | .cell k, some ky => match s.w[k]? with
      | some (.dit acc) => match lookT acc ky with
        | some z => .ok (.d z) { s with w := s.w.set k (.dit (dropD acc ky)) }
        | none => .stuck
      | _ => .stuck
    | _, _ => .stuck
def vDCopy (d : ME) : ME := fun s => (d s).bind fun x s => match (rd s x).bind ditOf with
  | some ds => .ok (.cell s.w.length) { s with w := s.w ++ [.dit ds] }
  | none => .stuck
/-- a dict that is not written any more -/
def vLock (d : ME) : ME := fun s => (d s).bind fun x s => match x with
  | .cell k => match s.w[k]? with
    | some (.dit ds) => .ok (.d (.dtl ds)) { g := s.g.map (subG k (.dtl ds)), w := s.w.set k .gone }
    | _ => .stuck
  | .d y => .ok (.d y) s
def jKeys (d : ME) : MI := fun s => (d s).bind fun x s => match x with
  | .d (.dtl ds) => if (ds.all fun p => p.1.all intD) = true then .ok (.kys (ds.map Prod.fst)) s else .stuck
  | _ => .stuck
def jItems (d : ME) : MI := fun s => (d s).bind fun x s => match x with
  | .d (.dtl ds) => if (ds.all fun p => p.1.all intD) = true then .ok (.its ds) s else .stuck
  | _ => .stuck
end Bf
/-! list of a dict; what the dicts' mirrors compute. -/
namespace Bf
open PySem PySem.Spec PyProof.Rows L2
/-! ### weakest preconditions -/
def DC (c : Option Cell) (P : List (List D × D) → Prop) : Prop := match c with
  | some (.dit xs) => P xs
  | _ => False
@[simp ↓] theorem DC_dit {xs : List (List D × D)} {P : List (List D × D) → Prop} : DC (some (.dit xs)) P ↔ P xs := Iff.rfl
@[simp] theorem getT_dtl {ds : List (List D × D)} {x y : Int} : getT (.dtl ds) (.tup [.int x, .int y]) = lookT ds [.inl x, .inl y] := rfl
@[simp] theorem getT_dit {ds : List (List D × D)} {x y : Int} : getT (.dit ds) (.tup [.int x, .int y]) = lookT ds [.inl x, .inl y] := rfl
@[simp] theorem inT_dtl {ds : List (List D × D)} {x y : Int} : inT (.tup [.int x, .int y]) (.dtl ds) = some (.bl (lookT ds [.inl x, .inl y]).isSome) := rfl
@[simp] theorem inT_dit {ds : List (List D × D)} {x y : Int} : inT (.tup [.int x, .int y]) (.dit ds) = some (.bl (lookT ds [.inl x, .inl y]).isSome) := rfl
@[simp] theorem ninT_dtl {ds : List (List D × D)} {x y : Int} : ninT (.tup [.int x, .int y]) (.dtl ds) = some (.bl (!(lookT ds [.inl x, .inl y]).isSome)) := rfl
@[simp] theorem ninT_dit {ds : List (List D × D)} {x y : Int} : ninT (.tup [.int x, .int y]) (.dit ds) = some (.bl (!(lookT ds [.inl x, .inl y]).isSome)) := rfl
@[simp] theorem keyT_two {x y : Int} : keyT (.tup [.int x, .int y]) = some [.inl x, .inl y] := rfl
@[simp] theorem ditOf_dit {ds : List (List D × D)} : ditOf (.dit ds) = some ds := rfl
@[simp] theorem ditOf_dtl {ds : List (List D × D)} : ditOf (.dtl ds) = some ds := rfl
section
variable {a b d : ME} {s : PS} {Q : SV → PS → Prop} {QS : Fl → PS → Prop} {QI : It' → PS → Prop}
@[simp ↓] theorem T_dget1 : T (vDGet1 a b s) Q ↔ T (a s) fun x s => OD ((rd s x).bind ditOf) fun _ => T (b s) fun y s => OD ((rd s x).bind ditOf) fun ds => OD ((rd s y).bind keyT) fun k => Q (.d ((lookT ds k).getD .non)) s := by
  unfold vDGet1
  rw [T_bind]
  refine iff_of_eq (congrArg (T _) (funext fun x => funext fun s => propext ?_))
  cases (rd s x).bind ditOf with
  | none => simp
  | some ds =>
    simp only [OD_some, T_bind]
    refine iff_of_eq (congrArg (T _) (funext fun y => funext fun s => propext ?_))
    cases (rd s x).bind ditOf with
    | none => simp
    | some ds =>
      cases (rd s y).bind keyT with
      | none => simp
      | some k => simp
@[simp ↓] theorem T_dit0 : T (vDit0 s) Q ↔ Q (.cell s.w.length) { s with w := s.w ++ [.dit []] } := by
  unfold vDit0
  rw [T_ok]
@[simp ↓] theorem T_dput : T (sDPut a b d s) QS ↔ T (d s) fun x s => T (a s) fun o s => T (b s) fun y s => OP (frz s x) fun z s => CL o fun k => OD ((rd s y).bind keyT) fun ky => DC s.w[k]? fun acc => acc.length < sizeLine ∧ QS .nx { s with w := s.w.set k (.dit (putD acc ky z)) } := by
  unfold sDPut
  simp only [T_bind]
  refine iff_of_eq (congrArg (T _) (funext fun x => funext fun s => congrArg (T _) (funext fun o => funext fun s => congrArg (T _) (funext fun y => funext fun s => propext ?_))))
  cases frz s x with
  | none => simp
  | some p =>
    obtain ⟨z, s1⟩ := p
    simp only [OP_some]
    cases o with
    | d => simp [CL]
    | cell k =>
      simp only [CL_cell]
      cases (rd s1 y).bind keyT with
      | none => simp
      | some ky =>
        simp only [OD_some]
        cases s1.w[k]? with
        | none => simp [DC]
        | some c =>
          cases c with
          | dit acc =>
            simp only [DC_dit]
            by_cases h : acc.length < sizeLine <;> simp [h]
          | _ => simp [DC]
@[simp ↓] theorem T_ddel : T (sDDel a b s) QS ↔ T (a s) fun o s => T (b s) fun y s => CL o fun k => OD ((rd s y).bind keyT) fun ky => DC s.w[k]? fun acc => OD (lookT acc ky) fun _ => QS .nx { s with w := s.w.set k (.dit (dropD acc ky)) } := by
  unfold sDDel
  simp only [T_bind]
  refine iff_of_eq (congrArg (T _) (funext fun o => funext fun s => congrArg (T _) (funext fun y => funext fun s => propext ?_)))
  cases o with
  | d => simp [CL]
  | cell k =>
    simp only [CL_cell]
    cases (rd s y).bind keyT with
    | none => simp
    | some ky =>
      simp only [OD_some]
      cases s.w[k]? with
      | none => simp [DC]
      | some c =>
        cases c with
        | dit acc =>
          simp only [DC_dit]
          cases lookT acc ky <;> simp
        | _ => simp [DC]
@[simp ↓] theorem T_dpop : T (vDPop a b s) Q ↔ T (a s) fun o s => OD ((rd s o).bind ditOf) fun _ => T (b s) fun y s => CL o fun k => OD ((rd s y).bind keyT) fun ky => DC s.w[k]? fun acc => OD (lookT acc ky) fun z => Q (.d z) { s with w := s.w.set k (.dit (dropD acc ky)) } := by
  unfold vDPop
  rw [T_bind]
  refine iff_of_eq (congrArg (T _) (funext fun o => funext fun s => propext ?_))
  cases (rd s o).bind ditOf with
  | none => simp
  | some ds =>
    simp only [OD_some, T_bind]
    refine iff_of_eq (congrArg (T _) (funext fun y => funext fun s => propext ?_))
    cases o with
    | d => simp [CL]
    | cell k =>
      simp only [CL_cell]
      cases (rd s y).bind keyT with
      | none => simp
      | some ky =>
        simp only [OD_some]
        cases s.w[k]? with
        | none => simp [DC]
        | some c =>
          cases c with
          | dit acc =>
            simp only [DC_dit]
            cases lookT acc ky <;> simp
          | _ => simp [DC]
@[simp ↓] theorem T_dcopy : T (vDCopy a s) Q ↔ T (a s) fun x s => OD ((rd s x).bind ditOf) fun ds => Q (.cell s.w.length) { s with w := s.w ++ [.dit ds] } := by
  unfold vDCopy
  rw [T_bind]
  refine iff_of_eq (congrArg (T _) (funext fun x => funext fun s => propext ?_))
  cases (rd s x).bind ditOf <;> simp
def LKd (s : PS) (x : SV) (P : D → PS → Prop) : Prop := match x with
  | .d y => P y s
  | .cell k => DC s.w[k]? fun ds => P (.dtl ds) { g := s.g.map (subG k (.dtl ds)), w := s.w.set k .gone }
@[simp ↓] theorem LKd_d {y : D} {P : D → PS → Prop} : LKd s (.d y) P ↔ P y s := Iff.rfl
@[simp ↓] theorem LKd_cell {k : Nat} {P : D → PS → Prop} : LKd s (.cell k) P ↔ DC s.w[k]? fun ds => P (.dtl ds) { g := s.g.map (subG k (.dtl ds)), w := s.w.set k .gone } := Iff.rfl
@[simp ↓] theorem T_lock : T (vLock a s) Q ↔ T (a s) fun x s => LKd s x fun y s => Q (.d y) s := by
  unfold vLock
  rw [T_bind]
  refine iff_of_eq (congrArg (T _) (funext fun x => funext fun s => propext ?_))
  cases x with
  | d y => simp [LKd]
  | cell k =>
    simp only [LKd_cell]
    cases s.w[k]? with
    | none => simp [DC]
    | some c => cases c <;> simp [DC]
def DL (x : SV) (P : List (List D × D) → Prop) : Prop := match x with
  | .d (.dtl ds) => (ds.all fun p => p.1.all intD) = true ∧ P ds
  | _ => False
@[simp ↓] theorem DL_dtl {ds : List (List D × D)} {P : List (List D × D) → Prop} : DL (.d (.dtl ds)) P ↔ (ds.all fun p => p.1.all intD) = true ∧ P ds := Iff.rfl
@[simp ↓] theorem T_jKeys : T (jKeys a s) QI ↔ T (a s) fun x s => DL x fun ds => QI (.kys (ds.map Prod.fst)) s := by
  unfold jKeys
  rw [T_bind]
  refine iff_of_eq (congrArg (T _) (funext fun x => funext fun s => propext ?_))
  cases x with
  | cell k => simp [DL]
  | d y =>
    cases y with
    | dtl ds =>
      dsimp only [DL]
      by_cases h : (ds.all fun p => p.1.all intD) = true
      · rw [if_pos h, T_ok]; exact ⟨fun q => ⟨h, q⟩, fun q => q.2⟩
      · rw [if_neg h, T_stuck]; exact ⟨fun q => q.elim, fun q => (h q.1).elim⟩
    | _ => simp [DL]
@[simp ↓] theorem T_jItems : T (jItems a s) QI ↔ T (a s) fun x s => DL x fun ds => QI (.its ds) s := by
  unfold jItems
  rw [T_bind]
  refine iff_of_eq (congrArg (T _) (funext fun x => funext fun s => propext ?_))
  cases x with
  | cell k => simp [DL]
  | d y =>
    cases y with
    | dtl ds =>
      dsimp only [DL]
      by_cases h : (ds.all fun p => p.1.all intD) = true
      · rw [if_pos h, T_ok]; exact ⟨fun q => ⟨h, q⟩, fun q => q.2⟩
      · rw [if_neg h, T_stuck]; exact ⟨fun q => q.elim, fun q => (h q.1).elim⟩
    | _ => simp [DL]
end
end Bf
/-! Lists that hold lists that are written. -/
namespace Bf
open PySem PySem.Spec PyProof.Rows L2
/-- a new list of what may be written -/
def vLstS (as : MA) : ME := fun s => (as s).bind fun xs s => if xs.length ≤ sizeLine then .ok (.cell s.w.length) { s with w := s.w ++ [.lsv xs] } else .stuck
/-- one of them -/
def vIxS (o i : ME) : ME := fun s => (o s).bind fun o s => (i s).bind fun i s => match o, i with
  | .cell k, .d (.int j) => match s.w[k]? with
    | some (.lsv xs) => R.of (atI xs j) s
    | _ => .stuck
  | _, _ => .stuck
section
variable {K : PySem.W.Frag} {CT : Ctx} {F H : Hp} {as : List Addr} {σ : Sto} {s : PS}
theorem RepSs.at {vs : List V} {xs : List SV} {i : Int} {x : SV} (r : RepSs K CT F as vs xs) (e : atI xs i = some x) : ∃ v, atI vs i = some v ∧ RepS K CT F as v x := by
  unfold atI at e ⊢
  rw [r.length]
  cases q : ixN xs.length i with
  | none => rw [q] at e; cases e
  | some j =>
    rw [q] at e
    exact r.get e
end
/-! ### weakest preconditions -/
def VC (c : Option Cell) (P : List SV → Prop) : Prop := match c with
  | some (.lsv xs) => P xs
  | _ => False
@[simp ↓] theorem VC_lsv {xs : List SV} {P : List SV → Prop} : VC (some (.lsv xs)) P ↔ P xs := Iff.rfl
section
variable {a b : ME} {r : MA} {s : PS} {Q : SV → PS → Prop}
@[simp ↓] theorem T_lstS : T (vLstS r s) Q ↔ T (r s) fun xs s => xs.length ≤ sizeLine ∧ Q (.cell s.w.length) { s with w := s.w ++ [.lsv xs] } := by
  unfold vLstS
  rw [T_bind]
  refine iff_of_eq (congrArg (T _) (funext fun xs => funext fun s => propext ?_))
  by_cases h : xs.length ≤ sizeLine
  · rw [if_pos h, T_ok]; exact ⟨fun q => ⟨h, q⟩, fun q => q.2⟩
  · rw [if_neg h, T_stuck]; exact ⟨fun q => q.elim, fun q => h q.1⟩
@[simp ↓] theorem T_ixS : T (vIxS a b s) Q ↔ T (a s) fun o s => T (b s) fun i s => CL o fun k => IN i fun j => VC s.w[k]? fun xs => OD (atI xs j) fun x => Q x s := by
  unfold vIxS
  simp only [T_bind]
  refine iff_of_eq (congrArg (T _) (funext fun o => funext fun s => congrArg (T _) (funext fun i => funext fun s => propext ?_)))
  cases o with
  | d y => simp [CL]
  | cell k =>
    simp only [CL_cell]
    cases i with
    | cell j => simp [IN]
    | d y =>
      cases y with
      | int j =>
        simp only [IN_int]
        cases s.w[k]? with
        | none => simp [VC]
        | some c =>
          cases c with
          | lsv xs =>
            simp only [VC_lsv]
            cases atI xs j with
            | none => rw [OD_none]; exact Iff.of_eq (by unfold R.of; simp)
            | some x => rw [OD_some]; exact T_ok
          | _ => simp [VC]
      | _ => simp [IN]
end
end Bf
/-! The mirror layer: own exceptions are made: an __init__ that says super().__init__(v) and keeps v. -/
namespace Bf
open PySem PySem.Spec PyProof.Rows L2
open PySem.W (InstAt.of_exc0 ksEnv ksFn ks_superObj ks_superIn KxsFacts kxs_method kxs_callWith1 kxs_at kxs_call kxs_mw excInitIn excOver findIn isFn hasDictIn subIn mroIn clsIn typeIn keepIn nsIn codeIn takerIn putL putN dictOf InitBack UpdF set_exc0 looks_findIn looks_mroIn looks_clsIn excTup excInit_of exc_bind mg_none_of)
abbrev xObj (C t : Addr) (d : Option Addr) : Obj := PySem.W.excObj C t d .none
/-- a built-in class under an own exception -/
structure Fam (B newId initId : String) (bmB : List Value) : Prop where
  base : ExcBaseFacts B newId initId bmB
  sto : StoreFacts B bmB "object.__setattr__" "object"
  kxs : KxsFacts B initId
def tyV (l : List String) : List Value := l.map Value.type
theorem fam_Value : Fam "ValueError" "ValueError.__new__" "ValueError.__init__" (tyV ["ValueError", "Exception", "BaseException", "object"]) := ⟨F.excBase_ValueError, F.store_ValueError, PySem.W.kxs_ValueError⟩
theorem fam_Lookup : Fam "LookupError" "LookupError.__new__" "LookupError.__init__" (tyV ["LookupError", "Exception", "BaseException", "object"]) := ⟨F.excBase_LookupError, F.store_LookupError, PySem.W.kxs_LookupError⟩
/-- the class at C, whose __init__ at fI is written in the class at D -/
structure XcC (K : PySem.W.Frag) (C D fI cc : Addr) (B newId initId : String) (bmB : List Value) : Prop where
  q : excInitIn K C bmB newId = true
  ov : excOver K C bmB = true
  ini : findIn K (.ref C) "__init__" = some (some (.ref fI))
  isf : isFn K (.ref fI) = true
  hd : hasDictIn K C = true
  sa : findIn K (.ref C) "__setattr__" = some (some (.builtin "object.__setattr__"))
  sup : ks_superIn K C D "__init__" = some (some (.builtin initId))
  subB : subIn K (.ref C) (.type B) = some true
  any : nsIn K cStatics "thirdparty.any" = some none
  mroD : mroIn K C (.ref D) = some true
  clsD : ∃ cd, clsIn K D = some cd
  cell : ∃ cl cld csl, K.lookup cc = some ⟨cl, cld, .cell (some (.ref D)), csl⟩
  supN : nsIn K mainGlobals "super" = some none
  exB : subIn K (.ref C) (.type "BaseException") = some true
  tyC : typeIn K (.ref C) = some (.type "type")
  kC : keepIn K (.ref C) = true
/-- the def at fI -/
structure XcF (K : PySem.W.Frag) (fI cda cc : Addr) (st : Stmt) (qual file : Str) : Prop where
  lk : ∃ oc od nm kV doc pm an ct osl, K.lookup fI = some ⟨oc, od, .func (ksFn nm qual (defArgs st) (defBody st) (defScope st) .none kV doc pm an (.ref cda) ct cc), osl⟩
  code : codeIn K (.ref cda) qual = true
  cobj : ∃ ccl cdd vs ccs tf, K.lookup cda = some ⟨ccl, cdd, .fields vs, ccs⟩ ∧ vs[2]? = some (.str file tf)
/-- the program's own facts -/
structure PrF (P : Program) (file : Str) : Prop where
  file : ((P.main.file : Str) == file) = true
  top : (P.main.scope.names.lookup ("super" : Str)).isSome = false
section
variable {prog : Program} {w : World} {A : Around} {E : Value → Shared → Prop} {s : Shared} {h₀ : Heap} {L : Addr} {m mg mb : Str → Option Value} {news : List (Addr × Obj)} {K : PySem.W.Frag} {x C D f cda cc fI t : Addr} {B newId initId : String} {bmB : List Value}
/-- super() -/
theorem sup_node {body : List Stmt} {q file : Str} {scope : Scope} {p0 p1 : Pos} {attr : Str} {whole : Sem Value} {fd : FuncData} {ar : Arg} {vs : Array Value} {tf : Tok} {oc ccl : Value} {od cdd : Option Addr} {osl ccs : Array (Option Value)} {ox : Obj} {odx : Option Obj} {Q : Value → Shared → Prop}
    (F : Fr h₀ L s.heap m) (X₀ : K.In h₀) (N : News h₀ L s.heap news) (T : XcC K C D fI cc B newId initId bmB) (hg : h₀.Ns mainGlobals mg) (hb : h₀.Ns builtinsNs mb) (hbs : mb "super" = some (.type "super")) (pf : PrF prog file)
    (hf : K.lookup f = some ⟨oc, od, .func fd, osl⟩) (hp : (fd.params.posonlyargs ++ fd.params.args).head? = some ar) (hv : m ar.arg = some (.ref x)) (I : PySem.W.InstAt s.heap x ox C odx)
    (hcode : K.lookup cda = some ⟨ccl, cdd, .fields vs, ccs⟩) (hvs : vs[2]? = some (.str file tf))
    (hat : (attr == ("__class__" : Str)) = false) (hks : scope.names.lookup ("super" : Str) = some .globalImplicit) (hkc : scope.names.lookup ("__class__" : Str) = some .free) (hka : scope.names.lookup ar.arg = some .local) (hk : scope.kind = .function)
    (go : ∀ so h', Fr h₀ L h' m → News h₀ L h' ((so, ks_superObj D x C) :: news) → (∀ p ∈ news, p.1 < so) → Q (.ref so) { s with heap := h' }) :
    PySem.wpAt (model prog w) A (.func body (ksEnv q scope L f (.ref cda) cc)) (attributeBase (.Call (.Name "super" p0) [] [] p1) attr (ksEnv q scope L f (.ref cda) cc) whole) Q E s := by
  have KX : K.In s.heap := X₀.keeps F.keep
  obtain ⟨cdD, cD⟩ := T.clsD
  obtain ⟨cl, cld, csl, hcell⟩ := T.cell
  obtain ⟨hh, g, d, tk, os⟩ := s
  have dD : ∃ oD, hh.get? D = some oD ∧ oD.data = .cls cdD := by
    have z := cD
    unfold clsIn at z
    split at z
    · rename_i k1 k2 k3 k4 lk
      injection z with z
      rw [← z]
      exact ⟨_, KX _ _ lk, rfl⟩
    · cases z
  obtain ⟨oD, dD1, dD2⟩ := dD
  refine ks_wpAt_super_base (env := ksEnv q scope L f (.ref cda) cc) hks hkc hat rfl (KX _ _ hf) rfl hp rfl (KX _ _ hcode) rfl hvs pf.file pf.top ?_
  refine PySem.W.ks_loadName_global hk hks (Calls.loadGlobal_builtin (env := ksEnv q scope L f (.ref cda) cc) (hg.keeps F.keep) (mg_none_of X₀ hg T.supN) (hb.keeps F.keep) hbs ⟨rfl, ?_⟩)
  refine wpAny_loadName_free hk hkc rfl ⟨_, KX _ _ hcell, rfl⟩ (wpAny_loadName_local hk hka F.ns hv (ks_wpAny_isType_cls dD1 dD2 ⟨rfl, ?_⟩))
  refine ks_wpAny_call_super dD1 dD2 I.at_ I.cls (fun c z => ?_) (looks_mroIn KX T.mroD) fun h' e k => ?_
  · have no := I.no
    unfold PySem.W.notCls at no
    rw [z] at no
    exact Bool.noConfusion no
  · obtain ⟨F', N', l'⟩ := PySem.W.ks_newsPush (s := ⟨hh, g, d, tk, os⟩) F N rfl e k
    exact go _ _ F' N' l'
/-- super().__init__(v) -/
theorem sup_init {body : List Stmt} {q file p : Str} {scope : Scope} {p0 p1 p2 p3 p4 p5 : Pos} {fd : FuncData} {ar : Arg} {vs : Array Value} {tf : Tok} {oc ccl u : Value} {od cdd : Option Addr} {osl ccs : Array (Option Value)} {nw : Obj → List (Addr × Obj)} {Q : Flow → Shared → Prop}
    (G : Fam B newId initId bmB) (F : Fr h₀ L s.heap m) (X₀ : K.In h₀) (N : News h₀ L s.heap news) (T : XcC K C D fI cc B newId initId bmB) (hg : h₀.Ns mainGlobals mg) (hb : h₀.Ns builtinsNs mb) (hbs : mb "super" = some (.type "super")) (pf : PrF prog file)
    (hf : K.lookup f = some ⟨oc, od, .func fd, osl⟩) (hp : (fd.params.posonlyargs ++ fd.params.args).head? = some ar) (hv : m ar.arg = some (.ref x)) (hu : m p = some u) (hm : (x, xObj C t none) ∈ news) (U : UpdF x (xObj C t none) news nw)
    (hcode : K.lookup cda = some ⟨ccl, cdd, .fields vs, ccs⟩) (hvs : vs[2]? = some (.str file tf))
    (hks : scope.names.lookup ("super" : Str) = some .globalImplicit) (hkc : scope.names.lookup ("__class__" : Str) = some .free) (hka : scope.names.lookup ar.arg = some .local) (hkp : scope.names.lookup p = some .local) (hk : scope.kind = .function) (hpd : (p == ("__debug__" : Str)) = false)
    (hpc : (p == ("__classdict__" : Str)) = false) {pl : Sem Bool}
    (he : eval (.Call (.Attribute (.Call (.Name "super" p0) [] [] p1) "__init__" p2) [.Name p p3] [] p4) (ksEnv q scope L f (.ref cda) cc) = (do
      let ov ← attributeBase (.Call (.Name "super" p0) [] [] p1) "__init__" (ksEnv q scope L f (.ref cda) cc) (eval (.Call (.Name "super" p0) [] [] p1) (ksEnv q scope L f (.ref cda) cc))
      standAt p2.atName
      let (fn, first) ← holding [ov] (getMethod ov "__init__" pl)
      callWith p4 fn first (backTo p4 (starEach [.Name p p3] (ksEnv q scope L f (.ref cda) cc))) []))
    (hia : interactive (ksEnv q scope L f (.ref cda) cc) = false) (hsw : swapsWith (.Call (.Attribute (.Call (.Name "super" p0) [] [] p1) "__init__" p2) [.Name p p3] [] p4) none p5.line (ksEnv q scope L f (.ref cda) cc) = pure false)
    (go : ∀ t' h' tk' more, Fr h₀ L h' m → News h₀ L h' (more ++ nw (xObj C t' none)) → (∀ z ∈ more, z.1 ≠ x) → Q .next { s with heap := h', toks := tk' }) :
    PySem.wpAt (model prog w) A (.func body (ksEnv q scope L f (.ref cda) cc)) (exec (.Expr (.Call (.Attribute (.Call (.Name "super" p0) [] [] p1) "__init__" p2) [.Name p p3] [] p4) p5) (ksEnv q scope L f (.ref cda) cc)) Q E s := by
  refine ks_wpAt_Expr_any (ks_wpAt_MethodCall (pl := pl) (sup_node F X₀ N T hg hb hbs pf hf hp hv (InstAt.of_exc0 N hm) hcode hvs (by decide) hks hkc hka hk fun so h1 F1 N1 l1 => ?_) he) hia hsw
  have m1 : (x, xObj C t none) ∈ (so, ks_superObj D x C) :: news := List.mem_cons_of_mem _ hm
  refine kxs_method G.kxs F1 X₀ N1 (List.mem_cons_self ..) (InstAt.of_exc0 N1 m1) T.any T.sup T.subB (by decide) fun qa h2 F2 N2 l2 => ?_
  have U2 : UpdF x (xObj C t none) ((qa, kxs_mw initId x) :: (so, ks_superObj D x C) :: news) (fun o => (qa, kxs_mw initId x) :: (so, ks_superObj D x C) :: nw o) :=
    .tail (Nat.ne_of_gt (l2 _ m1)) (.tail (Nat.ne_of_gt (l1 _ hm)) U)
  refine kxs_callWith1 N2 (List.mem_cons_self ..) ?_
  refine Calls.spliced_cons (wpAny_Name (wpAny_loadName_local hk hkp F2.ns hu ?_) hpd)
  refine Calls.spliced_nil ⟨kxs_at N2 (List.mem_cons_self ..), ?_⟩
  refine kxs_call F2 X₀ N2 G.base T.q (List.mem_cons_self ..) U2 (by rw [sizeLine_eq]; simp) fun t' h3 F3 N3 l3 => ?_
  refine go t' h3 _ [(t', excTup [u]), (qa, kxs_mw initId x), (so, ks_superObj D x C)] F3 N3 fun z hz => ?_
  rcases List.mem_cons.mp hz with e | hz
  · rw [e]
    exact Nat.ne_of_gt (l3 _ (List.mem_cons_of_mem _ m1))
  rcases List.mem_cons.mp hz with e | hz
  · rw [e]
    exact Nat.ne_of_gt (l2 _ m1)
  rcases List.mem_cons.mp hz with e | hz
  · rw [e]
    exact Nat.ne_of_gt (l1 _ hm)
  · cases hz
end
end Bf
/-! The mirror layer: own exceptions are made: the class called. -/
namespace Bf
open PySem PySem.Spec PyProof.Rows L2
open PySem.W (InstAt.of_exc0 ksEnv ksFn ks_superObj ks_superIn KxsFacts excInitIn excOver findIn isFn hasDictIn subIn mroIn clsIn typeIn keepIn nsIn codeIn takerIn putL putN dictOf InitBack UpdF set_exc0 looks_findIn looks_mroIn looks_clsIn excTup excInit_of exc_bind mg_none_of)
/-- the __init__'s text: super().__init__(p), then tail -/
structure XcB (st : Stmt) (qual slf p : Str) (tail : List Stmt) : Prop where
  ar : ∃ ar, ((defArgs st).posonlyargs ++ (defArgs st).args).head? = some ar ∧ ar.arg = slf
  txt : ∃ p0 p1 p2 p3 p4 p5, defBody st = .Expr (.Call (.Attribute (.Call (.Name "super" p0) [] [] p1) "__init__" p2) [.Name p p3] [] p4) p5 :: tail ∧
    ∀ (L f cda cc : Addr), (∃ pl, eval (.Call (.Attribute (.Call (.Name "super" p0) [] [] p1) "__init__" p2) [.Name p p3] [] p4) (ksEnv qual (defScope st) L f (.ref cda) cc) = (do
      let ov ← attributeBase (.Call (.Name "super" p0) [] [] p1) "__init__" (ksEnv qual (defScope st) L f (.ref cda) cc) (eval (.Call (.Name "super" p0) [] [] p1) (ksEnv qual (defScope st) L f (.ref cda) cc))
      standAt p2.atName
      let (fn, first) ← holding [ov] (getMethod ov "__init__" pl)
      callWith p4 fn first (backTo p4 (starEach [.Name p p3] (ksEnv qual (defScope st) L f (.ref cda) cc))) [])) ∧
    interactive (ksEnv qual (defScope st) L f (.ref cda) cc) = false ∧ swapsWith (.Call (.Attribute (.Call (.Name "super" p0) [] [] p1) "__init__" p2) [.Name p p3] [] p4) none p5.line (ksEnv qual (defScope st) L f (.ref cda) cc) = pure false
  ks : (defScope st).names.lookup ("super" : Str) = some .globalImplicit
  kc : (defScope st).names.lookup ("__class__" : Str) = some .free
  ka : (defScope st).names.lookup slf = some .local
  kp : (defScope st).names.lookup p = some .local
  kind : (defScope st).kind = .function
  nocell : ∀ x ∈ (defScope st).names, x.2 ≠ .cell
  co : (defScope st).isCoroutine = false
  gen : (defScope st).isGenerator = false
  ne : (slf == p) = false
  d1 : (p == ("__debug__" : Str)) = false
  d2 : (p == ("__classdict__" : Str)) = false
  d3 : (slf == ("__debug__" : Str)) = false
  d4 : (slf == ("__classdict__" : Str)) = false
  bind : ∀ nm kV doc pm an cdv ct cc a b, bindArgs (ksFn nm qual (defArgs st) (defBody st) (defScope st) .none kV doc pm an cdv ct cc) ⟨[a, b], []⟩ = pure [(slf, a), (p, b)]
theorem updF_app {x : Addr} {o : Obj} {rest : List (Addr × Obj)} (hr : ∀ p ∈ rest, p.1 ≠ x) : ∀ {more : List (Addr × Obj)}, (∀ z ∈ more, z.1 ≠ x) → UpdF x o (more ++ (x, o) :: rest) (fun o' => more ++ (x, o') :: rest)
  | [], _ => .head hr
  | z :: more, h => .tail (h z (List.mem_cons_self ..)) (updF_app hr fun q hq => h q (List.mem_cons_of_mem _ hq))
section
variable {prog : Program} {w : World} {A : Around} {R : Result → Shared → Prop} {K : PySem.W.Frag} {C D cda cc fI : Addr} {B newId initId : String} {bmB : List Value} {mg mb : Str → Option Value} {st : Stmt} {qual file slf p : Str} {tail : List Stmt} {u : Value}
  {h : Heap} {g : Array GenState} {d : Drawn} {t : Nat} {os : OsState}
theorem xc_enter (G : Fam B newId initId bmB) (T : XcC K C D fI cc B newId initId bmB) (W : XcF K fI cda cc st qual file) (S : XcB st qual slf p tail) (pf : PrF prog file) (KX : K.In h) (hg : h.Ns mainGlobals mg) (hb : h.Ns builtinsNs mb)
    (hbs : mb "super" = some (.type "super")) (hlim : h.NoLimit) (hroom : A.depth + 1 < recursionLimit)
    (go : ∀ (L t' tk : Addr) (h' : Heap) (m : Str → Option Value) (more : List (Addr × Obj)), Fr h L h' m → m slf = some (.ref (h.objs.size + 1)) → m p = some u → (∀ z ∈ more, z.1 ≠ h.objs.size + 1) →
      News h L h' (more ++ (h.objs.size + 1, xObj C t' none) :: [(h.objs.size, excTup [u])]) →
      ∀ (M : Around) (E : Value → Shared → Prop) (Q : Flow → Shared → Prop), (∀ h2 tk2, R (.ok (.ret (.ref (h.objs.size + 1)))) ⟨h2, g, d, tk2, os⟩ → Q .next ⟨h2, g, d, tk2, os⟩) →
        PySem.wpAt (model prog w) M (.func (defBody st) (ksEnv qual (defScope st) L fI (.ref cda) cc)) (execs tail (ksEnv qual (defScope st) L fI (.ref cda) cc)) Q E ⟨h', g, d, tk, os⟩) :
    codeAny (model prog w) A (.call (.ref C) ⟨[u], []⟩) R ⟨h, g, d, t, os⟩ := by
  obtain ⟨nm, N', qn, bs, bm, hdct, sn, sub, ab, col, dd, k0, k1, k2, k3, k5, hC, hT⟩ := excInit_of KX T.q
  obtain ⟨oI, hoI, hcI⟩ : ∃ oI, h.get? fI = some oI ∧ oI.cls = .type "function" := by
    obtain ⟨o, ho, hc⟩ := Option.map_eq_some_iff.mp (show (K.lookup fI).map (·.cls) = some (.type "function") from beq_iff_eq.mp T.isf)
    exact ⟨o, KX _ _ ho, hc⟩
  refine PySem.HandSPX.call_own G.base hT hC (looks_findIn KX T.ini) (fun z => exc_bind hoI hcI z) (by rw [sizeLine_eq]; simp) ?_
  have kk : ∀ b o, h.get? b = some o → ((h.push (PySem.W.kdv_tup [u])).push (PySem.HandSPX.excO C h.objs.size)).get? b = some o := fun b o e => Heap.get?_push_of_some _ (Heap.get?_push_of_some _ e)
  obtain ⟨oc, od, nm2, kV, doc, pm, an, ct, osl, lk⟩ := W.lk
  obtain ⟨ccl, cdd, vs, ccs, tf, hcode, hvs⟩ := W.cobj
  obtain ⟨p0, p1, p2, p3, p4, p5, hbody, hx⟩ := S.txt
  obtain ⟨ar, har, eself⟩ := S.ar
  have hdep : (A.under (.builtin "type.__call__" ⟨[.ref C, u], []⟩)).depth < recursionLimit := by
    rw [make_depth]
    exact hroom
  refine ks_codeAny_call_defAt (fd := ksFn nm2 qual (defArgs st) (defBody st) (defScope st) .none kV doc pm an (.ref cda) ct cc) (body := defBody st) (binds := [(slf, .ref (h.objs.size + 1)), (p, u)]) hdep (kk _ _ (KX _ _ lk)) rfl (hlim.keeps kk)
    (PySem.W.codeRec_of (KX.keeps kk) W.code) rfl (.of_eq (S.bind ..)) S.nocell (fun x hx => ?_) (fun h₁ hns hk₁ => ?_) S.co S.gen S.kind
  · rcases List.mem_cons.mp hx with e | hx
    · rw [e]; exact S.ka
    · rw [List.mem_singleton.mp hx]; exact S.kp
  obtain ⟨Lc, hLc⟩ : ∃ Lc, Lc = ((h.push (PySem.W.kdv_tup [u])).push (PySem.HandSPX.excO C h.objs.size)).objs.size := ⟨_, rfl⟩
  have eL : Lc = h.objs.size + 2 := by rw [hLc, Heap.size_push, Heap.size_push]
  have hm1 : (fun x => ([(slf, Value.ref (h.objs.size + 1)), (p, u)] : List (Str × Value)).reverse.lookup x) slf = some (.ref (h.objs.size + 1)) := by
    simp [List.lookup, S.ne]
  have hm2 : (fun x => ([(slf, Value.ref (h.objs.size + 1)), (p, u)] : List (Str × Value)).reverse.lookup x) p = some u := by
    simp [List.lookup]
  have F0 : Fr h Lc h₁ (fun x => ([(slf, Value.ref (h.objs.size + 1)), (p, u)] : List (Str × Value)).reverse.lookup x) := ⟨hLc ▸ hns, fun b o e => hk₁ b o (kk b o e), by omega⟩
  have nn : ∀ {k : Nat}, h.objs.size ≤ k → h.get? k = none := fun {k} hk => by
    cases e : h.get? k with
    | none => rfl
    | some o => exact absurd (Heap.lt_size e) (Nat.not_lt.mpr hk)
  have N0 : News h Lc h₁ ((h.objs.size + 1, xObj C h.objs.size none) :: [(h.objs.size, excTup [u])]) := fun z hz => by
    rcases List.mem_cons.mp hz with e | hz
    · rw [e]
      refine ⟨hk₁ _ _ (by heap_get), fun q => ?_, nn (Nat.le_succ _)⟩
      have q : h.objs.size + 1 = Lc := q
      omega
    · rw [List.mem_singleton.mp hz]
      refine ⟨hk₁ _ _ (by heap_get), fun q => ?_, nn (Nat.le_refl _)⟩
      have q : h.objs.size = Lc := q
      omega
  rw [← hLc]
  show PySem.wpAt _ _ (.func (defBody st) (ksEnv qual (defScope st) Lc fI (.ref cda) cc)) (execs (defBody st) (ksEnv qual (defScope st) Lc fI (.ref cda) cc)) _ _ _
  obtain ⟨⟨pl, he⟩, hia, hsw⟩ := hx Lc fI cda cc
  conv => arg 4; rw [hbody]
  refine ks_wpAt_execs_cons ?_
  refine sup_init (x := h.objs.size + 1) G F0 KX N0 T hg hb hbs pf lk har (by rw [eself]; exact hm1) hm2 (List.mem_cons_self ..) (.head fun z hz => by rw [List.mem_singleton.mp hz]; exact Nat.ne_of_lt (Nat.lt_succ_self _)) hcode hvs S.ks S.kc (by rw [eself]; exact S.ka) S.kp S.kind S.d1 S.d2 he hia hsw fun t' h' tk' more F' N' hmore => ?_
  exact go Lc t' tk' h' _ more F' hm1 hm2 hmore N' _ _ _ fun h2 tk2 hr => ⟨rfl, hr⟩
end
end Bf
/-! The mirror layer: raise of own exceptions: the expressions that make them. -/
namespace Bf
open PySem PySem.Spec PyProof.Rows L2
open PySem.W (InstAt.of_exc0 ksEnv ksFn ks_superObj ks_superIn KxsFacts excInitIn excOver findIn isFn hasDictIn subIn mroIn clsIn typeIn keepIn nsIn codeIn takerIn putL putN dictOf InitBack UpdF set_exc0 looks_findIn looks_mroIn looks_clsIn excTup excInit_of exc_bind mg_none_of)
section
variable {prog : Program} {w : World} {A : Around} {E : Value → Shared → Prop} {K : PySem.W.Frag} {C D cda cc fI : Addr} {B newId initId : String} {bmB : List Value} {mg mb : Str → Option Value} {st : Stmt} {qual file slf p f : Str} {tail : List Stmt} {u : Value}
  {h : Heap} {g : Array GenState} {d : Drawn} {t : Nat} {os : OsState} {Q : Value → Shared → Prop}
/-- the tail keeps p as f -/
structure XcT (st : Stmt) (qual slf p f : Str) (tail : List Stmt) : Prop where
  txt : ∃ q1 q2 q3 q4, tail = [.Assign [.Attribute (.Name slf q1) f q2] (.Name p q3) q4] ∧ ∀ (L fa cda cc : Addr), swapsWith (.Name p q3) (some (.Attribute (.Name slf q1) f q2)) q4.line (ksEnv qual (defScope st) L fa (.ref cda) cc) = pure false
theorem xc_msg (G : Fam B newId initId bmB) (T : XcC K C D fI cc B newId initId bmB) (W : XcF K fI cda cc st qual file) (S : XcB st qual slf p []) (pf : PrF prog file) (KX : K.In h) (hg : h.Ns mainGlobals mg) (hb : h.Ns builtinsNs mb)
    (hbs : mb "super" = some (.type "super")) (hlim : h.NoLimit) (hroom : A.depth + 1 < recursionLimit)
    (go : ∀ (e t' tk : Addr) (h' : Heap), h.objs.size ≤ e → (∀ b o, h.get? b = some o → h'.get? b = some o) → h'.get? e = some (xObj C t' none) → Q (.ref e) ⟨h', g, d, tk, os⟩) :
    wpAny (model prog w) A (call (.ref C) [u]) Q E ⟨h, g, d, t, os⟩ := by
  refine wpAny_call (xc_enter G T W S pf KX hg hb hbs hlim hroom fun L t' tk h' m more F _ _ hmore N M E' Q' hq => ?_)
  refine PySem.wpAt_of_wpAny (wpAny_execs_nil (hq _ _ ?_))
  exact go _ t' _ h' (Nat.le_succ _) F.keep (N _ (List.mem_append_right _ (List.mem_cons_self ..))).1
theorem ns1_one {h : Heap} {dx : Addr} {f : Str} {tk : Tok} {hs : Int} {u : Value} {n : Nat} (e : h.get? dx = some (dictOf [⟨hs, .str f tk, u⟩] n)) : h.Ns1 dx (fun y => if y = f then some u else none) := by
  refine ⟨_, _, _, e, rfl, fun x hx => ?_, ?_, fun y => ?_⟩
  · have hx : x ∈ [(⟨hs, .str f tk, u⟩ : DictEntry)].toArray := hx
    simp only [List.mem_toArray, List.mem_singleton] at hx
    rw [hx]
    exact ⟨f, tk, rfl⟩
  · show List.Pairwise _ _
    exact List.pairwise_singleton _ _
  · show nsFind _ y = _
    unfold nsFind findBy
    simp only [List.find?_toArray, List.find?_cons, List.find?_nil]
    by_cases hy : y = f
    · subst hy
      simp [Value.isStr]
    · have : (Value.str f tk).isStr y = false := by
        simp [Value.isStr]
        exact fun z => hy z.symm
      simp [this, hy]
theorem xc_val (G : Fam B newId initId bmB) (T : XcC K C D fI cc B newId initId bmB) (W : XcF K fI cda cc st qual file) (S : XcB st qual slf p tail) (Y : XcT st qual slf p f tail) (ht : takerIn K C f = some none) (pf : PrF prog file) (KX : K.In h) (hg : h.Ns mainGlobals mg) (hb : h.Ns builtinsNs mb)
    (hbs : mb "super" = some (.type "super")) (hlim : h.NoLimit) (hroom : A.depth + 1 < recursionLimit)
    (go : ∀ (e dx t' tk : Addr) (h' : Heap), h.objs.size ≤ e → h.get? dx = none → dx ≠ e → (∀ b o, h.get? b = some o → h'.get? b = some o) → h'.get? e = some (xObj C t' (some dx)) → h'.Ns1 dx (fun y => if y = f then some u else none) → Q (.ref e) ⟨h', g, d, tk, os⟩) :
    wpAny (model prog w) A (call (.ref C) [u]) Q E ⟨h, g, d, t, os⟩ := by
  refine wpAny_call (xc_enter G T W S pf KX hg hb hbs hlim hroom fun L t' tk h' m more F hs hu hmore N M E' Q' hq => ?_)
  obtain ⟨q1, q2, q3, q4, rfl, hsw⟩ := Y.txt
  refine ks_wpAt_execs_cons (ks_wpAt_Assign_Attr (PySem.wpAt_of_wpAny ?_) (hsw ..))
  refine wpAny_Name (env := ksEnv qual (defScope st) L fI (.ref cda) cc) (wpAny_loadName_local (env := ksEnv qual (defScope st) L fI (.ref cda) cc) S.kind S.kp F.ns hu ?_) S.d1
  refine wpAny_Name (env := ksEnv qual (defScope st) L fI (.ref cda) cc) (wpAny_loadName_local (env := ksEnv qual (defScope st) L fI (.ref cda) cc) S.kind S.ka F.ns hs ?_) S.d3
  have U := updF_app (x := h.objs.size + 1) (o := xObj C t' none) (rest := [(h.objs.size, excTup [u])]) (fun z hz => by rw [List.mem_singleton.mp hz]; exact Nat.ne_of_lt (Nat.lt_succ_self _)) hmore
  refine set_exc0 G.sto F KX N (List.mem_append_right _ (List.mem_cons_self ..)) T.sa T.ov ht T.hd rfl U (by simp [putL]) fun dx h2 F2 N2 l2 => ?_
  refine PySem.wpAt_of_wpAny (wpAny_execs_nil (hq _ _ ?_))
  have m1 : (h.objs.size + 1, xObj C t' none) ∈ more ++ (h.objs.size + 1, xObj C t' none) :: [(h.objs.size, excTup [u])] := List.mem_append_right _ (List.mem_cons_self ..)
  refine go _ dx t' _ h2 (Nat.le_succ _) (N2 _ (List.mem_cons_self ..)).2.2 (Nat.ne_of_gt (l2 _ m1)) F2.keep (N2 (h.objs.size + 1, xObj C t' (some dx)) ?_).1 (ns1_one (N2 _ (List.mem_cons_self ..)).1)
  exact List.mem_cons_of_mem _ (List.mem_append_right _ (List.mem_cons_self ..))
end
section
variable {X : Cx} {C D cda cc fI : Addr} {B newId initId : String} {bmB : List Value} {st : Stmt} {qual file slf p f x : Str} {tail : List Stmt} {pn pos : Pos} {k : Nat} {e : Expr} {te : TE}
theorem mod_mb (I : L2.Mod X.K X.mg X.base) : ∃ mb, X.base.Ns builtinsNs mb ∧ mb "super" = some (.type "super") := by
  obtain ⟨mb, h1, h2⟩ := I.blt
  exact ⟨mb, h1, (h2 _ (by decide)).trans (by first | boot_by_name | rfl | decide +kernel)⟩
/-- X(e), X keeping nothing -/
theorem pmk_msg (G : Fam B newId initId bmB) (T : XcC X.K C D fI cc B newId initId bmB) (W : XcF X.K fI cda cc st qual file) (S : XcB st qual slf p []) (pf : PrF X.prog file) (hr : Room 2 X.A) (hg : Gl X x) (hm : X.mg x = some (.ref C)) (he : PE X e te)
    (hdb : (x == ("__debug__" : Str)) = false := by decide) (hst : starEach [e] X.env = (false, eval e X.env) :: starEach [] X.env := by rfl) (hpl : (backTo pos (starEach [] X.env)).any (·.1) = false := by rfl) :
    PMk X (.Call (.Name x pn) [e] [] pos) (fun σ H Q => te σ H fun _ H1 => Q (.ref C) none H1) := by
  intro pins s σ H Q I q
  refine wpAny_Call_Name_kw (ld_glob I hg hm ?_ hdb)
  have q : tCons te tNil σ H (fun vs H1 => match vs with | [_] => Q (.ref C) none H1 | _ => False) := q
  refine PySem.W.callWith_K (h₀ := X.base) I.ok.mod.kin T.kC (thn ((pa_cons he pa_nil hst).run pos pins s σ H _ I q) fun us s1 ⟨vs, H1, I1, r1, q1⟩ => ⟨I1.kIn, ?_⟩) hst hpl
  show wpAny _ _ (call (.ref C) us) _ _ _
  obtain ⟨mb, hb, hbs⟩ := mod_mb I.ok.mod
  have lm := I1.nolimit
  have bk := I1.bk
  obtain ⟨hp, g, dr, tk, os⟩ := s1
  cases r1 with
  | nil => exact q1.elim
  | cons ru rn =>
    cases rn with
    | cons _ _ => exact q1.elim
    | nil =>
      refine xc_msg G T W S pf I1.kIn (I.ok.mod.glob.keeps bk) (hb.keeps bk) hbs lm (by have := hr.dp; omega) fun e t' tk' h' he k hg' => ?_
      have hn : hp.get? e = none := by
        cases z : hp.get? e with
        | none => rfl
        | some o => exact absurd (Heap.lt_size z) (Nat.not_lt.mpr he)
      exact ⟨e, _, _, ⟨hp, g, dr, tk, os⟩, H1, .ref C, none, rfl, I1, k, hn, hg', ⟨rfl, rfl⟩, rfl, rfl, I1.hok.fresh he, rfl, I1.bare, raises_own T.exB T.tyC, q1⟩
/-- X(e), X keeping it as f -/
theorem pmk_val (G : Fam B newId initId bmB) (T : XcC X.K C D fI cc B newId initId bmB) (W : XcF X.K fI cda cc st qual file) (S : XcB st qual slf p tail) (Y : XcT st qual slf p f tail) (ht : takerIn X.K C f = some none) (pf : PrF X.prog file) (hr : Room 2 X.A) (hg : Gl X x) (hm : X.mg x = some (.ref C)) (he : PE X e te)
    (hdb : (x == ("__debug__" : Str)) = false := by decide) (hst : starEach [e] X.env = (false, eval e X.env) :: starEach [] X.env := by rfl) (hpl : (backTo pos (starEach [] X.env)).any (·.1) = false := by rfl) :
    PMk X (.Call (.Name x pn) [e] [] pos) (fun σ H Q => te σ H fun y H1 => ∀ dx, H1 dx = none → Q (.ref C) (some dx) (upd H1 dx (.xd [(f, y)]))) := by
  intro pins s σ H Q I q
  refine wpAny_Call_Name_kw (ld_glob I hg hm ?_ hdb)
  have q : tCons te tNil σ H (fun vs H1 => match vs with | [y] => ∀ dx, H1 dx = none → Q (.ref C) (some dx) (upd H1 dx (.xd [(f, y)])) | _ => False) := q
  refine PySem.W.callWith_K (h₀ := X.base) I.ok.mod.kin T.kC (thn ((pa_cons he pa_nil hst).run pos pins s σ H _ I q) fun us s1 ⟨vs, H1, I1, r1, q1⟩ => ⟨I1.kIn, ?_⟩) hst hpl
  show wpAny _ _ (call (.ref C) us) _ _ _
  obtain ⟨mb, hb, hbs⟩ := mod_mb I.ok.mod
  have lm := I1.nolimit
  have bk := I1.bk
  obtain ⟨hp, g, dr, tk, os⟩ := s1
  cases r1 with
  | nil => exact q1.elim
  | @cons y u _ _ ru rn =>
    cases rn with
    | cons _ _ => exact q1.elim
    | nil =>
      refine xc_val G T W S Y ht pf I1.kIn (I.ok.mod.glob.keeps bk) (hb.keeps bk) hbs lm (by have := hr.dp; omega) fun e dx t' tk' h' he hd hne k hg' hns => ?_
      have hn : hp.get? e = none := by
        cases z : hp.get? e with
        | none => rfl
        | some o => exact absurd (Heap.lt_size z) (Nat.not_lt.mpr he)
      obtain ⟨M, g1, g2⟩ := restrict h' fun b => decide (b ≠ e)
      have ne : ∀ {b o}, hp.get? b = some o → b ≠ e := fun {b o} z q => by rw [q, hn] at z; cases z
      have km : ∀ b o, hp.get? b = some o → M.get? b = some o := fun b o z => (g1 b (decide_eq_true (ne z))).trans (k b o z)
      have hd1 : H1 dx = none := I1.hok.gone hd
      have hns2 : M.Ns1 dx (fun y => if y = f then some u else none) := hns.at fun o z => (g1 dx (decide_eq_true hne)).trans z
      have J := I1.laidN (t' := tk') (a := dx) (o := .xd [(f, y)]) (h' := M) km hd hd1 ⟨_, hns2, fun z => by
        rw [lookup_put]
        by_cases hz : z = f
        · rw [if_pos hz, if_pos hz]; exact ru
        · rw [if_neg hz, if_neg hz]; trivial⟩
      have hna : H1 e = none := I1.hok.fresh he
      refine ⟨e, _, _, _, _, .ref C, some dx, rfl, J, fun b o z => ?_, g2 e (by simp), hg', ⟨rfl, rfl⟩, rfl, rfl, by rw [upd_ne (Ne.symm hne)]; exact hna, rfl, I1.bare, raises_own T.exB T.tyC, q1 dx hd1⟩
      by_cases hb : b = e
      · rw [hb, g2 e (by simp)] at z
        cases z
      · exact (g1 b (decide_eq_true hb)).symm.trans z
end
end Bf
/-! The mirror layer: raise. -/
namespace Bf
open PySem PySem.Spec PyProof.Rows L2
/-- an own exception class that keeps nothing may be made and raised -/
def RzM (K : PySem.W.Frag) (C : Addr) (file : Str) : Prop := ∃ D fI cda cc B newId initId bmB st qual slf p, Fam B newId initId bmB ∧ XcC K C D fI cc B newId initId bmB ∧ XcF K fI cda cc st qual file ∧ XcB st qual slf p []
/-- .. that keeps its argument as f -/
def RzV (K : PySem.W.Frag) (C : Addr) (file f : Str) : Prop := ∃ D fI cda cc B newId initId bmB st qual slf p tail, Fam B newId initId bmB ∧ XcC K C D fI cc B newId initId bmB ∧ XcF K fI cda cc st qual file ∧ XcB st qual slf p tail ∧
  XcT st qual slf p f tail ∧ PySem.W.takerIn K C f = some none
def sRaise (n : Nat) (m : ME) : MS := fun s => (m s).bind fun _ s => .err ⟨.own n, []⟩ s
def sRaiseV (n : Nat) (f : Str) (m : ME) : MS := fun s => (m s).bind fun x s => match frz s x with
  | some (y, s) => .err ⟨.own n, [(f, y)]⟩ s
  | none => .stuck
section
variable {X : Cx} {CT : Ctx} {E : Sto → XK} {pn pos p2 : Pos} {e : Expr} {m : ME} {n : Nat} {x file f : Str}
theorem ms_raise (hx : Cq X E) (Z : RzM X.K (CT n) file) (pf : PrF X.prog file) (hr : Room 2 X.A) (hm : X.mg x = some (.ref (CT n))) (he : PE X e (up X.K CT E m)) (hg : Gl X x := by rfl) (hdb : (x == ("__debug__" : Str)) = false := by decide)
    (hst : starEach [e] X.env = (false, eval e X.env) :: starEach [] X.env := by rfl) (hpl : (backTo pos (starEach [] X.env)).any (·.1) = false := by rfl) : L2.PS X (.Raise (some (.Call (.Name x pn) [e] [] pos)) none p2) (upS X.K CT E (sRaise n m)) := by
  obtain ⟨D, fI, cda, cc, B, newId, initId, bmB, st, qual, slf, p, G, T, W, S⟩ := Z
  refine ps_imp (ps_raise hx.calm hx.tk (pmk_msg G T W S pf hr hg hm he hdb hst hpl)) fun D σ H ⟨F, as, s, n1, h⟩ => ?_
  refine up_seq n1 h trivial fun v y s1 F1 as1 H1 e1 n2 r1 h1 => ?_
  exact h1 (.ref (CT n)) none F1 as1 σ H1 trivial .refl n2 ⟨rfl, .inl rfl⟩
theorem ms_raiseV (hx : Cq X E) (Z : RzV X.K (CT n) file f) (pf : PrF X.prog file) (hr : Room 2 X.A) (hm : X.mg x = some (.ref (CT n))) (he : PE X e (up X.K CT E m)) (hg : Gl X x := by rfl) (hdb : (x == ("__debug__" : Str)) = false := by decide)
    (hst : starEach [e] X.env = (false, eval e X.env) :: starEach [] X.env := by rfl) (hpl : (backTo pos (starEach [] X.env)).any (·.1) = false := by rfl) : L2.PS X (.Raise (some (.Call (.Name x pn) [e] [] pos)) none p2) (upS X.K CT E (sRaiseV n f m)) := by
  obtain ⟨D, fI, cda, cc, B, newId, initId, bmB, st, qual, slf, p, tail, G, T, W, S, Y, ht⟩ := Z
  refine ps_imp (ps_raise hx.calm hx.tk (pmk_val G T W S Y ht pf hr hg hm he hdb hst hpl)) fun D σ H ⟨F, as, s, n1, h⟩ => ?_
  refine up_seq n1 h trivial fun v y s1 F1 as1 H1 e1 n2 r1 h1 => ?_
  intro dx hd
  cases q : frz s1 y with
  | none => simp only [q] at h1; exact h1.elim
  | some pp =>
    obtain ⟨z, s2⟩ := pp
    simp only [q] at h1
    obtain ⟨F2, e2, r2, n3⟩ := n2.frz r1 q
    obtain ⟨e3, n4⟩ := n3.new (.xd [(f, v)]) hd
    exact h1 (.ref (CT n)) (some dx) _ as1 σ _ trivial (e2.trans e3) n4 ⟨rfl, .inr ⟨dx, _, rfl, upd_same, .cons (Rep.mono X.K CT e3.1 _ _ r2) .nil⟩⟩
end
end Bf
/-! The mirror layer: defs that run where nothing is being shown (no guards), repr of data, calls of them. -/
namespace Bf
open PySem PySem.Spec PyProof.Rows L2
/-- a def's promise, where no guard stands -/
structure FnG (P : Program) (w : World) (K : PySem.W.Frag) (mg : Str → Option Value) (base : Heap) (CX : CXT) (k : Nat) (f : Addr) (fd : FuncData) (ps : List Str) (sp : Sp) : Prop where
  many : ∀ vs H Q E, sp vs H Q E → vs.length = ps.length
  go : ∀ (A : Around) (outer : List PySem.Env) (s : Shared) (H : Hp) (args : Args) (us : List Value) (vs : List V) (Q : VK) (E : XK), Room k A → A.guards = some [] → Env0 P w K mg base A outer s H → BindsTo s fd args (ps.zip us) → Vals vs us → sp vs H Q E →
    codeAny (model P w) A (.call (.ref f) args) (CR CX outer P w H s Q E) s
/-- as Fun, its code object at c -/
structure FunC (K : PySem.W.Frag) (x qual : Str) (st : Stmt) (f : Addr) (fd : FuncData) (c : Addr) : Prop where
  ex : ∃ (oc : Value) (od : Option Addr) (kV doc pm : Value) (an : Option Addr) (ct : Value) (osl : Array (Option Value)),
    fd = PySem.W.fnOf x qual (defArgs st) (defBody st) (defScope st) .none kV doc pm an (.ref c) ct ∧ K.lookup f = some ⟨oc, od, .func fd, osl⟩ ∧ PySem.W.codeIn K (.ref c) qual = true
  kp : PySem.W.keepIn K (.ref f) = true
abbrev FqG (P : Program) (w : World) (K : PySem.W.Frag) (mg : Str → Option Value) (base : Heap) (CT : Ctx) (k : Nat) (fa : Addr) (fd : FuncData) (ps : List Str) (f : Fn) : Prop := FnG P w K mg base (L2.CX P w) k fa fd ps (spF K CT ps.length f)
section
variable {P : Program} {w : World} {K : PySem.W.Frag} {mg : Str → Option Value} {base : Heap} {CT : Ctx} {k : Nat} {fa c : Addr} {fd : FuncData} {x qual : Str} {st : Stmt} {N ps : List Str} {mb : MS}
theorem fnG_q (Fn' : FunC K x qual st fa fd c) (S : FnScope N ps (defScope st)) (hN : ps.length ≤ N.length)
    (hbody : ∀ (A : Around) (outer : List PySem.Env) (s : Shared) (H : Hp) (E : XK), A.guards = some [] → Room k (cxOf (L2.CX P w) P w K mg base N qual (defScope st) fa (.ref c) A outer s H E).A → Cq (cxOf (L2.CX P w) P w K mg base N qual (defScope st) fa (.ref c) A outer s H E) (fun _ => E) →
      PSs (cxOf (L2.CX P w) P w K mg base N qual (defScope st) fa (.ref c) A outer s H E) (defBody st) (upS K CT (fun _ => E) mb)) :
    FqG P w K mg base CT (k + 1) fa fd ps (fnM N.length mb) := by
  obtain ⟨oc, od, kV, doc, pm, an, ct, osl, rfl, lk, hcd⟩ := Fn'.ex
  refine ⟨fun vs H Q E h => h.1, fun A outer s H args us vs Q E hr hg e0 hb r hs => ?_⟩
  exact LamX.run_ofS lk hcd S hr e0 hb r hs.1 fun hr' => body_q (fa' := fa) S hN (.ref c) A outer s H vs Q E (hbody A outer s H E hg) hr' hs
end
section
variable {X : Cx} {CT : Ctx} {E : Sto → XK} {pos p : Pos} {x : Str} {k : Nat} {fa : Addr} {fd : FuncData} {ps : List Str} {f : Fn} {a : Expr} {es : List Expr} {mr : MA}
/-- f(a, ..), f such a def -/
theorem pe_callG {t : TA} {sp : Sp} (Fk : FnG X.prog X.w X.K X.mg X.base (L2.CX X.prog X.w) k fa fd ps sp) (hr : Room k X.A) (hgd : X.A.guards = some []) (hg : Gl X x) (hm : X.mg x = some (.ref fa)) (hk : PySem.W.keepIn X.K (.ref fa) = true) (hb : Binds X.K fd ps [])
    (hx : ∀ σ, PassesAt (L2.CX X.prog X.w) X σ (E σ)) (ha : PA X (a :: es) t) (hdb : (x == ("__debug__" : Str)) = false) (he : starEach (a :: es) X.env = (false, eval a X.env) :: starEach es X.env) (hpl : (backTo pos (starEach es X.env)).any (·.1) = false) :
    PE X (.Call (.Name x p) (a :: es) [] pos) (tCallS sp E t) := by
  refine ⟨fun pn s σ H Q I h => wpAny_Call_Name_kw (ld_glob I hg hm ?_ hdb)⟩
  refine PySem.W.callWith_K (h₀ := X.base) I.ok.mod.kin hk (thn (ha.run pos pn s σ H _ I h) fun us s1 ⟨vs, H1, I1, r, q⟩ => ⟨I1.kIn, ?_⟩) he hpl
  have len : us.length = ps.length := r.length.symm.trans (Fk.many _ _ _ _ q)
  have bd := hb s1 us I1.kIn (by simpa using len)
  rw [List.append_nil] at bd
  refine wpAny_call (codeAny_mono (Fk.go X.A X.stack s1 H1 ⟨us, []⟩ us vs Q (E σ) hr hgd I1.env0 bd r q) fun o s2 ho => ?_)
  match o, ho with
  | .error er, ho => exact hx σ pn H1 s1 er s2 I1 ho
  | .ok (.ret u), ho => exact I1.after ho
theorem me_callG (hx : Cq X E) (Fk : FqG X.prog X.w X.K X.mg X.base CT k fa fd ps f) (hgd : X.A.guards = some []) (hm : X.mg x = some (.ref fa)) (hk : PySem.W.keepIn X.K (.ref fa) = true) (hb : Binds X.K fd ps []) (hr : Room k X.A) (hg : Gl X x)
    (ha : PA X (a :: es) (upA X.K CT E mr)) (hl : ∀ s xs s', mr s = .ok xs s' → xs.length = ps.length) (hdb : (x == ("__debug__" : Str)) = false := by decide) (he : starEach (a :: es) X.env = (false, eval a X.env) :: starEach es X.env := by rfl) (hpl : (backTo pos (starEach es X.env)).any (·.1) = false := by rfl) :
    PE X (.Call (.Name x p) (a :: es) [] pos) (up X.K CT E (vCall f mr)) :=
  PE.imp (pe_callG (E := E) Fk hr hgd hg hm hk hb hx.pass ha hdb he hpl) fun _ _ _ h => call_read hl h
end
/-! ### repr -/
mutual
theorem plain_noDict : ∀ d : D, d.plain = true → d.py.hasDict = false
  | .non, _ => rfl
  | .bl _, _ => rfl
  | .int _, _ => rfl
  | .str _, _ => rfl
  | .tup xs, h => by
    rw [D.py, PyData.hasDict]
    exact plains_noDict xs (by rw [D.plain] at h; exact h)
  | .lst xs, h => by
    rw [D.py, PyData.hasDict]
    exact plains_noDict xs (by rw [D.plain] at h; exact h)
  | .kup xs, h => by
    rw [D.py, PyData.hasDict]
    exact plains_noDict xs (by rw [D.plain] at h; exact h)
  | .dic _, h => by rw [D.plain] at h; cases h
  | .ins _ _, h => by rw [D.plain] at h; cases h
  | .raw _, h => by rw [D.plain] at h; cases h
  | .scr _, h => by rw [D.plain] at h; cases h
  | .dit _, h => by rw [D.plain] at h; cases h
  | .cls _, h => by rw [D.plain] at h; cases h
  | .dtl _, h => by rw [D.plain] at h; cases h
theorem plains_noDict : ∀ xs : List D, D.plains xs = true → PyData.hasDictAll (D.pys xs) = false
  | [], _ => rfl
  | x :: xs, h => by
    rw [D.plains, Bool.and_eq_true] at h
    rw [D.pys, PyData.hasDictAll, plain_noDict x h.1, plains_noDict xs h.2]
    rfl
end
/-- repr of data -/
def reprX : List D → Option D
  | [.dic []] => some (.str "{}")
  | [x] => if (x.plain && x.py.showable && PyData.strOk x.py.shown && decide (x.py.shown.length ≤ sizeLine) && decide (x.py.depth ≤ 60)) = true then some (.str x.py.shown) else none
  | _ => none
section
variable {X : Cx} {CT : Ctx}
theorem repr_ref {pins : List (Addr × Obj)} {σ : Sto} {H : Hp} {s : Shared} {a : Addr} {d : PyData} {as : List Addr} {Q : VK} (hgd : X.A.guards = some []) (hu : X.A.units + 64 < cLine) (I : L2.Inv X pins σ H s) (r : Reads s.heap (.ref a) d as) (h1 : d.showable = true)
    (h2 : d.hasDict = true → sysModules ∉ as) (h3 : d.shown.length ≤ sizeLine) (h4 : d.depth ≤ 60) (q : Q (.str d.shown) H) : wpAny (model X.prog X.w) X.A (call (.builtin "repr") [.ref a]) (EP X pins σ Q) X.xe s :=
  repr_of_reads' r h1 h2 hgd (by omega) (fun _ _ e => e) (fun h' u tk k => ⟨.str _, H, I.kept k, ⟨u, rfl⟩, q⟩) h3
theorem repr_gen {pins : List (Addr × Obj)} {σ : Sto} {H : Hp} {s : Shared} {u : Value} {d : PyData} {as : List Addr} {Q : VK} (hgd : X.A.guards = some []) (hu : X.A.units + 64 < cLine) (I : L2.Inv X pins σ H s) (r : Reads s.heap u d as) (nd : d.hasDict = false)
    (h2 : d.showable = true) (h4 : d.shown.length ≤ sizeLine) (h5 : d.depth ≤ 60) (q : Q (.str d.shown) H) : wpAny (model X.prog X.w) X.A (call (.builtin "repr") [u]) (EP X pins σ Q) X.xe s := by
  cases r with
  | none => exact PySem.P.repr_of_none ⟨.str _, H, I.tok _, ⟨_, rfl⟩, q⟩
  | bool b => exact PySem.P.repr_of_bool ⟨.str _, H, I.tok _, ⟨_, rfl⟩, q⟩
  | int i t => exact PySem.P.repr_of_int (by simpa [PyData.showable] using h2) ⟨.str _, H, I.tok _, ⟨_, rfl⟩, q⟩
  | str y t => exact PySem.P.repr_of_str ⟨.str _, H, I.tok _, ⟨_, rfl⟩, q⟩ h4
  | list a1 a2 a3 a4 => exact repr_ref hgd hu I (.list a1 a2 a3 a4) h2 (fun z => by rw [nd] at z; cases z) h4 h5 q
  | tuple a1 a2 a3 a4 => exact repr_ref hgd hu I (.tuple a1 a2 a3 a4) h2 (fun z => by rw [nd] at z; cases z) h4 h5 q
  | dict a1 a2 a3 a4 a5 => exact repr_ref hgd hu I (.dict a1 a2 a3 a4 a5) h2 (fun z => by rw [nd] at z; cases z) h4 h5 q
theorem cb_reprX (hgd : X.A.guards = some []) (hu : X.A.units + 64 < cLine) : CallR X (.builtin "repr") (rB X.K CT reprX) := by
  intro pins s σ H xs us Q I r h
  obtain ⟨F, as, σ', S, ds, z, n, rd, e, f⟩ := h
  unfold reprX at e
  split at e
  · injection e with e
    subst e
    obtain ⟨v, rfl, rv⟩ := rd.one
    have q : Q (.str "{}") H := f.flat n (.str _ (by rw [sizeLine_eq]; decide +kernel) (by decide +kernel))
    obtain ⟨u, rfl, ru⟩ := vals1 r
    have key : ∃ a, v = .ref a ∧ H a = some (.dK []) := by
      cases rv with
      | rep h1 =>
        cases h1 with
        | dK h1 h2 =>
          cases h2
          exact ⟨_, rfl, n.sub _ _ h1⟩
      | dic h1 h2 =>
        cases h2
        exact ⟨_, rfl, h1⟩
    obtain ⟨a, rfl, ha⟩ := key
    cases ru
    obtain ⟨_, z, vs, kv, o, es, ep, ho, hx, hd, _, hp, _⟩ := I.hok a _ ha
    cases kv
    have e0 : es.toList = [] := by
      cases q : es.toList with
      | nil => rfl
      | cons y l => rw [q] at hp; cases hp
    have rr : Reads s.heap (.ref a) (.dict []) (a :: [] ++ []) := Reads.dict ho hx.1 hd (by rw [e0]; exact .nil) (by rw [e0]; exact .nil)
    have sd : (PyData.dict []).shown = "{}" := by rfl
    refine repr_ref hgd hu I rr rfl (fun _ m => ?_) (by rw [sd, sizeLine_eq]; decide +kernel) (by decide) (by rw [sd]; exact q)
    have m : sysModules ∈ [a] := m
    rw [List.mem_singleton.mp m] at z
    simp at z
  · rename_i x hx
    split at e
    · rename_i hz
      injection e with e
      subst e
      simp only [Bool.and_eq_true, decide_eq_true_eq] at hz
      obtain ⟨⟨⟨⟨h1, h2⟩, h3⟩, h4⟩, h5⟩ := hz
      obtain ⟨v, rfl, rv⟩ := rd.one
      have q : Q (.str x.py.shown) H := f.flat n (.str _ h4 h3)
      obtain ⟨u, rfl, ru⟩ := vals1 r
      obtain ⟨bs, hr⟩ := Dp.reads I x.py v u (rv.dp n.sub h1).1 ru
      exact repr_gen hgd hu I hr (plain_noDict x h1) h2 h4 h5 q
    · cases e
  · cases e
end
end Bf
/-! The mirror layer: try with clauses of both kinds, with a name and without. -/
namespace Bf
open PySem PySem.Spec PyProof.Rows L2
/-- the ends behind a clause whose name, in slot i, goes -/
def endsClr (D : Ends) (i : Nat) : Ends := { nx := fun σ H => D.nx (σ.set i none) H, rt := D.rt, bk := fun σ H => D.bk (σ.set i none) H, ct := fun σ H => D.ct (σ.set i none) H }
abbrev Clause := Value × Option Nat × (Addr → Value → Option Addr → TS)
/-- what the clauses ask of an exception -/
def wMix (K : PySem.W.Frag) (Wo : WX) (D : Ends) : List Clause → WX
  | [] => Wo
  | (c, o, ts) :: l => fun cls d σ H => ∃ b, PySem.W.exmOne K cls c = some b ∧
      (b = true → ∀ a, H a = none → match o with
        | none => ts a cls d D σ H
        | some i => ts a cls d (endsClr D i) (σ.set i (some (.ref a))) H) ∧ (b = false → wMix K Wo D l cls d σ H)
inductive HdsM (X : Cx) : List ExceptHandler → List Clause → Prop
  | nil : HdsM X [] []
  | bare {x : Str} {c : Value} {ts : Addr → Value → Option Addr → TS} {b : Stmt} {bs : List Stmt} {p1 p2 : Pos} {hs : List ExceptHandler} {l : List Clause} (hc : Names X x c)
      (su : ∀ (a : Addr) (oe : Obj) (cls : Value) (d : Option Addr) (pn : List (Addr × Obj)), Zc cls d oe → (∃ vs, oe.data = .fields vs) → PSs (X.suite a ((a, oe) :: pn)) (b :: bs) (ts a cls d)) (r : HdsM X hs l) :
      HdsM X (.ExceptHandler (some (.Name x p1)) none (b :: bs) p2 :: hs) ((c, none, ts) :: l)
  | named {x n : Str} {i : Nat} {c : Value} {ts : Addr → Value → Option Addr → TS} {b : Stmt} {bs : List Stmt} {p1 p2 : Pos} {hs : List ExceptHandler} {l : List Clause} (hc : Names X x c) (hi : X.N[i]? = some n) (hl : X.env.kindOf n = some .local)
      (su : ∀ (a : Addr) (oe : Obj) (cls : Value) (d : Option Addr) (pn : List (Addr × Obj)), Zc cls d oe → (∃ vs, oe.data = .fields vs) → PSs (X.suite a ((a, oe) :: pn)) (b :: bs) (ts a cls d)) (r : HdsM X hs l) :
      HdsM X (.ExceptHandler (some (.Name x p1)) (some n) (b :: bs) p2 :: hs) ((c, some i, ts) :: l)
section
variable {X : Cx} {pins : List (Addr × Obj)} {σ : Sto} {H : Hp} {s : Shared} {a : Addr} {cls : Value} {d : Option Addr} {D : Ends} {Wo : WX} {B : Heap} {sI : Shared}
/-- an exception that lies caught: sI the state without it, B the ground -/
structure Caught (X : Cx) (pins : List (Addr × Obj)) (σ : Sto) (H : Hp) (s : Shared) (a : Addr) (cls : Value) (d : Option Addr) (B : Heap) (sI : Shared) : Prop where
  inv : Inv X pins σ H sI
  nb : ∀ b o, sI.heap.get? b = some o → b ∉ frs X.stack → B.get? b = some o
  up : sI.heap.UpToSlots s.heap
  fly : HandSPX.FlyingZ B (X.env :: X.outer) a (Zc cls d) s.heap
  na : H a = none
  os : s.os = sI.os
  ag : AllBare s.gens
  nl : a ≠ X.env.locals
  nf : a ∉ X.fs
theorem Caught.here (C : Caught X pins σ H s a cls d B sI) : Inv X pins σ H s := C.inv.landed C.nb C.fly.1 C.up C.os C.ag
theorem Caught.suite (C : Caught X pins σ H s a cls d B sI) : ∃ oe, Zc cls d oe ∧ (∃ vs, oe.data = .fields vs) ∧ s.heap.get? a = some oe ∧ Inv (X.suite a ((a, oe) :: (X.pn ++ pins))) [] σ H s := by
  obtain ⟨oe, vs, he, hz, hd⟩ := C.fly.there
  exact ⟨oe, hz, ⟨vs, hd⟩, he, C.here.suite he hd C.na C.nl C.nf⟩
theorem Caught.moved (C : Caught X pins σ H s a cls d B sI) {h : Heap} (f : HandSPX.FlyingZ B (X.env :: X.outer) a (Zc cls d) h) (u : s.heap.UpToSlots h) : Caught X pins σ H { s with heap := h } a cls d B sI :=
  ⟨C.inv, C.nb, C.up.trans u, f, C.na, C.os, C.ag, C.nl, C.nf⟩
/-- the clauses, one after the other -/
theorem clauses_run (hs : X.stack = X.env :: X.outer) (hf : X.env.frame = some X.env.locals) (hN : X.N.Nodup) (tk : Takes X Wo) (C : Caught X pins σ H s a cls d B sI) {hds : List ExceptHandler} {l : List Clause} (hk : HdsM X hds l) :
    wMix X.K Wo D l cls d σ H → wpAny (model X.prog X.w) X.A (handleBy (.ref a) X.env hds) (SP X pins D) X.xe s := by
  have ok := C.inv.ok
  -- the test of a clause
  have tst : ∀ {x : Str} {c : Value} {p1 : Pos} {b : Bool} {Q : Bool → Shared → Prop} {E1 : Value → Shared → Prop}, Names X x c → PySem.W.exmOne X.K cls c = some b → Q b s →
      wpAny (model X.prog X.w) (X.A.mark (some (.ref a))) (eval (.Name x p1) X.env) (fun v s' => v = c ∧ s' = s) E1 s := fun {x c p1 b Q E1} hc _ _ => by
    obtain ⟨oe, _, _, _, S⟩ := C.suite
    obtain ⟨hg, hdbg, hm | ⟨hm, hv, hnn⟩⟩ := hc
    · exact ld_glob (X := X.suite a ((a, oe) :: (X.pn ++ pins))) S hg hm ⟨rfl, rfl⟩ hdbg
    · exact ld_blt (X := X.suite a ((a, oe) :: (X.pn ++ pins))) S hg hm hv ⟨rfl, rfl⟩ hnn hdbg
  have lm : ∀ {c : Value} {b : Bool}, PySem.W.exmOne X.K cls c = some b → PySem.W.Looks (model X.prog X.w) s.heap (excMatches (.ref a) c) b := fun {c b} e => by
    obtain ⟨oe, hz, _, he, _⟩ := C.suite
    exact PySem.W.exm_one (M := model X.prog X.w) C.here.kIn (fun A Q E s k q => wpAny_typeOf_ref (k _ _ he) (by rw [hz.1]; exact q)) e
  induction hk with
  | nil =>
    intro w
    refine wpAny_handleBy_nil ?_
    obtain ⟨_, _, _, oe, vs, T, oT, ts, he, _, hd, h1, _⟩ := id C.fly
    have out : wpAny (model X.prog X.w) X.A (setFlight (.ref a) X.env.frame) (fun _ s4 => wpAny (model X.prog X.w) X.A (throw (.ref a) : Sem Flow) (SP X pins D) X.xe s4) X.xe s := by
      rw [hf]
      exact HandSPX.setFlight_upZ C.fly fun h4 hh4 up4 => wpAny_throw (tk _ _ ⟨a, B, sI, pins, σ, H, cls, d, rfl, C.inv, C.nb, C.up.trans up4, .inr (.inr (hs ▸ hh4)), C.na, C.os, C.ag, w⟩)
    unfold PySem.passOn
    refine wpAny_bind (wpAny_field he hd h1 ?_)
    rw [if_neg (show ¬ ((Value.ref T == Value.none) = true) from by simp)]
    first
      | exact wpAny_bind (wpAny_pure (wpAny_bind out))
      | exact wpAny_bind out
  | @bare x c ts b bs p1 p2 hds2 l2 hc su r ih =>
    intro ⟨k, e1, yes, no⟩
    refine wpAny_handleBy_cons (codeAny_handlers_test ?_) (by intro q; cases q)
    refine wpAny_mono (tst (Q := fun _ _ => True) hc e1 trivial) (fun v s1 ⟨ev, es⟩ => ?_) fun _ _ z => z
    subst ev es
    refine (lm e1).here ?_
    cases k with
    | false => exact ih (no rfl)
    | true =>
      refine codeAny_handlers_suite (HandSPX.lands_againZ C.fly fun h4 fl4 up4 => ?_)
      obtain ⟨oe, hz, hd, _, S⟩ := (C.moved fl4 up4).suite
      refine wpAny_mono ((su a oe cls d (X.pn ++ pins) hz hd).run [] _ _ H _ S (yes rfl a C.na)) (fun f s6 hp => ?_) fun _ _ z => z.elim
      cases f with
      | ret u =>
        obtain ⟨v6, σ6, H6, S6, r6, q6⟩ := hp
        exact ⟨v6, σ6, H6, S6.unsuite ok, r6, q6⟩
      | next => obtain ⟨σ6, H6, S6, q6⟩ := hp; exact ⟨σ6, H6, S6.unsuite ok, q6⟩
      | brk => obtain ⟨σ6, H6, S6, q6⟩ := hp; exact ⟨σ6, H6, S6.unsuite ok, q6⟩
      | cont => obtain ⟨σ6, H6, S6, q6⟩ := hp; exact ⟨σ6, H6, S6.unsuite ok, q6⟩
  | @named x n i c ts b bs p1 p2 hds2 l2 hc hi hl su r ih =>
    intro ⟨k, e1, yes, no⟩
    refine wpAny_handleBy_cons (codeAny_handlers_test ?_) (by intro q; cases q)
    refine wpAny_mono (tst (Q := fun _ _ => True) hc e1 trivial) (fun v s1 ⟨ev, es⟩ => ?_) fun _ _ z => z
    subst ev es
    refine (lm e1).here ?_
    cases k with
    | false => exact ih (no rfl)
    | true =>
      refine codeAny_handlers_suite_as (HandSPX.lands_againZ C.fly fun h4 fl4 up4 => ?_)
      obtain ⟨oe, hz, hd, _, S⟩ := (C.moved fl4 up4).suite
      refine store_ok (X := X.suite a ((a, oe) :: (X.pn ++ pins))) (v := .ref a) S hN hi (.inl hl) rfl (fun s5 S5 => ?_) (.inr hl)
      refine wpAny_mono ((su a oe cls d (X.pn ++ pins) hz hd).run [] s5 _ H _ S5 (yes rfl a C.na)) (fun f s6 hp => ?_) fun _ _ z => z.elim
      have fin : ∀ {σ6 : Sto} {H6 : Hp} {Q : Shared → Prop}, Inv (X.suite a ((a, oe) :: (X.pn ++ pins))) [] σ6 H6 s6 → (∀ s7, Inv X pins (σ6.set i none) H6 s7 → Q s7) →
          wpAny (model X.prog X.w) X.A (do bindName X.env n .none; unbindBehindTheSuite X.env n p2) (fun _ s7 => Q s7) X.xe s6 := fun {σ6 H6 Q} S6 q => gone_ok (S6.unsuite ok) hN hi hl q
      cases f with
      | ret u =>
        obtain ⟨v6, σ6, H6, S6, r6, q6⟩ := hp
        exact fin S6 fun s7 J => ⟨v6, _, H6, J, r6, q6⟩
      | next => obtain ⟨σ6, H6, S6, q6⟩ := hp; exact fin S6 fun s7 J => ⟨_, _, J, q6⟩
      | brk => obtain ⟨σ6, H6, S6, q6⟩ := hp; exact fin S6 fun s7 J => ⟨_, _, J, q6⟩
      | cont => obtain ⟨σ6, H6, S6, q6⟩ := hp; exact fin S6 fun s7 J => ⟨_, _, J, q6⟩
end
section
variable {X : Cx} {body : List Stmt} {h₀ : ExceptHandler} {hds : List ExceptHandler} {l : List Clause} {pos : Pos} {tb : WX → TS} {Wo : WX}
theorem ps_try_mix (hs : X.stack = X.env :: X.outer) (hf : X.env.frame = some X.env.locals) (hN : X.N.Nodup) (tk : Takes X Wo)
    (hb : ∀ (W : WX) (pn : List (Addr × Obj)) (xe : Value → Shared → Prop), Takes (X.tr pn xe) W → PassesOwn (model X.prog X.w) X.A X.env xe → PSs (X.tr pn xe) body (tb W))
    (hh : HdsM X (h₀ :: hds) l) : L2.PS X (.Try body (h₀ :: hds) [] [] pos) (fun D σ H => tb (wMix X.K Wo D l) D σ H) := by
  refine ⟨fun pins s σ H D I h => wpAny_Try_except ?_⟩
  have ok := I.ok
  have hfr : X.A.frames = some (X.env :: X.outer) := by rw [ok.frames, hs]
  refine wpAny_mono ((hb (wMix X.K Wo D l) (X.pn ++ pins) (fun e s₁ => wpAny (model X.prog X.w) X.A (noteFrame e X.env) (fun _ s₂ => wpAny (model X.prog X.w) X.A (setFlight e none) (fun _ s₃ =>
    wpAny (model X.prog X.w) X.A (handleBy e X.env (h₀ :: hds)) (SP X pins D) X.xe s₃) X.xe s₂) X.xe s₁) (fun u s' xx => ?_) PassesOwn.looking).run [] s σ H D (I.toTry _) h) (fun f s1 hp => ?_) (fun e s1 he => he)
  · obtain ⟨a, B, sI, pins', σ', H', cls, d, rfl, J', nb, up, sky, na, os, ag, w⟩ := xx
    show wpAny (model X.prog X.w) X.A (noteFrame (.ref a) X.env) _ _ _
    refine Sky.land Zc.steady hfr hf (by rw [← hs]; exact sky) fun h3 fl3 up3 => ?_
    obtain ⟨oe, vs, he, hz, hd⟩ := fl3.there
    have nfr : a ∉ frs (X.env :: X.outer) := fun m => by
      obtain ⟨_, o, e, no⟩ := fl3.2.2.1.mem m
      rw [he] at e
      cases e
      exact no _ hd
    refine clauses_run (s := { s' with heap := h3 }) hs hf hN tk (B := B) (sI := sI) ⟨J'.ofTry ok, nb, up.trans up3, fl3, na, os, ag, fun z => nfr (List.mem_filterMap.mpr ⟨X.env, List.mem_cons_self, by rw [hf, z]⟩), fun m => ?_⟩ hh w
    obtain ⟨e, q, z⟩ := List.mem_filterMap.mp m
    exact nfr (List.mem_filterMap.mpr ⟨e, List.mem_cons_of_mem _ q, z⟩)
  · cases f with
    | next => obtain ⟨σ', H', J, q⟩ := hp; exact wpAny_execs_nil ⟨σ', H', J.ofTry ok, q⟩
    | brk => obtain ⟨σ', H', J, q⟩ := hp; exact ⟨σ', H', J.ofTry ok, q⟩
    | cont => obtain ⟨σ', H', J, q⟩ := hp; exact ⟨σ', H', J.ofTry ok, q⟩
    | ret u => obtain ⟨v, σ', H', J, r, q⟩ := hp; exact ⟨v, σ', H', J.ofTry ok, r, q⟩
end
end Bf
/-! The mirror layer: a def that calls what it got and tells the error: its clauses, lambdas handed to it. -/
namespace Bf
open PySem PySem.Spec PyProof.Rows L2
/-- what a clause answers: a text; a text with the repr of a field -/
inductive HK where
  | txt (m : Str) | fld (m f : Str)
/-- a clause's answer, as data -/
def hkM (n c : Nat) (e : Exc) : HK → Option D
  | .txt m => some (.str m)
  | .fld m f => if n = c then match e.fs.lookup f with
      | some y => match reprX [y] with
        | some (.str t) => if m.length + t.length ≤ sizeLine then some (.str (m ++ t)) else none
        | _ => none
      | none => none
    else none
/-- the first clause that takes the error -/
def selM (sub : Nat → Nat → Bool) (ex : List Nat) : List (Nat × HK) → Exc → Option D
  | [], _ => none
  | (c, hk) :: l, e => match e.c with
    | .own n => if n ∈ ex ∧ c ∈ ex then if sub n c = true then hkM n c e hk else selM sub ex l e else none
    | .bi _ => none
/-- the error told: sel its text, ret where there is none -/
def okStr : D → Option SV
  | .str t => if (decide (t.length ≤ sizeLine) && PyData.strOk t) = true then some (.d (.str t)) else none
  | _ => none
def vMet (sel : Exc → Option D) (ret : Str) (m : ME) : ME := fun s => match m s with
  | .ok _ s => .ok (.d (.str ret)) s
  | .err e s => R.of ((sel e).bind okStr) s
  | .stuck => .stuck
section
variable (K : PySem.W.Frag) (CT : Ctx)
/-- a clause's answer, as a reading -/
def hkE (C : Addr) (hk : HK) (cls : Value) (d : Option Addr) (H : Hp) (Q : VK) : Prop := match hk with
  | .txt m => Q (.str m) H
  | .fld m f => cls = .ref C ∧ ∃ dd vs v, d = some dd ∧ H dd = some (.xd vs) ∧ vs.lookup f = some v ∧ ∃ F as σ S y t, Env K CT F as H σ S ∧ Rep K CT F v y ∧ reprX [y] = some (.str t) ∧ m.length + t.length ≤ sizeLine ∧ ∀ F' H', Ext F as F' as → Env K CT F' as H' σ S → Q (.str (m ++ t)) H'
def selE (l : List (Addr × HK)) (cls : Value) (d : Option Addr) (H : Hp) (Q : VK) : Prop := match l with
  | [] => False
  | (C, hk) :: l => ∃ b, PySem.W.exmOne K cls (.ref C) = some b ∧ (b = true → hkE K CT C hk cls d H Q) ∧ (b = false → selE l cls d H Q)
/-- the clauses as the layer's -/
def mkCl (n : Nat) : Addr × HK × Nat → Clause
  | (C, .txt m, _) => (.ref C, none, fun _ _ _ D _ H => D.rt (.str m) H)
  | (C, .fld m f, i) => (.ref C, some i, fun a cls d D σ H => (σ.length = n → σ[i]? = some (some (.ref a))) ∧ hkE K CT C (.fld m f) cls d H D.rt)
theorem sel_mix (n : Nat) {D : Ends} {σ : Sto} {H : Hp} {cls : Value} {d : Option Addr} {Wo : WX} : ∀ l : List (Addr × HK × Nat), (∀ p ∈ l, p.2.2 < n) → selE K CT (l.map fun p => (p.1, p.2.1)) cls d H D.rt → wMix K Wo D (l.map (mkCl K CT n)) cls d σ H
  | [], _, h => h.elim
  | (C, .txt m, i) :: l, hl, ⟨b, e, y, z⟩ => ⟨b, e, fun hb a _ => y hb, fun hb => sel_mix n l (fun p hp => hl p (List.mem_cons_of_mem _ hp)) (z hb)⟩
  | (C, .fld m f, i) :: l, hl, ⟨b, e, y, z⟩ => ⟨b, e, fun hb a _ => ⟨fun q => by
      rw [List.length_set] at q
      exact List.getElem?_set_self (by rw [q]; exact hl _ (List.mem_cons_self ..)), y hb⟩, fun hb => sel_mix n l (fun p hp => hl p (List.mem_cons_of_mem _ hp)) (z hb)⟩
end
theorem sel_ok {K : PySem.W.Frag} {CT : Ctx} {F H : Hp} {as : List Addr} {σ : Sto} {S : PS} {e : Exc} {c : Value} {dx : Option Addr} {Q : VK} {sub : Nat → Nat → Bool} {ex : List Nat} (hex : ∀ n ∈ ex, ∀ c ∈ ex, PySem.W.exmOne K (.ref (CT n)) (.ref (CT c)) = some (sub n c))
    (n : Env K CT F as H σ S) (x : ExcOk K CT F H e c dx) {z : D} (hq : ∀ F' H' v, Ext F as F' as → Env K CT F' as H' σ S → Rep K CT F' v z → Q v H') (hz : ∀ m : Str, z = .str m → m.length ≤ sizeLine ∧ PyData.strOk m = true) : ∀ l : List (Nat × HK), selM sub ex l e = some z → selE K CT (l.map fun p => (CT p.1, p.2)) c dx H Q
  | [], h => by cases h
  | (k, hk) :: l, h => by
    unfold selM at h
    split at h
    · rename_i j hj
      split at h
      · rename_i hm
        obtain ⟨x1, x2⟩ := x
        rw [hj] at x1
        have x1 : c = .ref (CT j) := x1
        refine ⟨sub j k, by rw [x1]; exact hex j hm.1 k hm.2, fun hb => ?_, fun hb => ?_⟩
        · rw [if_pos hb] at h
          cases hk with
          | txt m =>
            have h : some (D.str m) = some z := h
            injection h with h
            obtain ⟨a, b⟩ := hz m h.symm
            exact hq _ _ _ .refl n (h ▸ Rep.str m a b)
          | fld m f =>
            simp only [hkM] at h
            split at h
            · rename_i hjk
              subst hjk
              refine ⟨x1, ?_⟩
              cases q : e.fs.lookup f with
              | none => rw [q] at h; cases h
              | some y =>
                rw [q] at h
                dsimp only at h
                rcases x2 with x2 | ⟨dd, vs, e1, e2, e3⟩
                · rw [x2] at q; cases q
                · obtain ⟨v, l1, r1⟩ := e3.look q
                  cases q2 : reprX [y] with
                  | none => rw [q2] at h; cases h
                  | some w =>
                    rw [q2] at h
                    cases w with
                    | str t =>
                      dsimp only at h
                      split at h
                      · rename_i hl
                        injection h with h
                        obtain ⟨a, b⟩ := hz _ h.symm
                        exact ⟨dd, vs, v, e1, e2, l1, F, as, σ, S, y, t, n, r1, q2, hl, fun F' H' ex n' => hq _ _ _ ex n' (h ▸ Rep.str _ a b)⟩
                      · cases h
                    | _ => cases h
            · cases h
        · rw [if_neg (by rw [hb]; simp)] at h
          exact sel_ok hex n ⟨by rw [hj]; exact x1, x2⟩ hq hz l h
      · cases h
    · cases h
section
variable {X : Cx} {CT : Ctx}
/-- return "m" -/
theorem su_txt {m : Str} {j : Nat} {a : Addr} {pn : List (Addr × Obj)} {p1 p2 : Pos} : PSs (X.suite a pn) [.Return (some (.Constant (.str m) j p1)) p2] (fun D _ H => D.rt (.str m) H) := pss_one (ps_ret pe_str)
theorem pss_len {ss : List Stmt} {t : TS} (h : PSs X ss t) : PSs X ss (fun D σ H => σ.length = X.N.length → t D σ H) := ⟨fun pins s σ H D I q => h.run pins s σ H D I (q I.len)⟩
/-- return "m" + repr(e.f) -/
theorem su_fld {m f n : Str} {i j : Nat} {a C : Addr} {oe : Obj} {cls : Value} {d : Option Addr} {pn : List (Addr × Obj)} {p1 p2 p3 p4 p5 p6 p7 : Pos} (T : XfC X.K C) (hno : PySem.W.findIn X.K (.ref C) f = some none) (hgd : X.A.guards = some []) (hu : X.A.units + 64 < cLine)
    (hz : Zc cls d oe) (hf : ∃ vs, oe.data = .fields vs) (hN : X.N[i]? = some n) (hv : Vis X.env.scope n) (hmr : X.mg "repr" = none) (hgr : Gl X "repr") (hd : (n == ("__debug__" : Str)) = false) (hcd : (n == ("__classdict__" : Str)) = false)
    (hb : attributeBase (.Name n p1) f X.env (eval (.Name n p1) X.env) = eval (.Name n p1) X.env) (hst : starEach [.Attribute (.Name n p1) f p2] X.env = (false, eval (.Attribute (.Name n p1) f p2) X.env) :: starEach [] X.env) (hpl : (backTo p5 (starEach [] X.env)).any (·.1) = false) :
    PSs (X.suite a ((a, oe) :: pn)) [.Return (some (.BinOp (.Constant (.str m) j p3) .Add (.Call (.Name "repr" p4) [.Attribute (.Name n p1) f p2] [] p5) p6)) p7]
      (fun D σ H => (σ.length = X.N.length → σ[i]? = some (some (.ref a))) ∧ hkE X.K CT C (.fld m f) cls d H D.rt) := by
  have e1 : PE (X.suite a ((a, oe) :: pn)) (.Attribute (.Name n p1) f p2) _ := pe_xf (pos := p2) T hno hz hf (pe_var (X := X.suite a ((a, oe) :: pn)) (i := i) hN hv hd hcd) hb
  have e2 := pe_callB (X := X.suite a ((a, oe) :: pn)) (p := p4) (pos := p5) (cb_reprX (X := X.suite a ((a, oe) :: pn)) (CT := CT) hgd hu) hgr hmr (by rfl : bootBuiltins "repr" = some (.builtin "repr")) (pa_cons e1 pa_nil hst) (by decide) (by decide) hst hpl
  have e3 := pe_op (X := X.suite a ((a, oe) :: pn)) (pos := p6) op_add_str (pe_str (x := m) (j := j) (pos := p3)) e2
  refine PSs.imp (pss_len (pss_one (ps_ret (pos := p7) e3))) fun D σ H ⟨q, hc, dd, vs, v, ed, eh, el, F, as, σ', S, y, t, n1, r1, er, hl, hq⟩ len => ?_
  refine ⟨.ref a, q len, rfl, hc, dd, vs, v, ed, eh, el, F, as, σ', S, [y], .str t, n1, .cons (.rep r1) .nil, er, fun v' F' H' ex n' r' => ?_⟩
  cases r'
  exact ⟨m, t, rfl, rfl, hl, hq F' H' ex n'⟩
end
end Bf
/-! The mirror layer: f(lambda: ..), f a def that calls it and tells the error. -/
namespace Bf
open PySem PySem.Spec PyProof.Rows L2 LamX
/-- LamX's GivesTo, by its parts -/
def GvTo (P : Program) (w : World) (K : PySem.W.Frag) (mg : Str → Option Value) (base : Heap) (A : Around) (stack : List PySem.Env) (Ng : List Str) (x : Str) (sg : Scope) (g : Addr) (cdg : Value) (bg : List Stmt) (a : Str) (q : Str) (TT : (XK → Hp → VK → Prop) → Hp → VK → Prop) : Prop :=
  ∀ (f c' : Addr) (s : Shared) (H : Hp) (Q : VK) (tl : XK → Hp → VK → Prop),
    (∀ (W : WX) (pn : List (Addr × Obj)) (xe : Value → Shared → Prop) (E : XK) (p1 p2 : Pos), Takes ((cxOf C8.CX0 P w K mg base Ng x sg g cdg A stack s H C8.E0).tr pn xe) W → (∀ cls d σ' H', E cls d H' → W cls d σ' H') →
      PE ((cxOf C8.CX0 P w K mg base Ng x sg g cdg A stack s H C8.E0).tr pn xe) (.Call (.Name a p1) [] [] p2) (fun σZ HZ Q => σZ[0]? = some (some (.ref f)) ∧ HZ c' = some (CodeO c' q) ∧ tl E HZ Q)) →
    H c' = some (CodeO c' q) → TT tl H Q →
    ∃ t, PSs (cxOf C8.CX0 P w K mg base Ng x sg g cdg A stack s H C8.E0).nox bg t ∧ t { nx := fun _ H' => Q .non H', rt := Q } (L2.start Ng [.ref f]) H
def TTmet (K : PySem.W.Frag) (CT : Ctx) (l : List (Addr × HK)) (ret : Str) : (XK → Hp → VK → Prop) → Hp → VK → Prop := fun tl H Q => tl (fun cls d H' => selE K CT l cls d H' Q) H (fun _ H' => Q (.str ret) H')
section
variable {P : Program} {w : World} {K : PySem.W.Frag} {mg : Str → Option Value} {base : Heap} {CT : Ctx} {A : Around} {stack : List PySem.Env} {Ng : List Str} {x a q ret : Str} {sg : Scope} {g : Addr} {cdg : Value} {h₀ : ExceptHandler} {hds : List ExceptHandler} {l : List (Addr × HK × Nat)} {p1 p2 p3 p4 p5 p6 : Pos} {j : Nat}
/-- try: a() / except ..: return .. / return ret -/
theorem gv_met (h0 : ∀ f : Addr, (L2.start Ng [V.ref f])[0]? = some (some (V.ref f))) (hN : Ng.Nodup) (hl : ∀ p ∈ l, p.2.2 < Ng.length)
    (hh : ∀ s H, HdsM (cxOf C8.CX0 P w K mg base Ng x sg g cdg A stack s H C8.E0).nox (h₀ :: hds) (l.map (mkCl K CT Ng.length)))
    (hsw : ∀ s H, swapsWith (.Call (.Name a p1) [] [] p2) none p3.line (cxOf C8.CX0 P w K mg base Ng x sg g cdg A stack s H C8.E0).env = pure false) :
    GvTo P w K mg base A stack Ng x sg g cdg [.Try [.Expr (.Call (.Name a p1) [] [] p2) p3] (h₀ :: hds) [] [] p4, .Return (some (.Constant (.str ret) j p5)) p6] a q (TTmet K CT (l.map fun p => (p.1, p.2.1)) ret) := by
  intro f c' s H Q tl act hc h
  refine ⟨_, pss_cons (ps_try_mix (X := (cxOf C8.CX0 P w K mg base Ng x sg g cdg A stack s H C8.E0).nox) (Wo := fun _ _ _ _ => False)
      (tb := fun W D σ H => ∃ Ech : XK, (∀ cls d σ' H', Ech cls d H' → W cls d σ' H') ∧ σ[0]? = some (some (.ref f)) ∧ H c' = some (CodeO c' q) ∧ tl Ech H (fun _ H1 => D.nx σ H1))
      rfl rfl hN LamX.takes0 (fun W pn xe tk _ => ⟨fun pins s' σ H' D I ⟨Ech, hW, h1, h2, h3⟩ => ?_⟩) (hh s H)) (pss_one (ps_ret pe_str)), ?_⟩
  · exact (pss_one (ps_expr (act W pn xe Ech p1 p2 tk hW) (hsw s H))).run pins s' σ H' D I ⟨h1, h2, h3⟩
  · have h : tl (fun cls d H' => selE K CT (l.map fun (p : Addr × HK × Nat) => (p.1, p.2.1)) cls d H' Q) H (fun _ H1 => Q (.str ret) H1) := h
    refine ⟨fun cls d H' => selE K CT (l.map fun (p : Addr × HK × Nat) => (p.1, p.2.1)) cls d H' Q, fun cls d σ H' z => ?_, h0 f, hc, h⟩
    exact sel_mix K CT Ng.length l hl z
end
theorem Env.extN {K : PySem.W.Frag} {CT : Ctx} {F H H1 : Hp} {as : List Addr} {σ : Sto} {s : PS} (n : Env K CT F as H σ s) (e : ExtN H H1) (t : Tabs CT.tabs H1) : Env K CT F as H1 σ s := by
  have keep : ∀ {a : Addr} {o : HO}, H a = some o → (∀ ps, o ≠ .tbl ps) → H1 a = some o := fun {a o} h no => e a o h no
  have same : ∀ {a : Addr} {c : Cell}, CellOk K CT F as H a c → c = .gone ∨ H1 a = H a := fun {a c} h => by
    cases c with
    | gone => exact .inl rfl
    | lst xs => obtain ⟨_, vs, h1, _⟩ := h; exact .inr ((keep h1 noTab_lst.1).trans h1.symm)
    | dic xs => obtain ⟨_, vs, h1, _⟩ := h; exact .inr ((keep h1 noTab_dK.1).trans h1.symm)
    | dit xs => obtain ⟨_, vs, h1, _⟩ := h; exact .inr ((keep h1 noTab_dT.1).trans h1.symm)
    | lsv xs => obtain ⟨_, vs, h1, _⟩ := h; exact .inr ((keep h1 noTab_lst.1).trans h1.symm)
    | ins c fs => obtain ⟨_, dx, vs, h1, _⟩ := h; exact .inr ((keep h1 noTab_ins.1).trans h1.symm)
  refine ⟨fun a o h => keep (n.sub a o h) fun ps z => n.wk.tb.nf a ps (z ▸ h), ⟨n.wk.len, n.wk.nd, ⟨t, n.wk.tb.nf, fun a m ps h => ?_⟩, fun a m h => ?_, fun k c a h1 h2 => ?_⟩, n.gl, n.sl⟩
  · cases q : H a with
    | none => exact n.live m q
    | some o =>
      have no : ∀ ps, o ≠ .tbl ps := fun ps z => n.wk.tb.na a m ps (z ▸ q)
      rw [keep q no] at h
      exact no _ (Option.some.inj h)
  · cases q : H a with
    | none => exact n.live m q
    | some o =>
      rw [keep q fun ps z => n.wk.tb.na a m ps (z ▸ q)] at h
      cases h
  · have q := n.wk.ok k c a h1 h2
    rcases same q with z | z
    · subst z; trivial
    · rcases q.none with z2 | z2
      · subst z2; trivial
      · exact q.mono .refl z2 z
section
variable {X : Cx} {CT : Ctx} {E : Sto → XK} {x a ret qf : Str} {g c P : Addr} {k : Nat} {pg : Arguments} {bg : List Stmt} {sg : Scope} {dV kV doc pm cdv ct oc : Value} {an od : Option Addr} {osl : Array (Option Value)} {Ng : List Str} {params : Arguments} {body : Expr} {scope : Scope}
  {m : ME} {p lpos pos : Pos} {hs : List (Nat × HK)} {sub : Nat → Nat → Bool} {exs : List Nat}
/-- the context of a lambda's body -/
theorem lam_cq (nd : X.N.Nodup) {A : Around} {outer : List PySem.Env} {s : Shared} {H : Hp} {E : XK} {f c' : Addr} : Cq (lamCx X A outer s H E scope f c') (fun _ => E) :=
  ⟨rfl, passes_of rfl, fun σ => passAt (W := fun c d _ H => E c d H) (takes_of rfl rfl rfl rfl) σ, nd, takes_of rfl rfl rfl rfl⟩
/-- x(lambda: body) -/
theorem me_met (hx : Cq X E) (hex : ∀ n ∈ exs, ∀ c ∈ exs, PySem.W.exmOne X.K (.ref (CT n)) (.ref (CT c)) = some (sub n c)) (hret : ret.length ≤ sizeLine) (hret2 : PyData.strOk ret = true)
    (hm : X.mg x = some (.ref g)) (hk : PySem.W.keepIn X.K (.ref g) = true)
    (lk : X.K.lookup g = some ⟨oc, od, .func (PySem.W.fnOf x x pg bg sg dV kV doc pm an cdv ct), osl⟩) (hcg : PySem.W.codeIn X.K cdv x = true) (hb : L2.Binds X.K (PySem.W.fnOf x x pg bg sg dV kV doc pm an cdv ct) [a] []) (Sg : FnScope Ng [a] sg) (hNg : Ng[0]? = some a) (hva : Vis sg a)
    (hG : GvTo X.prog X.w X.K X.mg X.base X.A X.stack Ng x sg g cdv bg a (X.env.qual ++ "<lambda>") (TTmet X.K CT (hs.map fun p => (CT p.1, p.2)) ret))
    (TB : TabB X.base X.mg c P) (hmT : (P, qf) ∈ CT.tabs) (hu : ∀ p ∈ CT.tabs, p.1 = P → p.2 = qf) (hr : Room (k + 2) X.A)
    (hbody : ∀ (A : Around) (outer : List PySem.Env) (s : Shared) (H : Hp) (E : XK) (f c' : Addr), Room k (lamCx X A outer s H E scope f c').A → Cq (lamCx X A outer s H E scope f c') (fun _ => E) → PE (lamCx X A outer s H E scope f c') body (up X.K CT (fun _ => E) m))
    (hcode : X.env.code = .ref c := by rfl) (hqf : X.env.qual ++ "<lambda>" = qf := by rfl) (hg : Gl X x := by rfl) (L : lamSB X.env.scope scope = true := by decide +kernel) (hdef : defaultsOf params X.env = ([], []) := by rfl)
    (hbind : ∀ (q : Str) (cl : List (Str × Addr)) (pm cv ctv : Value), bindArgs (PySem.W.kla_fn "<lambda>" q params body scope cl pm cv ctv) ⟨[], []⟩ = pure [] := by intros; rfl)
    (hdb : (x == ("__debug__" : Str)) = false := by decide) (hd : (a == ("__debug__" : Str)) = false := by decide) (hcd : (a == ("__classdict__" : Str)) = false := by decide) :
    PE X (.Call (.Name x p) [.Lambda params body scope lpos] [] pos) (up X.K CT E (vMet (selM sub exs hs) ret m)) := by
  subst hqf
  refine PE.imp (pe_lamcall hg hm hk lk hcg hb Sg hNg hva hG TB hcode hmT hu hr (lamS_by L) hdef hbind (t := fun E' => up X.K CT (fun _ => E') m) (fun A outer s H E f c' hr' => hbody A outer s H E f c' hr' (lam_cq hx.nd)) hdb hd hcd) fun σ H Q ⟨F, as, s, n, h⟩ => ?_
  refine ⟨n.wk.tb.tabs, fun H1 e t1 => ⟨F, as, s, n.extN e t1, ?_⟩⟩
  unfold vMet at h
  cases q : m s with
  | stuck => simp only [q] at h; exact h.elim
  | ok y s1 =>
    simp only [q] at h
    exact fun F' as' σ' H' o ex n' v r => h F' as' σ' H' o ex n' (.str ret) (Rep.str ret hret hret2)
  | err er s1 =>
    simp only [q] at h
    intro cc dx F' as' σ' H' o ex n' xo
    cases q1 : selM sub exs hs er with
    | none => simp only [q1] at h; exact h.elim
    | some z =>
      simp only [q1, Option.bind_some] at h
      cases q2 : okStr z with
      | none => simp only [q2] at h; exact h.elim
      | some zv =>
        simp only [q2] at h
        cases z with
        | str t =>
          simp only [okStr] at q2
          split at q2
          · rename_i hz
            rw [Bool.and_eq_true, decide_eq_true_eq] at hz
            injection q2 with q2
            subst q2
            refine sel_ok hex n' xo (fun F2 H2 v ex2 n2 r2 => h F2 as' σ' H2 o (ex.trans ex2) n2 v r2) (fun m e => ?_) hs q1
            cases e
            exact hz
          · cases q2
        | _ => cases q2
end
end Bf
/-! The mirror layer: calls of a name that holds one of several defs. -/
/-! The mirror layer: the row's end where code objects have tables, and nothing is being shown. -/
namespace Bf
open PySem PySem.Spec PyProof.Rows L2 LamX
/-- the tracked heap at the law's call: the empty tables, the script at a unless the written part has it -/
def topH (ts : List Addr) (a : Addr) (o : Option HO) : Hp := fun b => if b ∈ ts then some (.tbl #[]) else if b = a then o else none
section
variable {ts : List Addr} {a b : Addr} {o : Option HO} {u : HO}
theorem topH_tab (h : b ∈ ts) : topH ts a o b = some (.tbl #[]) := if_pos h
theorem topH_scr (h : a ∉ ts) : topH ts a o a = o := by
  unfold topH
  rw [if_neg h, if_pos rfl]
theorem topH_case (h : topH ts a o b = some u) : (b ∈ ts ∧ u = .tbl #[]) ∨ (b ∉ ts ∧ b = a ∧ o = some u) := by
  unfold topH at h
  split at h
  · rename_i m
    exact .inl ⟨m, (Option.some.inj h).symm⟩
  · rename_i m
    split at h
    · rename_i e
      exact .inr ⟨m, e, h⟩
    · cases h
end
abbrev emptyT : Obj := { cls := .none, data := .fields #[] }
section
variable {P : Program} {w : World} {K : PySem.W.Frag} {mg mb : Str → Option Value} {k : Nat} {fa a : Addr} {cs : List (Addr × Addr)} {fd : FuncData} {x : Str} {CT : Ctx} {f : Fn} {S : Shared} {vs : List Value} {ns : List Int}
theorem law_sp1 {H : Hp} {wl : List Cell} (e : f [.d (.scr ns)] [] = .ok (.d (.bl true)) wl) (hS : SqL K H a (ns.map V.int)) (hT : Tabs CT.tabs H) : spF K CT 1 f [.ref a] H (fun v _ => v = .bl true) fun _ _ _ => False := by
  refine ⟨rfl, noT H, [], [], [.d (.scr ns)], noT_sub H, ⟨rfl, .nil, ⟨hT, noT_tbl H, fun _ m => by simp at m⟩, fun _ m => by simp at m, fun k c a h => by simp at h⟩, .cons (Rep.scr (noT_sq hS)) .nil, ?_⟩
  rw [e]
  intro v F' as' H' _ _ _ r
  have r : Rep K CT F' v (.bl true) := r
  cases r
  rfl
theorem law_run (KX : K.In S.heap) (hg : S.heap.Ns mainGlobals mg) (hb : S.heap.Ns builtinsNs mb) (hbb : ∀ x : Str, x ≠ "__name__" → mb x = bootBuiltins x) (lim : S.heap.NoLimit) (gn : S.gens = #[])
    (tE : ∀ p ∈ cs, S.heap.get? p.2 = some emptyT) (tN : ∀ p ∈ cs, K.lookup p.2 = none) (tC : ∀ p ∈ cs, PySem.W.CodeHd S.heap p.1 p.2) (tS : ∀ p ∈ CT.tabs, p.1 ∈ cs.map (·.2))
    (bmain : ∃ (bm : Addr) (ob : Obj), mg "__builtins__" = some (.ref bm) ∧ bm ≠ builtinsNs ∧ S.heap.get? bm = some ob ∧ ob.cls = .type "module" ∧ ob.dict = some builtinsNs ∧ ob.data = .plain)
    (ha : S.heap.get? a = some { cls := .type "list", data := .seq vs.toArray }) (hi : IntsAre vs ns) (hl : ns.length ≤ sizeLine) (hr : Room k callerA)
    (go : ∀ base : Heap, (∀ p ∈ cs, TabB base mg p.1 p.2) → FqG P w K mg base CT k fa fd [x] f) (hbind : ∀ u : Value, BindsTo S fd ⟨[u], []⟩ [(x, u)]) {wl : List Cell} (hf : f [.d (.scr ns)] [] = .ok (.d (.bl true)) wl) :
    codeAny (model P w) callerA (.call (.ref fa) ⟨[.ref a], []⟩) (fun r s' => r = .ok (.ret (.bool true)) ∧ OldK S.heap s'.heap ∧ s'.os = S.os ∧ AllBare s'.gens) S := by
  obtain ⟨ts, hts⟩ : ∃ ts, ts = cs.map (·.2) := ⟨_, rfl⟩
  have inT : ∀ p ∈ cs, p.2 ∈ ts := fun p hp => hts ▸ List.mem_map.mpr ⟨p, hp, rfl⟩
  have ofT : ∀ b ∈ ts, ∃ p ∈ cs, p.2 = b := fun b hb => by
    rw [hts] at hb
    obtain ⟨p, hp, e⟩ := List.mem_map.mp hb
    exact ⟨p, hp, e⟩
  have atT : ∀ b ∈ ts, S.heap.get? b = some emptyT := fun b hb => by
    obtain ⟨p, hp, e⟩ := ofT b hb
    exact e ▸ tE p hp
  have rv := vals_ints hi
  have aT : a ∉ ts := fun m => by
    have e := atT a m
    rw [ha] at e
    cases e
  -- what is tracked of the script
  obtain ⟨o, ho, hoK, hoS⟩ : ∃ o : Option HO, (∀ u, o = some u → u = .frz { cls := .type "list", data := .seq vs.toArray } (.lst (ns.map V.int))) ∧ (o ≠ none → K.lookup a = none) ∧ (o = none → ∃ q, K.lookup a = some q) := by
    cases e : K.lookup a with
    | none => exact ⟨some (.frz { cls := .type "list", data := .seq vs.toArray } (.lst (ns.map V.int))), fun u z => (Option.some.inj z).symm, fun _ => rfl, fun z => (by cases z)⟩
    | some q => exact ⟨none, fun u z => (by cases z), fun z => absurd rfl z, fun _ => ⟨q, rfl⟩⟩
  obtain ⟨H, hH⟩ : ∃ H, H = topH ts a o := ⟨_, rfl⟩
  have hA : ∀ {b u}, H b = some u → (b ∈ ts ∧ u = .tbl #[]) ∨ (b = a ∧ u = .frz { cls := .type "list", data := .seq vs.toArray } (.lst (ns.map V.int)) ∧ o ≠ none) := fun {b u} h => by
    rw [hH] at h
    rcases topH_case h with ⟨m, e⟩ | ⟨_, e, q⟩
    · exact .inl ⟨m, e⟩
    · exact .inr ⟨e, ho u q, by rw [q]; simp⟩
  have okH : HOk P w H S.heap := fun b u h => by
    rcases hA h with ⟨m, rfl⟩ | ⟨rfl, rfl, _⟩
    · exact atT b m
    · exact ⟨ha, by rw [List.length_map]; exact hl, vs, _, rv, ha⟩
  have free : ∀ {b : Addr} {ob : Obj}, S.heap.get? b = some ob → (∀ xs n, ob.data ≠ .seq xs n) → ob.data ≠ .fields #[] → H b = none := fun {b ob} e n1 n2 => by
    cases q : H b with
    | none => rfl
    | some u =>
      rcases hA q with ⟨m, _⟩ | ⟨rfl, _, _⟩
      · rw [atT b m] at e
        cases e
        exact absurd rfl n2
      · rw [ha] at e
        cases e
        exact absurd rfl (n1 _ _)
  have bas : ∀ {b : Addr} {ob : Obj}, S.heap.get? b = some ob → (∀ xs n, ob.data ≠ .seq xs n) → ob.data ≠ .fields #[] → (hidT S.heap H).get? b = some ob := fun e n1 n2 => hidT_get e (free e n1 n2)
  have nsB : ∀ {b : Addr} {m : Str → Option Value}, S.heap.Ns b m → (hidT S.heap H).Ns b m := fun {b m} ⟨ob, es, ep, e, d, r⟩ => ⟨ob, es, ep, bas e (fun _ _ z => by rw [d] at z; cases z) (fun z => by rw [d] at z; cases z), d, r⟩
  have kB : K.In (hidT S.heap H) := fun b ob e => hidT_get (KX b ob e) (by
    cases q : H b with
    | none => rfl
    | some u =>
      rcases hA q with ⟨m, _⟩ | ⟨rfl, _, z⟩
      · obtain ⟨p, hp, rfl⟩ := ofT b m
        rw [tN p hp] at e
        cases e
      · rw [hoK z] at e
        cases e)
  have md : L2.Mod K mg (hidT S.heap H) := by
    obtain ⟨mc, l1, l2⟩ := lim
    exact ⟨kB, nsB hg, ⟨mb, nsB hb, hbb⟩, mc, nsB l1, l2⟩
  have tB : ∀ p ∈ cs, TabB (hidT S.heap H) mg p.1 p.2 := fun p hp => by
    refine ⟨?_, ?_, fun z => ?_⟩
    · obtain ⟨oc, us, file, tf, flags, tg, inF, text, tt, e1, r1, r2, r3, rest⟩ := tC p hp
      exact ⟨oc, us, file, tf, flags, tg, inF, text, tt, bas e1 (fun _ _ z => by rw [r2] at z; cases z) (fun z => by rw [r2] at z; cases z; simp at r3), r1, r2, r3, rest⟩
    · obtain ⟨bm, ob, b1, b2, b3, b4, b5, b6⟩ := bmain
      refine ⟨bm, ob, b1, b2, fun q => ?_, fun q => ?_, bas b3 (fun _ _ z => by rw [b6] at z; cases z) (fun z => by rw [b6] at z; cases z), b4, b5, b6⟩
      · obtain ⟨oG, es, ep, e, hd, _⟩ := hg
        rw [q, e] at b3
        cases b3
        rw [hd] at b6
        cases b6
      · rw [q, tE p hp] at b3
        cases b3
        cases b6
    · obtain ⟨oG, es, ep, e, hd, _⟩ := hg
      rw [z, tE p hp] at e
      cases e
      cases hd
  have e0 : Env0 P w K mg (hidT S.heap H) callerA [] S H := ⟨rfl, md, fun b ob e => of_hidT e, Nat.le_of_eq (hidT_size _ _), trivial, fun b m => (by cases (show b ∈ ([] : List Addr) from m)), okH, .of_eq gn⟩
  have hS : SqL K H a (ns.map V.int) := by
    cases q : o with
    | some u =>
      have e := ho u q
      subst e
      exact .inl (.inr ⟨_, by rw [hH, topH_scr aT]; exact q⟩)
    | none =>
      obtain ⟨ob, e⟩ := hoS q
      have e2 := KX a ob e
      rw [ha] at e2
      cases e2
      exact .inr ⟨_, vs.toArray, _, e, rfl, rfl, rfl, by rw [List.size_toArray, hi.length]; exact hl, by simpa using rv⟩
  have hT : Tabs CT.tabs H := fun p hp => .nil (by rw [hH]; exact topH_tab (hts ▸ tS p hp))
  have run := (go (hidT S.heap H) tB).go callerA [] S H ⟨[.ref a], []⟩ [.ref a] [.ref a] _ _ hr rfl e0 (hbind (.ref a)) (.cons rfl .nil) (law_sp1 hf hS hT)
  refine codeAny_mono run fun r s' h => ?_
  cases r with
  | error e => exact (cx_none H S e s' h).elim
  | ok fl =>
    cases fl with
    | next => exact False.elim h
    | brk => exact False.elim h
    | cont => exact False.elim h
    | ret u =>
      obtain ⟨v, H', os, bare, un, hok, r, q⟩ := h
      have q : v = .bl true := q
      subst q
      obtain rfl : u = Value.bool true := r
      have keep : ∀ b ob, b ∉ ts → S.heap.get? b = some ob → s'.heap.get? b = some ob := fun b ob nb e => by
        cases z : H b with
        | none => exact un.keep b ob e z (by intro z; cases (show b ∈ ([] : List Addr) from z)) (by simp)
        | some u =>
          rcases hA z with ⟨m, _⟩ | ⟨rfl, rfl, _⟩
          · exact absurd m nb
          · obtain ⟨e2, _⟩ := hok b _ (un.frzs b _ _ z)
            rw [ha] at e
            cases e
            exact e2
      have grow : ∀ p ∈ cs, ∃ more : Array Value, s'.heap.get? p.2 = some { cls := .none, data := .fields more } := fun p hp => by
        obtain ⟨more, z⟩ := un.tbls p.2 #[] (by rw [hH]; exact topH_tab (inT p hp))
        exact ⟨_, hok p.2 _ z⟩
      refine ⟨rfl, ⟨fun b ob e => ?_, fun b ob e => ?_⟩, os, bare⟩
      · by_cases m : b ∈ ts
        · obtain ⟨p, hp, rfl⟩ := ofT b m
          obtain ⟨more, z⟩ := grow p hp
          have e1 := tE p hp
          rw [e] at e1
          injection e1 with e1
          rw [e1]
          exact .inr (.inl ⟨((tC p hp).tab (tE p hp)).isCodeTable, rfl, #[], more, rfl, by rw [Array.empty_append]; exact z⟩)
        · exact .inl (keep b ob m e)
      · by_cases m : b ∈ ts
        · obtain ⟨p, hp, rfl⟩ := ofT b m
          obtain ⟨more, z⟩ := grow p hp
          exact ⟨_, z⟩
        · exact ⟨ob, keep b ob m e⟩
end
theorem walk_g {l : PySem.W.OpenLaw} {n k : Nat} {q : Program} {loose : List Str} {XP : (Str → Option Value) → Heap → Prop} {YP : World → Heap → Prop} {d : DefRec} {K : Params → PySem.W.Frag} {x : Str} {f : Fn} (names : List Str) (tabs : List (Addr × Str)) (cs : List (Addr × Addr))
    (hn : l.most = some n) (hn2 : n ≤ sizeLine) (hdf : d.params.defaults = []) (hr : Room k callerA) (hY : ∀ (w : World) (h : Heap), YP w h → (K w.params).In h)
    (hE : ∀ (w : World) (h : Heap), YP w h → ∀ p ∈ cs, h.get? p.2 = some emptyT) (hNo : ∀ w : World, ∀ p ∈ cs, (K w.params).lookup p.2 = none) (hC : ∀ (w : World) (h : Heap), (K w.params).In h → ∀ p ∈ cs, PySem.W.CodeHd h p.1 p.2) (hS : ∀ p ∈ tabs, p.1 ∈ cs.map (·.2))
    (hf : ∀ ns : List Int, ns.length ≤ n → ∃ w, f [.d (.scr ns)] [] = .ok (.d (.bl true)) w)
    (F : ∀ (w : World) (mg : Str → Option Value) (fa : Addr) (h : Heap), (K w.params).In h → h.Ns mainGlobals mg → mg d.name = some (.ref fa) →
      ∃ fd : FuncData, (∀ (s : Shared) (u : Value), BindsTo s fd ⟨[u], []⟩ [(x, u)]) ∧ ∀ base : Heap, (∀ p ∈ cs, TabB base mg p.1 p.2) → FqG l.prog w (K w.params) mg base ⟨clsAt (K w.params) names, tabs⟩ k fa fd [x] f) :
    PySem.W.WalkO q loose XP YP l.row.toRowW d [] (fun f vs => PySem.call f vs) := by
  refine Att.attach_callB hn hdf fun w s₀ s₁ mg mb fa o pm cd doc a vs ns G Y _ _ _ hmg hobj hints hlen _ hg => ?_
  have KX := hY w _ Y
  obtain ⟨fd, hb, hF⟩ := F w mg fa _ KX G.T.g hmg
  obtain ⟨wl, e⟩ := hf ns hlen
  exact law_run (CT := ⟨clsAt (K w.params) names, tabs⟩) KX G.T.g G.T.b G.T.builtins G.T.nolimit hg (hE w _ Y) (hNo w) (hC w _ KX) hS G.T.bmain hobj hints (Nat.le_trans hlen hn2) hr hF (hb s₁) e
end Bf
/-! The mirror layer: short forms for printed derivations with errors. -/
namespace Bf
open PySem PySem.Spec PyProof.Rows L2 LamX
section
variable {X : Cx} {CT : Ctx} {E : Sto → XK} {x a ret qf : Str} {g c P : Addr} {k : Nat} {fd : FuncData} {st : Stmt} {Ng : List Str} {params : Arguments} {body : Expr} {scope : Scope}
  {m : ME} {p lpos pos : Pos} {hs : List (Nat × HK)} {sub : Nat → Nat → Bool} {exs : List Nat}
theorem me_metF (hx : Cq X E) (hex : ∀ n ∈ exs, ∀ c ∈ exs, PySem.W.exmOne X.K (.ref (CT n)) (.ref (CT c)) = some (sub n c)) (hm : X.mg x = some (.ref g)) (Fk : Fun X.K x x st g fd) (hb : L2.Binds X.K fd [a] []) (Sg : FnScope Ng [a] (defScope st))
    (hG : ∀ cdv, GvTo X.prog X.w X.K X.mg X.base X.A X.stack Ng x (defScope st) g cdv (defBody st) a (X.env.qual ++ "<lambda>") (TTmet X.K CT (hs.map fun p => (CT p.1, p.2)) ret))
    (TB : TabB X.base X.mg c P) (hmT : (P, qf) ∈ CT.tabs) (hu : ∀ p ∈ CT.tabs, p.1 = P → p.2 = qf) (hr : Room (k + 2) X.A)
    (hbody : ∀ (A : Around) (outer : List PySem.Env) (s : Shared) (H : Hp) (E : XK) (f c' : Addr), Room k (lamCx X A outer s H E scope f c').A → Cq (lamCx X A outer s H E scope f c') (fun _ => E) → PE (lamCx X A outer s H E scope f c') body (up X.K CT (fun _ => E) m))
    (hret : ret.length ≤ 100000 := by decide +kernel) (hret2 : PyData.strOk ret = true := by decide +kernel) (hNg : Ng[0]? = some a := by rfl) (hva : Vis (defScope st) a := by first | exact Or.inl rfl | exact Or.inr (Or.inl rfl) | exact Or.inr (Or.inr rfl))
    (hcode : X.env.code = .ref c := by rfl) (hqf : X.env.qual ++ "<lambda>" = qf := by rfl) (hg : Gl X x := by rfl) (L : lamSB X.env.scope scope = true := by decide +kernel) (hdef : defaultsOf params X.env = ([], []) := by rfl)
    (hbind : ∀ (q : Str) (cl : List (Str × Addr)) (pm cv ctv : Value), bindArgs (PySem.W.kla_fn "<lambda>" q params body scope cl pm cv ctv) ⟨[], []⟩ = pure [] := by intros; rfl)
    (hdb : (x == ("__debug__" : Str)) = false := by decide) (hd : (a == ("__debug__" : Str)) = false := by decide) (hcd : (a == ("__classdict__" : Str)) = false := by decide) :
    PE X (.Call (.Name x p) [.Lambda params body scope lpos] [] pos) (up X.K CT E (vMet (selM sub exs hs) ret m)) := by
  obtain ⟨oc, od, kV, doc, pm, an, cdv, ct, osl, rfl, lk, hcd'⟩ := Fk.ex
  exact me_met hx hex (Nat.le_trans hret (by rw [sizeLine_eq]; decide)) hret2 hm Fk.kp lk hcd' hb Sg hNg hva (hG cdv) TB hmT hu hr hbody hcode hqf hg L hdef hbind hdb hd hcd
end
theorem funC_mk {K : PySem.W.Frag} {x qual : Str} {st : Stmt} {f c : Addr} {oc : Value} {od an : Option Addr} {osl : Array (Option Value)} {kV doc pm ct : Value} (l : K.lookup f = some ⟨oc, od, .func (PySem.W.fnOf x qual (defArgs st) (defBody st) (defScope st) .none kV doc pm an (.ref c) ct), osl⟩)
    (h : PySem.W.codeIn K (.ref c) qual = true) (k : PySem.W.keepIn K (.ref f) = true) : FunC K x qual st f (PySem.W.fnOf x qual (defArgs st) (defBody st) (defScope st) .none kV doc pm an (.ref c) ct) c := ⟨⟨oc, od, kV, doc, pm, an, ct, osl, rfl, l, h⟩, k⟩
/-- {6: 5} -/
def vDic1 (i j : Int) : ME := fun s => .ok (.d (.dic [(.int i, .int j)])) s
theorem me_dic1 {X : Cx} {CT : Ctx} {E : Sto → XK} {i j : Int} {k1 k2 : _} {p1 p2 pos : Pos} : PE X (.Dict [some (.Constant (.int i) k1 p1)] [.Constant (.int j) k2 p2] pos) (up X.K CT E (vDic1 i j)) :=
  PE.imp (pe_disp (pps_cons pe_int pe_int pps_nil) rfl rfl (by simp) (by simp)) fun σ H Q ⟨F, as, s, n, h⟩ p hp => by
    refine ⟨upd_same, [(.inl i, .int j)], rfl, by simp, ?_⟩
    rw [upd_upd]
    obtain ⟨e2, n2⟩ := n.new (.dK [(.inl i, .int j)]) hp
    exact h.there (σ := σ) rfl e2 n2 _ (Rep.dK upd_same (.cons (.int j) .nil))
end Bf
/-! The mirror layer: plain reasoning about mirrors that may raise. -/
namespace Bf
open PySem L2
@[irreducible] def TE {α : Type} (r : R α) (Q : α → PS → Prop) (E : Exc → PS → Prop) : Prop := match r with
  | .ok a s => Q a s
  | .err e s => E e s
  | .stuck => False
/-- a def's outcome, or what it raises -/
@[irreducible] def FE (f : Fn) (xs : List SV) (w : List Cell) (Q : SV → List Cell → Prop) (E : Exc → List Cell → Prop) : Prop := match f xs w with
  | .ok x w => Q x w
  | .err e w => E e w
  | .stuck => False
theorem TE_ok {α : Type} {a : α} {s : PS} {Q : α → PS → Prop} {E : Exc → PS → Prop} : TE (.ok a s) Q E ↔ Q a s := by unfold TE; exact Iff.rfl
theorem TE_err {α : Type} {e : Exc} {s : PS} {Q : α → PS → Prop} {E : Exc → PS → Prop} : TE (.err e s : R α) Q E ↔ E e s := by unfold TE; exact Iff.rfl
theorem TE_stuck {α : Type} {Q : α → PS → Prop} {E : Exc → PS → Prop} : TE (.stuck : R α) Q E ↔ False := by unfold TE; exact Iff.rfl
theorem TE_bind {α β : Type} {r : R α} {f : α → PS → R β} {Q : β → PS → Prop} {E : Exc → PS → Prop} : TE (r.bind f) Q E ↔ TE r (fun a s => TE (f a s) Q E) E := by cases r <;> (unfold TE; exact Iff.rfl)
theorem TE.imp {α : Type} {r : R α} {Q Q' : α → PS → Prop} {E E' : Exc → PS → Prop} (h : TE r Q E) (i : ∀ a s, Q a s → Q' a s) (j : ∀ e s, E e s → E' e s) : TE r Q' E' := by
  unfold TE at h ⊢
  cases r with
  | ok a s => exact i a s h
  | err e s => exact j e s h
  | stuck => exact h
/-- what does not raise -/
theorem TE_of {α : Type} {r : R α} {Q : α → PS → Prop} {E : Exc → PS → Prop} (h : T r Q) : TE r Q E := by
  obtain ⟨a, s, rfl, q⟩ := h.eq
  exact TE_ok.mpr q
theorem FE.imp {f : Fn} {xs : List SV} {w : List Cell} {Q Q' : SV → List Cell → Prop} {E E' : Exc → List Cell → Prop} (h : FE f xs w Q E) (i : ∀ x w, Q x w → Q' x w) (j : ∀ e w, E e w → E' e w) : FE f xs w Q' E' := by
  unfold FE at *
  cases q : f xs w with
  | ok a s => rw [q] at h; exact i a s h
  | err e s => rw [q] at h; exact j e s h
  | stuck => rw [q] at h; exact h
theorem FE_of {f : Fn} {xs : List SV} {w : List Cell} {Q : SV → List Cell → Prop} {E : Exc → List Cell → Prop} (h : FT f xs w Q) : FE f xs w Q E := by
  unfold FT at h
  unfold FE
  cases q : f xs w with
  | ok a s => rw [q] at h; exact h
  | err e s => rw [q] at h; exact h.elim
  | stuck => rw [q] at h; exact h
section
variable {s : PS} {Q : SV → PS → Prop} {QS : Fl → PS → Prop} {E : Exc → PS → Prop} {a : ME} {m n : MS} {t : MT} {r : MA} {f : Fn}
theorem TE_seq : TE (sSeq m n s) QS E ↔ TE (m s) (fun f s => match f with
    | .nx => TE (n s) QS E
    | f => QS f s) E := by
  unfold sSeq
  rw [TE_bind]
  refine iff_of_eq (congrArg (fun q => TE (m s) q E) (funext fun f => funext fun s => ?_))
  cases f <;> first | rfl | exact propext TE_ok
theorem TE_exp : TE (sExp a s) QS E ↔ TE (a s) (fun _ s => QS .nx s) E := by
  unfold sExp
  rw [TE_bind]
  simp only [TE_ok]
theorem TE_if : TE (sIf t m n s) QS E ↔ TE (t s) (fun c s => if c = true then TE (m s) QS E else TE (n s) QS E) E := by
  unfold sIf
  rw [TE_bind]
  refine iff_of_eq (congrArg (fun q => TE (t s) q E) (funext fun c => funext fun s => ?_))
  cases c <;> rfl
theorem TE_call : TE (vCall f r s) Q E ↔ TE (r s) (fun xs s => FE f xs s.w (fun x w => Q x { s with w := w }) fun e w => E e { s with w := w }) E := by
  unfold vCall
  rw [TE_bind]
  refine iff_of_eq (congrArg (fun q => TE (r s) q E) (funext fun xs => funext fun s => propext ?_))
  unfold FE
  cases f xs s.w <;> first | exact TE_ok | exact TE_err | exact TE_stuck
theorem TE_raise {n : Nat} : TE (sRaise n a s) QS E ↔ TE (a s) (fun _ s => E ⟨.own n, []⟩ s) E := by
  unfold sRaise
  rw [TE_bind]
  simp only [TE_err]
theorem TE_raiseV {n : Nat} {f : Str} : TE (sRaiseV n f a s) QS E ↔ TE (a s) (fun x s => OP (frz s x) fun y s => E ⟨.own n, [(f, y)]⟩ s) E := by
  unfold sRaiseV
  rw [TE_bind]
  refine iff_of_eq (congrArg (fun q => TE (a s) q E) (funext fun x => funext fun s => propext ?_))
  cases frz s x with
  | none => exact TE_stuck
  | some p => exact TE_err
theorem FE_fn {k : Nat} {body : MS} {xs : List SV} {w : List Cell} {Q : SV → List Cell → Prop} {E : Exc → List Cell → Prop} : FE (fnM k body) xs w Q E ↔ TE (body { g := xs.map some ++ List.replicate (k - xs.length) none, w := w }) (fun fl s => match fl with
    | .nx => OP (retW w.length (.d .non) s.w) Q
    | .rt x => OP (retW w.length x s.w) Q
    | _ => False) fun e s => OP (retW w.length (.d .non) s.w) fun _ w => E e w := by
  unfold FE fnM
  cases h : body { g := xs.map some ++ List.replicate (k - xs.length) none, w := w } with
  | stuck => simp [TE_stuck]
  | err e s =>
    simp only [TE_err]
    cases retW w.length (.d .non) s.w with
    | none => simp
    | some p => simp
  | ok fl s =>
    cases fl with
    | nx =>
      simp only [TE_ok]
      cases retW w.length (.d .non) s.w with
      | none => simp
      | some p => obtain ⟨x, w⟩ := p; simp
    | rt x =>
      simp only [TE_ok]
      cases retW w.length x s.w with
      | none => simp
      | some p => obtain ⟨x, w⟩ := p; simp
    | bk => simp [TE_ok]
    | ct => simp [TE_ok]
/-! one way: what decides first does not raise -/
theorem TEo_if (h : T (t s) fun c s => if c = true then TE (m s) QS E else TE (n s) QS E) : TE (sIf t m n s) QS E := TE_if.mpr (TE_of h)
theorem TEo_call (h : T (r s) fun xs s => FE f xs s.w (fun x w => Q x { s with w := w }) fun e w => E e { s with w := w }) : TE (vCall f r s) Q E := TE_call.mpr (TE_of h)
theorem TEo_raise {n : Nat} (h : T (a s) fun _ s => E ⟨.own n, []⟩ s) : TE (sRaise n a s) QS E := TE_raise.mpr (TE_of h)
theorem TEo_raiseV {n : Nat} {f : Str} (h : T (a s) fun x s => OP (frz s x) fun y s => E ⟨.own n, [(f, y)]⟩ s) : TE (sRaiseV n f a s) QS E := TE_raiseV.mpr (TE_of h)
theorem TEo_exp (h : T (r s) fun xs s => FE f xs s.w (fun x w => QS .nx { s with w := w }) fun e w => E e { s with w := w }) : TE (sExp (vCall f r) s) QS E := TE_exp.mpr (TEo_call h)
theorem TEo_seq (h : TE (m s) (fun f s => match f with
    | .nx => TE (n s) QS E
    | f => QS f s) E) : TE (sSeq m n s) QS E := TE_seq.mpr h
end
/-! the teller -/
section
variable {s : PS} {Q : SV → PS → Prop} {a : ME} {sel : Exc → Option D} {ret : Str}
@[simp ↓] theorem T_met : T (vMet sel ret a s) Q ↔ TE (a s) (fun _ s => Q (.d (.str ret)) s) fun e s => OD ((sel e).bind okStr) fun z => Q z s := by
  unfold vMet
  cases a s with
  | ok x s => rw [TE_ok, T_ok]
  | err e s =>
    rw [TE_err]
    dsimp only
    rw [T_of]
  | stuck => rw [TE_stuck, T_stuck]
/-- a teller, a call inside -/
theorem T_metC {f : Fn} {r : MA} (h : T (r s) fun xs s => FE f xs s.w (fun x w => Q (.d (.str ret)) { s with w := w }) fun e w => OD ((sel e).bind okStr) fun z => Q z { s with w := w }) : T (vMet sel ret (vCall f r) s) Q := T_met.mpr (TEo_call h)
@[simp ↓] theorem T_dic1 {i j : Int} : T (vDic1 i j s) Q ↔ Q (.d (.dic [(.int i, .int j)])) s := by unfold vDic1; exact T_ok
end
end Bf
/-! The mirror layer: what repr shows of plain data. -/
namespace Bf
open PySem PySem.Spec PyProof.Rows L2
theorem strOk_app (x y : Str) : PyData.strOk (x ++ y) = (PyData.strOk x && PyData.strOk y) := by
  show (x.cps ++ y.cps).all _ = _
  rw [Array.all_append]
  rfl
theorem strOk_from : ∀ (ts : List Str) (k : Nat) (acc : Str), PyData.strOk acc = true → (∀ t ∈ ts, PyData.strOk t = true) → PyData.strOk (textFrom k acc ts) = true
  | [], _, _, h, _ => h
  | t :: r, k, acc, ha, h => by
    refine strOk_from r (k + 1) _ ?_ fun t m => h t (List.mem_cons_of_mem _ m)
    rw [strOk_app, strOk_app, ha, h t (by simp)]
    split <;> decide +kernel
theorem strOk_list (ts : List Str) (h : ∀ t ∈ ts, PyData.strOk t = true) : PyData.strOk (listText ts) = true := by
  unfold listText
  rw [strOk_app, strOk_from ts 0 _ (by decide +kernel) h]
  decide +kernel
theorem strOk_tup (ts : List Str) (h : ∀ t ∈ ts, PyData.strOk t = true) : PyData.strOk (tupleText ts) = true := by
  unfold tupleText
  rw [strOk_app, strOk_app, strOk_join _ (by decide +kernel) ts h]
  split <;> decide +kernel
theorem strOk_int (i : Int) : PyData.strOk (PyData.int i).shown = true := by
  show Array.all _ _ = true
  rw [Array.all_eq_true_iff_forall_mem]
  intro c hc
  rw [decide_eq_true_eq]
  refine Decidable.byContradiction fun z => ?_
  exact shown_int_free' ⟨by omega, .inr (by omega)⟩ i (Array.mem_toList_iff.mpr hc)
mutual
/-- data that repr shows well -/
def nice : PyData → Bool
  | .none | .bool _ => true
  | .int i => decide (i.natAbs < 10 ^ 60)
  | .str x => PyData.strOk (reprText x) && x.cps.toList.all fun c => decide (c < 16 ^ 8)
  | .list xs | .tuple xs => nices xs
  | .dict _ => false
def nices : List PyData → Bool
  | [] => true
  | x :: xs => nice x && nices xs
end
theorem log60 {i : Int} (h : i.natAbs < 10 ^ 60) : i.natAbs.log2 < 1920 := by
  rcases Nat.eq_zero_or_pos i.natAbs with q | q
  · rw [q]; decide
  · rw [Nat.log2_lt (by omega)]
    exact Nat.lt_trans h (by decide +kernel)
mutual
/-- no fewer signs than repr shows -/
def mass : PyData → Nat
  | .none | .bool _ => 5
  | .int _ => 61
  | .str x => 2 + 10 * x.length
  | .list xs | .tuple xs => masses xs + 3
  | .dict _ => 0
def masses : List PyData → Nat
  | [] => 0
  | x :: xs => mass x + 2 + masses xs
end
mutual
theorem nice_ok : ∀ d : PyData, nice d = true → PyData.strOk d.shown = true ∧ d.showable = true ∧ d.shown.length ≤ mass d
  | .none, _ => by decide +kernel
  | .bool b, _ => by cases b <;> decide +kernel
  | .int i, h => by
    rw [nice, decide_eq_true_eq] at h
    refine ⟨strOk_int i, by rw [PyData.showable]; exact decide_eq_true (log60 h), ?_⟩
    rw [mass]
    show (Str.ofString (toString i)).length ≤ 61
    rw [PySem.ofString_length]
    exact int_text_length_le10 (k := 60) (by decide) h
  | .str x, h => by
    rw [nice, Bool.and_eq_true] at h
    have hx : ∀ c ∈ x.cps.toList, c < 16 ^ 8 := by simpa only [List.all_eq_true, decide_eq_true_eq] using h.2
    exact ⟨by rw [PyData.shown]; exact h.1, rfl, by
      rw [PyData.shown, mass]
      have e := StrLaws.reprText_len x hx
      have e2 : x.length = x.cps.size := rfl
      omega⟩
  | .list xs, h => by
    rw [nice] at h
    obtain ⟨h1, h2, h3⟩ := nices_ok xs h
    exact ⟨by rw [PyData.shown]; exact strOk_list _ h1, by rw [PyData.showable]; exact h2, by
      rw [PyData.shown, mass]
      have := listText_len_le (PyData.shownAll xs)
      have := PyData.shownAll_length xs
      omega⟩
  | .tuple xs, h => by
    rw [nice] at h
    obtain ⟨h1, h2, h3⟩ := nices_ok xs h
    exact ⟨by rw [PyData.shown]; exact strOk_tup _ h1, by rw [PyData.showable]; exact h2, by
      rw [PyData.shown, mass]
      have := tupleText_len_le (PyData.shownAll xs)
      have := PyData.shownAll_length xs
      omega⟩
  | .dict _, h => by rw [nice] at h; cases h
theorem nices_ok : ∀ xs : List PyData, nices xs = true → (∀ t ∈ PyData.shownAll xs, PyData.strOk t = true) ∧ PyData.showableAll xs = true ∧ ((PyData.shownAll xs).map (·.length)).sum + 2 * xs.length ≤ masses xs
  | [], _ => ⟨(fun _ h => by rw [PyData.shownAll] at h; cases h), rfl, by decide⟩
  | x :: xs, h => by
    rw [nices, Bool.and_eq_true] at h
    obtain ⟨h1, h2, h3⟩ := nices_ok xs h.2
    obtain ⟨g1, g2, g3⟩ := nice_ok x h.1
    refine ⟨fun t m => ?_, by rw [PyData.showableAll, g2, h2]; rfl, by
      rw [PyData.shownAll, masses]
      simp only [List.map_cons, List.sum_cons, List.length_cons]
      omega⟩
    rw [PyData.shownAll] at m
    rcases List.mem_cons.mp m with rfl | m
    · exact g1
    · exact h1 t m
end
/-- what repr answers -/
structure Rp (x : D) (t : Str) : Prop where
  rep : reprX [x] = some (.str t)
  len : t.length ≤ 16000000
  ok : PyData.strOk t = true
theorem rp_nice {x : D} (hp : x.plain = true) (hn : nice x.py = true) (hw : mass x.py ≤ 16000000) (hd : x.py.depth ≤ 60) : Rp x x.py.shown := by
  obtain ⟨h1, h2, h3⟩ := nice_ok _ hn
  have hl2 : x.py.shown.length ≤ 16000000 := by omega
  refine ⟨?_, hl2, h1⟩
  have hl3 : x.py.shown.length ≤ sizeLine := by rw [sizeLine_eq]; omega
  cases x with
  | dic ks => rw [D.plain] at hp; cases hp
  | _ => simp [reprX, hp, h1, h2, hd, hl3]
theorem rp_three {a b c : Int} (ha : a.natAbs < 10 ^ 60) (hb : b.natAbs < 10 ^ 60) (hc : c.natAbs < 10 ^ 60) : Rp (.tup [.int a, .int b, .int c]) (D.tup [.int a, .int b, .int c]).py.shown := rp_nice rfl (by
  simp only [D.py, D.pys, nice, nices, decide_eq_true ha, decide_eq_true hb, decide_eq_true hc]
  rfl) (by
  simp only [D.py, D.pys, mass, masses]
  decide) (by simp [D.py, D.pys, PyData.depth, PyData.depthAll])
theorem str_app_len (x y : Str) : (x ++ y).length = x.length + y.length := strLen_append x y
/-- a teller's text, and the text that the law builds -/
theorem Rp.told {x : D} {t m : Str} (h : Rp x t) (hm : m.length ≤ 100) (ho : PyData.strOk m = true) : addD (.str m) (.str t) = some (.str (m ++ t)) ∧ okStr (.str (m ++ t)) = some (.d (.str (m ++ t))) ∧ ∀ n f, hkM n n ⟨.own n, [(f, x)]⟩ (.fld m f) = some (.str (m ++ t)) := by
  have hl := h.len
  have e1 : m.length + t.length ≤ sizeLine := by rw [sizeLine_eq]; omega
  refine ⟨?_, ?_, fun n f => ?_⟩
  · simp [addD, e1]
  · have e2 : (m ++ t).length ≤ sizeLine := by rw [str_app_len]; exact e1
    simp [okStr, e2, strOk_app, ho, h.ok]
  · simp [hkM, List.lookup, h.rep, e1]
theorem Rp.op {x : D} {t : Str} (h : Rp x t) : reprX [x] = some (.str t) := h.rep
end Bf
/-! The mirror layer: isinstance(x, C), both answers. -/
namespace Bf
open PySem PySem.Spec PyProof.Rows L2
def notc (K : PySem.W.Frag) (C : Addr) : Bool := ["NoneType", "bool", "int", "str", "tuple", "list", "dict"].all fun T => PySem.W.kitOne K (.type T) (.ref C) == some false
end Bf
/-! The mirror layer: tellers in use. -/
namespace Bf
open PySem PySem.Spec PyProof.Rows L2
/-- f raises e of these -/
def Ra (f : Fn) (xs : List SV) (w : List Cell) (e : Exc) : Prop := ∀ {Q : SV → List Cell → Prop} {E : Exc → List Cell → Prop}, E e w → FE f xs w Q E
/-- a world with the die at k and, at its end, the list told -/
structure Tl (k : Nat) (w v : List Cell) (ts : List D) : Prop where
  up : Upd k w v
  len : v.length = w.length + 1
  at_ : v[w.length]? = some (.lst ts)
theorem Tl.app {k : Nat} {w v : List Cell} {ts : List D} {x : D} (h : Tl k w v ts) (hk : k < w.length) : Tl k w (v.set w.length (.lst (ts ++ [x]))) (ts ++ [x]) := ⟨h.up.set' (Nat.le_refl _) hk rfl, by simp [h.len], by rw [List.getElem?_set_self (by have := h.len; omega)]⟩
theorem Tl.die {k : Nat} {w v u : List Cell} {ts : List D} (h : Tl k w v ts) (hk : k < w.length) (h2 : Upd k v u) (hl : u.length = v.length) : Tl k w u ts := ⟨h.up.trans h2, by rw [hl, h.len], by rw [h2.same _ (by have := h.len; omega) (by omega)]; exact h.at_⟩
theorem Tl.new {k : Nat} {w v : List Cell} {ts : List D} (h : Upd k w v) (hl : v.length = w.length) : Tl k w (v ++ [.lst ts]) ts := ⟨h.trans (h.ok.append_upd (Flat.one rfl)), by simp [hl], by rw [← hl]; simp⟩
theorem Tl.flat {k : Nat} {w v : List Cell} {ts : List D} (h : Tl k w v ts) : Flat v := h.up.ok.flat
theorem Tl.rd {k : Nat} {w v : List Cell} {ts : List D} (h : Tl k w v ts) (g : List (Option SV)) : rd ⟨g, v⟩ (.cell w.length) = some (.lst ts) := rd_lst' h.at_
theorem app_ok {ts : List D} {x : D} (h : ts.length ≤ 100) : appM ts [x] = some (ts ++ [x], .non) := by
  show (if ts.length < sizeLine then some (ts ++ [x], D.non) else none) = _
  rw [if_pos (by rw [sizeLine_eq]; omega)]
section
variable {k c : Nat} {w v : List Cell} {ts : List D} {g : List (Option SV)} {sel : Exc → Option D} {ret t : Str} {m : ME} {f : Fn} {xs : List SV} {r : MA} {e : Exc}
/-- the list told gets what the teller tells -/
theorem app_met (hg : g[c]? = some (some (.cell w.length))) (hk : k < w.length) (h : Tl k w v ts) (ht : ts.length ≤ 100) (hm : T (vMet sel ret m ⟨g, v⟩) fun x s => x = .d (.str t) ∧ s = ⟨g, v⟩) :
    T (sExp (vMu appM (vVar c) (aCons (vMet sel ret m) (aNil))) ⟨g, v⟩) fun fl s => fl = .nx ∧ ∃ u, Tl k w u (ts ++ [.str t]) ∧ s = ⟨g, u⟩ := by
  have ha := h.at_
  rw [T_exp, T_mu, T_var]
  simp only [hg, OD_some, CL_cell, T_cons, T_nil]
  refine ⟨⟨_, ha⟩, hm.imp fun x s ⟨e1, e2⟩ => ?_⟩
  subst e1 e2
  simp [ha, app_ok ht]
  exact h.app hk
/-- a new list, with what the teller tells -/
theorem new_met (hu : Upd k w v) (hl : v.length = w.length) (hc : c < g.length) (hm : T (vMet sel ret m ⟨g, v⟩) fun x s => x = .d (.str t) ∧ s = ⟨g, v⟩) :
    T (sAsg (vLstN (aCons (vMet sel ret m) (aNil))) (hName c) ⟨g, v⟩) fun fl s => fl = .nx ∧ Tl k w (v ++ [.lst [.str t]]) [.str t] ∧ s = ⟨g.set c (some (.cell w.length)), v ++ [.lst [.str t]]⟩ := by
  rw [T_asg, T_lstN]
  simp only [T_cons, T_nil]
  refine hm.imp fun x s ⟨e1, e2⟩ => ?_
  subst e1 e2
  simp [sizeLine_eq, hc, hl]
  exact Tl.new hu hl
theorem met_ra (hr : T (r ⟨g, v⟩) fun ys s => ys = xs ∧ s = ⟨g, v⟩) (h : Ra f xs v e) (ht : (sel e).bind okStr = some (.d (.str t))) : T (vMet sel ret (vCall f r) ⟨g, v⟩) fun x s => x = .d (.str t) ∧ s = ⟨g, v⟩ := by
  refine T_metC (hr.imp fun ys s ⟨e1, e2⟩ => ?_)
  subst e1 e2
  refine h ?_
  rw [ht]
  exact ⟨rfl, rfl⟩
theorem met_ok (hr : T (r ⟨g, v⟩) fun ys s => ys = xs ∧ s = ⟨g, v⟩) (h : FT f xs v fun _ w' => w' = v) : T (vMet sel ret (vCall f r) ⟨g, v⟩) fun x s => x = .d (.str ret) ∧ s = ⟨g, v⟩ := by
  refine T_metC (hr.imp fun ys s ⟨e1, e2⟩ => ?_)
  subst e1 e2
  refine FE_of (h.imp fun _ w' e => ?_)
  rw [e]
  exact ⟨rfl, rfl⟩
end
/-- the names' rows -/
theorem ar1 {i : Nat} {x : SV} {s : PS} (h : s.g[i]? = some (some x)) : T (aCons (vVar i) (aNil) s) fun ys s' => ys = [x] ∧ s' = s := by
  rw [T_cons, T_var, h]
  simp
theorem ar2 {i j : Nat} {x y : SV} {s : PS} (h : s.g[i]? = some (some x)) (h2 : s.g[j]? = some (some y)) : T (aCons (vVar i) (aCons (vVar j) (aNil)) s) fun ys s' => ys = [x, y] ∧ s' = s := by
  rw [T_cons, T_var, h]
  simp [h2]
end Bf
/-! The mirror layer: methods, class methods and calls of classes that may raise. -/
namespace Bf
open PySem PySem.Spec PyProof.Rows L2
section
variable {f : Fn} {xs : List SV} {w : List Cell} {Q : SV → List Cell → Prop} {E : Exc → List Cell → Prop} {n : Nat}
theorem FE_len (hn : xs.length = n) (h : FE f xs w Q E) : FE (lenF n f) xs w Q E := by
  unfold FE lenF at *
  rw [if_pos hn]
  exact h
theorem Ra.go {e : Exc} (h : Ra f xs w e) (q : E e w) : FE f xs w Q E := h q
theorem Ra.len {e : Exc} (hn : xs.length = n) (h : Ra f xs w e) : Ra (lenF n f) xs w e := fun q => FE_len hn (h q)
end
end Bf
/-! The mirror layer: tellers that answer True where there was an error, and False. -/
namespace Bf
open PySem PySem.Spec PyProof.Rows L2 LamX
def vFlag (sel : Exc → Bool) (m : ME) : ME := fun s => match m s with
  | .ok _ s => .ok (.d (.bl false)) s
  | .err e s => if sel e = true then .ok (.d (.bl true)) s else .stuck
  | .stuck => .stuck
section
variable {s : PS} {Q : SV → PS → Prop} {a : ME} {sel : Exc → Bool}
@[simp ↓] theorem T_flag : T (vFlag sel a s) Q ↔ TE (a s) (fun _ s => Q (.d (.bl false)) s) fun e s => sel e = true ∧ Q (.d (.bl true)) s := by
  unfold vFlag
  cases a s with
  | ok x s => rw [TE_ok, T_ok]
  | err e s =>
    rw [TE_err]
    dsimp only
    by_cases h : sel e = true
    · rw [if_pos h, T_ok]; exact ⟨fun q => ⟨h, q⟩, fun q => q.2⟩
    · rw [if_neg h, T_stuck]; exact ⟨False.elim, fun q => h q.1⟩
  | stuck => rw [TE_stuck, T_stuck]
end
end Bf
/-! The mirror layer: a dict of tuples, == {}. -/
/-! The mirror layer: None == an instance of a class with its own __eq__. -/
/-! The mirror layer: x == y, y of the class, x of it or None. -/
/-! The mirror layer: == of two dicts of tuples. -/
namespace Bf
open PySem PySem.Spec PyProof.Rows L2 PySem.SeqAt
section
variable {prog : Program} {w : World} {K : Type} [DecidableEq K] {knd : HeapKind prog w K} {A : Around} {E : Value → Shared → Prop} {s : Shared}
inductive HitsH {K : Type} [DecidableEq K] (prog : Program) (w : World) (A : Around) (s : Shared) (kb : List (K × Addr × Value)) : List (K × Addr × Value) → Bool → Prop
  | nil : HitsH prog w A s kb [] true
  | miss {k : K} {a : Addr} {v : Value} {r : List (K × Addr × Value)} : (∀ (j : Nat) (p : Addr × Value), kb[j]? ≠ some (k, p)) → HitsH prog w A s kb ((k, a, v) :: r) false
  | hit {k : K} {a : Addr} {v : Value} {r : List (K × Addr × Value)} {e b : Bool} : (∃ (j : Nat) (p : Addr × Value), kb[j]? = some (k, p)) → (∀ (j : Nat) (p : Addr × Value), kb[j]? = some (k, p) → SeqAt.EqP prog w A s v p.2 e) → HitsH prog w A s kb r b → HitsH prog w A s kb ((k, a, v) :: r) (e && b)
theorem HitsH.inv {kb : List (K × Addr × Value)} {k : K} {a : Addr} {v : Value} {r : List (K × Addr × Value)} {b : Bool} (h : HitsH prog w A s kb ((k, a, v) :: r) b) :
    ((∀ (j : Nat) (p : Addr × Value), kb[j]? ≠ some (k, p)) ∧ b = false) ∨ ∃ e b', (∃ (j : Nat) (p : Addr × Value), kb[j]? = some (k, p)) ∧ (∀ (j : Nat) (p : Addr × Value), kb[j]? = some (k, p) → SeqAt.EqP prog w A s v p.2 e) ∧ HitsH prog w A s kb r b' ∧ b = (e && b') := by
  cases h with
  | miss hn => exact .inl ⟨hn, rfl⟩
  | hit h1 h2 h3 => exact .inr ⟨_, _, h1, h2, h3, rfl⟩
end
end Bf
/-! The mirror layer: == of two dicts of tuples whose values are texts. -/
/-! The mirror layer: is True, is not False, .. of two booleans. -/
/-! The mirror layer: tellers that hand back what a call returns, or a constant where there was an error. -/
namespace Bf
open PySem PySem.Spec PyProof.Rows L2 LamX
def cstOk : D → Bool
  | .str t => decide (t.length ≤ sizeLine) && PyData.strOk t
  | .bl _ => true
  | .non => true
  | _ => false
def vTry (sel : Exc → Option D) (m : ME) : ME := fun s => match m s with
  | .ok x s => .ok x s
  | .err e s => match sel e with
    | some d => if cstOk d = true then .ok (.d d) s else .stuck
    | none => .stuck
  | .stuck => .stuck
section
variable {s : PS} {Q : SV → PS → Prop} {a : ME} {sel : Exc → Option D}
@[simp ↓] theorem T_try : T (vTry sel a s) Q ↔ TE (a s) Q fun e s => OD (sel e) fun d => cstOk d = true ∧ Q (.d d) s := by
  unfold vTry
  cases a s with
  | ok x s => rw [TE_ok, T_ok]
  | err e s =>
    rw [TE_err]
    dsimp only
    cases sel e with
    | none => rw [T_stuck]; exact Iff.rfl
    | some d =>
      dsimp only
      rw [OD_some]
      by_cases h : cstOk d = true
      · rw [if_pos h, T_ok]; exact ⟨fun q => ⟨h, q⟩, fun q => q.2⟩
      · rw [if_neg h, T_stuck]; exact ⟨False.elim, fun q => h q.1⟩
  | stuck => rw [TE_stuck, T_stuck]
end
end Bf
/-! The mirror layer: o == x and o != x, o an instance of a class with its own __eq__, x data. -/
namespace Bf
open PySem PySem.Spec PyProof.Rows L2
def noty (K : PySem.W.Frag) (C : Addr) : Bool := ["NoneType", "bool", "int", "str", "tuple", "list", "dict"].all fun T => PySem.W.subIn K (.type T) (.ref C) == some false
end Bf
/-! The mirror layer: == and != of lists, whatever is in them, if their lengths differ. -/
namespace Bf
open PySem PySem.Spec PyProof.Rows L2
section
variable {X : Cx} {CT : Ctx}
/-- .. as eqD, neD, but two lists may hold anything where their lengths differ -/
def eqN (x y : D) : Option D := match x, y with
  | .lst xs, .lst ys => if xs.length ≠ ys.length then some (.bl false) else eqD x y
  | _, _ => eqD x y
def neN (x y : D) : Option D := match x, y with
  | .lst xs, .lst ys => if xs.length ≠ ys.length then some (.bl true) else neD x y
  | _, _ => neD x y
@[simp] theorem neN_nil {xs : List D} : neN (.lst xs) (.lst []) = some (.bl (!xs.isEmpty)) := by
  unfold neN
  cases xs with
  | nil => rfl
  | cons x xs => rfl
@[simp] theorem eqN_nil {xs : List D} : eqN (.lst xs) (.lst []) = some (.bl xs.isEmpty) := by
  unfold eqN
  cases xs with
  | nil => rfl
  | cons x xs => rfl
end
end Bf
/-! The mirror layer: x in o, str(o), o an instance of a class with its own __contains__, __str__; f-strings of texts and ints. -/
/-! The mirror layer: comprehensions within comprehensions. -/
/-! Comprehensions whose name holds a value already: it comes back. -/
/-! The mirror layer: instances that stay cells: fields that hold cells, methods of such an instance, an __init__ that keeps the cells it makes, a method that calls itself. -/
namespace Bf
open PySem PySem.Spec PyProof.Rows L2
section
variable {X : Cx} {CT : Ctx} {E0 : XK} {E : Sto → XK} {e o : Expr} {es : List Expr} {m mo mc : ME} {mr : MA} {p pos pos' apos : Pos} {k c : Nat} {fI fa : Addr} {f : Fn} {x fl mn : Str} {cs : List Nat}
theorem RepSF.lookN {K : PySem.W.Frag} {F : Hp} {as : List Addr} {vs : List (Str × V)} {gs : List (Str × SV)} (r : RepSF K CT F as vs gs) {f : Str} (h : gs.lookup f = none) : vs.lookup f = none := by
  induction r with
  | nil => rfl
  | cons h1 _ ih =>
    rw [List.lookup_cons] at h ⊢
    rename_i g _ _ _ _ _
    cases q : f == g with
    | true => rw [q] at h; cases h
    | false =>
      rw [q] at h
      exact ih h
end
/-! ### name = {..} on one line, the name a local -/
end Bf
/-! Weakest preconditions with errors: loops, instances that stay cells; worlds whose cells know nothing behind them. -/
namespace Bf
open PySem PySem.Spec PyProof.Rows L2
/-- no cell of w knows a cell behind n -/
def Clo (n : Nat) (w : List Cell) : Prop := (w.take n).all (cellBelow n) = true
theorem Clo.trunc {n : Nat} {s : PS} (h : Clo n s.w) : Bf.trunc n s = some { g := s.g.map (dropG n), w := s.w.take n } := by
  unfold Clo at h
  unfold Bf.trunc
  rw [if_pos h]
theorem Clo.ret {n : Nat} {w : List Cell} {x : D} (h : Clo n w) : retW n (.d x) w = some (.d x, w.take n) := by
  unfold Clo at h
  unfold retW
  rw [if_pos h]
end Bf
/-! A part that may raise, within a part: the part's value is put in its place. -/
namespace Bf
open PySem PySem.Spec PyProof.Rows L2
section
variable {s : PS} {a : ME} {r : MA} {mi : MI} {E : Exc → PS → Prop}
/-- a value that is there already -/
def vK (x : SV) : ME := fun s => .ok x s
def aK (xs : List SV) : MA := fun s => .ok xs s
def jK (it : It') : MI := fun s => .ok it s
@[simp ↓] theorem T_vK {x : SV} {Q : SV → PS → Prop} : T (vK x s) Q ↔ Q x s := T_ok
@[simp ↓] theorem T_aK {xs : List SV} {Q : List SV → PS → Prop} : T (aK xs s) Q ↔ Q xs s := T_ok
@[simp ↓] theorem T_jK {it : It'} {Q : It' → PS → Prop} : T (jK it s) Q ↔ Q it s := T_ok
end
end Bf
/-! The mirror layer: defs with one keyword-only parameter that has a default. -/
namespace Bf
open PySem PySem.Spec PyProof.Rows L2
section
variable {X : Cx} {CT : Ctx} {E : Sto → XK} {x nm : Str} {k n : Nat} {i : Int} {fa : Addr} {fd : FuncData} {ps ks : List Str} {f : Fn} {a : Expr} {es : List Expr} {kws : List Keyword} {mr mk : MA} {m : ME} {pos p kpos : Pos}
theorem PK.imp {t t' : TA} (h : PK X kws t) (hi : ∀ σ H Q, t' σ H Q → t σ H Q) : PK X kws t' := ⟨fun pos pins s σ H Q I q => h.run pos pins s σ H Q I (hi _ _ _ q)⟩
theorem RepSs.append {K : PySem.W.Frag} {F : Hp} {as : List Addr} {vs zs : List V} {xs ys : List SV} (h : RepSs K CT F as vs xs) (g : RepSs K CT F as zs ys) : RepSs K CT F as (vs ++ zs) (xs ++ ys) := by
  induction h with
  | nil => exact g
  | cons h1 _ ih => exact .cons h1 ih
end
end Bf
/-! The mirror layer: dict comprehensions with whole numbers or texts as keys (printed by p74.py out of P25..P28). -/
namespace Bf
open PySem PySem.Spec PyProof.Rows L2
def keyO : D → Option Key
  | .int i => some (.inl i)
  | .str x => some (.inr x)
  | _ => none
def putI (kvs : List (D × D)) (k : Key) (d : D) : List (D × D) :=
  if (kvs.any fun p => decide (keyO p.1 = some k)) = true then kvs.map (fun p => if keyO p.1 = some k then (p.1, d) else p) else kvs ++ [(keyD k, d)]
theorem keyO_map : ∀ k : Key, keyO (keyD k) = some k
  | .inl i => rfl
  | .inr x => rfl
section
variable {K : PySem.W.Frag} {CT : Ctx} {F : Hp} {as : List Addr} {H : Hp} {σ : Sto} {s : PS}
theorem RepK.length : ∀ {vs : List (Key × V)} {ds : List (D × D)}, RepK K CT F vs ds → vs.length = ds.length
  | _, [], r => by cases r; rfl
  | _, _ :: ds, r => by
    cases r with
    | cons r1 r2 => rw [List.length_cons, List.length_cons, RepK.length r2]
theorem RepK.snoc {k : Key} {v : V} {d : D} (h : Rep K CT F v d) : ∀ {vs : List (Key × V)} {ds : List (D × D)}, RepK K CT F vs ds → RepK K CT F (vs ++ [(k, v)]) (ds ++ [(keyD k, d)])
  | _, [], r => by cases r; exact .cons h .nil
  | _, _ :: ds, r => by
    cases r with
    | cons r1 r2 => exact .cons r1 (RepK.snoc h r2)
theorem RepK.any {k : Key} : ∀ {vs : List (Key × V)} {ds : List (D × D)}, RepK K CT F vs ds → (vs.any fun p => decide (p.1 = k)) = ds.any fun p => decide (keyO p.1 = some k)
  | _, [], r => by cases r; rfl
  | _, _ :: ds, r => by
    cases r with
    | cons r1 r2 =>
      rw [List.any_cons, List.any_cons, RepK.any r2]
      simp only [keyO_map, Option.some.injEq]
theorem RepK.repl {k : Key} {v : V} {d : D} (h : Rep K CT F v d) : ∀ {vs : List (Key × V)} {ds : List (D × D)}, RepK K CT F vs ds → RepK K CT F (vs.map fun p => if p.1 = k then (p.1, v) else p) (ds.map fun p => if keyO p.1 = some k then (p.1, d) else p)
  | _, [], r => by cases r; exact .nil
  | _, _ :: ds, r => by
    cases r with
    | @cons k' v' d' vs' _ r1 r2 =>
      rw [List.map_cons, List.map_cons]
      simp only [keyO_map, Option.some.injEq]
      by_cases e : k' = k
      · rw [if_pos e, if_pos e]; exact .cons h (RepK.repl h r2)
      · rw [if_neg e, if_neg e]; exact .cons r1 (RepK.repl h r2)
theorem RepK.put {k : Key} {v : V} {d : D} {vs : List (Key × V)} {ds : List (D × D)} (r : RepK K CT F vs ds) (h : Rep K CT F v d) : RepK K CT F (putK vs k v) (putI ds k d) := by
  unfold putK putI
  rw [r.any]
  split
  · exact r.repl h
  · exact r.snoc h
end
end Bf
/-! The mirror layer: in a dict of whole numbers; dict(pairs) and d.update(d2), tuples as keys. -/
namespace L2
open PySem PySem.Spec PyProof.Rows
/-! ### d.update(d2) -/
end L2
/-! The mirror layer: in a dict of whole numbers, dict(pairs), d.update(d2), while. -/
namespace Bf
open PySem PySem.Spec PyProof.Rows L2
/-! ### y in a dict of whole numbers or texts -/
def lookI (ds : List (D × D)) (k : Key) : Option D := (ds.find? fun p => decide (keyO p.1 = some k)).map (·.2)
theorem lookI_cons (p : D × D) (ds : List (D × D)) (k : Key) : lookI (p :: ds) k = if keyO p.1 = some k then some p.2 else lookI ds k := by
  unfold lookI
  rw [List.find?_cons]
  by_cases h : keyO p.1 = some k
  · rw [if_pos h, decide_eq_true h]; rfl
  · rw [if_neg h, decide_eq_false h]
section
variable {X : Cx} {CT : Ctx} {F H : Hp} {v : V} {y : D} {as : List Addr} {σ : Sto} {s : PS}
theorem RepK.look {k : Key} : ∀ {vs : List (Key × V)} {ds : List (D × D)}, RepK X.K CT F vs ds → (∀ d, lookI ds k = some d → ∃ v, valV vs k = some v ∧ Rep X.K CT F v d) ∧ (lookI ds k = none → valV vs k = none)
  | _, [], r => by
    cases r
    exact ⟨(fun d e => by cases e), fun _ => rfl⟩
  | _, _ :: ds, r => by
    cases r with
    | @cons k' v' d' vs' _ r1 r2 =>
      rw [lookI_cons]
      simp only [keyO_map, Option.some.injEq]
      by_cases e : k' = k
      · rw [if_pos e, valV_pos (p := (k', v')) e]
        exact ⟨(fun d q => by cases q; exact ⟨_, rfl, r1⟩), (fun q => by cases q)⟩
      · rw [if_neg e, valV_neg (p := (k', v')) e]
        exact RepK.look r2
end
/-! ### dict(pairs) -/
end Bf
/-! The mirror layer: while, while (x := e) is not None; rules for dict(pairs), update, in a dict of whole numbers. -/
/-! Weakest preconditions of P76, P77: in a dict of whole numbers, dict(pairs), update, while. -/
namespace Bf
open PySem L2
section
variable {s : PS} {n : Nat} {t : MT} {body : MS} {Q : Fl → PS → Prop} {E : Exc → PS → Prop}
/-- what a turn leaves: the next turn's invariant with a smaller measure -/
def WhN (n : Nat) (Inv : Nat → PS → Prop) (m : Nat) (Q : Fl → PS → Prop) (fl : Fl) (s : PS) : Prop := match fl with
  | .nx => ∃ s', trunc n s = some s' ∧ ∃ m', m' < m ∧ Inv m' s'
  | .ct => ∃ s', trunc n s = some s' ∧ ∃ m', m' < m ∧ Inv m' s'
  | .bk => Q .nx s
  | .rt x => Q (.rt x) s
@[simp] theorem WhN_nx {Inv : Nat → PS → Prop} {m : Nat} : WhN n Inv m Q .nx s ↔ ∃ s', trunc n s = some s' ∧ ∃ m', m' < m ∧ Inv m' s' := Iff.rfl
@[simp] theorem WhN_ct {Inv : Nat → PS → Prop} {m : Nat} : WhN n Inv m Q .ct s ↔ ∃ s', trunc n s = some s' ∧ ∃ m', m' < m ∧ Inv m' s' := Iff.rfl
@[simp] theorem WhN_bk {Inv : Nat → PS → Prop} {m : Nat} : WhN n Inv m Q .bk s ↔ Q .nx s := Iff.rfl
@[simp] theorem WhN_rt {Inv : Nat → PS → Prop} {m : Nat} {x : SV} : WhN n Inv m Q (.rt x) s ↔ Q (.rt x) s := Iff.rfl
variable {i : Nat} {e : ME}
end
end Bf
/-! Hashes of cells: those of one bar are different. -/
/-! Comprehensions: any target, parts that leave cells behind, slots that held data. -/
namespace Bf
open PySem L2
theorem wipe_get (g : List (Option SV)) (j : Nat) : ∀ own : List Nat, (wipeG own g)[j]? = if j ∈ own ∧ j < g.length then some none else g[j]?
  | [] => by simp [wipeG]
  | i :: own => by
    show ((wipeG own g).set i none)[j]? = _
    have ih := wipe_get g j own
    have hl : (wipeG own g).length = g.length := by
      clear ih
      induction own with
      | nil => rfl
      | cons k own ih => show ((wipeG own g).set k none).length = _; rw [List.length_set, ih]
    by_cases hij : i = j
    · subst hij
      by_cases hlt : i < g.length
      · rw [List.getElem?_set_self (by omega), if_pos ⟨List.mem_cons_self, hlt⟩]
      · rw [if_neg fun h => hlt h.2, List.getElem?_eq_none (by rw [List.length_set]; omega), List.getElem?_eq_none (by omega)]
    · rw [List.getElem?_set_ne hij, ih]
      have : (j ∈ i :: own) ↔ j ∈ own := by
        rw [List.mem_cons]
        exact ⟨fun h => h.resolve_left fun e => hij e.symm, .inr⟩
      simp only [this]
theorem back_get (g0 g : List (Option SV)) (j : Nat) : ∀ own : List Nat, (backG own g0 g)[j]? = if j ∈ own ∧ j < g.length then some (match g0[j]? with
    | some (some (.d x)) => some (.d x)
    | _ => none) else g[j]?
  | [] => by simp [backG]
  | i :: own => by
    show ((backG own g0 g).set i (match g0[i]? with
      | some (some (.d x)) => some (.d x)
      | _ => none))[j]? = _
    have ih := back_get g0 g j own
    have hl : (backG own g0 g).length = g.length := by
      clear ih
      induction own with
      | nil => rfl
      | cons k own ih => show ((backG own g0 g).set k _).length = _; rw [List.length_set, ih]
    by_cases hij : i = j
    · subst hij
      by_cases hlt : i < g.length
      · rw [List.getElem?_set_self (by omega), if_pos ⟨List.mem_cons_self, hlt⟩]
      · rw [if_neg fun h => hlt h.2, List.getElem?_eq_none (by rw [List.length_set]; omega), List.getElem?_eq_none (by omega)]
    · rw [List.getElem?_set_ne hij, ih]
      have : (j ∈ i :: own) ↔ j ∈ own := by
        rw [List.mem_cons]
        exact ⟨fun h => h.resolve_left fun e => hij e.symm, .inr⟩
      simp only [this]
theorem wipe_len (g : List (Option SV)) : ∀ own : List Nat, (wipeG own g).length = g.length
  | [] => rfl
  | i :: own => by show ((wipeG own g).set i none).length = _; rw [List.length_set, wipe_len g own]
theorem back_dat {own : List Nat} {g0 : List (Option SV)} (ho : ∀ i ∈ own, ∃ o, g0[i]? = some o ∧ Dat' o) : backG own g0 (wipeG own g0) = g0 := by
  refine List.ext_getElem? fun j => ?_
  rw [back_get, wipe_get, wipe_len]
  by_cases h : j ∈ own ∧ j < g0.length
  · rw [if_pos h]
    obtain ⟨o, e, d⟩ := ho j h.1
    rw [e]
    rcases d with rfl | ⟨x, rfl⟩ <;> rfl
  · rw [if_neg h, if_neg h]
end Bf
/-! Comprehensions over a list's cell (printed by p81.py out of P11 and P80). -/
namespace Bf
open PySem L2
structure Lists (it : It') (xs : List D) (w : List Cell) : Prop where
  at' : ∀ g v i, it.at ⟨g, w ++ v⟩ i = some xs[i]?
  fuel : ∀ g, it.fuel ⟨g, w⟩ = xs.length
theorem Lists.of {it : It'} {xs : List D} {w : List Cell} (h : it.list = some xs) : Lists it xs w := ⟨fun g v i => It'.at_list h _ i, fun g => It'.fuel_list h _⟩
theorem Lists.cell {c : Nat} {xs : List D} {w : List Cell} (h : w[c]? = some (.lst xs)) : Lists (.cell c) xs w := by
  have hc : c < w.length := (List.getElem?_eq_some_iff.mp h).1
  refine ⟨fun g v i => ?_, fun g => ?_⟩
  · show (match (w ++ v)[c]? with
      | some (.lst xs) => some xs[i]?
      | _ => none) = _
    rw [List.getElem?_append_left hc, h]
  · show (match w[c]? with
      | some (.lst xs) => xs.length
      | _ => 0) = _
    rw [h]
end Bf
/-! Dict comprehensions of two clauses with whole numbers or texts as keys. -/
/-! The mirror layer: == of pairs of an own object and texts; a tuple times a number. -/
namespace Bf
open PySem PySem.Spec PyProof.Rows L2
/-! ### growth: tables may grow -/
structure Gr (T : List (Addr × Str)) (H H' : Hp) : Prop where
  ext : LamX.ExtN H H'
  tabs : LamX.Tabs T H → LamX.Tabs T H'
theorem Gr.refl {T : List (Addr × Str)} {H : Hp} : Gr T H H := ⟨.refl H, id⟩
theorem Gr.trans {T : List (Addr × Str)} {H H1 H2 : Hp} (a : Gr T H H1) (b : Gr T H1 H2) : Gr T H H2 := ⟨a.ext.trans b.ext, fun t => b.tabs (a.tabs t)⟩
theorem Gr.of {T : List (Addr × Str)} {H H' : Hp} (e : L2.Ext H H') : Gr T H H' := ⟨.of e, fun t => t.ext e⟩
theorem Gr.lst {T : List (Addr × Str)} {H H' : Hp} (g : Gr T H H') {a : Addr} {vs : List V} (h : H a = some (.lst vs)) : H' a = some (.lst vs) := g.ext _ _ h fun _ z => nomatch z
theorem Gr.sqT {T : List (Addr × Str)} {K : PySem.W.Frag} {H H' : Hp} (g : Gr T H H') {a : Addr} {vs : List V} (h : SqT K H a vs) : SqT K H' a vs := by
  rcases h with h | h
  · rcases h with h | ⟨o, h⟩
    · exact .inl (.inl (g.ext _ _ h fun _ z => nomatch z))
    · exact .inl (.inr ⟨o, g.ext _ _ h fun _ z => nomatch z⟩)
  · exact .inr h
section
variable {K : PySem.W.Frag} {CT : Ctx} {F H H' : Hp} {as : List Addr} {σ : Sto} {s : PS}
theorem Gr.cell (g : Gr CT.tabs H H') {a : Addr} {c : Cell} (h : CellOk K CT F as H a c) : CellOk K CT F as H' a c := by
  cases c with
  | lst xs =>
    obtain ⟨h0, vs, h1, h2⟩ := h
    exact ⟨h0, vs, g.ext _ _ h1 (fun _ z => nomatch z), h2⟩
  | dic xs =>
    obtain ⟨h0, vs, h1, h2⟩ := h
    exact ⟨h0, vs, g.ext _ _ h1 (fun _ z => nomatch z), h2⟩
  | dit xs =>
    obtain ⟨h0, vs, h1, h2⟩ := h
    exact ⟨h0, vs, g.ext _ _ h1 (fun _ z => nomatch z), h2⟩
  | ins c fs =>
    obtain ⟨h0, dx, vs, h1, h2⟩ := h
    exact ⟨h0, dx, vs, g.ext _ _ h1 (fun _ z => nomatch z), h2⟩
  | gone => trivial
  | lsv xs =>
    obtain ⟨h0, vs, h1, h2⟩ := h
    exact ⟨h0, vs, g.ext _ _ h1 (fun _ z => nomatch z), h2⟩
end
/-! ### == that answers True -/
section
variable {X : Cx} {CT : Ctx} {n m k c : Nat} {Dq Dq' : Eqv} {E0 : XK} {fa : Addr} {fd : FuncData} {ps : List Str} {f : Fn}
def EqT (X : Cx) (T : List (Addr × Str)) (n : Nat) (Dq : Eqv) : Prop := ∀ (A : Around) (pins : List (Addr × Obj)) (s : Shared) (σ : Sto) (H : Hp) (x y : V) (u v : Value), L2.Sub X n A → Inv X pins σ H s → RelV x u → RelV y v → Dq x y H →
  wpAny (model X.prog X.w) A (eqBool u v) (fun r s' => r = true ∧ ∃ H', Inv X pins σ H' s' ∧ Gr T H H') X.xe s
theorem EqT.of {T : List (Addr × Str)} (h : EqG X n Dq) : EqT X T n Dq := fun A pins s σ H x y u v sb I rx ry d =>
  wpAny_mono (h A pins s σ H x y u v sb I rx ry d) (fun r s' ⟨e, H', I', z⟩ => ⟨e, H', I', .of z⟩) fun _ _ z => z
theorem EqT.or {T : List (Addr × Str)} (h : EqT X T n Dq) (h' : EqT X T m Dq') : EqT X T (max n m) (fun x y H => Dq x y H ∨ Dq' x y H) := fun A pins s σ H x y u v sb I rx ry d => d.elim
  (h A pins s σ H x y u v (sb.mono (Nat.le_max_left _ _)) I rx ry) (h' A pins s σ H x y u v (sb.mono (Nat.le_max_right _ _)) I rx ry)
/-! ### two items -/
def Two (Dq Dq' : Eqv) (xs ys : List V) (H : Hp) : Prop := ∃ x x' y y', xs = [x, x'] ∧ ys = [y, y'] ∧ Dq x y H ∧ Dq' x' y' H
theorem Two.len {xs ys : List V} {H : Hp} (p : Two Dq Dq' xs ys H) : xs.length = 2 ∧ ys.length = 2 := by
  obtain ⟨x, x', y, y', rfl, rfl, _⟩ := p
  exact ⟨rfl, rfl⟩
/-! ### the mirror -/
theorem EqT.up {T : List (Addr × Str)} {Dq : Eqv} (h : EqT X T n Dq) (e : n ≤ m) : EqT X T m Dq := fun A pins s σ H x y u v sb => h A pins s σ H x y u v (sb.mono e)
variable {a b : Expr} {ma mb : ME} {pos : Pos}
/-! ### a tuple times a number -/
end
end Bf
/-! The mirror layer: a try statement whose clauses return texts, in the middle of a def. -/
/-! The mirror layer: methods of an instance's cell: without arguments, with a keyword-only one; properties. -/
/-! The mirror layer: name += a number. -/
namespace Bf
open PySem PySem.Spec PyProof.Rows L2
def sAugN (i : Nat) (e : ME) : MS := fun s => match s.g[i]? with
  | some (some (.d (.int a))) => (e s).bind fun y s => match y with
    | .d (.int b) => if i < s.g.length then .ok .nx { s with g := s.g.set i (some (.d (.int (a + b)))) } else .stuck
    | _ => .stuck
  | _ => .stuck
section
variable {X : Cx} {CT : Ctx} {E : Sto → XK} {e : Expr} {m : ME} {i : Nat} {x : Str} {pos pos' : Pos}
theorem ms_augN (hx : Cq X E) (hi : X.N[i]? = some x) (hl : Loc X.env.scope x) (he : PE X e (up X.K CT E m)) (hf : X.fn x = true ∨ X.env.scope.names.lookup x = some .local := by first | exact .inl rfl | exact .inr rfl) :
    L2.PS X (.AugAssign (.Name x pos') .Add e pos) (upS X.K CT E (sAugN i m)) :=
  ps_imp (ps_aug hx.nd hi hl he ip_add hf) fun D σ H ⟨F, as, s, n, h⟩ => by
    unfold sAugN at h
    cases q : s.g[i]? with
    | none => simp only [q] at h; exact h.elim
    | some o =>
      cases o with
      | none => simp only [q] at h; exact h.elim
      | some y =>
        cases y with
        | cell k => simp only [q] at h; exact h.elim
        | d z =>
          cases z with
          | int a =>
            simp only [q] at h
            obtain ⟨v, e1, r⟩ := n.sl i _ q
            cases r
            refine ⟨.int a, e1, up_seq n h trivial fun w y s1 F1 as1 H1 x1 n1 r1 h1 => ?_⟩
            cases y with
            | cell k => exact h1.elim
            | d z =>
              cases z with
              | int b =>
                dsimp only at h1
                split at h1
                · rename_i hl
                  cases r1
                  exact ⟨a, b, rfl, rfl, h1.here (σ := σ.set i (some (.int (a + b)))) trivial (n1.setG (v := .int (a + b)) (x := .d (.int (a + b))) (Rep.int (a + b)) hl)⟩
                · exact h1.elim
              | _ => exact h1.elim
          | _ => simp only [q] at h; exact h.elim
end
section
variable {e : ME} {s : PS} {R : Fl → PS → Prop} {i : Nat} {a : Int}
theorem T_augN (h : s.g[i]? = some (some (.d (.int a)))) (q : T (e s) fun y s => ∃ b, y = .d (.int b) ∧ i < s.g.length ∧ R .nx { s with g := s.g.set i (some (.d (.int (a + b)))) }) : T (sAugN i e s) R := by
  unfold sAugN
  simp only [h]
  rw [T_bind]
  refine q.imp fun y s ⟨b, e1, hl, q⟩ => ?_
  subst e1
  dsimp only
  rw [if_pos hl]
  exact T_ok.mpr q
end
end Bf
/-! [e for a, b in .. for c in ..] -/
namespace Bf
open PySem L2
theorem wipe_to {own : List Nat} {g g0 : List (Option SV)} (h0 : ∀ i ∈ own, g0[i]? = some none) (hl : g.length = g0.length) (hs : ∀ j, j ∉ own → g[j]? = g0[j]?) : wipeG own g = g0 := by
  refine List.ext_getElem? fun j => ?_
  rw [wipe_get]
  by_cases h : j ∈ own
  · rw [if_pos ⟨h, by rw [hl]; exact (List.getElem?_eq_some_iff.mp (h0 j h)).1⟩, h0 j h]
  · rw [if_neg fun z => h z.1, hs j h]
section
variable {it : It'} {ps : List (D × D)} {i k j : Nat} {g0 : List (Option SV)} {w : List Cell} {mi i1 : MI} {e : ME} {ys : D × D → List D} {f : D × D → D → D}
theorem T_lc2PGo (hl : it.list = some (ps.map fun p => .tup [p.1, p.2])) (hi : g0[i]? = some none) (hk : g0[k]? = some none) (hj : g0[j]? = some none) (hik : i ≠ k) (hij : i ≠ j) (hkj : k ≠ j) (hg : Slots w.length g0) (hw : Flat w)
    (inner : ∀ p ∈ ps, ∀ v, Flat v → T (i1 ⟨(g0.set i (some (.d p.1))).set k (some (.d p.2)), w ++ v⟩) fun it1 s => it1.list = some (ys p) ∧ isFix it1 = true ∧ s = ⟨(g0.set i (some (.d p.1))).set k (some (.d p.2)), w ++ v⟩)
    (step : ∀ p ∈ ps, ∀ y ∈ ys p, ∀ v, Flat v → T (e ⟨((g0.set i (some (.d p.1))).set k (some (.d p.2))).set j (some (.d y)), w ++ v⟩) fun z s => z = .d (f p y) ∧ s = ⟨((g0.set i (some (.d p.1))).set k (some (.d p.2))).set j (some (.d y)), w ++ v⟩) :
    ∀ (m p : Nat) (acc : List D), p + m = ps.length → acc.length + ((ps.drop p).flatMap fun x => (ys x).map (f x)).length ≤ sizeLine → T (lc2Go it w.length [i, k, j] (hTup [hName i, hName k]) cYes i1 [j] (hName j) cYes e m p ⟨g0, w ++ [.lst acc]⟩) fun _ s => s = ⟨g0, w ++ [.lst (acc ++ (ps.drop p).flatMap fun x => (ys x).map (f x))]⟩ := by
  intro m
  induction m with
  | zero =>
    intro p acc hp hz
    unfold lc2Go
    rw [It'.at_list hl, List.getElem?_eq_none (by rw [List.length_map]; omega)]
    simp only [T_ok]
    rw [List.drop_of_length_le (by omega)]
    simp
  | succ m ih =>
    intro p acc hp hz
    unfold lc2Go
    have hlt : p < ps.length := by omega
    rw [It'.at_list hl, List.getElem?_map, List.getElem?_eq_getElem hlt]
    have hil : i < g0.length := (List.getElem?_eq_some_iff.mp hi).1
    have hkl : k < g0.length := (List.getElem?_eq_some_iff.mp hk).1
    have hx := List.getElem_mem hlt
    rw [List.drop_eq_getElem_cons hlt, List.flatMap_cons] at hz ⊢
    generalize ps[p] = x at *
    simp only [Option.map_some, T_bind, T_nox, T_hTup2, T_name, cYes, T_ok, if_true, List.length_set]
    refine ⟨hil, hkl, ?_⟩
    refine (inner x hx [.lst acc] (by simp)).imp fun it1 s ⟨e1, e2, e3⟩ => ?_
    subst e3
    rw [if_pos e2]
    have hs2 : Slots w.length ((g0.set i (some (SV.d x.1))).set k (some (SV.d x.2))) := (hg.set).set
    have e4 : trunc (w.length + 1) { g := (g0.set i (some (SV.d x.1))).set k (some (SV.d x.2)), w := w ++ [Cell.lst acc] } = some ⟨(g0.set i (some (SV.d x.1))).set k (some (SV.d x.2)), w ++ [.lst acc]⟩ := by
      rw [Flat.trunc (by simp [hw])]
      simp only [hs2.drop (Nat.le_succ _)]
      rw [List.take_of_length_le (by simp)]
    simp only [e4, T_bind]
    have hj' : ((g0.set i (some (SV.d x.1))).set k (some (SV.d x.2)))[j]? = some none := by
      rw [List.getElem?_set_ne hkj, List.getElem?_set_ne hij, hj]
    rw [wipeG_one hj', It'.fuel_list e1]
    rw [List.length_append, List.length_map] at hz
    refine (T_lcIn e1 hj' hs2 hw (step x hx) (ys x).length 0 acc (by simp) (by omega)).imp fun _ s e5 => ?_
    subst e5
    have wb : wipeG [i, k, j] ((g0.set i (some (SV.d x.1))).set k (some (SV.d x.2))) = g0 := by
      refine wipe_to (fun n hn => ?_) (by simp) fun n hn => ?_
      · simp only [List.mem_cons, List.not_mem_nil, or_false] at hn
        rcases hn with rfl | rfl | rfl <;> assumption
      · simp only [List.mem_cons, List.not_mem_nil, or_false, not_or] at hn
        rw [List.getElem?_set_ne (Ne.symm hn.2.1), List.getElem?_set_ne (Ne.symm hn.1)]
    have wb' := wb
    simp only [wb', List.drop_zero]
    refine (ih (p + 1) (acc ++ (ys x).map (f x)) (by omega) (by rw [List.length_append, List.length_map]; omega)).imp fun _ s e => ?_
    rw [e, List.append_assoc]
theorem T_flc2P {Q : D → PS → Prop} (hit : T (mi ⟨g0, w⟩) fun j s => j = it ∧ s = ⟨g0, w⟩) (hl : it.list = some (ps.map fun p => .tup [p.1, p.2])) (hi : g0[i]? = some none) (hk : g0[k]? = some none) (hj : g0[j]? = some none) (hik : i ≠ k) (hij : i ≠ j) (hkj : k ≠ j) (hg : Slots w.length g0) (hw : Flat w)
    (inner : ∀ p ∈ ps, ∀ v, Flat v → T (i1 ⟨(g0.set i (some (.d p.1))).set k (some (.d p.2)), w ++ v⟩) fun it1 s => it1.list = some (ys p) ∧ isFix it1 = true ∧ s = ⟨(g0.set i (some (.d p.1))).set k (some (.d p.2)), w ++ v⟩)
    (step : ∀ p ∈ ps, ∀ y ∈ ys p, ∀ v, Flat v → T (e ⟨((g0.set i (some (.d p.1))).set k (some (.d p.2))).set j (some (.d y)), w ++ v⟩) fun z s => z = .d (f p y) ∧ s = ⟨((g0.set i (some (.d p.1))).set k (some (.d p.2))).set j (some (.d y)), w ++ v⟩)
    (hz : (ps.flatMap fun x => (ys x).map (f x)).length ≤ sizeLine) (q : Q (.lst (ps.flatMap fun x => (ys x).map (f x))) ⟨g0, w ++ [.gone]⟩) :
    T (vLc2N mi [i, k, j] (hTup [hName i, hName k]) cYes i1 [j] (hName j) cYes e ⟨g0, w⟩) fun x s => OP (frz s x) fun y s => Q y s := by
  unfold vLc2N
  simp only [T_bind, T_ok]
  refine hit.imp fun it' s ⟨e1, e2⟩ => ?_
  subst e1 e2
  dsimp only
  have own : ∀ n ∈ [i, k, j], g0[n]? = some none := fun n hn => by
    simp only [List.mem_cons, List.not_mem_nil, or_false] at hn
    rcases hn with rfl | rfl | rfl <;> assumption
  have wg : wipeG [i, k, j] g0 = g0 := wipe_to own rfl fun _ _ => rfl
  rw [wg, It'.fuel_list hl, List.length_map]
  refine (T_lc2PGo hl hi hk hj hik hij hkj hg hw inner step ps.length 0 [] (by simp) (by simpa using hz)).imp fun _ s e => ?_
  subst e
  dsimp only
  have bk : backG [i, k, j] g0 g0 = g0 := by
    have := back_dat (own := [i, k, j]) (g0 := g0) fun n hn => ⟨_, own n hn, .inl rfl⟩
    rwa [wg] at this
  rw [bk, frz_last hg]
  simpa using q
end
end Bf
namespace Bf
open PySem PySem.Spec PyProof.Rows L2
def top (i : Nat) : Stmt := PySem.Challenge.pw_bondfloors_k29_errors_of_bonds.main.body.getD i (.Pass ⟨0, 0, 0, 0⟩)
def top2 (i j : Nat) : Stmt := match top i with
  | .ClassDef _ _ _ b _ _ _ _ _ _ _ => b.getD j (.Pass ⟨0, 0, 0, 0⟩)
  | s => s
def fileL : Str := "/claim/cut.py"
def csL : List (Addr × Addr) := [(846, 842), (853, 849)]
def tabsL : List (Addr × Str) := [(842, "_law_right.<locals>.<lambda>"), (849, "law.<locals>.<lambda>")]
def exL : List Nat := [1, 2, 3, 4, 5, 6, 7]
def subE (n c : Nat) : Bool := [(1, 1), (2, 2), (3, 3), (4, 4), (5, 5), (6, 6), (7, 7)].contains (n, c)
abbrev s__law_met : Stmt := top 87
abbrev n__law_met : List Str := ["call", "e"]
abbrev p__law_met : List Str := ["call"]
def hs__law_met : List (Nat × HK) := [(1, .txt "size"), (2, .txt "plan"), (4, .txt "line"), (5, .txt "operation"), (6, .fld "number " "value"), (3, .fld "unlaid " "value"), (7, .fld "many " "limit")]
abbrev s_is_integer : Stmt := top 13
abbrev n_is_integer : List Str := ["value"]
abbrev p_is_integer : List Str := ["value"]
def b_is_integer : MS := sRet (vAnd (vB isiB (aCons (vVar 0) (aCons (vC (.raw (.ty "int"))) (aNil)))) (vNot (vB isiB (aCons (vVar 0) (aCons (vC (.raw (.ty "bool"))) (aNil))))))
def m_is_integer : Fn := fnM 1 b_is_integer
abbrev s_is_row : Stmt := top 15
abbrev n_is_row : List Str := ["value", "many"]
abbrev p_is_row : List Str := ["value", "many"]
def b_is_row : MS := sRet (vAnd (vB isiB (aCons (vVar 0) (aCons (vC (.raw (.ty "tuple"))) (aNil)))) (vOp eqD (vB lenB (aCons (vVar 0) (aNil))) (vVar 1)))
def m_is_row : Fn := fnM 2 b_is_row
abbrev s_is_word_of : Stmt := top 16
abbrev n_is_word_of : List Str := ["value", "words"]
abbrev p_is_word_of : List Str := ["value", "words"]
def b_is_word_of : MS := sRet (vAnd (vB isiB (aCons (vVar 0) (aCons (vC (.raw (.ty "str"))) (aNil)))) (vOp inD (vVar 0) (vVar 1)))
def m_is_word_of : Fn := fnM 2 b_is_word_of
abbrev s_is_laid : Stmt := top 19
abbrev n_is_laid : List Str := ["size", "width", "height", "length"]
abbrev p_is_laid : List Str := ["size"]
def b_is_laid : MS := sSeq (sAsg (vVar 0) (hTup [hName 1, hName 2, hName 3])) (sRet (vOr (vOp eqD (vOp modD (vVar 1) (vVar 3)) (vC (.int 0))) (vOp eqD (vOp modD (vVar 2) (vVar 3)) (vC (.int 0)))))
def m_is_laid : Fn := fnM 4 b_is_laid
abbrev s_exchanged_size : Stmt := top 20
abbrev n_exchanged_size : List Str := ["size"]
abbrev p_exchanged_size : List Str := ["size"]
def b_exchanged_size : MS := sRet (vTup (aCons (vOp idxD (vVar 0) (vC (.int 1))) (aCons (vOp idxD (vVar 0) (vC (.int 0))) (aCons (vOp idxD (vVar 0) (vC (.int 2))) (aNil)))))
def m_exchanged_size : Fn := fnM 1 b_exchanged_size
abbrev s_other_way : Stmt := top 26
abbrev n_other_way : List Str := ["way"]
abbrev p_other_way : List Str := ["way"]
def b_other_way : MS := sRet (vIf (cVal (vOp eqD (vVar 0) (vC (.str "across")))) (vC (.str "down")) (vC (.str "across")))
def m_other_way : Fn := fnM 1 b_other_way
abbrev s_remainder_in : Stmt := top 36
abbrev n_remainder_in : List Str := ["size", "line"]
abbrev p_remainder_in : List Str := ["size", "line"]
def b_remainder_in : MS := sSeq (sIf (cVal (vOp eqD (vOp modD (vOp idxD (vVar 1) (vC (.int 1))) (vOp idxD (vVar 0) (vC (.int 2)))) (vC (.int 0)))) (sRet (vC (.int 0))) (sNx)) (sRet (vOp modD (vIf (cVal (vOp eqD (vOp idxD (vVar 1) (vC (.int 0))) (vC (.str "upright")))) (vOp idxD (vVar 0) (vC (.int 1))) (vOp idxD (vVar 0) (vC (.int 0)))) (vOp idxD (vVar 0) (vC (.int 2)))))
def m_remainder_in : Fn := fnM 2 b_remainder_in
abbrev s_are_apart : Stmt := top 41
abbrev n_are_apart : List Str := ["one", "other"]
abbrev p_are_apart : List Str := ["one", "other"]
def b_are_apart : MS := sSeq (sIf (cOr (cVal (vOp leD (vOp addD (vOp idxD (vVar 0) (vC (.int 0))) (vOp idxD (vVar 0) (vC (.int 2)))) (vOp idxD (vVar 1) (vC (.int 0))))) (cVal (vOp leD (vOp addD (vOp idxD (vVar 1) (vC (.int 0))) (vOp idxD (vVar 1) (vC (.int 2)))) (vOp idxD (vVar 0) (vC (.int 0)))))) (sRet (vC (.bl true))) (sNx)) (sRet (vOr (vOp leD (vOp addD (vOp idxD (vVar 0) (vC (.int 1))) (vOp idxD (vVar 0) (vC (.int 3)))) (vOp idxD (vVar 1) (vC (.int 1)))) (vOp leD (vOp addD (vOp idxD (vVar 1) (vC (.int 1))) (vOp idxD (vVar 1) (vC (.int 3)))) (vOp idxD (vVar 0) (vC (.int 1))))))
def m_are_apart : Fn := fnM 2 b_are_apart
abbrev s_corner_weight : Stmt := top 51
abbrev n_corner_weight : List Str := ["width", "height", "total"]
abbrev p_corner_weight : List Str := ["width", "height", "total"]
def b_corner_weight : MS := sRet (vB maxB (aCons (vC (.int 0)) (aCons (vB (numsD minI) (aCons (vOp addD (vVar 2) (vC (.int 1))) (aCons (vVar 0) (aCons (vVar 1) (aCons (vOp subD (vOp subD (vOp addD (vVar 0) (vVar 1)) (vC (.int 1))) (vVar 2)) (aNil)))))) (aNil))))
def m_corner_weight : Fn := fnM 3 b_corner_weight
abbrev s_is_one_bar : Stmt := top 53
abbrev n_is_one_bar : List Str := ["size"]
abbrev p_is_one_bar : List Str := ["size"]
def b_is_one_bar : MS := sRet (vAnd (vOp eqD (vOp mulD (vOp idxD (vVar 0) (vC (.int 0))) (vOp idxD (vVar 0) (vC (.int 1)))) (vOp idxD (vVar 0) (vC (.int 2)))) (vOp eqD (vB minB (aCons (vOp idxD (vVar 0) (vC (.int 0))) (aCons (vOp idxD (vVar 0) (vC (.int 1))) (aNil)))) (vC (.int 1))))
def m_is_one_bar : Fn := fnM 1 b_is_one_bar
abbrev s_total_crossings_in : Stmt := top 58
abbrev n_total_crossings_in : List Str := ["size"]
abbrev p_total_crossings_in : List Str := ["size"]
def b_total_crossings_in : MS := sRet (vOp mulD (vOp divD (vOp mulD (vOp idxD (vVar 0) (vC (.int 0))) (vOp idxD (vVar 0) (vC (.int 1)))) (vOp idxD (vVar 0) (vC (.int 2)))) (vOp subD (vOp idxD (vVar 0) (vC (.int 2))) (vC (.int 1))))
def m_total_crossings_in : Fn := fnM 1 b_total_crossings_in
abbrev s_stack_of : Stmt := top 64
abbrev n_stack_of : List Str := ["x", "y", "width", "heights", "found", "height", "way"]
abbrev p_stack_of : List Str := ["x", "y", "width", "heights"]
def b_stack_of : MS := sSeq (sAsg (vLstN (aNil)) (hName 4)) (sSeq (sFor (jSeq (vVar 3)) (hTup [hName 5, hName 6]) (sSeq (sIf (cVal (vOp gtD (vVar 5) (vC (.int 0)))) (sExp (vMu appM (vVar 4) (aCons (vTup (aCons (vVar 0) (aCons (vVar 1) (aCons (vVar 2) (aCons (vVar 5) (aCons (vVar 6) (aNil))))))) (aNil)))) (sNx)) (sAugN 1 (vVar 5)))) (sRet (vFrz (vVar 4))))
def m_stack_of : Fn := fnM 7 b_stack_of
abbrev s_band_of : Stmt := top 65
abbrev n_band_of : List Str := ["x", "y", "length", "many", "middle", "across"]
abbrev p_band_of : List Str := ["x", "y", "length", "many"]
def b_band_of : MS := sSeq (sAsg (vOp addD (vOp addD (vVar 0) (vC (.int 1))) (vOp mulD (vVar 3) (vVar 2))) (hName 4)) (sSeq (sAsg (vIf (cVal (vOp gtD (vVar 3) (vC (.int 0)))) (vLst (aCons (vTup (aCons (vOp addD (vVar 0) (vC (.int 1))) (aCons (vVar 1) (aCons (vOp mulD (vVar 3) (vVar 2)) (aCons (vVar 2) (aCons (vC (.str "across")) (aNil))))))) (aNil))) (vLst (aNil))) (hName 5)) (sRet (vLst (aCons (vTup (aCons (vVar 0) (aCons (vVar 1) (aCons (vC (.int 1)) (aCons (vVar 2) (aCons (vC (.str "down")) (aNil))))))) (aStar (vVar 5) (aCons (vTup (aCons (vVar 4) (aCons (vVar 1) (aCons (vOp subD (vVar 2) (vC (.int 1))) (aCons (vVar 2) (aCons (vC (.str "down")) (aNil))))))) (aNil)))))))
def m_band_of : Fn := fnM 6 b_band_of
abbrev s_stacks_of : Stmt := top 66
abbrev n_stacks_of : List Str := ["size", "height", "length", "many", "rest", "right", "left", "down"]
abbrev p_stacks_of : List Str := ["size"]
def b_stacks_of : MS := sSeq (sPar 1 2 (aCons (vOp idxD (vVar 0) (vC (.int 1))) (aCons (vOp idxD (vVar 0) (vC (.int 2))) (aNil)))) (sSeq (sPar 3 4 (aCons (vOp divD (vOp subD (vVar 1) (vVar 2)) (vVar 2)) (aCons (vOp modD (vOp subD (vVar 1) (vVar 2)) (vVar 2)) (aNil)))) (sSeq (sIf (cVal (vOp gtD (vVar 4) (vC (.int 0)))) (sSeq (sPar 5 6 (aCons (vLst (aCons (vTup (aCons (vVar 4) (aCons (vC (.str "across")) (aNil)))) (aCons (vTup (aCons (vOp mulD (vVar 3) (vVar 2)) (aCons (vC (.str "down")) (aNil)))) (aNil)))) (aCons (vLst (aCons (vTup (aCons (vOp mulD (vVar 3) (vVar 2)) (aCons (vC (.str "down")) (aNil)))) (aCons (vTup (aCons (vVar 4) (aCons (vC (.str "across")) (aNil)))) (aNil)))) (aNil)))) (sRet (vTup (aCons (vVar 5) (aCons (vVar 6) (aCons (vLst (aCons (vTup (aCons (vOp subD (vVar 1) (vOp mulD (vC (.int 2)) (vVar 2))) (aCons (vC (.str "across")) (aNil)))) (aNil))) (aNil))))))) (sNx)) (sSeq (sIf (cVal (vOp gtD (vVar 2) (vC (.int 2)))) (sSeq (sAsg (vTup (aCons (vOp mulD (vOp subD (vVar 3) (vC (.int 1))) (vVar 2)) (aCons (vC (.str "down")) (aNil)))) (hName 7)) (sSeq (sPar 5 6 (aCons (vLst (aCons (vTup (aCons (vC (.int 2)) (aCons (vC (.str "across")) (aNil)))) (aCons (vVar 7) (aCons (vTup (aCons (vOp subD (vVar 2) (vC (.int 2))) (aCons (vC (.str "across")) (aNil)))) (aNil))))) (aCons (vLst (aCons (vTup (aCons (vC (.int 1)) (aCons (vC (.str "across")) (aNil)))) (aCons (vVar 7) (aCons (vTup (aCons (vOp subD (vVar 2) (vC (.int 1))) (aCons (vC (.str "across")) (aNil)))) (aNil))))) (aNil)))) (sRet (vTup (aCons (vVar 5) (aCons (vVar 6) (aCons (vLst (aCons (vTup (aCons (vOp subD (vVar 1) (vOp mulD (vC (.int 2)) (vVar 2))) (aCons (vC (.str "across")) (aNil)))) (aNil))) (aNil)))))))) (sNx)) (sSeq (sAsg (vLst (aCons (vTup (aCons (vC (.int 1)) (aCons (vC (.str "across")) (aNil)))) (aCons (vTup (aCons (vC (.int 2)) (aCons (vC (.str "down")) (aNil)))) (aCons (vTup (aCons (vC (.int 1)) (aCons (vC (.str "across")) (aNil)))) (aCons (vTup (aCons (vOp subD (vVar 1) (vC (.int 6))) (aCons (vC (.str "down")) (aNil)))) (aNil)))))) (hName 5)) (sSeq (sAsg (vLst (aCons (vTup (aCons (vC (.int 2)) (aCons (vC (.str "down")) (aNil)))) (aCons (vTup (aCons (vC (.int 1)) (aCons (vC (.str "across")) (aNil)))) (aCons (vTup (aCons (vOp subD (vVar 1) (vC (.int 6))) (aCons (vC (.str "down")) (aNil)))) (aCons (vTup (aCons (vC (.int 1)) (aCons (vC (.str "across")) (aNil)))) (aNil)))))) (hName 6)) (sRet (vTup (aCons (vVar 5) (aCons (vVar 6) (aCons (vLst (aCons (vTup (aCons (vC (.int 1)) (aCons (vC (.str "across")) (aNil)))) (aCons (vTup (aCons (vC (.int 2)) (aCons (vC (.str "down")) (aNil)))) (aCons (vTup (aCons (vOp subD (vVar 1) (vC (.int 7))) (aCons (vC (.str "across")) (aNil)))) (aNil))))) (aNil)))))))))))
def m_stacks_of : Fn := fnM 8 b_stacks_of
abbrev s_is_straight : Stmt := top 67
abbrev n_is_straight : List Str := ["size"]
abbrev p_is_straight : List Str := ["size"]
def b_is_straight : MS := sRet (vAnd (vOp eqD (vOp modD (vOp idxD (vVar 0) (vC (.int 0))) (vOp idxD (vVar 0) (vC (.int 2)))) (vC (.int 0))) (vNot (vAnd (vOp eqD (vOp idxD (vVar 0) (vC (.int 2))) (vC (.int 2))) (vOp eqD (vOp idxD (vVar 0) (vC (.int 1))) (vC (.int 6))))))
def m_is_straight : Fn := fnM 1 b_is_straight
abbrev s__law_urn : Stmt := top 75
abbrev n__law_urn : List Str := ["script", "at", "cell", "great", "seed"]
abbrev p__law_urn : List Str := ["script", "at"]
def b__law_urn : MS := sSeq (sAsg (vIf (cVal (vOp ltD (vVar 1) (vB lenB (aCons (vVar 0) (aNil))))) (vOp idxD (vVar 0) (vVar 1)) (vOp addD (vOp mulD (vC (.int 83)) (vVar 1)) (vC (.int 37)))) (hName 2)) (sSeq (sAsg (vOp modD (vB intB (aCons (vB absB (aCons (vVar 2) (aNil))) (aNil))) (vOp powD (vOp powD (vC (.int 10)) (vC (.int 60))) (vC (.int 9)))) (hName 3)) (sSeq (sAsg (vOp modD (vB intB (aCons (vOp addD (vOp addD (vOp addD (vOp mulD (vVar 3) (vC (.int 104651))) (vOp mulD (vC (.int 15331)) (vVar 1))) (vOp mulD (vC (.int 43)) (vB intB (aCons (vOp ltD (vVar 2) (vC (.int 0))) (aNil))))) (vC (.int 19))) (aNil))) (vC (.int 2305843009213693921))) (hName 4)) (sRet (vLstN (aCons (vB maxB (aCons (vC (.int 0)) (aCons (vOp subD (vVar 3) (vOp powD (vC (.int 10)) (vC (.int 17)))) (aNil)))) (aCons (vVar 4) (aCons (vC (.int 0)) (aNil))))))))
def m__law_urn : Fn := fnM 5 b__law_urn
abbrev s__law_take : Stmt := top 76
abbrev n__law_take : List Str := ["urn", "total", "found", "one", "two", "three"]
abbrev p__law_take : List Str := ["urn", "total"]
def b__law_take : MS := sSeq (sIf (cVal (vOp gtD (vOp idxD (vVar 0) (vC (.int 0))) (vC (.int 0)))) (sSeq (sAsg (vOp modD (vB intB (aCons (vOp idxD (vVar 0) (vC (.int 0))) (aNil))) (vVar 1)) (hName 2)) (sSeq (sAsg (vOp divD (vOp idxD (vVar 0) (vC (.int 0))) (vVar 1)) (hSub (vVar 0) (vC (.int 0)))) (sRet (vVar 2)))) (sNx)) (sSeq (sAsg (vOp addD (vOp idxD (vVar 0) (vC (.int 2))) (vC (.int 1))) (hSub (vVar 0) (vC (.int 2)))) (sSeq (sAsg (vOp modD (vB intB (aCons (vOp addD (vOp idxD (vVar 0) (vC (.int 1))) (vOp mulD (vC (.int 1299709)) (vOp idxD (vVar 0) (vC (.int 2))))) (aNil))) (vC (.int 2305843009213693951))) (hName 3)) (sSeq (sAsg (vOp modD (vB intB (aCons (vOp addD (vOp mulD (vVar 3) (vVar 3)) (vOp mulD (vC (.int 7919)) (vOp idxD (vVar 0) (vC (.int 2))))) (aNil))) (vC (.int 1000000000039))) (hName 4)) (sSeq (sAsg (vOp modD (vB intB (aCons (vOp addD (vOp mulD (vVar 4) (vVar 4)) (vVar 3)) (aNil))) (vC (.int 998244353))) (hName 5)) (sRet (vOp modD (vB intB (aCons (vOp divD (vVar 5) (vC (.int 61))) (aNil))) (vVar 1)))))))
def m__law_take : Fn := fnM 6 b__law_take
abbrev s__law_is_laid : Stmt := top 79
abbrev n__law_is_laid : List Str := ["size"]
abbrev p__law_is_laid : List Str := ["size"]
def b__law_is_laid : MS := sRet (vOr (vOp eqD (vOp modD (vOp idxD (vVar 0) (vC (.int 0))) (vOp idxD (vVar 0) (vC (.int 2)))) (vC (.int 0))) (vOp eqD (vOp modD (vOp idxD (vVar 0) (vC (.int 1))) (vOp idxD (vVar 0) (vC (.int 2)))) (vC (.int 0))))
def m__law_is_laid : Fn := fnM 1 b__law_is_laid
abbrev s__law_is_one_bar : Stmt := top 80
abbrev n__law_is_one_bar : List Str := ["size"]
abbrev p__law_is_one_bar : List Str := ["size"]
def b__law_is_one_bar : MS := sRet (vOp eqD (vB sortedB (aCons (vSl (vVar 0) (oNone) (oSome (vC (.int 2)))) (aNil))) (vLst (aCons (vC (.int 1)) (aCons (vOp idxD (vVar 0) (vC (.int 2))) (aNil)))))
def m__law_is_one_bar : Fn := fnM 1 b__law_is_one_bar
abbrev s_is_from : Stmt := top 14
abbrev n_is_from : List Str := ["value", "first", "last"]
abbrev p_is_from : List Str := ["value", "first", "last"]
def b_is_from : MS := sRet (vAnd (vCall m_is_integer (aCons (vVar 0) (aNil))) (vChain leD leD (vVar 1) (vVar 0) (vVar 2)))
def m_is_from : Fn := fnM 3 b_is_from
abbrev s_need_in : Stmt := top 37
abbrev n_need_in : List Str := ["size", "line"]
abbrev p_need_in : List Str := ["size", "line"]
def b_need_in : MS := sRet (vOrV (vCall m_remainder_in (aCons (vVar 0) (aCons (vVar 1) (aNil)))) (vOp idxD (vVar 0) (vC (.int 2))))
def m_need_in : Fn := fnM 2 b_need_in
abbrev s_exchanged_block : Stmt := top 43
abbrev n_exchanged_block : List Str := ["block", "x", "y", "width", "height", "way"]
abbrev p_exchanged_block : List Str := ["block"]
def b_exchanged_block : MS := sSeq (sAsg (vVar 0) (hTup [hName 1, hName 2, hName 3, hName 4, hName 5])) (sRet (vTup (aCons (vVar 2) (aCons (vVar 1) (aCons (vVar 4) (aCons (vVar 3) (aCons (vCall m_other_way (aCons (vVar 5) (aNil))) (aNil))))))))
def m_exchanged_block : Fn := fnM 6 b_exchanged_block
abbrev s_weight_in : Stmt := top 52
abbrev n_weight_in : List Str := ["size", "number", "width", "height", "length", "left", "low", "corner"]
abbrev p_weight_in : List Str := ["size", "number"]
def b_weight_in : MS := sSeq (sAsg (vVar 0) (hTup [hName 2, hName 3, hName 4])) (sSeq (sPar 5 6 (aCons (vOp modD (vVar 2) (vVar 4)) (aCons (vOp modD (vVar 3) (vVar 4)) (aNil)))) (sSeq (sAsg (vOp addD (vCall m_corner_weight (aCons (vVar 5) (aCons (vVar 6) (aCons (vVar 1) (aNil))))) (vCall m_corner_weight (aCons (vVar 5) (aCons (vVar 6) (aCons (vOp addD (vVar 1) (vVar 4)) (aNil)))))) (hName 7)) (sRet (vOp addD (vOp divD (vOp subD (vOp mulD (vVar 2) (vVar 3)) (vOp mulD (vVar 5) (vVar 6))) (vVar 4)) (vVar 7)))))
def m_weight_in : Fn := fnM 8 b_weight_in
abbrev s_is_narrow : Stmt := top 54
abbrev n_is_narrow : List Str := ["size"]
abbrev p_is_narrow : List Str := ["size"]
def b_is_narrow : MS := sRet (vAnd (vOp leD (vB minB (aCons (vOp idxD (vVar 0) (vC (.int 0))) (aCons (vOp idxD (vVar 0) (vC (.int 1))) (aNil)))) (vOp mulD (vC (.int 2)) (vOp idxD (vVar 0) (vC (.int 2))))) (vNot (vCall m_is_one_bar (aCons (vVar 0) (aNil)))))
def m_is_narrow : Fn := fnM 1 b_is_narrow
abbrev s__law_one : Stmt := top 77
abbrev n__law_one : List Str := ["urn", "items"]
abbrev p__law_one : List Str := ["urn", "items"]
def b__law_one : MS := sRet (vOp idxD (vVar 1) (vCall m__law_take (aCons (vVar 0) (aCons (vB lenB (aCons (vVar 1) (aNil))) (aNil)))))
def m__law_one : Fn := fnM 2 b__law_one
abbrev s__law_has_bond : Stmt := top 81
abbrev n__law_has_bond : List Str := ["size"]
abbrev p__law_has_bond : List Str := ["size"]
def b__law_has_bond : MS := sSeq (sIf (cVal (vCall m__law_is_one_bar (aCons (vVar 0) (aNil)))) (sRet (vC (.bl true))) (sNx)) (sRet (vAnd (vCall m__law_is_laid (aCons (vVar 0) (aNil))) (vAnd (vOp gtD (vB (minX (numsT minI)) (aCons (vSl (vVar 0) (oNone) (oSome (vC (.int 2)))) (aNil))) (vOp mulD (vC (.int 2)) (vOp idxD (vVar 0) (vC (.int 2))))) (vOp neD (vVar 0) (vTup (aCons (vC (.int 6)) (aCons (vC (.int 6)) (aCons (vC (.int 2)) (aNil)))))))))
def m__law_has_bond : Fn := fnM 1 b__law_has_bond
abbrev s_is_size : Stmt := top 17
abbrev n_is_size : List Str := ["value"]
abbrev p_is_size : List Str := ["value"]
def b_is_size : MS := sSeq (sIf (cOr (cNot (cVal (vCall m_is_row (aCons (vVar 0) (aCons (vC (.int 3)) (aNil)))))) (cOr (cNot (cVal (vCall m_is_from (aCons (vOp idxD (vVar 0) (vC (.int 0))) (aCons (vC (.int 1)) (aCons (vC (.int (10 ^ 30))) (aNil))))))) (cNot (cVal (vCall m_is_from (aCons (vOp idxD (vVar 0) (vC (.int 1))) (aCons (vC (.int 1)) (aCons (vC (.int (10 ^ 30))) (aNil))))))))) (sRet (vC (.bl false))) (sNx)) (sRet (vCall m_is_from (aCons (vOp idxD (vVar 0) (vC (.int 2))) (aCons (vC (.int 2)) (aCons (vC (.int (10 ^ 30))) (aNil))))))
def m_is_size : Fn := fnM 1 b_is_size
abbrev s_is_block : Stmt := top 40
abbrev n_is_block : List Str := ["size", "value", "x", "y", "width", "height", "way"]
abbrev p_is_block : List Str := ["size", "value"]
def b_is_block : MS := sSeq (sIf (cOr (cNot (cVal (vCall m_is_row (aCons (vVar 1) (aCons (vC (.int 5)) (aNil)))))) (cNot (cVal (vCall m_is_word_of (aCons (vOp idxD (vVar 1) (vC (.int 4))) (aCons (vC (.kup [.str "across", .str "down"])) (aNil))))))) (sRet (vC (.bl false))) (sNx)) (sSeq (sAsg (vVar 1) (hTup [hName 2, hName 3, hName 4, hName 5, hName 6])) (sSeq (sIf (cOr (cNot (cVal (vCall m_is_from (aCons (vVar 2) (aCons (vC (.int 0)) (aCons (vOp subD (vOp idxD (vVar 0) (vC (.int 0))) (vC (.int 1))) (aNil))))))) (cNot (cVal (vCall m_is_from (aCons (vVar 3) (aCons (vC (.int 0)) (aCons (vOp subD (vOp idxD (vVar 0) (vC (.int 1))) (vC (.int 1))) (aNil)))))))) (sRet (vC (.bl false))) (sNx)) (sSeq (sIf (cOr (cNot (cVal (vCall m_is_from (aCons (vVar 4) (aCons (vC (.int 1)) (aCons (vOp subD (vOp idxD (vVar 0) (vC (.int 0))) (vVar 2)) (aNil))))))) (cNot (cVal (vCall m_is_from (aCons (vVar 5) (aCons (vC (.int 1)) (aCons (vOp subD (vOp idxD (vVar 0) (vC (.int 1))) (vVar 3)) (aNil)))))))) (sRet (vC (.bl false))) (sNx)) (sRet (vOp eqD (vOp modD (vIf (cVal (vOp eqD (vVar 6) (vC (.str "across")))) (vVar 4) (vVar 5)) (vOp idxD (vVar 0) (vC (.int 2)))) (vC (.int 0)))))))
def m_is_block : Fn := fnM 7 b_is_block
abbrev s_has_bond_in : Stmt := top 55
abbrev n_has_bond_in : List Str := ["size"]
abbrev p_has_bond_in : List Str := ["size"]
def b_has_bond_in : MS := sRet (vOr (vCall m_is_one_bar (aCons (vVar 0) (aNil))) (vAnd (vCall m_is_laid (aCons (vVar 0) (aNil))) (vAnd (vNot (vCall m_is_narrow (aCons (vVar 0) (aNil)))) (vOp neD (vVar 0) (vC (.kup [.int (6), .int (6), .int (2)]))))))
def m_has_bond_in : Fn := fnM 1 b_has_bond_in
abbrev s_needs_of : Stmt := top 56
abbrev n_needs_of : List Str := ["size", "kind", "side", "times"]
abbrev p_needs_of : List Str := ["size", "kind", "side"]
def b_needs_of : MS := sSeq (sAsg (vOp divD (vOp subD (vVar 2) (vC (.int 1))) (vOp idxD (vVar 0) (vC (.int 2)))) (hName 3)) (sRet (vOp addD (vOp mulD (vVar 3) (vOp idxD (vVar 0) (vC (.int 2)))) (vOp mulD (vOp subD (vOp subD (vVar 2) (vC (.int 1))) (vVar 3)) (vCall m_need_in (aCons (vVar 0) (aCons (vTup (aCons (vVar 1) (aCons (vC (.int 1)) (aNil)))) (aNil)))))))
def m_needs_of : Fn := fnM 4 b_needs_of
abbrev s__law_small : Stmt := top 85
abbrev n__law_small : List Str := ["urn", "cells", "length", "width", "height"]
abbrev p__law_small : List Str := ["urn", "cells"]
def b__law_small : MS := sSeq (sAsg (vCall m__law_one (aCons (vVar 0) (aCons (vLst (aCons (vC (.int 2)) (aCons (vC (.int 2)) (aCons (vC (.int 3)) (aCons (vC (.int 2)) (aCons (vC (.int 4)) (aCons (vC (.int 3)) (aCons (vC (.int 5)) (aNil))))))))) (aNil)))) (hName 2)) (sSeq (sAsg (vOp addD (vC (.int 1)) (vCall m__law_take (aCons (vVar 0) (aCons (vOp addD (vOp mulD (vC (.int 3)) (vVar 2)) (vC (.int 2))) (aNil))))) (hName 3)) (sSeq (sIf (cVal (vOp gtD (vCall m__law_take (aCons (vVar 0) (aCons (vC (.int 3)) (aNil)))) (vC (.int 0)))) (sAsg (vOp mulD (vVar 2) (vOp addD (vC (.int 1)) (vCall m__law_take (aCons (vVar 0) (aCons (vC (.int 4)) (aNil)))))) (hName 3)) (sNx)) (sSeq (sAsg (vB minB (aCons (vVar 3) (aCons (vVar 1) (aNil)))) (hName 3)) (sSeq (sAsg (vOp addD (vC (.int 1)) (vCall m__law_take (aCons (vVar 0) (aCons (vB maxB (aCons (vC (.int 1)) (aCons (vB minB (aCons (vOp addD (vOp mulD (vC (.int 3)) (vVar 2)) (vC (.int 2))) (aCons (vOp divD (vVar 1) (vVar 3)) (aNil)))) (aNil)))) (aNil))))) (hName 4)) (sRet (vIf (cVal (vOp eqD (vCall m__law_take (aCons (vVar 0) (aCons (vC (.int 2)) (aNil)))) (vC (.int 0)))) (vTup (aCons (vVar 3) (aCons (vVar 4) (aCons (vVar 2) (aNil))))) (vTup (aCons (vVar 4) (aCons (vVar 3) (aCons (vVar 2) (aNil)))))))))))
def m__law_small : Fn := fnM 5 b__law_small
abbrev s__law_great : Stmt := top 86
abbrev n__law_great : List Str := ["urn", "length", "most", "sides", "turn", "times", "more"]
abbrev p__law_great : List Str := ["urn"]
def b__law_great : MS := sSeq (sAsg (vCall m__law_one (aCons (vVar 0) (aCons (vLst (aCons (vC (.int 2)) (aCons (vC (.int 3)) (aCons (vC (.int 4)) (aCons (vC (.int 7)) (aCons (vC (.int 10)) (aCons (vC (.int 2)) (aCons (vC (.int 3)) (aCons (vC (.int 1000)) (aCons (vOp addD (vOp powD (vC (.int 10)) (vC (.int 9))) (vC (.int 7))) (aCons (vOp powD (vC (.int 10)) (vC (.int 20))) (aCons (vOp addD (vOp powD (vC (.int 10)) (vC (.int 29))) (vC (.int 3))) (aNil))))))))))))) (aNil)))) (hName 1)) (sSeq (sAsg (vOp divD (vOp powD (vC (.int 10)) (vC (.int 30))) (vVar 1)) (hName 2)) (sSeq (sAsg (vLstN (aNil)) (hName 3)) (sSeq (sFor (jRng1 (vC (.int 2))) (hName 4) (sSeq (sAsg (vCall m__law_one (aCons (vVar 0) (aCons (vLst (aCons (vC (.int 1)) (aCons (vC (.int 2)) (aCons (vC (.int 3)) (aCons (vC (.int 4)) (aCons (vOp powD (vC (.int 10)) (vC (.int 6))) (aCons (vOp subD (vVar 2) (vC (.int 1))) (aCons (vOp divD (vVar 2) (vC (.int 3))) (aNil))))))))) (aNil)))) (hName 5)) (sSeq (sAsg (vCall m__law_one (aCons (vVar 0) (aCons (vLst (aCons (vC (.int 0)) (aCons (vC (.int 0)) (aCons (vC (.int 1)) (aCons (vOp subD (vVar 1) (vC (.int 1))) (aCons (vOp divD (vVar 1) (vC (.int 2))) (aNil))))))) (aNil)))) (hName 6)) (sExp (vMu appM (vVar 3) (aCons (vB maxB (aCons (vC (.int 1)) (aCons (vB minB (aCons (vOp powD (vC (.int 10)) (vC (.int 30))) (aCons (vOp addD (vOp mulD (vB minB (aCons (vVar 5) (aCons (vVar 2) (aNil)))) (vVar 1)) (vVar 6)) (aNil)))) (aNil)))) (aNil))))))) (sRet (vTup (aCons (vOp idxD (vVar 3) (vC (.int 0))) (aCons (vOp idxD (vVar 3) (vC (.int 1))) (aCons (vVar 1) (aNil)))))))))
def m__law_great : Fn := fnM 7 b__law_great
abbrev s__law_no_size : Stmt := top 88
abbrev n__law_no_size : List Str := ["urn", "some"]
abbrev p__law_no_size : List Str := ["urn"]
def b__law_no_size : MS := sSeq (sAsg (vLst (aCons (vC .non) (aCons (vC (.int 0)) (aCons (vTup (aNil)) (aCons (vTup (aCons (vC (.int 6)) (aCons (vC (.int 5)) (aNil)))) (aCons (vTup (aCons (vC (.int 6)) (aCons (vC (.int 5)) (aCons (vC (.int 2)) (aCons (vC (.int 0)) (aNil)))))) (aCons (vLst (aCons (vC (.int 6)) (aCons (vC (.int 5)) (aCons (vC (.int 2)) (aNil))))) (aCons (vTup (aCons (vC (.int 0)) (aCons (vC (.int 5)) (aCons (vC (.int 2)) (aNil))))) (aCons (vTup (aCons (vC (.int 6)) (aCons (vC (.int 0)) (aCons (vC (.int 2)) (aNil))))) (aCons (vTup (aCons (vC (.int 6)) (aCons (vC (.int 5)) (aCons (vC (.int 1)) (aNil))))) (aCons (vTup (aCons (vC (.int 6)) (aCons (vC (.int 5)) (aCons (vC (.int 0)) (aNil))))) (aCons (vTup (aCons (vUn negD (vC (.int 6))) (aCons (vC (.int 5)) (aCons (vC (.int 2)) (aNil))))) (aCons (vC (.str "652")) (aNil)))))))))))))) (hName 1)) (sSeq (sAsg (vOp addD (vVar 1) (vLst (aCons (vTup (aCons (vC (.bl true)) (aCons (vC (.int 5)) (aCons (vC (.int 2)) (aNil))))) (aCons (vTup (aCons (vC (.int 6)) (aCons (vC (.bl true)) (aCons (vC (.int 2)) (aNil))))) (aCons (vTup (aCons (vC (.int 6)) (aCons (vC (.int 5)) (aCons (vC (.bl true)) (aNil))))) (aCons (vTup (aCons (vOp addD (vOp powD (vC (.int 10)) (vC (.int 30))) (vC (.int 1))) (aCons (vC (.int 5)) (aCons (vC (.int 2)) (aNil))))) (aCons (vTup (aCons (vC (.int 6)) (aCons (vOp addD (vOp powD (vC (.int 10)) (vC (.int 30))) (vC (.int 1))) (aCons (vC (.int 2)) (aNil))))) (aCons (vDic1 6 5) (aNil))))))))) (hName 1)) (sRet (vCall m__law_one (aCons (vVar 0) (aCons (vOp addD (vVar 1) (vLst (aCons (vTup (aCons (vC (.int 6)) (aCons (vC (.int 5)) (aCons (vOp addD (vOp powD (vC (.int 10)) (vC (.int 30))) (vC (.int 1))) (aNil))))) (aCons (vTup (aCons (vC (.str "6")) (aCons (vC (.int 5)) (aCons (vC (.int 2)) (aNil))))) (aCons (vTup (aCons (vC (.int 6)) (aCons (vC .non) (aCons (vC (.int 2)) (aNil))))) (aCons (vTup (aCons (vTup (aCons (vC (.int 6)) (aNil))) (aCons (vC (.int 5)) (aCons (vC (.int 2)) (aNil))))) (aCons (vC (.bl true)) (aCons (vTup (aCons (vC (.int 6)) (aCons (vC (.int 5)) (aCons (vLst (aCons (vC (.int 2)) (aNil))) (aNil))))) (aNil))))))))) (aNil))))))
def m__law_no_size : Fn := fnM 2 b__law_no_size
abbrev s_require_size : Stmt := top 18
abbrev n_require_size : List Str := ["value"]
abbrev p_require_size : List Str := ["value"]
def b_require_size : MS := sIf (cNot (cVal (vCall m_is_size (aCons (vVar 0) (aNil))))) (sRaise 1 (vC (.str "a size is expected"))) (sNx)
def m_require_size : Fn := fnM 1 b_require_size
abbrev s_are_blocks : Stmt := top 42
abbrev n_are_blocks : List Str := ["size", "values", "value", "block", "at", "one", "other"]
abbrev p_are_blocks : List Str := ["size", "values"]
def b_are_blocks : MS := sSeq (sIf (cOr (cVal (vOp gtD (vB lenB (aCons (vVar 1) (aNil))) (vC (.int (64))))) (cNot (cVal (vB allB (aCons (vFrz (vLcN (jSeq (vVar 1)) [2] (hName 2) (cYes) (vCall m_is_block (aCons (vVar 0) (aCons (vVar 2) (aNil)))))) (aNil)))))) (sRet (vC (.bl false))) (sNx)) (sSeq (sIf (cVal (vOp neD (vB sumX (aCons (vFrz (vLcN (jSeq (vVar 1)) [3] (hName 3) (cYes) (vOp mulD (vOp idxD (vVar 3) (vC (.int 2))) (vOp idxD (vVar 3) (vC (.int 3)))))) (aNil))) (vOp mulD (vOp idxD (vVar 0) (vC (.int 0))) (vOp idxD (vVar 0) (vC (.int 1)))))) (sRet (vC (.bl false))) (sNx)) (sRet (vB allB (aCons (vFrz (vLc2N (jEnum (vVar 1)) [4, 5, 6] (hTup [hName 4, hName 5]) (cYes) (jSeq (vSl (vVar 1) (oSome (vOp addD (vVar 4) (vC (.int 1)))) (oNone))) [6] (hName 6) (cYes) (vCall m_are_apart (aCons (vVar 5) (aCons (vVar 6) (aNil)))))) (aNil)))))
def m_are_blocks : Fn := fnM 7 b_are_blocks
abbrev s_total_need_in : Stmt := top 57
abbrev n_total_need_in : List Str := ["size"]
abbrev p_total_need_in : List Str := ["size"]
def b_total_need_in : MS := sRet (vOp addD (vCall m_needs_of (aCons (vVar 0) (aCons (vC (.str "upright")) (aCons (vOp idxD (vVar 0) (vC (.int 0))) (aNil))))) (vCall m_needs_of (aCons (vVar 0) (aCons (vC (.str "level")) (aCons (vOp idxD (vVar 0) (vC (.int 1))) (aNil))))))
def m_total_need_in : Fn := fnM 1 b_total_need_in
abbrev s_reason_in : Stmt := top 59
abbrev n_reason_in : List Str := ["size", "left", "low"]
abbrev p_reason_in : List Str := ["size"]
def b_reason_in : MS := sSeq (sIf (cVal (vCall m_has_bond_in (aCons (vVar 0) (aNil)))) (sRet (vC .non)) (sNx)) (sSeq (sIf (cVal (vCall m_is_laid (aCons (vVar 0) (aNil)))) (sRet (vIf (cVal (vCall m_is_narrow (aCons (vVar 0) (aNil)))) (vTup (aCons (vC (.str "narrow")) (aNil))) (vTup (aCons (vC (.str "few")) (aNil))))) (sNx)) (sSeq (sPar 1 2 (aCons (vOp modD (vOp idxD (vVar 0) (vC (.int 0))) (vOp idxD (vVar 0) (vC (.int 2)))) (aCons (vOp modD (vOp idxD (vVar 0) (vC (.int 1))) (vOp idxD (vVar 0) (vC (.int 2)))) (aNil)))) (sRet (vTup (aCons (vC (.str "weights")) (aCons (vOp subD (vB minB (aCons (vVar 1) (aCons (vVar 2) (aNil)))) (vC (.int 1))) (aCons (vOp modD (vOp subD (vOp addD (vVar 1) (vVar 2)) (vC (.int 1))) (vOp idxD (vVar 0) (vC (.int 2)))) (aNil))))))))
def m_reason_in : Fn := fnM 3 b_reason_in
abbrev s_Plan_init : Stmt := top2 45 0
abbrev n_Plan_init : List Str := ["self", "size", "blocks", "block"]
abbrev p_Plan_init : List Str := ["self", "size", "blocks"]
def b_Plan_init : MS := sSeq (sIf (cOr (cNot (cVal (vCall m_is_size (aCons (vVar 1) (aNil))))) (cNot (cVal (vCall m_are_blocks (aCons (vVar 1) (aCons (vVar 2) (aNil))))))) (sRaise 2 (vC (.str "a size and blocks that cover each cell just once are expected"))) (sNx)) (sSeq (sFldA [0] "own_size" (vVar 0) (vVar 1)) (sSeq (sFldA [0] "own_blocks" (vVar 0) (vB tupleB (aCons (vB sortedX (aCons (vVar 2) (aNil))) (aNil)))) (sFldA [0] "own_known" (vVar 0) (vDcN (jSeq (vVar 2)) [3] (hName 3) (cYes) (vVar 3) (vC (.bl true))))))
def m_Plan_init : Fn := fnM 4 b_Plan_init
def w_Plan_init : Fn := starF 2 m_Plan_init
abbrev s_is_plain_reason : Stmt := top 60
abbrev n_is_plain_reason : List Str := ["size", "value", "number"]
abbrev p_is_plain_reason : List Str := ["size", "value"]
def b_is_plain_reason : MS := sSeq (sIf (cAnd (cVal (vCall m_is_row (aCons (vVar 1) (aCons (vC (.int 3)) (aNil))))) (cVal (vCall m_is_word_of (aCons (vOp idxD (vVar 1) (vC (.int 0))) (aCons (vTup (aCons (vC (.str "weights")) (aNil))) (aNil)))))) (sSeq (sIf (cNot (cVal (vB allB (aCons (vFrz (vLcN (jSeq (vSl (vVar 1) (oSome (vC (.int 1))) (oNone))) [2] (hName 2) (cYes) (vCall m_is_from (aCons (vVar 2) (aCons (vC (.int 0)) (aCons (vOp subD (vOp idxD (vVar 0) (vC (.int 2))) (vC (.int 1))) (aNil))))))) (aNil))))) (sRet (vC (.bl false))) (sNx)) (sRet (vOp neD (vCall m_weight_in (aCons (vVar 0) (aCons (vOp idxD (vVar 1) (vC (.int 1))) (aNil)))) (vCall m_weight_in (aCons (vVar 0) (aCons (vOp idxD (vVar 1) (vC (.int 2))) (aNil))))))) (sNx)) (sSeq (sIf (cOr (cNot (cVal (vCall m_is_row (aCons (vVar 1) (aCons (vC (.int 1)) (aNil)))))) (cNot (cVal (vCall m_is_word_of (aCons (vOp idxD (vVar 1) (vC (.int 0))) (aCons (vTup (aCons (vC (.str "narrow")) (aCons (vC (.str "few")) (aNil)))) (aNil))))))) (sRet (vC (.bl false))) (sNx)) (sSeq (sIf (cVal (vOp eqD (vOp idxD (vVar 1) (vC (.int 0))) (vC (.str "narrow")))) (sRet (vCall m_is_narrow (aCons (vVar 0) (aNil)))) (sNx)) (sRet (vAnd (vCall m_is_laid (aCons (vVar 0) (aNil))) (vOp gtD (vCall m_total_need_in (aCons (vVar 0) (aNil))) (vCall m_total_crossings_in (aCons (vVar 0) (aNil))))))))
def m_is_plain_reason : Fn := fnM 3 b_is_plain_reason
abbrev s_is_bond_paper : Stmt := top 73
abbrev n_is_bond_paper : List Str := ["size", "value"]
abbrev p_is_bond_paper : List Str := ["size", "value"]
def b_is_bond_paper : MS := sSeq (sExp (vCall m_require_size (aCons (vVar 0) (aNil)))) (sSeq (sIf (cOr (cNot (cVal (vCall m_is_row (aCons (vVar 1) (aCons (vC (.int 2)) (aNil)))))) (cNot (cVal (vCall m_is_word_of (aCons (vOp idxD (vVar 1) (vC (.int 0))) (aCons (vTup (aCons (vC (.str "plan")) (aCons (vC (.str "reason")) (aNil)))) (aNil))))))) (sRet (vC (.bl false))) (sNx)) (sSeq (sIf (cVal (vOp eqD (vOp idxD (vVar 1) (vC (.int 0))) (vC (.str "reason")))) (sRet (vCall m_is_plain_reason (aCons (vVar 0) (aCons (vOp idxD (vVar 1) (vC (.int 1))) (aNil))))) (sNx)) (sStuck)))
def m_is_bond_paper : Fn := fnM 2 b_is_bond_paper
abbrev s_Plan_of : Stmt := top2 45 1
abbrev n_Plan_of : List Str := ["cls", "size", "blocks"]
abbrev p_Plan_of : List Str := ["cls", "size", "blocks"]
def b_Plan_of : MS := sSeq (sIf (cNot (cVal (vB isiB (aCons (vVar 2) (aCons (vC (.raw (.ty "tuple"))) (aNil)))))) (sRaise 2 (vC (.str "a tuple of blocks is expected"))) (sNx)) (sRet (vMk 0 w_Plan_init (vVar 0) (aCons (vVar 1) (aStar (vVar 2) (aNil)))))
def m_Plan_of : Fn := fnM 3 b_Plan_of
def w_Plan_of : Fn := lenF 3 m_Plan_of
abbrev s_Plan_exchanged : Stmt := top2 45 15
abbrev n_Plan_exchanged : List Str := ["self", "block"]
abbrev p_Plan_exchanged : List Str := ["self"]
def b_Plan_exchanged : MS := sRet (vCM 0 w_Plan_of (vC (.cls 0)) (aCons (vCall m_exchanged_size (aCons (vFld [0] "own_size" (vVar 0)) (aNil))) (aCons (vB tupleB (aCons (vFrz (vLcN (jSeq (vFld [0] "own_blocks" (vVar 0))) [1] (hName 1) (cYes) (vCall m_exchanged_block (aCons (vVar 1) (aNil))))) (aNil))) (aNil))))
def m_Plan_exchanged : Fn := fnM 2 b_Plan_exchanged
abbrev s_wide_plan : Stmt := top 68
abbrev n_wide_plan : List Str := ["size", "width", "height", "length", "many", "right", "last", "first", "middle", "above", "below", "stacks"]
abbrev p_wide_plan : List Str := ["size"]
def b_wide_plan : MS := sSeq (sAsg (vVar 0) (hTup [hName 1, hName 2, hName 3])) (sSeq (sPar 4 5 (aCons (vOp divD (vVar 1) (vVar 3)) (aCons (vOp subD (vVar 1) (vVar 3)) (aNil)))) (sSeq (sAsg (vCall m_stacks_of (aCons (vVar 0) (aNil))) (hTup [hName 6, hName 7, hName 8])) (sSeq (sPar 9 10 (aCons (vCall m_band_of (aCons (vC (.int 0)) (aCons (vC (.int 0)) (aCons (vVar 3) (aCons (vOp subD (vVar 4) (vC (.int 2))) (aNil)))))) (aCons (vCall m_band_of (aCons (vVar 3) (aCons (vOp subD (vVar 2) (vVar 3)) (aCons (vVar 3) (aCons (vOp subD (vVar 4) (vC (.int 2))) (aNil)))))) (aNil)))) (sSeq (sAsg (vOp addD (vCall m_stack_of (aCons (vVar 5) (aCons (vC (.int 0)) (aCons (vVar 3) (aCons (vVar 6) (aNil)))))) (vCall m_stack_of (aCons (vC (.int 0)) (aCons (vVar 3) (aCons (vVar 3) (aCons (vVar 7) (aNil))))))) (hName 11)) (sSeq (sAsg (vOp addD (vVar 11) (vCall m_stack_of (aCons (vVar 3) (aCons (vVar 3) (aCons (vOp subD (vVar 5) (vVar 3)) (aCons (vVar 8) (aNil))))))) (hName 11)) (sRet (vCM 0 w_Plan_of (vC (.cls 0)) (aCons (vVar 0) (aCons (vB tupleB (aCons (vOp addD (vOp addD (vVar 9) (vVar 10)) (vVar 11)) (aNil))) (aNil))))))))))
def m_wide_plan : Fn := fnM 12 b_wide_plan
abbrev s_plan_of : Stmt := top 69
abbrev n_plan_of : List Str := ["size"]
abbrev p_plan_of : List Str := ["size"]
def b_plan_of : MS := sSeq (sIf (cVal (vCall m_is_one_bar (aCons (vVar 0) (aNil)))) (sRet (vMk 0 w_Plan_init (vC (.cls 0)) (aCons (vVar 0) (aCons (vTup (aCons (vC (.int 0)) (aCons (vC (.int 0)) (aCons (vOp idxD (vVar 0) (vC (.int 0))) (aCons (vOp idxD (vVar 0) (vC (.int 1))) (aCons (vIf (cVal (vOp eqD (vOp idxD (vVar 0) (vC (.int 1))) (vC (.int 1)))) (vC (.str "across")) (vC (.str "down"))) (aNil))))))) (aNil))))) (sNx)) (sSeq (sIf (cVal (vCall m_is_straight (aCons (vVar 0) (aNil)))) (sRet (vCall m_wide_plan (aCons (vVar 0) (aNil)))) (sNx)) (sRet (vMe0 0 "exchanged" m_Plan_exchanged (vCall m_wide_plan (aCons (vCall m_exchanged_size (aCons (vVar 0) (aNil))) (aNil))))))
def m_plan_of : Fn := fnM 1 b_plan_of
abbrev s_bond_plan : Stmt := top 71
abbrev n_bond_plan : List Str := ["size"]
abbrev p_bond_plan : List Str := ["size"]
def b_bond_plan : MS := sSeq (sExp (vCall m_require_size (aCons (vVar 0) (aNil)))) (sSeq (sIf (cNot (cVal (vCall m_has_bond_in (aCons (vVar 0) (aNil))))) (sRaiseV 3 "value" (vVar 0)) (sNx)) (sRet (vCall m_plan_of (aCons (vVar 0) (aNil)))))
def m_bond_plan : Fn := fnM 1 b_bond_plan
abbrev s_bond_paper : Stmt := top 72
abbrev n_bond_paper : List Str := ["size"]
abbrev p_bond_paper : List Str := ["size"]
def b_bond_paper : MS := sSeq (sExp (vCall m_require_size (aCons (vVar 0) (aNil)))) (sRet (vIf (cVal (vCall m_has_bond_in (aCons (vVar 0) (aNil)))) (vTup (aCons (vC (.str "plan")) (aCons (vCall m_plan_of (aCons (vVar 0) (aNil))) (aNil)))) (vTup (aCons (vC (.str "reason")) (aCons (vCall m_reason_in (aCons (vVar 0) (aNil))) (aNil))))))
def m_bond_paper : Fn := fnM 1 b_bond_paper
abbrev s__law_right : Stmt := top 89
abbrev n__law_right : List Str := ["urn", "none", "told", "size"]
abbrev p__law_right : List Str := ["urn"]
def b__law_right : MS := sSeq (sAsg (vCall m__law_no_size (aCons (vVar 0) (aNil))) (hName 1)) (sSeq (sAsg (vLstN (aCons (vMet (selM subE exL hs__law_met) "" (vCall m_bond_plan (aCons (vVar 1) (aNil)))) (aNil))) (hName 2)) (sSeq (sExp (vMu appM (vVar 2) (aCons (vMet (selM subE exL hs__law_met) "" (vCall m_bond_paper (aCons (vVar 1) (aNil)))) (aNil)))) (sSeq (sExp (vMu appM (vVar 2) (aCons (vMet (selM subE exL hs__law_met) "" (vCall m_is_bond_paper (aCons (vVar 1) (aCons (vVar 1) (aNil))))) (aNil)))) (sSeq (sIf (cVal (vOp neD (vVar 2) (vOp mulD (vLst (aCons (vC (.str "size")) (aNil))) (vC (.int 3))))) (sRet (vC (.bl false))) (sNx)) (sSeq (sFor (jSeq (vLst (aCons (vCall m__law_small (aCons (vVar 0) (aCons (vC (.int 300)) (aNil)))) (aCons (vCall m__law_great (aCons (vVar 0) (aNil))) (aNil))))) (hName 3) (sSeq (sAsg (vLstN (aCons (vMet (selM subE exL hs__law_met) "" (vCall m_bond_plan (aCons (vVar 3) (aNil)))) (aNil))) (hName 2)) (sSeq (sExp (vMu appM (vVar 2) (aCons (vMet (selM subE exL hs__law_met) "" (vCall m_bond_paper (aCons (vVar 3) (aNil)))) (aNil)))) (sSeq (sExp (vMu appM (vVar 2) (aCons (vMet (selM subE exL hs__law_met) "" (vCall m_is_bond_paper (aCons (vVar 3) (aCons (vVar 1) (aNil))))) (aNil)))) (sIf (cVal (vOp neD (vVar 2) (vLst (aCons (vIf (cVal (vCall m__law_has_bond (aCons (vVar 3) (aNil)))) (vC (.str "")) (vOp addD (vC (.str "unlaid ")) (vB reprX (aCons (vVar 3) (aNil))))) (aCons (vC (.str "")) (aCons (vC (.str "")) (aNil))))))) (sRet (vC (.bl false))) (sNx)))))) (sRet (vC (.bl true))))))))
def m__law_right : Fn := fnM 4 b__law_right
abbrev s_law : Stmt := top 90
abbrev n_law : List Str := ["script", "at", "urn", "turn", "told"]
abbrev p_law : List Str := ["script"]
def b_law : MS := sSeq (sFor (jRng1 (vB maxB (aCons (vC (.int 1)) (aCons (vB minB (aCons (vC (.int 8)) (aCons (vB lenB (aCons (vVar 0) (aNil))) (aNil)))) (aNil))))) (hName 1) (sSeq (sAsg (vCall m__law_urn (aCons (vVar 0) (aCons (vVar 1) (aNil)))) (hName 2)) (sFor (jRng1 (vC (.int 4))) (hName 3) (sIf (cNot (cVal (vCall m__law_right (aCons (vVar 2) (aNil))))) (sRet (vC (.bl false))) (sNx))))) (sSeq (sAsg (vLstN (aCons (vMet (selM subE exL hs__law_met) "" (vCall m_bond_plan (aCons (vTup (aCons (vC (.int 6)) (aCons (vC (.int 6)) (aCons (vC (.int 2)) (aNil))))) (aNil)))) (aNil))) (hName 4)) (sSeq (sExp (vMu appM (vVar 4) (aCons (vMet (selM subE exL hs__law_met) "" (vCall m_bond_plan (aCons (vTup (aCons (vC (.int 3)) (aCons (vC (.int 3)) (aCons (vC (.int 2)) (aNil))))) (aNil)))) (aNil)))) (sSeq (sExp (vMu appM (vVar 4) (aCons (vMet (selM subE exL hs__law_met) "" (vCall m_bond_plan (aCons (vTup (aCons (vC (.int 4)) (aCons (vC (.int 2)) (aCons (vC (.int 2)) (aNil))))) (aNil)))) (aNil)))) (sSeq (sExp (vMu appM (vVar 4) (aCons (vMet (selM subE exL hs__law_met) "" (vCall m_bond_plan (aCons (vTup (aCons (vC (.int 1)) (aCons (vC (.int 2)) (aCons (vC (.int 2)) (aNil))))) (aNil)))) (aNil)))) (sRet (vOp eqD (vVar 4) (vLst (aCons (vC (.str "unlaid (6, 6, 2)")) (aCons (vC (.str "unlaid (3, 3, 2)")) (aCons (vC (.str "unlaid (4, 2, 2)")) (aCons (vC (.str "")) (aNil))))))))))))
def m_law : Fn := fnM 5 b_law
structure Df (K : PySem.W.Frag) (mg : Str → Option Value) (x : Str) (st : Stmt) (ps : List Str) (fa : Addr) (fd : FuncData) : Prop where
  fn : Fun K x x st fa fd
  mg : mg x = some (.ref fa)
  bd : Binds K fd ps []
structure DfC (K : PySem.W.Frag) (mg : Str → Option Value) (x : Str) (st : Stmt) (ps : List Str) (fa : Addr) (fd : FuncData) (c : Addr) : Prop where
  fn : FunC K x x st fa fd c
  mg : mg x = some (.ref fa)
  bd : Binds K fd ps []
/-- what the top leaves -/
structure Tp (K : PySem.W.Frag) (mg : Str → Option Value) (CT : Ctx) where
  (tt : CT.tabs = tabsL) (exm : ∀ n ∈ exL, ∀ c ∈ exL, PySem.W.exmOne K (.ref (CT n)) (.ref (CT c)) = some (subE n c))
  (a__law_met : Addr) (d__law_met : FuncData) (f__law_met : Df K mg "_law_met" s__law_met p__law_met a__law_met d__law_met)
  (g_InvalidSize : mg "InvalidSize" = some (.ref (CT 1)))
  (g_InvalidPlan : mg "InvalidPlan" = some (.ref (CT 2)))
  (g_Unlaid : mg "Unlaid" = some (.ref (CT 3)))
  (g_InvalidLine : mg "InvalidLine" = some (.ref (CT 4)))
  (g_InvalidOperation : mg "InvalidOperation" = some (.ref (CT 5)))
  (g_InvalidNumber : mg "InvalidNumber" = some (.ref (CT 6)))
  (g_TooMany : mg "TooMany" = some (.ref (CT 7)))
  (x_InvalidSize : RzM K (CT 1) fileL)
  (x_InvalidPlan : RzM K (CT 2) fileL)
  (x_Unlaid : RzV K (CT 3) fileL "value")
  (xf_InvalidNumber_value : XfC K (CT 6)) (no_InvalidNumber_value : PySem.W.findIn K (.ref (CT 6)) "value" = some none)
  (xf_Unlaid_value : XfC K (CT 3)) (no_Unlaid_value : PySem.W.findIn K (.ref (CT 3)) "value" = some none)
  (xf_TooMany_limit : XfC K (CT 7)) (no_TooMany_limit : PySem.W.findIn K (.ref (CT 7)) "limit" = some none)
  (a_is_integer : Addr) (d_is_integer : FuncData) (f_is_integer : Df K mg "is_integer" s_is_integer p_is_integer a_is_integer d_is_integer)
  (a_is_from : Addr) (d_is_from : FuncData) (f_is_from : Df K mg "is_from" s_is_from p_is_from a_is_from d_is_from)
  (a_is_row : Addr) (d_is_row : FuncData) (f_is_row : Df K mg "is_row" s_is_row p_is_row a_is_row d_is_row)
  (a_is_word_of : Addr) (d_is_word_of : FuncData) (f_is_word_of : Df K mg "is_word_of" s_is_word_of p_is_word_of a_is_word_of d_is_word_of)
  (a_is_size : Addr) (d_is_size : FuncData) (f_is_size : Df K mg "is_size" s_is_size p_is_size a_is_size d_is_size)
  (a_require_size : Addr) (d_require_size : FuncData) (f_require_size : Df K mg "require_size" s_require_size p_require_size a_require_size d_require_size)
  (a_is_laid : Addr) (d_is_laid : FuncData) (f_is_laid : Df K mg "is_laid" s_is_laid p_is_laid a_is_laid d_is_laid)
  (a_exchanged_size : Addr) (d_exchanged_size : FuncData) (f_exchanged_size : Df K mg "exchanged_size" s_exchanged_size p_exchanged_size a_exchanged_size d_exchanged_size)
  (a_other_way : Addr) (d_other_way : FuncData) (f_other_way : Df K mg "other_way" s_other_way p_other_way a_other_way d_other_way)
  (a_remainder_in : Addr) (d_remainder_in : FuncData) (f_remainder_in : Df K mg "remainder_in" s_remainder_in p_remainder_in a_remainder_in d_remainder_in)
  (a_need_in : Addr) (d_need_in : FuncData) (f_need_in : Df K mg "need_in" s_need_in p_need_in a_need_in d_need_in)
  (a_is_block : Addr) (d_is_block : FuncData) (f_is_block : Df K mg "is_block" s_is_block p_is_block a_is_block d_is_block)
  (a_are_apart : Addr) (d_are_apart : FuncData) (f_are_apart : Df K mg "are_apart" s_are_apart p_are_apart a_are_apart d_are_apart)
  (a_are_blocks : Addr) (d_are_blocks : FuncData) (f_are_blocks : Df K mg "are_blocks" s_are_blocks p_are_blocks a_are_blocks d_are_blocks)
  (a_exchanged_block : Addr) (d_exchanged_block : FuncData) (f_exchanged_block : Df K mg "exchanged_block" s_exchanged_block p_exchanged_block a_exchanged_block d_exchanged_block)
  (a_Plan_init : Addr) (d_Plan_init : FuncData) (f_Plan_init : Fun K "__init__" "Plan.__init__" s_Plan_init a_Plan_init d_Plan_init)
  (b_Plan_init : ∀ us rest : List Value, us.length = 2 → bindArgs d_Plan_init ⟨us ++ rest, []⟩ = (newTuple rest >>= fun t => pure ((["self", "size"] : List Str).zip us ++ [(("blocks" : Str), t)])))
  (a_Plan_of : Addr) (d_Plan_of : FuncData) (f_Plan_of : Fun K "of" "Plan.of" s_Plan_of a_Plan_of d_Plan_of)
  (b_Plan_of : Binds K d_Plan_of p_Plan_of [])
  (pr_Plan_of : Addr) (cm_Plan_of : ClX.CMet K (CT 0) (.type "type") "of" pr_Plan_of a_Plan_of)
  (a_Plan_exchanged : Addr) (d_Plan_exchanged : FuncData) (f_Plan_exchanged : Fun K "exchanged" "Plan.exchanged" s_Plan_exchanged a_Plan_exchanged d_Plan_exchanged)
  (b_Plan_exchanged : Binds K d_Plan_exchanged p_Plan_exchanged [])
  (me_Plan_exchanged : L2.Meth K (CT 0) "exchanged" a_Plan_exchanged)
  (a_corner_weight : Addr) (d_corner_weight : FuncData) (f_corner_weight : Df K mg "corner_weight" s_corner_weight p_corner_weight a_corner_weight d_corner_weight)
  (a_weight_in : Addr) (d_weight_in : FuncData) (f_weight_in : Df K mg "weight_in" s_weight_in p_weight_in a_weight_in d_weight_in)
  (a_is_one_bar : Addr) (d_is_one_bar : FuncData) (f_is_one_bar : Df K mg "is_one_bar" s_is_one_bar p_is_one_bar a_is_one_bar d_is_one_bar)
  (a_is_narrow : Addr) (d_is_narrow : FuncData) (f_is_narrow : Df K mg "is_narrow" s_is_narrow p_is_narrow a_is_narrow d_is_narrow)
  (a_has_bond_in : Addr) (d_has_bond_in : FuncData) (f_has_bond_in : Df K mg "has_bond_in" s_has_bond_in p_has_bond_in a_has_bond_in d_has_bond_in)
  (a_needs_of : Addr) (d_needs_of : FuncData) (f_needs_of : Df K mg "needs_of" s_needs_of p_needs_of a_needs_of d_needs_of)
  (a_total_need_in : Addr) (d_total_need_in : FuncData) (f_total_need_in : Df K mg "total_need_in" s_total_need_in p_total_need_in a_total_need_in d_total_need_in)
  (a_total_crossings_in : Addr) (d_total_crossings_in : FuncData) (f_total_crossings_in : Df K mg "total_crossings_in" s_total_crossings_in p_total_crossings_in a_total_crossings_in d_total_crossings_in)
  (a_reason_in : Addr) (d_reason_in : FuncData) (f_reason_in : Df K mg "reason_in" s_reason_in p_reason_in a_reason_in d_reason_in)
  (a_is_plain_reason : Addr) (d_is_plain_reason : FuncData) (f_is_plain_reason : Df K mg "is_plain_reason" s_is_plain_reason p_is_plain_reason a_is_plain_reason d_is_plain_reason)
  (a_stack_of : Addr) (d_stack_of : FuncData) (f_stack_of : Df K mg "stack_of" s_stack_of p_stack_of a_stack_of d_stack_of)
  (a_band_of : Addr) (d_band_of : FuncData) (f_band_of : Df K mg "band_of" s_band_of p_band_of a_band_of d_band_of)
  (a_stacks_of : Addr) (d_stacks_of : FuncData) (f_stacks_of : Df K mg "stacks_of" s_stacks_of p_stacks_of a_stacks_of d_stacks_of)
  (a_is_straight : Addr) (d_is_straight : FuncData) (f_is_straight : Df K mg "is_straight" s_is_straight p_is_straight a_is_straight d_is_straight)
  (a_wide_plan : Addr) (d_wide_plan : FuncData) (f_wide_plan : Df K mg "wide_plan" s_wide_plan p_wide_plan a_wide_plan d_wide_plan)
  (a_plan_of : Addr) (d_plan_of : FuncData) (f_plan_of : Df K mg "plan_of" s_plan_of p_plan_of a_plan_of d_plan_of)
  (a_bond_plan : Addr) (d_bond_plan : FuncData) (f_bond_plan : Df K mg "bond_plan" s_bond_plan p_bond_plan a_bond_plan d_bond_plan)
  (a_bond_paper : Addr) (d_bond_paper : FuncData) (f_bond_paper : Df K mg "bond_paper" s_bond_paper p_bond_paper a_bond_paper d_bond_paper)
  (a_is_bond_paper : Addr) (d_is_bond_paper : FuncData) (f_is_bond_paper : Df K mg "is_bond_paper" s_is_bond_paper p_is_bond_paper a_is_bond_paper d_is_bond_paper)
  (a__law_urn : Addr) (d__law_urn : FuncData) (f__law_urn : Df K mg "_law_urn" s__law_urn p__law_urn a__law_urn d__law_urn)
  (a__law_take : Addr) (d__law_take : FuncData) (f__law_take : Df K mg "_law_take" s__law_take p__law_take a__law_take d__law_take)
  (a__law_one : Addr) (d__law_one : FuncData) (f__law_one : Df K mg "_law_one" s__law_one p__law_one a__law_one d__law_one)
  (a__law_is_laid : Addr) (d__law_is_laid : FuncData) (f__law_is_laid : Df K mg "_law_is_laid" s__law_is_laid p__law_is_laid a__law_is_laid d__law_is_laid)
  (a__law_is_one_bar : Addr) (d__law_is_one_bar : FuncData) (f__law_is_one_bar : Df K mg "_law_is_one_bar" s__law_is_one_bar p__law_is_one_bar a__law_is_one_bar d__law_is_one_bar)
  (a__law_has_bond : Addr) (d__law_has_bond : FuncData) (f__law_has_bond : Df K mg "_law_has_bond" s__law_has_bond p__law_has_bond a__law_has_bond d__law_has_bond)
  (a__law_small : Addr) (d__law_small : FuncData) (f__law_small : Df K mg "_law_small" s__law_small p__law_small a__law_small d__law_small)
  (a__law_great : Addr) (d__law_great : FuncData) (f__law_great : Df K mg "_law_great" s__law_great p__law_great a__law_great d__law_great)
  (a__law_no_size : Addr) (d__law_no_size : FuncData) (f__law_no_size : Df K mg "_law_no_size" s__law_no_size p__law_no_size a__law_no_size d__law_no_size)
  (a__law_right : Addr) (d__law_right : FuncData) (f__law_right : DfC K mg "_law_right" s__law_right p__law_right a__law_right d__law_right 846)
  (g_Plan : mg "Plan" = some (.ref (CT 0))) (r_Plan : ClX.CRead K (CT 0) (.type "type")) (i_Plan : C8.InsC K (CT 0)) (nt_Plan : notc K (CT 0) = true) (sn_Plan : PySem.W.subIn K (.ref (CT 0)) (.type "NoneType") = some false) (ny_Plan : noty K (CT 0) = true) (z_Plan : L2.Cls K (CT 0))
  (k_Plan : L2.Mk K (CT 0) a_Plan_init)
  (fl_own_blocks : ClsF K CT [0] "own_blocks")
  (fl_own_known : ClsF K CT [0] "own_known")
  (fl_own_size : ClsF K CT [0] "own_size")
  (t_ACROSS : Tok) (c_ACROSS : mg "ACROSS" = some (.str "across" t_ACROSS))
  (t_DOWN : Tok) (c_DOWN : mg "DOWN" = some (.str "down" t_DOWN))
  (t_FEW : Tok) (c_FEW : mg "FEW" = some (.str "few" t_FEW))
  (t_LEVEL : Tok) (c_LEVEL : mg "LEVEL" = some (.str "level" t_LEVEL))
  (t_MAX_BLOCKS : Tok) (c_MAX_BLOCKS : mg "MAX_BLOCKS" = some (.int (64) t_MAX_BLOCKS))
  (t_MAX_SIDE : Tok) (c_MAX_SIDE : mg "MAX_SIDE" = some (.int (10 ^ 30) t_MAX_SIDE))
  (t_NARROW : Tok) (c_NARROW : mg "NARROW" = some (.str "narrow" t_NARROW))
  (t_PLAN : Tok) (c_PLAN : mg "PLAN" = some (.str "plan" t_PLAN))
  (t_REASON : Tok) (c_REASON : mg "REASON" = some (.str "reason" t_REASON))
  (c_SIX : GT K mg "SIX" [.int (6), .int (6), .int (2)])
  (t_UPRIGHT : Tok) (c_UPRIGHT : mg "UPRIGHT" = some (.str "upright" t_UPRIGHT))
  (c_WAYS : GT K mg "WAYS" [.str "across", .str "down"])
  (t_WEIGHTS : Tok) (c_WEIGHTS : mg "WEIGHTS" = some (.str "weights" t_WEIGHTS))
  (b_abs : mg "abs" = none)
  (b_all : mg "all" = none)
  (b_bool : mg "bool" = none)
  (b_enumerate : mg "enumerate" = none)
  (b_int : mg "int" = none)
  (b_isinstance : mg "isinstance" = none)
  (b_len : mg "len" = none)
  (b_max : mg "max" = none)
  (b_min : mg "min" = none)
  (b_range : mg "range" = none)
  (b_repr : mg "repr" = none)
  (b_sorted : mg "sorted" = none)
  (b_str : mg "str" = none)
  (b_sum : mg "sum" = none)
  (b_tuple : mg "tuple" = none)
section
variable {P : Program} {w : World} {K : PySem.W.Frag} {mg : Str → Option Value} {base : Heap} {CT : Ctx}
theorem hu100 {k : Nat} {A : Around} (r : Room k A) : A.units + 100 < cLine := by have := r.un; omega
theorem sc__law_met : FnScope n__law_met p__law_met (defScope s__law_met) := ⟨rfl, rfl, rfl, by decide +kernel, rfl, by decide +kernel, by decide +kernel⟩
theorem gv__law_met (G : Tp K mg CT) {A : Around} {stack : List PySem.Env} {cdv : Value} {q : Str} (hgd : A.guards = some []) (hu : A.units + 100 < cLine) : GvTo P w K mg base A stack n__law_met "_law_met" (defScope s__law_met) G.a__law_met cdv (defBody s__law_met) "call" q (TTmet K CT (hs__law_met.map fun p => (CT p.1, p.2)) "") :=
  gv_met (l := [(CT 1, .txt "size", 0), (CT 2, .txt "plan", 0), (CT 4, .txt "line", 0), (CT 5, .txt "operation", 0), (CT 6, .fld "number " "value", 1), (CT 3, .fld "unlaid " "value", 1), (CT 7, .fld "many " "limit", 1)]) (fun _ => rfl) (by decide) (by intro p hp; simp only [List.mem_cons, List.not_mem_nil, or_false] at hp; rcases hp with rfl | rfl | rfl | rfl | rfl | rfl | rfl <;> simp [n__law_met]) (fun s H => (.bare ⟨rfl, by decide, .inl G.g_InvalidSize⟩ (fun _ _ _ _ _ _ _ => su_txt) (.bare ⟨rfl, by decide, .inl G.g_InvalidPlan⟩ (fun _ _ _ _ _ _ _ => su_txt) (.bare ⟨rfl, by decide, .inl G.g_InvalidLine⟩ (fun _ _ _ _ _ _ _ => su_txt) (.bare ⟨rfl, by decide, .inl G.g_InvalidOperation⟩ (fun _ _ _ _ _ _ _ => su_txt) (.named (i := 1) ⟨rfl, by decide, .inl G.g_InvalidNumber⟩ rfl rfl (fun _ _ _ _ _ hz hf => su_fld (i := 1) G.xf_InvalidNumber_value G.no_InvalidNumber_value hgd (show A.units + 3 + 64 < cLine by omega) hz hf rfl (Or.inl rfl) G.b_repr rfl (by decide) (by decide) rfl rfl rfl) (.named (i := 1) ⟨rfl, by decide, .inl G.g_Unlaid⟩ rfl rfl (fun _ _ _ _ _ hz hf => su_fld (i := 1) G.xf_Unlaid_value G.no_Unlaid_value hgd (show A.units + 3 + 64 < cLine by omega) hz hf rfl (Or.inl rfl) G.b_repr rfl (by decide) (by decide) rfl rfl rfl) (.named (i := 1) ⟨rfl, by decide, .inl G.g_TooMany⟩ rfl rfl (fun _ _ _ _ _ hz hf => su_fld (i := 1) G.xf_TooMany_limit G.no_TooMany_limit hgd (show A.units + 3 + 64 < cLine by omega) hz hf rfl (Or.inl rfl) G.b_repr rfl (by decide) (by decide) rfl rfl rfl) .nil)))))))) (fun _ _ => rfl)
theorem sc_is_integer : FnScope n_is_integer p_is_integer (defScope s_is_integer) := ⟨rfl, rfl, rfl, by decide +kernel, rfl, by decide +kernel, by decide +kernel⟩
theorem ok_is_integer (G : Tp K mg CT) (pf : PrF P fileL) : Fq P w K mg base CT 1 G.a_is_integer G.d_is_integer p_is_integer m_is_integer :=
  fn_q (N := n_is_integer) (mb := b_is_integer) G.f_is_integer.fn sc_is_integer (by decide) fun cdv A outer s H E hr hx =>
    (ms_one (ms_ret (me_and (me_callB cb_isi G.b_isinstance rfl rfl (ma_cons (mv 0) (ma_cons (me_ty G.b_int) ma_nil))) (me_one (me_not (me_callB cb_isi G.b_isinstance rfl rfl (ma_cons (mv 0) (ma_cons (me_ty G.b_bool) ma_nil))))))))
theorem sc_is_row : FnScope n_is_row p_is_row (defScope s_is_row) := ⟨rfl, rfl, rfl, by decide +kernel, rfl, by decide +kernel, by decide +kernel⟩
theorem ok_is_row (G : Tp K mg CT) (pf : PrF P fileL) : Fq P w K mg base CT 1 G.a_is_row G.d_is_row p_is_row m_is_row :=
  fn_q (N := n_is_row) (mb := b_is_row) G.f_is_row.fn sc_is_row (by decide) fun cdv A outer s H E hr hx =>
    (ms_one (ms_ret (me_and (me_callB cb_isi G.b_isinstance rfl rfl (ma_cons (mv 0) (ma_cons (me_ty G.b_tuple) ma_nil))) (me_one (me_cmp (opD_eq (hu64 hr)) (by rfl) (me_callB cb_len G.b_len rfl rfl (ma_cons (mv 0) ma_nil)) (mv 1))))))
theorem sc_is_word_of : FnScope n_is_word_of p_is_word_of (defScope s_is_word_of) := ⟨rfl, rfl, rfl, by decide +kernel, rfl, by decide +kernel, by decide +kernel⟩
theorem ok_is_word_of (G : Tp K mg CT) (pf : PrF P fileL) : Fq P w K mg base CT 1 G.a_is_word_of G.d_is_word_of p_is_word_of m_is_word_of :=
  fn_q (N := n_is_word_of) (mb := b_is_word_of) G.f_is_word_of.fn sc_is_word_of (by decide) fun cdv A outer s H E hr hx =>
    (ms_one (ms_ret (me_and (me_callB cb_isi G.b_isinstance rfl rfl (ma_cons (mv 0) (ma_cons (me_ty G.b_str) ma_nil))) (me_one (me_cmp (opD_in (hu65 hr)) (by rfl) (mv 0) (mv 1))))))
theorem sc_is_laid : FnScope n_is_laid p_is_laid (defScope s_is_laid) := ⟨rfl, rfl, rfl, by decide +kernel, rfl, by decide +kernel, by decide +kernel⟩
theorem ok_is_laid (G : Tp K mg CT) (pf : PrF P fileL) : Fq P w K mg base CT 1 G.a_is_laid G.d_is_laid p_is_laid m_is_laid :=
  fn_q (N := n_is_laid) (mb := b_is_laid) G.f_is_laid.fn sc_is_laid (by decide) fun cdv A outer s H E hr hx =>
    (ms_cons (ms_asg (mg_tup hx.calm (mgs_cons (mn 1 hx.nd) (mgs_cons (mn 2 hx.nd) (mgs_cons (mn 3 hx.nd) mgs_nil)))) (mv 0))
    (ms_one (ms_ret (me_or (me_cmp (opD_eq (hu64 hr)) (by rfl) (me_op opD_mod (mv 1) (mv 3)) me_int) (me_one (me_cmp (opD_eq (hu64 hr)) (by rfl) (me_op opD_mod (mv 2) (mv 3)) me_int))))))
theorem sc_exchanged_size : FnScope n_exchanged_size p_exchanged_size (defScope s_exchanged_size) := ⟨rfl, rfl, rfl, by decide +kernel, rfl, by decide +kernel, by decide +kernel⟩
theorem ok_exchanged_size (G : Tp K mg CT) (pf : PrF P fileL) : Fq P w K mg base CT 1 G.a_exchanged_size G.d_exchanged_size p_exchanged_size m_exchanged_size :=
  fn_q (N := n_exchanged_size) (mb := b_exchanged_size) G.f_exchanged_size.fn sc_exchanged_size (by decide) fun cdv A outer s H E hr hx =>
    (ms_one (ms_ret (me_tup (ma_cons (me_ix (mv 0) me_int) (ma_cons (me_ix (mv 0) me_int) (ma_cons (me_ix (mv 0) me_int) ma_nil))))))
theorem sc_other_way : FnScope n_other_way p_other_way (defScope s_other_way) := ⟨rfl, rfl, rfl, by decide +kernel, rfl, by decide +kernel, by decide +kernel⟩
theorem ok_other_way (G : Tp K mg CT) (pf : PrF P fileL) : Fq P w K mg base CT 1 G.a_other_way G.d_other_way p_other_way m_other_way :=
  fn_q (N := n_other_way) (mb := b_other_way) G.f_other_way.fn sc_other_way (by decide) fun cdv A outer s H E hr hx =>
    (ms_one (ms_ret (me_if (mt_cmp (opD_eq (hu64 hr)) (by rfl) (mv 0) (me_gstr G.c_ACROSS)) (me_gstr G.c_DOWN) (me_gstr G.c_ACROSS))))
theorem sc_remainder_in : FnScope n_remainder_in p_remainder_in (defScope s_remainder_in) := ⟨rfl, rfl, rfl, by decide +kernel, rfl, by decide +kernel, by decide +kernel⟩
theorem ok_remainder_in (G : Tp K mg CT) (pf : PrF P fileL) : Fq P w K mg base CT 1 G.a_remainder_in G.d_remainder_in p_remainder_in m_remainder_in :=
  fn_q (N := n_remainder_in) (mb := b_remainder_in) G.f_remainder_in.fn sc_remainder_in (by decide) fun cdv A outer s H E hr hx =>
    (ms_cons (ms_if (mt_cmp (opD_eq (hu64 hr)) (by rfl) (me_op opD_mod (me_ix (mv 1) me_int) (me_ix (mv 0) me_int)) me_int) (ms_one (ms_ret me_int)) ms_nil)
    (ms_one (ms_ret (me_op opD_mod (me_if (mt_cmp (opD_eq (hu64 hr)) (by rfl) (me_ix (mv 1) me_int) (me_gstr G.c_UPRIGHT)) (me_ix (mv 0) me_int) (me_ix (mv 0) me_int)) (me_ix (mv 0) me_int)))))
theorem sc_are_apart : FnScope n_are_apart p_are_apart (defScope s_are_apart) := ⟨rfl, rfl, rfl, by decide +kernel, rfl, by decide +kernel, by decide +kernel⟩
theorem ok_are_apart (G : Tp K mg CT) (pf : PrF P fileL) : Fq P w K mg base CT 1 G.a_are_apart G.d_are_apart p_are_apart m_are_apart :=
  fn_q (N := n_are_apart) (mb := b_are_apart) G.f_are_apart.fn sc_are_apart (by decide) fun cdv A outer s H E hr hx =>
    (ms_cons (ms_if (mt_w (mw_or (mt_cmp opD_le (by rfl) (me_op opD_add (me_ix (mv 0) me_int) (me_ix (mv 0) me_int)) (me_ix (mv 1) me_int)) (mw_or1 (mt_cmp opD_le (by rfl) (me_op opD_add (me_ix (mv 1) me_int) (me_ix (mv 1) me_int)) (me_ix (mv 0) me_int))))) (ms_one (ms_ret me_bl)) ms_nil)
    (ms_one (ms_ret (me_or (me_cmp opD_le (by rfl) (me_op opD_add (me_ix (mv 0) me_int) (me_ix (mv 0) me_int)) (me_ix (mv 1) me_int)) (me_one (me_cmp opD_le (by rfl) (me_op opD_add (me_ix (mv 1) me_int) (me_ix (mv 1) me_int)) (me_ix (mv 0) me_int)))))))
theorem sc_corner_weight : FnScope n_corner_weight p_corner_weight (defScope s_corner_weight) := ⟨rfl, rfl, rfl, by decide +kernel, rfl, by decide +kernel, by decide +kernel⟩
theorem ok_corner_weight (G : Tp K mg CT) (pf : PrF P fileL) : Fq P w K mg base CT 1 G.a_corner_weight G.d_corner_weight p_corner_weight m_corner_weight :=
  fn_q (N := n_corner_weight) (mb := b_corner_weight) G.f_corner_weight.fn sc_corner_weight (by decide) fun cdv A outer s H E hr hx =>
    (ms_one (ms_ret (me_callB (cb_max hx.calm) G.b_max rfl rfl (ma_cons me_int (ma_cons (me_callB (cb_minN hx.calm) G.b_min rfl rfl (ma_cons (me_op opD_add (mv 2) me_int) (ma_cons (mv 0) (ma_cons (mv 1) (ma_cons (me_op opD_sub (me_op opD_sub (me_op opD_add (mv 0) (mv 1)) me_int) (mv 2)) ma_nil))))) ma_nil)))))
theorem sc_is_one_bar : FnScope n_is_one_bar p_is_one_bar (defScope s_is_one_bar) := ⟨rfl, rfl, rfl, by decide +kernel, rfl, by decide +kernel, by decide +kernel⟩
theorem ok_is_one_bar (G : Tp K mg CT) (pf : PrF P fileL) : Fq P w K mg base CT 1 G.a_is_one_bar G.d_is_one_bar p_is_one_bar m_is_one_bar :=
  fn_q (N := n_is_one_bar) (mb := b_is_one_bar) G.f_is_one_bar.fn sc_is_one_bar (by decide) fun cdv A outer s H E hr hx =>
    (ms_one (ms_ret (me_and (me_cmp (opD_eq (hu64 hr)) (by rfl) (me_op opD_mul (me_ix (mv 0) me_int) (me_ix (mv 0) me_int)) (me_ix (mv 0) me_int)) (me_one (me_cmp (opD_eq (hu64 hr)) (by rfl) (me_callB (cb_min hx.calm) G.b_min rfl rfl (ma_cons (me_ix (mv 0) me_int) (ma_cons (me_ix (mv 0) me_int) ma_nil))) me_int)))))
theorem sc_total_crossings_in : FnScope n_total_crossings_in p_total_crossings_in (defScope s_total_crossings_in) := ⟨rfl, rfl, rfl, by decide +kernel, rfl, by decide +kernel, by decide +kernel⟩
theorem ok_total_crossings_in (G : Tp K mg CT) (pf : PrF P fileL) : Fq P w K mg base CT 1 G.a_total_crossings_in G.d_total_crossings_in p_total_crossings_in m_total_crossings_in :=
  fn_q (N := n_total_crossings_in) (mb := b_total_crossings_in) G.f_total_crossings_in.fn sc_total_crossings_in (by decide) fun cdv A outer s H E hr hx =>
    (ms_one (ms_ret (me_op opD_mul (me_op opD_div (me_op opD_mul (me_ix (mv 0) me_int) (me_ix (mv 0) me_int)) (me_ix (mv 0) me_int)) (me_op opD_sub (me_ix (mv 0) me_int) me_int))))
theorem sc_stack_of : FnScope n_stack_of p_stack_of (defScope s_stack_of) := ⟨rfl, rfl, rfl, by decide +kernel, rfl, by decide +kernel, by decide +kernel⟩
theorem ok_stack_of (G : Tp K mg CT) (pf : PrF P fileL) : Fq P w K mg base CT 1 G.a_stack_of G.d_stack_of p_stack_of m_stack_of :=
  fn_q (N := n_stack_of) (mb := b_stack_of) G.f_stack_of.fn sc_stack_of (by decide) fun cdv A outer s H E hr hx =>
    (ms_cons (ms_asg (mn 4 hx.nd) (me_lstN ma_nil))
    (ms_cons (ms_for hx (mi_seq (mv 3)) (mg_tup hx.calm (mgs_cons (mn 5 hx.nd) (mgs_cons (mn 6 hx.nd) mgs_nil))) (ms_cons (ms_if (mt_cmp opD_gt (by rfl) (mv 5) me_int) (ms_one (ms_expr (me_mu PySem.F.slot_list_append PySem.F.type_list_append mm_append (mv 4) (ma_cons (me_tup (ma_cons (mv 0) (ma_cons (mv 1) (ma_cons (mv 2) (ma_cons (mv 5) (ma_cons (mv 6) ma_nil)))))) ma_nil)))) ms_nil)
    (ms_one (ms_augN (i := 1) hx rfl (by first | exact Or.inl rfl | exact Or.inr rfl) (mv 5)))))
    (ms_one (ms_ret (me_frz (mv 4))))))
theorem sc_band_of : FnScope n_band_of p_band_of (defScope s_band_of) := ⟨rfl, rfl, rfl, by decide +kernel, rfl, by decide +kernel, by decide +kernel⟩
theorem ok_band_of (G : Tp K mg CT) (pf : PrF P fileL) : Fq P w K mg base CT 1 G.a_band_of G.d_band_of p_band_of m_band_of :=
  fn_q (N := n_band_of) (mb := b_band_of) G.f_band_of.fn sc_band_of (by decide) fun cdv A outer s H E hr hx =>
    (ms_cons (ms_asg (mn 4 hx.nd) (me_op opD_add (me_op opD_add (mv 0) me_int) (me_op opD_mul (mv 3) (mv 2))))
    (ms_cons (ms_asg (mn 5 hx.nd) (me_if (mt_cmp opD_gt (by rfl) (mv 3) me_int) (me_lst (ma_cons (me_tup (ma_cons (me_op opD_add (mv 0) me_int) (ma_cons (mv 1) (ma_cons (me_op opD_mul (mv 3) (mv 2)) (ma_cons (mv 2) (ma_cons (me_gstr G.c_ACROSS) ma_nil)))))) ma_nil)) (me_lst ma_nil)))
    (ms_one (ms_ret (me_lst (ma_cons (me_tup (ma_cons (mv 0) (ma_cons (mv 1) (ma_cons me_int (ma_cons (mv 2) (ma_cons (me_gstr G.c_DOWN) ma_nil)))))) (ma_star (mv 5) (ma_cons (me_tup (ma_cons (mv 4) (ma_cons (mv 1) (ma_cons (me_op opD_sub (mv 2) me_int) (ma_cons (mv 2) (ma_cons (me_gstr G.c_DOWN) ma_nil)))))) ma_nil))))))))
theorem sc_stacks_of : FnScope n_stacks_of p_stacks_of (defScope s_stacks_of) := ⟨rfl, rfl, rfl, by decide +kernel, rfl, by decide +kernel, by decide +kernel⟩
theorem ok_stacks_of (G : Tp K mg CT) (pf : PrF P fileL) : Fq P w K mg base CT 1 G.a_stacks_of G.d_stacks_of p_stacks_of m_stacks_of :=
  fn_q (N := n_stacks_of) (mb := b_stacks_of) G.f_stacks_of.fn sc_stacks_of (by decide) fun cdv A outer s H E hr hx =>
    (ms_cons (ms_par (i := 1) (j := 2) hx rfl rfl (by decide) rfl rfl (ma_cons (me_ix (mv 0) me_int) (ma_cons (me_ix (mv 0) me_int) ma_nil)) rfl)
    (ms_cons (ms_par (i := 3) (j := 4) hx rfl rfl (by decide) rfl rfl (ma_cons (me_op opD_div (me_op opD_sub (mv 1) (mv 2)) (mv 2)) (ma_cons (me_op opD_mod (me_op opD_sub (mv 1) (mv 2)) (mv 2)) ma_nil)) rfl)
    (ms_cons (ms_if (mt_cmp opD_gt (by rfl) (mv 4) me_int) (ms_cons (ms_par (i := 5) (j := 6) hx rfl rfl (by decide) rfl rfl (ma_cons (me_lst (ma_cons (me_tup (ma_cons (mv 4) (ma_cons (me_gstr G.c_ACROSS) ma_nil))) (ma_cons (me_tup (ma_cons (me_op opD_mul (mv 3) (mv 2)) (ma_cons (me_gstr G.c_DOWN) ma_nil))) ma_nil))) (ma_cons (me_lst (ma_cons (me_tup (ma_cons (me_op opD_mul (mv 3) (mv 2)) (ma_cons (me_gstr G.c_DOWN) ma_nil))) (ma_cons (me_tup (ma_cons (mv 4) (ma_cons (me_gstr G.c_ACROSS) ma_nil))) ma_nil))) ma_nil)) rfl)
    (ms_one (ms_ret (me_tup (ma_cons (mv 5) (ma_cons (mv 6) (ma_cons (me_lst (ma_cons (me_tup (ma_cons (me_op opD_sub (mv 1) (me_op opD_mul me_int (mv 2))) (ma_cons (me_gstr G.c_ACROSS) ma_nil))) ma_nil)) ma_nil))))))) ms_nil)
    (ms_cons (ms_if (mt_cmp opD_gt (by rfl) (mv 2) me_int) (ms_cons (ms_asg (mn 7 hx.nd) (me_tup (ma_cons (me_op opD_mul (me_op opD_sub (mv 3) me_int) (mv 2)) (ma_cons (me_gstr G.c_DOWN) ma_nil))))
    (ms_cons (ms_par (i := 5) (j := 6) hx rfl rfl (by decide) rfl rfl (ma_cons (me_lst (ma_cons (me_tup (ma_cons me_int (ma_cons (me_gstr G.c_ACROSS) ma_nil))) (ma_cons (mv 7) (ma_cons (me_tup (ma_cons (me_op opD_sub (mv 2) me_int) (ma_cons (me_gstr G.c_ACROSS) ma_nil))) ma_nil)))) (ma_cons (me_lst (ma_cons (me_tup (ma_cons me_int (ma_cons (me_gstr G.c_ACROSS) ma_nil))) (ma_cons (mv 7) (ma_cons (me_tup (ma_cons (me_op opD_sub (mv 2) me_int) (ma_cons (me_gstr G.c_ACROSS) ma_nil))) ma_nil)))) ma_nil)) rfl)
    (ms_one (ms_ret (me_tup (ma_cons (mv 5) (ma_cons (mv 6) (ma_cons (me_lst (ma_cons (me_tup (ma_cons (me_op opD_sub (mv 1) (me_op opD_mul me_int (mv 2))) (ma_cons (me_gstr G.c_ACROSS) ma_nil))) ma_nil)) ma_nil)))))))) ms_nil)
    (ms_cons (ms_asg (mn 5 hx.nd) (me_lst (ma_cons (me_tup (ma_cons me_int (ma_cons (me_gstr G.c_ACROSS) ma_nil))) (ma_cons (me_tup (ma_cons me_int (ma_cons (me_gstr G.c_DOWN) ma_nil))) (ma_cons (me_tup (ma_cons me_int (ma_cons (me_gstr G.c_ACROSS) ma_nil))) (ma_cons (me_tup (ma_cons (me_op opD_sub (mv 1) me_int) (ma_cons (me_gstr G.c_DOWN) ma_nil))) ma_nil))))))
    (ms_cons (ms_asg (mn 6 hx.nd) (me_lst (ma_cons (me_tup (ma_cons me_int (ma_cons (me_gstr G.c_DOWN) ma_nil))) (ma_cons (me_tup (ma_cons me_int (ma_cons (me_gstr G.c_ACROSS) ma_nil))) (ma_cons (me_tup (ma_cons (me_op opD_sub (mv 1) me_int) (ma_cons (me_gstr G.c_DOWN) ma_nil))) (ma_cons (me_tup (ma_cons me_int (ma_cons (me_gstr G.c_ACROSS) ma_nil))) ma_nil))))))
    (ms_one (ms_ret (me_tup (ma_cons (mv 5) (ma_cons (mv 6) (ma_cons (me_lst (ma_cons (me_tup (ma_cons me_int (ma_cons (me_gstr G.c_ACROSS) ma_nil))) (ma_cons (me_tup (ma_cons me_int (ma_cons (me_gstr G.c_DOWN) ma_nil))) (ma_cons (me_tup (ma_cons (me_op opD_sub (mv 1) me_int) (ma_cons (me_gstr G.c_ACROSS) ma_nil))) ma_nil)))) ma_nil))))))))))))
theorem sc_is_straight : FnScope n_is_straight p_is_straight (defScope s_is_straight) := ⟨rfl, rfl, rfl, by decide +kernel, rfl, by decide +kernel, by decide +kernel⟩
theorem ok_is_straight (G : Tp K mg CT) (pf : PrF P fileL) : Fq P w K mg base CT 1 G.a_is_straight G.d_is_straight p_is_straight m_is_straight :=
  fn_q (N := n_is_straight) (mb := b_is_straight) G.f_is_straight.fn sc_is_straight (by decide) fun cdv A outer s H E hr hx =>
    (ms_one (ms_ret (me_and (me_cmp (opD_eq (hu64 hr)) (by rfl) (me_op opD_mod (me_ix (mv 0) me_int) (me_ix (mv 0) me_int)) me_int) (me_one (me_not (me_and (me_cmp (opD_eq (hu64 hr)) (by rfl) (me_ix (mv 0) me_int) me_int) (me_one (me_cmp (opD_eq (hu64 hr)) (by rfl) (me_ix (mv 0) me_int) me_int))))))))
theorem sc__law_urn : FnScope n__law_urn p__law_urn (defScope s__law_urn) := ⟨rfl, rfl, rfl, by decide +kernel, rfl, by decide +kernel, by decide +kernel⟩
theorem ok__law_urn (G : Tp K mg CT) (pf : PrF P fileL) : Fq P w K mg base CT 1 G.a__law_urn G.d__law_urn p__law_urn m__law_urn :=
  fn_q (N := n__law_urn) (mb := b__law_urn) G.f__law_urn.fn sc__law_urn (by decide) fun cdv A outer s H E hr hx =>
    (ms_cons (ms_asg (mn 2 hx.nd) (me_if (mt_cmp opD_lt (by rfl) (mv 1) (me_callB cb_len G.b_len rfl rfl (ma_cons (mv 0) ma_nil))) (me_ix (mv 0) (mv 1)) (me_op opD_add (me_op opD_mul me_int (mv 1)) me_int)))
    (ms_cons (ms_asg (mn 3 hx.nd) (me_op opD_mod (me_callT cb_int G.b_int rfl rfl (ma_cons (me_callB cb_abs G.b_abs rfl rfl (ma_cons (mv 2) ma_nil)) ma_nil)) (me_op opD_pow (me_op opD_pow me_int me_int) me_int)))
    (ms_cons (ms_asg (mn 4 hx.nd) (me_op opD_mod (me_callT cb_int G.b_int rfl rfl (ma_cons (me_op opD_add (me_op opD_add (me_op opD_add (me_op opD_mul (mv 3) me_int) (me_op opD_mul me_int (mv 1))) (me_op opD_mul me_int (me_callT cb_int G.b_int rfl rfl (ma_cons (me_cmp opD_lt (by rfl) (mv 2) me_int) ma_nil)))) me_int) ma_nil)) me_int))
    (ms_one (ms_ret (me_lstN (ma_cons (me_callB (cb_max hx.calm) G.b_max rfl rfl (ma_cons me_int (ma_cons (me_op opD_sub (mv 3) (me_op opD_pow me_int me_int)) ma_nil))) (ma_cons (mv 4) (ma_cons me_int ma_nil)))))))))
theorem sc__law_take : FnScope n__law_take p__law_take (defScope s__law_take) := ⟨rfl, rfl, rfl, by decide +kernel, rfl, by decide +kernel, by decide +kernel⟩
theorem ok__law_take (G : Tp K mg CT) (pf : PrF P fileL) : Fq P w K mg base CT 1 G.a__law_take G.d__law_take p__law_take m__law_take :=
  fn_q (N := n__law_take) (mb := b__law_take) G.f__law_take.fn sc__law_take (by decide) fun cdv A outer s H E hr hx =>
    (ms_cons (ms_if (mt_cmp opD_gt (by rfl) (me_ix (mv 0) me_int) me_int) (ms_cons (ms_asg (mn 2 hx.nd) (me_op opD_mod (me_callT cb_int G.b_int rfl rfl (ma_cons (me_ix (mv 0) me_int) ma_nil)) (mv 1)))
    (ms_cons (ms_asg (mg_sub (mv 0) me_int) (me_op opD_div (me_ix (mv 0) me_int) (mv 1)))
    (ms_one (ms_ret (mv 2))))) ms_nil)
    (ms_cons (ms_asg (mg_sub (mv 0) me_int) (me_op opD_add (me_ix (mv 0) me_int) me_int))
    (ms_cons (ms_asg (mn 3 hx.nd) (me_op opD_mod (me_callT cb_int G.b_int rfl rfl (ma_cons (me_op opD_add (me_ix (mv 0) me_int) (me_op opD_mul me_int (me_ix (mv 0) me_int))) ma_nil)) me_int))
    (ms_cons (ms_asg (mn 4 hx.nd) (me_op opD_mod (me_callT cb_int G.b_int rfl rfl (ma_cons (me_op opD_add (me_op opD_mul (mv 3) (mv 3)) (me_op opD_mul me_int (me_ix (mv 0) me_int))) ma_nil)) me_int))
    (ms_cons (ms_asg (mn 5 hx.nd) (me_op opD_mod (me_callT cb_int G.b_int rfl rfl (ma_cons (me_op opD_add (me_op opD_mul (mv 4) (mv 4)) (mv 3)) ma_nil)) me_int))
    (ms_one (ms_ret (me_op opD_mod (me_callT cb_int G.b_int rfl rfl (ma_cons (me_op opD_div (mv 5) me_int) ma_nil)) (mv 1)))))))))
theorem sc__law_is_laid : FnScope n__law_is_laid p__law_is_laid (defScope s__law_is_laid) := ⟨rfl, rfl, rfl, by decide +kernel, rfl, by decide +kernel, by decide +kernel⟩
theorem ok__law_is_laid (G : Tp K mg CT) (pf : PrF P fileL) : Fq P w K mg base CT 1 G.a__law_is_laid G.d__law_is_laid p__law_is_laid m__law_is_laid :=
  fn_q (N := n__law_is_laid) (mb := b__law_is_laid) G.f__law_is_laid.fn sc__law_is_laid (by decide) fun cdv A outer s H E hr hx =>
    (ms_one (ms_ret (me_or (me_cmp (opD_eq (hu64 hr)) (by rfl) (me_op opD_mod (me_ix (mv 0) me_int) (me_ix (mv 0) me_int)) me_int) (me_one (me_cmp (opD_eq (hu64 hr)) (by rfl) (me_op opD_mod (me_ix (mv 0) me_int) (me_ix (mv 0) me_int)) me_int)))))
theorem sc__law_is_one_bar : FnScope n__law_is_one_bar p__law_is_one_bar (defScope s__law_is_one_bar) := ⟨rfl, rfl, rfl, by decide +kernel, rfl, by decide +kernel, by decide +kernel⟩
theorem ok__law_is_one_bar (G : Tp K mg CT) (pf : PrF P fileL) : Fq P w K mg base CT 1 G.a__law_is_one_bar G.d__law_is_one_bar p__law_is_one_bar m__law_is_one_bar :=
  fn_q (N := n__law_is_one_bar) (mb := b__law_is_one_bar) G.f__law_is_one_bar.fn sc__law_is_one_bar (by decide) fun cdv A outer s H E hr hx =>
    (ms_one (ms_ret (me_cmp (opD_eq (hu64 hr)) (by rfl) (me_callB cb_sorted G.b_sorted rfl rfl (ma_cons (me_sl (mv 0) mo_none (mo_some me_int)) ma_nil)) (me_lst (ma_cons me_int (ma_cons (me_ix (mv 0) me_int) ma_nil))))))
theorem sc_is_from : FnScope n_is_from p_is_from (defScope s_is_from) := ⟨rfl, rfl, rfl, by decide +kernel, rfl, by decide +kernel, by decide +kernel⟩
theorem ok_is_from (G : Tp K mg CT) (pf : PrF P fileL) : Fq P w K mg base CT 2 G.a_is_from G.d_is_from p_is_from m_is_from :=
  fn_q (N := n_is_from) (mb := b_is_from) G.f_is_from.fn sc_is_from (by decide) fun cdv A outer s H E hr hx =>
    (ms_one (ms_ret (me_and (me_call hx (ok_is_integer G pf) G.f_is_integer.mg G.f_is_integer.fn.kp G.f_is_integer.bd (hr.mono (by decide)) rfl (ma_cons (mv 0) ma_nil) (len_cons len_nil)) (me_one (me_chain opD_le opD_le (mv 1) (mv 0) (mv 2))))))
theorem sc_need_in : FnScope n_need_in p_need_in (defScope s_need_in) := ⟨rfl, rfl, rfl, by decide +kernel, rfl, by decide +kernel, by decide +kernel⟩
theorem ok_need_in (G : Tp K mg CT) (pf : PrF P fileL) : Fq P w K mg base CT 2 G.a_need_in G.d_need_in p_need_in m_need_in :=
  fn_q (N := n_need_in) (mb := b_need_in) G.f_need_in.fn sc_need_in (by decide) fun cdv A outer s H E hr hx =>
    (ms_one (ms_ret (me_orV (me_call hx (ok_remainder_in G pf) G.f_remainder_in.mg G.f_remainder_in.fn.kp G.f_remainder_in.bd (hr.mono (by decide)) rfl (ma_cons (mv 0) (ma_cons (mv 1) ma_nil)) (len_cons (len_cons len_nil))) (me_one (me_ix (mv 0) me_int)))))
theorem sc_exchanged_block : FnScope n_exchanged_block p_exchanged_block (defScope s_exchanged_block) := ⟨rfl, rfl, rfl, by decide +kernel, rfl, by decide +kernel, by decide +kernel⟩
theorem ok_exchanged_block (G : Tp K mg CT) (pf : PrF P fileL) : Fq P w K mg base CT 2 G.a_exchanged_block G.d_exchanged_block p_exchanged_block m_exchanged_block :=
  fn_q (N := n_exchanged_block) (mb := b_exchanged_block) G.f_exchanged_block.fn sc_exchanged_block (by decide) fun cdv A outer s H E hr hx =>
    (ms_cons (ms_asg (mg_tup hx.calm (mgs_cons (mn 1 hx.nd) (mgs_cons (mn 2 hx.nd) (mgs_cons (mn 3 hx.nd) (mgs_cons (mn 4 hx.nd) (mgs_cons (mn 5 hx.nd) mgs_nil)))))) (mv 0))
    (ms_one (ms_ret (me_tup (ma_cons (mv 2) (ma_cons (mv 1) (ma_cons (mv 4) (ma_cons (mv 3) (ma_cons (me_call hx (ok_other_way G pf) G.f_other_way.mg G.f_other_way.fn.kp G.f_other_way.bd (hr.mono (by decide)) rfl (ma_cons (mv 5) ma_nil) (len_cons len_nil)) ma_nil)))))))))
theorem sc_weight_in : FnScope n_weight_in p_weight_in (defScope s_weight_in) := ⟨rfl, rfl, rfl, by decide +kernel, rfl, by decide +kernel, by decide +kernel⟩
theorem ok_weight_in (G : Tp K mg CT) (pf : PrF P fileL) : Fq P w K mg base CT 2 G.a_weight_in G.d_weight_in p_weight_in m_weight_in :=
  fn_q (N := n_weight_in) (mb := b_weight_in) G.f_weight_in.fn sc_weight_in (by decide) fun cdv A outer s H E hr hx =>
    (ms_cons (ms_asg (mg_tup hx.calm (mgs_cons (mn 2 hx.nd) (mgs_cons (mn 3 hx.nd) (mgs_cons (mn 4 hx.nd) mgs_nil)))) (mv 0))
    (ms_cons (ms_par (i := 5) (j := 6) hx rfl rfl (by decide) rfl rfl (ma_cons (me_op opD_mod (mv 2) (mv 4)) (ma_cons (me_op opD_mod (mv 3) (mv 4)) ma_nil)) rfl)
    (ms_cons (ms_asg (mn 7 hx.nd) (me_op opD_add (me_call hx (ok_corner_weight G pf) G.f_corner_weight.mg G.f_corner_weight.fn.kp G.f_corner_weight.bd (hr.mono (by decide)) rfl (ma_cons (mv 5) (ma_cons (mv 6) (ma_cons (mv 1) ma_nil))) (len_cons (len_cons (len_cons len_nil)))) (me_call hx (ok_corner_weight G pf) G.f_corner_weight.mg G.f_corner_weight.fn.kp G.f_corner_weight.bd (hr.mono (by decide)) rfl (ma_cons (mv 5) (ma_cons (mv 6) (ma_cons (me_op opD_add (mv 1) (mv 4)) ma_nil))) (len_cons (len_cons (len_cons len_nil))))))
    (ms_one (ms_ret (me_op opD_add (me_op opD_div (me_op opD_sub (me_op opD_mul (mv 2) (mv 3)) (me_op opD_mul (mv 5) (mv 6))) (mv 4)) (mv 7)))))))
theorem sc_is_narrow : FnScope n_is_narrow p_is_narrow (defScope s_is_narrow) := ⟨rfl, rfl, rfl, by decide +kernel, rfl, by decide +kernel, by decide +kernel⟩
theorem ok_is_narrow (G : Tp K mg CT) (pf : PrF P fileL) : Fq P w K mg base CT 2 G.a_is_narrow G.d_is_narrow p_is_narrow m_is_narrow :=
  fn_q (N := n_is_narrow) (mb := b_is_narrow) G.f_is_narrow.fn sc_is_narrow (by decide) fun cdv A outer s H E hr hx =>
    (ms_one (ms_ret (me_and (me_cmp opD_le (by rfl) (me_callB (cb_min hx.calm) G.b_min rfl rfl (ma_cons (me_ix (mv 0) me_int) (ma_cons (me_ix (mv 0) me_int) ma_nil))) (me_op opD_mul me_int (me_ix (mv 0) me_int))) (me_one (me_not (me_call hx (ok_is_one_bar G pf) G.f_is_one_bar.mg G.f_is_one_bar.fn.kp G.f_is_one_bar.bd (hr.mono (by decide)) rfl (ma_cons (mv 0) ma_nil) (len_cons len_nil)))))))
theorem sc__law_one : FnScope n__law_one p__law_one (defScope s__law_one) := ⟨rfl, rfl, rfl, by decide +kernel, rfl, by decide +kernel, by decide +kernel⟩
theorem ok__law_one (G : Tp K mg CT) (pf : PrF P fileL) : Fq P w K mg base CT 2 G.a__law_one G.d__law_one p__law_one m__law_one :=
  fn_q (N := n__law_one) (mb := b__law_one) G.f__law_one.fn sc__law_one (by decide) fun cdv A outer s H E hr hx =>
    (ms_one (ms_ret (me_ix (mv 1) (me_call hx (ok__law_take G pf) G.f__law_take.mg G.f__law_take.fn.kp G.f__law_take.bd (hr.mono (by decide)) rfl (ma_cons (mv 0) (ma_cons (me_callB cb_len G.b_len rfl rfl (ma_cons (mv 1) ma_nil)) ma_nil)) (len_cons (len_cons len_nil))))))
theorem sc__law_has_bond : FnScope n__law_has_bond p__law_has_bond (defScope s__law_has_bond) := ⟨rfl, rfl, rfl, by decide +kernel, rfl, by decide +kernel, by decide +kernel⟩
theorem ok__law_has_bond (G : Tp K mg CT) (pf : PrF P fileL) : Fq P w K mg base CT 2 G.a__law_has_bond G.d__law_has_bond p__law_has_bond m__law_has_bond :=
  fn_q (N := n__law_has_bond) (mb := b__law_has_bond) G.f__law_has_bond.fn sc__law_has_bond (by decide) fun cdv A outer s H E hr hx =>
    (ms_cons (ms_if (mt_val (me_call hx (ok__law_is_one_bar G pf) G.f__law_is_one_bar.mg G.f__law_is_one_bar.fn.kp G.f__law_is_one_bar.bd (hr.mono (by decide)) rfl (ma_cons (mv 0) ma_nil) (len_cons len_nil))) (ms_one (ms_ret me_bl)) ms_nil)
    (ms_one (ms_ret (me_and (me_call hx (ok__law_is_laid G pf) G.f__law_is_laid.mg G.f__law_is_laid.fn.kp G.f__law_is_laid.bd (hr.mono (by decide)) rfl (ma_cons (mv 0) ma_nil) (len_cons len_nil)) (me_and (me_cmp opD_gt (by rfl) (me_callB (cb_minX (cb_minT hx.calm (hu64 hr)) hx.calm (hu64 hr)) G.b_min rfl rfl (ma_cons (me_sl (mv 0) mo_none (mo_some me_int)) ma_nil)) (me_op opD_mul me_int (me_ix (mv 0) me_int))) (me_one (me_cmp (opD_ne (hu64 hr)) (by rfl) (mv 0) (me_tup (ma_cons me_int (ma_cons me_int (ma_cons me_int ma_nil)))))))))))
theorem sc_is_size : FnScope n_is_size p_is_size (defScope s_is_size) := ⟨rfl, rfl, rfl, by decide +kernel, rfl, by decide +kernel, by decide +kernel⟩
theorem ok_is_size (G : Tp K mg CT) (pf : PrF P fileL) : Fq P w K mg base CT 3 G.a_is_size G.d_is_size p_is_size m_is_size :=
  fn_q (N := n_is_size) (mb := b_is_size) G.f_is_size.fn sc_is_size (by decide) fun cdv A outer s H E hr hx =>
    (ms_cons (ms_if (mt_w (mw_or (mt_not (mt_val (me_call hx (ok_is_row G pf) G.f_is_row.mg G.f_is_row.fn.kp G.f_is_row.bd (hr.mono (by decide)) rfl (ma_cons (mv 0) (ma_cons me_int ma_nil)) (len_cons (len_cons len_nil))))) (mw_or (mt_not (mt_val (me_call hx (ok_is_from G pf) G.f_is_from.mg G.f_is_from.fn.kp G.f_is_from.bd (hr.mono (by decide)) rfl (ma_cons (me_ix (mv 0) me_int) (ma_cons me_int (ma_cons (me_gint G.c_MAX_SIDE) ma_nil))) (len_cons (len_cons (len_cons len_nil)))))) (mw_or1 (mt_not (mt_val (me_call hx (ok_is_from G pf) G.f_is_from.mg G.f_is_from.fn.kp G.f_is_from.bd (hr.mono (by decide)) rfl (ma_cons (me_ix (mv 0) me_int) (ma_cons me_int (ma_cons (me_gint G.c_MAX_SIDE) ma_nil))) (len_cons (len_cons (len_cons len_nil)))))))))) (ms_one (ms_ret me_bl)) ms_nil)
    (ms_one (ms_ret (me_call hx (ok_is_from G pf) G.f_is_from.mg G.f_is_from.fn.kp G.f_is_from.bd (hr.mono (by decide)) rfl (ma_cons (me_ix (mv 0) me_int) (ma_cons me_int (ma_cons (me_gint G.c_MAX_SIDE) ma_nil))) (len_cons (len_cons (len_cons len_nil)))))))
theorem sc_is_block : FnScope n_is_block p_is_block (defScope s_is_block) := ⟨rfl, rfl, rfl, by decide +kernel, rfl, by decide +kernel, by decide +kernel⟩
theorem ok_is_block (G : Tp K mg CT) (pf : PrF P fileL) : Fq P w K mg base CT 3 G.a_is_block G.d_is_block p_is_block m_is_block :=
  fn_q (N := n_is_block) (mb := b_is_block) G.f_is_block.fn sc_is_block (by decide) fun cdv A outer s H E hr hx =>
    (ms_cons (ms_if (mt_w (mw_or (mt_not (mt_val (me_call hx (ok_is_row G pf) G.f_is_row.mg G.f_is_row.fn.kp G.f_is_row.bd (hr.mono (by decide)) rfl (ma_cons (mv 1) (ma_cons me_int ma_nil)) (len_cons (len_cons len_nil))))) (mw_or1 (mt_not (mt_val (me_call hx (ok_is_word_of G pf) G.f_is_word_of.mg G.f_is_word_of.fn.kp G.f_is_word_of.bd (hr.mono (by decide)) rfl (ma_cons (me_ix (mv 1) me_int) (ma_cons (me_gt G.c_WAYS) ma_nil)) (len_cons (len_cons len_nil)))))))) (ms_one (ms_ret me_bl)) ms_nil)
    (ms_cons (ms_asg (mg_tup hx.calm (mgs_cons (mn 2 hx.nd) (mgs_cons (mn 3 hx.nd) (mgs_cons (mn 4 hx.nd) (mgs_cons (mn 5 hx.nd) (mgs_cons (mn 6 hx.nd) mgs_nil)))))) (mv 1))
    (ms_cons (ms_if (mt_w (mw_or (mt_not (mt_val (me_call hx (ok_is_from G pf) G.f_is_from.mg G.f_is_from.fn.kp G.f_is_from.bd (hr.mono (by decide)) rfl (ma_cons (mv 2) (ma_cons me_int (ma_cons (me_op opD_sub (me_ix (mv 0) me_int) me_int) ma_nil))) (len_cons (len_cons (len_cons len_nil)))))) (mw_or1 (mt_not (mt_val (me_call hx (ok_is_from G pf) G.f_is_from.mg G.f_is_from.fn.kp G.f_is_from.bd (hr.mono (by decide)) rfl (ma_cons (mv 3) (ma_cons me_int (ma_cons (me_op opD_sub (me_ix (mv 0) me_int) me_int) ma_nil))) (len_cons (len_cons (len_cons len_nil))))))))) (ms_one (ms_ret me_bl)) ms_nil)
    (ms_cons (ms_if (mt_w (mw_or (mt_not (mt_val (me_call hx (ok_is_from G pf) G.f_is_from.mg G.f_is_from.fn.kp G.f_is_from.bd (hr.mono (by decide)) rfl (ma_cons (mv 4) (ma_cons me_int (ma_cons (me_op opD_sub (me_ix (mv 0) me_int) (mv 2)) ma_nil))) (len_cons (len_cons (len_cons len_nil)))))) (mw_or1 (mt_not (mt_val (me_call hx (ok_is_from G pf) G.f_is_from.mg G.f_is_from.fn.kp G.f_is_from.bd (hr.mono (by decide)) rfl (ma_cons (mv 5) (ma_cons me_int (ma_cons (me_op opD_sub (me_ix (mv 0) me_int) (mv 3)) ma_nil))) (len_cons (len_cons (len_cons len_nil))))))))) (ms_one (ms_ret me_bl)) ms_nil)
    (ms_one (ms_ret (me_cmp (opD_eq (hu64 hr)) (by rfl) (me_op opD_mod (me_if (mt_cmp (opD_eq (hu64 hr)) (by rfl) (mv 6) (me_gstr G.c_ACROSS)) (mv 4) (mv 5)) (me_ix (mv 0) me_int)) me_int)))))))
theorem sc_has_bond_in : FnScope n_has_bond_in p_has_bond_in (defScope s_has_bond_in) := ⟨rfl, rfl, rfl, by decide +kernel, rfl, by decide +kernel, by decide +kernel⟩
theorem ok_has_bond_in (G : Tp K mg CT) (pf : PrF P fileL) : Fq P w K mg base CT 3 G.a_has_bond_in G.d_has_bond_in p_has_bond_in m_has_bond_in :=
  fn_q (N := n_has_bond_in) (mb := b_has_bond_in) G.f_has_bond_in.fn sc_has_bond_in (by decide) fun cdv A outer s H E hr hx =>
    (ms_one (ms_ret (me_or (me_call hx (ok_is_one_bar G pf) G.f_is_one_bar.mg G.f_is_one_bar.fn.kp G.f_is_one_bar.bd (hr.mono (by decide)) rfl (ma_cons (mv 0) ma_nil) (len_cons len_nil)) (me_one (me_and (me_call hx (ok_is_laid G pf) G.f_is_laid.mg G.f_is_laid.fn.kp G.f_is_laid.bd (hr.mono (by decide)) rfl (ma_cons (mv 0) ma_nil) (len_cons len_nil)) (me_and (me_not (me_call hx (ok_is_narrow G pf) G.f_is_narrow.mg G.f_is_narrow.fn.kp G.f_is_narrow.bd (hr.mono (by decide)) rfl (ma_cons (mv 0) ma_nil) (len_cons len_nil))) (me_one (me_cmp (opD_ne (hu64 hr)) (by rfl) (mv 0) (me_gt G.c_SIX)))))))))
theorem sc_needs_of : FnScope n_needs_of p_needs_of (defScope s_needs_of) := ⟨rfl, rfl, rfl, by decide +kernel, rfl, by decide +kernel, by decide +kernel⟩
theorem ok_needs_of (G : Tp K mg CT) (pf : PrF P fileL) : Fq P w K mg base CT 3 G.a_needs_of G.d_needs_of p_needs_of m_needs_of :=
  fn_q (N := n_needs_of) (mb := b_needs_of) G.f_needs_of.fn sc_needs_of (by decide) fun cdv A outer s H E hr hx =>
    (ms_cons (ms_asg (mn 3 hx.nd) (me_op opD_div (me_op opD_sub (mv 2) me_int) (me_ix (mv 0) me_int)))
    (ms_one (ms_ret (me_op opD_add (me_op opD_mul (mv 3) (me_ix (mv 0) me_int)) (me_op opD_mul (me_op opD_sub (me_op opD_sub (mv 2) me_int) (mv 3)) (me_call hx (ok_need_in G pf) G.f_need_in.mg G.f_need_in.fn.kp G.f_need_in.bd (hr.mono (by decide)) rfl (ma_cons (mv 0) (ma_cons (me_tup (ma_cons (mv 1) (ma_cons me_int ma_nil))) ma_nil)) (len_cons (len_cons len_nil))))))))
theorem sc__law_small : FnScope n__law_small p__law_small (defScope s__law_small) := ⟨rfl, rfl, rfl, by decide +kernel, rfl, by decide +kernel, by decide +kernel⟩
theorem ok__law_small (G : Tp K mg CT) (pf : PrF P fileL) : Fq P w K mg base CT 3 G.a__law_small G.d__law_small p__law_small m__law_small :=
  fn_q (N := n__law_small) (mb := b__law_small) G.f__law_small.fn sc__law_small (by decide) fun cdv A outer s H E hr hx =>
    (ms_cons (ms_asg (mn 2 hx.nd) (me_call hx (ok__law_one G pf) G.f__law_one.mg G.f__law_one.fn.kp G.f__law_one.bd (hr.mono (by decide)) rfl (ma_cons (mv 0) (ma_cons (me_lst (ma_cons me_int (ma_cons me_int (ma_cons me_int (ma_cons me_int (ma_cons me_int (ma_cons me_int (ma_cons me_int ma_nil)))))))) ma_nil)) (len_cons (len_cons len_nil))))
    (ms_cons (ms_asg (mn 3 hx.nd) (me_op opD_add me_int (me_call hx (ok__law_take G pf) G.f__law_take.mg G.f__law_take.fn.kp G.f__law_take.bd (hr.mono (by decide)) rfl (ma_cons (mv 0) (ma_cons (me_op opD_add (me_op opD_mul me_int (mv 2)) me_int) ma_nil)) (len_cons (len_cons len_nil)))))
    (ms_cons (ms_if (mt_cmp opD_gt (by rfl) (me_call hx (ok__law_take G pf) G.f__law_take.mg G.f__law_take.fn.kp G.f__law_take.bd (hr.mono (by decide)) rfl (ma_cons (mv 0) (ma_cons me_int ma_nil)) (len_cons (len_cons len_nil))) me_int) (ms_one (ms_asg (mn 3 hx.nd) (me_op opD_mul (mv 2) (me_op opD_add me_int (me_call hx (ok__law_take G pf) G.f__law_take.mg G.f__law_take.fn.kp G.f__law_take.bd (hr.mono (by decide)) rfl (ma_cons (mv 0) (ma_cons me_int ma_nil)) (len_cons (len_cons len_nil))))))) ms_nil)
    (ms_cons (ms_asg (mn 3 hx.nd) (me_callB (cb_min hx.calm) G.b_min rfl rfl (ma_cons (mv 3) (ma_cons (mv 1) ma_nil))))
    (ms_cons (ms_asg (mn 4 hx.nd) (me_op opD_add me_int (me_call hx (ok__law_take G pf) G.f__law_take.mg G.f__law_take.fn.kp G.f__law_take.bd (hr.mono (by decide)) rfl (ma_cons (mv 0) (ma_cons (me_callB (cb_max hx.calm) G.b_max rfl rfl (ma_cons me_int (ma_cons (me_callB (cb_min hx.calm) G.b_min rfl rfl (ma_cons (me_op opD_add (me_op opD_mul me_int (mv 2)) me_int) (ma_cons (me_op opD_div (mv 1) (mv 3)) ma_nil))) ma_nil))) ma_nil)) (len_cons (len_cons len_nil)))))
    (ms_one (ms_ret (me_if (mt_cmp (opD_eq (hu64 hr)) (by rfl) (me_call hx (ok__law_take G pf) G.f__law_take.mg G.f__law_take.fn.kp G.f__law_take.bd (hr.mono (by decide)) rfl (ma_cons (mv 0) (ma_cons me_int ma_nil)) (len_cons (len_cons len_nil))) me_int) (me_tup (ma_cons (mv 3) (ma_cons (mv 4) (ma_cons (mv 2) ma_nil)))) (me_tup (ma_cons (mv 4) (ma_cons (mv 3) (ma_cons (mv 2) ma_nil))))))))))))
theorem sc__law_great : FnScope n__law_great p__law_great (defScope s__law_great) := ⟨rfl, rfl, rfl, by decide +kernel, rfl, by decide +kernel, by decide +kernel⟩
theorem ok__law_great (G : Tp K mg CT) (pf : PrF P fileL) : Fq P w K mg base CT 3 G.a__law_great G.d__law_great p__law_great m__law_great :=
  fn_q (N := n__law_great) (mb := b__law_great) G.f__law_great.fn sc__law_great (by decide) fun cdv A outer s H E hr hx =>
    (ms_cons (ms_asg (mn 1 hx.nd) (me_call hx (ok__law_one G pf) G.f__law_one.mg G.f__law_one.fn.kp G.f__law_one.bd (hr.mono (by decide)) rfl (ma_cons (mv 0) (ma_cons (me_lst (ma_cons me_int (ma_cons me_int (ma_cons me_int (ma_cons me_int (ma_cons me_int (ma_cons me_int (ma_cons me_int (ma_cons me_int (ma_cons (me_op opD_add (me_op opD_pow me_int me_int) me_int) (ma_cons (me_op opD_pow me_int me_int) (ma_cons (me_op opD_add (me_op opD_pow me_int me_int) me_int) ma_nil)))))))))))) ma_nil)) (len_cons (len_cons len_nil))))
    (ms_cons (ms_asg (mn 2 hx.nd) (me_op opD_div (me_op opD_pow me_int me_int) (mv 1)))
    (ms_cons (ms_asg (mn 3 hx.nd) (me_lstN ma_nil))
    (ms_cons (ms_for hx (mi_rng1 G.b_range me_int rfl) (mn 4 hx.nd) (ms_cons (ms_asg (mn 5 hx.nd) (me_call hx (ok__law_one G pf) G.f__law_one.mg G.f__law_one.fn.kp G.f__law_one.bd (hr.mono (by decide)) rfl (ma_cons (mv 0) (ma_cons (me_lst (ma_cons me_int (ma_cons me_int (ma_cons me_int (ma_cons me_int (ma_cons (me_op opD_pow me_int me_int) (ma_cons (me_op opD_sub (mv 2) me_int) (ma_cons (me_op opD_div (mv 2) me_int) ma_nil)))))))) ma_nil)) (len_cons (len_cons len_nil))))
    (ms_cons (ms_asg (mn 6 hx.nd) (me_call hx (ok__law_one G pf) G.f__law_one.mg G.f__law_one.fn.kp G.f__law_one.bd (hr.mono (by decide)) rfl (ma_cons (mv 0) (ma_cons (me_lst (ma_cons me_int (ma_cons me_int (ma_cons me_int (ma_cons (me_op opD_sub (mv 1) me_int) (ma_cons (me_op opD_div (mv 1) me_int) ma_nil)))))) ma_nil)) (len_cons (len_cons len_nil))))
    (ms_one (ms_expr (me_mu PySem.F.slot_list_append PySem.F.type_list_append mm_append (mv 3) (ma_cons (me_callB (cb_max hx.calm) G.b_max rfl rfl (ma_cons me_int (ma_cons (me_callB (cb_min hx.calm) G.b_min rfl rfl (ma_cons (me_op opD_pow me_int me_int) (ma_cons (me_op opD_add (me_op opD_mul (me_callB (cb_min hx.calm) G.b_min rfl rfl (ma_cons (mv 5) (ma_cons (mv 2) ma_nil))) (mv 1)) (mv 6)) ma_nil))) ma_nil))) ma_nil)))))))
    (ms_one (ms_ret (me_tup (ma_cons (me_ix (mv 3) me_int) (ma_cons (me_ix (mv 3) me_int) (ma_cons (mv 1) ma_nil))))))))))
theorem sc__law_no_size : FnScope n__law_no_size p__law_no_size (defScope s__law_no_size) := ⟨rfl, rfl, rfl, by decide +kernel, rfl, by decide +kernel, by decide +kernel⟩
theorem ok__law_no_size (G : Tp K mg CT) (pf : PrF P fileL) : Fq P w K mg base CT 3 G.a__law_no_size G.d__law_no_size p__law_no_size m__law_no_size :=
  fn_q (N := n__law_no_size) (mb := b__law_no_size) G.f__law_no_size.fn sc__law_no_size (by decide) fun cdv A outer s H E hr hx =>
    (ms_cons (ms_asg (mn 1 hx.nd) (me_lst (ma_cons me_non (ma_cons me_int (ma_cons (me_tup ma_nil) (ma_cons (me_tup (ma_cons me_int (ma_cons me_int ma_nil))) (ma_cons (me_tup (ma_cons me_int (ma_cons me_int (ma_cons me_int (ma_cons me_int ma_nil))))) (ma_cons (me_lst (ma_cons me_int (ma_cons me_int (ma_cons me_int ma_nil)))) (ma_cons (me_tup (ma_cons me_int (ma_cons me_int (ma_cons me_int ma_nil)))) (ma_cons (me_tup (ma_cons me_int (ma_cons me_int (ma_cons me_int ma_nil)))) (ma_cons (me_tup (ma_cons me_int (ma_cons me_int (ma_cons me_int ma_nil)))) (ma_cons (me_tup (ma_cons me_int (ma_cons me_int (ma_cons me_int ma_nil)))) (ma_cons (me_tup (ma_cons (me_un opU_neg me_int) (ma_cons me_int (ma_cons me_int ma_nil)))) (ma_cons me_str ma_nil))))))))))))))
    (ms_cons (ms_asg (mn 1 hx.nd) (me_op opD_add (mv 1) (me_lst (ma_cons (me_tup (ma_cons me_bl (ma_cons me_int (ma_cons me_int ma_nil)))) (ma_cons (me_tup (ma_cons me_int (ma_cons me_bl (ma_cons me_int ma_nil)))) (ma_cons (me_tup (ma_cons me_int (ma_cons me_int (ma_cons me_bl ma_nil)))) (ma_cons (me_tup (ma_cons (me_op opD_add (me_op opD_pow me_int me_int) me_int) (ma_cons me_int (ma_cons me_int ma_nil)))) (ma_cons (me_tup (ma_cons me_int (ma_cons (me_op opD_add (me_op opD_pow me_int me_int) me_int) (ma_cons me_int ma_nil)))) (ma_cons me_dic1 ma_nil)))))))))
    (ms_one (ms_ret (me_call hx (ok__law_one G pf) G.f__law_one.mg G.f__law_one.fn.kp G.f__law_one.bd (hr.mono (by decide)) rfl (ma_cons (mv 0) (ma_cons (me_op opD_add (mv 1) (me_lst (ma_cons (me_tup (ma_cons me_int (ma_cons me_int (ma_cons (me_op opD_add (me_op opD_pow me_int me_int) me_int) ma_nil)))) (ma_cons (me_tup (ma_cons me_str (ma_cons me_int (ma_cons me_int ma_nil)))) (ma_cons (me_tup (ma_cons me_int (ma_cons me_non (ma_cons me_int ma_nil)))) (ma_cons (me_tup (ma_cons (me_tup (ma_cons me_int ma_nil)) (ma_cons me_int (ma_cons me_int ma_nil)))) (ma_cons me_bl (ma_cons (me_tup (ma_cons me_int (ma_cons me_int (ma_cons (me_lst (ma_cons me_int ma_nil)) ma_nil)))) ma_nil)))))))) ma_nil)) (len_cons (len_cons len_nil)))))))
theorem sc_require_size : FnScope n_require_size p_require_size (defScope s_require_size) := ⟨rfl, rfl, rfl, by decide +kernel, rfl, by decide +kernel, by decide +kernel⟩
theorem ok_require_size (G : Tp K mg CT) (pf : PrF P fileL) : Fq P w K mg base CT 4 G.a_require_size G.d_require_size p_require_size m_require_size :=
  fn_q (N := n_require_size) (mb := b_require_size) G.f_require_size.fn sc_require_size (by decide) fun cdv A outer s H E hr hx =>
    (ms_one (ms_if (mt_not (mt_val (me_call hx (ok_is_size G pf) G.f_is_size.mg G.f_is_size.fn.kp G.f_is_size.bd (hr.mono (by decide)) rfl (ma_cons (mv 0) ma_nil) (len_cons len_nil)))) (ms_one (ms_raise hx G.x_InvalidSize pf (hr.mono (by decide)) G.g_InvalidSize me_str)) ms_nil))
theorem sc_are_blocks : FnScope n_are_blocks p_are_blocks (defScope s_are_blocks) := ⟨rfl, rfl, rfl, by decide +kernel, rfl, by decide +kernel, by decide +kernel⟩
theorem ok_are_blocks (G : Tp K mg CT) (pf : PrF P fileL) : Fq P w K mg base CT 4 G.a_are_blocks G.d_are_blocks p_are_blocks m_are_blocks :=
  fn_q (N := n_are_blocks) (mb := b_are_blocks) G.f_are_blocks.fn sc_are_blocks (by decide) fun cdv A outer s H E hr hx =>
    (ms_cons (ms_if (mt_w (mw_or (mt_cmp opD_gt (by rfl) (me_callB cb_len G.b_len rfl rfl (ma_cons (mv 1) ma_nil)) (me_gint G.c_MAX_BLOCKS)) (mw_or1 (mt_not (mt_val (me_callB (cb_all hx.calm) G.b_all rfl rfl (ma_cons (me_frz (me_lcN (own := [("value", 2)]) hx (mi_seq (mv 1)) (show BlkOk n_are_blocks (defScope s_are_blocks) _ _ from ⟨rfl, by decide +kernel, by decide +kernel, by decide +kernel, by decide +kernel⟩) (fun s H C cl fp => (mn' 2 (own := [2]) (bk_cq hx).nd)) (fun s H C cl fp => mts_nil) (fun s H C cl fp => (me_call (bk_cq hx) (ok_is_block G pf) G.f_is_block.mg G.f_is_block.fn.kp G.f_is_block.bd (hr.mono (by decide)) rfl (ma_cons (mv 0) (ma_cons (mv 2) ma_nil)) (len_cons (len_cons len_nil)))))) ma_nil))))))) (ms_one (ms_ret me_bl)) ms_nil)
    (ms_cons (ms_if (mt_cmp (opD_ne (hu64 hr)) (by rfl) (me_callB (cb_sumX hx.calm) G.b_sum rfl rfl (ma_cons (me_frz (me_lcN (own := [("block", 3)]) hx (mi_seq (mv 1)) (show BlkOk n_are_blocks (defScope s_are_blocks) _ _ from ⟨rfl, by decide +kernel, by decide +kernel, by decide +kernel, by decide +kernel⟩) (fun s H C cl fp => (mn' 3 (own := [3]) (bk_cq hx).nd)) (fun s H C cl fp => mts_nil) (fun s H C cl fp => (me_op opD_mul (me_ix (mv 3) me_int) (me_ix (mv 3) me_int))))) ma_nil)) (me_op opD_mul (me_ix (mv 0) me_int) (me_ix (mv 0) me_int))) (ms_one (ms_ret me_bl)) ms_nil)
    (ms_one (ms_ret (me_callB (cb_all hx.calm) G.b_all rfl rfl (ma_cons (me_frz (me_lc2N (own := [("at", 4), ("one", 5), ("other", 6)]) (own1 := [6]) hx (mi_enum G.b_enumerate (mv 1) rfl) (show BlkOk n_are_blocks (defScope s_are_blocks) _ _ from ⟨rfl, by decide +kernel, by decide +kernel, by decide +kernel, by decide +kernel⟩) (by decide) (fun s H C cl fp => (mg_tup (bk_cq hx).calm (mgs_cons (mn' 4 (own := [4, 5, 6]) (bk_cq hx).nd) (mgs_cons (mn' 5 (own := [4, 5, 6]) (bk_cq hx).nd) mgs_nil)))) (fun s H C cl fp => mts_nil) (fun s H C cl fp => (mi_seq (me_sl (mv 1) (mo_some (me_op opD_add (mv 4) me_int)) mo_none))) (fun s H C cl fp => (mn' 6 (own := [6]) (bk_cq hx).nd)) (fun s H C cl fp => mts_nil) (fun s H C cl fp => (me_call (bk_cq hx) (ok_are_apart G pf) G.f_are_apart.mg G.f_are_apart.fn.kp G.f_are_apart.bd (hr.mono (by decide)) rfl (ma_cons (mv 5) (ma_cons (mv 6) ma_nil)) (len_cons (len_cons len_nil)))))) ma_nil))))))
theorem sc_total_need_in : FnScope n_total_need_in p_total_need_in (defScope s_total_need_in) := ⟨rfl, rfl, rfl, by decide +kernel, rfl, by decide +kernel, by decide +kernel⟩
theorem ok_total_need_in (G : Tp K mg CT) (pf : PrF P fileL) : Fq P w K mg base CT 4 G.a_total_need_in G.d_total_need_in p_total_need_in m_total_need_in :=
  fn_q (N := n_total_need_in) (mb := b_total_need_in) G.f_total_need_in.fn sc_total_need_in (by decide) fun cdv A outer s H E hr hx =>
    (ms_one (ms_ret (me_op opD_add (me_call hx (ok_needs_of G pf) G.f_needs_of.mg G.f_needs_of.fn.kp G.f_needs_of.bd (hr.mono (by decide)) rfl (ma_cons (mv 0) (ma_cons (me_gstr G.c_UPRIGHT) (ma_cons (me_ix (mv 0) me_int) ma_nil))) (len_cons (len_cons (len_cons len_nil)))) (me_call hx (ok_needs_of G pf) G.f_needs_of.mg G.f_needs_of.fn.kp G.f_needs_of.bd (hr.mono (by decide)) rfl (ma_cons (mv 0) (ma_cons (me_gstr G.c_LEVEL) (ma_cons (me_ix (mv 0) me_int) ma_nil))) (len_cons (len_cons (len_cons len_nil)))))))
theorem sc_reason_in : FnScope n_reason_in p_reason_in (defScope s_reason_in) := ⟨rfl, rfl, rfl, by decide +kernel, rfl, by decide +kernel, by decide +kernel⟩
theorem ok_reason_in (G : Tp K mg CT) (pf : PrF P fileL) : Fq P w K mg base CT 4 G.a_reason_in G.d_reason_in p_reason_in m_reason_in :=
  fn_q (N := n_reason_in) (mb := b_reason_in) G.f_reason_in.fn sc_reason_in (by decide) fun cdv A outer s H E hr hx =>
    (ms_cons (ms_if (mt_val (me_call hx (ok_has_bond_in G pf) G.f_has_bond_in.mg G.f_has_bond_in.fn.kp G.f_has_bond_in.bd (hr.mono (by decide)) rfl (ma_cons (mv 0) ma_nil) (len_cons len_nil))) (ms_one (ms_ret me_non)) ms_nil)
    (ms_cons (ms_if (mt_val (me_call hx (ok_is_laid G pf) G.f_is_laid.mg G.f_is_laid.fn.kp G.f_is_laid.bd (hr.mono (by decide)) rfl (ma_cons (mv 0) ma_nil) (len_cons len_nil))) (ms_one (ms_ret (me_if (mt_val (me_call hx (ok_is_narrow G pf) G.f_is_narrow.mg G.f_is_narrow.fn.kp G.f_is_narrow.bd (hr.mono (by decide)) rfl (ma_cons (mv 0) ma_nil) (len_cons len_nil))) (me_tup (ma_cons (me_gstr G.c_NARROW) ma_nil)) (me_tup (ma_cons (me_gstr G.c_FEW) ma_nil))))) ms_nil)
    (ms_cons (ms_par (i := 1) (j := 2) hx rfl rfl (by decide) rfl rfl (ma_cons (me_op opD_mod (me_ix (mv 0) me_int) (me_ix (mv 0) me_int)) (ma_cons (me_op opD_mod (me_ix (mv 0) me_int) (me_ix (mv 0) me_int)) ma_nil)) rfl)
    (ms_one (ms_ret (me_tup (ma_cons (me_gstr G.c_WEIGHTS) (ma_cons (me_op opD_sub (me_callB (cb_min hx.calm) G.b_min rfl rfl (ma_cons (mv 1) (ma_cons (mv 2) ma_nil))) me_int) (ma_cons (me_op opD_mod (me_op opD_sub (me_op opD_add (mv 1) (mv 2)) me_int) (me_ix (mv 0) me_int)) ma_nil)))))))))
theorem sc_Plan_init : FnScope n_Plan_init p_Plan_init (defScope s_Plan_init) := ⟨rfl, rfl, rfl, by decide +kernel, rfl, by decide +kernel, by decide +kernel⟩
theorem ok_Plan_init (G : Tp K mg CT) (pf : PrF P fileL) : Fv P w K mg base CT 5 G.a_Plan_init w_Plan_init :=
  fv_star (N := n_Plan_init) (ps := ["self", "size"]) (pv := "blocks") (mb := b_Plan_init) G.f_Plan_init sc_Plan_init (by decide) G.b_Plan_init fun cdv A outer s H E hr hx =>
    (ms_cons (ms_if (mt_w (mw_or (mt_not (mt_val (me_call hx (ok_is_size G pf) G.f_is_size.mg G.f_is_size.fn.kp G.f_is_size.bd (hr.mono (by decide)) rfl (ma_cons (mv 1) ma_nil) (len_cons len_nil)))) (mw_or1 (mt_not (mt_val (me_call hx (ok_are_blocks G pf) G.f_are_blocks.mg G.f_are_blocks.fn.kp G.f_are_blocks.bd (hr.mono (by decide)) rfl (ma_cons (mv 1) (ma_cons (mv 2) ma_nil)) (len_cons (len_cons len_nil)))))))) (ms_one (ms_raise hx G.x_InvalidPlan pf (hr.mono (by decide)) G.g_InvalidPlan me_str)) ms_nil)
    (ms_cons (ms_fld G.fl_own_size (mv 0) (mv 1))
    (ms_cons (ms_fld G.fl_own_blocks (mv 0) (me_callT cb_tuple G.b_tuple rfl rfl (ma_cons (me_callB (cb_sortX (hu64 hr)) G.b_sorted rfl rfl (ma_cons (mv 2) ma_nil)) ma_nil)))
    (ms_one (ms_fld G.fl_own_known (mv 0) (me_dcN (own := [("block", 3)]) hr hx (mi_seq (mv 2)) (show BlkOk n_Plan_init (defScope s_Plan_init) _ _ from ⟨rfl, by decide +kernel, by decide +kernel, by decide +kernel, by decide +kernel⟩) (fun s H C cl fp => (mn' 3 (own := [3]) (bk_cq hx).nd)) (fun s H C cl fp => mts_nil) (fun s H C cl fp => (mv 3)) (fun s H C cl fp => me_bl)))))))
theorem sc_is_plain_reason : FnScope n_is_plain_reason p_is_plain_reason (defScope s_is_plain_reason) := ⟨rfl, rfl, rfl, by decide +kernel, rfl, by decide +kernel, by decide +kernel⟩
theorem ok_is_plain_reason (G : Tp K mg CT) (pf : PrF P fileL) : Fq P w K mg base CT 5 G.a_is_plain_reason G.d_is_plain_reason p_is_plain_reason m_is_plain_reason :=
  fn_q (N := n_is_plain_reason) (mb := b_is_plain_reason) G.f_is_plain_reason.fn sc_is_plain_reason (by decide) fun cdv A outer s H E hr hx =>
    (ms_cons (ms_if (mt_w (mw_and (mt_val (me_call hx (ok_is_row G pf) G.f_is_row.mg G.f_is_row.fn.kp G.f_is_row.bd (hr.mono (by decide)) rfl (ma_cons (mv 1) (ma_cons me_int ma_nil)) (len_cons (len_cons len_nil)))) (mw_and1 (mt_val (me_call hx (ok_is_word_of G pf) G.f_is_word_of.mg G.f_is_word_of.fn.kp G.f_is_word_of.bd (hr.mono (by decide)) rfl (ma_cons (me_ix (mv 1) me_int) (ma_cons (me_tup (ma_cons (me_gstr G.c_WEIGHTS) ma_nil)) ma_nil)) (len_cons (len_cons len_nil))))))) (ms_cons (ms_if (mt_not (mt_val (me_callB (cb_all hx.calm) G.b_all rfl rfl (ma_cons (me_frz (me_lcN (own := [("number", 2)]) hx (mi_seq (me_sl (mv 1) (mo_some me_int) mo_none)) (show BlkOk n_is_plain_reason (defScope s_is_plain_reason) _ _ from ⟨rfl, by decide +kernel, by decide +kernel, by decide +kernel, by decide +kernel⟩) (fun s H C cl fp => (mn' 2 (own := [2]) (bk_cq hx).nd)) (fun s H C cl fp => mts_nil) (fun s H C cl fp => (me_call (bk_cq hx) (ok_is_from G pf) G.f_is_from.mg G.f_is_from.fn.kp G.f_is_from.bd (hr.mono (by decide)) rfl (ma_cons (mv 2) (ma_cons me_int (ma_cons (me_op opD_sub (me_ix (mv 0) me_int) me_int) ma_nil))) (len_cons (len_cons (len_cons len_nil))))))) ma_nil)))) (ms_one (ms_ret me_bl)) ms_nil)
    (ms_one (ms_ret (me_cmp (opD_ne (hu64 hr)) (by rfl) (me_call hx (ok_weight_in G pf) G.f_weight_in.mg G.f_weight_in.fn.kp G.f_weight_in.bd (hr.mono (by decide)) rfl (ma_cons (mv 0) (ma_cons (me_ix (mv 1) me_int) ma_nil)) (len_cons (len_cons len_nil))) (me_call hx (ok_weight_in G pf) G.f_weight_in.mg G.f_weight_in.fn.kp G.f_weight_in.bd (hr.mono (by decide)) rfl (ma_cons (mv 0) (ma_cons (me_ix (mv 1) me_int) ma_nil)) (len_cons (len_cons len_nil))))))) ms_nil)
    (ms_cons (ms_if (mt_w (mw_or (mt_not (mt_val (me_call hx (ok_is_row G pf) G.f_is_row.mg G.f_is_row.fn.kp G.f_is_row.bd (hr.mono (by decide)) rfl (ma_cons (mv 1) (ma_cons me_int ma_nil)) (len_cons (len_cons len_nil))))) (mw_or1 (mt_not (mt_val (me_call hx (ok_is_word_of G pf) G.f_is_word_of.mg G.f_is_word_of.fn.kp G.f_is_word_of.bd (hr.mono (by decide)) rfl (ma_cons (me_ix (mv 1) me_int) (ma_cons (me_tup (ma_cons (me_gstr G.c_NARROW) (ma_cons (me_gstr G.c_FEW) ma_nil))) ma_nil)) (len_cons (len_cons len_nil)))))))) (ms_one (ms_ret me_bl)) ms_nil)
    (ms_cons (ms_if (mt_cmp (opD_eq (hu64 hr)) (by rfl) (me_ix (mv 1) me_int) (me_gstr G.c_NARROW)) (ms_one (ms_ret (me_call hx (ok_is_narrow G pf) G.f_is_narrow.mg G.f_is_narrow.fn.kp G.f_is_narrow.bd (hr.mono (by decide)) rfl (ma_cons (mv 0) ma_nil) (len_cons len_nil)))) ms_nil)
    (ms_one (ms_ret (me_and (me_call hx (ok_is_laid G pf) G.f_is_laid.mg G.f_is_laid.fn.kp G.f_is_laid.bd (hr.mono (by decide)) rfl (ma_cons (mv 0) ma_nil) (len_cons len_nil)) (me_one (me_cmp opD_gt (by rfl) (me_call hx (ok_total_need_in G pf) G.f_total_need_in.mg G.f_total_need_in.fn.kp G.f_total_need_in.bd (hr.mono (by decide)) rfl (ma_cons (mv 0) ma_nil) (len_cons len_nil)) (me_call hx (ok_total_crossings_in G pf) G.f_total_crossings_in.mg G.f_total_crossings_in.fn.kp G.f_total_crossings_in.bd (hr.mono (by decide)) rfl (ma_cons (mv 0) ma_nil) (len_cons len_nil))))))))))
theorem sc_is_bond_paper : FnScope n_is_bond_paper p_is_bond_paper (defScope s_is_bond_paper) := ⟨rfl, rfl, rfl, by decide +kernel, rfl, by decide +kernel, by decide +kernel⟩
theorem ok_is_bond_paper (G : Tp K mg CT) (pf : PrF P fileL) : Fq P w K mg base CT 6 G.a_is_bond_paper G.d_is_bond_paper p_is_bond_paper m_is_bond_paper :=
  fn_q (N := n_is_bond_paper) (mb := b_is_bond_paper) G.f_is_bond_paper.fn sc_is_bond_paper (by decide) fun cdv A outer s H E hr hx =>
    (ms_cons (ms_expr (me_call hx (ok_require_size G pf) G.f_require_size.mg G.f_require_size.fn.kp G.f_require_size.bd (hr.mono (by decide)) rfl (ma_cons (mv 0) ma_nil) (len_cons len_nil)))
    (ms_cons (ms_if (mt_w (mw_or (mt_not (mt_val (me_call hx (ok_is_row G pf) G.f_is_row.mg G.f_is_row.fn.kp G.f_is_row.bd (hr.mono (by decide)) rfl (ma_cons (mv 1) (ma_cons me_int ma_nil)) (len_cons (len_cons len_nil))))) (mw_or1 (mt_not (mt_val (me_call hx (ok_is_word_of G pf) G.f_is_word_of.mg G.f_is_word_of.fn.kp G.f_is_word_of.bd (hr.mono (by decide)) rfl (ma_cons (me_ix (mv 1) me_int) (ma_cons (me_tup (ma_cons (me_gstr G.c_PLAN) (ma_cons (me_gstr G.c_REASON) ma_nil))) ma_nil)) (len_cons (len_cons len_nil)))))))) (ms_one (ms_ret me_bl)) ms_nil)
    (ms_cons (ms_if (mt_cmp (opD_eq (hu64 hr)) (by rfl) (me_ix (mv 1) me_int) (me_gstr G.c_REASON)) (ms_one (ms_ret (me_call hx (ok_is_plain_reason G pf) G.f_is_plain_reason.mg G.f_is_plain_reason.fn.kp G.f_is_plain_reason.bd (hr.mono (by decide)) rfl (ma_cons (mv 0) (ma_cons (me_ix (mv 1) me_int) ma_nil)) (len_cons (len_cons len_nil))))) ms_nil)
    (ms_one ms_stuck))))
theorem sc_Plan_of : FnScope n_Plan_of p_Plan_of (defScope s_Plan_of) := ⟨rfl, rfl, rfl, by decide +kernel, rfl, by decide +kernel, by decide +kernel⟩
theorem okq_Plan_of (G : Tp K mg CT) (pf : PrF P fileL) : Fq P w K mg base CT 7 G.a_Plan_of G.d_Plan_of p_Plan_of m_Plan_of :=
  fn_q (N := n_Plan_of) (mb := b_Plan_of) G.f_Plan_of sc_Plan_of (by decide) fun cdv A outer s H E hr hx =>
    (ms_cons (ms_if (mt_not (mt_val (me_callB cb_isi G.b_isinstance rfl rfl (ma_cons (mv 2) (ma_cons (me_ty G.b_tuple) ma_nil))))) (ms_one (ms_raise hx G.x_InvalidPlan pf (hr.mono (by decide)) G.g_InvalidPlan me_str)) ms_nil)
    (ms_one (ms_ret (me_mkS hx G.k_Plan (ok_Plan_init G pf) (hr.mono (by decide)) (mv 0) (ma_cons (mv 1) (ma_star (mv 2) ma_nil))))))
theorem ok_Plan_of (G : Tp K mg CT) (pf : PrF P fileL) : Fv P w K mg base CT 7 G.a_Plan_of w_Plan_of := fv_of (ps := p_Plan_of) (okq_Plan_of G pf) G.b_Plan_of
theorem sc_Plan_exchanged : FnScope n_Plan_exchanged p_Plan_exchanged (defScope s_Plan_exchanged) := ⟨rfl, rfl, rfl, by decide +kernel, rfl, by decide +kernel, by decide +kernel⟩
theorem okq_Plan_exchanged (G : Tp K mg CT) (pf : PrF P fileL) : Fq P w K mg base CT 8 G.a_Plan_exchanged G.d_Plan_exchanged p_Plan_exchanged m_Plan_exchanged :=
  fn_q (N := n_Plan_exchanged) (mb := b_Plan_exchanged) G.f_Plan_exchanged sc_Plan_exchanged (by decide) fun cdv A outer s H E hr hx =>
    (ms_one (ms_ret (me_cm hx (me_cls G.g_Plan) G.r_Plan G.cm_Plan_of (ok_Plan_of G pf) (hr.mono (by decide)) (ma_cons (me_call hx (ok_exchanged_size G pf) G.f_exchanged_size.mg G.f_exchanged_size.fn.kp G.f_exchanged_size.bd (hr.mono (by decide)) rfl (ma_cons (me_fld G.fl_own_size (mv 0)) ma_nil) (len_cons len_nil)) (ma_cons (me_callT cb_tuple G.b_tuple rfl rfl (ma_cons (me_frz (me_lcN (own := [("block", 1)]) hx (mi_seq (me_fld G.fl_own_blocks (mv 0))) (show BlkOk n_Plan_exchanged (defScope s_Plan_exchanged) _ _ from ⟨rfl, by decide +kernel, by decide +kernel, by decide +kernel, by decide +kernel⟩) (fun s H C cl fp => (mn' 1 (own := [1]) (bk_cq hx).nd)) (fun s H C cl fp => mts_nil) (fun s H C cl fp => (me_call (bk_cq hx) (ok_exchanged_block G pf) G.f_exchanged_block.mg G.f_exchanged_block.fn.kp G.f_exchanged_block.bd (hr.mono (by decide)) rfl (ma_cons (mv 1) ma_nil) (len_cons len_nil))))) ma_nil)) ma_nil)))))
theorem sc_wide_plan : FnScope n_wide_plan p_wide_plan (defScope s_wide_plan) := ⟨rfl, rfl, rfl, by decide +kernel, rfl, by decide +kernel, by decide +kernel⟩
theorem ok_wide_plan (G : Tp K mg CT) (pf : PrF P fileL) : Fq P w K mg base CT 8 G.a_wide_plan G.d_wide_plan p_wide_plan m_wide_plan :=
  fn_q (N := n_wide_plan) (mb := b_wide_plan) G.f_wide_plan.fn sc_wide_plan (by decide) fun cdv A outer s H E hr hx =>
    (ms_cons (ms_asg (mg_tup hx.calm (mgs_cons (mn 1 hx.nd) (mgs_cons (mn 2 hx.nd) (mgs_cons (mn 3 hx.nd) mgs_nil)))) (mv 0))
    (ms_cons (ms_par (i := 4) (j := 5) hx rfl rfl (by decide) rfl rfl (ma_cons (me_op opD_div (mv 1) (mv 3)) (ma_cons (me_op opD_sub (mv 1) (mv 3)) ma_nil)) rfl)
    (ms_cons (ms_asg (mg_tup hx.calm (mgs_cons (mn 6 hx.nd) (mgs_cons (mn 7 hx.nd) (mgs_cons (mn 8 hx.nd) mgs_nil)))) (me_call hx (ok_stacks_of G pf) G.f_stacks_of.mg G.f_stacks_of.fn.kp G.f_stacks_of.bd (hr.mono (by decide)) rfl (ma_cons (mv 0) ma_nil) (len_cons len_nil)))
    (ms_cons (ms_par (i := 9) (j := 10) hx rfl rfl (by decide) rfl rfl (ma_cons (me_call hx (ok_band_of G pf) G.f_band_of.mg G.f_band_of.fn.kp G.f_band_of.bd (hr.mono (by decide)) rfl (ma_cons me_int (ma_cons me_int (ma_cons (mv 3) (ma_cons (me_op opD_sub (mv 4) me_int) ma_nil)))) (len_cons (len_cons (len_cons (len_cons len_nil))))) (ma_cons (me_call hx (ok_band_of G pf) G.f_band_of.mg G.f_band_of.fn.kp G.f_band_of.bd (hr.mono (by decide)) rfl (ma_cons (mv 3) (ma_cons (me_op opD_sub (mv 2) (mv 3)) (ma_cons (mv 3) (ma_cons (me_op opD_sub (mv 4) me_int) ma_nil)))) (len_cons (len_cons (len_cons (len_cons len_nil))))) ma_nil)) rfl)
    (ms_cons (ms_asg (mn 11 hx.nd) (me_op opD_add (me_call hx (ok_stack_of G pf) G.f_stack_of.mg G.f_stack_of.fn.kp G.f_stack_of.bd (hr.mono (by decide)) rfl (ma_cons (mv 5) (ma_cons me_int (ma_cons (mv 3) (ma_cons (mv 6) ma_nil)))) (len_cons (len_cons (len_cons (len_cons len_nil))))) (me_call hx (ok_stack_of G pf) G.f_stack_of.mg G.f_stack_of.fn.kp G.f_stack_of.bd (hr.mono (by decide)) rfl (ma_cons me_int (ma_cons (mv 3) (ma_cons (mv 3) (ma_cons (mv 7) ma_nil)))) (len_cons (len_cons (len_cons (len_cons len_nil)))))))
    (ms_cons (ms_asg (mn 11 hx.nd) (me_op opD_add (mv 11) (me_call hx (ok_stack_of G pf) G.f_stack_of.mg G.f_stack_of.fn.kp G.f_stack_of.bd (hr.mono (by decide)) rfl (ma_cons (mv 3) (ma_cons (mv 3) (ma_cons (me_op opD_sub (mv 5) (mv 3)) (ma_cons (mv 8) ma_nil)))) (len_cons (len_cons (len_cons (len_cons len_nil)))))))
    (ms_one (ms_ret (me_cm hx (me_cls G.g_Plan) G.r_Plan G.cm_Plan_of (ok_Plan_of G pf) (hr.mono (by decide)) (ma_cons (mv 0) (ma_cons (me_callT cb_tuple G.b_tuple rfl rfl (ma_cons (me_op opD_add (me_op opD_add (mv 9) (mv 10)) (mv 11)) ma_nil)) ma_nil)))))))))))
theorem sc_plan_of : FnScope n_plan_of p_plan_of (defScope s_plan_of) := ⟨rfl, rfl, rfl, by decide +kernel, rfl, by decide +kernel, by decide +kernel⟩
theorem ok_plan_of (G : Tp K mg CT) (pf : PrF P fileL) : Fq P w K mg base CT 9 G.a_plan_of G.d_plan_of p_plan_of m_plan_of :=
  fn_q (N := n_plan_of) (mb := b_plan_of) G.f_plan_of.fn sc_plan_of (by decide) fun cdv A outer s H E hr hx =>
    (ms_cons (ms_if (mt_val (me_call hx (ok_is_one_bar G pf) G.f_is_one_bar.mg G.f_is_one_bar.fn.kp G.f_is_one_bar.bd (hr.mono (by decide)) rfl (ma_cons (mv 0) ma_nil) (len_cons len_nil))) (ms_one (ms_ret (me_mk hx G.k_Plan (ok_Plan_init G pf) (hr.mono (by decide)) (me_cls G.g_Plan) (ma_cons (mv 0) (ma_cons (me_tup (ma_cons me_int (ma_cons me_int (ma_cons (me_ix (mv 0) me_int) (ma_cons (me_ix (mv 0) me_int) (ma_cons (me_if (mt_cmp (opD_eq (hu64 hr)) (by rfl) (me_ix (mv 0) me_int) me_int) (me_gstr G.c_ACROSS) (me_gstr G.c_DOWN)) ma_nil)))))) ma_nil))))) ms_nil)
    (ms_cons (ms_if (mt_val (me_call hx (ok_is_straight G pf) G.f_is_straight.mg G.f_is_straight.fn.kp G.f_is_straight.bd (hr.mono (by decide)) rfl (ma_cons (mv 0) ma_nil) (len_cons len_nil))) (ms_one (ms_ret (me_call hx (ok_wide_plan G pf) G.f_wide_plan.mg G.f_wide_plan.fn.kp G.f_wide_plan.bd (hr.mono (by decide)) rfl (ma_cons (mv 0) ma_nil) (len_cons len_nil)))) ms_nil)
    (ms_one (ms_ret (me_meth0 hx (me_call hx (ok_wide_plan G pf) G.f_wide_plan.mg G.f_wide_plan.fn.kp G.f_wide_plan.bd (hr.mono (by decide)) rfl (ma_cons (me_call hx (ok_exchanged_size G pf) G.f_exchanged_size.mg G.f_exchanged_size.fn.kp G.f_exchanged_size.bd (hr.mono (by decide)) rfl (ma_cons (mv 0) ma_nil) (len_cons len_nil)) ma_nil) (len_cons len_nil)) G.z_Plan G.me_Plan_exchanged (okq_Plan_exchanged G pf) rfl (hr.mono (by decide)) G.b_Plan_exchanged)))))
theorem sc_bond_plan : FnScope n_bond_plan p_bond_plan (defScope s_bond_plan) := ⟨rfl, rfl, rfl, by decide +kernel, rfl, by decide +kernel, by decide +kernel⟩
theorem ok_bond_plan (G : Tp K mg CT) (pf : PrF P fileL) : Fq P w K mg base CT 10 G.a_bond_plan G.d_bond_plan p_bond_plan m_bond_plan :=
  fn_q (N := n_bond_plan) (mb := b_bond_plan) G.f_bond_plan.fn sc_bond_plan (by decide) fun cdv A outer s H E hr hx =>
    (ms_cons (ms_expr (me_call hx (ok_require_size G pf) G.f_require_size.mg G.f_require_size.fn.kp G.f_require_size.bd (hr.mono (by decide)) rfl (ma_cons (mv 0) ma_nil) (len_cons len_nil)))
    (ms_cons (ms_if (mt_not (mt_val (me_call hx (ok_has_bond_in G pf) G.f_has_bond_in.mg G.f_has_bond_in.fn.kp G.f_has_bond_in.bd (hr.mono (by decide)) rfl (ma_cons (mv 0) ma_nil) (len_cons len_nil)))) (ms_one (ms_raiseV hx G.x_Unlaid pf (hr.mono (by decide)) G.g_Unlaid (mv 0))) ms_nil)
    (ms_one (ms_ret (me_call hx (ok_plan_of G pf) G.f_plan_of.mg G.f_plan_of.fn.kp G.f_plan_of.bd (hr.mono (by decide)) rfl (ma_cons (mv 0) ma_nil) (len_cons len_nil))))))
theorem sc_bond_paper : FnScope n_bond_paper p_bond_paper (defScope s_bond_paper) := ⟨rfl, rfl, rfl, by decide +kernel, rfl, by decide +kernel, by decide +kernel⟩
theorem ok_bond_paper (G : Tp K mg CT) (pf : PrF P fileL) : Fq P w K mg base CT 10 G.a_bond_paper G.d_bond_paper p_bond_paper m_bond_paper :=
  fn_q (N := n_bond_paper) (mb := b_bond_paper) G.f_bond_paper.fn sc_bond_paper (by decide) fun cdv A outer s H E hr hx =>
    (ms_cons (ms_expr (me_call hx (ok_require_size G pf) G.f_require_size.mg G.f_require_size.fn.kp G.f_require_size.bd (hr.mono (by decide)) rfl (ma_cons (mv 0) ma_nil) (len_cons len_nil)))
    (ms_one (ms_ret (me_if (mt_val (me_call hx (ok_has_bond_in G pf) G.f_has_bond_in.mg G.f_has_bond_in.fn.kp G.f_has_bond_in.bd (hr.mono (by decide)) rfl (ma_cons (mv 0) ma_nil) (len_cons len_nil))) (me_tup (ma_cons (me_gstr G.c_PLAN) (ma_cons (me_call hx (ok_plan_of G pf) G.f_plan_of.mg G.f_plan_of.fn.kp G.f_plan_of.bd (hr.mono (by decide)) rfl (ma_cons (mv 0) ma_nil) (len_cons len_nil)) ma_nil))) (me_tup (ma_cons (me_gstr G.c_REASON) (ma_cons (me_call hx (ok_reason_in G pf) G.f_reason_in.mg G.f_reason_in.fn.kp G.f_reason_in.bd (hr.mono (by decide)) rfl (ma_cons (mv 0) ma_nil) (len_cons len_nil)) ma_nil)))))))
theorem sc__law_right : FnScope n__law_right p__law_right (defScope s__law_right) := ⟨rfl, rfl, rfl, by decide +kernel, rfl, by decide +kernel, by decide +kernel⟩
theorem ok__law_right (G : Tp K mg CT) (pf : PrF P fileL) (TB : ∀ p ∈ csL, LamX.TabB base mg p.1 p.2) : FqG P w K mg base CT 13 G.a__law_right G.d__law_right p__law_right m__law_right :=
  fnG_q (N := n__law_right) (mb := b__law_right) G.f__law_right.fn sc__law_right (by decide) fun A outer s H E hgd hr hx =>
    (ms_cons (ms_asg (mn 1 hx.nd) (me_call hx (ok__law_no_size G pf) G.f__law_no_size.mg G.f__law_no_size.fn.kp G.f__law_no_size.bd (hr.mono (by decide)) rfl (ma_cons (mv 0) ma_nil) (len_cons len_nil)))
    (ms_cons (ms_asg (mn 2 hx.nd) (me_lstN (ma_cons (me_metF (k := 10) (qf := "_law_right.<locals>.<lambda>") (L := (by show LamX.lamSB (defScope s__law_right) _ = true; decide +kernel)) hx G.exm G.f__law_met.mg G.f__law_met.fn G.f__law_met.bd sc__law_met (fun cdv => gv__law_met G hgd (hu100 hr)) (TB (846, 842) (by decide)) (by rw [G.tt]; decide) (by rw [G.tt]; decide) (hr.mono (by decide)) (fun _ _ _ _ _ _ _ hr hx => (me_call hx (ok_bond_plan G pf) G.f_bond_plan.mg G.f_bond_plan.fn.kp G.f_bond_plan.bd (hr.mono (by decide)) rfl (ma_cons (mv 1) ma_nil) (len_cons len_nil)))) ma_nil)))
    (ms_cons (ms_expr (me_mu PySem.F.slot_list_append PySem.F.type_list_append mm_append (mv 2) (ma_cons (me_metF (k := 10) (qf := "_law_right.<locals>.<lambda>") (L := (by show LamX.lamSB (defScope s__law_right) _ = true; decide +kernel)) hx G.exm G.f__law_met.mg G.f__law_met.fn G.f__law_met.bd sc__law_met (fun cdv => gv__law_met G hgd (hu100 hr)) (TB (846, 842) (by decide)) (by rw [G.tt]; decide) (by rw [G.tt]; decide) (hr.mono (by decide)) (fun _ _ _ _ _ _ _ hr hx => (me_call hx (ok_bond_paper G pf) G.f_bond_paper.mg G.f_bond_paper.fn.kp G.f_bond_paper.bd (hr.mono (by decide)) rfl (ma_cons (mv 1) ma_nil) (len_cons len_nil)))) ma_nil)))
    (ms_cons (ms_expr (me_mu PySem.F.slot_list_append PySem.F.type_list_append mm_append (mv 2) (ma_cons (me_metF (k := 6) (qf := "_law_right.<locals>.<lambda>") (L := (by show LamX.lamSB (defScope s__law_right) _ = true; decide +kernel)) hx G.exm G.f__law_met.mg G.f__law_met.fn G.f__law_met.bd sc__law_met (fun cdv => gv__law_met G hgd (hu100 hr)) (TB (846, 842) (by decide)) (by rw [G.tt]; decide) (by rw [G.tt]; decide) (hr.mono (by decide)) (fun _ _ _ _ _ _ _ hr hx => (me_call hx (ok_is_bond_paper G pf) G.f_is_bond_paper.mg G.f_is_bond_paper.fn.kp G.f_is_bond_paper.bd (hr.mono (by decide)) rfl (ma_cons (mv 1) (ma_cons (mv 1) ma_nil)) (len_cons (len_cons len_nil))))) ma_nil)))
    (ms_cons (ms_if (mt_cmp (opD_ne (hu64 hr)) (by rfl) (mv 2) (me_op opD_mul (me_lst (ma_cons me_str ma_nil)) me_int)) (ms_one (ms_ret me_bl)) ms_nil)
    (ms_cons (ms_for hx (mi_seq (me_lst (ma_cons (me_call hx (ok__law_small G pf) G.f__law_small.mg G.f__law_small.fn.kp G.f__law_small.bd (hr.mono (by decide)) rfl (ma_cons (mv 0) (ma_cons me_int ma_nil)) (len_cons (len_cons len_nil))) (ma_cons (me_call hx (ok__law_great G pf) G.f__law_great.mg G.f__law_great.fn.kp G.f__law_great.bd (hr.mono (by decide)) rfl (ma_cons (mv 0) ma_nil) (len_cons len_nil)) ma_nil)))) (mn 3 hx.nd) (ms_cons (ms_asg (mn 2 hx.nd) (me_lstN (ma_cons (me_metF (k := 10) (qf := "_law_right.<locals>.<lambda>") (L := (by show LamX.lamSB (defScope s__law_right) _ = true; decide +kernel)) hx G.exm G.f__law_met.mg G.f__law_met.fn G.f__law_met.bd sc__law_met (fun cdv => gv__law_met G hgd (hu100 hr)) (TB (846, 842) (by decide)) (by rw [G.tt]; decide) (by rw [G.tt]; decide) (hr.mono (by decide)) (fun _ _ _ _ _ _ _ hr hx => (me_call hx (ok_bond_plan G pf) G.f_bond_plan.mg G.f_bond_plan.fn.kp G.f_bond_plan.bd (hr.mono (by decide)) rfl (ma_cons (mv 3) ma_nil) (len_cons len_nil)))) ma_nil)))
    (ms_cons (ms_expr (me_mu PySem.F.slot_list_append PySem.F.type_list_append mm_append (mv 2) (ma_cons (me_metF (k := 10) (qf := "_law_right.<locals>.<lambda>") (L := (by show LamX.lamSB (defScope s__law_right) _ = true; decide +kernel)) hx G.exm G.f__law_met.mg G.f__law_met.fn G.f__law_met.bd sc__law_met (fun cdv => gv__law_met G hgd (hu100 hr)) (TB (846, 842) (by decide)) (by rw [G.tt]; decide) (by rw [G.tt]; decide) (hr.mono (by decide)) (fun _ _ _ _ _ _ _ hr hx => (me_call hx (ok_bond_paper G pf) G.f_bond_paper.mg G.f_bond_paper.fn.kp G.f_bond_paper.bd (hr.mono (by decide)) rfl (ma_cons (mv 3) ma_nil) (len_cons len_nil)))) ma_nil)))
    (ms_cons (ms_expr (me_mu PySem.F.slot_list_append PySem.F.type_list_append mm_append (mv 2) (ma_cons (me_metF (k := 6) (qf := "_law_right.<locals>.<lambda>") (L := (by show LamX.lamSB (defScope s__law_right) _ = true; decide +kernel)) hx G.exm G.f__law_met.mg G.f__law_met.fn G.f__law_met.bd sc__law_met (fun cdv => gv__law_met G hgd (hu100 hr)) (TB (846, 842) (by decide)) (by rw [G.tt]; decide) (by rw [G.tt]; decide) (hr.mono (by decide)) (fun _ _ _ _ _ _ _ hr hx => (me_call hx (ok_is_bond_paper G pf) G.f_is_bond_paper.mg G.f_is_bond_paper.fn.kp G.f_is_bond_paper.bd (hr.mono (by decide)) rfl (ma_cons (mv 3) (ma_cons (mv 1) ma_nil)) (len_cons (len_cons len_nil))))) ma_nil)))
    (ms_one (ms_if (mt_cmp (opD_ne (hu64 hr)) (by rfl) (mv 2) (me_lst (ma_cons (me_if (mt_val (me_call hx (ok__law_has_bond G pf) G.f__law_has_bond.mg G.f__law_has_bond.fn.kp G.f__law_has_bond.bd (hr.mono (by decide)) rfl (ma_cons (mv 3) ma_nil) (len_cons len_nil))) me_str (me_op opD_add me_str (me_callB (cb_reprX hgd (hu64 hr)) G.b_repr rfl rfl (ma_cons (mv 3) ma_nil)))) (ma_cons me_str (ma_cons me_str ma_nil))))) (ms_one (ms_ret me_bl)) ms_nil))))))
    (ms_one (ms_ret me_bl))))))))
theorem sc_law : FnScope n_law p_law (defScope s_law) := ⟨rfl, rfl, rfl, by decide +kernel, rfl, by decide +kernel, by decide +kernel⟩
theorem ok_law (G : Tp K mg CT) (pf : PrF P fileL) (TB : ∀ p ∈ csL, LamX.TabB base mg p.1 p.2) {a : Addr} {fd : FuncData} (h : FunC K "law" "law" s_law a fd 853) : FqG P w K mg base CT 14 a fd p_law m_law :=
  fnG_q (N := n_law) (mb := b_law) h sc_law (by decide) fun A outer s H E hgd hr hx =>
    (ms_cons (ms_for hx (mi_rng1 G.b_range (me_callB (cb_max hx.calm) G.b_max rfl rfl (ma_cons me_int (ma_cons (me_callB (cb_min hx.calm) G.b_min rfl rfl (ma_cons me_int (ma_cons (me_callB cb_len G.b_len rfl rfl (ma_cons (mv 0) ma_nil)) ma_nil))) ma_nil))) rfl) (mn 1 hx.nd) (ms_cons (ms_asg (mn 2 hx.nd) (me_call hx (ok__law_urn G pf) G.f__law_urn.mg G.f__law_urn.fn.kp G.f__law_urn.bd (hr.mono (by decide)) rfl (ma_cons (mv 0) (ma_cons (mv 1) ma_nil)) (len_cons (len_cons len_nil))))
    (ms_one (ms_for hx (mi_rng1 G.b_range me_int rfl) (mn 3 hx.nd) (ms_one (ms_if (mt_not (mt_val (me_callG hx (ok__law_right G pf TB) hgd G.f__law_right.mg G.f__law_right.fn.kp G.f__law_right.bd (hr.mono (by decide)) rfl (ma_cons (mv 2) ma_nil) (len_cons len_nil)))) (ms_one (ms_ret me_bl)) ms_nil))))))
    (ms_cons (ms_asg (mn 4 hx.nd) (me_lstN (ma_cons (me_metF (k := 10) (qf := "law.<locals>.<lambda>") (L := (by show LamX.lamSB (defScope s_law) _ = true; decide +kernel)) hx G.exm G.f__law_met.mg G.f__law_met.fn G.f__law_met.bd sc__law_met (fun cdv => gv__law_met G hgd (hu100 hr)) (TB (853, 849) (by decide)) (by rw [G.tt]; decide) (by rw [G.tt]; decide) (hr.mono (by decide)) (fun _ _ _ _ _ _ _ hr hx => (me_call hx (ok_bond_plan G pf) G.f_bond_plan.mg G.f_bond_plan.fn.kp G.f_bond_plan.bd (hr.mono (by decide)) rfl (ma_cons (me_tup (ma_cons me_int (ma_cons me_int (ma_cons me_int ma_nil)))) ma_nil) (len_cons len_nil)))) ma_nil)))
    (ms_cons (ms_expr (me_mu PySem.F.slot_list_append PySem.F.type_list_append mm_append (mv 4) (ma_cons (me_metF (k := 10) (qf := "law.<locals>.<lambda>") (L := (by show LamX.lamSB (defScope s_law) _ = true; decide +kernel)) hx G.exm G.f__law_met.mg G.f__law_met.fn G.f__law_met.bd sc__law_met (fun cdv => gv__law_met G hgd (hu100 hr)) (TB (853, 849) (by decide)) (by rw [G.tt]; decide) (by rw [G.tt]; decide) (hr.mono (by decide)) (fun _ _ _ _ _ _ _ hr hx => (me_call hx (ok_bond_plan G pf) G.f_bond_plan.mg G.f_bond_plan.fn.kp G.f_bond_plan.bd (hr.mono (by decide)) rfl (ma_cons (me_tup (ma_cons me_int (ma_cons me_int (ma_cons me_int ma_nil)))) ma_nil) (len_cons len_nil)))) ma_nil)))
    (ms_cons (ms_expr (me_mu PySem.F.slot_list_append PySem.F.type_list_append mm_append (mv 4) (ma_cons (me_metF (k := 10) (qf := "law.<locals>.<lambda>") (L := (by show LamX.lamSB (defScope s_law) _ = true; decide +kernel)) hx G.exm G.f__law_met.mg G.f__law_met.fn G.f__law_met.bd sc__law_met (fun cdv => gv__law_met G hgd (hu100 hr)) (TB (853, 849) (by decide)) (by rw [G.tt]; decide) (by rw [G.tt]; decide) (hr.mono (by decide)) (fun _ _ _ _ _ _ _ hr hx => (me_call hx (ok_bond_plan G pf) G.f_bond_plan.mg G.f_bond_plan.fn.kp G.f_bond_plan.bd (hr.mono (by decide)) rfl (ma_cons (me_tup (ma_cons me_int (ma_cons me_int (ma_cons me_int ma_nil)))) ma_nil) (len_cons len_nil)))) ma_nil)))
    (ms_cons (ms_expr (me_mu PySem.F.slot_list_append PySem.F.type_list_append mm_append (mv 4) (ma_cons (me_metF (k := 10) (qf := "law.<locals>.<lambda>") (L := (by show LamX.lamSB (defScope s_law) _ = true; decide +kernel)) hx G.exm G.f__law_met.mg G.f__law_met.fn G.f__law_met.bd sc__law_met (fun cdv => gv__law_met G hgd (hu100 hr)) (TB (853, 849) (by decide)) (by rw [G.tt]; decide) (by rw [G.tt]; decide) (hr.mono (by decide)) (fun _ _ _ _ _ _ _ hr hx => (me_call hx (ok_bond_plan G pf) G.f_bond_plan.mg G.f_bond_plan.fn.kp G.f_bond_plan.bd (hr.mono (by decide)) rfl (ma_cons (me_tup (ma_cons me_int (ma_cons me_int (ma_cons me_int ma_nil)))) ma_nil) (len_cons len_nil)))) ma_nil)))
    (ms_one (ms_ret (me_cmp (opD_eq (hu64 hr)) (by rfl) (mv 4) (me_lst (ma_cons me_str (ma_cons me_str (ma_cons me_str (ma_cons me_str ma_nil)))))))))))))
end
section
variable {K : PySem.W.Frag} {mg : Str → Option Value} {h : Heap} {fa : Addr}
abbrev s_x_BondError : Stmt := top2 2 0
theorem xb_BondError : XcB s_x_BondError "BondError.__init__" "self" "message" [] := ⟨⟨_, rfl, rfl⟩, ⟨_, _, _, _, _, _, rfl, fun _ _ _ _ => ⟨⟨_, rfl⟩, rfl, rfl⟩⟩, rfl, rfl, rfl, rfl, rfl, by decide +kernel, rfl, rfl, by decide, by decide, by decide, by decide, by decide, fun _ _ _ _ _ _ _ _ _ _ => rfl⟩
abbrev s_x_Unlaid : Stmt := top2 9 0
theorem xb_Unlaid : ∃ tail, XcB s_x_Unlaid "Unlaid.__init__" "self" "value" tail ∧ XcT s_x_Unlaid "Unlaid.__init__" "self" "value" "value" tail := ⟨_, ⟨⟨_, rfl, rfl⟩, ⟨_, _, _, _, _, _, rfl, fun _ _ _ _ => ⟨⟨_, rfl⟩, rfl, rfl⟩⟩, rfl, rfl, rfl, rfl, rfl, by decide +kernel, rfl, rfl, by decide, by decide, by decide, by decide, by decide, fun _ _ _ _ _ _ _ _ _ _ => rfl⟩, ⟨_, _, _, _, rfl, fun _ _ _ _ => rfl⟩⟩
theorem prF : PrF PySem.Challenge.rw_bondfloors_k29_errors_of_bonds.prog fileL := ⟨by first | rfl | decide +kernel, by first | rfl | decide +kernel⟩
set_option maxHeartbeats 0 in
theorem all_mk (w : World) (KX : K.In h) (G : h.Ns mainGlobals mg) (hmg : mg "law" = some (.ref fa))
  {gk_Plan : Addr} (aC_Plan : PySem.W.nsIn K mainGlobals "Plan" = some (some (.ref gk_Plan)))
  (m1_Plan : PySem.W.makesIn K gk_Plan = true)
  (m4_Plan : PySem.W.keepIn K (.ref gk_Plan) = true)
  (c1_Plan : PySem.W.plainGet K gk_Plan Str.empty = true)
  (c2_Plan : PySem.W.hasDictIn K gk_Plan = true)
  (c3_Plan : PySem.W.plainOver K gk_Plan = true)
  (c4_Plan : PySem.W.findIn K (.ref gk_Plan) "__setattr__" = some (some (.builtin "object.__setattr__")))
  (r1_Plan : PySem.W.readsIn K gk_Plan (.type "type") = true)
  (r2_Plan : PySem.W.specialIn K (.ref gk_Plan) "__getattribute__" = some (some (.builtin "type.__getattribute__")))
  (i1_Plan : PySem.W.findIn K (.ref gk_Plan) "__class__" = some (some (.builtin "object.__class__")))
  (i2_Plan : PySem.W.specialIn K (.builtin "object.__class__") "__get__" = some (some (.builtin "getset_descriptor.__get__")))
  (i3_Plan : PySem.W.takesIn K (.builtin "object.__class__") = some true)
  (i4_Plan : PySem.W.mroIn K gk_Plan (.type "object") = some true)
  (i5_Plan : PySem.W.kitOne K (.ref gk_Plan) (.ref gk_Plan) = some true)
  (i6_Plan : notc K gk_Plan = true)
  (i7_Plan : PySem.W.subIn K (.ref gk_Plan) (.type "NoneType") = some false)
  (i8_Plan : noty K gk_Plan = true)
  (n_own_blocks_Plan : PySem.W.findIn K (.ref gk_Plan) "own_blocks" = some none)
  (n_own_known_Plan : PySem.W.findIn K (.ref gk_Plan) "own_known" = some none)
  (n_own_size_Plan : PySem.W.findIn K (.ref gk_Plan) "own_size" = some none)
  {gk_InvalidSize : Addr}
  (aC_InvalidSize : PySem.W.nsIn K mainGlobals "InvalidSize" = some (some (.ref gk_InvalidSize)))
  {gk_InvalidPlan : Addr}
  (aC_InvalidPlan : PySem.W.nsIn K mainGlobals "InvalidPlan" = some (some (.ref gk_InvalidPlan)))
  {gk_Unlaid : Addr}
  (aC_Unlaid : PySem.W.nsIn K mainGlobals "Unlaid" = some (some (.ref gk_Unlaid)))
  {gk_InvalidLine : Addr}
  (aC_InvalidLine : PySem.W.nsIn K mainGlobals "InvalidLine" = some (some (.ref gk_InvalidLine)))
  {gk_InvalidOperation : Addr}
  (aC_InvalidOperation : PySem.W.nsIn K mainGlobals "InvalidOperation" = some (some (.ref gk_InvalidOperation)))
  {gk_InvalidNumber : Addr}
  (aC_InvalidNumber : PySem.W.nsIn K mainGlobals "InvalidNumber" = some (some (.ref gk_InvalidNumber)))
  {gk_TooMany : Addr}
  (aC_TooMany : PySem.W.nsIn K mainGlobals "TooMany" = some (some (.ref gk_TooMany)))
  (xany : PySem.W.nsIn K cStatics "thirdparty.any" = some none)
  (xsup : PySem.W.nsIn K mainGlobals "super" = some none)
  (xm_InvalidSize_InvalidSize : PySem.W.exmOne K (.ref gk_InvalidSize) (.ref gk_InvalidSize) = some true)
  (xm_InvalidSize_InvalidPlan : PySem.W.exmOne K (.ref gk_InvalidSize) (.ref gk_InvalidPlan) = some false)
  (xm_InvalidSize_Unlaid : PySem.W.exmOne K (.ref gk_InvalidSize) (.ref gk_Unlaid) = some false)
  (xm_InvalidSize_InvalidLine : PySem.W.exmOne K (.ref gk_InvalidSize) (.ref gk_InvalidLine) = some false)
  (xm_InvalidSize_InvalidOperation : PySem.W.exmOne K (.ref gk_InvalidSize) (.ref gk_InvalidOperation) = some false)
  (xm_InvalidSize_InvalidNumber : PySem.W.exmOne K (.ref gk_InvalidSize) (.ref gk_InvalidNumber) = some false)
  (xm_InvalidSize_TooMany : PySem.W.exmOne K (.ref gk_InvalidSize) (.ref gk_TooMany) = some false)
  (xm_InvalidPlan_InvalidSize : PySem.W.exmOne K (.ref gk_InvalidPlan) (.ref gk_InvalidSize) = some false)
  (xm_InvalidPlan_InvalidPlan : PySem.W.exmOne K (.ref gk_InvalidPlan) (.ref gk_InvalidPlan) = some true)
  (xm_InvalidPlan_Unlaid : PySem.W.exmOne K (.ref gk_InvalidPlan) (.ref gk_Unlaid) = some false)
  (xm_InvalidPlan_InvalidLine : PySem.W.exmOne K (.ref gk_InvalidPlan) (.ref gk_InvalidLine) = some false)
  (xm_InvalidPlan_InvalidOperation : PySem.W.exmOne K (.ref gk_InvalidPlan) (.ref gk_InvalidOperation) = some false)
  (xm_InvalidPlan_InvalidNumber : PySem.W.exmOne K (.ref gk_InvalidPlan) (.ref gk_InvalidNumber) = some false)
  (xm_InvalidPlan_TooMany : PySem.W.exmOne K (.ref gk_InvalidPlan) (.ref gk_TooMany) = some false)
  (xm_Unlaid_InvalidSize : PySem.W.exmOne K (.ref gk_Unlaid) (.ref gk_InvalidSize) = some false)
  (xm_Unlaid_InvalidPlan : PySem.W.exmOne K (.ref gk_Unlaid) (.ref gk_InvalidPlan) = some false)
  (xm_Unlaid_Unlaid : PySem.W.exmOne K (.ref gk_Unlaid) (.ref gk_Unlaid) = some true)
  (xm_Unlaid_InvalidLine : PySem.W.exmOne K (.ref gk_Unlaid) (.ref gk_InvalidLine) = some false)
  (xm_Unlaid_InvalidOperation : PySem.W.exmOne K (.ref gk_Unlaid) (.ref gk_InvalidOperation) = some false)
  (xm_Unlaid_InvalidNumber : PySem.W.exmOne K (.ref gk_Unlaid) (.ref gk_InvalidNumber) = some false)
  (xm_Unlaid_TooMany : PySem.W.exmOne K (.ref gk_Unlaid) (.ref gk_TooMany) = some false)
  (xm_InvalidLine_InvalidSize : PySem.W.exmOne K (.ref gk_InvalidLine) (.ref gk_InvalidSize) = some false)
  (xm_InvalidLine_InvalidPlan : PySem.W.exmOne K (.ref gk_InvalidLine) (.ref gk_InvalidPlan) = some false)
  (xm_InvalidLine_Unlaid : PySem.W.exmOne K (.ref gk_InvalidLine) (.ref gk_Unlaid) = some false)
  (xm_InvalidLine_InvalidLine : PySem.W.exmOne K (.ref gk_InvalidLine) (.ref gk_InvalidLine) = some true)
  (xm_InvalidLine_InvalidOperation : PySem.W.exmOne K (.ref gk_InvalidLine) (.ref gk_InvalidOperation) = some false)
  (xm_InvalidLine_InvalidNumber : PySem.W.exmOne K (.ref gk_InvalidLine) (.ref gk_InvalidNumber) = some false)
  (xm_InvalidLine_TooMany : PySem.W.exmOne K (.ref gk_InvalidLine) (.ref gk_TooMany) = some false)
  (xm_InvalidOperation_InvalidSize : PySem.W.exmOne K (.ref gk_InvalidOperation) (.ref gk_InvalidSize) = some false)
  (xm_InvalidOperation_InvalidPlan : PySem.W.exmOne K (.ref gk_InvalidOperation) (.ref gk_InvalidPlan) = some false)
  (xm_InvalidOperation_Unlaid : PySem.W.exmOne K (.ref gk_InvalidOperation) (.ref gk_Unlaid) = some false)
  (xm_InvalidOperation_InvalidLine : PySem.W.exmOne K (.ref gk_InvalidOperation) (.ref gk_InvalidLine) = some false)
  (xm_InvalidOperation_InvalidOperation : PySem.W.exmOne K (.ref gk_InvalidOperation) (.ref gk_InvalidOperation) = some true)
  (xm_InvalidOperation_InvalidNumber : PySem.W.exmOne K (.ref gk_InvalidOperation) (.ref gk_InvalidNumber) = some false)
  (xm_InvalidOperation_TooMany : PySem.W.exmOne K (.ref gk_InvalidOperation) (.ref gk_TooMany) = some false)
  (xm_InvalidNumber_InvalidSize : PySem.W.exmOne K (.ref gk_InvalidNumber) (.ref gk_InvalidSize) = some false)
  (xm_InvalidNumber_InvalidPlan : PySem.W.exmOne K (.ref gk_InvalidNumber) (.ref gk_InvalidPlan) = some false)
  (xm_InvalidNumber_Unlaid : PySem.W.exmOne K (.ref gk_InvalidNumber) (.ref gk_Unlaid) = some false)
  (xm_InvalidNumber_InvalidLine : PySem.W.exmOne K (.ref gk_InvalidNumber) (.ref gk_InvalidLine) = some false)
  (xm_InvalidNumber_InvalidOperation : PySem.W.exmOne K (.ref gk_InvalidNumber) (.ref gk_InvalidOperation) = some false)
  (xm_InvalidNumber_InvalidNumber : PySem.W.exmOne K (.ref gk_InvalidNumber) (.ref gk_InvalidNumber) = some true)
  (xm_InvalidNumber_TooMany : PySem.W.exmOne K (.ref gk_InvalidNumber) (.ref gk_TooMany) = some false)
  (xm_TooMany_InvalidSize : PySem.W.exmOne K (.ref gk_TooMany) (.ref gk_InvalidSize) = some false)
  (xm_TooMany_InvalidPlan : PySem.W.exmOne K (.ref gk_TooMany) (.ref gk_InvalidPlan) = some false)
  (xm_TooMany_Unlaid : PySem.W.exmOne K (.ref gk_TooMany) (.ref gk_Unlaid) = some false)
  (xm_TooMany_InvalidLine : PySem.W.exmOne K (.ref gk_TooMany) (.ref gk_InvalidLine) = some false)
  (xm_TooMany_InvalidOperation : PySem.W.exmOne K (.ref gk_TooMany) (.ref gk_InvalidOperation) = some false)
  (xm_TooMany_InvalidNumber : PySem.W.exmOne K (.ref gk_TooMany) (.ref gk_InvalidNumber) = some false)
  (xm_TooMany_TooMany : PySem.W.exmOne K (.ref gk_TooMany) (.ref gk_TooMany) = some true)
  {gk_BondError : Addr}
  (aC_BondError : PySem.W.nsIn K mainGlobals "BondError" = some (some (.ref gk_BondError)))
  {gi_BondError cda_BondError cc_BondError : Addr} {xo_BondError xk_BondError xd_BondError xp_BondError xt_BondError xc_BondError xl_BondError : Value} {xod_BondError xan_BondError xcd_BondError xld_BondError : Option Addr} {xsl_BondError xcs_BondError xls_BondError : Array (Option Value)} {xv_BondError : Array Value} {xtf_BondError : Tok} {xcl_BondError : ClassData}
  (ini_BondError_BondError : PySem.W.findIn K (.ref gk_BondError) "__init__" = some (some (.ref gi_BondError)))
  (lk_BondError : K.lookup gi_BondError = some ⟨xo_BondError, xod_BondError, .func (PySem.W.ksFn "__init__" "BondError.__init__" (defArgs s_x_BondError) (defBody s_x_BondError) (defScope s_x_BondError) .none xk_BondError xd_BondError xp_BondError xan_BondError (.ref cda_BondError) xt_BondError cc_BondError), xsl_BondError⟩)
  (cd_BondError : PySem.W.codeIn K (.ref cda_BondError) "BondError.__init__" = true)
  (co_BondError : K.lookup cda_BondError = some ⟨xc_BondError, xcd_BondError, .fields xv_BondError, xcs_BondError⟩)
  (cv_BondError : xv_BondError[2]? = some (.str fileL xtf_BondError))
  (ce_BondError : K.lookup cc_BondError = some ⟨xl_BondError, xld_BondError, .cell (some (.ref gk_BondError)), xls_BondError⟩)
  (cs_BondError : PySem.W.clsIn K gk_BondError = some xcl_BondError)
  (isf_BondError : PySem.W.isFn K (.ref gi_BondError) = true)
  (ini_InvalidSize_BondError : PySem.W.findIn K (.ref gk_InvalidSize) "__init__" = some (some (.ref gi_BondError)))
  (q_InvalidSize : PySem.W.excInitIn K gk_InvalidSize (tyV ["ValueError", "Exception", "BaseException", "object"]) "ValueError.__new__" = true)
  (ov_InvalidSize : PySem.W.excOver K gk_InvalidSize (tyV ["ValueError", "Exception", "BaseException", "object"]) = true)
  (hd_InvalidSize : PySem.W.hasDictIn K gk_InvalidSize = true)
  (sa_InvalidSize : PySem.W.findIn K (.ref gk_InvalidSize) "__setattr__" = some (some (.builtin "object.__setattr__")))
  (su_InvalidSize : PySem.W.ks_superIn K gk_InvalidSize gk_BondError "__init__" = some (some (.builtin "ValueError.__init__")))
  (sb_InvalidSize : PySem.W.subIn K (.ref gk_InvalidSize) (.type "ValueError") = some true)
  (mr_InvalidSize : PySem.W.mroIn K gk_InvalidSize (.ref gk_BondError) = some true)
  (xbe_InvalidSize : PySem.W.subIn K (.ref gk_InvalidSize) (.type "BaseException") = some true)
  (ty_InvalidSize : PySem.W.typeIn K (.ref gk_InvalidSize) = some (.type "type"))
  (kc_InvalidSize : PySem.W.keepIn K (.ref gk_InvalidSize) = true)
  (ini_InvalidPlan_BondError : PySem.W.findIn K (.ref gk_InvalidPlan) "__init__" = some (some (.ref gi_BondError)))
  (q_InvalidPlan : PySem.W.excInitIn K gk_InvalidPlan (tyV ["ValueError", "Exception", "BaseException", "object"]) "ValueError.__new__" = true)
  (ov_InvalidPlan : PySem.W.excOver K gk_InvalidPlan (tyV ["ValueError", "Exception", "BaseException", "object"]) = true)
  (hd_InvalidPlan : PySem.W.hasDictIn K gk_InvalidPlan = true)
  (sa_InvalidPlan : PySem.W.findIn K (.ref gk_InvalidPlan) "__setattr__" = some (some (.builtin "object.__setattr__")))
  (su_InvalidPlan : PySem.W.ks_superIn K gk_InvalidPlan gk_BondError "__init__" = some (some (.builtin "ValueError.__init__")))
  (sb_InvalidPlan : PySem.W.subIn K (.ref gk_InvalidPlan) (.type "ValueError") = some true)
  (mr_InvalidPlan : PySem.W.mroIn K gk_InvalidPlan (.ref gk_BondError) = some true)
  (xbe_InvalidPlan : PySem.W.subIn K (.ref gk_InvalidPlan) (.type "BaseException") = some true)
  (ty_InvalidPlan : PySem.W.typeIn K (.ref gk_InvalidPlan) = some (.type "type"))
  (kc_InvalidPlan : PySem.W.keepIn K (.ref gk_InvalidPlan) = true)
  {gi_Unlaid cda_Unlaid cc_Unlaid : Addr} {xo_Unlaid xk_Unlaid xd_Unlaid xp_Unlaid xt_Unlaid xc_Unlaid xl_Unlaid : Value} {xod_Unlaid xan_Unlaid xcd_Unlaid xld_Unlaid : Option Addr} {xsl_Unlaid xcs_Unlaid xls_Unlaid : Array (Option Value)} {xv_Unlaid : Array Value} {xtf_Unlaid : Tok} {xcl_Unlaid : ClassData}
  (ini_Unlaid_Unlaid : PySem.W.findIn K (.ref gk_Unlaid) "__init__" = some (some (.ref gi_Unlaid)))
  (lk_Unlaid : K.lookup gi_Unlaid = some ⟨xo_Unlaid, xod_Unlaid, .func (PySem.W.ksFn "__init__" "Unlaid.__init__" (defArgs s_x_Unlaid) (defBody s_x_Unlaid) (defScope s_x_Unlaid) .none xk_Unlaid xd_Unlaid xp_Unlaid xan_Unlaid (.ref cda_Unlaid) xt_Unlaid cc_Unlaid), xsl_Unlaid⟩)
  (cd_Unlaid : PySem.W.codeIn K (.ref cda_Unlaid) "Unlaid.__init__" = true)
  (co_Unlaid : K.lookup cda_Unlaid = some ⟨xc_Unlaid, xcd_Unlaid, .fields xv_Unlaid, xcs_Unlaid⟩)
  (cv_Unlaid : xv_Unlaid[2]? = some (.str fileL xtf_Unlaid))
  (ce_Unlaid : K.lookup cc_Unlaid = some ⟨xl_Unlaid, xld_Unlaid, .cell (some (.ref gk_Unlaid)), xls_Unlaid⟩)
  (cs_Unlaid : PySem.W.clsIn K gk_Unlaid = some xcl_Unlaid)
  (isf_Unlaid : PySem.W.isFn K (.ref gi_Unlaid) = true)
  (q_Unlaid : PySem.W.excInitIn K gk_Unlaid (tyV ["LookupError", "Exception", "BaseException", "object"]) "LookupError.__new__" = true)
  (ov_Unlaid : PySem.W.excOver K gk_Unlaid (tyV ["LookupError", "Exception", "BaseException", "object"]) = true)
  (hd_Unlaid : PySem.W.hasDictIn K gk_Unlaid = true)
  (sa_Unlaid : PySem.W.findIn K (.ref gk_Unlaid) "__setattr__" = some (some (.builtin "object.__setattr__")))
  (su_Unlaid : PySem.W.ks_superIn K gk_Unlaid gk_Unlaid "__init__" = some (some (.builtin "LookupError.__init__")))
  (sb_Unlaid : PySem.W.subIn K (.ref gk_Unlaid) (.type "LookupError") = some true)
  (mr_Unlaid : PySem.W.mroIn K gk_Unlaid (.ref gk_Unlaid) = some true)
  (xbe_Unlaid : PySem.W.subIn K (.ref gk_Unlaid) (.type "BaseException") = some true)
  (ty_Unlaid : PySem.W.typeIn K (.ref gk_Unlaid) = some (.type "type"))
  (kc_Unlaid : PySem.W.keepIn K (.ref gk_Unlaid) = true)
  (tk_Unlaid : PySem.W.takerIn K gk_Unlaid "value" = some none)
  (xga_InvalidNumber : PySem.W.findIn K (.ref gk_InvalidNumber) "__getattribute__" = some (some (.builtin "BaseException.__getattribute__")))
  (xgg_InvalidNumber : PySem.W.findIn K (.ref gk_InvalidNumber) "__getattr__" = some none)
  (xex_InvalidNumber : PySem.W.subIn K (.ref gk_InvalidNumber) (.type "BaseException") = some true)
  (xhd_InvalidNumber : PySem.W.hasDictIn K gk_InvalidNumber = true)
  (xno_InvalidNumber_value : PySem.W.findIn K (.ref gk_InvalidNumber) "value" = some none)
  (xga_Unlaid : PySem.W.findIn K (.ref gk_Unlaid) "__getattribute__" = some (some (.builtin "BaseException.__getattribute__")))
  (xgg_Unlaid : PySem.W.findIn K (.ref gk_Unlaid) "__getattr__" = some none)
  (xex_Unlaid : PySem.W.subIn K (.ref gk_Unlaid) (.type "BaseException") = some true)
  (xhd_Unlaid : PySem.W.hasDictIn K gk_Unlaid = true)
  (xno_Unlaid_value : PySem.W.findIn K (.ref gk_Unlaid) "value" = some none)
  (xga_TooMany : PySem.W.findIn K (.ref gk_TooMany) "__getattribute__" = some (some (.builtin "BaseException.__getattribute__")))
  (xgg_TooMany : PySem.W.findIn K (.ref gk_TooMany) "__getattr__" = some none)
  (xex_TooMany : PySem.W.subIn K (.ref gk_TooMany) (.type "BaseException") = some true)
  (xhd_TooMany : PySem.W.hasDictIn K gk_TooMany = true)
  (xno_TooMany_limit : PySem.W.findIn K (.ref gk_TooMany) "limit" = some none)
  {oc__law_met kV__law_met dc__law_met pm__law_met cd__law_met ct__law_met : Value} {od__law_met an__law_met : Option Addr} {sl__law_met : Array (Option Value)} {gt__law_met : Addr}
  (at__law_met : PySem.W.nsIn K mainGlobals "_law_met" = some (some (.ref gt__law_met)))
  (lt__law_met : K.lookup gt__law_met = some ⟨oc__law_met, od__law_met, .func (PySem.W.fnOf "_law_met" "_law_met" (defArgs s__law_met) (defBody s__law_met) (defScope s__law_met) .none kV__law_met dc__law_met pm__law_met an__law_met cd__law_met ct__law_met), sl__law_met⟩)
  (ct1__law_met : PySem.W.codeIn K cd__law_met "_law_met" = true)
  (kt__law_met : PySem.W.keepIn K (.ref gt__law_met) = true)
  {oc0 kV0 dc0 pm0 cd0 ct0 : Value} {od0 an0 : Option Addr} {sl0 : Array (Option Value)} {g0 : Addr}
  (a0 : PySem.W.nsIn K mainGlobals "is_integer" = some (some (.ref g0))) (l0 : K.lookup g0 = some ⟨oc0, od0, .func (PySem.W.fnOf "is_integer" "is_integer" (defArgs s_is_integer) (defBody s_is_integer) (defScope s_is_integer) .none kV0 dc0 pm0 an0 cd0 ct0), sl0⟩) (c0 : PySem.W.codeIn K cd0 "is_integer" = true) (k0 : PySem.W.keepIn K (.ref g0) = true)
  {oc1 kV1 dc1 pm1 cd1 ct1 : Value} {od1 an1 : Option Addr} {sl1 : Array (Option Value)} {g1 : Addr}
  (a1 : PySem.W.nsIn K mainGlobals "is_from" = some (some (.ref g1))) (l1 : K.lookup g1 = some ⟨oc1, od1, .func (PySem.W.fnOf "is_from" "is_from" (defArgs s_is_from) (defBody s_is_from) (defScope s_is_from) .none kV1 dc1 pm1 an1 cd1 ct1), sl1⟩) (c1 : PySem.W.codeIn K cd1 "is_from" = true) (k1 : PySem.W.keepIn K (.ref g1) = true)
  {oc2 kV2 dc2 pm2 cd2 ct2 : Value} {od2 an2 : Option Addr} {sl2 : Array (Option Value)} {g2 : Addr}
  (a2 : PySem.W.nsIn K mainGlobals "is_row" = some (some (.ref g2))) (l2 : K.lookup g2 = some ⟨oc2, od2, .func (PySem.W.fnOf "is_row" "is_row" (defArgs s_is_row) (defBody s_is_row) (defScope s_is_row) .none kV2 dc2 pm2 an2 cd2 ct2), sl2⟩) (c2 : PySem.W.codeIn K cd2 "is_row" = true) (k2 : PySem.W.keepIn K (.ref g2) = true)
  {oc3 kV3 dc3 pm3 cd3 ct3 : Value} {od3 an3 : Option Addr} {sl3 : Array (Option Value)} {g3 : Addr}
  (a3 : PySem.W.nsIn K mainGlobals "is_word_of" = some (some (.ref g3))) (l3 : K.lookup g3 = some ⟨oc3, od3, .func (PySem.W.fnOf "is_word_of" "is_word_of" (defArgs s_is_word_of) (defBody s_is_word_of) (defScope s_is_word_of) .none kV3 dc3 pm3 an3 cd3 ct3), sl3⟩) (c3 : PySem.W.codeIn K cd3 "is_word_of" = true) (k3 : PySem.W.keepIn K (.ref g3) = true)
  {oc4 kV4 dc4 pm4 cd4 ct4 : Value} {od4 an4 : Option Addr} {sl4 : Array (Option Value)} {g4 : Addr}
  (a4 : PySem.W.nsIn K mainGlobals "is_size" = some (some (.ref g4))) (l4 : K.lookup g4 = some ⟨oc4, od4, .func (PySem.W.fnOf "is_size" "is_size" (defArgs s_is_size) (defBody s_is_size) (defScope s_is_size) .none kV4 dc4 pm4 an4 cd4 ct4), sl4⟩) (c4 : PySem.W.codeIn K cd4 "is_size" = true) (k4 : PySem.W.keepIn K (.ref g4) = true)
  {oc5 kV5 dc5 pm5 cd5 ct5 : Value} {od5 an5 : Option Addr} {sl5 : Array (Option Value)} {g5 : Addr}
  (a5 : PySem.W.nsIn K mainGlobals "require_size" = some (some (.ref g5))) (l5 : K.lookup g5 = some ⟨oc5, od5, .func (PySem.W.fnOf "require_size" "require_size" (defArgs s_require_size) (defBody s_require_size) (defScope s_require_size) .none kV5 dc5 pm5 an5 cd5 ct5), sl5⟩) (c5 : PySem.W.codeIn K cd5 "require_size" = true) (k5 : PySem.W.keepIn K (.ref g5) = true)
  {oc6 kV6 dc6 pm6 cd6 ct6 : Value} {od6 an6 : Option Addr} {sl6 : Array (Option Value)} {g6 : Addr}
  (a6 : PySem.W.nsIn K mainGlobals "is_laid" = some (some (.ref g6))) (l6 : K.lookup g6 = some ⟨oc6, od6, .func (PySem.W.fnOf "is_laid" "is_laid" (defArgs s_is_laid) (defBody s_is_laid) (defScope s_is_laid) .none kV6 dc6 pm6 an6 cd6 ct6), sl6⟩) (c6 : PySem.W.codeIn K cd6 "is_laid" = true) (k6 : PySem.W.keepIn K (.ref g6) = true)
  {oc7 kV7 dc7 pm7 cd7 ct7 : Value} {od7 an7 : Option Addr} {sl7 : Array (Option Value)} {g7 : Addr}
  (a7 : PySem.W.nsIn K mainGlobals "exchanged_size" = some (some (.ref g7))) (l7 : K.lookup g7 = some ⟨oc7, od7, .func (PySem.W.fnOf "exchanged_size" "exchanged_size" (defArgs s_exchanged_size) (defBody s_exchanged_size) (defScope s_exchanged_size) .none kV7 dc7 pm7 an7 cd7 ct7), sl7⟩) (c7 : PySem.W.codeIn K cd7 "exchanged_size" = true) (k7 : PySem.W.keepIn K (.ref g7) = true)
  {oc8 kV8 dc8 pm8 cd8 ct8 : Value} {od8 an8 : Option Addr} {sl8 : Array (Option Value)} {g8 : Addr}
  (a8 : PySem.W.nsIn K mainGlobals "other_way" = some (some (.ref g8))) (l8 : K.lookup g8 = some ⟨oc8, od8, .func (PySem.W.fnOf "other_way" "other_way" (defArgs s_other_way) (defBody s_other_way) (defScope s_other_way) .none kV8 dc8 pm8 an8 cd8 ct8), sl8⟩) (c8 : PySem.W.codeIn K cd8 "other_way" = true) (k8 : PySem.W.keepIn K (.ref g8) = true)
  {oc9 kV9 dc9 pm9 cd9 ct9 : Value} {od9 an9 : Option Addr} {sl9 : Array (Option Value)} {g9 : Addr}
  (a9 : PySem.W.nsIn K mainGlobals "remainder_in" = some (some (.ref g9))) (l9 : K.lookup g9 = some ⟨oc9, od9, .func (PySem.W.fnOf "remainder_in" "remainder_in" (defArgs s_remainder_in) (defBody s_remainder_in) (defScope s_remainder_in) .none kV9 dc9 pm9 an9 cd9 ct9), sl9⟩) (c9 : PySem.W.codeIn K cd9 "remainder_in" = true) (k9 : PySem.W.keepIn K (.ref g9) = true)
  {oc10 kV10 dc10 pm10 cd10 ct10 : Value} {od10 an10 : Option Addr} {sl10 : Array (Option Value)} {g10 : Addr}
  (a10 : PySem.W.nsIn K mainGlobals "need_in" = some (some (.ref g10))) (l10 : K.lookup g10 = some ⟨oc10, od10, .func (PySem.W.fnOf "need_in" "need_in" (defArgs s_need_in) (defBody s_need_in) (defScope s_need_in) .none kV10 dc10 pm10 an10 cd10 ct10), sl10⟩) (c10 : PySem.W.codeIn K cd10 "need_in" = true) (k10 : PySem.W.keepIn K (.ref g10) = true)
  {oc11 kV11 dc11 pm11 cd11 ct11 : Value} {od11 an11 : Option Addr} {sl11 : Array (Option Value)} {g11 : Addr}
  (a11 : PySem.W.nsIn K mainGlobals "is_block" = some (some (.ref g11))) (l11 : K.lookup g11 = some ⟨oc11, od11, .func (PySem.W.fnOf "is_block" "is_block" (defArgs s_is_block) (defBody s_is_block) (defScope s_is_block) .none kV11 dc11 pm11 an11 cd11 ct11), sl11⟩) (c11 : PySem.W.codeIn K cd11 "is_block" = true) (k11 : PySem.W.keepIn K (.ref g11) = true)
  {oc12 kV12 dc12 pm12 cd12 ct12 : Value} {od12 an12 : Option Addr} {sl12 : Array (Option Value)} {g12 : Addr}
  (a12 : PySem.W.nsIn K mainGlobals "are_apart" = some (some (.ref g12))) (l12 : K.lookup g12 = some ⟨oc12, od12, .func (PySem.W.fnOf "are_apart" "are_apart" (defArgs s_are_apart) (defBody s_are_apart) (defScope s_are_apart) .none kV12 dc12 pm12 an12 cd12 ct12), sl12⟩) (c12 : PySem.W.codeIn K cd12 "are_apart" = true) (k12 : PySem.W.keepIn K (.ref g12) = true)
  {oc13 kV13 dc13 pm13 cd13 ct13 : Value} {od13 an13 : Option Addr} {sl13 : Array (Option Value)} {g13 : Addr}
  (a13 : PySem.W.nsIn K mainGlobals "are_blocks" = some (some (.ref g13))) (l13 : K.lookup g13 = some ⟨oc13, od13, .func (PySem.W.fnOf "are_blocks" "are_blocks" (defArgs s_are_blocks) (defBody s_are_blocks) (defScope s_are_blocks) .none kV13 dc13 pm13 an13 cd13 ct13), sl13⟩) (c13 : PySem.W.codeIn K cd13 "are_blocks" = true) (k13 : PySem.W.keepIn K (.ref g13) = true)
  {oc14 kV14 dc14 pm14 cd14 ct14 : Value} {od14 an14 : Option Addr} {sl14 : Array (Option Value)} {g14 : Addr}
  (a14 : PySem.W.nsIn K mainGlobals "exchanged_block" = some (some (.ref g14))) (l14 : K.lookup g14 = some ⟨oc14, od14, .func (PySem.W.fnOf "exchanged_block" "exchanged_block" (defArgs s_exchanged_block) (defBody s_exchanged_block) (defScope s_exchanged_block) .none kV14 dc14 pm14 an14 cd14 ct14), sl14⟩) (c14 : PySem.W.codeIn K cd14 "exchanged_block" = true) (k14 : PySem.W.keepIn K (.ref g14) = true)
  {oc15 kV15 dc15 pm15 cd15 ct15 : Value} {od15 an15 : Option Addr} {sl15 : Array (Option Value)} {g15 : Addr}
  (a15 : PySem.W.findIn K (.ref gk_Plan) "__init__" = some (some (.ref g15)))
  (l15 : K.lookup g15 = some ⟨oc15, od15, .func (PySem.W.fnOf "__init__" "Plan.__init__" (defArgs s_Plan_init) (defBody s_Plan_init) (defScope s_Plan_init) .none kV15 dc15 pm15 an15 cd15 ct15), sl15⟩) (c15 : PySem.W.codeIn K cd15 "Plan.__init__" = true) (k15 : PySem.W.keepIn K (.ref g15) = true)
  {oc16 kV16 dc16 pm16 cd16 ct16 : Value} {od16 an16 : Option Addr} {sl16 : Array (Option Value)} {g16 : Addr}
  {gp16 : Addr} {rest16 : List Value} (a16 : PySem.W.findCls K (.ref gk_Plan) (.type "type") "of" = some (.get (.builtin "classmethod.__get__") (.ref gp16) .none (.ref gk_Plan))) (q16 : PySem.W.recIn K gp16 "classmethod" = some (.ref g16 :: rest16)) (y16 : PySem.W.fnIn K g16 = true)
  (l16 : K.lookup g16 = some ⟨oc16, od16, .func (PySem.W.fnOf "of" "Plan.of" (defArgs s_Plan_of) (defBody s_Plan_of) (defScope s_Plan_of) .none kV16 dc16 pm16 an16 cd16 ct16), sl16⟩) (c16 : PySem.W.codeIn K cd16 "Plan.of" = true) (k16 : PySem.W.keepIn K (.ref g16) = true)
  {oc17 kV17 dc17 pm17 cd17 ct17 : Value} {od17 an17 : Option Addr} {sl17 : Array (Option Value)} {g17 : Addr}
  (a17 : PySem.W.findIn K (.ref gk_Plan) "exchanged" = some (some (.ref g17))) (y17 : PySem.W.isFn K (.ref g17) = true)
  (l17 : K.lookup g17 = some ⟨oc17, od17, .func (PySem.W.fnOf "exchanged" "Plan.exchanged" (defArgs s_Plan_exchanged) (defBody s_Plan_exchanged) (defScope s_Plan_exchanged) .none kV17 dc17 pm17 an17 cd17 ct17), sl17⟩) (c17 : PySem.W.codeIn K cd17 "Plan.exchanged" = true) (k17 : PySem.W.keepIn K (.ref g17) = true)
  {oc18 kV18 dc18 pm18 cd18 ct18 : Value} {od18 an18 : Option Addr} {sl18 : Array (Option Value)} {g18 : Addr}
  (a18 : PySem.W.nsIn K mainGlobals "corner_weight" = some (some (.ref g18))) (l18 : K.lookup g18 = some ⟨oc18, od18, .func (PySem.W.fnOf "corner_weight" "corner_weight" (defArgs s_corner_weight) (defBody s_corner_weight) (defScope s_corner_weight) .none kV18 dc18 pm18 an18 cd18 ct18), sl18⟩) (c18 : PySem.W.codeIn K cd18 "corner_weight" = true) (k18 : PySem.W.keepIn K (.ref g18) = true)
  {oc19 kV19 dc19 pm19 cd19 ct19 : Value} {od19 an19 : Option Addr} {sl19 : Array (Option Value)} {g19 : Addr}
  (a19 : PySem.W.nsIn K mainGlobals "weight_in" = some (some (.ref g19))) (l19 : K.lookup g19 = some ⟨oc19, od19, .func (PySem.W.fnOf "weight_in" "weight_in" (defArgs s_weight_in) (defBody s_weight_in) (defScope s_weight_in) .none kV19 dc19 pm19 an19 cd19 ct19), sl19⟩) (c19 : PySem.W.codeIn K cd19 "weight_in" = true) (k19 : PySem.W.keepIn K (.ref g19) = true)
  {oc20 kV20 dc20 pm20 cd20 ct20 : Value} {od20 an20 : Option Addr} {sl20 : Array (Option Value)} {g20 : Addr}
  (a20 : PySem.W.nsIn K mainGlobals "is_one_bar" = some (some (.ref g20))) (l20 : K.lookup g20 = some ⟨oc20, od20, .func (PySem.W.fnOf "is_one_bar" "is_one_bar" (defArgs s_is_one_bar) (defBody s_is_one_bar) (defScope s_is_one_bar) .none kV20 dc20 pm20 an20 cd20 ct20), sl20⟩) (c20 : PySem.W.codeIn K cd20 "is_one_bar" = true) (k20 : PySem.W.keepIn K (.ref g20) = true)
  {oc21 kV21 dc21 pm21 cd21 ct21 : Value} {od21 an21 : Option Addr} {sl21 : Array (Option Value)} {g21 : Addr}
  (a21 : PySem.W.nsIn K mainGlobals "is_narrow" = some (some (.ref g21))) (l21 : K.lookup g21 = some ⟨oc21, od21, .func (PySem.W.fnOf "is_narrow" "is_narrow" (defArgs s_is_narrow) (defBody s_is_narrow) (defScope s_is_narrow) .none kV21 dc21 pm21 an21 cd21 ct21), sl21⟩) (c21 : PySem.W.codeIn K cd21 "is_narrow" = true) (k21 : PySem.W.keepIn K (.ref g21) = true)
  {oc22 kV22 dc22 pm22 cd22 ct22 : Value} {od22 an22 : Option Addr} {sl22 : Array (Option Value)} {g22 : Addr}
  (a22 : PySem.W.nsIn K mainGlobals "has_bond_in" = some (some (.ref g22))) (l22 : K.lookup g22 = some ⟨oc22, od22, .func (PySem.W.fnOf "has_bond_in" "has_bond_in" (defArgs s_has_bond_in) (defBody s_has_bond_in) (defScope s_has_bond_in) .none kV22 dc22 pm22 an22 cd22 ct22), sl22⟩) (c22 : PySem.W.codeIn K cd22 "has_bond_in" = true) (k22 : PySem.W.keepIn K (.ref g22) = true)
  {oc23 kV23 dc23 pm23 cd23 ct23 : Value} {od23 an23 : Option Addr} {sl23 : Array (Option Value)} {g23 : Addr}
  (a23 : PySem.W.nsIn K mainGlobals "needs_of" = some (some (.ref g23))) (l23 : K.lookup g23 = some ⟨oc23, od23, .func (PySem.W.fnOf "needs_of" "needs_of" (defArgs s_needs_of) (defBody s_needs_of) (defScope s_needs_of) .none kV23 dc23 pm23 an23 cd23 ct23), sl23⟩) (c23 : PySem.W.codeIn K cd23 "needs_of" = true) (k23 : PySem.W.keepIn K (.ref g23) = true)
  {oc24 kV24 dc24 pm24 cd24 ct24 : Value} {od24 an24 : Option Addr} {sl24 : Array (Option Value)} {g24 : Addr}
  (a24 : PySem.W.nsIn K mainGlobals "total_need_in" = some (some (.ref g24))) (l24 : K.lookup g24 = some ⟨oc24, od24, .func (PySem.W.fnOf "total_need_in" "total_need_in" (defArgs s_total_need_in) (defBody s_total_need_in) (defScope s_total_need_in) .none kV24 dc24 pm24 an24 cd24 ct24), sl24⟩) (c24 : PySem.W.codeIn K cd24 "total_need_in" = true) (k24 : PySem.W.keepIn K (.ref g24) = true)
  {oc25 kV25 dc25 pm25 cd25 ct25 : Value} {od25 an25 : Option Addr} {sl25 : Array (Option Value)} {g25 : Addr}
  (a25 : PySem.W.nsIn K mainGlobals "total_crossings_in" = some (some (.ref g25))) (l25 : K.lookup g25 = some ⟨oc25, od25, .func (PySem.W.fnOf "total_crossings_in" "total_crossings_in" (defArgs s_total_crossings_in) (defBody s_total_crossings_in) (defScope s_total_crossings_in) .none kV25 dc25 pm25 an25 cd25 ct25), sl25⟩) (c25 : PySem.W.codeIn K cd25 "total_crossings_in" = true) (k25 : PySem.W.keepIn K (.ref g25) = true)
  {oc26 kV26 dc26 pm26 cd26 ct26 : Value} {od26 an26 : Option Addr} {sl26 : Array (Option Value)} {g26 : Addr}
  (a26 : PySem.W.nsIn K mainGlobals "reason_in" = some (some (.ref g26))) (l26 : K.lookup g26 = some ⟨oc26, od26, .func (PySem.W.fnOf "reason_in" "reason_in" (defArgs s_reason_in) (defBody s_reason_in) (defScope s_reason_in) .none kV26 dc26 pm26 an26 cd26 ct26), sl26⟩) (c26 : PySem.W.codeIn K cd26 "reason_in" = true) (k26 : PySem.W.keepIn K (.ref g26) = true)
  {oc27 kV27 dc27 pm27 cd27 ct27 : Value} {od27 an27 : Option Addr} {sl27 : Array (Option Value)} {g27 : Addr}
  (a27 : PySem.W.nsIn K mainGlobals "is_plain_reason" = some (some (.ref g27))) (l27 : K.lookup g27 = some ⟨oc27, od27, .func (PySem.W.fnOf "is_plain_reason" "is_plain_reason" (defArgs s_is_plain_reason) (defBody s_is_plain_reason) (defScope s_is_plain_reason) .none kV27 dc27 pm27 an27 cd27 ct27), sl27⟩) (c27 : PySem.W.codeIn K cd27 "is_plain_reason" = true) (k27 : PySem.W.keepIn K (.ref g27) = true)
  {oc28 kV28 dc28 pm28 cd28 ct28 : Value} {od28 an28 : Option Addr} {sl28 : Array (Option Value)} {g28 : Addr}
  (a28 : PySem.W.nsIn K mainGlobals "stack_of" = some (some (.ref g28))) (l28 : K.lookup g28 = some ⟨oc28, od28, .func (PySem.W.fnOf "stack_of" "stack_of" (defArgs s_stack_of) (defBody s_stack_of) (defScope s_stack_of) .none kV28 dc28 pm28 an28 cd28 ct28), sl28⟩) (c28 : PySem.W.codeIn K cd28 "stack_of" = true) (k28 : PySem.W.keepIn K (.ref g28) = true)
  {oc29 kV29 dc29 pm29 cd29 ct29 : Value} {od29 an29 : Option Addr} {sl29 : Array (Option Value)} {g29 : Addr}
  (a29 : PySem.W.nsIn K mainGlobals "band_of" = some (some (.ref g29))) (l29 : K.lookup g29 = some ⟨oc29, od29, .func (PySem.W.fnOf "band_of" "band_of" (defArgs s_band_of) (defBody s_band_of) (defScope s_band_of) .none kV29 dc29 pm29 an29 cd29 ct29), sl29⟩) (c29 : PySem.W.codeIn K cd29 "band_of" = true) (k29 : PySem.W.keepIn K (.ref g29) = true)
  {oc30 kV30 dc30 pm30 cd30 ct30 : Value} {od30 an30 : Option Addr} {sl30 : Array (Option Value)} {g30 : Addr}
  (a30 : PySem.W.nsIn K mainGlobals "stacks_of" = some (some (.ref g30))) (l30 : K.lookup g30 = some ⟨oc30, od30, .func (PySem.W.fnOf "stacks_of" "stacks_of" (defArgs s_stacks_of) (defBody s_stacks_of) (defScope s_stacks_of) .none kV30 dc30 pm30 an30 cd30 ct30), sl30⟩) (c30 : PySem.W.codeIn K cd30 "stacks_of" = true) (k30 : PySem.W.keepIn K (.ref g30) = true)
  {oc31 kV31 dc31 pm31 cd31 ct31 : Value} {od31 an31 : Option Addr} {sl31 : Array (Option Value)} {g31 : Addr}
  (a31 : PySem.W.nsIn K mainGlobals "is_straight" = some (some (.ref g31))) (l31 : K.lookup g31 = some ⟨oc31, od31, .func (PySem.W.fnOf "is_straight" "is_straight" (defArgs s_is_straight) (defBody s_is_straight) (defScope s_is_straight) .none kV31 dc31 pm31 an31 cd31 ct31), sl31⟩) (c31 : PySem.W.codeIn K cd31 "is_straight" = true) (k31 : PySem.W.keepIn K (.ref g31) = true)
  {oc32 kV32 dc32 pm32 cd32 ct32 : Value} {od32 an32 : Option Addr} {sl32 : Array (Option Value)} {g32 : Addr}
  (a32 : PySem.W.nsIn K mainGlobals "wide_plan" = some (some (.ref g32))) (l32 : K.lookup g32 = some ⟨oc32, od32, .func (PySem.W.fnOf "wide_plan" "wide_plan" (defArgs s_wide_plan) (defBody s_wide_plan) (defScope s_wide_plan) .none kV32 dc32 pm32 an32 cd32 ct32), sl32⟩) (c32 : PySem.W.codeIn K cd32 "wide_plan" = true) (k32 : PySem.W.keepIn K (.ref g32) = true)
  {oc33 kV33 dc33 pm33 cd33 ct33 : Value} {od33 an33 : Option Addr} {sl33 : Array (Option Value)} {g33 : Addr}
  (a33 : PySem.W.nsIn K mainGlobals "plan_of" = some (some (.ref g33))) (l33 : K.lookup g33 = some ⟨oc33, od33, .func (PySem.W.fnOf "plan_of" "plan_of" (defArgs s_plan_of) (defBody s_plan_of) (defScope s_plan_of) .none kV33 dc33 pm33 an33 cd33 ct33), sl33⟩) (c33 : PySem.W.codeIn K cd33 "plan_of" = true) (k33 : PySem.W.keepIn K (.ref g33) = true)
  {oc34 kV34 dc34 pm34 cd34 ct34 : Value} {od34 an34 : Option Addr} {sl34 : Array (Option Value)} {g34 : Addr}
  (a34 : PySem.W.nsIn K mainGlobals "bond_plan" = some (some (.ref g34))) (l34 : K.lookup g34 = some ⟨oc34, od34, .func (PySem.W.fnOf "bond_plan" "bond_plan" (defArgs s_bond_plan) (defBody s_bond_plan) (defScope s_bond_plan) .none kV34 dc34 pm34 an34 cd34 ct34), sl34⟩) (c34 : PySem.W.codeIn K cd34 "bond_plan" = true) (k34 : PySem.W.keepIn K (.ref g34) = true)
  {oc35 kV35 dc35 pm35 cd35 ct35 : Value} {od35 an35 : Option Addr} {sl35 : Array (Option Value)} {g35 : Addr}
  (a35 : PySem.W.nsIn K mainGlobals "bond_paper" = some (some (.ref g35))) (l35 : K.lookup g35 = some ⟨oc35, od35, .func (PySem.W.fnOf "bond_paper" "bond_paper" (defArgs s_bond_paper) (defBody s_bond_paper) (defScope s_bond_paper) .none kV35 dc35 pm35 an35 cd35 ct35), sl35⟩) (c35 : PySem.W.codeIn K cd35 "bond_paper" = true) (k35 : PySem.W.keepIn K (.ref g35) = true)
  {oc36 kV36 dc36 pm36 cd36 ct36 : Value} {od36 an36 : Option Addr} {sl36 : Array (Option Value)} {g36 : Addr}
  (a36 : PySem.W.nsIn K mainGlobals "is_bond_paper" = some (some (.ref g36))) (l36 : K.lookup g36 = some ⟨oc36, od36, .func (PySem.W.fnOf "is_bond_paper" "is_bond_paper" (defArgs s_is_bond_paper) (defBody s_is_bond_paper) (defScope s_is_bond_paper) .none kV36 dc36 pm36 an36 cd36 ct36), sl36⟩) (c36 : PySem.W.codeIn K cd36 "is_bond_paper" = true) (k36 : PySem.W.keepIn K (.ref g36) = true)
  {oc37 kV37 dc37 pm37 cd37 ct37 : Value} {od37 an37 : Option Addr} {sl37 : Array (Option Value)} {g37 : Addr}
  (a37 : PySem.W.nsIn K mainGlobals "_law_urn" = some (some (.ref g37))) (l37 : K.lookup g37 = some ⟨oc37, od37, .func (PySem.W.fnOf "_law_urn" "_law_urn" (defArgs s__law_urn) (defBody s__law_urn) (defScope s__law_urn) .none kV37 dc37 pm37 an37 cd37 ct37), sl37⟩) (c37 : PySem.W.codeIn K cd37 "_law_urn" = true) (k37 : PySem.W.keepIn K (.ref g37) = true)
  {oc38 kV38 dc38 pm38 cd38 ct38 : Value} {od38 an38 : Option Addr} {sl38 : Array (Option Value)} {g38 : Addr}
  (a38 : PySem.W.nsIn K mainGlobals "_law_take" = some (some (.ref g38))) (l38 : K.lookup g38 = some ⟨oc38, od38, .func (PySem.W.fnOf "_law_take" "_law_take" (defArgs s__law_take) (defBody s__law_take) (defScope s__law_take) .none kV38 dc38 pm38 an38 cd38 ct38), sl38⟩) (c38 : PySem.W.codeIn K cd38 "_law_take" = true) (k38 : PySem.W.keepIn K (.ref g38) = true)
  {oc39 kV39 dc39 pm39 cd39 ct39 : Value} {od39 an39 : Option Addr} {sl39 : Array (Option Value)} {g39 : Addr}
  (a39 : PySem.W.nsIn K mainGlobals "_law_one" = some (some (.ref g39))) (l39 : K.lookup g39 = some ⟨oc39, od39, .func (PySem.W.fnOf "_law_one" "_law_one" (defArgs s__law_one) (defBody s__law_one) (defScope s__law_one) .none kV39 dc39 pm39 an39 cd39 ct39), sl39⟩) (c39 : PySem.W.codeIn K cd39 "_law_one" = true) (k39 : PySem.W.keepIn K (.ref g39) = true)
  {oc40 kV40 dc40 pm40 cd40 ct40 : Value} {od40 an40 : Option Addr} {sl40 : Array (Option Value)} {g40 : Addr}
  (a40 : PySem.W.nsIn K mainGlobals "_law_is_laid" = some (some (.ref g40))) (l40 : K.lookup g40 = some ⟨oc40, od40, .func (PySem.W.fnOf "_law_is_laid" "_law_is_laid" (defArgs s__law_is_laid) (defBody s__law_is_laid) (defScope s__law_is_laid) .none kV40 dc40 pm40 an40 cd40 ct40), sl40⟩) (c40 : PySem.W.codeIn K cd40 "_law_is_laid" = true) (k40 : PySem.W.keepIn K (.ref g40) = true)
  {oc41 kV41 dc41 pm41 cd41 ct41 : Value} {od41 an41 : Option Addr} {sl41 : Array (Option Value)} {g41 : Addr}
  (a41 : PySem.W.nsIn K mainGlobals "_law_is_one_bar" = some (some (.ref g41))) (l41 : K.lookup g41 = some ⟨oc41, od41, .func (PySem.W.fnOf "_law_is_one_bar" "_law_is_one_bar" (defArgs s__law_is_one_bar) (defBody s__law_is_one_bar) (defScope s__law_is_one_bar) .none kV41 dc41 pm41 an41 cd41 ct41), sl41⟩) (c41 : PySem.W.codeIn K cd41 "_law_is_one_bar" = true) (k41 : PySem.W.keepIn K (.ref g41) = true)
  {oc42 kV42 dc42 pm42 cd42 ct42 : Value} {od42 an42 : Option Addr} {sl42 : Array (Option Value)} {g42 : Addr}
  (a42 : PySem.W.nsIn K mainGlobals "_law_has_bond" = some (some (.ref g42))) (l42 : K.lookup g42 = some ⟨oc42, od42, .func (PySem.W.fnOf "_law_has_bond" "_law_has_bond" (defArgs s__law_has_bond) (defBody s__law_has_bond) (defScope s__law_has_bond) .none kV42 dc42 pm42 an42 cd42 ct42), sl42⟩) (c42 : PySem.W.codeIn K cd42 "_law_has_bond" = true) (k42 : PySem.W.keepIn K (.ref g42) = true)
  {oc43 kV43 dc43 pm43 cd43 ct43 : Value} {od43 an43 : Option Addr} {sl43 : Array (Option Value)} {g43 : Addr}
  (a43 : PySem.W.nsIn K mainGlobals "_law_small" = some (some (.ref g43))) (l43 : K.lookup g43 = some ⟨oc43, od43, .func (PySem.W.fnOf "_law_small" "_law_small" (defArgs s__law_small) (defBody s__law_small) (defScope s__law_small) .none kV43 dc43 pm43 an43 cd43 ct43), sl43⟩) (c43 : PySem.W.codeIn K cd43 "_law_small" = true) (k43 : PySem.W.keepIn K (.ref g43) = true)
  {oc44 kV44 dc44 pm44 cd44 ct44 : Value} {od44 an44 : Option Addr} {sl44 : Array (Option Value)} {g44 : Addr}
  (a44 : PySem.W.nsIn K mainGlobals "_law_great" = some (some (.ref g44))) (l44 : K.lookup g44 = some ⟨oc44, od44, .func (PySem.W.fnOf "_law_great" "_law_great" (defArgs s__law_great) (defBody s__law_great) (defScope s__law_great) .none kV44 dc44 pm44 an44 cd44 ct44), sl44⟩) (c44 : PySem.W.codeIn K cd44 "_law_great" = true) (k44 : PySem.W.keepIn K (.ref g44) = true)
  {oc45 kV45 dc45 pm45 cd45 ct45 : Value} {od45 an45 : Option Addr} {sl45 : Array (Option Value)} {g45 : Addr}
  (a45 : PySem.W.nsIn K mainGlobals "_law_no_size" = some (some (.ref g45))) (l45 : K.lookup g45 = some ⟨oc45, od45, .func (PySem.W.fnOf "_law_no_size" "_law_no_size" (defArgs s__law_no_size) (defBody s__law_no_size) (defScope s__law_no_size) .none kV45 dc45 pm45 an45 cd45 ct45), sl45⟩) (c45 : PySem.W.codeIn K cd45 "_law_no_size" = true) (k45 : PySem.W.keepIn K (.ref g45) = true)
  {oc46 kV46 dc46 pm46 ct46 : Value} {od46 an46 : Option Addr} {sl46 : Array (Option Value)} {g46 : Addr}
  (a46 : PySem.W.nsIn K mainGlobals "_law_right" = some (some (.ref g46))) (l46 : K.lookup g46 = some ⟨oc46, od46, .func (PySem.W.fnOf "_law_right" "_law_right" (defArgs s__law_right) (defBody s__law_right) (defScope s__law_right) .none kV46 dc46 pm46 an46 (.ref 846) ct46), sl46⟩) (c46 : PySem.W.codeIn K (.ref 846) "_law_right" = true) (k46 : PySem.W.keepIn K (.ref g46) = true)
  {oc47 kV47 dc47 pm47 ct47 : Value} {od47 an47 : Option Addr} {sl47 : Array (Option Value)} {g47 : Addr}
  (a47 : PySem.W.nsIn K mainGlobals "law" = some (some (.ref g47))) (l47 : K.lookup g47 = some ⟨oc47, od47, .func (PySem.W.fnOf "law" "law" (defArgs s_law) (defBody s_law) (defScope s_law) .none kV47 dc47 pm47 an47 (.ref 853) ct47), sl47⟩) (c47 : PySem.W.codeIn K (.ref 853) "law" = true) (k47 : PySem.W.keepIn K (.ref g47) = true)
  (m3_Plan : PySem.W.isFn K (.ref g15) = true)
  {t_ACROSS : Tok} (v_ACROSS : PySem.W.nsIn K mainGlobals "ACROSS" = some (some (.str "across" t_ACROSS)))
  {t_DOWN : Tok} (v_DOWN : PySem.W.nsIn K mainGlobals "DOWN" = some (some (.str "down" t_DOWN)))
  {t_FEW : Tok} (v_FEW : PySem.W.nsIn K mainGlobals "FEW" = some (some (.str "few" t_FEW)))
  {t_LEVEL : Tok} (v_LEVEL : PySem.W.nsIn K mainGlobals "LEVEL" = some (some (.str "level" t_LEVEL)))
  {t_MAX_BLOCKS : Tok} (v_MAX_BLOCKS : PySem.W.nsIn K mainGlobals "MAX_BLOCKS" = some (some (.int (64) t_MAX_BLOCKS)))
  {t_MAX_SIDE : Tok} (v_MAX_SIDE : PySem.W.nsIn K mainGlobals "MAX_SIDE" = some (some (.int (10 ^ 30) t_MAX_SIDE)))
  {t_NARROW : Tok} (v_NARROW : PySem.W.nsIn K mainGlobals "NARROW" = some (some (.str "narrow" t_NARROW)))
  {t_PLAN : Tok} (v_PLAN : PySem.W.nsIn K mainGlobals "PLAN" = some (some (.str "plan" t_PLAN)))
  {t_REASON : Tok} (v_REASON : PySem.W.nsIn K mainGlobals "REASON" = some (some (.str "reason" t_REASON)))
  {tSIX_0 tSIX_1 tSIX_2 : Tok} {g_SIX : Addr} {od_SIX : Option Addr} {n_SIX : Nat} {sl_SIX : Array (Option Value)} (v_SIX : PySem.W.nsIn K mainGlobals "SIX" = some (some (.ref g_SIX))) (w_SIX : K.lookup g_SIX = some ⟨.type "tuple", od_SIX, .seq #[.int (6) tSIX_0, .int (6) tSIX_1, .int (2) tSIX_2] n_SIX, sl_SIX⟩)
  {t_UPRIGHT : Tok} (v_UPRIGHT : PySem.W.nsIn K mainGlobals "UPRIGHT" = some (some (.str "upright" t_UPRIGHT)))
  {tWAYS_0 tWAYS_1 : Tok} {g_WAYS : Addr} {od_WAYS : Option Addr} {n_WAYS : Nat} {sl_WAYS : Array (Option Value)} (v_WAYS : PySem.W.nsIn K mainGlobals "WAYS" = some (some (.ref g_WAYS))) (w_WAYS : K.lookup g_WAYS = some ⟨.type "tuple", od_WAYS, .seq #[.str "across" tWAYS_0, .str "down" tWAYS_1] n_WAYS, sl_WAYS⟩)
  {t_WEIGHTS : Tok} (v_WEIGHTS : PySem.W.nsIn K mainGlobals "WEIGHTS" = some (some (.str "weights" t_WEIGHTS)))
  (z_abs : PySem.W.nsIn K mainGlobals "abs" = some none)
  (z_all : PySem.W.nsIn K mainGlobals "all" = some none)
  (z_bool : PySem.W.nsIn K mainGlobals "bool" = some none)
  (z_enumerate : PySem.W.nsIn K mainGlobals "enumerate" = some none)
  (z_int : PySem.W.nsIn K mainGlobals "int" = some none)
  (z_isinstance : PySem.W.nsIn K mainGlobals "isinstance" = some none)
  (z_len : PySem.W.nsIn K mainGlobals "len" = some none)
  (z_max : PySem.W.nsIn K mainGlobals "max" = some none)
  (z_min : PySem.W.nsIn K mainGlobals "min" = some none)
  (z_range : PySem.W.nsIn K mainGlobals "range" = some none)
  (z_repr : PySem.W.nsIn K mainGlobals "repr" = some none)
  (z_sorted : PySem.W.nsIn K mainGlobals "sorted" = some none)
  (z_str : PySem.W.nsIn K mainGlobals "str" = some none)
  (z_sum : PySem.W.nsIn K mainGlobals "sum" = some none)
  (z_tuple : PySem.W.nsIn K mainGlobals "tuple" = some none) :
  ∃ fd : FuncData, (∀ (s : Shared) (u : Value), BindsTo s fd ⟨[u], []⟩ [("script", u)]) ∧ ∀ base : Heap, (∀ p ∈ csL, LamX.TabB base mg p.1 p.2) → FqG PySem.Challenge.rw_bondfloors_k29_errors_of_bonds.prog w K mg base ⟨clsAt K ["Plan", "InvalidSize", "InvalidPlan", "Unlaid", "InvalidLine", "InvalidOperation", "InvalidNumber", "TooMany"], tabsL⟩ 14 fa fd ["script"] m_law := by
  have e := PySem.W.mg_of KX G a47
  rw [hmg] at e
  cases e
  have e_InvalidSize : gk_InvalidSize = Ctx.cls (⟨clsAt K ["Plan", "InvalidSize", "InvalidPlan", "Unlaid", "InvalidLine", "InvalidOperation", "InvalidNumber", "TooMany"], tabsL⟩ : Ctx) 1 := (clsAt_of (K := K) (names := ["Plan", "InvalidSize", "InvalidPlan", "Unlaid", "InvalidLine", "InvalidOperation", "InvalidNumber", "TooMany"]) (c := 1) rfl aC_InvalidSize).symm
  have e_InvalidPlan : gk_InvalidPlan = Ctx.cls (⟨clsAt K ["Plan", "InvalidSize", "InvalidPlan", "Unlaid", "InvalidLine", "InvalidOperation", "InvalidNumber", "TooMany"], tabsL⟩ : Ctx) 2 := (clsAt_of (K := K) (names := ["Plan", "InvalidSize", "InvalidPlan", "Unlaid", "InvalidLine", "InvalidOperation", "InvalidNumber", "TooMany"]) (c := 2) rfl aC_InvalidPlan).symm
  have e_Unlaid : gk_Unlaid = Ctx.cls (⟨clsAt K ["Plan", "InvalidSize", "InvalidPlan", "Unlaid", "InvalidLine", "InvalidOperation", "InvalidNumber", "TooMany"], tabsL⟩ : Ctx) 3 := (clsAt_of (K := K) (names := ["Plan", "InvalidSize", "InvalidPlan", "Unlaid", "InvalidLine", "InvalidOperation", "InvalidNumber", "TooMany"]) (c := 3) rfl aC_Unlaid).symm
  have e_InvalidLine : gk_InvalidLine = Ctx.cls (⟨clsAt K ["Plan", "InvalidSize", "InvalidPlan", "Unlaid", "InvalidLine", "InvalidOperation", "InvalidNumber", "TooMany"], tabsL⟩ : Ctx) 4 := (clsAt_of (K := K) (names := ["Plan", "InvalidSize", "InvalidPlan", "Unlaid", "InvalidLine", "InvalidOperation", "InvalidNumber", "TooMany"]) (c := 4) rfl aC_InvalidLine).symm
  have e_InvalidOperation : gk_InvalidOperation = Ctx.cls (⟨clsAt K ["Plan", "InvalidSize", "InvalidPlan", "Unlaid", "InvalidLine", "InvalidOperation", "InvalidNumber", "TooMany"], tabsL⟩ : Ctx) 5 := (clsAt_of (K := K) (names := ["Plan", "InvalidSize", "InvalidPlan", "Unlaid", "InvalidLine", "InvalidOperation", "InvalidNumber", "TooMany"]) (c := 5) rfl aC_InvalidOperation).symm
  have e_InvalidNumber : gk_InvalidNumber = Ctx.cls (⟨clsAt K ["Plan", "InvalidSize", "InvalidPlan", "Unlaid", "InvalidLine", "InvalidOperation", "InvalidNumber", "TooMany"], tabsL⟩ : Ctx) 6 := (clsAt_of (K := K) (names := ["Plan", "InvalidSize", "InvalidPlan", "Unlaid", "InvalidLine", "InvalidOperation", "InvalidNumber", "TooMany"]) (c := 6) rfl aC_InvalidNumber).symm
  have e_TooMany : gk_TooMany = Ctx.cls (⟨clsAt K ["Plan", "InvalidSize", "InvalidPlan", "Unlaid", "InvalidLine", "InvalidOperation", "InvalidNumber", "TooMany"], tabsL⟩ : Ctx) 7 := (clsAt_of (K := K) (names := ["Plan", "InvalidSize", "InvalidPlan", "Unlaid", "InvalidLine", "InvalidOperation", "InvalidNumber", "TooMany"]) (c := 7) rfl aC_TooMany).symm
  have z_x_InvalidSize : RzM K gk_InvalidSize fileL := ⟨gk_BondError, gi_BondError, cda_BondError, cc_BondError, _, _, _, _, _, _, _, _, fam_Value, ⟨q_InvalidSize, ov_InvalidSize, ini_InvalidSize_BondError, isf_BondError, hd_InvalidSize, sa_InvalidSize, su_InvalidSize, sb_InvalidSize, xany, mr_InvalidSize, ⟨_, cs_BondError⟩, ⟨_, _, _, ce_BondError⟩, xsup, xbe_InvalidSize, ty_InvalidSize, kc_InvalidSize⟩, ⟨⟨_, _, _, _, _, _, _, _, _, lk_BondError⟩, cd_BondError, ⟨_, _, _, _, _, co_BondError, cv_BondError⟩⟩, xb_BondError⟩
  have z_x_InvalidPlan : RzM K gk_InvalidPlan fileL := ⟨gk_BondError, gi_BondError, cda_BondError, cc_BondError, _, _, _, _, _, _, _, _, fam_Value, ⟨q_InvalidPlan, ov_InvalidPlan, ini_InvalidPlan_BondError, isf_BondError, hd_InvalidPlan, sa_InvalidPlan, su_InvalidPlan, sb_InvalidPlan, xany, mr_InvalidPlan, ⟨_, cs_BondError⟩, ⟨_, _, _, ce_BondError⟩, xsup, xbe_InvalidPlan, ty_InvalidPlan, kc_InvalidPlan⟩, ⟨⟨_, _, _, _, _, _, _, _, _, lk_BondError⟩, cd_BondError, ⟨_, _, _, _, _, co_BondError, cv_BondError⟩⟩, xb_BondError⟩
  have z_x_Unlaid : RzV K gk_Unlaid fileL "value" := by
    obtain ⟨tail, b1, b2⟩ := xb_Unlaid
    exact ⟨gk_Unlaid, gi_Unlaid, cda_Unlaid, cc_Unlaid, _, _, _, _, _, _, _, _, _, fam_Lookup, ⟨q_Unlaid, ov_Unlaid, ini_Unlaid_Unlaid, isf_Unlaid, hd_Unlaid, sa_Unlaid, su_Unlaid, sb_Unlaid, xany, mr_Unlaid, ⟨_, cs_Unlaid⟩, ⟨_, _, _, ce_Unlaid⟩, xsup, xbe_Unlaid, ty_Unlaid, kc_Unlaid⟩, ⟨⟨_, _, _, _, _, _, _, _, _, lk_Unlaid⟩, cd_Unlaid, ⟨_, _, _, _, _, co_Unlaid, cv_Unlaid⟩⟩, b1, b2, tk_Unlaid⟩
  have exm : ∀ n ∈ exL, ∀ c ∈ exL, PySem.W.exmOne K (.ref (Ctx.cls (⟨clsAt K ["Plan", "InvalidSize", "InvalidPlan", "Unlaid", "InvalidLine", "InvalidOperation", "InvalidNumber", "TooMany"], tabsL⟩ : Ctx) n)) (.ref (Ctx.cls (⟨clsAt K ["Plan", "InvalidSize", "InvalidPlan", "Unlaid", "InvalidLine", "InvalidOperation", "InvalidNumber", "TooMany"], tabsL⟩ : Ctx) c)) = some (subE n c) := by
    intro n hn c hc
    simp only [exL, List.mem_cons, List.not_mem_nil, or_false] at hn hc
    rcases hn with rfl | rfl | rfl | rfl | rfl | rfl | rfl <;> rcases hc with rfl | rfl | rfl | rfl | rfl | rfl | rfl
    · rw [← e_InvalidSize]; exact xm_InvalidSize_InvalidSize
    · rw [← e_InvalidSize, ← e_InvalidPlan]; exact xm_InvalidSize_InvalidPlan
    · rw [← e_InvalidSize, ← e_Unlaid]; exact xm_InvalidSize_Unlaid
    · rw [← e_InvalidSize, ← e_InvalidLine]; exact xm_InvalidSize_InvalidLine
    · rw [← e_InvalidSize, ← e_InvalidOperation]; exact xm_InvalidSize_InvalidOperation
    · rw [← e_InvalidSize, ← e_InvalidNumber]; exact xm_InvalidSize_InvalidNumber
    · rw [← e_InvalidSize, ← e_TooMany]; exact xm_InvalidSize_TooMany
    · rw [← e_InvalidPlan, ← e_InvalidSize]; exact xm_InvalidPlan_InvalidSize
    · rw [← e_InvalidPlan]; exact xm_InvalidPlan_InvalidPlan
    · rw [← e_InvalidPlan, ← e_Unlaid]; exact xm_InvalidPlan_Unlaid
    · rw [← e_InvalidPlan, ← e_InvalidLine]; exact xm_InvalidPlan_InvalidLine
    · rw [← e_InvalidPlan, ← e_InvalidOperation]; exact xm_InvalidPlan_InvalidOperation
    · rw [← e_InvalidPlan, ← e_InvalidNumber]; exact xm_InvalidPlan_InvalidNumber
    · rw [← e_InvalidPlan, ← e_TooMany]; exact xm_InvalidPlan_TooMany
    · rw [← e_Unlaid, ← e_InvalidSize]; exact xm_Unlaid_InvalidSize
    · rw [← e_Unlaid, ← e_InvalidPlan]; exact xm_Unlaid_InvalidPlan
    · rw [← e_Unlaid]; exact xm_Unlaid_Unlaid
    · rw [← e_Unlaid, ← e_InvalidLine]; exact xm_Unlaid_InvalidLine
    · rw [← e_Unlaid, ← e_InvalidOperation]; exact xm_Unlaid_InvalidOperation
    · rw [← e_Unlaid, ← e_InvalidNumber]; exact xm_Unlaid_InvalidNumber
    · rw [← e_Unlaid, ← e_TooMany]; exact xm_Unlaid_TooMany
    · rw [← e_InvalidLine, ← e_InvalidSize]; exact xm_InvalidLine_InvalidSize
    · rw [← e_InvalidLine, ← e_InvalidPlan]; exact xm_InvalidLine_InvalidPlan
    · rw [← e_InvalidLine, ← e_Unlaid]; exact xm_InvalidLine_Unlaid
    · rw [← e_InvalidLine]; exact xm_InvalidLine_InvalidLine
    · rw [← e_InvalidLine, ← e_InvalidOperation]; exact xm_InvalidLine_InvalidOperation
    · rw [← e_InvalidLine, ← e_InvalidNumber]; exact xm_InvalidLine_InvalidNumber
    · rw [← e_InvalidLine, ← e_TooMany]; exact xm_InvalidLine_TooMany
    · rw [← e_InvalidOperation, ← e_InvalidSize]; exact xm_InvalidOperation_InvalidSize
    · rw [← e_InvalidOperation, ← e_InvalidPlan]; exact xm_InvalidOperation_InvalidPlan
    · rw [← e_InvalidOperation, ← e_Unlaid]; exact xm_InvalidOperation_Unlaid
    · rw [← e_InvalidOperation, ← e_InvalidLine]; exact xm_InvalidOperation_InvalidLine
    · rw [← e_InvalidOperation]; exact xm_InvalidOperation_InvalidOperation
    · rw [← e_InvalidOperation, ← e_InvalidNumber]; exact xm_InvalidOperation_InvalidNumber
    · rw [← e_InvalidOperation, ← e_TooMany]; exact xm_InvalidOperation_TooMany
    · rw [← e_InvalidNumber, ← e_InvalidSize]; exact xm_InvalidNumber_InvalidSize
    · rw [← e_InvalidNumber, ← e_InvalidPlan]; exact xm_InvalidNumber_InvalidPlan
    · rw [← e_InvalidNumber, ← e_Unlaid]; exact xm_InvalidNumber_Unlaid
    · rw [← e_InvalidNumber, ← e_InvalidLine]; exact xm_InvalidNumber_InvalidLine
    · rw [← e_InvalidNumber, ← e_InvalidOperation]; exact xm_InvalidNumber_InvalidOperation
    · rw [← e_InvalidNumber]; exact xm_InvalidNumber_InvalidNumber
    · rw [← e_InvalidNumber, ← e_TooMany]; exact xm_InvalidNumber_TooMany
    · rw [← e_TooMany, ← e_InvalidSize]; exact xm_TooMany_InvalidSize
    · rw [← e_TooMany, ← e_InvalidPlan]; exact xm_TooMany_InvalidPlan
    · rw [← e_TooMany, ← e_Unlaid]; exact xm_TooMany_Unlaid
    · rw [← e_TooMany, ← e_InvalidLine]; exact xm_TooMany_InvalidLine
    · rw [← e_TooMany, ← e_InvalidOperation]; exact xm_TooMany_InvalidOperation
    · rw [← e_TooMany, ← e_InvalidNumber]; exact xm_TooMany_InvalidNumber
    · rw [← e_TooMany]; exact xm_TooMany_TooMany
  have ft__law_met : Df K mg "_law_met" s__law_met p__law_met gt__law_met _ := ⟨fun_mk lt__law_met ct1__law_met kt__law_met, PySem.W.mg_of KX G at__law_met, (fun_mk lt__law_met ct1__law_met kt__law_met).binds fun _ _ _ _ _ _ us hl => match us, hl with | [_], _ => rfl⟩
  have e_Plan : gk_Plan = Ctx.cls (⟨clsAt K ["Plan", "InvalidSize", "InvalidPlan", "Unlaid", "InvalidLine", "InvalidOperation", "InvalidNumber", "TooMany"], tabsL⟩ : Ctx) 0 := (clsAt_of (K := K) (names := ["Plan", "InvalidSize", "InvalidPlan", "Unlaid", "InvalidLine", "InvalidOperation", "InvalidNumber", "TooMany"]) (c := 0) rfl aC_Plan).symm
  have cl_Plan : L2.Cls K (Ctx.cls (⟨clsAt K ["Plan", "InvalidSize", "InvalidPlan", "Unlaid", "InvalidLine", "InvalidOperation", "InvalidNumber", "TooMany"], tabsL⟩ : Ctx) 0) := e_Plan ▸ ⟨c1_Plan, c2_Plan, c3_Plan, c4_Plan⟩
  have f0 : Df K mg "is_integer" s_is_integer p_is_integer g0 _ := ⟨fun_mk l0 c0 k0, PySem.W.mg_of KX G a0, (fun_mk l0 c0 k0).binds fun _ _ _ _ _ _ us hl => match us, hl with | [_], _ => rfl⟩
  have f1 : Df K mg "is_from" s_is_from p_is_from g1 _ := ⟨fun_mk l1 c1 k1, PySem.W.mg_of KX G a1, (fun_mk l1 c1 k1).binds fun _ _ _ _ _ _ us hl => match us, hl with | [_, _, _], _ => rfl⟩
  have f2 : Df K mg "is_row" s_is_row p_is_row g2 _ := ⟨fun_mk l2 c2 k2, PySem.W.mg_of KX G a2, (fun_mk l2 c2 k2).binds fun _ _ _ _ _ _ us hl => match us, hl with | [_, _], _ => rfl⟩
  have f3 : Df K mg "is_word_of" s_is_word_of p_is_word_of g3 _ := ⟨fun_mk l3 c3 k3, PySem.W.mg_of KX G a3, (fun_mk l3 c3 k3).binds fun _ _ _ _ _ _ us hl => match us, hl with | [_, _], _ => rfl⟩
  have f4 : Df K mg "is_size" s_is_size p_is_size g4 _ := ⟨fun_mk l4 c4 k4, PySem.W.mg_of KX G a4, (fun_mk l4 c4 k4).binds fun _ _ _ _ _ _ us hl => match us, hl with | [_], _ => rfl⟩
  have f5 : Df K mg "require_size" s_require_size p_require_size g5 _ := ⟨fun_mk l5 c5 k5, PySem.W.mg_of KX G a5, (fun_mk l5 c5 k5).binds fun _ _ _ _ _ _ us hl => match us, hl with | [_], _ => rfl⟩
  have f6 : Df K mg "is_laid" s_is_laid p_is_laid g6 _ := ⟨fun_mk l6 c6 k6, PySem.W.mg_of KX G a6, (fun_mk l6 c6 k6).binds fun _ _ _ _ _ _ us hl => match us, hl with | [_], _ => rfl⟩
  have f7 : Df K mg "exchanged_size" s_exchanged_size p_exchanged_size g7 _ := ⟨fun_mk l7 c7 k7, PySem.W.mg_of KX G a7, (fun_mk l7 c7 k7).binds fun _ _ _ _ _ _ us hl => match us, hl with | [_], _ => rfl⟩
  have f8 : Df K mg "other_way" s_other_way p_other_way g8 _ := ⟨fun_mk l8 c8 k8, PySem.W.mg_of KX G a8, (fun_mk l8 c8 k8).binds fun _ _ _ _ _ _ us hl => match us, hl with | [_], _ => rfl⟩
  have f9 : Df K mg "remainder_in" s_remainder_in p_remainder_in g9 _ := ⟨fun_mk l9 c9 k9, PySem.W.mg_of KX G a9, (fun_mk l9 c9 k9).binds fun _ _ _ _ _ _ us hl => match us, hl with | [_, _], _ => rfl⟩
  have f10 : Df K mg "need_in" s_need_in p_need_in g10 _ := ⟨fun_mk l10 c10 k10, PySem.W.mg_of KX G a10, (fun_mk l10 c10 k10).binds fun _ _ _ _ _ _ us hl => match us, hl with | [_, _], _ => rfl⟩
  have f11 : Df K mg "is_block" s_is_block p_is_block g11 _ := ⟨fun_mk l11 c11 k11, PySem.W.mg_of KX G a11, (fun_mk l11 c11 k11).binds fun _ _ _ _ _ _ us hl => match us, hl with | [_, _], _ => rfl⟩
  have f12 : Df K mg "are_apart" s_are_apart p_are_apart g12 _ := ⟨fun_mk l12 c12 k12, PySem.W.mg_of KX G a12, (fun_mk l12 c12 k12).binds fun _ _ _ _ _ _ us hl => match us, hl with | [_, _], _ => rfl⟩
  have f13 : Df K mg "are_blocks" s_are_blocks p_are_blocks g13 _ := ⟨fun_mk l13 c13 k13, PySem.W.mg_of KX G a13, (fun_mk l13 c13 k13).binds fun _ _ _ _ _ _ us hl => match us, hl with | [_, _], _ => rfl⟩
  have f14 : Df K mg "exchanged_block" s_exchanged_block p_exchanged_block g14 _ := ⟨fun_mk l14 c14 k14, PySem.W.mg_of KX G a14, (fun_mk l14 c14 k14).binds fun _ _ _ _ _ _ us hl => match us, hl with | [_], _ => rfl⟩
  have f18 : Df K mg "corner_weight" s_corner_weight p_corner_weight g18 _ := ⟨fun_mk l18 c18 k18, PySem.W.mg_of KX G a18, (fun_mk l18 c18 k18).binds fun _ _ _ _ _ _ us hl => match us, hl with | [_, _, _], _ => rfl⟩
  have f19 : Df K mg "weight_in" s_weight_in p_weight_in g19 _ := ⟨fun_mk l19 c19 k19, PySem.W.mg_of KX G a19, (fun_mk l19 c19 k19).binds fun _ _ _ _ _ _ us hl => match us, hl with | [_, _], _ => rfl⟩
  have f20 : Df K mg "is_one_bar" s_is_one_bar p_is_one_bar g20 _ := ⟨fun_mk l20 c20 k20, PySem.W.mg_of KX G a20, (fun_mk l20 c20 k20).binds fun _ _ _ _ _ _ us hl => match us, hl with | [_], _ => rfl⟩
  have f21 : Df K mg "is_narrow" s_is_narrow p_is_narrow g21 _ := ⟨fun_mk l21 c21 k21, PySem.W.mg_of KX G a21, (fun_mk l21 c21 k21).binds fun _ _ _ _ _ _ us hl => match us, hl with | [_], _ => rfl⟩
  have f22 : Df K mg "has_bond_in" s_has_bond_in p_has_bond_in g22 _ := ⟨fun_mk l22 c22 k22, PySem.W.mg_of KX G a22, (fun_mk l22 c22 k22).binds fun _ _ _ _ _ _ us hl => match us, hl with | [_], _ => rfl⟩
  have f23 : Df K mg "needs_of" s_needs_of p_needs_of g23 _ := ⟨fun_mk l23 c23 k23, PySem.W.mg_of KX G a23, (fun_mk l23 c23 k23).binds fun _ _ _ _ _ _ us hl => match us, hl with | [_, _, _], _ => rfl⟩
  have f24 : Df K mg "total_need_in" s_total_need_in p_total_need_in g24 _ := ⟨fun_mk l24 c24 k24, PySem.W.mg_of KX G a24, (fun_mk l24 c24 k24).binds fun _ _ _ _ _ _ us hl => match us, hl with | [_], _ => rfl⟩
  have f25 : Df K mg "total_crossings_in" s_total_crossings_in p_total_crossings_in g25 _ := ⟨fun_mk l25 c25 k25, PySem.W.mg_of KX G a25, (fun_mk l25 c25 k25).binds fun _ _ _ _ _ _ us hl => match us, hl with | [_], _ => rfl⟩
  have f26 : Df K mg "reason_in" s_reason_in p_reason_in g26 _ := ⟨fun_mk l26 c26 k26, PySem.W.mg_of KX G a26, (fun_mk l26 c26 k26).binds fun _ _ _ _ _ _ us hl => match us, hl with | [_], _ => rfl⟩
  have f27 : Df K mg "is_plain_reason" s_is_plain_reason p_is_plain_reason g27 _ := ⟨fun_mk l27 c27 k27, PySem.W.mg_of KX G a27, (fun_mk l27 c27 k27).binds fun _ _ _ _ _ _ us hl => match us, hl with | [_, _], _ => rfl⟩
  have f28 : Df K mg "stack_of" s_stack_of p_stack_of g28 _ := ⟨fun_mk l28 c28 k28, PySem.W.mg_of KX G a28, (fun_mk l28 c28 k28).binds fun _ _ _ _ _ _ us hl => match us, hl with | [_, _, _, _], _ => rfl⟩
  have f29 : Df K mg "band_of" s_band_of p_band_of g29 _ := ⟨fun_mk l29 c29 k29, PySem.W.mg_of KX G a29, (fun_mk l29 c29 k29).binds fun _ _ _ _ _ _ us hl => match us, hl with | [_, _, _, _], _ => rfl⟩
  have f30 : Df K mg "stacks_of" s_stacks_of p_stacks_of g30 _ := ⟨fun_mk l30 c30 k30, PySem.W.mg_of KX G a30, (fun_mk l30 c30 k30).binds fun _ _ _ _ _ _ us hl => match us, hl with | [_], _ => rfl⟩
  have f31 : Df K mg "is_straight" s_is_straight p_is_straight g31 _ := ⟨fun_mk l31 c31 k31, PySem.W.mg_of KX G a31, (fun_mk l31 c31 k31).binds fun _ _ _ _ _ _ us hl => match us, hl with | [_], _ => rfl⟩
  have f32 : Df K mg "wide_plan" s_wide_plan p_wide_plan g32 _ := ⟨fun_mk l32 c32 k32, PySem.W.mg_of KX G a32, (fun_mk l32 c32 k32).binds fun _ _ _ _ _ _ us hl => match us, hl with | [_], _ => rfl⟩
  have f33 : Df K mg "plan_of" s_plan_of p_plan_of g33 _ := ⟨fun_mk l33 c33 k33, PySem.W.mg_of KX G a33, (fun_mk l33 c33 k33).binds fun _ _ _ _ _ _ us hl => match us, hl with | [_], _ => rfl⟩
  have f34 : Df K mg "bond_plan" s_bond_plan p_bond_plan g34 _ := ⟨fun_mk l34 c34 k34, PySem.W.mg_of KX G a34, (fun_mk l34 c34 k34).binds fun _ _ _ _ _ _ us hl => match us, hl with | [_], _ => rfl⟩
  have f35 : Df K mg "bond_paper" s_bond_paper p_bond_paper g35 _ := ⟨fun_mk l35 c35 k35, PySem.W.mg_of KX G a35, (fun_mk l35 c35 k35).binds fun _ _ _ _ _ _ us hl => match us, hl with | [_], _ => rfl⟩
  have f36 : Df K mg "is_bond_paper" s_is_bond_paper p_is_bond_paper g36 _ := ⟨fun_mk l36 c36 k36, PySem.W.mg_of KX G a36, (fun_mk l36 c36 k36).binds fun _ _ _ _ _ _ us hl => match us, hl with | [_, _], _ => rfl⟩
  have f37 : Df K mg "_law_urn" s__law_urn p__law_urn g37 _ := ⟨fun_mk l37 c37 k37, PySem.W.mg_of KX G a37, (fun_mk l37 c37 k37).binds fun _ _ _ _ _ _ us hl => match us, hl with | [_, _], _ => rfl⟩
  have f38 : Df K mg "_law_take" s__law_take p__law_take g38 _ := ⟨fun_mk l38 c38 k38, PySem.W.mg_of KX G a38, (fun_mk l38 c38 k38).binds fun _ _ _ _ _ _ us hl => match us, hl with | [_, _], _ => rfl⟩
  have f39 : Df K mg "_law_one" s__law_one p__law_one g39 _ := ⟨fun_mk l39 c39 k39, PySem.W.mg_of KX G a39, (fun_mk l39 c39 k39).binds fun _ _ _ _ _ _ us hl => match us, hl with | [_, _], _ => rfl⟩
  have f40 : Df K mg "_law_is_laid" s__law_is_laid p__law_is_laid g40 _ := ⟨fun_mk l40 c40 k40, PySem.W.mg_of KX G a40, (fun_mk l40 c40 k40).binds fun _ _ _ _ _ _ us hl => match us, hl with | [_], _ => rfl⟩
  have f41 : Df K mg "_law_is_one_bar" s__law_is_one_bar p__law_is_one_bar g41 _ := ⟨fun_mk l41 c41 k41, PySem.W.mg_of KX G a41, (fun_mk l41 c41 k41).binds fun _ _ _ _ _ _ us hl => match us, hl with | [_], _ => rfl⟩
  have f42 : Df K mg "_law_has_bond" s__law_has_bond p__law_has_bond g42 _ := ⟨fun_mk l42 c42 k42, PySem.W.mg_of KX G a42, (fun_mk l42 c42 k42).binds fun _ _ _ _ _ _ us hl => match us, hl with | [_], _ => rfl⟩
  have f43 : Df K mg "_law_small" s__law_small p__law_small g43 _ := ⟨fun_mk l43 c43 k43, PySem.W.mg_of KX G a43, (fun_mk l43 c43 k43).binds fun _ _ _ _ _ _ us hl => match us, hl with | [_, _], _ => rfl⟩
  have f44 : Df K mg "_law_great" s__law_great p__law_great g44 _ := ⟨fun_mk l44 c44 k44, PySem.W.mg_of KX G a44, (fun_mk l44 c44 k44).binds fun _ _ _ _ _ _ us hl => match us, hl with | [_], _ => rfl⟩
  have f45 : Df K mg "_law_no_size" s__law_no_size p__law_no_size g45 _ := ⟨fun_mk l45 c45 k45, PySem.W.mg_of KX G a45, (fun_mk l45 c45 k45).binds fun _ _ _ _ _ _ us hl => match us, hl with | [_], _ => rfl⟩
  have f46 : DfC K mg "_law_right" s__law_right p__law_right g46 _ 846 := ⟨funC_mk l46 c46 k46, PySem.W.mg_of KX G a46, (fun_mk l46 c46 k46).binds fun _ _ _ _ _ _ us hl => match us, hl with | [_], _ => rfl⟩
  exact ⟨PySem.W.fnOf "law" "law" (defArgs s_law) (defBody s_law) (defScope s_law) .none kV47 dc47 pm47 an47 (.ref 853) ct47, fun s u => .of_eq (by rfl), fun base TB => ok_law ⟨rfl, exm, gt__law_met, _, ft__law_met, e_InvalidSize ▸ PySem.W.mg_of KX G aC_InvalidSize, e_InvalidPlan ▸ PySem.W.mg_of KX G aC_InvalidPlan, e_Unlaid ▸ PySem.W.mg_of KX G aC_Unlaid, e_InvalidLine ▸ PySem.W.mg_of KX G aC_InvalidLine, e_InvalidOperation ▸ PySem.W.mg_of KX G aC_InvalidOperation, e_InvalidNumber ▸ PySem.W.mg_of KX G aC_InvalidNumber, e_TooMany ▸ PySem.W.mg_of KX G aC_TooMany, e_InvalidSize ▸ z_x_InvalidSize, e_InvalidPlan ▸ z_x_InvalidPlan, e_Unlaid ▸ z_x_Unlaid, ⟨e_InvalidNumber ▸ xga_InvalidNumber, e_InvalidNumber ▸ xgg_InvalidNumber, e_InvalidNumber ▸ xex_InvalidNumber, e_InvalidNumber ▸ xhd_InvalidNumber⟩, e_InvalidNumber ▸ xno_InvalidNumber_value, ⟨e_Unlaid ▸ xga_Unlaid, e_Unlaid ▸ xgg_Unlaid, e_Unlaid ▸ xex_Unlaid, e_Unlaid ▸ xhd_Unlaid⟩, e_Unlaid ▸ xno_Unlaid_value, ⟨e_TooMany ▸ xga_TooMany, e_TooMany ▸ xgg_TooMany, e_TooMany ▸ xex_TooMany, e_TooMany ▸ xhd_TooMany⟩, e_TooMany ▸ xno_TooMany_limit, g0, _, f0, g1, _, f1, g2, _, f2, g3, _, f3, g4, _, f4, g5, _, f5, g6, _, f6, g7, _, f7, g8, _, f8, g9, _, f9, g10, _, f10, g11, _, f11, g12, _, f12, g13, _, f13, g14, _, f14, g15, _, fun_mk l15 c15 k15, fun us rest hl => match us, rest, hl with | [_, _], [], _ => rfl | [_, _], _ :: _, _ => rfl, g16, _, fun_mk l16 c16 k16, (fun_mk l16 c16 k16).binds fun _ _ _ _ _ _ us hl => match us, hl with | [_, _, _], _ => rfl, gp16, ⟨e_Plan ▸ a16, ⟨_, q16⟩, y16⟩, g17, _, fun_mk l17 c17 k17, (fun_mk l17 c17 k17).binds fun _ _ _ _ _ _ us hl => match us, hl with | [_], _ => rfl, ⟨e_Plan ▸ a17, y17, k17⟩, g18, _, f18, g19, _, f19, g20, _, f20, g21, _, f21, g22, _, f22, g23, _, f23, g24, _, f24, g25, _, f25, g26, _, f26, g27, _, f27, g28, _, f28, g29, _, f29, g30, _, f30, g31, _, f31, g32, _, f32, g33, _, f33, g34, _, f34, g35, _, f35, g36, _, f36, g37, _, f37, g38, _, f38, g39, _, f39, g40, _, f40, g41, _, f41, g42, _, f42, g43, _, f43, g44, _, f44, g45, _, f45, g46, _, f46, e_Plan ▸ PySem.W.mg_of KX G aC_Plan, ⟨e_Plan ▸ r1_Plan, e_Plan ▸ r2_Plan⟩, ⟨cl_Plan, e_Plan ▸ i1_Plan, i2_Plan, i3_Plan, e_Plan ▸ i4_Plan, e_Plan ▸ i5_Plan⟩, e_Plan ▸ i6_Plan, e_Plan ▸ i7_Plan, e_Plan ▸ i8_Plan, cl_Plan, ⟨e_Plan ▸ m1_Plan, e_Plan ▸ a15, m3_Plan, e_Plan ▸ m4_Plan⟩, fun c hc => by simp only [List.mem_cons, List.not_mem_nil, or_false] at hc; rcases hc with rfl <;> first | exact ⟨cl_Plan, e_Plan ▸ n_own_blocks_Plan⟩, fun c hc => by simp only [List.mem_cons, List.not_mem_nil, or_false] at hc; rcases hc with rfl <;> first | exact ⟨cl_Plan, e_Plan ▸ n_own_known_Plan⟩, fun c hc => by simp only [List.mem_cons, List.not_mem_nil, or_false] at hc; rcases hc with rfl <;> first | exact ⟨cl_Plan, e_Plan ▸ n_own_size_Plan⟩, _, PySem.W.mg_of KX G v_ACROSS, _, PySem.W.mg_of KX G v_DOWN, _, PySem.W.mg_of KX G v_FEW, _, PySem.W.mg_of KX G v_LEVEL, _, PySem.W.mg_of KX G v_MAX_BLOCKS, _, PySem.W.mg_of KX G v_MAX_SIDE, _, PySem.W.mg_of KX G v_NARROW, _, PySem.W.mg_of KX G v_PLAN, _, PySem.W.mg_of KX G v_REASON, ⟨_, _, _, _, [.int (6), .int (6), .int (2)], PySem.W.mg_of KX G v_SIX, w_SIX, rfl, rfl, small (by simp), .cons ⟨_, rfl⟩ (.cons ⟨_, rfl⟩ (.cons ⟨_, rfl⟩ (.nil))), fun _ _ => .cons (.int _) (.cons (.int _) (.cons (.int _) (.nil)))⟩, _, PySem.W.mg_of KX G v_UPRIGHT, ⟨_, _, _, _, [.str "across", .str "down"], PySem.W.mg_of KX G v_WAYS, w_WAYS, rfl, rfl, small (by simp), .cons ⟨_, rfl⟩ (.cons ⟨_, rfl⟩ (.nil)), fun _ _ => .cons str_rep (.cons str_rep (.nil))⟩, _, PySem.W.mg_of KX G v_WEIGHTS, PySem.W.mg_none_of KX G z_abs, PySem.W.mg_none_of KX G z_all, PySem.W.mg_none_of KX G z_bool, PySem.W.mg_none_of KX G z_enumerate, PySem.W.mg_none_of KX G z_int, PySem.W.mg_none_of KX G z_isinstance, PySem.W.mg_none_of KX G z_len, PySem.W.mg_none_of KX G z_max, PySem.W.mg_none_of KX G z_min, PySem.W.mg_none_of KX G z_range, PySem.W.mg_none_of KX G z_repr, PySem.W.mg_none_of KX G z_sorted, PySem.W.mg_none_of KX G z_str, PySem.W.mg_none_of KX G z_sum, PySem.W.mg_none_of KX G z_tuple⟩ prF TB (funC_mk l47 c47 k47)⟩
end
end Bf
namespace Bf
open PySem PySem.Spec PyProof.Rows L2
variable {w : List Cell} {Q : SV → List Cell → Prop}
@[simp] theorem is_integer_spec {x : D} (h : Known x) (hw : Flat w) : FT m_is_integer [.d x] w Q ↔ Q (.d (.bl (isIntD x))) w := by
  unfold m_is_integer
  rw [FT_fn]
  simp [b_is_integer, h]
  cases x <;> simp [isIntD, isBlD, hw]
def inR (x : D) (a b : Int) : Bool := match x with
  | .int i => decide (a ≤ i) && decide (i ≤ b)
  | _ => false
@[simp] theorem is_from_spec {x : D} {a b : Int} (h : Known x) (hw : Flat w) : FT m_is_from [.d x, .d (.int a), .d (.int b)] w Q ↔ Q (.d (.bl (inR x a b))) w := by
  unfold m_is_from
  rw [FT_fn]
  cases x with
  | int i => by_cases h1 : a ≤ i <;> simp [b_is_from, h, hw, isIntD, inR, h1]
  | _ => simp [b_is_from, h, hw, isIntD, inR]
def rowD (x : D) (n : Int) : Bool := match x with
  | .tup xs => decide ((xs.length : Int) = n)
  | _ => false
@[simp] theorem is_row_spec {x : D} {n : Int} (h : Known x) (hw : Flat w) : FT m_is_row [.d x, .d (.int n)] w Q ↔ Q (.d (.bl (rowD x n))) w := by
  unfold m_is_row
  rw [FT_fn]
  cases x <;> simp [b_is_row, h, isTupD, hw, rowD]
/-- what the law's values are: known, tuples of known ones -/
def Bas (x : D) : Prop := Known x ∧ match x with
  | .tup xs => ∀ y ∈ xs, Known y
  | _ => True
def sizeD (M : Int) : D → Bool
  | .tup [a, b, c] => inR a 1 M && inR b 1 M && inR c 2 M
  | _ => false
theorem sizeD_no {xs : List D} {M : Int} (h : xs.length ≠ 3) : sizeD M (.tup xs) = false := by
  match xs with
  | [] => rfl
  | [_] => rfl
  | [_, _] => rfl
  | [_, _, _] => exact absurd rfl h
  | _ :: _ :: _ :: _ :: _ => rfl
theorem is_size_spec {x : D} (h : Bas x) (hw : Flat w) : FT m_is_size [.d x] w Q ↔ Q (.d (.bl (sizeD (10 ^ 30) x))) w := by
  unfold m_is_size b_is_size
  rw [FT_fn]
  obtain ⟨h, h2⟩ := h
  generalize (10 : Int) ^ 30 = M
  cases x with
  | tup xs =>
    by_cases hl : xs.length = 3
    · match xs, hl, h2 with
      | [a, b, c], _, h2 =>
        have ha := h2 a (by simp)
        have hb := h2 b (by simp)
        have hc := h2 c (by simp)
        cases h3 : inR a 1 M <;> cases h4 : inR b 1 M <;> simp [h, hw, rowD, ha, hb, hc, h3, h4, sizeD]
    · have : ¬ ((xs.length : Int) = 3) := by omega
      simp [h, hw, rowD, sizeD_no hl, this]
  | _ => simp [h, hw, rowD, sizeD]
theorem pow30 : powD (.int 10) (.int 30) = some (.int (10 ^ 30)) := powD_int (by decide +kernel)
theorem take_spec {t : Int} (h0 : 0 < t) (h1 : t ≤ 10 ^ 40) : Dies m__law_take [.d (.int t)] fun y => ∃ r : Int, y = .int r ∧ 0 ≤ r ∧ r < t := by
  intro k w hw
  unfold m__law_take b__law_take
  rw [FT_fn]
  obtain ⟨a, b, c, hk⟩ := hw.ex
  have hr : ∀ g, rd ⟨g, w⟩ (.cell k) = some (.lst [.int a, .int b, .int c]) := fun g => rd_lst' hk
  have hl := hw.lt
  have hd : ∀ a, divD (.int a) (.int t) = some (.int (a / t)) := fun a => divD_int ⟨h0, log_ok h1 h0⟩
  by_cases ha : 0 < a
  · simp [hr, ha, h0, hd, setL, hk]
    exact die_end (Upd.set hw) hw ⟨_, rfl, Int.emod_nonneg _ (by omega), Int.emod_lt_of_pos _ h0⟩
  · simp [hr, ha, h0, hd, setL, hk, rd_set hl]
    have em : ∀ (z : Int), 0 ≤ z % 2305843009213693951 ∧ z % 2305843009213693951 < 2305843009213693951 := fun z => ⟨Int.emod_nonneg _ (by decide), Int.emod_lt_of_pos _ (by decide)⟩
    have hm : ((b + 1299709 * (c + 1)) % 2305843009213693951).natAbs < 2 ^ 64 := by
      have := em (b + 1299709 * (c + 1))
      omega
    generalize (b + 1299709 * (c + 1)) % 2305843009213693951 = one at hm ⊢
    have h61 : ∀ a, divD (.int a) (.int 61) = some (.int (a / 61)) := fun a => divD_int ⟨by decide, by decide +kernel⟩
    rw [mulD_left hm]
    simp
    have hm2 : ((one * one + 7919 * (c + 1)) % 1000000000039).natAbs < 2 ^ 64 := by
      have h2 := Int.emod_nonneg (one * one + 7919 * (c + 1)) (b := 1000000000039) (by decide)
      have h3 := Int.emod_lt_of_pos (one * one + 7919 * (c + 1)) (b := 1000000000039) (by decide)
      omega
    generalize (one * one + 7919 * (c + 1)) % 1000000000039 = two at hm2 ⊢
    rw [mulD_left hm2]
    simp [h61, h0]
    exact die_end (Upd.set hw) hw ⟨_, rfl, Int.emod_nonneg _ (by omega), Int.emod_lt_of_pos _ h0⟩
/-- drawing one of them -/
theorem one_spec {y : D} {xs : List D} (hy : ∀ i : Int, idxD y (.int i) = atI xs i) (hl : lenB [y] = some (.int xs.length)) (h0 : xs ≠ []) (h1 : (xs.length : Int) ≤ 10 ^ 40) : Dies m__law_one [.d y] fun d => d ∈ xs := by
  intro k w hw
  unfold m__law_one b__law_one
  rw [FT_fn]
  have hp : (0 : Int) < xs.length := by
    have := List.length_pos_iff.mpr h0
    omega
  simp [hl]
  refine (take_spec hp h1 k w hw).imp fun x w' ⟨⟨hu, hn⟩, z, e, r, e2, h2, h3⟩ => ?_
  subst e e2
  obtain ⟨d, hd, e⟩ := atI_mem h2 h3
  simp [hy, e]
  exact die_end hu hw hd
theorem small40 {n : Nat} (h : n ≤ 100000) : (n : Int) ≤ 10 ^ 40 := by
  have e : (10 : Int) ^ 40 = 10000000000000000000000000000000000000000 := by decide
  rw [e]
  omega
theorem one_lst {xs : List D} (h0 : xs ≠ []) (h1 : xs.length ≤ 100000) : Dies m__law_one [.d (.lst xs)] fun d => d ∈ xs := one_spec (fun _ => rfl) rfl h0 (small40 h1)
/-! ### the weights -/
def cw (l o n : Int) : Int := max 0 (min (min (min (n + 1) l) o) (l + o - 1 - n))
def wt (w h L n : Int) : Int := (w * h - (w % L) * (h % L)) / L + (cw (w % L) (h % L) n + cw (w % L) (h % L) (n + L))
/-- a size -/
structure Sz (a b L : Int) : Prop where
  a0 : 1 ≤ a
  a1 : a ≤ 1000000000000000000000000000000
  b0 : 1 ≤ b
  b1 : b ≤ 1000000000000000000000000000000
  l0 : 2 ≤ L
  l1 : L ≤ 1000000000000000000000000000000
theorem big40 : (10 : Nat) ^ 40 = 10000000000000000000000000000000000000000 := by decide
theorem Sz.size {a b L : Int} (h : Sz a b L) : sizeD (10 ^ 30) (.tup [.int a, .int b, .int L]) = true := by
  obtain ⟨h1, h2, h3, h4, h5, h6⟩ := h
  have e : (10 : Int) ^ 30 = 1000000000000000000000000000000 := by decide
  simp [sizeD, inR, h1, h2, h3, h4, h5, h6]
theorem require_spec {a b L : Int} (h : Sz a b L) (hw : Flat w) : FT m_require_size [.d (.tup [.int a, .int b, .int L])] w Q ↔ Q (.d .non) w := by
  unfold m_require_size
  rw [FT_fn]
  have hb : Bas (.tup [.int a, .int b, .int L]) := ⟨rfl, by simp⟩
  have e := h.size
  have sp : ∀ {Q : SV → List Cell → Prop}, (FT m_is_size [.d (.tup [.int a, .int b, .int L])] w Q ↔ Q (.d (.bl true)) w) := by
    intro Q
    rw [is_size_spec hb hw, e]
  simp [b_require_size, sp, hw]
theorem laid_spec {a b L : Int} (h : Sz a b L) (hw : Flat w) : FT m_is_laid [.d (.tup [.int a, .int b, .int L])] w Q ↔ Q (.d (.bl (decide (a % L = 0) || decide (b % L = 0)))) w := by
  unfold m_is_laid
  rw [FT_fn]
  have hL : 0 < L := by have := h.l0; omega
  by_cases q : a % L = 0 <;> simp [b_is_laid, hL, hw, q]
theorem law_laid_spec {a b L : Int} (h : Sz a b L) (hw : Flat w) : FT m__law_is_laid [.d (.tup [.int a, .int b, .int L])] w Q ↔ Q (.d (.bl (decide (a % L = 0) || decide (b % L = 0)))) w := by
  unfold m__law_is_laid
  rw [FT_fn]
  have hL : 0 < L := by have := h.l0; omega
  by_cases q : a % L = 0 <;> simp [b__law_is_laid, hL, hw, q]
end Bf
namespace Bf
open PySem PySem.Spec PyProof.Rows L2
variable {w : List Cell} {Q : SV → List Cell → Prop}
theorem rng_get {m i : Nat} {x : D} (h : ((List.range m).map fun (i : Nat) => D.int (0 + (i : Int)))[i]? = some x) : x = .int i ∧ i < m := by
  rw [List.getElem?_map] at h
  by_cases hi : i < m
  · rw [List.getElem?_range hi] at h
    simp only [Option.map_some, Option.some.injEq] at h
    subst h
    exact ⟨by rw [Int.zero_add], hi⟩
  · rw [List.getElem?_eq_none (by simpa using hi)] at h
    cases h
theorem rng_ok {i : Int} (h : 0 ≤ i) (h2 : i ≤ 100000) : rngOk i = true := by
  unfold rngOk
  rw [Bool.and_eq_true, decide_eq_true_iff, decide_eq_true_iff]
  omega
theorem small_rest {k : Nat} {w : List Cell} {L : Int} (l1 : 2 ≤ L) (l2 : L < 6) (wd : Int) (w3 : List Cell) (p1 : 0 < wd) (p2 : wd < 21) (hu : Upd k w w3) : T (sSeq (sAsg (vB minB (aCons (vVar 3) (aCons (vVar 1) (aNil)))) (hName 3)) (sSeq (sAsg (vOp addD (vC (.int 1)) (vCall m__law_take (aCons (vVar 0) (aCons (vB maxB (aCons (vC (.int 1)) (aCons (vB minB (aCons (vOp addD (vOp mulD (vC (.int 3)) (vVar 2)) (vC (.int 2))) (aCons (vOp divD (vVar 1) (vVar 3)) (aNil)))) (aNil)))) (aNil))))) (hName 4)) (sRet (vIf (cVal (vOp eqD (vCall m__law_take (aCons (vVar 0) (aCons (vC (.int 2)) (aNil)))) (vC (.int 0)))) (vTup (aCons (vVar 3) (aCons (vVar 4) (aCons (vVar 2) (aNil))))) (vTup (aCons (vVar 4) (aCons (vVar 3) (aCons (vVar 2) (aNil))))))))
      ⟨[some (.cell k), some (.d (.int 300)), some (.d (.int L)), some (.d (.int wd)), none], w3⟩) fun fl s => ∃ y, fl = .rt (.d y) ∧ Upd k w s.w ∧ ∃ a b L : Int, y = .tup [.int a, .int b, .int L] ∧ (2 ≤ L ∧ L < 6) ∧ (0 < a ∧ a < 21) ∧ (0 < b ∧ b < 21) ∧ a * b ≤ 300 := by
  have big : (10 : Int) ^ 40 = 10000000000000000000000000000000000000000 := by decide
  have n100 : ¬ (300 : Int) < wd := by omega
  have hd : divD (.int 300) (.int wd) = some (.int (300 / wd)) := divD_int ⟨p1, log_ok (by rw [big]; omega) p1⟩
  simp [n100, hd]
  generalize ht : (if 1 < (if 300 / wd < 3 * L + 2 then 300 / wd else 3 * L + 2) then (if 300 / wd < 3 * L + 2 then 300 / wd else 3 * L + 2) else 1) = t
  have t0 : 0 < t ∧ t ≤ 17 ∧ (t = 1 ∨ t ≤ 300 / wd) := by
    rw [← ht]
    split <;> split <;> omega
  refine (take_spec (t := t) t0.1 (by rw [big]; omega) k w3 hu.ok).imp fun x w4 ⟨⟨hu4, hn4⟩, z, e, q, e2, q1, q2⟩ => ?_
  subst e e2
  simp
  refine (take_spec (t := 2) (by omega) (by omega) k w4 hu4.ok).imp fun x w5 ⟨⟨hu5, hn5⟩, z, e, v, e2, v1, v2⟩ => ?_
  subst e e2
  have hp : wd * (1 + q) ≤ 300 := by
    rcases t0.2.2 with h | h
    · have : q = 0 := by omega
      subst this
      omega
    · have h2 : 1 + q ≤ 300 / wd := by omega
      have h3 := Int.mul_le_mul_of_nonneg_left h2 (Int.le_of_lt p1)
      have h4 := Int.mul_ediv_self_le (x := 300) (k := wd) (by omega)
      omega
  have hu' := (hu.trans hu4).trans hu5
  by_cases hv : v = 0
  · simp [hv, sizeLine_eq]
    exact ⟨hu', _, _, _, ⟨rfl, rfl, rfl⟩, ⟨by omega, by omega⟩, ⟨by omega, by omega⟩, ⟨by omega, by omega⟩, hp⟩
  · simp [hv, sizeLine_eq]
    exact ⟨hu', _, _, _, ⟨rfl, rfl, rfl⟩, ⟨by omega, by omega⟩, ⟨by omega, by omega⟩, ⟨by omega, by omega⟩, by rw [Int.mul_comm]; exact hp⟩
theorem small_spec : Dies m__law_small [.d (.int 300)] fun y => ∃ a b L : Int, y = .tup [.int a, .int b, .int L] ∧ (2 ≤ L ∧ L < 6) ∧ (0 < a ∧ a < 21) ∧ (0 < b ∧ b < 21) ∧ a * b ≤ 300 := by
  intro k w hw
  unfold m__law_small b__law_small
  rw [FT_fn]
  have big : (10 : Int) ^ 40 = 10000000000000000000000000000000000000000 := by decide
  obtain ⟨P1, hP1⟩ : ∃ P : PS → Prop, P = (fun s => ∃ (L : Int) (w1 : List Cell), (2 ≤ L ∧ L < 6) ∧ Upd k w w1 ∧ s = ⟨[some (.cell k), some (.d (.int 300)), some (.d (.int L)), none, none], w1⟩) := ⟨_, rfl⟩
  refine T_seq_of P1 ?_ fun s hs => ?_
  · simp [sizeLine_eq]
    refine (one_lst (by simp) (by simp) k w hw).imp fun x w1 ⟨⟨hu1, hn1⟩, z, e, hz⟩ => ?_
    subst e
    have key : ∀ {xs : List D}, (∀ y ∈ xs, ∃ L : Int, y = .int L ∧ 2 ≤ L ∧ L < 6) → z ∈ xs → ∃ L : Int, z = .int L ∧ 2 ≤ L ∧ L < 6 := fun h m => h z m
    obtain ⟨L, rfl, l1, l2⟩ := key (by
      simp only [List.forall_mem_cons]
      refine ⟨?_, ?_, ?_, ?_, ?_, ?_, ?_, by simp⟩ <;> exact ⟨_, rfl, by decide, by decide⟩) hz
    rw [hP1]
    exact ⟨L, w1, ⟨l1, l2⟩, hu1, rfl⟩
  rw [hP1] at hs
  obtain ⟨L, w1, ⟨l1, l2⟩, hu1, e⟩ := hs
  subst e
  obtain ⟨P2, hP2⟩ : ∃ P : PS → Prop, P = (fun s => ∃ (wd : Int) (w2 : List Cell), (0 < wd ∧ wd < 21) ∧ Upd k w w2 ∧ s = ⟨[some (.cell k), some (.d (.int 300)), some (.d (.int L)), some (.d (.int wd)), none], w2⟩) := ⟨_, rfl⟩
  refine T_seq_of P2 ?_ fun s hs => ?_
  · simp
    refine (take_spec (t := 3 * L + 2) (by omega) (by omega) k w1 hu1.ok).imp fun x w2 ⟨⟨hu2, hn2⟩, z, e, r, e2, r1, r2⟩ => ?_
    subst e e2
    simp
    rw [hP2]
    exact ⟨1 + r, w2, by omega, hu1.trans hu2, rfl⟩
  rw [hP2] at hs
  obtain ⟨wd, w2, ⟨p1, p2⟩, hu2, e⟩ := hs
  subst e
  obtain ⟨P3, hP3⟩ : ∃ P : PS → Prop, P = (fun s => ∃ (wd : Int) (w2 : List Cell), (0 < wd ∧ wd < 21) ∧ Upd k w w2 ∧ s = ⟨[some (.cell k), some (.d (.int 300)), some (.d (.int L)), some (.d (.int wd)), none], w2⟩) := ⟨_, rfl⟩
  refine T_seq_of P3 ?_ fun s hs => ?_
  · have mL : ∀ z, mulD (.int L) (.int z) = some (.int (L * z)) := fun z => mulD_left (by omega)
    simp
    refine (take_spec (t := 3) (by omega) (by omega) k w2 hu2.ok).imp fun x w3 ⟨⟨hu3, hn3⟩, z, e, r, e2, r1, r2⟩ => ?_
    subst e e2
    have hu := hu2.trans hu3
    by_cases hr : 0 < r
    · simp [hr]
      refine (take_spec (t := 4) (by omega) (by omega) k w3 hu.ok).imp fun x w4 ⟨⟨hu4, hn4⟩, z, e, q, e2, q1, q2⟩ => ?_
      subst e e2
      simp [mL]
      have h1 := Int.mul_le_mul_of_nonneg_left (show 1 ≤ 1 + q by omega) (show 0 ≤ L by omega)
      have h2 := Int.mul_le_mul_of_nonneg_left (show 1 + q ≤ 4 by omega) (show 0 ≤ L by omega)
      rw [hP3]
      exact ⟨L * (1 + q), w4, by omega, hu.trans hu4, rfl⟩
    · simp [hr]
      rw [hP3]
      exact ⟨wd, w3, ⟨p1, p2⟩, hu, rfl⟩
  rw [hP3] at hs
  obtain ⟨wd, w2, ⟨p1, p2⟩, hu2, e⟩ := hs
  subst e
  refine (small_rest l1 l2 wd w2 p1 p2 hu2).imp fun fl s ⟨y, e, hu, hy⟩ => ?_
  subst e
  exact die_end hu hw hy
def smallL (L : Int) : Prop := L = 2 ∨ L = 3 ∨ L = 4 ∨ L = 7 ∨ L = 10
theorem great_spec : Dies m__law_great [] fun y => ∃ a b L : Int, y = .tup [.int a, .int b, .int L] ∧ Sz a b L ∧ (L ≤ 10 → smallL L) := by
  intro k w hw
  unfold m__law_great b__law_great
  rw [FT_fn]
  have big : (10 : Int) ^ 40 = 10000000000000000000000000000000000000000 := by decide
  have e30 : (10 : Int) ^ 30 = 1000000000000000000000000000000 := by decide
  have p30 : powD (.int 10) (.int 30) = some (.int 1000000000000000000000000000000) := by rw [← e30]; exact pow30
  have p9 : powD (.int 10) (.int 9) = some (.int 1000000000) := powD_int (by decide +kernel)
  have p20 : powD (.int 10) (.int 20) = some (.int 100000000000000000000) := powD_int (by decide +kernel)
  have p29 : powD (.int 10) (.int 29) = some (.int 100000000000000000000000000000) := powD_int (by decide +kernel)
  have p6 : powD (.int 10) (.int 6) = some (.int 1000000) := powD_int (by decide +kernel)
  obtain ⟨P1, hP1⟩ : ∃ P : PS → Prop, P = (fun s => ∃ (L : Int) (w1 : List Cell), (2 ≤ L ∧ L ≤ 1000000000000000000000000000000 ∧ (L ≤ 10 → smallL L)) ∧ Upd k w w1 ∧ s = ⟨[some (.cell k), some (.d (.int L)), none, none, none, none, none], w1⟩) := ⟨_, rfl⟩
  refine T_seq_of P1 ?_ fun s hs => ?_
  · simp [sizeLine_eq, p9, p20, p29]
    refine (one_lst (by simp) (by simp) k w hw).imp fun x w1 ⟨⟨hu1, hn1⟩, z, e, hz⟩ => ?_
    subst e
    have key : ∀ {xs : List D}, (∀ y ∈ xs, ∃ L : Int, y = .int L ∧ 2 ≤ L ∧ L ≤ 1000000000000000000000000000000 ∧ (L ≤ 10 → smallL L)) → z ∈ xs → ∃ L : Int, z = .int L ∧ 2 ≤ L ∧ L ≤ 1000000000000000000000000000000 ∧ (L ≤ 10 → smallL L) := fun h m => h z m
    obtain ⟨L, rfl, l1⟩ := key (by
      simp only [List.forall_mem_cons]
      refine ⟨?_, ?_, ?_, ?_, ?_, ?_, ?_, ?_, ?_, ?_, ?_, by simp⟩ <;> exact ⟨_, rfl, by decide, by decide, fun h => by unfold smallL; omega⟩) hz
    rw [hP1]
    exact ⟨L, w1, l1, hu1, rfl⟩
  rw [hP1] at hs
  obtain ⟨L, w1, ⟨l1, l2, l3⟩, hu1, e⟩ := hs
  subst e
  have hd : ∀ z, divD (.int z) (.int L) = some (.int (z / L)) := fun z => divD_int ⟨by omega, log_ok (by rw [big]; omega) (by omega)⟩
  have hd2 : ∀ z, divD (.int z) (.int 2) = some (.int (z / 2)) := fun z => divD_int ⟨by decide, by decide +kernel⟩
  have hd3 : ∀ z, divD (.int z) (.int 3) = some (.int (z / 3)) := fun z => divD_int ⟨by decide, by decide +kernel⟩
  have m0 : 0 ≤ 1000000000000000000000000000000 / L := Int.ediv_nonneg (by decide) (by omega)
  have m1 : 1000000000000000000000000000000 / L ≤ 1000000000000000000000000000000 := Int.ediv_le_self _ (by decide)
  obtain ⟨P2, hP2⟩ : ∃ P : PS → Prop, P = (fun s => ∃ (m : Int), (0 ≤ m ∧ m ≤ 1000000000000000000000000000000) ∧ s = ⟨[some (.cell k), some (.d (.int L)), some (.d (.int m)), none, none, none, none], w1⟩) := ⟨_, rfl⟩
  refine T_seq_of P2 ?_ fun s hs => ?_
  · simp [p30, hd]
    rw [hP2]
    exact ⟨_, ⟨m0, m1⟩, rfl⟩
  rw [hP2] at hs
  obtain ⟨m, ⟨m2, m3⟩, e⟩ := hs
  subst e
  clear m0 m1
  obtain ⟨P3, hP3⟩ : ∃ P : PS → Prop, P = (fun s => s = ⟨[some (.cell k), some (.d (.int L)), some (.d (.int m)), some (.cell w1.length), none, none, none], w1 ++ [.lst []]⟩) := ⟨_, rfl⟩
  refine T_seq_of P3 ?_ fun s hs => ?_
  · simp
    rw [hP3]
  rw [hP3] at hs
  subst hs
  obtain ⟨P4, hP4⟩ : ∃ P : Nat → PS → Prop, P = (fun i s => ∃ (o4 o5 o6 : Option SV) (v : List Cell) (ns : List Int), Dat' o4 ∧ Dat' o5 ∧ Dat' o6 ∧ Upd k w v ∧ v.length = w1.length + 1 ∧ v[w1.length]? = some (.lst (ns.map .int)) ∧ ns.length = i ∧ (∀ a ∈ ns, 1 ≤ a ∧ a ≤ 1000000000000000000000000000000) ∧ s = ⟨[some (.cell k), some (.d (.int L)), some (.d (.int m)), some (.cell w1.length), o4, o5, o6], v⟩) := ⟨_, rfl⟩
  refine T_seq_of (P4 2) ?_ fun s hs => ?_
  · rw [T_sFor]
    simp [rng_ok]
    refine T_for (it := .rng 0 2) (xs := (List.range 2).map fun (i : Nat) => .int (0 + i)) rfl (Inv := P4) (fun i x s hx hI => ?_) (fun s hI => ⟨rfl, hI⟩) _ 0 _ (by simp [It'.fuel]) ?_
    · rw [hP4] at hI
      obtain ⟨o4, o5, o6, v, ns, d4, d5, d6, hu, hn, hc, hl, hb, rfl⟩ := hI
      obtain ⟨rfl, hi⟩ := rng_get hx
      have hk1 : w1.length ≠ k := by have := hu1.ok.lt; omega
      simp [sizeLine_eq, p6, hd3]
      refine (one_lst (by simp) (by simp) k v hu.ok).imp fun x w2 ⟨⟨hu2, hn2⟩, z, e, hz⟩ => ?_
      subst e
      have key : ∀ {xs : List D}, (∀ y ∈ xs, ∃ t : Int, y = .int t ∧ -1 ≤ t ∧ t ≤ 1000000000000000000000000000000) → z ∈ xs → ∃ t : Int, z = .int t ∧ -1 ≤ t ∧ t ≤ 1000000000000000000000000000000 := fun h m => h z m
      obtain ⟨t, rfl, t1, t2⟩ := key (by
        simp only [List.forall_mem_cons]
        refine ⟨?_, ?_, ?_, ?_, ?_, ?_, ?_, by simp⟩ <;> exact ⟨_, rfl, by omega, by omega⟩) hz
      simp [sizeLine_eq, hd2]
      refine (one_lst (by simp) (by simp) k w2 hu2.ok).imp fun x w3 ⟨⟨hu3, hn3⟩, z, e, hz⟩ => ?_
      subst e
      have key : ∀ {xs : List D}, (∀ y ∈ xs, ∃ t : Int, y = .int t ∧ 0 ≤ t ∧ t ≤ 1000000000000000000000000000000) → z ∈ xs → ∃ t : Int, z = .int t ∧ 0 ≤ t ∧ t ≤ 1000000000000000000000000000000 := fun h m => h z m
      obtain ⟨q, rfl, q1, q2⟩ := key (by
        simp only [List.forall_mem_cons]
        refine ⟨?_, ?_, ?_, ?_, ?_, by simp⟩ <;> exact ⟨_, rfl, by omega, by omega⟩) hz
      have hc2 : w3[w1.length]? = some (.lst (ns.map .int)) := by
        rw [hu3.same _ (by omega) hk1, hu2.same _ (by omega) hk1]
        exact hc
      have hmul : mulD (.int (if m < t then m else t)) (.int L) = some (.int ((if m < t then m else t) * L)) := mulD_int (mulOk_le (by rw [big40]; split <;> omega) (by rw [big40]; omega))
      simp [hc2, p30, hmul]
      generalize hside : (if 1 < (if (if m < t then m else t) * L + q < 1000000000000000000000000000000 then (if m < t then m else t) * L + q else 1000000000000000000000000000000) then (if (if m < t then m else t) * L + q < 1000000000000000000000000000000 then (if m < t then m else t) * L + q else 1000000000000000000000000000000) else 1) = side
      have hs : 1 ≤ side ∧ side ≤ 1000000000000000000000000000000 := by
        rw [← hside]
        generalize (if m < t then m else t) * L + q = z
        split <;> split <;> omega
      have ha : appM (ns.map D.int) [.int side] = some ((ns ++ [side]).map D.int, .non) := by
        show (if (ns.map D.int).length < sizeLine then some (ns.map D.int ++ [.int side], D.non) else none) = _
        rw [if_pos (by rw [List.length_map, sizeLine_eq]; omega), List.map_append]
        rfl
      rw [ha]
      have hu' := (hu.trans hu2).trans hu3
      have hk := hw.lt
      have hlen := hu1.len
      have hs4 : Upd k w (w3.set w1.length (.lst ((ns ++ [side]).map .int))) := hu'.set' hlen hk rfl
      refine ⟨_, Flat.trunc hs4.ok.flat _, ?_⟩
      rw [hP4]
      refine ⟨some (.d (.int i)), some (.d (.int t)), some (.d (.int q)), _, ns ++ [side], .inr ⟨_, rfl⟩, .inr ⟨_, rfl⟩, .inr ⟨_, rfl⟩, hs4, by simp; omega, ?_, by simp [hl], ?_, ?_⟩
      · rw [List.getElem?_set_self (by omega)]
      · intro a ha'
        rcases List.mem_append.mp ha' with ha' | ha'
        · exact hb a ha'
        · rw [List.mem_singleton] at ha'
          subst ha'
          exact hs
      · have e1 : dropG (w1.length + 1) (some (.cell w1.length)) = some (.cell w1.length) := dropG_lt (by omega)
        have e2 : dropG (w1.length + 1) (some (.cell k)) = some (.cell k) := dropG_lt (by omega)
        simp [e1, e2]
        rw [List.take_of_length_le (by simp; omega)]
    · rw [hP4]
      exact ⟨none, none, none, _, [], .inl rfl, .inl rfl, .inl rfl, hu1.trans (hu1.ok.append_upd (by simp)), by simp, by simp, rfl, by simp, rfl⟩
  rw [hP4] at hs
  obtain ⟨o4, o5, o6, v, ns, d4, d5, d6, hu, hn, hc, hl, hb, rfl⟩ := hs
  match ns, hl, hb, hc with
  | [a, b], _, hb, hc =>
    have ha := hb a (by simp)
    have hb := hb b (by simp)
    have hr : ∀ g, rd ⟨g, v⟩ (.cell w1.length) = some (.lst [.int a, .int b]) := fun g => rd_lst' hc
    simp [hr, sizeLine_eq]
    exact die_end hu hw ⟨a, b, L, rfl, ⟨ha.1, ha.2, hb.1, hb.2, l1, l2⟩, l3⟩
end Bf
namespace Bf
open PySem PySem.Spec PyProof.Rows L2
variable {w : List Cell} {Q : SV → List Cell → Prop}
/-! ### what the size's counts say, in numbers -/
def laidB (a b L : Int) : Bool := decide (a % L = 0) || decide (b % L = 0)
def oneB (a b L : Int) : Bool := decide (a * b = L) && decide (min a b = 1)
def narrowB (a b L : Int) : Bool := decide (min a b ≤ 2 * L) && !oneB a b L
def sixB (a b L : Int) : Bool := decide (a = 6) && (decide (b = 6) && decide (L = 2))
def bondB (a b L : Int) : Bool := oneB a b L || (laidB a b L && (!narrowB a b L && !sixB a b L))
def nd (o L : Int) : Int := if 0 < o % L then o % L else L
theorem if_min {a b : Int} : (if b < a then b else a) = min a b := by split <;> omega
/-- the numbers of a size -/
structure Nums (a b L : Int) : Prop where
  ab : mulD (.int a) (.int b) = some (.int (a * b))
  two : mulD (.int 2) (.int L) = some (.int (2 * L))
  dv : ∀ z, divD (.int z) (.int L) = some (.int (z / L))
  l : 0 < L
  sort : sortedB [.tup [.int a, .int b]] = some (.lst [.int (min a b), .int (max a b)])
  minT : numsT minI [.tup [.int a, .int b]] = some (.int (min a b))
  sl : slD (.tup [.int a, .int b, .int L]) none (some 2) = some (.tup [.int a, .int b])
theorem Sz.nums {a b L : Int} (h : Sz a b L) : Nums a b L := by
  obtain ⟨h1, h2, h3, h4, h5, h6⟩ := h
  have hL : 0 < L := by omega
  refine ⟨mulD_int (mulOk_le (by rw [big40]; omega) (by rw [big40]; omega)), mulD_left (by decide), fun z => divD_int ⟨hL, log_ok (by
    have e : (10 : Int) ^ 40 = 10000000000000000000000000000000000000000 := by decide
    rw [e]
    omega) hL⟩, hL, ?_, rfl, rfl⟩
  show some (D.lst ((sortZ [a, b]).map .int)) = _
  by_cases q : a ≤ b
  · have e1 : min a b = a := by omega
    have e2 : max a b = b := by omega
    rw [e1, e2]
    simp [sortZ, insZ, q]
  · have e1 : min a b = b := by omega
    have e2 : max a b = a := by omega
    rw [e1, e2]
    simp [sortZ, insZ, q]
theorem laid_spec' {a b L : Int} (h : Sz a b L) (hw : Flat w) : FT m_is_laid [.d (.tup [.int a, .int b, .int L])] w Q ↔ Q (.d (.bl (laidB a b L))) w := laid_spec h hw
theorem law_laid_spec' {a b L : Int} (h : Sz a b L) (hw : Flat w) : FT m__law_is_laid [.d (.tup [.int a, .int b, .int L])] w Q ↔ Q (.d (.bl (laidB a b L))) w := law_laid_spec h hw
theorem eqD_two {x y u v : Int} : eqD (.lst [.int x, .int y]) (.lst [.int u, .int v]) = some (.bl (decide (x = u) && decide (y = v))) := by
  have e : eqD (.lst [.int x, .int y]) (.lst [.int u, .int v]) = some (.bl (x == u && (y == v && true))) := rfl
  rw [e, Bool.and_true]
  rfl
theorem neD_three {a b c : Int} : neD (.tup [.int a, .int b, .int c]) (.kup [.int 6, .int 6, .int 2]) = some (.bl (!sixB a b c)) := by
  have e : neD (.tup [.int a, .int b, .int c]) (.kup [.int 6, .int 6, .int 2]) = some (.bl (!(a == 6 && (b == 6 && (c == 2 && true))))) := rfl
  rw [e, Bool.and_true]
  rfl
theorem one_spec' {a b L : Int} (h : Sz a b L) (hw : Flat w) : FT m_is_one_bar [.d (.tup [.int a, .int b, .int L])] w Q ↔ Q (.d (.bl (oneB a b L))) w := by
  unfold m_is_one_bar
  rw [FT_fn]
  obtain ⟨n1, n2, n3, n4, n5, n6, n7⟩ := h.nums
  by_cases q : a * b = L <;> simp [b_is_one_bar, n1, hw, if_min, oneB, q]
theorem narrow_spec {a b L : Int} (h : Sz a b L) (hw : Flat w) : FT m_is_narrow [.d (.tup [.int a, .int b, .int L])] w Q ↔ Q (.d (.bl (narrowB a b L))) w := by
  unfold m_is_narrow
  rw [FT_fn]
  obtain ⟨n1, n2, n3, n4, n5, n6, n7⟩ := h.nums
  by_cases q : min a b ≤ 2 * L <;> simp [b_is_narrow, n2, hw, if_min, narrowB, q, one_spec' h hw]
theorem bond_in_spec {a b L : Int} (h : Sz a b L) (hw : Flat w) : FT m_has_bond_in [.d (.tup [.int a, .int b, .int L])] w Q ↔ Q (.d (.bl (bondB a b L))) w := by
  unfold m_has_bond_in
  rw [FT_fn]
  cases q1 : oneB a b L <;> cases q2 : laidB a b L <;> cases q3 : narrowB a b L <;> simp [b_has_bond_in, hw, one_spec' h hw, laid_spec' h hw, narrow_spec h hw, neD_three, bondB, q1, q2, q3]
/-! ### needs -/
end Bf
namespace Bf
open PySem PySem.Spec PyProof.Rows L2
variable {w : List Cell} {Q : SV → List Cell → Prop}
/-! ### reasons -/
def wordD (s : Str) : D → Bool
  | .str t => s == t
  | _ => false
/-! ### the told reasons -/
/-- what is told -/
def toldD (a b L : Int) : D :=
  if bondB a b L = true then .non
  else if laidB a b L = true then (if narrowB a b L = true then .tup [.str "narrow"] else .tup [.str "few"])
  else .tup [.str "weights", .int (min (a % L) (b % L) - 1), .int ((a % L + b % L - 1) % L)]
theorem reason_in_spec {a b L : Int} (hs : Sz a b L) (hw : Flat w) : FT m_reason_in [.d (.tup [.int a, .int b, .int L])] w Q ↔ Q (.d (toldD a b L)) w := by
  unfold m_reason_in
  rw [FT_fn]
  obtain ⟨n1, n2, n3, n4, n5, n6, n7⟩ := hs.nums
  cases q1 : bondB a b L
  · cases q2 : laidB a b L
    · simp [b_reason_in, bond_in_spec hs hw, laid_spec' hs hw, q1, q2, n4, hw, if_min, toldD, sizeLine_eq]
    · cases q3 : narrowB a b L <;> simp [b_reason_in, bond_in_spec hs hw, laid_spec' hs hw, narrow_spec hs hw, q1, q2, q3, hw, toldD, sizeLine_eq]
  · simp [b_reason_in, bond_in_spec hs hw, q1, hw, toldD]
end Bf
namespace Bf
open PySem PySem.Spec PyProof.Rows L2
variable {w : List Cell} {Q : SV → List Cell → Prop} {E : Exc → List Cell → Prop}
/-- no size -/
def noPap : D → Bool
  | .tup [.str _, _] => false
  | _ => true
structure NoSz (x : D) : Prop where
  bas : Bas x
  no : sizeD (10 ^ 30) x = false
  np : noPap x = true
theorem require_no {x : D} (h : NoSz x) (hw : Flat w) (q : E ⟨.own 1, []⟩ w) : FE m_require_size [.d x] w Q E := by
  unfold m_require_size b_require_size
  rw [FE_fn]
  refine TEo_if ?_
  have hn := h.no
  have e30 : (10 : Int) ^ 30 = 1000000000000000000000000000000 := by decide
  rw [e30] at hn
  simp [is_size_spec h.bas hw, hn]
  refine TEo_raise ?_
  simp [hw, q]
/-! ### what the teller tells -/
theorem sel_size : selM subE exL hs__law_met ⟨.own 1, []⟩ = some (.str "size") := rfl
theorem ok_size : okStr (.str "size") = some (.d (.str "size")) := by
  show (if _ then _ else _) = _
  rw [if_pos (by decide +kernel)]
end Bf
namespace Bf
open PySem PySem.Spec PyProof.Rows L2
variable {w : List Cell} {Q : SV → List Cell → Prop} {E : Exc → List Cell → Prop}
theorem knows : ∀ xs : List D, (xs.all fun y => (tyD y).isSome) = true → ∀ y ∈ xs, Known y := fun xs h y m => List.all_eq_true.mp h y m
theorem nosz {x : D} (h : (match x with
    | .tup xs => (tyD x).isSome && xs.all fun y => (tyD y).isSome
    | _ => (tyD x).isSome) = true) (hn : sizeD 1000000000000000000000000000000 x = false) (hp : noPap x = true) : NoSz x := by
  have e30 : (10 : Int) ^ 30 = 1000000000000000000000000000000 := by decide
  refine ⟨?_, by rw [e30]; exact hn, hp⟩
  cases x with
  | tup xs =>
    dsimp only at h
    rw [Bool.and_eq_true] at h
    exact ⟨h.1, knows xs h.2⟩
  | _ => exact ⟨h, trivial⟩
theorem no_size_spec : Dies m__law_no_size [] fun y => NoSz y := by
  intro k w hw
  unfold m__law_no_size b__law_no_size
  rw [FT_fn]
  have e30 : (10 : Int) ^ 30 = 1000000000000000000000000000000 := by decide
  have p30 : powD (.int 10) (.int 30) = some (.int 1000000000000000000000000000000) := by rw [← e30]; exact pow30
  obtain ⟨P1, hP1⟩ : ∃ P : PS → Prop, P = (fun s => ∃ (xs : List D), (∀ y ∈ xs, NoSz y) ∧ xs.length ≤ 20 ∧ s = ⟨[some (.cell k), some (.d (.lst xs))], w⟩) := ⟨_, rfl⟩
  refine T_seq_of P1 ?_ fun s hs => ?_
  · simp [sizeLine_eq]
    rw [hP1]
    refine ⟨_, ?_, ?_, rfl⟩
    · simp only [List.forall_mem_cons]
      refine ⟨?_, ?_, ?_, ?_, ?_, ?_, ?_, ?_, ?_, ?_, ?_, ?_, by simp⟩ <;> exact nosz (by rfl) (by decide +kernel) (by rfl)
    · simp
  rw [hP1] at hs
  obtain ⟨xs, h1, h2, rfl⟩ := hs
  obtain ⟨P2, hP2⟩ : ∃ P : PS → Prop, P = (fun s => ∃ (xs : List D), (∀ y ∈ xs, NoSz y) ∧ xs.length ≤ 40 ∧ s = ⟨[some (.cell k), some (.d (.lst xs))], w⟩) := ⟨_, rfl⟩
  refine T_seq_of P2 ?_ fun s hs => ?_
  · simp [sizeLine_eq, p30]
    rw [addD_lst (small (by simp; omega))]
    simp
    rw [hP2]
    refine ⟨_, ?_, ?_, rfl⟩
    · intro y hy
      rcases List.mem_append.mp hy with hy | hy
      · exact h1 y hy
      · have key : ∀ {ys : List D}, (∀ y ∈ ys, NoSz y) → y ∈ ys → NoSz y := fun h m => h y m
        refine key ?_ hy
        simp only [List.forall_mem_cons]
        refine ⟨?_, ?_, ?_, ?_, ?_, ?_, by simp⟩ <;> exact nosz (by rfl) (by decide +kernel) (by rfl)
    · simp; omega
  rw [hP2] at hs
  obtain ⟨xs, h1, h2, rfl⟩ := hs
  simp [sizeLine_eq, p30]
  rw [addD_lst (small (by simp; omega))]
  simp
  refine (one_lst (by simp) (by simp; omega) k w hw).imp fun x w1 ⟨⟨hu1, hn1⟩, z, e, hz⟩ => ?_
  subst e
  refine die_end hu1 hw ?_
  rcases List.mem_append.mp hz with hy | hy
  · exact h1 z hy
  · have key : ∀ {ys : List D}, (∀ y ∈ ys, NoSz y) → z ∈ ys → NoSz z := fun h m => h z m
    refine key ?_ hy
    simp only [List.forall_mem_cons]
    refine ⟨?_, ?_, ?_, ?_, ?_, ?_, by simp⟩ <;> exact nosz (by rfl) (by decide +kernel) (by rfl)
end Bf
namespace Bf
open PySem PySem.Spec PyProof.Rows L2
variable {w : List Cell} {Q : SV → List Cell → Prop} {E : Exc → List Cell → Prop}
theorem big60 : (10 : Nat) ^ 60 = 1000000000000000000000000000000000000000000000000000000000000 := by decide
theorem Sz.rp {a b L : Int} (h : Sz a b L) : Rp (.tup [.int a, .int b, .int L]) (D.tup [.int a, .int b, .int L]).py.shown := by
  obtain ⟨h1, h2, h3, h4, h5, h6⟩ := h
  exact rp_three (by rw [big60]; omega) (by rw [big60]; omega) (by rw [big60]; omega)
end Bf
namespace Bf
open PySem PySem.Spec PyProof.Rows L2
variable {w : List Cell} {Q : SV → List Cell → Prop}
/-! ### rows of five -/
section
variable {α : Type} {a b c d e : α}
@[simp] theorem at5_0 : atI [a, b, c, d, e] 0 = some a := rfl
@[simp] theorem at5_1 : atI [a, b, c, d, e] 1 = some b := rfl
@[simp] theorem at5_2 : atI [a, b, c, d, e] 2 = some c := rfl
@[simp] theorem at5_3 : atI [a, b, c, d, e] 3 = some d := rfl
@[simp] theorem at5_4 : atI [a, b, c, d, e] 4 = some e := rfl
end
@[simp ↓] theorem T_hTup5 {g1 g2 g3 g4 g5 : MG} {a b c d e : D} {s : PS} {Q : Unit → PS → Prop} : T (hTup [g1, g2, g3, g4, g5] (.d (.tup [a, b, c, d, e])) s) Q ↔ T (g1 (.d a) s) fun _ s => T (g2 (.d b) s) fun _ s => T (g3 (.d c) s) fun _ s => T (g4 (.d d) s) fun _ s => T (g5 (.d e) s) Q := by
  unfold hTup
  simp only [rd_d]
  rw [if_pos (show [a, b, c, d, e].length = [g1, g2, g3, g4, g5].length from rfl)]
  unfold hAll
  rw [T_bind]
  refine iff_of_eq (congrArg (T _) (funext fun _ => funext fun s => ?_))
  unfold hAll
  rw [T_bind]
  refine congrArg (T _) (funext fun _ => funext fun s => ?_)
  unfold hAll
  rw [T_bind]
  refine congrArg (T _) (funext fun _ => funext fun s => ?_)
  unfold hAll
  rw [T_bind]
  refine congrArg (T _) (funext fun _ => funext fun s => ?_)
  unfold hAll
  rw [T_bind]
  refine congrArg (T _) (funext fun u => funext fun s => ?_)
  unfold hAll
  rw [T_ok]
/-! ### blocks -/
theorem sum_perm {l m : List Int} (h : l.Perm m) : l.sum = m.sum := by
  induction h with
  | nil => rfl
  | cons _ _ ih => rw [List.sum_cons, List.sum_cons, ih]
  | swap => simp only [List.sum_cons]; omega
  | trans _ _ h1 h2 => rw [h1, h2]
def wayS (u : Bool) : Str := if u = true then "across" else "down"
structure Blk where
  x : Int
  y : Int
  w : Int
  h : Int
  u : Bool
def blkD (p : Blk) : D := .tup [.int p.x, .int p.y, .int p.w, .int p.h, .str (wayS p.u)]
def unI : D → Int
  | .int i => i
  | _ => 0
def unU : D → Bool
  | .str s => s == "across"
  | _ => false
def unBlk : D → Blk
  | .tup [a, b, c, d, e] => ⟨unI a, unI b, unI c, unI d, unU e⟩
  | _ => ⟨0, 0, 0, 0, true⟩
theorem unBlk_d (p : Blk) : unBlk (blkD p) = p := by
  obtain ⟨x, y, w, h, u⟩ := p
  cases u <;> rfl
def blksD (bl : List Blk) : List D := bl.map blkD
theorem blks_len (bl : List Blk) : (blksD bl).length = bl.length := by unfold blksD; rw [List.length_map]
structure InB (a b L : Int) (p : Blk) : Prop where
  x0 : 0 ≤ p.x
  y0 : 0 ≤ p.y
  w0 : 1 ≤ p.w
  h0 : 1 ≤ p.h
  xw : p.x + p.w ≤ a
  yh : p.y + p.h ≤ b
  dv : (if p.u = true then p.w else p.h) % L = 0
def ApB (p q : Blk) : Prop := p.x + p.w ≤ q.x ∨ q.x + q.w ≤ p.x ∨ p.y + p.h ≤ q.y ∨ q.y + q.h ≤ p.y
theorem ApB.symm {p q : Blk} (h : ApB p q) : ApB q p := by
  unfold ApB at *
  omega
structure Blks (a b L : Int) (bl : List Blk) : Prop where
  len : bl.length ≤ 64
  inb : ∀ p ∈ bl, InB a b L p
  area : (bl.map fun p => p.w * p.h).sum = a * b
  ap : bl.Pairwise ApB
theorem Blks.perm {a b L : Int} {bl cl : List Blk} (h : Blks a b L bl) (hp : cl.Perm bl) : Blks a b L cl :=
  ⟨by rw [hp.length_eq]; exact h.len, fun p m => h.inb p (hp.mem_iff.mp m), by rw [sum_perm (hp.map _)]; exact h.area, (List.Perm.pairwise_iff (fun q => ApB.symm q) hp.symm).mp h.ap⟩
def exBlk (p : Blk) : Blk := ⟨p.y, p.x, p.h, p.w, !p.u⟩
theorem InB.ex {a b L : Int} {p : Blk} (h : InB a b L p) : InB b a L (exBlk p) := by
  obtain ⟨h1, h2, h3, h4, h5, h6, h7⟩ := h
  refine ⟨h2, h1, h4, h3, h6, h5, ?_⟩
  unfold exBlk
  cases hu : p.u <;> rw [hu] at h7 <;> simpa [hu] using h7
theorem Blks.ex {a b L : Int} {bl : List Blk} (h : Blks a b L bl) : Blks b a L (bl.map exBlk) := by
  refine ⟨by rw [List.length_map]; exact h.len, fun p m => ?_, ?_, ?_⟩
  · obtain ⟨q, hq, rfl⟩ := List.mem_map.mp m
    exact (h.inb q hq).ex
  · rw [List.map_map, Int.mul_comm b a, ← h.area]
    congr 1
    refine List.map_congr_left fun p _ => ?_
    show p.h * p.w = p.w * p.h
    exact Int.mul_comm _ _
  · rw [List.pairwise_map]
    refine h.ap.imp fun q => ?_
    unfold ApB exBlk at *
    dsimp only
    omega
/-! ### what the program says of them -/
theorem word_way (u : Bool) : inD (.str (wayS u)) (.kup [.str "across", .str "down"]) = some (.bl true) := by cases u <;> rfl
theorem way_eq (u : Bool) : eqD (.str (wayS u)) (.str "across") = some (.bl u) := by cases u <;> rfl
theorem word_of_way {u : Bool} (hw : Flat w) : FT m_is_word_of [.d (.str (wayS u)), .d (.kup [.str "across", .str "down"])] w Q ↔ Q (.d (.bl true)) w := by
  refine FT_iff ?_
  unfold m_is_word_of b_is_word_of
  rw [FT_fn]
  have e := word_way u
  generalize wayS u = s at *
  simp [e, hw]
  rfl
theorem is_block_spec {a b L : Int} {p : Blk} (h : InB a b L p) (hL : 2 ≤ L) (hw : Flat w) : FT m_is_block [.d (.tup [.int a, .int b, .int L]), .d (blkD p)] w Q ↔ Q (.d (.bl true)) w := by
  refine FT_iff ?_
  obtain ⟨x, y, pw, ph, u⟩ := p
  obtain ⟨h1, h2, h3, h4, h5, h6, h7⟩ := h
  dsimp only at h1 h2 h3 h4 h5 h6 h7
  have i1 : inR (.int x) 0 (a - 1) = true := by unfold inR; simp; omega
  have i2 : inR (.int y) 0 (b - 1) = true := by unfold inR; simp; omega
  have i3 : inR (.int pw) 1 (a - x) = true := by unfold inR; simp; omega
  have i4 : inR (.int ph) 1 (b - y) = true := by unfold inR; simp; omega
  have ml : ∀ z : Int, modD (.int z) (.int L) = some (.int (z % L)) := fun z => if_pos (by omega)
  have we := way_eq u
  have ww := fun {Q} => word_of_way (u := u) (Q := Q) hw
  unfold m_is_block b_is_block blkD
  rw [FT_fn]
  dsimp only
  generalize wayS u = s at *
  cases u <;> simp at h7 <;> simp [ww, i1, i2, i3, i4, ml, we, h7, hw, rowD]
theorem apart_spec {p q : Blk} (h : ApB p q) (hw : Flat w) : FT m_are_apart [.d (blkD p), .d (blkD q)] w Q ↔ Q (.d (.bl true)) w := by
  refine FT_iff ?_
  obtain ⟨x, y, pw, ph, u⟩ := p
  obtain ⟨x', y', pw', ph', u'⟩ := q
  unfold ApB at h
  dsimp only at h
  unfold m_are_apart b_are_apart blkD
  rw [FT_fn]
  dsimp only
  generalize wayS u = s at *
  generalize wayS u' = s' at *
  by_cases c1 : x + pw ≤ x'
  · simp [c1, leD, hw]
  · by_cases c2 : x' + pw' ≤ x
    · simp [c1, c2, leD, hw]
    · by_cases c3 : y + ph ≤ y'
      · simp [c1, c2, c3, leD, hw]
      · have c4 : y' + ph' ≤ y := by omega
        simp [c1, c2, c3, c4, leD, hw]
end Bf
namespace Bf
open PySem PySem.Spec PyProof.Rows L2
variable {w : List Cell} {Q : SV → List Cell → Prop}
/-! ### blocks within a rectangle -/
structure InR (rx ry rw rh : Int) (p : Blk) : Prop where
  x0 : rx ≤ p.x
  x1 : p.x + p.w ≤ rx + rw
  y0 : ry ≤ p.y
  y1 : p.y + p.h ≤ ry + rh
structure Strip (L rx ry rw rh : Int) (bl : List Blk) : Prop where
  inr : ∀ p ∈ bl, InR rx ry rw rh p
  w0 : ∀ p ∈ bl, 1 ≤ p.w
  h0 : ∀ p ∈ bl, 1 ≤ p.h
  dv : ∀ p ∈ bl, (if p.u = true then p.w else p.h) % L = 0
  ap : bl.Pairwise ApB
  area : (bl.map fun p => p.w * p.h).sum = rw * rh
theorem sum_app (l m : List Int) : (l ++ m).sum = l.sum + m.sum := by
  induction l with
  | nil => simp
  | cons a l ih => rw [List.cons_append, List.sum_cons, List.sum_cons, ih]; omega
theorem Strip.nil {L rx ry rw : Int} : Strip L rx ry rw 0 [] := ⟨by simp, by simp, by simp, by simp, .nil, by simp⟩
/-- one above the other -/
theorem Strip.below {L rx ry rw h1 h2 : Int} {b1 b2 : List Blk} (s1 : Strip L rx ry rw h1 b1) (s2 : Strip L rx (ry + h1) rw h2 b2) (p1 : 0 ≤ h1) (p2 : 0 ≤ h2) : Strip L rx ry rw (h1 + h2) (b1 ++ b2) := by
  refine ⟨fun p m => ?_, fun p m => (List.mem_append.mp m).elim (s1.w0 p) (s2.w0 p), fun p m => (List.mem_append.mp m).elim (s1.h0 p) (s2.h0 p), fun p m => (List.mem_append.mp m).elim (s1.dv p) (s2.dv p), ?_, ?_⟩
  · rcases List.mem_append.mp m with m | m
    · have := s1.inr p m
      exact ⟨this.x0, this.x1, this.y0, by have := this.y1; omega⟩
    · have := s2.inr p m
      exact ⟨this.x0, this.x1, by have := this.y0; omega, by have := this.y1; omega⟩
  · rw [List.pairwise_append]
    refine ⟨s1.ap, s2.ap, fun p hp q hq => ?_⟩
    have a1 := (s1.inr p hp).y1
    have a2 := (s2.inr q hq).y0
    unfold ApB
    omega
  · rw [List.map_append, sum_app, s1.area, s2.area, Int.mul_add]
theorem Strip.one {L rx ry rw rh : Int} {u : Bool} (w0 : 1 ≤ rw) (h0 : 1 ≤ rh) (dv : (if u = true then rw else rh) % L = 0) : Strip L rx ry rw rh [⟨rx, ry, rw, rh, u⟩] := by
  refine ⟨fun p m => ?_, fun p m => ?_, fun p m => ?_, fun p m => ?_, List.pairwise_singleton _ _, by simp⟩ <;> rw [List.mem_singleton] at m <;> subst m
  · constructor <;> dsimp only <;> omega
  · exact w0
  · exact h0
  · exact dv
def stackL (x y w : Int) : List (Int × Bool) → List Blk
  | [] => []
  | (h, u) :: r => (if 0 < h then [⟨x, y, w, h, u⟩] else []) ++ stackL x (y + h) w r
def sumH (hs : List (Int × Bool)) : Int := (hs.map Prod.fst).sum
theorem sumH_nonneg : ∀ {hs : List (Int × Bool)}, (∀ p ∈ hs, 0 ≤ p.1) → 0 ≤ sumH hs
  | [], _ => by simp [sumH]
  | p :: r, h => by
    have h1 := h p (by simp)
    have h2 := sumH_nonneg (hs := r) fun q m => h q (List.mem_cons_of_mem _ m)
    unfold sumH at *
    rw [List.map_cons, List.sum_cons]
    omega
theorem stack_strip {L x w : Int} (hw : 1 ≤ w) : ∀ (hs : List (Int × Bool)) (y : Int), (∀ p ∈ hs, 0 ≤ p.1) → (∀ p ∈ hs, 0 < p.1 → (if p.2 = true then w else p.1) % L = 0) → Strip L x y w (sumH hs) (stackL x y w hs)
  | [], y, _, _ => Strip.nil
  | (h, u) :: r, y, h0, hd => by
    have e : sumH ((h, u) :: r) = h + sumH r := by
      unfold sumH
      rw [List.map_cons, List.sum_cons]
    have p1 : 0 ≤ h := h0 (h, u) (by simp)
    have p2 := sumH_nonneg (hs := r) fun q m => h0 q (List.mem_cons_of_mem _ m)
    have ih := stack_strip (L := L) (x := x) hw r (y + h) (fun q m => h0 q (List.mem_cons_of_mem _ m)) fun q m => hd q (List.mem_cons_of_mem _ m)
    rw [e]
    unfold stackL
    refine Strip.below ?_ ih p1 p2
    by_cases hp : 0 < h
    · rw [if_pos hp]
      exact Strip.one hw (by omega) (hd (h, u) (by simp) hp)
    · rw [if_neg hp]
      obtain rfl : h = 0 := by omega
      exact Strip.nil
theorem stack_len {x w : Int} : ∀ (hs : List (Int × Bool)) (y : Int), (stackL x y w hs).length ≤ hs.length
  | [], _ => Nat.le_refl _
  | (h, u) :: r, y => by
    unfold stackL
    have := stack_len (x := x) (w := w) r (y + h)
    rw [List.length_append, List.length_cons]
    split <;> simp <;> omega
def bandL (x y L m : Int) : List Blk := [⟨x, y, 1, L, false⟩, ⟨x + 1, y, m * L, L, true⟩, ⟨x + 1 + m * L, y, L - 1, L, false⟩]
theorem band_strip {x y L m : Int} (hL : 2 ≤ L) (hm : 1 ≤ m) : Strip L x y ((m + 1) * L) L (bandL x y L m) := by
  have mL : L ≤ m * L := by
    have := Int.mul_le_mul_of_nonneg_right hm (show (0 : Int) ≤ L by omega)
    omega
  have e : (m + 1) * L = m * L + L := by rw [Int.add_mul, Int.one_mul]
  rw [e]
  generalize hA : m * L = A at *
  have dA : A % L = 0 := by rw [← hA]; exact Int.mul_emod_left _ _
  have dL : L % L = 0 := Int.emod_self
  unfold bandL
  rw [hA]
  refine ⟨fun p hp => ?_, fun p hp => ?_, fun p hp => ?_, fun p hp => ?_, ?_, ?_⟩
  · simp only [List.mem_cons, List.not_mem_nil, or_false] at hp
    rcases hp with rfl | rfl | rfl <;> constructor <;> dsimp only <;> omega
  · simp only [List.mem_cons, List.not_mem_nil, or_false] at hp
    rcases hp with rfl | rfl | rfl <;> dsimp only <;> omega
  · simp only [List.mem_cons, List.not_mem_nil, or_false] at hp
    rcases hp with rfl | rfl | rfl <;> dsimp only <;> omega
  · simp only [List.mem_cons, List.not_mem_nil, or_false] at hp
    rcases hp with rfl | rfl | rfl <;> simp [dA, dL]
  · simp only [List.pairwise_cons, List.mem_cons, List.not_mem_nil, or_false, forall_eq_or_imp, forall_eq, ApB]
    refine ⟨⟨by omega, by omega⟩, by omega, ?_, .nil⟩
    simp
  · simp only [List.map_cons, List.map_nil, List.sum_cons, List.sum_nil]
    grind
/-! ### the plan without seams -/
def lastH (b L : Int) : List (Int × Bool) :=
  if 0 < (b - L) % L then [((b - L) % L, true), ((b - L) / L * L, false)]
  else if 2 < L then [(2, true), (((b - L) / L - 1) * L, false), (L - 2, true)]
  else [(1, true), (2, false), (1, true), (b - 6, false)]
def firstH (b L : Int) : List (Int × Bool) :=
  if 0 < (b - L) % L then [((b - L) / L * L, false), ((b - L) % L, true)]
  else if 2 < L then [(1, true), (((b - L) / L - 1) * L, false), (L - 1, true)]
  else [(2, false), (1, true), (b - 6, false), (1, true)]
def midH (b L : Int) : List (Int × Bool) :=
  if 0 < (b - L) % L then [(b - 2 * L, true)]
  else if 2 < L then [(b - 2 * L, true)]
  else [(1, true), (2, false), (b - 7, true)]
structure Wide (a b L : Int) : Prop where
  l0 : 2 ≤ L
  aL : a % L = 0
  a2 : 2 * L < a
  b2 : 2 * L < b
  no : ¬ (L = 2 ∧ b = 6)
structure HOk (L w t : Int) (hs : List (Int × Bool)) : Prop where
  nn : ∀ p ∈ hs, 0 ≤ p.1
  dv : ∀ p ∈ hs, 0 < p.1 → (if p.2 = true then w else p.1) % L = 0
  su : sumH hs = t
  ln : hs.length ≤ 4
theorem hok_all {a b L : Int} (h : Wide a b L) : HOk L L (b - L) (lastH b L) ∧ HOk L L (b - L) (firstH b L) ∧ HOk L (a - 2 * L) (b - 2 * L) (midH b L) := by
  obtain ⟨l0, aL, a2, b2, no⟩ := h
  have dL : L % L = 0 := Int.emod_self
  have q := Int.mul_ediv_add_emod (b - L) L
  have r0 := Int.emod_nonneg (b - L) (show L ≠ 0 by omega)
  have r1 := Int.emod_lt_of_pos (b - L) (show 0 < L by omega)
  have da : (a - 2 * L) % L = 0 := by
    rw [show a - 2 * L = a + (-2) * L by omega, Int.add_mul_emod_self_right]
    exact aL
  unfold lastH firstH midH
  generalize hm : (b - L) / L = m at *
  generalize hr : (b - L) % L = r at *
  have dm : m * L % L = 0 := Int.mul_emod_left _ _
  have dm1 : (m - 1) * L % L = 0 := Int.mul_emod_left _ _
  have cm : L * m = m * L := Int.mul_comm _ _
  have e1 : (m - 1) * L = m * L - L := by rw [Int.sub_mul, Int.one_mul]
  rw [cm] at q
  by_cases c1 : 0 < r
  · rw [if_pos c1, if_pos c1, if_pos c1]
    have m0 : 0 ≤ m * L := by omega
    refine ⟨⟨?_, ?_, ?_, by simp⟩, ⟨?_, ?_, ?_, by simp⟩, ⟨?_, ?_, ?_, by simp⟩⟩
    all_goals simp [sumH, dL, dm, da]
    all_goals omega
  · rw [if_neg c1, if_neg c1, if_neg c1]
    obtain rfl : r = 0 := by omega
    by_cases c2 : 2 < L
    · rw [if_pos c2, if_pos c2, if_pos c2]
      refine ⟨⟨?_, ?_, ?_, by simp⟩, ⟨?_, ?_, ?_, by simp⟩, ⟨?_, ?_, ?_, by simp⟩⟩
      all_goals simp [sumH, dL, dm1, da]
      all_goals omega
    · rw [if_neg c2, if_neg c2, if_neg c2]
      obtain rfl : L = 2 := by omega
      refine ⟨⟨?_, ?_, ?_, by simp⟩, ⟨?_, ?_, ?_, by simp⟩, ⟨?_, ?_, ?_, by simp⟩⟩
      all_goals simp [sumH, da]
      all_goals omega
def wideL (a b L : Int) : List Blk := bandL 0 0 L (a / L - 2) ++ bandL L (b - L) L (a / L - 2) ++ (stackL (a - L) 0 L (lastH b L) ++ stackL 0 L L (firstH b L) ++ stackL L L (a - L - L) (midH b L))
theorem cross_ap {b1 b2 : List Blk} {x y rw rh x' y' rw' rh' : Int} (h1 : ∀ p ∈ b1, InR x y rw rh p) (h2 : ∀ p ∈ b2, InR x' y' rw' rh' p) (d : x + rw ≤ x' ∨ x' + rw' ≤ x ∨ y + rh ≤ y' ∨ y' + rh' ≤ y) : ∀ p ∈ b1, ∀ q ∈ b2, ApB p q := fun p hp q hq => by
  have a := h1 p hp
  have b := h2 q hq
  obtain ⟨a1, a2, a3, a4⟩ := a
  obtain ⟨b1, b2, b3, b4⟩ := b
  unfold ApB
  omega
theorem Strip.inb {a b L x y rw rh : Int} {bl : List Blk} (s : Strip L x y rw rh bl) (x0 : 0 ≤ x) (y0 : 0 ≤ y) (xa : x + rw ≤ a) (yb : y + rh ≤ b) : ∀ p ∈ bl, InB a b L p := fun p m => by
  have i := s.inr p m
  obtain ⟨i1, i2, i3, i4⟩ := i
  exact ⟨by omega, by omega, s.w0 p m, s.h0 p m, by omega, by omega, s.dv p m⟩
theorem wide_blks {a b L : Int} (h : Wide a b L) : Blks a b L (wideL a b L) := by
  obtain ⟨k1, k2, k3⟩ := hok_all h
  obtain ⟨l0, aL, a2, b2, no⟩ := h
  have q := Int.mul_ediv_add_emod a L
  rw [aL] at q
  have cm : L * (a / L) = (a / L) * L := Int.mul_comm _ _
  have m3 : 3 ≤ a / L := by
    refine Decidable.byContradiction fun z => ?_
    have : (a / L) * L ≤ 2 * L := Int.mul_le_mul_of_nonneg_right (by omega) (by omega)
    omega
  have sA := band_strip (x := 0) (y := 0) (L := L) (m := a / L - 2) l0 (by omega)
  have sB := band_strip (x := L) (y := b - L) (L := L) (m := a / L - 2) l0 (by omega)
  have eW : (a / L - 2 + 1) * L = a - L := by
    rw [show a / L - 2 + 1 = a / L - 1 by omega, Int.sub_mul, Int.one_mul]
    omega
  rw [eW] at sA sB
  have sC := stack_strip (L := L) (x := a - L) (w := L) (by omega) (lastH b L) 0 k1.nn k1.dv
  have sD := stack_strip (L := L) (x := 0) (w := L) (by omega) (firstH b L) L k2.nn k2.dv
  have e2 : a - L - L = a - 2 * L := by omega
  have sE := stack_strip (L := L) (x := L) (w := a - 2 * L) (by omega) (midH b L) L k3.nn k3.dv
  rw [k1.su] at sC
  rw [k2.su] at sD
  rw [k3.su] at sE
  have l1 := stack_len (x := a - L) (w := L) (lastH b L) 0
  have l2 := stack_len (x := 0) (w := L) (firstH b L) L
  have l3 := stack_len (x := L) (w := a - 2 * L) (midH b L) L
  have n1 := k1.ln
  have n2 := k2.ln
  have n3 := k3.ln
  unfold wideL
  rw [e2]
  generalize stackL (a - L) 0 L (lastH b L) = C at *
  generalize stackL 0 L L (firstH b L) = DD at *
  generalize stackL L L (a - 2 * L) (midH b L) = EE at *
  have nA : (bandL 0 0 L (a / L - 2)).length = 3 := rfl
  have nB : (bandL L (b - L) L (a / L - 2)).length = 3 := rfl
  generalize bandL 0 0 L (a / L - 2) = AA at *
  generalize bandL L (b - L) L (a / L - 2) = BB at *
  refine ⟨by simp only [List.length_append]; omega, fun p m => ?_, ?_, ?_⟩
  · simp only [List.mem_append] at m
    rcases m with (m | m) | ((m | m) | m)
    · exact sA.inb (by omega) (by omega) (by omega) (by omega) p m
    · exact sB.inb (by omega) (by omega) (by omega) (by omega) p m
    · exact sC.inb (by omega) (by omega) (by omega) (by omega) p m
    · exact sD.inb (by omega) (by omega) (by omega) (by omega) p m
    · exact sE.inb (by omega) (by omega) (by omega) (by omega) p m
  · simp only [List.map_append, sum_app, sA.area, sB.area, sC.area, sD.area, sE.area]
    grind
  · rw [List.pairwise_append, List.pairwise_append, List.pairwise_append, List.pairwise_append]
    refine ⟨⟨sA.ap, sB.ap, cross_ap sA.inr sB.inr (by omega)⟩, ⟨⟨sC.ap, sD.ap, cross_ap sC.inr sD.inr (by omega)⟩, sE.ap, fun p hp q hq => ?_⟩, fun p hp q hq => ?_⟩
    · rcases List.mem_append.mp hp with hp | hp
      · exact cross_ap sC.inr sE.inr (by omega) p hp q hq
      · exact cross_ap sD.inr sE.inr (by omega) p hp q hq
    · simp only [List.mem_append] at hp hq
      rcases hp with hp | hp <;> rcases hq with (hq | hq) | hq
      · exact cross_ap sA.inr sC.inr (by omega) p hp q hq
      · exact cross_ap sA.inr sD.inr (by omega) p hp q hq
      · exact cross_ap sA.inr sE.inr (by omega) p hp q hq
      · exact cross_ap sB.inr sC.inr (by omega) p hp q hq
      · exact cross_ap sB.inr sD.inr (by omega) p hp q hq
      · exact cross_ap sB.inr sE.inr (by omega) p hp q hq
end Bf
namespace Bf
open PySem PySem.Spec PyProof.Rows L2
variable {w : List Cell} {Q : SV → List Cell → Prop}
/-! ### blocks that are judged -/
theorem isum {xs : List D} {ns : List Int} (h : intsD xs = some ns) : sumX [.lst xs] = some (.int ns.sum) := by
  show sumB [.lst xs] = _
  unfold sumB
  dsimp only
  rw [h]
theorem intsD_map {α : Type} {xs : List α} {f : α → Int} : intsD (xs.map fun d => D.int (f d)) = some (xs.map f) := by
  induction xs with
  | nil => rfl
  | cons x xs ih =>
    rw [List.map_cons, intsD, ih]
    rfl
theorem two200 : (2 : Nat) ^ 200 = 1606938044258990275541962092341162602522202993782792835301376 := by decide
theorem mulD_mid {x y : Int} (hx : x.natAbs < 2 ^ 200) (hy : y.natAbs < 2 ^ 200) : mulD (.int x) (.int y) = some (.int (x * y)) := by
  show (if mulOk x y = true then some (D.int (x * y)) else none) = _
  rw [if_pos]
  unfold mulOk
  have h1 : x.natAbs.log2 ≤ 200 := by
    by_cases h0 : x.natAbs = 0
    · rw [h0]; decide
    · exact Nat.le_of_lt ((Nat.log2_lt h0).mpr hx)
  have h2 : y.natAbs.log2 ≤ 200 := by
    by_cases h0 : y.natAbs = 0
    · rw [h0]; decide
    · exact Nat.le_of_lt ((Nat.log2_lt h0).mpr hy)
  have : decide (x.natAbs.log2 + y.natAbs.log2 < 1000000) = true := decide_eq_true (by omega)
  rw [this, Bool.or_true]
theorem Sz.big {a b L : Int} (h : Sz a b L) : a ≤ 1000000000000000000000000000000 ∧ b ≤ 1000000000000000000000000000000 ∧ L ≤ 1000000000000000000000000000000 := by
  obtain ⟨h1, h2, h3, h4, h5, h6⟩ := h
  omega
theorem mul_big {x y : Int} (x0 : 0 ≤ x) (x1 : x ≤ 1000000000000000000000000000000) (y0 : 0 ≤ y) (y1 : y ≤ 1000000000000000000000000000000) : mulD (.int x) (.int y) = some (.int (x * y)) :=
  mulD_mid (by rw [two200]; omega) (by rw [two200]; omega)
theorem cut_from {α : Type} (xs : List α) (i : Nat) : cutD xs (some ((i : Int) + 1)) none = xs.drop (i + 1) := by
  unfold cutD
  rw [show ((i : Int) + 1) = ((i + 1 : Nat) : Int) by omega, HT.sIx_nat, HT.sIx_none]
  by_cases h : i + 1 ≤ xs.length
  · rw [Nat.min_eq_left h, List.take_of_length_le (by rw [List.length_drop]; omega)]
  · rw [List.drop_of_length_le (by omega), List.drop_of_length_le (by omega), List.take_nil]
def prodD (d : D) : Int := (unBlk d).w * (unBlk d).h
theorem prod_blk (p : Blk) : prodD (blkD p) = p.w * p.h := by unfold prodD; rw [unBlk_d]
def restD (bl : List Blk) (p : D × D) : List D := match p.1 with
  | .int i => (blksD bl).drop (i.toNat + 1)
  | _ => []
theorem num_mem {bl : List Blk} {p : D × D} (m : p ∈ numB (blksD bl)) : ∃ (i : Nat) (q : Blk), p = (.int (i : Int), blkD q) ∧ bl[i]? = some q := by
  obtain ⟨i, hi⟩ := List.getElem?_of_mem m
  rw [numB_at] at hi
  unfold blksD at hi
  rw [List.getElem?_map] at hi
  cases q : bl[i]? with
  | none => rw [q] at hi; cases hi
  | some b =>
    rw [q] at hi
    cases hi
    exact ⟨i, b, rfl, q⟩
theorem rest_ap {a b L : Int} {bl : List Blk} (h : Blks a b L bl) {i : Nat} {q : Blk} (hq : bl[i]? = some q) : ∀ r ∈ bl.drop (i + 1), ApB q r := fun r hr => by
  have hp := h.ap
  have hi := (List.getElem?_eq_some_iff.mp hq).1
  have e : bl.drop i = q :: bl.drop (i + 1) := by
    rw [List.drop_eq_getElem_cons hi, (List.getElem?_eq_some_iff.mp hq).2]
  have := hp.drop (i := i)
  rw [e] at this
  exact (List.pairwise_cons.mp this).1 r hr
theorem flat_small {bl : List Blk} (h : bl.length ≤ 64) : ((numB (blksD bl)).flatMap fun x => (restD bl x).map fun _ => D.bl true).length ≤ 4096 := by
  have key : ∀ (l : List (D × D)), (∀ x ∈ l, x ∈ numB (blksD bl)) → (l.flatMap fun x => (restD bl x).map fun _ => D.bl true).length ≤ l.length * 64 := by
    intro l
    induction l with
    | nil => intro _; simp
    | cons x l ih =>
      intro hm
      have := ih fun y my => hm y (List.mem_cons_of_mem _ my)
      obtain ⟨i, q, rfl, _⟩ := num_mem (hm x (by simp))
      have e : (restD bl (.int (i : Int), blkD q)).length ≤ 64 := by
        show ((blksD bl).drop _).length ≤ 64
        rw [List.length_drop, blks_len]
        omega
      rw [List.flatMap_cons, List.length_append, List.length_map, List.length_cons]
      omega
  have := key _ fun x m => m
  rw [numB_len, blks_len] at this
  omega
theorem flat_true {l : List (D × D)} {ys : D × D → List D} : (l.flatMap fun x => (ys x).map fun _ => D.bl true) = (l.flatMap ys).map fun d => D.bl ((fun _ => true) d) := by
  rw [List.map_flatMap]
theorem are_blocks_spec {a b L : Int} {bl : List Blk} (hs : Sz a b L) (h : Blks a b L bl) (hw : Flat w) : FT m_are_blocks [.d (.tup [.int a, .int b, .int L]), .d (.tup (blksD bl))] w Q ↔ Q (.d (.bl true)) w := by
  refine FT_iff ?_
  have l0 := hs.l0
  have a0 := hs.a0
  have b0 := hs.b0
  obtain ⟨a9, b9, l9⟩ := hs.big
  have hlen := h.len
  have hbl := blks_len bl
  have n64 : ¬ (64 < (bl.length : Int)) := by omega
  unfold m_are_blocks b_are_blocks
  rw [FT_fn]
  generalize hg : ([SV.d (.tup [.int a, .int b, .int L]), .d (.tup (blksD bl))].map some ++ List.replicate (7 - [SV.d (.tup [.int a, .int b, .int L]), .d (.tup (blksD bl))].length) none : List (Option SV)) = g
  have hg : g = [some (.d (.tup [.int a, .int b, .int L])), some (.d (.tup (blksD bl))), none, none, none, none, none] := hg.symm
  have hsl : ∀ n, Slots n g := fun n k hk => by
    rw [hg] at hk
    simp at hk
  refine T_seq_of (fun s => s = ⟨g, w ++ [.gone]⟩) ?_ fun s e => ?_
  · subst hg
    simp [hbl, n64]
    refine T_flc_map (it := .seq (blksD bl)) (xs := blksD bl) (p := fun _ => true) (f := fun _ => .bl true) ?_ rfl rfl (hsl _) hw ?_ ?_ ?_
    · simp
    · rw [hbl, sizeLine_eq]; omega
    · intro x hx v hv
      obtain ⟨p, hp', rfl⟩ := List.mem_map.mp hx
      simp
      rw [is_block_spec (h.inb p hp') l0 (by simp [hw, hv])]
      simp
    · have e : ((blksD bl).filter (fun _ => true)).map (fun _ => D.bl true) = (blksD bl).map fun d => D.bl ((fun _ => true) d) := by rw [List.filter_eq_self.mpr (fun _ _ => rfl)]
      rw [e]
      simp
  subst e
  have fw : Flat (w ++ [Cell.gone]) := hw.append (Flat.one rfl)
  refine T_seq_of (fun s => s = ⟨g, w ++ [.gone] ++ [.gone]⟩) ?_ fun s e => ?_
  · have m1 := mul_big (x := a) (y := b) (by omega) a9 (by omega) b9
    subst hg
    simp only [T_sIf, T_cVal, T_op, T_B, T_cons, T_frz]
    refine T_flc_map (it := .seq (blksD bl)) (xs := blksD bl) (p := fun _ => true) (f := fun d => .int (prodD d)) ?_ rfl rfl (hsl _) fw ?_ ?_ ?_
    · simp
    · rw [hbl, sizeLine_eq]; omega
    · intro x hx v hv
      obtain ⟨p, hp', rfl⟩ := List.mem_map.mp hx
      have ib := h.inb p hp'
      obtain ⟨i1, i2, i3, i4, i5, i6, i7⟩ := ib
      have m2 := mul_big (x := p.w) (y := p.h) (by omega) (by omega) (by omega) (by omega)
      rw [prod_blk]
      unfold blkD
      simp [m2]
    · have e : ((blksD bl).filter (fun _ => true)).map (fun d => D.int (prodD d)) = bl.map fun p => D.int (p.w * p.h) := by
        rw [List.filter_eq_self.mpr (fun _ _ => rfl)]
        unfold blksD
        rw [List.map_map]
        refine List.map_congr_left fun p _ => ?_
        show D.int (prodD (blkD p)) = _
        rw [prod_blk]
      have sm := isum (intsD_map (xs := bl) (f := fun p : Blk => p.w * p.h))
      rw [h.area] at sm
      have ne : neD (.int (a * b)) (.int (a * b)) = some (.bl false) := by
        show some (D.bl _) = _
        simp [D.eqv, PyData.eqv, D.py]
      rw [e]
      generalize (bl.map fun p => D.int (p.w * p.h)) = XS at *
      simp [sm, m1, ne]
  subst e
  have fw2 : Flat (w ++ [Cell.gone] ++ [Cell.gone]) := fw.append (Flat.one rfl)
  subst hg
  simp only [T_ret, T_B, T_cons, T_frz]
  refine T_flc2P (it := .prs (numB (blksD bl))) (ps := numB (blksD bl)) (ys := restD bl) (f := fun _ _ => .bl true) ?_ rfl rfl rfl rfl (by decide) (by decide) (by decide) (hsl _) fw2 ?_ ?_ ?_ ?_
  · simp [jEnum]
  · intro p hp v hv
    obtain ⟨i, q, rfl, hq⟩ := num_mem hp
    simp [slD, cut_from, restD, It'.list, isFix]
  · intro p hp y hy v hv
    obtain ⟨i, q, rfl, hq⟩ := num_mem hp
    have hy : y ∈ (blksD bl).drop (i + 1) := hy
    unfold blksD at hy
    rw [← List.map_drop] at hy
    obtain ⟨r, hr, rfl⟩ := List.mem_map.mp hy
    simp
    rw [apart_spec (rest_ap h hq r hr) (by simp [hw, hv])]
    simp
  · have := flat_small hlen
    rw [sizeLine_eq]
    omega
  · rw [flat_true]
    simp [hw]
end Bf
namespace Bf
open PySem PySem.Spec PyProof.Rows L2
variable {w : List Cell} {Q : SV → List Cell → Prop}
/-! ### plans are made -/
def keyP (p : Blk) : List Key := [.inl p.x, .inl p.y, .inl p.w, .inl p.h, .inr (wayS p.u)]
def knownP (bl : List Blk) : List (List D × D) := putAll [] (bl.map fun p => (keyP p, .bl true))
def planD (bl : List Blk) (a b L : Int) : List (Str × D) := [("own_size", .tup [.int a, .int b, .int L]), ("own_blocks", .tup (sortD (blksD bl))), ("own_known", .dit (knownP bl))]
theorem blks_sort {bl : List Blk} (h : bl.length ≤ 64) : sortedX [.tup (blksD bl)] = some (.lst (sortD (blksD bl))) := by
  show sorD (blksD bl) = _
  unfold sorD
  rw [if_pos]
  refine ⟨?_, ?_, ?_, by rw [blks_len, sizeLine_eq]; omega, ?_⟩
  · rw [D.plains_all, List.all_eq_true]
    intro d hd
    obtain ⟨p, _, rfl⟩ := List.mem_map.mp hd
    rfl
  · unfold alikeB
    rw [List.all_eq_true]
    intro d hd
    rw [List.all_eq_true]
    intro e he
    obtain ⟨p, _, rfl⟩ := List.mem_map.mp hd
    obtain ⟨q, _, rfl⟩ := List.mem_map.mp he
    rfl
  · unfold sortableB
    rw [Bool.or_eq_true]
    left
    rw [List.all_eq_true]
    intro d hd
    obtain ⟨p, _, rfl⟩ := List.mem_map.mp hd
    rfl
  · rw [List.all_eq_true]
    intro d hd
    obtain ⟨p, _, rfl⟩ := List.mem_map.mp hd
    rfl
theorem sorted_blks (bl : List Blk) : ∃ bl', sortD (blksD bl) = blksD bl' ∧ bl'.Perm bl := by
  have hp : (sortD (blksD bl)).Perm (blksD bl) := List.mergeSort_perm _ _
  refine ⟨(sortD (blksD bl)).map unBlk, ?_, ?_⟩
  · unfold blksD at hp ⊢
    rw [List.map_map]
    conv => lhs; rw [← List.map_id (sortD (bl.map blkD))]
    refine List.map_congr_left fun d hd => ?_
    obtain ⟨p, _, rfl⟩ := List.mem_map.mp (hp.mem_iff.mp hd)
    show blkD p = blkD (unBlk (blkD p))
    rw [unBlk_d]
  · have := hp.map unBlk
    unfold blksD at this ⊢
    rw [List.map_map] at this
    rw [show unBlk ∘ blkD = id from funext unBlk_d, List.map_id] at this
    exact this
theorem Sz.bas {a b L : Int} : Bas (.tup [.int a, .int b, .int L]) := ⟨rfl, by simp⟩
theorem sz_spec {a b L : Int} (h : Sz a b L) (hw : Flat w) : FT m_is_size [.d (.tup [.int a, .int b, .int L])] w Q ↔ Q (.d (.bl true)) w := by
  rw [is_size_spec Sz.bas hw, h.size]
theorem pinit_spec {bl : List Blk} {a b L : Int} (hs : Sz a b L) (h : Blks a b L bl) (hw : Flat w) :
    FT m_Plan_init [.cell w.length, .d (.tup [.int a, .int b, .int L]), .d (.tup (blksD bl))] (w ++ [.ins 0 []]) fun x w' => x = .d .non ∧ w' = w ++ [.ins 0 ((planD bl a b L).map fun p => (p.1, .d p.2))] := by
  have hbl := blks_len bl
  have hlen := h.len
  have fw : Flat (w ++ [Cell.ins 0 []]) := hw.append (Flat.one rfl)
  unfold m_Plan_init b_Plan_init
  rw [FT_fn]
  generalize hg : ([SV.cell w.length, .d (.tup [.int a, .int b, .int L]), .d (.tup (blksD bl))].map some ++ List.replicate (4 - [SV.cell w.length, .d (.tup [.int a, .int b, .int L]), .d (.tup (blksD bl))].length) none : List (Option SV)) = g
  have hg : g = [some (.cell w.length), some (.d (.tup [.int a, .int b, .int L])), some (.d (.tup (blksD bl))), none] := hg.symm
  have hsl : ∀ n, w.length < n → Slots n g := fun n hn k hk => by
    rw [hg] at hk
    simp at hk
    omega
  refine T_seq_of (fun s => s = ⟨g, w ++ [.ins 0 []]⟩) ?_ fun s e => ?_
  · subst hg
    simp [sz_spec hs fw, are_blocks_spec hs h fw]
  subst e
  refine T_seq_of (fun s => s = ⟨g, w ++ [.ins 0 [("own_size", .d (.tup [.int a, .int b, .int L]))]]⟩) (T_fldA ?_) fun s e => ?_
  · subst hg
    simp
    exact ⟨0, _, ⟨rfl, rfl⟩, rfl, by simp, rfl, rfl⟩
  subst e
  refine T_seq_of (fun s => s = ⟨g, w ++ [.ins 0 [("own_size", .d (.tup [.int a, .int b, .int L])), ("own_blocks", .d (.tup (sortD (blksD bl))))]]⟩) (T_fldA ?_) fun s e => ?_
  · subst hg
    have e : ∀ xs, tupleB [.lst xs] = some (.tup xs) := fun _ => rfl
    simp [blks_sort hlen, e]
    exact ⟨0, _, ⟨rfl, rfl⟩, rfl, by simp, rfl, rfl⟩
  subst e
  refine T_fldA ?_
  refine T_fdc (it := .seq (blksD bl)) (ys := blksD bl) (key := fun x => keyP (unBlk x)) (val := fun _ => .bl true) ?_ rfl ?_ (hsl _ ?_) ?_ ?_ ?_ ?_
  · subst hg; simp
  · subst hg; rfl
  · simp
  · simp [hw, flatC]
    exact ⟨rfl, rfl⟩
  · intro x hx v hv
    obtain ⟨p, hp', rfl⟩ := List.mem_map.mp hx
    rw [unBlk_d]
    subst hg
    simp [keyP, keyD, blkD]
  · rw [hbl, sizeLine_eq]; omega
  · have e : (blksD bl).map (fun y => (keyP (unBlk y), D.bl true)) = bl.map fun p => (keyP p, .bl true) := by
      unfold blksD
      rw [List.map_map]
      refine List.map_congr_left fun p _ => ?_
      show (keyP (unBlk (blkD p)), _) = _
      rw [unBlk_d]
    rw [e]
    subst hg
    simp [hw, flatC]
    refine ⟨0, _, ⟨rfl, rfl⟩, rfl, by simp, ?_⟩
    have ep : ∀ v a1 a2 : SV, putS "own_known" v [("own_size", a1), ("own_blocks", a2)] = ([("own_size", a1), ("own_blocks", a2), ("own_known", v)] : List (Str × SV)) := fun _ _ _ => rfl
    rw [ep, Flat.ret (by simp [hw, flatC]; exact ⟨rfl, rfl, rfl⟩)]
    refine ⟨rfl, ?_⟩
    rw [List.take_append]
    simp [planD, knownP]
    exact List.take_of_length_le (by omega)
theorem pinit_of {bl : List Blk} {a b L : Int} {k : Nat} (hs : Sz a b L) (h : Blks a b L bl) (hw : Flat w) (hk : k = w.length) (q : Q (.d .non) (w ++ [.ins 0 ((planD bl a b L).map fun p => (p.1, .d p.2))])) :
    FT w_Plan_init (.cell k :: .d (.tup [.int a, .int b, .int L]) :: ((blksD bl).map .d ++ [])) (w ++ [.ins 0 []]) Q := by
  subst hk
  rw [List.append_nil]
  refine FT_star (ds := blksD bl) (by simp) (datS_d _) (by rw [blks_len, sizeLine_eq]; have := h.len; omega) ?_
  refine (pinit_spec hs h hw).imp fun x w' ⟨e1, e2⟩ => ?_
  subst e1 e2
  exact q
theorem pof_spec {bl : List Blk} {a b L : Int} (hs : Sz a b L) (h : Blks a b L bl) (hw : Flat w) : FT m_Plan_of [.d (.cls 0), .d (.tup [.int a, .int b, .int L]), .d (.tup (blksD bl))] w Q ↔ Q (.d (.ins 0 (planD bl a b L))) w := by
  refine FT_iff ?_
  unfold m_Plan_of b_Plan_of
  rw [FT_fn]
  refine T_seq_of (fun s => s = ⟨[some (.d (.cls 0)), some (.d (.tup [.int a, .int b, .int L])), some (.d (.tup (blksD bl)))], w⟩) ?_ fun s e => ?_
  · simp [isTupD]
  subst e
  rw [T_ret]
  refine T_mk ?_
  simp only [T_var, List.getElem?_cons_zero, OD_some]
  refine ⟨trivial, ?_⟩
  rw [T_cons]
  simp only [T_var, List.getElem?_cons_succ, List.getElem?_cons_zero, OD_some]
  refine T_star ?_
  simp only [T_var, List.getElem?_cons_succ, List.getElem?_cons_zero, OD_some]
  refine ⟨blksD bl, .inl rfl, ?_⟩
  simp only [T_nil]
  refine pinit_of hs h hw rfl ?_
  refine ⟨rfl, T_frzI (fs := (planD bl a b L).map fun p => (p.1, .d p.2)) (gs := planD bl a b L) ?_ (datF_d _) ?_⟩
  · simp
  · dsimp only
    simp [hw, subG]
/-! ### exchanged -/
theorem other_way {u : Bool} (hw : Flat w) : FT m_other_way [.d (.str (wayS u))] w Q ↔ Q (.d (.str (wayS (!u)))) w := by
  refine FT_iff ?_
  unfold m_other_way b_other_way
  rw [FT_fn]
  have e1 := way_eq u
  cases u
  · have e2 : wayS (!false) = "across" := rfl
    rw [e2]
    generalize wayS false = s at *
    simp [e1, hw]
  · have e2 : wayS (!true) = "down" := rfl
    rw [e2]
    generalize wayS true = s at *
    simp [e1, hw]
theorem exblk_spec {p : Blk} (hw : Flat w) : FT m_exchanged_block [.d (blkD p)] w Q ↔ Q (.d (blkD (exBlk p))) w := by
  refine FT_iff ?_
  obtain ⟨x, y, pw, ph, u⟩ := p
  have ow := fun {Q} => other_way (w := w) (Q := Q) (u := u) hw
  unfold m_exchanged_block b_exchanged_block blkD exBlk
  rw [FT_fn]
  dsimp only
  generalize wayS u = s at *
  generalize wayS (!u) = s' at *
  simp [ow, sizeLine_eq, hw]
theorem exsize_spec {a b L : Int} (hw : Flat w) : FT m_exchanged_size [.d (.tup [.int a, .int b, .int L])] w Q ↔ Q (.d (.tup [.int b, .int a, .int L])) w := by
  refine FT_iff ?_
  unfold m_exchanged_size b_exchanged_size
  rw [FT_fn]
  simp [sizeLine_eq, hw]
theorem Sz.ex {a b L : Int} (h : Sz a b L) : Sz b a L := by
  obtain ⟨h1, h2, h3, h4, h5, h6⟩ := h
  constructor <;> assumption
theorem pex_spec {bl : List Blk} {a b L : Int} (hs : Sz a b L) (h : Blks a b L bl) (hw : Flat w) : FT m_Plan_exchanged [.d (.ins 0 (planD bl a b L))] w fun x w' => (∃ cl, Blks b a L cl ∧ x = .d (.ins 0 (planD cl b a L))) ∧ w' = w := by
  obtain ⟨sl, e1, hp⟩ := sorted_blks bl
  have hx := (h.perm hp).ex
  have hlen := h.len
  have fl1 : ∀ s, fldOf [0] "own_size" s (.d (.ins 0 (planD bl a b L))) = some (.d (.tup [.int a, .int b, .int L])) := fun s => rfl
  have fl2 : ∀ s, fldOf [0] "own_blocks" s (.d (.ins 0 (planD bl a b L))) = some (.d (.tup (blksD sl))) := fun s => by rw [← e1]; rfl
  unfold m_Plan_exchanged b_Plan_exchanged
  rw [FT_fn]
  generalize planD bl a b L = F at *
  rw [T_ret]
  refine T_cm ?_
  rw [T_c]
  refine ⟨rfl, ?_⟩
  have st : ∀ {R : List SV → PS → Prop}, R [.d (.tup [.int b, .int a, .int L]), .d (.tup (blksD (sl.map exBlk)))] ⟨[some (.d (.ins 0 F)), none], w ++ [.gone]⟩ → T ((aCons (vCall m_exchanged_size (aCons (vFld [0] "own_size" (vVar 0)) (aNil))) (aCons (vB tupleB (aCons (vFrz (vLcN (jSeq (vFld [0] "own_blocks" (vVar 0))) [1] (hName 1) (cYes) (vCall m_exchanged_block (aCons (vVar 1) (aNil))))) (aNil))) (aNil))) ⟨[some (.d (.ins 0 F)), none], w⟩) R := fun {R} q => by
    simp only [T_cons, T_call, T_fld, T_var, T_nil, T_B, T_frz, List.getElem?_cons_zero, OD_some, fl1]
    rw [exsize_spec hw]
    refine T_flc_map (it := .seq (blksD sl)) (xs := blksD sl) (p := fun _ => true) (f := fun d => blkD (exBlk (unBlk d))) ?_ rfl rfl ?_ hw ?_ ?_ ?_
    · simp [T_fld, fl2]
    · intro k hk
      simp at hk
    · rw [blks_len, sizeLine_eq]
      have := hp.length_eq
      omega
    · intro x hx v hv
      obtain ⟨p, hp', rfl⟩ := List.mem_map.mp hx
      rw [unBlk_d]
      simp
      rw [exblk_spec (by simp [hw, hv])]
      simp
    · have e : ((blksD sl).filter (fun _ => true)).map (fun d => blkD (exBlk (unBlk d))) = blksD (sl.map exBlk) := by
        rw [List.filter_eq_self.mpr (fun _ _ => rfl)]
        unfold blksD
        rw [List.map_map, List.map_map]
        refine List.map_congr_left fun p _ => ?_
        show blkD (exBlk (unBlk (blkD p))) = _
        rw [unBlk_d]
        rfl
      have tb : ∀ xs, tupleB [.lst xs] = some (.tup xs) := fun _ => rfl
      rw [e]
      simp [tb]
      exact q
  refine st ?_
  refine FT_len rfl ?_
  rw [pof_spec hs.ex hx (hw.append (Flat.one rfl))]
  dsimp only
  rw [Flat.ret (hw.append (Flat.one rfl))]
  refine ⟨⟨_, hx, rfl⟩, ?_⟩
  simp
end Bf
namespace Bf
open PySem PySem.Spec PyProof.Rows L2
variable {w : List Cell} {Q : SV → List Cell → Prop}
/-! ### rows of blocks -/
theorem stackL_nil {x y W : Int} : stackL x y W [] = [] := rfl
theorem stackL_cons {x y W h : Int} {u : Bool} {r : List (Int × Bool)} : stackL x y W ((h, u) :: r) = (if 0 < h then [⟨x, y, W, h, u⟩] else []) ++ stackL x (y + h) W r := rfl
def hD (p : Int × Bool) : D := .tup [.int p.1, .str (wayS p.2)]
def hsD (hs : List (Int × Bool)) : List D := hs.map hD
theorem stack_spec {x y W : Int} {hs : List (Int × Bool)} (hn : hs.length ≤ 10) (hw : Flat w) : FT m_stack_of [.d (.int x), .d (.int y), .d (.int W), .d (.lst (hsD hs))] w Q ↔ Q (.d (.lst (blksD (stackL x y W hs)))) w := by
  refine FT_iff ?_
  unfold m_stack_of b_stack_of
  rw [FT_fn]
  refine T_seq_of (fun s => s = ⟨[some (.d (.int x)), some (.d (.int y)), some (.d (.int W)), some (.d (.lst (hsD hs))), some (.cell w.length), none, none], w ++ [.lst []]⟩) ?_ fun s e => ?_
  · simp [sizeLine_eq]
  subst e
  obtain ⟨P, hP⟩ : ∃ P : Nat → PS → Prop, P = (fun j s => ∃ y' o5 o6 acc, Dat' o5 ∧ Dat' o6 ∧ acc ++ stackL x y' W (hs.drop j) = stackL x y W hs ∧ acc.length ≤ j ∧ s = ⟨[some (.d (.int x)), some (.d (.int y')), some (.d (.int W)), some (.d (.lst (hsD hs))), some (.cell w.length), o5, o6], w ++ [.lst (blksD acc)]⟩) := ⟨_, rfl⟩
  refine T_seq_of (P hs.length) ?_ fun s hs' => ?_
  · rw [T_sFor]
    have rf : T (jSeq (vVar 3) ⟨[some (.d (.int x)), some (.d (.int y)), some (.d (.int W)), some (.d (.lst (hsD hs))), some (.cell w.length), none, none], w ++ [.lst []]⟩) fun it s => it = .seq (hsD hs) ∧ s = ⟨[some (.d (.int x)), some (.d (.int y)), some (.d (.int W)), some (.d (.lst (hsD hs))), some (.cell w.length), none, none], w ++ [.lst []]⟩ := by simp
    refine rf.imp fun it s ⟨e1, e2⟩ => ?_
    subst e1 e2
    refine T_for (it := .seq (hsD hs)) (xs := hsD hs) rfl (Inv := P) (fun j d s hx hI => ?_) (fun s hI => ?_) _ 0 _ (by simp [It'.fuel]) ?_
    · rw [hP] at hI
      obtain ⟨y', o5, o6, acc, d5, d6, hacc, hl, rfl⟩ := hI
      unfold hsD at hx
      rw [List.getElem?_map] at hx
      cases hj : hs[j]? with
      | none => rw [hj] at hx; cases hx
      | some p =>
      rw [hj] at hx
      cases hx
      obtain ⟨h, u⟩ := p
      have hlt := (List.getElem?_eq_some_iff.mp hj).1
      have hd : hs.drop j = (h, u) :: hs.drop (j + 1) := by
        rw [List.drop_eq_getElem_cons hlt, (List.getElem?_eq_some_iff.mp hj).2]
      rw [hd, stackL_cons] at hacc
      have fW : ∀ acc : List Blk, Flat (w ++ [Cell.lst (blksD acc)]) := fun acc => hw.append (Flat.one rfl)
      unfold hD
      rw [T_hTup2, T_name]
      refine ⟨by simp, ?_⟩
      rw [T_name]
      refine ⟨by simp, ?_⟩
      dsimp only [List.set_cons_succ, List.set_cons_zero]
      have dk : dropG (w ++ [Cell.lst []]).length (some (SV.cell w.length)) = some (.cell w.length) := dropG_lt (by simp)
      have fin : ∀ acc2 : List Blk, acc2 ++ stackL x (y' + h) W (hs.drop (j + 1)) = stackL x y W hs → acc2.length ≤ j + 1 → T (sAugN 1 (vVar 5) ⟨[some (.d (.int x)), some (.d (.int y')), some (.d (.int W)), some (.d (.lst (hsD hs))), some (.cell w.length), some (.d (.int h)), some (.d (.str (wayS u)))], w ++ [.lst (blksD acc2)]⟩) fun fl s => match fl with
          | .nx => ∃ s', trunc (w ++ [Cell.lst []]).length s = some s' ∧ P (j + 1) s'
          | .ct => ∃ s', trunc (w ++ [Cell.lst []]).length s = some s' ∧ P (j + 1) s'
          | .bk => False
          | .rt x => False := fun acc2 h1 h2 => by
        refine T_augN rfl ?_
        rw [T_var]
        refine ⟨h, rfl, by simp, ?_⟩
        dsimp only [List.set_cons_succ, List.set_cons_zero]
        refine ⟨_, Flat.trunc (fW acc2) _, ?_⟩
        rw [hP]
        refine ⟨y' + h, some (.d (.int h)), some (.d (.str (wayS u))), acc2, .inr ⟨_, rfl⟩, .inr ⟨_, rfl⟩, h1, h2, ?_⟩
        have tk : (w ++ [Cell.lst (blksD acc2)]).take (w ++ [Cell.lst []]).length = w ++ [Cell.lst (blksD acc2)] := List.take_of_length_le (by simp)
        simp only [List.map_cons, List.map_nil, dropG_d, dk, tk]
      by_cases hp : 0 < h
      · rw [if_pos hp] at hacc
        refine T_seq_of (fun s => s = ⟨[some (.d (.int x)), some (.d (.int y')), some (.d (.int W)), some (.d (.lst (hsD hs))), some (.cell w.length), some (.d (.int h)), some (.d (.str (wayS u)))], w ++ [.lst (blksD (acc ++ [⟨x, y', W, h, u⟩]))]⟩) ?_ fun s e => ?_
        · have ap : appM (blksD acc) [.tup [.int x, .int y', .int W, .int h, .str (wayS u)]] = some (blksD (acc ++ [⟨x, y', W, h, u⟩]), .non) := by
            show (if (blksD acc).length < sizeLine then _ else _) = _
            rw [if_pos (by rw [blks_len, sizeLine_eq]; omega)]
            unfold blksD
            rw [List.map_append]
            rfl
          generalize wayS u = s at *
          generalize blksD acc = A at *
          generalize blksD (acc ++ [⟨x, y', W, h, u⟩]) = B at *
          simp [gtD, ltD, hp, sizeLine_eq, ap]
        subst e
        refine (fin (acc ++ [⟨x, y', W, h, u⟩]) (by rw [List.append_assoc]; exact hacc) (by simp; omega)).imp fun fl s q => ?_
        cases fl <;> first | exact q | exact False.elim q
      · rw [if_neg hp, List.nil_append] at hacc
        refine T_seq_of (fun s => s = ⟨[some (.d (.int x)), some (.d (.int y')), some (.d (.int W)), some (.d (.lst (hsD hs))), some (.cell w.length), some (.d (.int h)), some (.d (.str (wayS u)))], w ++ [.lst (blksD acc)]⟩) ?_ fun s e => ?_
        · simp [gtD, ltD, hp]
        subst e
        refine (fin acc hacc (by omega)).imp fun fl s q => ?_
        cases fl <;> first | exact q | exact False.elim q
    · unfold hsD at hI
      rw [List.length_map] at hI
      exact ⟨rfl, hI⟩
    · rw [hP]
      exact ⟨y, none, none, [], .inl rfl, .inl rfl, by simp, by simp, by simp [blksD]⟩
  rw [hP] at hs'
  obtain ⟨y', o5, o6, acc, d5, d6, hacc, _, rfl⟩ := hs'
  rw [List.drop_length, stackL_nil, List.append_nil] at hacc
  rw [hacc]
  rcases d5 with rfl | ⟨_, rfl⟩ <;> rcases d6 with rfl | ⟨_, rfl⟩ <;> simp [hw, frz, subG, flatC]
theorem band_spec {x y L m : Int} (m0 : 1 ≤ m) (m9 : m ≤ 1000000000000000000000000000000) (l0 : 0 ≤ L) (l9 : L ≤ 1000000000000000000000000000000) (hw : Flat w) : FT m_band_of [.d (.int x), .d (.int y), .d (.int L), .d (.int m)] w Q ↔ Q (.d (.lst (blksD (bandL x y L m)))) w := by
  refine FT_iff ?_
  have m1 := mul_big (x := m) (y := L) (by omega) m9 l0 l9
  have hm : 0 < m := by omega
  have e : blksD (bandL x y L m) = [.tup [.int x, .int y, .int 1, .int L, .str "down"], .tup [.int (x + 1), .int y, .int (m * L), .int L, .str "across"], .tup [.int (x + 1 + m * L), .int y, .int (L - 1), .int L, .str "down"]] := rfl
  rw [e]
  unfold m_band_of b_band_of
  rw [FT_fn]
  refine T_seq_of (fun s => s = ⟨[some (.d (.int x)), some (.d (.int y)), some (.d (.int L)), some (.d (.int m)), some (.d (.int (x + 1 + m * L))), none], w⟩) ?_ fun s e => ?_
  · simp [m1]
  subst e
  refine T_seq_of (fun s => s = ⟨[some (.d (.int x)), some (.d (.int y)), some (.d (.int L)), some (.d (.int m)), some (.d (.int (x + 1 + m * L))), some (.d (.lst [.tup [.int (x + 1), .int y, .int (m * L), .int L, .str "across"]]))], w⟩) ?_ fun s e => ?_
  · simp [m1, gtD, ltD, hm, sizeLine_eq]
  subst e
  rw [T_ret, T_lst, T_cons]
  have t1 : T ((vTup (aCons (vVar 0) (aCons (vVar 1) (aCons (vC (.int 1)) (aCons (vVar 2) (aCons (vC (.str "down")) (aNil))))))) ⟨[some (.d (.int x)), some (.d (.int y)), some (.d (.int L)), some (.d (.int m)), some (.d (.int (x + 1 + m * L))), some (.d (.lst [.tup [.int (x + 1), .int y, .int (m * L), .int L, .str "across"]]))], w⟩) fun z s => z = .d (.tup [.int x, .int y, .int 1, .int L, .str "down"]) ∧ s = ⟨[some (.d (.int x)), some (.d (.int y)), some (.d (.int L)), some (.d (.int m)), some (.d (.int (x + 1 + m * L))), some (.d (.lst [.tup [.int (x + 1), .int y, .int (m * L), .int L, .str "across"]]))], w⟩ := by
    simp [sizeLine_eq]
  refine t1.imp fun z s ⟨e1, e2⟩ => ?_
  subst e1 e2
  refine T_star ?_
  rw [T_var]
  refine ⟨[.tup [.int (x + 1), .int y, .int (m * L), .int L, .str "across"]], .inr rfl, ?_⟩
  simp [sizeLine_eq, hw]
theorem stacks_spec {a b L : Int} (hs : Sz a b L) (h2 : 2 * L < b) (no : ¬ (L = 2 ∧ b = 6)) (hw : Flat w) : FT m_stacks_of [.d (.tup [.int a, .int b, .int L])] w Q ↔ Q (.d (.tup [.lst (hsD (lastH b L)), .lst (hsD (firstH b L)), .lst (hsD (midH b L))])) w := by
  refine FT_iff ?_
  have nm := hs.nums
  have l0 := hs.l0
  obtain ⟨a9, b9, l9⟩ := hs.big
  have q := Int.mul_ediv_add_emod (b - L) L
  have r0 := Int.emod_nonneg (b - L) (show L ≠ 0 by omega)
  have r1 := Int.emod_lt_of_pos (b - L) (show 0 < L by omega)
  have ml : modD (.int (b - L)) (.int L) = some (.int ((b - L) % L)) := if_pos (by omega)
  have dv := nm.dv (b - L)
  have m2 := nm.two
  have d0 : 0 ≤ (b - L) / L := Int.ediv_nonneg (by omega) (by omega)
  have d1 : (b - L) / L ≤ b - L := Int.ediv_le_self _ (by omega)
  have g1 : 1 ≤ (b - L) / L := by
    refine Decidable.byContradiction fun z => ?_
    have : (b - L) / L = 0 := by omega
    rw [this, Int.mul_zero] at q
    omega
  have m3 := mul_big (x := (b - L) / L) (y := L) (by omega) (by omega) (by omega) l9
  have m4 := mul_big (x := (b - L) / L - 1) (y := L) (by omega) (by omega) (by omega) l9
  unfold m_stacks_of b_stacks_of
  rw [FT_fn]
  unfold lastH firstH midH
  generalize (b - L) / L = m at *
  generalize (b - L) % L = r at *
  have wt : wayS true = "across" := rfl
  have wf : wayS false = "down" := rfl
  by_cases c1 : 0 < r
  · rw [if_pos c1, if_pos c1, if_pos c1]
    simp [ml, dv, m2, m3, gtD, ltD, c1, sizeLine_eq, hw, hsD, hD, wt, wf]
  · rw [if_neg c1, if_neg c1, if_neg c1]
    by_cases c2 : 2 < L
    · rw [if_pos c2, if_pos c2, if_pos c2]
      simp [ml, dv, m2, m3, m4, gtD, ltD, c1, c2, sizeLine_eq, hw, hsD, hD, wt, wf]
    · rw [if_neg c2, if_neg c2, if_neg c2]
      simp [ml, dv, m2, m3, m4, gtD, ltD, c1, c2, sizeLine_eq, hw, hsD, hD, wt, wf]
end Bf
namespace Bf
open PySem PySem.Spec PyProof.Rows L2
variable {w : List Cell} {Q : SV → List Cell → Prop} {E : Exc → List Cell → Prop}
theorem neD_threeT {a b c : Int} : neD (.tup [.int a, .int b, .int c]) (.tup [.int 6, .int 6, .int 2]) = some (.bl (!sixB a b c)) := by
  have := neD_three (a := a) (b := b) (c := c)
  exact this
theorem sorted_one {a b L : Int} (h : Sz a b L) : (decide (min a b = 1) && decide (max a b = L)) = oneB a b L := by
  obtain ⟨h1, h2, h3, h4, h5, h6⟩ := h
  unfold oneB
  by_cases q : min a b = 1
  · have : a = 1 ∨ b = 1 := by omega
    rcases this with rfl | rfl
    · have e : max 1 b = b := by omega
      rw [e, Int.one_mul, Bool.and_comm]
    · have e : max a 1 = a := by omega
      rw [e, Int.mul_one, Bool.and_comm]
  · rw [decide_eq_false q, Bool.and_false, Bool.false_and]
theorem law_one_spec {a b L : Int} (h : Sz a b L) (hw : Flat w) : FT m__law_is_one_bar [.d (.tup [.int a, .int b, .int L])] w Q ↔ Q (.d (.bl (oneB a b L))) w := by
  unfold m__law_is_one_bar
  rw [FT_fn]
  obtain ⟨n1, n2, n3, n4, n5, n6, n7⟩ := h.nums
  simp [b__law_is_one_bar, n5, n7, hw, eqD_two, sorted_one h, sizeLine_eq]
theorem law_bond_spec {a b L : Int} (h : Sz a b L) (hw : Flat w) : FT m__law_has_bond [.d (.tup [.int a, .int b, .int L])] w Q ↔ Q (.d (.bl (bondB a b L))) w := by
  unfold m__law_has_bond
  rw [FT_fn]
  obtain ⟨n1, n2, n3, n4, n5, n6, n7⟩ := h.nums
  have nX : minX (numsT minI) [.tup [.int a, .int b]] = some (.int (min a b)) := n6
  cases q1 : oneB a b L
  · cases q2 : laidB a b L
    · simp [b__law_has_bond, hw, law_one_spec h hw, law_laid_spec' h hw, bondB, q1, q2]
    · by_cases q3 : min a b ≤ 2 * L
      · have q4 : ¬ 2 * L < min a b := by omega
        simp [b__law_has_bond, hw, law_one_spec h hw, law_laid_spec' h hw, n2, nX, n7, neD_threeT, bondB, narrowB, q1, q2, q3, q4, sizeLine_eq]
      · have q4 : 2 * L < min a b := by omega
        simp [b__law_has_bond, hw, law_one_spec h hw, law_laid_spec' h hw, n2, nX, n7, neD_threeT, bondB, narrowB, q1, q2, q3, q4, sizeLine_eq]
  · simp [b__law_has_bond, hw, law_one_spec h hw, bondB, q1]
section
variable {c : Nat} {m : Str} {f : Fn} {o a b : ME} {s : PS} {Q : SV → PS → Prop}
def IC (c : Nat) : SV → (List (Str × D) → Prop) → Prop
  | .d (.ins c' gs), P => c' = c ∧ P gs
  | _, _ => False
@[simp] theorem IC_ins {c c' : Nat} {gs : List (Str × D)} {P : List (Str × D) → Prop} : IC c (.d (.ins c' gs)) P ↔ c' = c ∧ P gs := Iff.rfl
@[simp ↓] theorem T_me0 : T (vMe0 c m f o s) Q ↔ T (o s) fun x s => IC c x fun gs => gs.lookup m = none ∧ FT f [x] s.w fun y w' => Q y { s with w := w' } := by
  unfold vMe0
  rw [T_bind]
  refine iff_of_eq (congrArg (T _) (funext fun x => funext fun s => propext ?_))
  cases x with
  | d x =>
    cases x with
    | ins c' gs =>
      dsimp only
      rw [IC_ins]
      by_cases h1 : c' = c
      · by_cases h2 : gs.lookup m = none
        · rw [if_pos ⟨h1, h2⟩, T_runF]
          exact ⟨fun h => ⟨h1, h2, h⟩, fun h => h.2.2⟩
        · rw [if_neg fun h => h2 h.2, T_stuck]
          exact ⟨False.elim, fun h => h2 h.2.1⟩
      · rw [if_neg fun h => h1 h.1, T_stuck]
        exact ⟨False.elim, fun h => h1 h.1⟩
    | _ => exact T_stuck
  | _ => exact T_stuck
end
/-! ### the plan of a size with a bond -/
theorem addL {xs ys : List D} (h : xs.length + ys.length ≤ 1000) : addD (.lst xs) (.lst ys) = some (.lst (xs ++ ys)) := by
  show (if xs.length + ys.length ≤ sizeLine then _ else _) = _
  rw [if_pos (by rw [sizeLine_eq]; omega)]
theorem wide_spec {a b L : Int} (hs : Sz a b L) (h : Wide a b L) (hw : Flat w) : FT m_wide_plan [.d (.tup [.int a, .int b, .int L])] w Q ↔ Q (.d (.ins 0 (planD (wideL a b L) a b L))) w := by
  refine FT_iff ?_
  have nm := hs.nums
  have hB := wide_blks h
  obtain ⟨k1, k2, k3⟩ := hok_all h
  obtain ⟨l0, aL, a2, b2, no⟩ := h
  obtain ⟨a9, b9, l9⟩ := hs.big
  have q := Int.mul_ediv_add_emod a L
  rw [aL] at q
  have m1 : a / L ≤ a := Int.ediv_le_self _ (by omega)
  have m3 : 3 ≤ a / L := by
    refine Decidable.byContradiction fun z => ?_
    have : L * (a / L) ≤ L * 2 := Int.mul_le_mul_of_nonneg_left (by omega) (by omega)
    omega
  have dv := nm.dv a
  have st := fun {Q} => stacks_spec (w := w) (Q := Q) hs b2 no hw
  have ba := fun {Q} => band_spec (w := w) (Q := Q) (x := 0) (y := 0) (L := L) (m := a / L - 2) (by omega) (by omega) (by omega) l9 hw
  have bb := fun {Q} => band_spec (w := w) (Q := Q) (x := L) (y := b - L) (L := L) (m := a / L - 2) (by omega) (by omega) (by omega) l9 hw
  have s1 := fun {Q} => stack_spec (w := w) (Q := Q) (x := a - L) (y := 0) (W := L) (hs := lastH b L) (by have := k1.ln; omega) hw
  have s2 := fun {Q} => stack_spec (w := w) (Q := Q) (x := 0) (y := L) (W := L) (hs := firstH b L) (by have := k2.ln; omega) hw
  have s3 := fun {Q} => stack_spec (w := w) (Q := Q) (x := L) (y := L) (W := a - L - L) (hs := midH b L) (by have := k3.ln; omega) hw
  have n1 := stack_len (x := a - L) (w := L) (lastH b L) 0
  have n2 := stack_len (x := 0) (w := L) (firstH b L) L
  have n3 := stack_len (x := L) (w := a - L - L) (midH b L) L
  have nn1 := k1.ln
  have nn2 := k2.ln
  have nn3 := k3.ln
  have nA : (blksD (bandL 0 0 L (a / L - 2))).length = 3 := rfl
  have nB : (blksD (bandL L (b - L) L (a / L - 2))).length = 3 := rfl
  have eB : blksD (wideL a b L) = (blksD (bandL 0 0 L (a / L - 2)) ++ blksD (bandL L (b - L) L (a / L - 2))) ++ ((blksD (stackL (a - L) 0 L (lastH b L)) ++ blksD (stackL 0 L L (firstH b L))) ++ blksD (stackL L L (a - L - L) (midH b L))) := by
    unfold wideL blksD
    simp only [List.map_append]
  rw [← blks_len (stackL (a - L) 0 L (lastH b L))] at n1
  rw [← blks_len (stackL 0 L L (firstH b L))] at n2
  rw [← blks_len (stackL L L (a - L - L) (midH b L))] at n3
  have po := fun {Q} => pof_spec (w := w) (Q := Q) hs hB hw
  rw [eB] at po
  unfold m_wide_plan b_wide_plan
  rw [FT_fn]
  generalize planD (wideL a b L) a b L = PL at *
  generalize blksD (bandL 0 0 L (a / L - 2)) = A1 at *
  generalize blksD (bandL L (b - L) L (a / L - 2)) = B1 at *
  generalize blksD (stackL (a - L) 0 L (lastH b L)) = C1 at *
  generalize blksD (stackL 0 L L (firstH b L)) = D1 at *
  generalize blksD (stackL L L (a - L - L) (midH b L)) = E1 at *
  generalize D.lst (hsD (lastH b L)) = H1 at *
  generalize D.lst (hsD (firstH b L)) = H2 at *
  generalize D.lst (hsD (midH b L)) = H3 at *
  generalize a / L = m at *
  have d1 := addL (xs := A1) (ys := B1) (by omega)
  have d2 := addL (xs := C1) (ys := D1) (by omega)
  have d3 := addL (xs := C1 ++ D1) (ys := E1) (by rw [List.length_append]; omega)
  have d4 := addL (xs := A1 ++ B1) (ys := (C1 ++ D1) ++ E1) (by simp only [List.length_append]; omega)
  have tb : ∀ xs, tupleB [.lst xs] = some (.tup xs) := fun _ => rfl
  generalize hX : A1 ++ B1 = X at *
  generalize hY : C1 ++ D1 = Y at *
  generalize hZ : Y ++ E1 = Z at *
  generalize hU : X ++ Z = U at *
  refine T_seq_of (fun s => s = ⟨[some (.d (.tup [.int a, .int b, .int L])), some (.d (.int a)), some (.d (.int b)), some (.d (.int L)), none, none, none, none, none, none, none, none], w⟩) ?_ fun s e => ?_
  · simp
  subst e
  refine T_seq_of (fun s => s = ⟨[some (.d (.tup [.int a, .int b, .int L])), some (.d (.int a)), some (.d (.int b)), some (.d (.int L)), some (.d (.int m)), some (.d (.int (a - L))), none, none, none, none, none, none], w⟩) ?_ fun s e => ?_
  · simp [dv]
  subst e
  refine T_seq_of (fun s => s = ⟨[some (.d (.tup [.int a, .int b, .int L])), some (.d (.int a)), some (.d (.int b)), some (.d (.int L)), some (.d (.int m)), some (.d (.int (a - L))), some (.d H1), some (.d H2), some (.d H3), none, none, none], w⟩) ?_ fun s e => ?_
  · simp [st]
  subst e
  refine T_seq_of (fun s => s = ⟨[some (.d (.tup [.int a, .int b, .int L])), some (.d (.int a)), some (.d (.int b)), some (.d (.int L)), some (.d (.int m)), some (.d (.int (a - L))), some (.d H1), some (.d H2), some (.d H3), some (.d (.lst A1)), some (.d (.lst B1)), none], w⟩) ?_ fun s e => ?_
  · simp [ba, bb]
  subst e
  refine T_seq_of (fun s => s = ⟨[some (.d (.tup [.int a, .int b, .int L])), some (.d (.int a)), some (.d (.int b)), some (.d (.int L)), some (.d (.int m)), some (.d (.int (a - L))), some (.d H1), some (.d H2), some (.d H3), some (.d (.lst A1)), some (.d (.lst B1)), some (.d (.lst Y))], w⟩) ?_ fun s e => ?_
  · simp [s1, s2, d2]
  subst e
  refine T_seq_of (fun s => s = ⟨[some (.d (.tup [.int a, .int b, .int L])), some (.d (.int a)), some (.d (.int b)), some (.d (.int L)), some (.d (.int m)), some (.d (.int (a - L))), some (.d H1), some (.d H2), some (.d H3), some (.d (.lst A1)), some (.d (.lst B1)), some (.d (.lst Z))], w⟩) ?_ fun s e => ?_
  · simp [s3, d3]
  subst e
  rw [T_ret]
  refine T_cm ?_
  rw [T_c]
  refine ⟨rfl, ?_⟩
  simp [d1, d4, tb]
  refine FT_len rfl ?_
  rw [po]
  simp [hw]
def straightB (a b L : Int) : Bool := decide (a % L = 0) && !(decide (L = 2) && decide (b = 6))
theorem straight_spec {a b L : Int} (hs : Sz a b L) (hw : Flat w) : FT m_is_straight [.d (.tup [.int a, .int b, .int L])] w Q ↔ Q (.d (.bl (straightB a b L))) w := by
  refine FT_iff ?_
  have l0 := hs.l0
  have ml : ∀ z : Int, modD (.int z) (.int L) = some (.int (z % L)) := fun z => if_pos (by omega)
  unfold m_is_straight b_is_straight straightB
  rw [FT_fn]
  by_cases c1 : a % L = 0 <;> by_cases c2 : L = 2 <;> by_cases c3 : b = 6 <;> simp [ml, c1, c2, c3, hw] <;> (subst c2; simp [c1, c3, hw])
/-- what plan_of leaves: a plan of the size -/
def IsPl (a b L : Int) (x : SV) : Prop := ∃ bl, Blks a b L bl ∧ x = .d (.ins 0 (planD bl a b L))
theorem one_blks {a b L : Int} (hs : Sz a b L) (h : oneB a b L = true) : Blks a b L [⟨0, 0, a, b, decide (b = 1)⟩] := by
  unfold oneB at h
  rw [Bool.and_eq_true, decide_eq_true_eq, decide_eq_true_eq] at h
  obtain ⟨h1, h2⟩ := h
  have a0 := hs.a0
  have b0 := hs.b0
  have l0 := hs.l0
  refine ⟨by simp, fun p m => ?_, by simp, List.pairwise_singleton _ _⟩
  rw [List.mem_singleton] at m
  subst m
  refine ⟨by simp, by simp, a0, b0, by simp, by simp, ?_⟩
  by_cases c : b = 1
  · subst c
    rw [Int.mul_one] at h1
    subst h1
    simp
  · have ha : a = 1 := by omega
    subst ha
    rw [Int.one_mul] at h1
    subst h1
    simp [c]
theorem bond_wide {a b L : Int} (hs : Sz a b L) (h : bondB a b L = true) (h1 : oneB a b L = false) : (straightB a b L = true → Wide a b L) ∧ (straightB a b L = false → Wide b a L) := by
  unfold bondB at h
  rw [h1, Bool.false_or, Bool.and_eq_true, Bool.and_eq_true, Bool.not_eq_true', Bool.not_eq_true'] at h
  obtain ⟨hl, hn, h6⟩ := h
  unfold narrowB at hn
  rw [h1, Bool.not_false, Bool.and_true, decide_eq_false_iff_not] at hn
  unfold laidB at hl
  rw [Bool.or_eq_true, decide_eq_true_eq, decide_eq_true_eq] at hl
  have l0 := hs.l0
  have s6 : ¬ (a = 6 ∧ b = 6 ∧ L = 2) := fun ⟨e1, e2, e3⟩ => by
    subst e1 e2 e3
    cases h6
  unfold straightB
  refine ⟨fun q => ?_, fun q => ?_⟩
  · simp only [Bool.and_eq_true, decide_eq_true_eq, Bool.not_eq_true', Bool.and_eq_false_iff, decide_eq_false_iff_not] at q
    exact ⟨l0, q.1, by omega, by omega, by omega⟩
  · by_cases c : a % L = 0
    · simp only [c, decide_true, Bool.true_and, Bool.not_eq_false', Bool.and_eq_true, decide_eq_true_eq] at q
      obtain ⟨rfl, rfl⟩ := q
      exact ⟨l0, by decide, by omega, by omega, by omega⟩
    · have hb := hl.resolve_left c
      refine ⟨l0, hb, by omega, by omega, fun ⟨e1, e2⟩ => ?_⟩
      subst e1 e2
      exact c (by decide)
theorem plan_of_spec {a b L : Int} (hs : Sz a b L) (h : bondB a b L = true) (hw : Flat w) : FT m_plan_of [.d (.tup [.int a, .int b, .int L])] w fun x w' => IsPl a b L x ∧ w' = w := by
  unfold m_plan_of b_plan_of
  rw [FT_fn]
  cases h1 : oneB a b L with
  | true =>
    have hB := one_blks hs h1
    have o1 := fun {Q} => one_spec' (w := w) (Q := Q) hs hw
    rw [h1] at o1
    have ww : wayS (decide (b = 1)) = if b = 1 then "across" else "down" := by
      by_cases c : b = 1 <;> simp [c, wayS]
    have ar : T (aCons (vVar 0) (aCons (vTup (aCons (vC (.int 0)) (aCons (vC (.int 0)) (aCons (vOp idxD (vVar 0) (vC (.int 0))) (aCons (vOp idxD (vVar 0) (vC (.int 1))) (aCons (vIf (cVal (vOp eqD (vOp idxD (vVar 0) (vC (.int 1))) (vC (.int 1)))) (vC (.str "across")) (vC (.str "down"))) (aNil))))))) (aNil)) ⟨[some (.d (.tup [.int a, .int b, .int L]))], w⟩) fun xs s => xs = [.d (.tup [.int a, .int b, .int L]), .d (blkD ⟨0, 0, a, b, decide (b = 1)⟩)] ∧ s = ⟨[some (.d (.tup [.int a, .int b, .int L]))], w⟩ := by
      unfold blkD
      dsimp only
      rw [ww]
      by_cases c : b = 1 <;> simp [c, sizeLine_eq]
    rw [T_seq]
    simp only [T_sIf, T_cVal, T_call, T_cons, T_var, T_nil, List.map_cons, List.map_nil, List.cons_append, List.nil_append, List.getElem?_cons_zero, OD_some]
    rw [o1]
    simp only [BL_bl, if_true]
    rw [T_ret]
    refine T_mk ?_
    rw [T_c]
    refine ⟨rfl, ?_⟩
    refine ar.imp fun xs s ⟨e1, e2⟩ => ?_
    subst e1 e2
    refine pinit_of (bl := [⟨0, 0, a, b, decide (b = 1)⟩]) hs hB hw rfl ?_
    refine ⟨rfl, T_frzI (fs := (planD [⟨0, 0, a, b, decide (b = 1)⟩] a b L).map fun p => (p.1, .d p.2)) (gs := planD [⟨0, 0, a, b, decide (b = 1)⟩] a b L) ?_ (datF_d _) ?_⟩
    · simp
    · dsimp only
      generalize hP : planD [⟨0, 0, a, b, decide (b = 1)⟩] a b L = P at *
      simp [hw, subG]
      exact ⟨_, hB, by rw [hP]⟩
  | false =>
    obtain ⟨w1, w2⟩ := bond_wide hs h h1
    refine T_seq_of (fun s => s = ⟨[some (.d (.tup [.int a, .int b, .int L]))], w⟩) ?_ fun s e => ?_
    · have o1 := fun {Q} => one_spec' (w := w) (Q := Q) hs hw
      rw [h1] at o1
      simp [o1]
    subst e
    have st := fun {Q} => straight_spec (w := w) (Q := Q) hs hw
    cases hS : straightB a b L with
    | true =>
      rw [hS] at st
      have wd := fun {Q} => wide_spec (w := w) (Q := Q) hs (w1 hS) hw
      have hB := wide_blks (w1 hS)
      generalize hP : planD (wideL a b L) a b L = P at *
      simp [st, wd, hw]
      exact ⟨_, hB, by rw [hP]⟩
    | false =>
      rw [hS] at st
      refine T_seq_of (fun s => s = ⟨[some (.d (.tup [.int a, .int b, .int L]))], w⟩) ?_ fun s e => ?_
      · simp [st]
      subst e
      have ex := fun {Q} => exsize_spec (w := w) (Q := Q) (a := a) (b := b) (L := L) hw
      have wd := fun {Q} => wide_spec (w := w) (Q := Q) hs.ex (w2 hS) hw
      have hB := wide_blks (w2 hS)
      have px := pex_spec hs.ex hB hw
      rw [T_ret]
      rw [T_me0]
      have go : T ((vCall m_wide_plan (aCons (vCall m_exchanged_size (aCons (vVar 0) (aNil))) (aNil))) ⟨[some (.d (.tup [.int a, .int b, .int L]))], w⟩) fun x s => x = .d (.ins 0 (planD (wideL b a L) b a L)) ∧ s = ⟨[some (.d (.tup [.int a, .int b, .int L]))], w⟩ := by
        generalize planD (wideL b a L) b a L = P at *
        simp [ex, wd]
      refine go.imp fun x s ⟨e1, e2⟩ => ?_
      subst e1 e2
      refine ⟨rfl, rfl, ?_⟩
      refine px.imp fun x w' ⟨⟨cl, hc, e⟩, e2⟩ => ?_
      subst e e2
      dsimp only
      rw [hw.ret]
      exact ⟨⟨cl, hc, rfl⟩, by simp⟩
end Bf
namespace Bf
open PySem PySem.Spec PyProof.Rows L2
open PySem.W (alike eqv_refl_alike alikeAll)
variable {w : List Cell} {Q : SV → List Cell → Prop} {E : Exc → List Cell → Prop}
theorem same_of {d : D} (hp : d.plain = true) (hd : d.py.depth ≤ 60) (ha : alike d.py d.py = true) : neD d d = some (.bl false) ∧ eqD d d = some (.bl true) := by
  have hn : D.near d d = true := decide_eq_true (by omega)
  have he : D.eqv d d = true := eqv_refl_alike _ ha
  unfold neD eqD
  rw [hp, hn, he]
  exact ⟨rfl, rfl⟩
theorem bond_plan_no {x : D} (h : NoSz x) (hw : Flat w) : Ra m_bond_plan [.d x] w ⟨.own 1, []⟩ := by
  intro Q E q
  unfold m_bond_plan b_bond_plan
  rw [FE_fn]
  refine TEo_seq (TEo_exp ?_)
  simp
  exact require_no h hw (by simp [hw, q])
theorem bond_paper_no {x : D} (h : NoSz x) (hw : Flat w) : Ra m_bond_paper [.d x] w ⟨.own 1, []⟩ := by
  intro Q E q
  unfold m_bond_paper b_bond_paper
  rw [FE_fn]
  refine TEo_seq (TEo_exp ?_)
  simp
  exact require_no h hw (by simp [hw, q])
theorem is_paper_no {x y : D} (h : NoSz x) (hw : Flat w) : Ra m_is_bond_paper [.d x, .d y] w ⟨.own 1, []⟩ := by
  intro Q E q
  unfold m_is_bond_paper b_is_bond_paper
  rw [FE_fn]
  refine TEo_seq (TEo_exp ?_)
  simp
  exact require_no h hw (by simp [hw, q])
theorem bond_plan_yes {a b L : Int} (hs : Sz a b L) (hb : bondB a b L = true) (hw : Flat w) : FT m_bond_plan [.d (.tup [.int a, .int b, .int L])] w fun _ w' => w' = w := by
  unfold m_bond_plan b_bond_plan
  rw [FT_fn]
  have rq := fun {Q} => require_spec (w := w) (Q := Q) hs hw
  have bi := fun {Q} => bond_in_spec (w := w) (Q := Q) hs hw
  rw [hb] at bi
  refine T_seq_of (fun s => s = ⟨[some (.d (.tup [.int a, .int b, .int L]))], w⟩) ?_ fun s e => ?_
  · simp [rq]
  subst e
  refine T_seq_of (fun s => s = ⟨[some (.d (.tup [.int a, .int b, .int L]))], w⟩) ?_ fun s e => ?_
  · simp [bi]
  subst e
  simp only [T_ret, T_call, T_cons, T_var, T_nil, List.getElem?_cons_zero, OD_some]
  refine (plan_of_spec hs hb hw).imp fun x w' ⟨⟨bl, _, e⟩, e2⟩ => ?_
  subst e e2
  rw [hw.ret]
  simp
theorem bond_plan_un {a b L : Int} (hs : Sz a b L) (hb : bondB a b L = false) (hw : Flat w) : Ra m_bond_plan [.d (.tup [.int a, .int b, .int L])] w ⟨.own 3, [("value", .tup [.int a, .int b, .int L])]⟩ := by
  intro Q E q
  unfold m_bond_plan b_bond_plan
  rw [FE_fn]
  refine TEo_seq (TEo_exp ?_)
  simp
  refine FE_of ?_
  rw [require_spec hs hw]
  show TE _ _ _
  refine TEo_seq (TEo_if ?_)
  simp [bond_in_spec hs hw, hb]
  refine TEo_raiseV ?_
  simp [hw, q]
theorem bond_paper_ok {a b L : Int} (hs : Sz a b L) (hw : Flat w) : FT m_bond_paper [.d (.tup [.int a, .int b, .int L])] w fun _ w' => w' = w := by
  unfold m_bond_paper b_bond_paper
  rw [FT_fn]
  have rq := fun {Q} => require_spec (w := w) (Q := Q) hs hw
  have bi := fun {Q} => bond_in_spec (w := w) (Q := Q) hs hw
  have ri := fun {Q} => reason_in_spec (w := w) (Q := Q) hs hw
  refine T_seq_of (fun s => s = ⟨[some (.d (.tup [.int a, .int b, .int L]))], w⟩) ?_ fun s e => ?_
  · simp [rq]
  subst e
  cases hb : bondB a b L with
  | true =>
    rw [hb] at bi
    simp only [T_ret, T_vIf, T_cVal, T_call, T_cons, T_var, T_nil, List.getElem?_cons_zero, OD_some]
    rw [bi]
    simp only [BL_bl, if_true, T_tup, T_cons, T_c, T_call, T_var, T_nil, List.getElem?_cons_zero, OD_some]
    refine (plan_of_spec hs hb hw).imp fun x w' ⟨⟨bl, _, e⟩, e2⟩ => ?_
    subst e e2
    generalize planD bl a b L = P at *
    simp [sizeLine_eq, hw]
  | false =>
    rw [hb] at bi
    simp [bi, ri, sizeLine_eq, hw]
theorem in_pap {s : Str} : inD (.str s) (.tup [.str "plan", .str "reason"]) = some (.bl (("plan" : Str) == s || (("reason" : Str) == s || false))) := rfl
theorem word_pap {y : D} (h : Known y) (hw : Flat w) : FT m_is_word_of [.d y, .d (.tup [.str "plan", .str "reason"])] w Q ↔ Q (.d (.bl (wordD "plan" y || wordD "reason" y))) w := by
  unfold m_is_word_of
  rw [FT_fn]
  cases y <;> simp [b_is_word_of, h, hw, isStrD, in_pap, wordD]
theorem is_paper_ok {a b L : Int} {n : D} (hs : Sz a b L) (hn : NoSz n) (hw : Flat w) : FT m_is_bond_paper [.d (.tup [.int a, .int b, .int L]), .d n] w fun _ w' => w' = w := by
  unfold m_is_bond_paper b_is_bond_paper
  rw [FT_fn]
  have rq := fun {Q} => require_spec (w := w) (Q := Q) hs hw
  obtain ⟨hk, hb⟩ := hn.bas
  have np := hn.np
  refine T_seq_of (fun s => s = ⟨[some (.d (.tup [.int a, .int b, .int L])), some (.d n)], w⟩) ?_ fun s e => ?_
  · simp [rq]
  subst e
  cases hr : rowD n 2 with
  | false => simp [hk, hr, hw]
  | true =>
    cases n with
    | tup xs =>
      have hl : xs.length = 2 := by
        have := of_decide_eq_true (show decide ((xs.length : Int) = 2) = true from hr)
        omega
      match xs, hl, hb, np with
      | [y, z], _, hb, np =>
        have hy : Known y := hb y (by simp)
        have wy : wordD "plan" y = false ∧ wordD "reason" y = false := by
          cases y with
          | str s => cases np
          | _ => exact ⟨rfl, rfl⟩
        have wp := fun {Q} => word_pap (w := w) (Q := Q) hy hw
        rw [wy.1, wy.2] at wp
        have rw1 : ∀ {Q : SV → List Cell → Prop}, FT m_is_row [.d (.tup [y, z]), .d (.int 2)] w Q ↔ Q (.d (.bl true)) w := fun {Q} => by
          rw [is_row_spec hk hw, hr]
        have t0 : atI [y, z] 0 = some y := rfl
        simp [rw1, wp, t0, hw, sizeLine_eq]
    | _ => cases hr
theorem three {t : Str} : neD (.lst [.str t, .str "", .str ""]) (.lst [.str t, .str "", .str ""]) = some (.bl false) := (same_of rfl (by simp [D.py, D.pys, PyData.depth, PyData.depthAll]) (by simp [D.py, D.pys, alike, alikeAll])).1
def wordB (a b L : Int) : Str := if bondB a b L = true then "" else "unlaid " ++ (D.tup [.int a, .int b, .int L]).py.shown
theorem met_bond {g : List (Option SV)} {v : List Cell} {i : Nat} {a b L : Int} (hs : Sz a b L) (hv : Flat v) (hg : g[i]? = some (some (.d (.tup [.int a, .int b, .int L])))) : T (vMet (selM subE exL hs__law_met) "" (vCall m_bond_plan (aCons (vVar i) (aNil))) ⟨g, v⟩) fun x s => x = .d (.str (wordB a b L)) ∧ s = ⟨g, v⟩ := by
  unfold wordB
  cases hb : bondB a b L with
  | true => exact met_ok (ar1 hg) (bond_plan_yes hs hb hv)
  | false =>
    refine met_ra (ar1 hg) (bond_plan_un hs hb hv) ?_
    obtain ⟨h1, h2, h3⟩ := hs.rp.told (m := "unlaid ") (by decide +kernel) (by decide +kernel)
    have e : selM subE exL hs__law_met ⟨.own 3, [("value", .tup [.int a, .int b, .int L])]⟩ = hkM 3 3 ⟨.own 3, [("value", .tup [.int a, .int b, .int L])]⟩ (.fld "unlaid " "value") := rfl
    rw [e, h3, Option.bind_some, h2]
    simp
theorem met_no {g : List (Option SV)} {v : List Cell} {xs : List SV} {f : Fn} {r : MA} (hr : T (r ⟨g, v⟩) fun ys s => ys = xs ∧ s = ⟨g, v⟩) (h : Ra f xs v ⟨.own 1, []⟩) : T (vMet (selM subE exL hs__law_met) "" (vCall f r) ⟨g, v⟩) fun x s => x = .d (.str "size") ∧ s = ⟨g, v⟩ := by
  refine met_ra hr h ?_
  rw [sel_size, Option.bind_some, ok_size]
end Bf
namespace Bf
open PySem PySem.Spec PyProof.Rows L2
variable {w : List Cell} {Q : SV → List Cell → Prop} {E : Exc → List Cell → Prop}
def rest6 : MS := sFor (jSeq (vLst (aCons (vCall m__law_small (aCons (vVar 0) (aCons (vC (.int 300)) (aNil)))) (aCons (vCall m__law_great (aCons (vVar 0) (aNil))) (aNil))))) (hName 3) (sSeq (sAsg (vLstN (aCons (vMet (selM subE exL hs__law_met) "" (vCall m_bond_plan (aCons (vVar 3) (aNil)))) (aNil))) (hName 2)) (sSeq (sExp (vMu appM (vVar 2) (aCons (vMet (selM subE exL hs__law_met) "" (vCall m_bond_paper (aCons (vVar 3) (aNil)))) (aNil)))) (sSeq (sExp (vMu appM (vVar 2) (aCons (vMet (selM subE exL hs__law_met) "" (vCall m_is_bond_paper (aCons (vVar 3) (aCons (vVar 1) (aNil))))) (aNil)))) (sIf (cVal (vOp neD (vVar 2) (vLst (aCons (vIf (cVal (vCall m__law_has_bond (aCons (vVar 3) (aNil)))) (vC (.str "")) (vOp addD (vC (.str "unlaid ")) (vB reprX (aCons (vVar 3) (aNil))))) (aCons (vC (.str "")) (aCons (vC (.str "")) (aNil))))))) (sRet (vC (.bl false))) (sNx)))))
theorem loop6 {k : Nat} {w v : List Cell} {n : D} {ts : List D} {R : Fl → PS → Prop} (hk : k < w.length) (hn : NoSz n) (h : Tl k w v ts) (q : ∀ g u, Upd k w u → R .nx ⟨g, u⟩) : T (rest6 ⟨[some (.cell k), some (.d n), some (.cell w.length), none], v⟩) R := by
  unfold rest6
  rw [T_sFor]
  have it0 : T (jSeq (vLst (aCons (vCall m__law_small (aCons (vVar 0) (aCons (vC (.int 300)) (aNil)))) (aCons (vCall m__law_great (aCons (vVar 0) (aNil))) (aNil)))) ⟨[some (.cell k), some (.d n), some (.cell w.length), none], v⟩) fun it s => ∃ a b L a' b' L' v', Sz a b L ∧ Sz a' b' L' ∧ it = .seq [.tup [.int a, .int b, .int L], .tup [.int a', .int b', .int L']] ∧ Tl k w v' ts ∧ s = ⟨[some (.cell k), some (.d n), some (.cell w.length), none], v'⟩ := by
    simp
    refine (small_spec k v h.up.ok).imp fun x w1 ⟨⟨hu1, hn1⟩, z, e, a, b, L, e2, h1, h2, h3, h4⟩ => ?_
    subst e e2
    simp
    refine (great_spec k w1 hu1.ok).imp fun x w2 ⟨⟨hu2, hn2⟩, z, e, a', b', L', e2, h5, _⟩ => ?_
    subst e e2
    have hs1 : Sz a b L := by constructor <;> omega
    simp [sizeLine_eq]
    exact ⟨a, b, L, hs1, a', b', L', h5, ⟨⟨rfl, rfl, rfl⟩, rfl, rfl, rfl⟩, h.die hk (hu1.trans hu2) (by omega)⟩
  refine it0.imp fun it s ⟨a, b, L, a', b', L', V, s1, s2, e1, hT, e2⟩ => ?_
  subst e1 e2
  have hV := hT.up.ok
  have fV := hV.flat
  have kV : k < V.length := hV.lt
  have lV := hT.len
  obtain ⟨P, hP⟩ : ∃ P : Nat → PS → Prop, P = (fun _ s => ∃ o2 o3 V', Upd k V V' ∧ V'.length = V.length ∧ (o2 = none ∨ ∃ j, o2 = some (SV.cell j) ∧ j < V.length) ∧ Dat' o3 ∧ s = ⟨[some (.cell k), some (.d n), o2, o3], V'⟩) := ⟨_, rfl⟩
  refine T_for (it := .seq [.tup [.int a, .int b, .int L], .tup [.int a', .int b', .int L']]) (xs := [.tup [.int a, .int b, .int L], .tup [.int a', .int b', .int L']]) rfl (Inv := P) (fun j d s hx hI => ?_) (fun s hI => ?_) _ 0 _ (by simp [It'.fuel]) ?_
  · rw [hP] at hI
    obtain ⟨o2, o3, V', hVV, lVV, d2, d3, rfl⟩ := hI
    have hV' := hVV.ok
    have fV' := hV'.flat
    have kV' : k < V'.length := hV'.lt
    obtain ⟨a, b, L, hs, rfl⟩ : ∃ a b L, Sz a b L ∧ d = .tup [.int a, .int b, .int L] := by
      have m := List.mem_of_getElem? hx
      simp only [List.mem_cons, List.not_mem_nil, or_false] at m
      rcases m with rfl | rfl
      · exact ⟨a, b, L, s1, rfl⟩
      · exact ⟨a', b', L', s2, rfl⟩
    rw [T_name]
    refine ⟨by simp, ?_⟩
    dsimp only [List.set_cons_succ, List.set_cons_zero]
    rw [T_seq]
    refine (new_met (k := k) (Upd.refl hV') rfl (by simp) (met_bond (i := 3) hs fV' rfl)).imp fun fl s ⟨e, t1, e2⟩ => ?_
    subst e e2
    dsimp only [List.set_cons_succ, List.set_cons_zero]
    rw [T_seq]
    refine (app_met (c := 2) rfl kV' t1 (by simp) (met_ok (ar1 (i := 3) rfl) (bond_paper_ok hs t1.flat))).imp fun fl s ⟨e, u2, t2, e2⟩ => ?_
    subst e e2
    dsimp only
    rw [T_seq]
    refine (app_met (c := 2) rfl kV' t2 (by simp) (met_ok (ar2 (i := 3) (j := 1) rfl rfl) (is_paper_ok hs hn t2.flat))).imp fun fl s ⟨e, u3, t3, e2⟩ => ?_
    subst e e2
    dsimp only
    have fu := t3.flat
    have hb := fun {Q} => law_bond_spec (w := u3) (Q := Q) hs fu
    have rp := hs.rp.op
    obtain ⟨ad, _, _⟩ := hs.rp.told (m := "unlaid ") (by decide +kernel) (by decide +kernel)
    have rdk : ∀ g, rd ⟨g, u3⟩ (.cell V'.length) = some (.lst ([.str (wordB a b L)] ++ [.str ""] ++ [.str ""])) := fun g => t3.rd g
    have e3 : ([D.str (wordB a b L)] ++ [D.str ""] ++ [D.str ""]) = [.str (wordB a b L), .str "", .str ""] := rfl
    rw [e3] at rdk
    have lst3 : T (vLst (aCons (vIf (cVal (vCall m__law_has_bond (aCons (vVar 3) (aNil)))) (vC (.str "")) (vOp addD (vC (.str "unlaid ")) (vB reprX (aCons (vVar 3) (aNil))))) (aCons (vC (.str "")) (aCons (vC (.str "")) (aNil)))) ⟨[some (.cell k), some (.d n), some (.cell V'.length), some (.d (.tup [.int a, .int b, .int L]))], u3⟩) fun x s => x = .d (.lst [.str (wordB a b L), .str "", .str ""]) ∧ s = ⟨[some (.cell k), some (.d n), some (.cell V'.length), some (.d (.tup [.int a, .int b, .int L]))], u3⟩ := by
      unfold wordB
      cases hB : bondB a b L with
      | true =>
        rw [hB] at hb
        simp [hb, sizeLine_eq]
      | false =>
        rw [hB] at hb
        generalize (D.tup [.int a, .int b, .int L]).py.shown = SH at *
        simp [hb, rp, ad, sizeLine_eq]
    have nn := three (t := wordB a b L)
    have fin : T (sIf (cVal (vOp neD (vVar 2) (vLst (aCons (vIf (cVal (vCall m__law_has_bond (aCons (vVar 3) (aNil)))) (vC (.str "")) (vOp addD (vC (.str "unlaid ")) (vB reprX (aCons (vVar 3) (aNil))))) (aCons (vC (.str "")) (aCons (vC (.str "")) (aNil))))))) (sRet (vC (.bl false))) (sNx) ⟨[some (.cell k), some (.d n), some (.cell V'.length), some (.d (.tup [.int a, .int b, .int L]))], u3⟩) fun fl s => fl = .nx ∧ s = ⟨[some (.cell k), some (.d n), some (.cell V'.length), some (.d (.tup [.int a, .int b, .int L]))], u3⟩ := by
      simp only [T_sIf, T_cVal, T_op, T_var, List.getElem?_cons_succ, List.getElem?_cons_zero, OD_some]
      refine lst3.imp fun x s ⟨e1, e2⟩ => ?_
      subst e1 e2
      simp [rdk, nn]
    refine fin.imp fun fl s ⟨e1, e2⟩ => ?_
    subst e1 e2
    refine ⟨_, Flat.trunc fu _, ?_⟩
    rw [hP]
    have dk : dropG V.length (some (SV.cell k)) = some (.cell k) := dropG_lt kV
    have dv : dropG V.length (some (SV.cell V'.length)) = none := dropG_ge (by omega)
    refine ⟨none, some (.d (.tup [.int a, .int b, .int L])), u3.take V.length, hVV.trans (t3.up.take kV' (by omega)), by rw [List.length_take]; have := t3.len; omega, .inl rfl, .inr ⟨_, rfl⟩, ?_⟩
    simp only [List.map_cons, List.map_nil, dropG_d, dk, dv]
  · rw [hP] at hI
    obtain ⟨o2, o3, V', hVV, lVV, d2, d3, rfl⟩ := hI
    exact q _ _ (hT.up.trans hVV)
  · rw [hP]
    exact ⟨some (.cell w.length), none, V, Upd.refl hV, rfl, .inr ⟨_, rfl, by omega⟩, .inl rfl, rfl⟩
theorem right_spec : Dies m__law_right [] fun y => y = .bl true := by
  suffices H : ∀ PP : D → Prop, PP (.bl true) → Dies m__law_right [] PP from H _ rfl
  intro PP hPP k w hw
  have hk := hw.lt
  unfold m__law_right b__law_right
  rw [FT_fn, T_seq, T_asg, T_call]
  simp only [T_cons, T_var, T_nil, List.map_cons, List.map_nil, List.cons_append, List.nil_append, List.replicate, List.getElem?_cons_zero, OD_some]
  refine (no_size_spec k w hw).imp fun x w1 ⟨⟨hu1, hn1⟩, n, e, hn⟩ => ?_
  subst e
  have f1 := hu1.ok.flat
  rw [T_name]
  refine ⟨by simp, ?_⟩
  dsimp only [List.set_cons_succ, List.set_cons_zero]
  rw [T_seq]
  refine (new_met (k := k) (w := w) (c := 2) hu1 hn1 (by simp) (met_no (ar1 (i := 1) rfl) (bond_plan_no hn f1))).imp fun fl s ⟨e, t1, e2⟩ => ?_
  subst e e2
  dsimp only [List.set_cons_succ, List.set_cons_zero]
  rw [T_seq]
  refine (app_met (c := 2) rfl hk t1 (by simp) (met_no (ar1 (i := 1) rfl) (bond_paper_no hn t1.flat))).imp fun fl s ⟨e, u2, t2, e2⟩ => ?_
  subst e e2
  dsimp only
  rw [T_seq]
  refine (app_met (c := 2) rfl hk t2 (by simp) (met_no (ar2 (i := 1) (j := 1) rfl rfl) (is_paper_no hn t2.flat))).imp fun fl s ⟨e, u3, t3, e2⟩ => ?_
  subst e e2
  dsimp only
  have rdk : ∀ g, rd ⟨g, u3⟩ (.cell w.length) = some (.lst [.str "size", .str "size", .str "size"]) := fun g => t3.rd g
  have m3 : mulD (.lst [.str "size"]) (.int 3) = some (.lst [.str "size", .str "size", .str "size"]) := by
    have c : -(2 ^ 63) ≤ (3 : Int) ∧ (3 : Int) < 2 ^ 63 ∧ [D.str "size"].length * (3 : Int).toNat ≤ sizeLine := ⟨by decide, by decide, by rw [sizeLine_eq]; decide⟩
    unfold mulD
    dsimp only
    rw [if_pos c]
    rfl
  have nn : neD (.lst [.str "size", .str "size", .str "size"]) (.lst [.str "size", .str "size", .str "size"]) = some (.bl false) := by rfl
  refine T_seq_of (fun s => s = ⟨[some (.cell k), some (.d n), some (.cell w.length), none], u3⟩) ?_ fun s e => ?_
  · simp [rdk, m3, nn, sizeLine_eq]
  subst e
  rw [T_seq]
  refine loop6 hk hn t3 fun g u hu => ?_
  dsimp only
  rw [T_ret, T_c]
  exact die_end hu hw hPP
end Bf
namespace Bf
open PySem PySem.Spec PyProof.Rows L2
theorem urn_spec {ns : List Int} {at' : Int} {w : List Cell} (hw : Flat w) (h0 : 0 ≤ at') : FT m__law_urn [.d (.scr ns), .d (.int at')] w fun x w' => x = .cell w.length ∧ ∃ a b c : Int, w' = w ++ [.lst [.int a, .int b, .int c]] := by
  unfold m__law_urn b__law_urn
  rw [FT_fn]
  have p57 : powD (.int 10) (.int 60) = some (.int (10 ^ 60)) := powD_int (by decide +kernel)
  have p11 : powD (.int (10 ^ 60)) (.int 9) = some (.int ((10 ^ 60) ^ 9)) := powD_int (by decide +kernel)
  have p16 : powD (.int 10) (.int 17) = some (.int (10 ^ 17)) := powD_int (by decide +kernel)
  have hM : (0 : Int) < (10 ^ 60) ^ 9 := by decide +kernel
  generalize ((10 : Int) ^ 60) ^ 9 = M at p11 hM
  generalize (10 : Int) ^ 60 = N at p57 p11
  generalize (10 : Int) ^ 17 = O at p16
  by_cases hl : at' < ns.length
  · obtain ⟨x, hx, e⟩ := atI_mem h0 hl
    simp [hl, e, p57, p11, p16, hM]
    refine ⟨small (by decide), ?_⟩
    rw [Flat.retC (by simp [hw]) (Nat.le_refl _) at_app0]
    simp
  · simp [hl, p57, p11, p16, hM]
    refine ⟨small (by decide), ?_⟩
    rw [Flat.retC (by simp [hw]) (Nat.le_refl _) at_app0]
    simp
def g0 (ns : List Int) (o1 o3 : Option SV) : List (Option SV) := [some (.d (.scr ns)), o1, none, o3, none]
theorem law_loop {ns : List Int} : T ((sFor (jRng1 (vB maxB (aCons (vC (.int 1)) (aCons (vB minB (aCons (vC (.int 8)) (aCons (vB lenB (aCons (vVar 0) (aNil))) (aNil)))) (aNil))))) (hName 1) (sSeq (sAsg (vCall m__law_urn (aCons (vVar 0) (aCons (vVar 1) (aNil)))) (hName 2)) (sFor (jRng1 (vC (.int 4))) (hName 3) (sIf (cNot (cVal (vCall m__law_right (aCons (vVar 2) (aNil))))) (sRet (vC (.bl false))) (sNx))))) ⟨g0 ns none none, []⟩) fun fl s => fl = .nx ∧ ∃ o1 o3, Dat' o1 ∧ Dat' o3 ∧ s = ⟨g0 ns o1 o3, []⟩ := by
  rw [T_sFor]
  unfold g0
  simp
  refine ⟨?_, ?_⟩
  · unfold rngOk
    rw [Bool.and_eq_true, decide_eq_true_iff, decide_eq_true_iff]
    split <;> split <;> omega
  generalize (if 1 < if (ns.length : Int) < 8 then (ns.length : Int) else 8 then if (ns.length : Int) < 8 then (ns.length : Int) else 8 else 1).toNat = m
  refine T_for (it := .rng 0 m) (xs := (List.range m).map fun (i : Nat) => .int (0 + i)) rfl (Inv := fun _ s => ∃ o1 o3, Dat' o1 ∧ Dat' o3 ∧ s = ⟨[some (.d (.scr ns)), o1, none, o3, none], []⟩) (fun i x s hx hI => ?_) (fun s hI => ?_) _ 0 _ (by simp [It'.fuel]) ⟨none, none, .inl rfl, .inl rfl, rfl⟩
  · obtain ⟨o1, o3, h1, h3, rfl⟩ := hI
    obtain ⟨rfl, hi⟩ := rng_get hx
    simp
    refine (urn_spec Flat.nil (Int.natCast_nonneg _)).imp fun x w ⟨e, a, b, c, e2⟩ => ?_
    subst e e2
    simp
    rw [T_sFor]
    simp
    refine ⟨by decide +kernel, ?_⟩
    refine T_for (it := .rng 0 4) (xs := (List.range 4).map fun (i : Nat) => .int (0 + i)) rfl (Inv := fun _ s => ∃ o3 w, Dat' o3 ∧ DOk w 0 ∧ w.length = 1 ∧ s = ⟨[some (.d (.scr ns)), some (.d (.int i)), some (.cell 0), o3, none], w⟩) (fun j x s hx hI => ?_) (fun s hI => ?_) _ 0 _ (by simp [It'.fuel]) ⟨o3, _, h3, ⟨by simp, a, b, c, rfl⟩, rfl, rfl⟩
    · obtain ⟨o3, w, h3, hw, hl, rfl⟩ := hI
      simp
      refine (right_spec 0 w hw).imp fun x w1 ⟨⟨hu1, hn1⟩, y, e, e2⟩ => ?_
      subst e e2
      simp [hu1.ok.flat, dropG_lt]
      exact ⟨some (.d x), .inr ⟨_, rfl⟩, w1, hu1.ok, by omega, rfl, by rw [List.take_of_length_le (by omega)]⟩
    · obtain ⟨o3, w, h3, hw, hl, rfl⟩ := hI
      simp only [hw.flat, trunc_flat, List.map_cons, List.map_nil, dropG_none, dropG_d, h3.drop, dropG_ge (Nat.le_refl 0), List.take_zero]
      exact ⟨_, rfl, _, .inr ⟨_, rfl⟩, _, h3, rfl⟩
  · obtain ⟨o1, o3, h1, h3, rfl⟩ := hI
    exact ⟨rfl, o1, h1, o3, h3, rfl⟩
section
variable {c : Nat} {ts : List D} {g : List (Option SV)} {sel : Exc → Option D} {ret t : Str} {m : ME}
/-- the list told, in a world without a die -/
theorem app0 (hg : g[c]? = some (some (.cell 0))) (ht : ts.length ≤ 100) (hm : T (vMet sel ret m ⟨g, [.lst ts]⟩) fun x s => x = .d (.str t) ∧ s = ⟨g, [.lst ts]⟩) :
    T (sExp (vMu appM (vVar c) (aCons (vMet sel ret m) (aNil))) ⟨g, [.lst ts]⟩) fun fl s => fl = .nx ∧ s = ⟨g, [.lst (ts ++ [.str t])]⟩ := by
  have ha : ([Cell.lst ts] : List Cell)[0]? = some (.lst ts) := rfl
  rw [T_exp, T_mu, T_var]
  simp only [hg, OD_some, CL_cell, T_cons, T_nil]
  refine ⟨⟨_, ha⟩, hm.imp fun x s ⟨e1, e2⟩ => ?_⟩
  subst e1 e2
  simp [app_ok ht]
theorem new0 (hc : c < g.length) (hm : T (vMet sel ret m ⟨g, []⟩) fun x s => x = .d (.str t) ∧ s = ⟨g, []⟩) :
    T (sAsg (vLstN (aCons (vMet sel ret m) (aNil))) (hName c) ⟨g, []⟩) fun fl s => fl = .nx ∧ s = ⟨g.set c (some (.cell 0)), [.lst [.str t]]⟩ := by
  rw [T_asg, T_lstN]
  simp only [T_cons, T_nil]
  refine hm.imp fun x s ⟨e1, e2⟩ => ?_
  subst e1 e2
  simp [sizeLine_eq, hc]
end
theorem met_lit {g : List (Option SV)} {v : List Cell} {a b L : Int} (hs : Sz a b L) (hv : Flat v) : T (vMet (selM subE exL hs__law_met) "" (vCall m_bond_plan (aCons (vTup (aCons (vC (.int a)) (aCons (vC (.int b)) (aCons (vC (.int L)) (aNil))))) (aNil))) ⟨g, v⟩) fun x s => x = .d (.str (wordB a b L)) ∧ s = ⟨g, v⟩ := by
  have hr : T (aCons (vTup (aCons (vC (.int a)) (aCons (vC (.int b)) (aCons (vC (.int L)) (aNil))))) (aNil) ⟨g, v⟩) fun ys s => ys = [.d (.tup [.int a, .int b, .int L])] ∧ s = ⟨g, v⟩ := by simp [sizeLine_eq]
  unfold wordB
  cases hb : bondB a b L with
  | true => exact met_ok hr (bond_plan_yes hs hb hv)
  | false =>
    refine met_ra hr (bond_plan_un hs hb hv) ?_
    obtain ⟨h1, h2, h3⟩ := hs.rp.told (m := "unlaid ") (by decide +kernel) (by decide +kernel)
    have e : selM subE exL hs__law_met ⟨.own 3, [("value", .tup [.int a, .int b, .int L])]⟩ = hkM 3 3 ⟨.own 3, [("value", .tup [.int a, .int b, .int L])]⟩ (.fld "unlaid " "value") := rfl
    rw [e, h3, Option.bind_some, h2]
    simp
theorem law_true : ∀ ns : List Int, ns.length ≤ 63 → ∃ w, m_law [.d (.scr ns)] [] = .ok (.d (.bl true)) w := by
  intro ns hn
  have goal : FT m_law [.d (.scr ns)] [] fun x _ => x = .d (.bl true) := by
    unfold m_law b_law
    rw [FT_fn, T_seq]
    refine T.imp law_loop fun fl s ⟨e, o1, o3, h1, h3, e2⟩ => ?_
    subst e e2
    dsimp only
    unfold g0
    have w1 : wordB 6 6 2 = "unlaid (6, 6, 2)" := by decide +kernel
    have w2 : wordB 3 3 2 = "unlaid (3, 3, 2)" := by decide +kernel
    have w3 : wordB 4 2 2 = "unlaid (4, 2, 2)" := by decide +kernel
    have w4 : wordB 1 2 2 = "" := by decide +kernel
    have m1 := fun {g : List (Option SV)} {v : List Cell} (hv : Flat v) => met_lit (g := g) (a := 6) (b := 6) (L := 2) (by constructor <;> decide) hv
    have m2 := fun {g : List (Option SV)} {v : List Cell} (hv : Flat v) => met_lit (g := g) (a := 3) (b := 3) (L := 2) (by constructor <;> decide) hv
    have m3 := fun {g : List (Option SV)} {v : List Cell} (hv : Flat v) => met_lit (g := g) (a := 4) (b := 2) (L := 2) (by constructor <;> decide) hv
    have m4 := fun {g : List (Option SV)} {v : List Cell} (hv : Flat v) => met_lit (g := g) (a := 1) (b := 2) (L := 2) (by constructor <;> decide) hv
    rw [w1] at m1
    rw [w2] at m2
    rw [w3] at m3
    rw [w4] at m4
    rw [T_seq]
    refine (new0 (by simp) (m1 Flat.nil)).imp fun fl s ⟨e, e2⟩ => ?_
    subst e e2
    dsimp only [List.set_cons_succ, List.set_cons_zero]
    rw [T_seq]
    refine (app0 rfl (by simp) (m2 (Flat.one rfl))).imp fun fl s ⟨e, e2⟩ => ?_
    subst e e2
    dsimp only
    rw [T_seq]
    refine (app0 rfl (by simp) (m3 (Flat.one rfl))).imp fun fl s ⟨e, e2⟩ => ?_
    subst e e2
    dsimp only
    rw [T_seq]
    refine (app0 rfl (by simp) (m4 (Flat.one rfl))).imp fun fl s ⟨e, e2⟩ => ?_
    subst e e2
    dsimp only [List.cons_append, List.nil_append]
    have ee : eqD (.lst [.str "unlaid (6, 6, 2)", .str "unlaid (3, 3, 2)", .str "unlaid (4, 2, 2)", .str ""]) (.lst [.str "unlaid (6, 6, 2)", .str "unlaid (3, 3, 2)", .str "unlaid (4, 2, 2)", .str ""]) = some (.bl true) := by rfl
    have hrd : ∀ g, rd ⟨g, [Cell.lst [Bf.D.str "unlaid (6, 6, 2)", .str "unlaid (3, 3, 2)", .str "unlaid (4, 2, 2)", .str ""]]⟩ (.cell 0) = some (.lst [Bf.D.str "unlaid (6, 6, 2)", .str "unlaid (3, 3, 2)", .str "unlaid (4, 2, 2)", .str ""]) := fun g => rfl
    simp [sizeLine_eq, hrd, ee]
  unfold FT at goal
  cases q : m_law [.d (.scr ns)] [] with
  | ok x w => rw [q] at goal; subst goal; exact ⟨w, rfl⟩
  | err => rw [q] at goal; exact goal.elim
  | stuck => rw [q] at goal; exact goal.elim
end Bf
def PySem.W.Fast.tw15238263982208150336 : Unit := ()
def PySem.W.Fast.tw17305232612455760148 : Unit := ()
def PySem.W.Fast.tw7616734029143073947 : Unit := ()
def PySem.W.Fast.tw3598389403976609505 : Unit := ()
def PySem.W.Fast.tw10479933983109099540 : Unit := ()
def PySem.W.Fast.tw16738120554106760580 : Unit := ()
def PySem.W.Fast.tw15876129029090338129 : Unit := ()
def PySem.W.Fast.tw5514096658377235354 : Unit := ()
def PySem.W.Fast.tw16893529194621321124 : Unit := ()
def PySem.W.Fast.tw10039960745807986588 : Unit := ()
def PySem.W.Fast.tw147509836844478751 : Unit := ()
def PySem.W.Fast.tw4415793543189108532 : Unit := ()
def PySem.W.Fast.tw8358645154300293538 : Unit := ()
def PySem.W.Fast.tw7699349164898913385 : Unit := ()
def PySem.W.Fast.tw12270711442488972071 : Unit := ()
def PySem.W.Fast.tw12767923192378955740 : Unit := ()
def PySem.W.Fast.tw16733137922776347019 : Unit := ()
def PySem.W.Fast.tw14349425566909799793 : Unit := ()
def PySem.W.Fast.tw7703683844746701218 : Unit := ()
def PySem.W.Fast.tw1129563550927498362 : Unit := ()
def PySem.W.Fast.tw14706808487940793288 : Unit := ()
def PySem.W.Fast.tw2857163184888421106 : Unit := ()
def PySem.W.Fast.tw5852026924368526689 : Unit := ()
def PySem.W.Fast.tw18316092561532694957 : Unit := ()
section
open PySem PySem.W PyProof.Rows L2
set_option maxHeartbeats 0 in
theorem PySem.Challenge.cw_bondfloors_k29_errors_of_bonds_holds : PySem.Challenge.rw_bondfloors_k29_errors_of_bonds.Holds := by
  w_on; o_law; k_head; (case hw => w_witness2)
  k_fill
  refine Bf.walk_g (l := PySem.Challenge.rw_bondfloors_k29_errors_of_bonds) (n := 63) (k := 14) (x := "script") (f := Bf.m_law) (names := ["Plan", "InvalidSize", "InvalidPlan", "Unlaid", "InvalidLine", "InvalidOperation", "InvalidNumber", "TooMany"]) (tabs := Bf.tabsL) (cs := Bf.csL) rfl (by decide) rfl ⟨rfl, by decide, by decide⟩ (fun w h Y => PySem.W.km_in_of Y) (fun w h Y p hp => ?TE) (fun w p hp => ?TN) (fun w h KX p hp => ?TC) (by decide) Bf.law_true fun w mg fa h KX G hmg => ?F
  case TE =>
    have q := PySem.W.km_tabs_of Y
    simp only [Bf.csL, List.mem_cons, List.not_mem_nil, or_false] at hp
    rcases hp with rfl | rfl <;> exact q _ (by simp)
  case TN =>
    simp only [Bf.csL, List.mem_cons, List.not_mem_nil, or_false] at hp
    rcases hp with rfl | rfl <;> kernel_rfl
  case TC =>
    simp only [Bf.csL, List.mem_cons, List.not_mem_nil, or_false] at hp
    rcases hp with rfl | rfl <;> exact PySem.W.codeHd_of_K KX (by kernel_rfl)
  case F =>
    refine' Bf.all_mk w KX G hmg ?aC_Plan ?m1_Plan ?m4_Plan ?c1_Plan ?c2_Plan ?c3_Plan ?c4_Plan ?r1_Plan ?r2_Plan ?i1_Plan ?i2_Plan ?i3_Plan ?i4_Plan ?i5_Plan ?i6_Plan ?i7_Plan ?i8_Plan ?n_own_blocks_Plan ?n_own_known_Plan ?n_own_size_Plan ?aC_InvalidSize ?aC_InvalidPlan ?aC_Unlaid ?aC_InvalidLine ?aC_InvalidOperation ?aC_InvalidNumber ?aC_TooMany ?xany ?xsup ?xm_InvalidSize_InvalidSize ?xm_InvalidSize_InvalidPlan ?xm_InvalidSize_Unlaid ?xm_InvalidSize_InvalidLine ?xm_InvalidSize_InvalidOperation ?xm_InvalidSize_InvalidNumber ?xm_InvalidSize_TooMany ?xm_InvalidPlan_InvalidSize ?xm_InvalidPlan_InvalidPlan ?xm_InvalidPlan_Unlaid ?xm_InvalidPlan_InvalidLine ?xm_InvalidPlan_InvalidOperation ?xm_InvalidPlan_InvalidNumber ?xm_InvalidPlan_TooMany ?xm_Unlaid_InvalidSize ?xm_Unlaid_InvalidPlan ?xm_Unlaid_Unlaid ?xm_Unlaid_InvalidLine ?xm_Unlaid_InvalidOperation ?xm_Unlaid_InvalidNumber ?xm_Unlaid_TooMany ?xm_InvalidLine_InvalidSize ?xm_InvalidLine_InvalidPlan ?xm_InvalidLine_Unlaid ?xm_InvalidLine_InvalidLine ?xm_InvalidLine_InvalidOperation ?xm_InvalidLine_InvalidNumber ?xm_InvalidLine_TooMany ?xm_InvalidOperation_InvalidSize ?xm_InvalidOperation_InvalidPlan ?xm_InvalidOperation_Unlaid ?xm_InvalidOperation_InvalidLine ?xm_InvalidOperation_InvalidOperation ?xm_InvalidOperation_InvalidNumber ?xm_InvalidOperation_TooMany ?xm_InvalidNumber_InvalidSize ?xm_InvalidNumber_InvalidPlan ?xm_InvalidNumber_Unlaid ?xm_InvalidNumber_InvalidLine ?xm_InvalidNumber_InvalidOperation ?xm_InvalidNumber_InvalidNumber ?xm_InvalidNumber_TooMany ?xm_TooMany_InvalidSize ?xm_TooMany_InvalidPlan ?xm_TooMany_Unlaid ?xm_TooMany_InvalidLine ?xm_TooMany_InvalidOperation ?xm_TooMany_InvalidNumber ?xm_TooMany_TooMany ?aC_BondError ?ini_BondError_BondError ?lk_BondError ?cd_BondError ?co_BondError ?cv_BondError ?ce_BondError ?cs_BondError ?isf_BondError ?ini_InvalidSize_BondError ?q_InvalidSize ?ov_InvalidSize ?hd_InvalidSize ?sa_InvalidSize ?su_InvalidSize ?sb_InvalidSize ?mr_InvalidSize ?xbe_InvalidSize ?ty_InvalidSize ?kc_InvalidSize ?ini_InvalidPlan_BondError ?q_InvalidPlan ?ov_InvalidPlan ?hd_InvalidPlan ?sa_InvalidPlan ?su_InvalidPlan ?sb_InvalidPlan ?mr_InvalidPlan ?xbe_InvalidPlan ?ty_InvalidPlan ?kc_InvalidPlan ?ini_Unlaid_Unlaid ?lk_Unlaid ?cd_Unlaid ?co_Unlaid ?cv_Unlaid ?ce_Unlaid ?cs_Unlaid ?isf_Unlaid ?q_Unlaid ?ov_Unlaid ?hd_Unlaid ?sa_Unlaid ?su_Unlaid ?sb_Unlaid ?mr_Unlaid ?xbe_Unlaid ?ty_Unlaid ?kc_Unlaid ?tk_Unlaid ?xga_InvalidNumber ?xgg_InvalidNumber ?xex_InvalidNumber ?xhd_InvalidNumber ?xno_InvalidNumber_value ?xga_Unlaid ?xgg_Unlaid ?xex_Unlaid ?xhd_Unlaid ?xno_Unlaid_value ?xga_TooMany ?xgg_TooMany ?xex_TooMany ?xhd_TooMany ?xno_TooMany_limit ?at__law_met ?lt__law_met ?ct1__law_met ?kt__law_met ?a0 ?l0 ?c0 ?k0 ?a1 ?l1 ?c1 ?k1 ?a2 ?l2 ?c2 ?k2 ?a3 ?l3 ?c3 ?k3 ?a4 ?l4 ?c4 ?k4 ?a5 ?l5 ?c5 ?k5 ?a6 ?l6 ?c6 ?k6 ?a7 ?l7 ?c7 ?k7 ?a8 ?l8 ?c8 ?k8 ?a9 ?l9 ?c9 ?k9 ?a10 ?l10 ?c10 ?k10 ?a11 ?l11 ?c11 ?k11 ?a12 ?l12 ?c12 ?k12 ?a13 ?l13 ?c13 ?k13 ?a14 ?l14 ?c14 ?k14 ?a15 ?l15 ?c15 ?k15 ?a16 ?q16 ?y16 ?l16 ?c16 ?k16 ?a17 ?y17 ?l17 ?c17 ?k17 ?a18 ?l18 ?c18 ?k18 ?a19 ?l19 ?c19 ?k19 ?a20 ?l20 ?c20 ?k20 ?a21 ?l21 ?c21 ?k21 ?a22 ?l22 ?c22 ?k22 ?a23 ?l23 ?c23 ?k23 ?a24 ?l24 ?c24 ?k24 ?a25 ?l25 ?c25 ?k25 ?a26 ?l26 ?c26 ?k26 ?a27 ?l27 ?c27 ?k27 ?a28 ?l28 ?c28 ?k28 ?a29 ?l29 ?c29 ?k29 ?a30 ?l30 ?c30 ?k30 ?a31 ?l31 ?c31 ?k31 ?a32 ?l32 ?c32 ?k32 ?a33 ?l33 ?c33 ?k33 ?a34 ?l34 ?c34 ?k34 ?a35 ?l35 ?c35 ?k35 ?a36 ?l36 ?c36 ?k36 ?a37 ?l37 ?c37 ?k37 ?a38 ?l38 ?c38 ?k38 ?a39 ?l39 ?c39 ?k39 ?a40 ?l40 ?c40 ?k40 ?a41 ?l41 ?c41 ?k41 ?a42 ?l42 ?c42 ?k42 ?a43 ?l43 ?c43 ?k43 ?a44 ?l44 ?c44 ?k44 ?a45 ?l45 ?c45 ?k45 ?a46 ?l46 ?c46 ?k46 ?a47 ?l47 ?c47 ?k47 ?m3_Plan ?v_ACROSS ?v_DOWN ?v_FEW ?v_LEVEL ?v_MAX_BLOCKS ?v_MAX_SIDE ?v_NARROW ?v_PLAN ?v_REASON ?v_SIX ?w_SIX ?v_UPRIGHT ?v_WAYS ?w_WAYS ?v_WEIGHTS ?z_abs ?z_all ?z_bool ?z_enumerate ?z_int ?z_isinstance ?z_len ?z_max ?z_min ?z_range ?z_repr ?z_sorted ?z_str ?z_sum ?z_tuple
    (case aC_Plan => k_is)
    (case m1_Plan => k_is)
    (case m4_Plan => k_is)
    (case c1_Plan => k_is)
    (case c2_Plan => k_is)
    (case c3_Plan => k_is)
    (case c4_Plan => k_is)
    (case r1_Plan => k_is)
    (case r2_Plan => k_is)
    (case i1_Plan => k_is)
    (case i2_Plan => k_is)
    (case i3_Plan => k_is)
    (case i4_Plan => k_is)
    (case i5_Plan => first | decide +kernel | kernel_rfl | rfl)
    (case i6_Plan => first | kernel_rfl | decide +kernel)
    (case i7_Plan => first | k_is | kernel_rfl | decide +kernel)
    (case i8_Plan => first | kernel_rfl | decide +kernel)
    (case n_own_blocks_Plan => k_is)
    (case n_own_known_Plan => k_is)
    (case n_own_size_Plan => k_is)
    (case aC_InvalidSize => k_is)
    (case aC_InvalidPlan => k_is)
    (case aC_Unlaid => k_is)
    (case aC_InvalidLine => k_is)
    (case aC_InvalidOperation => k_is)
    (case aC_InvalidNumber => k_is)
    (case aC_TooMany => k_is)
    (case xany => k_is)
    (case xsup => k_is)
    (case xm_InvalidSize_InvalidSize => first | kernel_rfl | decide +kernel)
    (case xm_InvalidSize_InvalidPlan => first | kernel_rfl | decide +kernel)
    (case xm_InvalidSize_Unlaid => first | kernel_rfl | decide +kernel)
    (case xm_InvalidSize_InvalidLine => first | kernel_rfl | decide +kernel)
    (case xm_InvalidSize_InvalidOperation => first | kernel_rfl | decide +kernel)
    (case xm_InvalidSize_InvalidNumber => first | kernel_rfl | decide +kernel)
    (case xm_InvalidSize_TooMany => first | kernel_rfl | decide +kernel)
    (case xm_InvalidPlan_InvalidSize => first | kernel_rfl | decide +kernel)
    (case xm_InvalidPlan_InvalidPlan => first | kernel_rfl | decide +kernel)
    (case xm_InvalidPlan_Unlaid => first | kernel_rfl | decide +kernel)
    (case xm_InvalidPlan_InvalidLine => first | kernel_rfl | decide +kernel)
    (case xm_InvalidPlan_InvalidOperation => first | kernel_rfl | decide +kernel)
    (case xm_InvalidPlan_InvalidNumber => first | kernel_rfl | decide +kernel)
    (case xm_InvalidPlan_TooMany => first | kernel_rfl | decide +kernel)
    (case xm_Unlaid_InvalidSize => first | kernel_rfl | decide +kernel)
    (case xm_Unlaid_InvalidPlan => first | kernel_rfl | decide +kernel)
    (case xm_Unlaid_Unlaid => first | kernel_rfl | decide +kernel)
    (case xm_Unlaid_InvalidLine => first | kernel_rfl | decide +kernel)
    (case xm_Unlaid_InvalidOperation => first | kernel_rfl | decide +kernel)
    (case xm_Unlaid_InvalidNumber => first | kernel_rfl | decide +kernel)
    (case xm_Unlaid_TooMany => first | kernel_rfl | decide +kernel)
    (case xm_InvalidLine_InvalidSize => first | kernel_rfl | decide +kernel)
    (case xm_InvalidLine_InvalidPlan => first | kernel_rfl | decide +kernel)
    (case xm_InvalidLine_Unlaid => first | kernel_rfl | decide +kernel)
    (case xm_InvalidLine_InvalidLine => first | kernel_rfl | decide +kernel)
    (case xm_InvalidLine_InvalidOperation => first | kernel_rfl | decide +kernel)
    (case xm_InvalidLine_InvalidNumber => first | kernel_rfl | decide +kernel)
    (case xm_InvalidLine_TooMany => first | kernel_rfl | decide +kernel)
    (case xm_InvalidOperation_InvalidSize => first | kernel_rfl | decide +kernel)
    (case xm_InvalidOperation_InvalidPlan => first | kernel_rfl | decide +kernel)
    (case xm_InvalidOperation_Unlaid => first | kernel_rfl | decide +kernel)
    (case xm_InvalidOperation_InvalidLine => first | kernel_rfl | decide +kernel)
    (case xm_InvalidOperation_InvalidOperation => first | kernel_rfl | decide +kernel)
    (case xm_InvalidOperation_InvalidNumber => first | kernel_rfl | decide +kernel)
    (case xm_InvalidOperation_TooMany => first | kernel_rfl | decide +kernel)
    (case xm_InvalidNumber_InvalidSize => first | kernel_rfl | decide +kernel)
    (case xm_InvalidNumber_InvalidPlan => first | kernel_rfl | decide +kernel)
    (case xm_InvalidNumber_Unlaid => first | kernel_rfl | decide +kernel)
    (case xm_InvalidNumber_InvalidLine => first | kernel_rfl | decide +kernel)
    (case xm_InvalidNumber_InvalidOperation => first | kernel_rfl | decide +kernel)
    (case xm_InvalidNumber_InvalidNumber => first | kernel_rfl | decide +kernel)
    (case xm_InvalidNumber_TooMany => first | kernel_rfl | decide +kernel)
    (case xm_TooMany_InvalidSize => first | kernel_rfl | decide +kernel)
    (case xm_TooMany_InvalidPlan => first | kernel_rfl | decide +kernel)
    (case xm_TooMany_Unlaid => first | kernel_rfl | decide +kernel)
    (case xm_TooMany_InvalidLine => first | kernel_rfl | decide +kernel)
    (case xm_TooMany_InvalidOperation => first | kernel_rfl | decide +kernel)
    (case xm_TooMany_InvalidNumber => first | kernel_rfl | decide +kernel)
    (case xm_TooMany_TooMany => first | kernel_rfl | decide +kernel)
    (case aC_BondError => k_is)
    (case ini_BondError_BondError => k_is)
    (case lk_BondError => k_is)
    (case cd_BondError => k_is)
    (case co_BondError => k_is)
    (case cv_BondError => rfl)
    (case ce_BondError => k_is)
    (case cs_BondError => k_is)
    (case isf_BondError => k_is)
    (case ini_InvalidSize_BondError => k_is)
    (case q_InvalidSize => first | k_is | kernel_rfl)
    (case ov_InvalidSize => first | k_is | kernel_rfl)
    (case hd_InvalidSize => k_is)
    (case sa_InvalidSize => k_is)
    (case su_InvalidSize => first | ks_is | kernel_rfl)
    (case sb_InvalidSize => k_is)
    (case mr_InvalidSize => k_is)
    (case xbe_InvalidSize => k_is)
    (case ty_InvalidSize => k_is)
    (case kc_InvalidSize => k_is)
    (case ini_InvalidPlan_BondError => k_is)
    (case q_InvalidPlan => first | k_is | kernel_rfl)
    (case ov_InvalidPlan => first | k_is | kernel_rfl)
    (case hd_InvalidPlan => k_is)
    (case sa_InvalidPlan => k_is)
    (case su_InvalidPlan => first | ks_is | kernel_rfl)
    (case sb_InvalidPlan => k_is)
    (case mr_InvalidPlan => k_is)
    (case xbe_InvalidPlan => k_is)
    (case ty_InvalidPlan => k_is)
    (case kc_InvalidPlan => k_is)
    (case ini_Unlaid_Unlaid => k_is)
    (case lk_Unlaid => k_is)
    (case cd_Unlaid => k_is)
    (case co_Unlaid => k_is)
    (case cv_Unlaid => rfl)
    (case ce_Unlaid => k_is)
    (case cs_Unlaid => k_is)
    (case isf_Unlaid => k_is)
    (case q_Unlaid => first | k_is | kernel_rfl)
    (case ov_Unlaid => first | k_is | kernel_rfl)
    (case hd_Unlaid => k_is)
    (case sa_Unlaid => k_is)
    (case su_Unlaid => first | ks_is | kernel_rfl)
    (case sb_Unlaid => k_is)
    (case mr_Unlaid => k_is)
    (case xbe_Unlaid => k_is)
    (case ty_Unlaid => k_is)
    (case kc_Unlaid => k_is)
    (case tk_Unlaid => first | k_is | kernel_rfl)
    (case xga_InvalidNumber => k_is)
    (case xgg_InvalidNumber => k_is)
    (case xex_InvalidNumber => k_is)
    (case xhd_InvalidNumber => k_is)
    (case xno_InvalidNumber_value => k_is)
    (case xga_Unlaid => k_is)
    (case xgg_Unlaid => k_is)
    (case xex_Unlaid => k_is)
    (case xhd_Unlaid => k_is)
    (case xno_Unlaid_value => k_is)
    (case xga_TooMany => k_is)
    (case xgg_TooMany => k_is)
    (case xex_TooMany => k_is)
    (case xhd_TooMany => k_is)
    (case xno_TooMany_limit => k_is)
    (case at__law_met => k_is)
    (case lt__law_met => k_is)
    (case ct1__law_met => k_is)
    (case kt__law_met => k_is)
    (case a0 => k_is)
    (case l0 => k_is)
    (case c0 => k_is)
    (case k0 => k_is)
    (case a1 => k_is)
    (case l1 => k_is)
    (case c1 => k_is)
    (case k1 => k_is)
    (case a2 => k_is)
    (case l2 => k_is)
    (case c2 => k_is)
    (case k2 => k_is)
    (case a3 => k_is)
    (case l3 => k_is)
    (case c3 => k_is)
    (case k3 => k_is)
    (case a4 => k_is)
    (case l4 => k_is)
    (case c4 => k_is)
    (case k4 => k_is)
    (case a5 => k_is)
    (case l5 => k_is)
    (case c5 => k_is)
    (case k5 => k_is)
    (case a6 => k_is)
    (case l6 => k_is)
    (case c6 => k_is)
    (case k6 => k_is)
    (case a7 => k_is)
    (case l7 => k_is)
    (case c7 => k_is)
    (case k7 => k_is)
    (case a8 => k_is)
    (case l8 => k_is)
    (case c8 => k_is)
    (case k8 => k_is)
    (case a9 => k_is)
    (case l9 => k_is)
    (case c9 => k_is)
    (case k9 => k_is)
    (case a10 => k_is)
    (case l10 => k_is)
    (case c10 => k_is)
    (case k10 => k_is)
    (case a11 => k_is)
    (case l11 => k_is)
    (case c11 => k_is)
    (case k11 => k_is)
    (case a12 => k_is)
    (case l12 => k_is)
    (case c12 => k_is)
    (case k12 => k_is)
    (case a13 => k_is)
    (case l13 => k_is)
    (case c13 => k_is)
    (case k13 => k_is)
    (case a14 => k_is)
    (case l14 => k_is)
    (case c14 => k_is)
    (case k14 => k_is)
    (case a15 => k_is)
    (case l15 => k_is)
    (case c15 => k_is)
    (case k15 => k_is)
    (case a16 => k_is)
    (case q16 => k_is)
    (case y16 => k_is)
    (case l16 => k_is)
    (case c16 => k_is)
    (case k16 => k_is)
    (case a17 => k_is)
    (case y17 => k_is)
    (case l17 => k_is)
    (case c17 => k_is)
    (case k17 => k_is)
    (case a18 => k_is)
    (case l18 => k_is)
    (case c18 => k_is)
    (case k18 => k_is)
    (case a19 => k_is)
    (case l19 => k_is)
    (case c19 => k_is)
    (case k19 => k_is)
    (case a20 => k_is)
    (case l20 => k_is)
    (case c20 => k_is)
    (case k20 => k_is)
    (case a21 => k_is)
    (case l21 => k_is)
    (case c21 => k_is)
    (case k21 => k_is)
    (case a22 => k_is)
    (case l22 => k_is)
    (case c22 => k_is)
    (case k22 => k_is)
    (case a23 => k_is)
    (case l23 => k_is)
    (case c23 => k_is)
    (case k23 => k_is)
    (case a24 => k_is)
    (case l24 => k_is)
    (case c24 => k_is)
    (case k24 => k_is)
    (case a25 => k_is)
    (case l25 => k_is)
    (case c25 => k_is)
    (case k25 => k_is)
    (case a26 => k_is)
    (case l26 => k_is)
    (case c26 => k_is)
    (case k26 => k_is)
    (case a27 => k_is)
    (case l27 => k_is)
    (case c27 => k_is)
    (case k27 => k_is)
    (case a28 => k_is)
    (case l28 => k_is)
    (case c28 => k_is)
    (case k28 => k_is)
    (case a29 => k_is)
    (case l29 => k_is)
    (case c29 => k_is)
    (case k29 => k_is)
    (case a30 => k_is)
    (case l30 => k_is)
    (case c30 => k_is)
    (case k30 => k_is)
    (case a31 => k_is)
    (case l31 => k_is)
    (case c31 => k_is)
    (case k31 => k_is)
    (case a32 => k_is)
    (case l32 => k_is)
    (case c32 => k_is)
    (case k32 => k_is)
    (case a33 => k_is)
    (case l33 => k_is)
    (case c33 => k_is)
    (case k33 => k_is)
    (case a34 => k_is)
    (case l34 => k_is)
    (case c34 => k_is)
    (case k34 => k_is)
    (case a35 => k_is)
    (case l35 => k_is)
    (case c35 => k_is)
    (case k35 => k_is)
    (case a36 => k_is)
    (case l36 => k_is)
    (case c36 => k_is)
    (case k36 => k_is)
    (case a37 => k_is)
    (case l37 => k_is)
    (case c37 => k_is)
    (case k37 => k_is)
    (case a38 => k_is)
    (case l38 => k_is)
    (case c38 => k_is)
    (case k38 => k_is)
    (case a39 => k_is)
    (case l39 => k_is)
    (case c39 => k_is)
    (case k39 => k_is)
    (case a40 => k_is)
    (case l40 => k_is)
    (case c40 => k_is)
    (case k40 => k_is)
    (case a41 => k_is)
    (case l41 => k_is)
    (case c41 => k_is)
    (case k41 => k_is)
    (case a42 => k_is)
    (case l42 => k_is)
    (case c42 => k_is)
    (case k42 => k_is)
    (case a43 => k_is)
    (case l43 => k_is)
    (case c43 => k_is)
    (case k43 => k_is)
    (case a44 => k_is)
    (case l44 => k_is)
    (case c44 => k_is)
    (case k44 => k_is)
    (case a45 => k_is)
    (case l45 => k_is)
    (case c45 => k_is)
    (case k45 => k_is)
    (case a46 => k_is)
    (case l46 => k_is)
    (case c46 => k_is)
    (case k46 => k_is)
    (case a47 => k_is)
    (case l47 => k_is)
    (case c47 => k_is)
    (case k47 => k_is)
    (case m3_Plan => k_is)
    (case v_ACROSS => k_is)
    (case v_DOWN => k_is)
    (case v_FEW => k_is)
    (case v_LEVEL => k_is)
    (case v_MAX_BLOCKS => k_is)
    (case v_MAX_SIDE => k_is)
    (case v_NARROW => k_is)
    (case v_PLAN => k_is)
    (case v_REASON => k_is)
    (case v_SIX => k_is)
    (case w_SIX => k_is)
    (case v_UPRIGHT => k_is)
    (case v_WAYS => k_is)
    (case w_WAYS => k_is)
    (case v_WEIGHTS => k_is)
    (case z_abs => k_is)
    (case z_all => k_is)
    (case z_bool => k_is)
    (case z_enumerate => k_is)
    (case z_int => k_is)
    (case z_isinstance => k_is)
    (case z_len => k_is)
    (case z_max => k_is)
    (case z_min => k_is)
    (case z_range => k_is)
    (case z_repr => k_is)
    (case z_sorted => k_is)
    (case z_str => k_is)
    (case z_sum => k_is)
    (case z_tuple => k_is)
end
